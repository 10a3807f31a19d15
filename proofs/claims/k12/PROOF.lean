import PyProof.Rows.All
import Wide.All
import OpenK.AllK
import Wide.FinOn
import HandS.ForMost
import KE.SortKeyHeap
import PyProof.ReprRoads
import HandS.TupAny
import HandS.TupMul
import HandS.Deep
import HandS.Conv
import HandS.IsInst
import HandS.Zip
import HandS.Style
import PyProof.StrBlock2
import HandS.Strs
import PyProof.ListMulAny
import HandS.More
import HandS.Iter
import HandS.Zip0
import HandS.Ends
import PyProof.TupleOfSeq
import HandS.SortKw
import HandS.ExcValue
import KE.KRevSl
import KE.KDictCopyH
import PySem.Challenge.RW_pivotfold_k12_unfolded
set_option Elab.async false
set_option linter.all false
set_option maxRecDepth 100000
set_option maxHeartbeats 4000000
namespace Pf
open PySem

/-- data: a tuple, a list that nobody changes (lst), a dict that nobody changes, a place in the small heap (ref), an error -/
inductive D where
  | non | bl (b : Bool) | int (i : Int) | str (x : Str)
  | tup (xs : List D) | lst (xs : List D) | dic (ks vs : List D)
  | scr (xs : List D) | ref (n : Nat) | exc (c f : Str) (d : D)
  deriving Inhabited
/-- what stands in the small heap -/
inductive Ob where
  | lst (xs : List D) | dic (kvs : List (D × D)) | ins (c : Str) (fs : List (Str × D))
abbrev DH := List Ob
abbrev DS := List (Option D)
abbrev DQ := D → DH → Prop

namespace D
mutual
def eqv : D → D → Bool
  | .non, .non => true
  | .bl a, .bl b => a == b
  | .bl a, .int j => (if a then 1 else 0) == j
  | .int i, .bl b => i == (if b then 1 else 0)
  | .int i, .int j => i == j
  | .str x, .str y => x == y
  | .lst xs, .lst ys => eqvs xs ys
  | .tup xs, .tup ys => eqvs xs ys
  | _, _ => false
def eqvs : List D → List D → Bool
  | [], [] => true
  | x :: xs, y :: ys => eqv x y && eqvs xs ys
  | _, _ => false
end
mutual
/-- no place, no dict, no error within -/
def pure : D → Bool
  | .non => true | .bl _ => true | .int _ => true | .str x => x.cps.all (· < 0x110000)
  | .tup xs => pures xs | .lst xs => pures xs
  | _ => false
def pures : List D → Bool
  | [] => true
  | x :: xs => pure x && pures xs
end
mutual
def depth : D → Nat
  | .tup xs => depths xs + 1 | .lst xs => depths xs + 1
  | _ => 0
def depths : List D → Nat
  | [] => 0
  | x :: xs => max (depth x) (depths xs)
end
end D

mutual
/-- data as the library's data -/
def py : D → PyData
  | .non => .none | .bl b => .bool b | .int i => .int i | .str x => .str x
  | .tup xs => .tuple (pys xs) | .lst xs => .list (pys xs)
  | _ => .none
def pys : List D → List PyData
  | [] => []
  | x :: xs => py x :: pys xs
end

def lstOf (h : DH) : D → Option (List D)
  | .lst xs => some xs
  | .ref n => match h[n]? with | some (.lst xs) => some xs | _ => none
  | _ => none
def seqOf (h : DH) : D → Option (List D)
  | .tup xs => some xs
  | .lst xs => some xs
  | .scr xs => some xs
  | .ref n => match h[n]? with | some (.lst xs) => some xs | _ => none
  | _ => none
/-- a list at a place, as data -/
def res (h : DH) : D → D
  | .ref n => match h[n]? with | some (.lst xs) => .lst xs | _ => .ref n
  | d => d

inductive BinO where | add | sub | mul | fdiv | mod | pow
inductive CmpO where | eq | ne | lt | le | gt | ge | isin | notin | is | isnot

def binF (h : DH) : BinO → D → D → Option D
  | .add, .int i, .int j => some (.int (i + j))
  | .add, .str x, .str y => if x.length + y.length ≤ 16777216 then some (.str (x ++ y)) else none
  | .add, .tup xs, .tup ys => if xs.length + ys.length ≤ 16777216 then some (.tup (xs ++ ys)) else none
  | .add, x, y => match lstOf h x, lstOf h y with
    | some xs, some ys => if xs.length + ys.length ≤ 16777216 then some (.lst (xs ++ ys)) else none
    | _, _ => none
  | .sub, .int i, .int j => some (.int (i - j))
  | .mul, .str x, .int n => if 0 ≤ n ∧ n ≤ 1000 ∧ x.length ≤ 1000 then some (.str (Txt.mul x n)) else none
  | .mul, .int i, .int j => if (-(2 ^ 64) < i ∧ i < 2 ^ 64) ∨ (-(2 ^ 64) < j ∧ j < 2 ^ 64) then some (.int (i * j)) else none
  | .fdiv, .int i, .int j => if 0 < j ∧ j < 1073741824 then some (.int (i / j)) else none
  | .mod, .int i, .int j => if 0 < j then some (.int (i % j)) else none
  | .pow, .int i, .int j => if 0 ≤ j ∧ j ≤ 1000000 ∧ i.natAbs < 2 ^ 64 then some (.int (i ^ j.toNat)) else none
  | _, _, _ => none

/-- x < y, of numbers, texts, tuples and lists of such, each place of one kind -/
def ltF : D → D → Option Bool
  | .int i, .int j => some (decide (i < j))
  | .str x, .str y => some (decide (x.cps.toList < y.cps.toList))
  | .tup xs, .tup ys => if (D.pures xs && D.pures ys && PySem.W.alike (.tuple (pys xs)) (.tuple (pys ys)) && decide (D.depths xs ≤ 60)) = true then some (PySem.W.dataLt (.tuple (pys xs)) (.tuple (pys ys))) else none
  | _, _ => none

/-- == of data -/
def eqF0 (h : DH) (x y : D) : Option Bool :=
  let a := res h x
  let b := res h y
  if (a.pure && b.pure && (decide (a.depth ≤ 64) || decide (b.depth ≤ 64))) = true then some (D.eqv a b) else none
def eqF (h : DH) (x y : D) : Option Bool :=
  match x, y with
  | .str a, .str b => some (a == b)
  | _, _ => eqF0 h x y
theorem eqF_or {h : DH} {x y : D} {r : Bool} (e : eqF h x y = some r) : (∃ a b, x = .str a ∧ y = .str b ∧ r = (a == b)) ∨ eqF0 h x y = some r := by
  unfold eqF at e
  split at e
  · exact .inl ⟨_, _, rfl, rfl, (Option.some.inj e).symm⟩
  · exact .inr e
def isTup : D → Bool
  | .tup _ => true
  | _ => false
def isNon : D → Bool
  | .non => true
  | _ => false
/-- x is y, y None or a truth value -/
def isF : D → D → Option Bool
  | .bl a, .bl b => some (decide (a = b))
  | x, .non => some (isNon x)
  | _, _ => none
def inF (h : DH) (x y : D) : Option Bool :=
  match y with
  | .str t => match x with
    | .str s => match s.cps.toList with | [c] => some (decide (c ∈ t.cps.toList)) | _ => none
    | _ => none
  | _ => match seqOf h y with
    | some ys => if (x.pure && D.pures ys && decide (x.depth ≤ 60)) = true then some (ys.any fun z => D.eqv z x) else none
    | none => none
def leF : D → D → Option Bool
  | .int i, .int j => some (decide (i ≤ j))
  | .str x, .str y => some (!decide (y.cps.toList < x.cps.toList))
  | _, _ => none
def gtF : D → D → Option Bool
  | .int i, .int j => some (decide (j < i))
  | _, _ => none
def geF : D → D → Option Bool
  | .int i, .int j => some (decide (j ≤ i))
  | _, _ => none
def cmpF (h : DH) (o : CmpO) (x y : D) : Option Bool :=
  match o with
  | .eq => eqF h x y
  | .ne => (eqF h x y).map (!·)
  | .lt => ltF x y
  | .gt => gtF x y
  | .le => leF x y
  | .ge => geF x y
  | .isin => inF h x y
  | .notin => (inF h x y).map (!·)
  | .is => isF x y
  | .isnot => (isF x y).map (!·)

/-- the place of an index in a sequence of n -/
def ixO (n : Nat) (i : Int) : Option Nat := if 0 ≤ i then (if i < n then some i.toNat else none) else if -(n : Int) ≤ i then some (i + n).toNat else none
def atO {α : Type} (xs : List α) (i : Int) : Option α := (ixO xs.length i).bind fun j => xs[j]?
def cutI (n d : Nat) : Option Int → Nat
  | none => d
  | some v => if v < 0 then (v + (n : Int)).toNat else min v.toNat n
def cutL {α : Type} (xs : List α) (lo hi : Option Int) : List α := (xs.drop (cutI xs.length 0 lo)).take (cutI xs.length xs.length hi - cutI xs.length 0 lo)
def oneS (c : Nat) : Str := ⟨#[c]⟩
def idxF (h : DH) (x i : D) : Option D :=
  match i with
  | .int i => match x with
    | .str s => if s.length ≤ 16777216 then (atO s.cps.toList i).map fun c => .str (oneS c) else none
    | x => (seqOf h x).bind fun xs => atO xs i
  | _ => none

inductive Ty where | int | bool | str | list | tuple | none
  deriving DecidableEq
/-- built-in functions and types, called -/
inductive BF where | len | abs | int | str | ord | list | tuple | all | any | min | max | sum | lenset | list0
  deriving DecidableEq
/-- methods of built-in types -/
inductive MF where | append | pop | index | join | insert | extend | count | reverse | tindex | tcount
  deriving DecidableEq

mutual
inductive E where
  | var (i : Nat) | glob (x : String)
  | non | bl (b : Bool) | int (i : Int) | str (x : Str)
  | tup (es : Es) | lst (bx : Bool) (es : Es)
  | bin (o : BinO) (a b : E)
  | cat (bx : Bool) (a b : E)
  | neg (a : E)
  | cmp (o : CmpO) (a b : E)
  | chain (o p : CmpO) (a b c : E)
  | and (a b : E) | or (a b : E) | not (a : E)
  | ite (c a b : E)
  | bf (f : BF) (bx : Bool) (es : Es)
  | isi (a : E) (ts : List Ty)
  | call (f : String) (es : Es)
  | meth (m : MF) (o : E) (es : Es)
  | idx (a i : E)
  | sli (bx : Bool) (a lo hi : E)
  | rev (bx : Bool) (a : E)
  | comp (bx : Bool) (own : List Nat) (tg : T) (it : Wk) (cs : Es) (elt : E)
  | srt (bx : Bool) (a : E) (key : String)
  | rep (bx : Bool) (a i : E)
  | lens (a : E)
inductive Es where
  | nil | cons (e : E) (es : Es)
/-- what a loop or a comprehension walks -/
inductive Wk where
  | seq (e : E)
  | rng1 (hi : E) | rng (lo hi : E)
  | enum (e : E)
  | zip (a b : E)
/-- targets -/
inductive T where
  | name (i : Nat)
  | tup (ts : Ts)
inductive Ts where
  | nil | cons (t : T) (ts : Ts)
end
mutual
inductive S where
  | expr (e : E)
  | ret (e : E)
  | asg (t : T) (e : E)
  | seti (a i e : E)
  | aug (i : Nat) (e : E)
  | ite (c : E) (a b : Ss)
  | whl (c : E) (b : Ss)
  | for_ (t : T) (it : Wk) (b : Ss)
  | pass | brk | cont
  | raise (c : String) (es : Es)
inductive Ss where
  | nil | cons (s : S) (ss : Ss)
end

/-- a def's promise: arguments, heap, what is wanted of the value, of an error -/
abbrev Spc := List D → DH → DQ → DQ → Prop
/-- the promises of the defs, the values of the module's names -/
structure Fs where
  fn : String → Spc
  gl : String → D

def mkL (bx : Bool) (xs : List D) (h : DH) (Q : DQ) : Prop := if bx = true then Q (.ref h.length) (h ++ [.lst xs]) else Q (.lst xs) h

/-- the built-in type of data -/
def tyOf (h : DH) : D → Option Ty
  | .int _ => some .int | .bl _ => some .bool | .str _ => some .str | .tup _ => some .tuple | .lst _ => some .list | .non => some .none
  | .ref n => match h[n]? with | some (.lst _) => some .list | _ => none
  | _ => none
def isTy (a b : Ty) : Bool := decide (a = b) || (decide (a = .bool) && decide (b = .int))

/-- the truth values of a list -/
def blsOf : List D → Option (List Bool)
  | [] => some []
  | .bl b :: r => (blsOf r).map (b :: ·)
  | _ :: _ => none
def intsOf : List D → Option (List Int)
  | [] => some []
  | .int b :: r => (intsOf r).map (b :: ·)
  | _ :: _ => none
def strsOf : List D → Option (List Str)
  | [] => some []
  | .str b :: r => (strsOf r).map (b :: ·)
  | _ :: _ => none
/-- unlike ones, as first met -/
def onceL : List D → List D → List D
  | acc, [] => acc
  | acc, x :: r => if acc.any (fun z => D.eqv z x) then onceL acc r else onceL (acc ++ [x]) r
def flat? : D → Bool
  | .non => true | .bl _ => true | .int _ => true | .str _ => true | _ => false
mutual
/-- no truth value within -/
def D.nobool : D → Bool
  | .bl _ => false
  | .tup xs => D.nobools xs | .lst xs => D.nobools xs
  | _ => true
def D.nobools : List D → Bool
  | [] => true
  | x :: xs => D.nobool x && D.nobools xs
end
mutual
/-- what may be a key: no list within -/
def D.key : D → Bool
  | .non => true | .int _ => true | .str _ => true | .bl _ => true
  | .tup xs => D.keys xs
  | _ => false
def D.keys : List D → Bool
  | [] => true
  | x :: xs => D.key x && D.keys xs
end

def leafD : D → Bool
  | .non => true | .bl _ => true | .int _ => true | .str _ => true | _ => false
/-- what len(set(..)) may be asked of -/
def lsOk (ys : List D) : Bool := ys.all leafD && decide (ys.length < 4000)
def lensW (x : D) (h : DH) (Q : DQ) : Prop := ∃ ys, seqOf h x = some ys ∧ lsOk ys = true ∧ Q (.int (onceL [] ys).length) h
/-- so many times one behind the other -/
def repD (xs : List D) (k : Int) : List D := (List.replicate k.toNat xs).flatten
def repW (bx : Bool) (x y : D) (h : DH) (Q : DQ) : Prop := ∃ k, y = .int k ∧ -1000 ≤ k ∧ k ≤ 1000 ∧
  match x with
  | .tup xs => xs ≠ [] ∧ 2 ≤ k ∧ xs.length ≤ 1000 ∧ Q (.tup (repD xs k)) h
  | x => ∃ xs, lstOf h x = some xs ∧ xs.length ≤ 1000 ∧ mkL bx (repD xs k) h Q

def lenF (h : DH) (x : D) : Option Nat :=
  match x with
  | .str s => if s.length ≤ 16777216 then some s.length else none
  | x => (seqOf h x).map List.length

/-- str(x) -/
def strF (h : DH) (x : D) : Option Str :=
  match x with
  | .str s => some s
  | x => if ((res h x).pure && (py (res h x)).showable && decide ((res h x).depth ≤ 60) && decide ((py (res h x)).shown.length ≤ 16777216)) = true then some (py (res h x)).shown else none

def bfW (f : BF) (bx : Bool) (xs : List D) (h : DH) (Q : DQ) : Prop :=
  match f, xs with
  | .len, [x] => ∃ n, lenF h x = some n ∧ Q (.int n) h
  | .abs, [x] => ∃ i, x = .int i ∧ Q (.int (if i < 0 then -i else i)) h
  | .int, [x] => (∃ i, x = .int i ∧ Q (.int i) h) ∨ ∃ b, x = .bl b ∧ Q (.int (if b then 1 else 0)) h
  | .ord, [x] => ∃ s, x = .str s ∧ s.length = 1 ∧ Q (.int (s.cps.getD 0 0 : Nat)) h
  | .str, [x] => ∃ s, strF h x = some s ∧ Q (.str s) h
  | .list, [x] => ∃ ys, seqOf h x = some ys ∧ mkL bx ys h Q
  | .tuple, [x] => ∃ ys, seqOf h x = some ys ∧ Q (.tup ys) h
  | .all, [x] => ∃ ys bs, lstOf h x = some ys ∧ blsOf ys = some bs ∧ Q (.bl (bs.all id)) h
  | .any, [x] => ∃ ys bs, lstOf h x = some ys ∧ blsOf ys = some bs ∧ Q (.bl (bs.any id)) h
  | .min, [x, y] => ∃ i j, x = .int i ∧ y = .int j ∧ Q (.int (if j < i then j else i)) h
  | .max, [x, y] => ∃ i j, x = .int i ∧ y = .int j ∧ Q (.int (if j > i then j else i)) h
  | .sum, [x] => ∃ ys is, lstOf h x = some ys ∧ intsOf ys = some is ∧ Q (.int is.sum) h
  | _, _ => False

def methTy (m : MF) (h : DH) (x : D) : Bool :=
  match m with
  | .join => (match x with | .str _ => true | _ => false)
  | .tindex => false
  | .tcount => false
  | _ => (lstOf h x).isSome
def methW (m : MF) (o : D) (xs : List D) (h : DH) (Q : DQ) : Prop :=
  match m, xs with
  | .append, [x] => ∃ n ys, o = .ref n ∧ h[n]? = some (.lst ys) ∧ ys.length < 16777216 ∧ Q .non (h.set n (.lst (ys ++ [x])))
  | .pop, [x] => ∃ n ys i j y, o = .ref n ∧ h[n]? = some (.lst ys) ∧ x = .int i ∧ ixO ys.length i = some j ∧ ys[j]? = some y ∧ Q y (h.set n (.lst (ys.eraseIdx j)))
  | .index, [x] => ∃ ys j, lstOf h o = some ys ∧ (x.pure && D.pures ys && decide (x.depth ≤ 60) && decide (D.depths ys ≤ 60)) = true ∧ ys.findIdx? (fun z => D.eqv z x) = some j ∧ Q (.int j) h
  | .extend, [x] => ∃ n ys zs, o = .ref n ∧ h[n]? = some (.lst ys) ∧ lstOf h x = some zs ∧ ys.length + zs.length ≤ 16777216 ∧ Q .non (h.set n (.lst (ys ++ zs)))
  | .insert, [i, x] => ∃ n ys j, o = .ref n ∧ h[n]? = some (.lst ys) ∧ i = .int j ∧ 0 ≤ j ∧ j < 4611686018427387904 ∧ ys.length < 16777216 ∧ Q .non (h.set n (.lst (ys.take j.toNat ++ [x] ++ ys.drop j.toNat)))
  | .count, [x] => ∃ ys, lstOf h o = some ys ∧ (x.pure && D.pures ys && decide (x.depth ≤ 60)) = true ∧ Q (.int (ys.countP fun z => D.eqv z x)) h
  | .tcount, [x] => ∃ ys, o = .tup ys ∧ (x.pure && D.pures ys && decide (x.depth ≤ 60)) = true ∧ Q (.int (ys.countP fun z => D.eqv z x)) h
  | .tindex, [x] => ∃ ys j, o = .tup ys ∧ (x.pure && D.pures ys && decide (x.depth ≤ 60)) = true ∧ ys.findIdx? (fun z => D.eqv z x) = some j ∧ Q (.int j) h
  | .join, [x] => ∃ s ys ss, o = .str s ∧ seqOf h x = some ys ∧ strsOf ys = some ss ∧ (ss.map (·.length)).sum + ss.length * s.length ≤ 16777216 ∧ Q (.str (Txt.join s ss)) h
  | _, _ => False

def Ts.len : Ts → Nat
  | .nil => 0
  | .cons _ ts => ts.len + 1
mutual
/-- the slots that a target stores -/
def T.slots : T → List Nat
  | .name i => [i]
  | .tup ts => ts.slots
def Ts.slots : Ts → List Nat
  | .nil => []
  | .cons t ts => t.slots ++ ts.slots
end
mutual
def bindT : T → D → DS → DH → (DS → DH → Prop) → Prop
  | .name i, d, σ, h, Q => Q (σ.set i (some d)) h
  | .tup ts, d, σ, h, Q => ∃ xs, d = .tup xs ∧ xs.length = ts.len ∧ bindTs ts xs σ h Q
def bindTs : Ts → List D → DS → DH → (DS → DH → Prop) → Prop
  | .nil, xs, σ, h, Q => xs = [] ∧ Q σ h
  | .cons t ts, xs, σ, h, Q => ∃ x r, xs = x :: r ∧ bindT t x σ h (fun σ' h' => bindTs ts r σ' h' Q)
end

def wipeD (σ : DS) : List Nat → DS
  | [] => σ
  | v :: vs => (wipeD σ vs).set v none

/-- a comprehension's turns; st: the walked thing stands -/
def compL (f : D → DH → (Option D → DH → Prop) → Prop) (st : DH → Prop) : List D → List D → DH → (List D → DH → Prop) → Prop
  | [], acc, h, Q => st h ∧ Q acc h
  | x :: r, acc, h, Q => st h ∧ f x h fun o h' => match o with
    | some y => compL f st r (acc ++ [y]) h' Q
    | none => compL f st r acc h' Q
def rngL (lo : Int) (n : Nat) : List D := (List.range n).map fun k : Nat => .int (lo + (k : Int))
def enumL : Nat → List D → List D
  | _, [] => []
  | i, x :: r => .tup [.int i, x] :: enumL (i + 1) r
def zipL : List D → List D → List D
  | x :: xs, y :: ys => .tup [x, y] :: zipL xs ys
  | _, _ => []
def loHi : D → Option (Option Int)
  | .non => some none
  | .int i => some (some i)
  | _ => none
def sliF (h : DH) (bx : Bool) (x : D) (l u : Option Int) (Q : DQ) : Prop :=
  match x with
  | .str s => s.length ≤ 16777216 ∧ Q (.str ⟨(cutL s.cps.toList l u).toArray⟩) h
  | .tup xs => Q (.tup (cutL xs l u)) h
  | x => ∃ xs, lstOf h x = some xs ∧ mkL bx (cutL xs l u) h Q
def isNonE : E → Bool
  | .non => true
  | _ => false
/-- a bound of a slice, or none -/
def wpO (b : Bool) (t : DH → DQ → Prop) (h : DH) (k : Option Int → DH → Prop) : Prop := if b = true then k none h else t h fun x h1 => ∃ i, x = .int i ∧ k (some i) h1
def revF (h : DH) (bx : Bool) (x : D) (Q : DQ) : Prop :=
  match x with
  | .tup xs => Q (.tup xs.reverse) h
  | x => ∃ xs, lstOf h x = some xs ∧ mkL bx xs.reverse h Q

/-- sorted by keys, like ones as they were -/
def sortK (xs : List D) (kf : D → D) : List D := xs.mergeSort (PySem.W.dataLe false fun x => py (kf x))
def tup1 : D → Bool
  | .tup (_ :: _) => true
  | _ => false
def flat1 : D → Bool
  | .tup _ => false | .non => false | _ => true
/-- what may be sorted by kf, that sp tells -/
def srtOk (sp : List D → DH → DQ → DQ → Prop) (xs : List D) (kf : D → D) : Prop :=
  D.keys xs = true ∧ (∀ y ∈ xs, sp [y] [] (fun d _ => d = kf y) (fun _ _ => False)) ∧ (∀ y ∈ xs, (kf y).key = true ∧ (kf y).depth ≤ 60) ∧
  (∀ y ∈ xs, ∀ z ∈ xs, PySem.W.alike (py (kf y)) (py (kf z)) = true) ∧ ((∀ y ∈ xs, tup1 (kf y) = true) ∨ ∀ y ∈ xs, flat1 (kf y) = true)

section
variable (Φ : Fs) (xq : DQ)
mutual
def wpE : E → DS → DH → DQ → Prop
  | .var i, σ, h, Q => ∃ d, σ[i]? = some (some d) ∧ Q d h
  | .glob x, _, h, Q => Q (Φ.gl x) h
  | .non, _, h, Q => Q .non h
  | .bl b, _, h, Q => Q (.bl b) h
  | .int i, _, h, Q => Q (.int i) h
  | .str x, _, h, Q => Q (.str x) h
  | .tup es, σ, h, Q => wpEs es σ h fun ds h' => ds.length ≤ 16777216 ∧ Q (.tup ds) h'
  | .lst bx es, σ, h, Q => wpEs es σ h fun ds h' => ds.length ≤ 16777216 ∧ mkL bx ds h' Q
  | .bin o a b, σ, h, Q => wpE a σ h fun x h1 => wpE b σ h1 fun y h2 => ∃ r, binF h2 o x y = some r ∧ Q r h2
  | .cat bx a b, σ, h, Q => wpE a σ h fun x h1 => wpE b σ h1 fun y h2 => ∃ xs, binF h2 .add x y = some (.lst xs) ∧ mkL bx xs h2 Q
  | .neg a, σ, h, Q => wpE a σ h fun x h1 => ∃ i, x = .int i ∧ Q (.int (-i)) h1
  | .cmp o a b, σ, h, Q => wpE a σ h fun x h1 => wpE b σ h1 fun y h2 => ∃ r, cmpF h2 o x y = some r ∧ Q (.bl r) h2
  | .chain o p a b c, σ, h, Q => wpE a σ h fun x h1 => wpE b σ h1 fun y h2 => ∃ r, cmpF h2 o x y = some r ∧
      if r = true then wpE c σ h2 fun z h3 => ∃ r', cmpF h3 p y z = some r' ∧ Q (.bl r') h3 else Q (.bl false) h2
  | .and a b, σ, h, Q => wpE a σ h fun x h1 => ∃ c, x = .bl c ∧ if c = true then wpE b σ h1 (fun y h2 => ∃ k, y = .bl k ∧ Q (.bl k) h2) else Q (.bl false) h1
  | .or a b, σ, h, Q => wpE a σ h fun x h1 => ∃ c, x = .bl c ∧ if c = true then Q (.bl true) h1 else wpE b σ h1 (fun y h2 => ∃ k, y = .bl k ∧ Q (.bl k) h2)
  | .not a, σ, h, Q => wpE a σ h fun x h1 => ∃ c, x = .bl c ∧ Q (.bl (!c)) h1
  | .ite c a b, σ, h, Q => wpE c σ h fun x h1 => ∃ k, x = .bl k ∧ if k = true then wpE a σ h1 Q else wpE b σ h1 Q
  | .bf f bx es, σ, h, Q => wpEs es σ h fun ds h1 => bfW f bx ds h1 Q
  | .isi a ts, σ, h, Q => wpE a σ h fun x h1 => ∃ t, tyOf h1 x = some t ∧ Q (.bl (ts.any (isTy t))) h1
  | .call f es, σ, h, Q => wpEs es σ h fun ds h1 => Φ.fn f ds h1 Q xq
  | .meth m o es, σ, h, Q => wpE o σ h fun x h1 => methTy m h1 x = true ∧ wpEs es σ h1 fun ds h2 => methW m x ds h2 Q
  | .idx a i, σ, h, Q => wpE a σ h fun x h1 => wpE i σ h1 fun y h2 => ∃ r, idxF h2 x y = some r ∧ Q r h2
  | .sli bx a lo hi, σ, h, Q => wpE a σ h fun x h1 => wpO (isNonE lo) (fun h Q => wpE lo σ h Q) h1 fun l h2 => wpO (isNonE hi) (fun h Q => wpE hi σ h Q) h2 fun u h3 => sliF h3 bx x l u Q
  | .rev bx a, σ, h, Q => wpE a σ h fun x h1 => revF h1 bx x Q
  | .comp bx own tg it cs elt, σ, h, Q => wpIt it σ h fun items st h1 =>
      compL (fun x h2 k => bindT tg x (wipeD σ own) h2 fun σ3 h3 => wpCs cs σ3 h3 fun b h4 => ∃ t, b = .bl t ∧ if t = true then wpE elt σ3 h4 fun y h5 => k (some y) h5 else k none h4)
        st items [] h1 fun ys h2 => mkL bx ys h2 Q
  | .rep bx a i, σ, h, Q => wpE a σ h fun x h1 => wpE i σ h1 fun y h2 => repW bx x y h2 Q
  | .lens a, σ, h, Q => wpE a σ h fun x h1 => lensW x h1 Q
  | .srt bx a key, σ, h, Q => wpE a σ h fun x h1 => ∃ xs kf, seqOf h1 x = some xs ∧ srtOk (Φ.fn key) xs kf ∧ mkL bx (sortK xs kf) h1 Q
def wpCs : Es → DS → DH → DQ → Prop
  | .nil, _, h, Q => Q (.bl true) h
  | .cons e _, σ, h, Q => wpE e σ h Q
def wpEs : Es → DS → DH → (List D → DH → Prop) → Prop
  | .nil, _, h, Q => Q [] h
  | .cons e es, σ, h, Q => wpE e σ h fun x h1 => wpEs es σ h1 fun xs h2 => Q (x :: xs) h2
def wpIt : Wk → DS → DH → (List D → (DH → Prop) → DH → Prop) → Prop
  | .seq e, σ, h, Q => wpE e σ h fun x h1 =>
      match x with
      | .str s => s.length ≤ 16777216 ∧ Q (s.cps.toList.map fun c => .str (oneS c)) (fun _ => True) h1
      | x => ∃ xs, seqOf h1 x = some xs ∧ Q xs (fun h2 => seqOf h2 x = some xs) h1
  | .rng1 hi, σ, h, Q => wpE hi σ h fun y h1 => ∃ j, y = .int j ∧ (-(2 ^ 62) ≤ j ∧ j ≤ 16777216) ∧ Q (rngL 0 j.toNat) (fun _ => True) h1
  | .rng lo hi, σ, h, Q => wpE lo σ h fun x h1 => wpE hi σ h1 fun y h2 => ∃ i j, x = .int i ∧ y = .int j ∧ (-(2 ^ 62) ≤ i ∧ i < 2 ^ 62 ∧ -(2 ^ 62) ≤ j ∧ j < 2 ^ 62) ∧ j - i ≤ 16777216 ∧ Q (rngL i (j - i).toNat) (fun _ => True) h2
  | .enum e, σ, h, Q => wpE e σ h fun x h1 => ∃ xs, seqOf h1 x = some xs ∧ Q (enumL 0 xs) (fun h2 => seqOf h2 x = some xs) h1
  | .zip a b, σ, h, Q => wpE a σ h fun x h1 => wpE b σ h1 fun y h2 => ∃ xs ys, seqOf h2 x = some xs ∧ seqOf h2 y = some ys ∧ isTup x = isTup y ∧ Q (zipL xs ys) (fun h3 => seqOf h3 x = some xs ∧ seqOf h3 y = some ys) h2
end

structure DE where
  nx : DS → DH → Prop
  rt : DQ
  bk : DS → DH → Prop := fun _ _ => False
  ct : DS → DH → Prop := fun _ _ => False

def forL (f : D → DE → DS → DH → Prop) (st : DH → Prop) : List D → DE → DS → DH → Prop
  | [], K, σ, h => st h ∧ K.nx σ h
  | x :: r, K, σ, h => st h ∧ f x { K with nx := forL f st r K, ct := forL f st r K, bk := K.nx } σ h
mutual
def wpS : S → DE → DS → DH → Prop
  | .expr e, K, σ, h => wpE Φ xq e σ h fun _ h1 => K.nx σ h1
  | .ret e, K, σ, h => wpE Φ xq e σ h K.rt
  | .asg t e, K, σ, h => wpE Φ xq e σ h fun x h1 => bindT t x σ h1 K.nx
  | .seti a i e, K, σ, h => wpE Φ xq e σ h fun v h1 => wpE Φ xq a σ h1 fun x h2 => wpE Φ xq i σ h2 fun y h3 =>
      ∃ n ys z j, x = .ref n ∧ h3[n]? = some (.lst ys) ∧ y = .int z ∧ ixO ys.length z = some j ∧ K.nx σ (h3.set n (.lst (ys.set j v)))
  | .aug i e, K, σ, h => ∃ x, σ[i]? = some (some x) ∧ wpE Φ xq e σ h fun y h1 => ∃ r, binF h1 .add x y = some r ∧ flat? r = true ∧ K.nx (σ.set i (some r)) h1
  | .ite c a b, K, σ, h => wpE Φ xq c σ h fun x h1 => ∃ k, x = .bl k ∧ if k = true then wpSs a K σ h1 else wpSs b K σ h1
  | .whl c b, K, σ, h => ∃ W : Nat → DS → DH → Prop, (∃ m, W m σ h) ∧ ∀ m σ h, W m σ h → wpE Φ xq c σ h fun x h1 => ∃ k, x = .bl k ∧
      if k = true then wpSs b { K with nx := fun σ' h' => ∃ m', m' < m ∧ W m' σ' h', ct := fun σ' h' => ∃ m', m' < m ∧ W m' σ' h', bk := K.nx } σ h1 else K.nx σ h1
  | .for_ t it b, K, σ, h => wpIt Φ xq it σ h fun items st h1 => forL (fun x K' σ' h' => bindT t x σ' h' fun σ2 h2 => wpSs b K' σ2 h2) st items K σ h1
  | .pass, K, σ, h => K.nx σ h
  | .brk, K, σ, h => K.bk σ h
  | .cont, K, σ, h => K.ct σ h
  | .raise _ _, _, _, _ => False
def wpSs : Ss → DE → DS → DH → Prop
  | .nil, K, σ, h => K.nx σ h
  | .cons s ss, K, σ, h => wpS s { K with nx := fun σ' h' => wpSs ss K σ' h' } σ h
end
end

structure Fn where
  np : Nat
  nn : Nat
  body : Ss
def startD (c : Fn) (ds : List D) : DS := ds.map some ++ List.replicate (c.nn - ds.length) none
end Pf

namespace Pf
open PySem PySem.Spec PyProof.Rows L2

/-- where the small heap's objects stand; lists in the making, that no data tell -/
structure Ix where
  ix : List Addr
  hd : List Addr
mutual
inductive Rp (K : PySem.W.Frag) (ι : Ix) (H : Hp) : V → D → Prop
  | non : Rp K ι H .non .non
  | bl (b : Bool) : Rp K ι H (.bl b) (.bl b)
  | int (i : Int) : Rp K ι H (.int i) (.int i)
  | str (x : Str) : Rp K ι H (.str x) (.str x)
  | tup {a : Addr} {vs : List V} {ds : List D} : SqT K H a vs → Rps K ι H vs ds → Rp K ι H (.ref a) (.tup ds)
  | lst {a : Addr} {vs : List V} {ds : List D} : H a = some (.lst vs) → a ∉ ι.ix → a ∉ ι.hd → Rps K ι H vs ds → Rp K ι H (.ref a) (.lst ds)
  | scr {a : Addr} {vs : List V} {ds : List D} : ((∃ o, H a = some (.frz o (.lst vs))) ∧ a ∉ ι.ix) ∨ (∀ H', SqL K H' a vs) → Rps K ι H vs ds → Rp K ι H (.ref a) (.scr ds)
  | ref {n : Nat} {a : Addr} : ι.ix[n]? = some a → Rp K ι H (.ref a) (.ref n)
inductive Rps (K : PySem.W.Frag) (ι : Ix) (H : Hp) : List V → List D → Prop
  | nil : Rps K ι H [] []
  | cons {v : V} {vs : List V} {d : D} {ds : List D} : Rp K ι H v d → Rps K ι H vs ds → Rps K ι H (v :: vs) (d :: ds)
end

def ORp (K : PySem.W.Frag) (ι : Ix) (H : Hp) (a : Addr) : Ob → Prop
  | .lst ds => ∃ vs, H a = some (.lst vs) ∧ Rps K ι H vs ds
  | .dic _ => False
  | .ins _ _ => False

structure HR (K : PySem.W.Frag) (ι : Ix) (H : Hp) (h : DH) : Prop where
  len : ι.ix.length = h.length
  nd : ι.ix.Nodup
  ob : ∀ (n : Nat) (o : Ob), h[n]? = some o → ∃ a, ι.ix[n]? = some a ∧ ORp K ι H a o
  hid : ∀ a ∈ ι.hd, ∃ vs, H a = some (.lst vs)

structure Ext (ι : Ix) (H : Hp) (ι' : Ix) (H' : Hp) : Prop where
  pre : ∃ m, ι'.ix = ι.ix ++ m ∧ ∀ a ∈ m, H a = none
  hid : ∀ a ∈ ι'.hd, a ∈ ι.hd ∨ H a = none
  hid2 : ∀ a ∈ ι.hd, a ∈ ι'.hd
  keep : ∀ b o, H b = some o → b ∉ ι.ix → H' b = some o

section
variable {K : PySem.W.Frag} {ι ι' ι'' : Ix} {H H' H'' : Hp} {h h' : DH} {v : V} {d : D} {vs : List V} {ds : List D} {a : Addr}

theorem Rps.length : ∀ {vs : List V} {ds : List D}, Rps K ι H vs ds → vs.length = ds.length
  | _, _, .nil => rfl
  | _, _, .cons _ t => by simp [Rps.length t]
theorem Rps.get : ∀ {vs : List V} {ds : List D} {i : Nat} {d : D}, Rps K ι H vs ds → ds[i]? = some d → ∃ v, vs[i]? = some v ∧ Rp K ι H v d
  | _, _, _, _, .nil, e => by simp at e
  | _, _, 0, _, .cons r _, e => by simp at e; subst e; exact ⟨_, rfl, r⟩
  | _, _, i + 1, _, .cons _ t, e => by
    obtain ⟨v, h1, h2⟩ := Rps.get (i := i) t (by simpa using e)
    exact ⟨v, by simpa using h1, h2⟩
theorem Rps.getV {vs : List V} {ds : List D} {i : Nat} {v : V} (r : Rps K ι H vs ds) (e : vs[i]? = some v) : ∃ d, ds[i]? = some d ∧ Rp K ι H v d := by
  obtain ⟨hi, _⟩ := List.getElem?_eq_some_iff.mp e
  have hl := r.length
  have e2 : ds[i]? = some (ds[i]'(by omega)) := List.getElem?_eq_getElem (by omega)
  obtain ⟨w, h1, h2⟩ := r.get e2
  rw [e] at h1; cases h1
  exact ⟨_, e2, h2⟩
theorem Rps.append : ∀ {vs : List V} {ds : List D} {ws : List V} {es : List D}, Rps K ι H vs ds → Rps K ι H ws es → Rps K ι H (vs ++ ws) (ds ++ es)
  | _, _, _, _, .nil, s => s
  | _, _, _, _, .cons r t, s => .cons r (Rps.append t s)
theorem Rps.drop : ∀ {vs : List V} {ds : List D} (n : Nat), Rps K ι H vs ds → Rps K ι H (vs.drop n) (ds.drop n)
  | _, _, 0, r => r
  | _, _, _ + 1, .nil => .nil
  | _, _, n + 1, .cons _ t => Rps.drop n t
theorem Rps.take : ∀ {vs : List V} {ds : List D} (n : Nat), Rps K ι H vs ds → Rps K ι H (vs.take n) (ds.take n)
  | _, _, 0, _ => .nil
  | _, _, _ + 1, .nil => .nil
  | _, _, n + 1, .cons r t => .cons r (Rps.take n t)
theorem Rps.reverse {vs : List V} {ds : List D} (r : Rps K ι H vs ds) : Rps K ι H vs.reverse ds.reverse := by
  have : ∀ {vs : List V} {ds : List D}, Rps K ι H vs ds → Rps K ι H vs.reverse ds.reverse := by
    intro vs
    induction vs with
    | nil => intro ds r; cases r; exact .nil
    | cons x xs ih =>
      intro ds r
      cases r with
      | cons r t => rw [List.reverse_cons, List.reverse_cons]; exact (ih t).append (.cons r .nil)
  exact this r
theorem Rps.set {v : V} {d : D} (q : Rp K ι H v d) : ∀ {vs : List V} {ds : List D} (i : Nat), Rps K ι H vs ds → Rps K ι H (vs.set i v) (ds.set i d)
  | _, _, _, .nil => .nil
  | _, _, 0, .cons _ t => .cons q t
  | _, _, i + 1, .cons r t => .cons r (Rps.set q i t)
theorem Rps.erase : ∀ {vs : List V} {ds : List D} (i : Nat), Rps K ι H vs ds → Rps K ι H (vs.eraseIdx i) (ds.eraseIdx i)
  | _, _, _, .nil => .nil
  | _, _, 0, .cons _ t => t
  | _, _, i + 1, .cons r t => .cons r (Rps.erase i t)

theorem Ext.refl : Ext ι H ι H := ⟨⟨[], by simp, by simp⟩, fun _ z => .inl z, fun _ z => z, fun _ _ e _ => e⟩
theorem Ext.free (e : Ext ι H ι' H') {b : Addr} (hb : H' b = none) (hi : b ∉ ι.ix) : H b = none := by
  cases q : H b with
  | none => rfl
  | some o => rw [e.keep b o q hi] at hb; cases hb
theorem HR.there (r : HR K ι H h) {a : Addr} (ha : a ∈ ι.ix) : ∃ o, H a = some o ∧ Mut (some o) := by
  obtain ⟨n, hn, e⟩ := List.getElem_of_mem ha
  have hl := r.len
  obtain ⟨b, hb, ob⟩ := r.ob n (h[n]'(by omega)) (List.getElem?_eq_getElem (by omega))
  rw [List.getElem?_eq_getElem hn, e] at hb
  cases hb
  cases q : h[n]'(by omega) with
  | lst ds =>
    rw [q] at ob
    obtain ⟨vs, e1, _⟩ := ob
    exact ⟨_, e1, trivial⟩
  | dic _ => rw [q] at ob; exact ob.elim
  | ins _ _ => rw [q] at ob; exact ob.elim
theorem HR.fresh (r : HR K ι H h) {a : Addr} (ha : H a = none) : a ∉ ι.ix := fun z => by
  obtain ⟨o, e, _⟩ := r.there z
  rw [ha] at e; cases e
theorem Ext.trans (r' : HR K ι' H' h') (a : Ext ι H ι' H') (b : Ext ι' H' ι'' H'') : Ext ι H ι'' H'' := by
  obtain ⟨m, em, hm⟩ := a.pre
  obtain ⟨m', em', hm'⟩ := b.pre
  refine ⟨⟨m ++ m', by rw [em', em, List.append_assoc], fun x hx => ?_⟩, fun x hx => ?_, fun x hx => b.hid2 x (a.hid2 x hx), fun c o e hc => ?_⟩
  · rcases List.mem_append.mp hx with q | q
    · exact hm x q
    · refine a.free (hm' x q) fun z => ?_
      obtain ⟨o, e, _⟩ := r'.there (a := x) (by rw [em]; exact List.mem_append_left _ z)
      rw [hm' x q] at e; cases e
  · rcases b.hid x hx with z | z
    · exact a.hid x z
    · refine .inr (a.free z fun zz => ?_)
      obtain ⟨o, e, _⟩ := r'.there (a := x) (by rw [em]; exact List.mem_append_left _ zz)
      rw [z] at e; cases e
  · refine b.keep c o (a.keep c o e hc) fun z => ?_
    rw [em] at z
    rcases List.mem_append.mp z with q | q
    · exact hc q
    · rw [hm c q] at e; cases e

theorem Rd.keep (e : Ext ι H ι' H') {a : Addr} {u : HO} (hi : a ∉ ι.ix) (r : Rd H a u) : Rd H' a u := by
  rcases r with r | ⟨o, r⟩
  · exact .inl (e.keep _ _ r hi)
  · exact .inr ⟨o, e.keep _ _ r hi⟩
theorem Rd.some {a : Addr} {u : HO} (r : Rd H a u) : ∃ o, H a = some o := by
  rcases r with r | ⟨o, r⟩
  · exact ⟨_, r⟩
  · exact ⟨_, r⟩
theorem HR.notT (r : HR K ι H h) {a : Addr} {vs : List V} (q : Rd H a (.tup vs)) : a ∉ ι.ix := fun z => by
  obtain ⟨o, e, m⟩ := r.there z
  rcases q with q | ⟨ob, q⟩
  · rw [q] at e; cases e; exact m
  · rw [q] at e; cases e; exact m
theorem HR.seqT (r : HR K ι H h) (e : Ext ι H ι' H') {a : Addr} {vs : List V} (q : SqT K H a vs) : SqT K H' a vs := by
  rcases q with q | q
  · exact .inl (Rd.keep e (r.notT q) q)
  · exact .inr q
theorem Ext.notin (e : Ext ι H ι' H') {a : Addr} (hi : a ∉ ι.ix) (hs : ∃ o, H a = Option.some o) : a ∉ ι'.ix := fun z => by
  obtain ⟨m, em, hm⟩ := e.pre
  rw [em] at z
  obtain ⟨o, ho⟩ := hs
  rcases List.mem_append.mp z with q | q
  · exact hi q
  · rw [hm a q] at ho; cases ho
theorem Ext.get (e : Ext ι H ι' H') {n : Nat} {a : Addr} (hn : ι.ix[n]? = Option.some a) : ι'.ix[n]? = Option.some a := by
  obtain ⟨m, em, hm⟩ := e.pre
  rw [em, List.getElem?_append_left (List.getElem?_eq_some_iff.mp hn).1]
  exact hn
mutual
theorem Rp.mono (r : HR K ι H h) (e : Ext ι H ι' H') : ∀ {v : V} {d : D}, Rp K ι H v d → Rp K ι' H' v d
  | _, _, .non => .non
  | _, _, .bl b => .bl b
  | _, _, .int b => .int b
  | _, _, .str b => .str b
  | _, _, .tup q t => .tup (r.seqT e q) (Rps.mono r e t)
  | _, _, .lst q n n2 t => .lst (e.keep _ _ q n) (e.notin n ⟨_, q⟩) (fun z => (e.hid _ z).elim n2 (fun z => by rw [z] at q; cases q)) (Rps.mono r e t)
  | _, _, .scr q t => .scr (q.elim (fun ⟨⟨o, z⟩, n⟩ => .inl ⟨⟨o, e.keep _ _ z n⟩, e.notin n ⟨_, z⟩⟩) .inr) (Rps.mono r e t)
  | _, _, .ref q => .ref (e.get q)
theorem Rps.mono (r : HR K ι H h) (e : Ext ι H ι' H') : ∀ {vs : List V} {ds : List D}, Rps K ι H vs ds → Rps K ι' H' vs ds
  | _, _, .nil => .nil
  | _, _, .cons q t => .cons (Rp.mono r e q) (Rps.mono r e t)
end

theorem Ext.upd_new (ha : H a = none) (o : HO) : Ext ι H ι (upd H a o) :=
  ⟨⟨[], by simp, by simp⟩, fun _ z => .inl z, fun _ z => z, fun b u e _ => by rw [upd_ne (ne_of_none e ha)]; exact e⟩
theorem Ext.upd_newIn (ha : H a = none) (o : HO) : Ext ι H ⟨ι.ix ++ [a], ι.hd⟩ (upd H a o) :=
  ⟨⟨[a], rfl, by simpa using ha⟩, fun _ z => .inl z, fun _ z => z, fun b u e _ => by rw [upd_ne (ne_of_none e ha)]; exact e⟩
theorem HR.upd_new (r : HR K ι H h) (ha : H a = none) (o : HO) : HR K ι (upd H a o) h := by
  refine ⟨r.len, r.nd, fun n ob e => ?_, fun c hc => ?_⟩
  obtain ⟨b, hb, q⟩ := r.ob n ob e
  refine ⟨b, hb, ?_⟩
  have hba : b ≠ a := fun z => by
    subst z
    exact r.fresh ha (List.mem_of_getElem? hb)
  cases ob with
  | lst ds =>
    obtain ⟨vs, e1, e2⟩ := q
    exact ⟨vs, by rw [upd_ne hba]; exact e1, e2.mono r (.upd_new ha o)⟩
  | dic _ => exact q.elim
  | ins _ _ => exact q.elim
  · obtain ⟨ws, e⟩ := r.hid c hc
    exact ⟨ws, by rw [upd_ne (ne_of_none e ha)]; exact e⟩
/-- a new list in the small heap -/
theorem HR.push (r : HR K ι H h) (ha : H a = none) (q : Rps K ι H vs ds) : HR K ⟨ι.ix ++ [a], ι.hd⟩ (upd H a (.lst vs)) (h ++ [.lst ds]) := by
  have ex : Ext ι H ⟨ι.ix ++ [a], ι.hd⟩ (upd H a (.lst vs)) := .upd_newIn ha _
  refine ⟨by simp [r.len], ?_, fun n ob e => ?_, fun c hc => ?_⟩
  · rw [List.nodup_append]
    refine ⟨r.nd, by simp, fun x hx y hy => ?_⟩
    have : y = a := by simpa using hy
    subst this
    rintro rfl
    exact r.fresh ha hx
  · by_cases hn : n < h.length
    · rw [List.getElem?_append_left hn] at e
      obtain ⟨b, hb, q⟩ := r.ob n ob e
      refine ⟨b, ex.get hb, ?_⟩
      have hba : b ≠ a := fun z => by
        subst z
        exact r.fresh ha (List.mem_of_getElem? hb)
      cases ob with
      | lst ds =>
        obtain ⟨vs, e1, e2⟩ := q
        exact ⟨vs, by rw [upd_ne hba]; exact e1, e2.mono r ex⟩
      | dic _ => exact q.elim
      | ins _ _ => exact q.elim
    · have hn2 : n = h.length := by
        have := (List.getElem?_eq_some_iff.mp e).1
        simp at this
        omega
      subst hn2
      rw [List.getElem?_append_right (Nat.le_refl _), Nat.sub_self] at e
      cases e
      refine ⟨a, ?_, vs, upd_same, q.mono r ex⟩
      rw [← r.len, List.getElem?_append_right (Nat.le_refl _), Nat.sub_self]
      rfl
  · obtain ⟨ws, e⟩ := r.hid c hc
    exact ⟨ws, by rw [upd_ne (ne_of_none e ha)]; exact e⟩
theorem HR.freshH (r : HR K ι H h) {a : Addr} (ha : H a = none) : a ∉ ι.hd := fun z => by
  obtain ⟨ws, e⟩ := r.hid a z
  rw [ha] at e; cases e
theorem HR.ref (r : HR K ι H h) {n : Nat} {xs : List D} (e : h[n]? = some (.lst xs)) : ∃ a vs, ι.ix[n]? = some a ∧ H a = some (.lst vs) ∧ Rps K ι H vs xs := by
  obtain ⟨a, ha, vs, e1, e2⟩ := r.ob n _ e
  exact ⟨a, vs, ha, e1, e2⟩
theorem nodup_ixA {N : List Addr} (hN : N.Nodup) {i j : Nat} {x : Addr} (a : N[i]? = some x) (b : N[j]? = some x) : i = j := by
  obtain ⟨h1, e1⟩ := List.getElem?_eq_some_iff.mp a
  obtain ⟨h2, e2⟩ := List.getElem?_eq_some_iff.mp b
  exact (List.getElem_inj hN).mp (e1.trans e2.symm)
/-- a list of the small heap is written -/
theorem Ext.upd_in (ha : a ∈ ι.ix) (o : HO) : Ext ι H ι (upd H a o) :=
  ⟨⟨[], by simp, by simp⟩, fun _ z => .inl z, fun _ z => z, fun b u e hb => by rw [upd_ne (fun z => hb (by rw [z]; exact ha))]; exact e⟩
theorem HR.write (r : HR K ι H h) {n : Nat} (ha : ι.ix[n]? = some a) (q : Rps K ι H vs ds) : HR K ι (upd H a (.lst vs)) (h.set n (.lst ds)) := by
  have ex : Ext ι H ι (upd H a (.lst vs)) := .upd_in (List.mem_of_getElem? ha) _
  have hn : n < h.length := by rw [← r.len]; exact (List.getElem?_eq_some_iff.mp ha).1
  refine ⟨by simp [r.len], r.nd, fun m ob e => ?_, fun c hc => ?_⟩
  by_cases hm : n = m
  · subst hm
    rw [List.getElem?_set_self hn] at e
    cases e
    exact ⟨a, ha, vs, upd_same, q.mono r ex⟩
  · rw [List.getElem?_set_ne hm] at e
    obtain ⟨b, hb, q⟩ := r.ob m ob e
    refine ⟨b, hb, ?_⟩
    have hba : b ≠ a := fun z => hm (nodup_ixA r.nd ha (z ▸ hb))
    cases ob with
    | lst ds =>
      obtain ⟨vs, e1, e2⟩ := q
      exact ⟨vs, by rw [upd_ne hba]; exact e1, e2.mono r ex⟩
    | dic _ => exact q.elim
    | ins _ _ => exact q.elim

  · by_cases hca : c = a
    · subst hca; exact ⟨vs, upd_same⟩
    · obtain ⟨ws, e⟩ := r.hid c hc
      exact ⟨ws, by rw [upd_ne hca]; exact e⟩
mutual
theorem Rp.inHid {D : Addr} {xs ys : List V} (hD : H D = some (.lst xs)) (hh : D ∈ ι.hd) : ∀ {v : V} {d : Pf.D}, Rp K ι H v d → Rp K ι (upd H D (.lst ys)) v d
  | _, _, .non => .non
  | _, _, .bl b => .bl b
  | _, _, .int b => .int b
  | _, _, .str b => .str b
  | _, _, .tup q t => .tup (by
      rcases q with (q | ⟨o, q⟩) | q
      · exact .inl (.inl (by rw [upd_ne (fun z => by rw [z, hD] at q; cases q)]; exact q))
      · exact .inl (.inr ⟨o, by rw [upd_ne (fun z => by rw [z, hD] at q; cases q)]; exact q⟩)
      · exact .inr q) (Rps.inHid hD hh t)
  | _, _, .lst q n n2 t => .lst (by rw [upd_ne (fun z => n2 (by rw [z]; exact hh))]; exact q) n n2 (Rps.inHid hD hh t)
  | _, _, .scr q t => .scr (q.elim (fun ⟨⟨o, z⟩, n⟩ => .inl ⟨⟨o, by rw [upd_ne (fun e => by rw [e, hD] at z; cases z)]; exact z⟩, n⟩) .inr) (Rps.inHid hD hh t)
  | _, _, .ref q => .ref q
theorem Rps.inHid {D : Addr} {xs ys : List V} (hD : H D = some (.lst xs)) (hh : D ∈ ι.hd) : ∀ {vs : List V} {ds : List Pf.D}, Rps K ι H vs ds → Rps K ι (upd H D (.lst ys)) vs ds
  | _, _, .nil => .nil
  | _, _, .cons q t => .cons (Rp.inHid hD hh q) (Rps.inHid hD hh t)
end
mutual
theorem Rp.weakH {ix hd hd' : List Addr} (hs : ∀ a ∈ hd', a ∈ hd) : ∀ {v : V} {d : Pf.D}, Rp K ⟨ix, hd⟩ H v d → Rp K ⟨ix, hd'⟩ H v d
  | _, _, .non => .non
  | _, _, .bl b => .bl b
  | _, _, .int b => .int b
  | _, _, .str b => .str b
  | _, _, .tup q t => .tup q (Rps.weakH hs t)
  | _, _, .lst q n n2 t => .lst q n (fun z => n2 (hs _ z)) (Rps.weakH hs t)
  | _, _, .scr q t => .scr q (Rps.weakH hs t)
  | _, _, .ref q => .ref q
theorem Rps.weakH {ix hd hd' : List Addr} (hs : ∀ a ∈ hd', a ∈ hd) : ∀ {vs : List V} {ds : List Pf.D}, Rps K ⟨ix, hd⟩ H vs ds → Rps K ⟨ix, hd'⟩ H vs ds
  | _, _, .nil => .nil
  | _, _, .cons q t => .cons (Rp.weakH hs q) (Rps.weakH hs t)
end
mutual
/-- the list D is made known -/
theorem Rp.expose {ix hd hd' : List Addr} {D : Addr} (hs : ∀ a ∈ hd', a ∈ hd) (hD : D ∈ hd) (hL : ∃ ws, H D = some (.lst ws)) : ∀ {v : V} {d : Pf.D}, Rp K ⟨ix, hd⟩ H v d → Rp K ⟨ix ++ [D], hd'⟩ H v d
  | _, _, .non => .non
  | _, _, .bl b => .bl b
  | _, _, .int b => .int b
  | _, _, .str b => .str b
  | _, _, .tup q t => .tup q (Rps.expose hs hD hL t)
  | _, _, .lst q n n2 t => .lst q (fun z => by
      rcases List.mem_append.mp z with z | z
      · exact n z
      · exact n2 (by rw [List.mem_singleton.mp z]; exact hD)) (fun z => n2 (hs _ z)) (Rps.expose hs hD hL t)
  | _, _, .scr q t => .scr (q.elim (fun ⟨⟨o, z⟩, n⟩ => .inl ⟨⟨o, z⟩, fun y => by
      rcases List.mem_append.mp y with y | y
      · exact n y
      · obtain ⟨ws, hw⟩ := hL
        rw [List.mem_singleton.mp y, hw] at z; cases z⟩) .inr) (Rps.expose hs hD hL t)
  | _, _, .ref q => .ref (by
      rw [List.getElem?_append_left (List.getElem?_eq_some_iff.mp q).1]; exact q)
theorem Rps.expose {ix hd hd' : List Addr} {D : Addr} (hs : ∀ a ∈ hd', a ∈ hd) (hD : D ∈ hd) (hL : ∃ ws, H D = some (.lst ws)) : ∀ {vs : List V} {ds : List Pf.D}, Rps K ⟨ix, hd⟩ H vs ds → Rps K ⟨ix ++ [D], hd'⟩ H vs ds
  | _, _, .nil => .nil
  | _, _, .cons q t => .cons (Rp.expose hs hD hL q) (Rps.expose hs hD hL t)
end
mutual
/-- where nothing stands at D, nothing is told of D -/
theorem Rp.hide {D : Addr} {ix hd : List Addr} (hD : H D = none) : ∀ {v : V} {d : Pf.D}, Rp K ⟨ix, hd⟩ H v d → Rp K ⟨ix, D :: hd⟩ H v d
  | _, _, .non => .non
  | _, _, .bl b => .bl b
  | _, _, .int b => .int b
  | _, _, .str b => .str b
  | _, _, .tup q t => .tup q (Rps.hide hD t)
  | _, _, .lst q n n2 t => .lst q n (fun z => by
      rcases List.mem_cons.mp z with z | z
      · rw [z, hD] at q; cases q
      · exact n2 z) (Rps.hide hD t)
  | _, _, .scr q t => .scr q (Rps.hide hD t)
  | _, _, .ref q => .ref q
theorem Rps.hide {D : Addr} {ix hd : List Addr} (hD : H D = none) : ∀ {vs : List V} {ds : List Pf.D}, Rps K ⟨ix, hd⟩ H vs ds → Rps K ⟨ix, D :: hd⟩ H vs ds
  | _, _, .nil => .nil
  | _, _, .cons q t => .cons (Rp.hide hD q) (Rps.hide hD t)
end
mutual
theorem Rp.newHid {D : Addr} {u : HO} (hD : H D = none) : ∀ {v : V} {d : Pf.D}, Rp K ι H v d → Rp K ι (upd H D u) v d
  | _, _, .non => .non
  | _, _, .bl b => .bl b
  | _, _, .int b => .int b
  | _, _, .str b => .str b
  | _, _, .tup q t => .tup (by
      rcases q with (q | ⟨o, q⟩) | q
      · exact .inl (.inl (by rw [upd_ne (ne_of_none q hD)]; exact q))
      · exact .inl (.inr ⟨o, by rw [upd_ne (ne_of_none q hD)]; exact q⟩)
      · exact .inr q) (Rps.newHid hD t)
  | _, _, .lst q n n2 t => .lst (by rw [upd_ne (ne_of_none q hD)]; exact q) n n2 (Rps.newHid hD t)
  | _, _, .scr q t => .scr (q.elim (fun ⟨⟨o, z⟩, n⟩ => .inl ⟨⟨o, by rw [upd_ne (ne_of_none z hD)]; exact z⟩, n⟩) .inr) (Rps.newHid hD t)
  | _, _, .ref q => .ref q
theorem Rps.newHid {D : Addr} {u : HO} (hD : H D = none) : ∀ {vs : List V} {ds : List Pf.D}, Rps K ι H vs ds → Rps K ι (upd H D u) vs ds
  | _, _, .nil => .nil
  | _, _, .cons q t => .cons (Rp.newHid hD q) (Rps.newHid hD t)
end
theorem ORp.map {K' : PySem.W.Frag} {ι1 ι2 : Ix} {H1 H2 : Hp} {a b : Addr} {o : Ob} (f : ∀ {vs : List V} {ds : List Pf.D}, Rps K ι1 H1 vs ds → Rps K ι2 H2 vs ds) (g : ∀ vs, H1 a = some (.lst vs) → H2 b = some (.lst vs)) (q : ORp K ι1 H1 a o) : ORp K ι2 H2 b o := by
  cases o with
  | lst ds =>
    obtain ⟨vs, e, t⟩ := q
    exact ⟨vs, g vs e, f t⟩
  | dic _ => exact q.elim
  | ins _ _ => exact q.elim
theorem HR.weakH {ix hd hd' : List Addr} (hs : ∀ a ∈ hd', a ∈ hd) (r : HR K ⟨ix, hd⟩ H h) : HR K ⟨ix, hd'⟩ H h :=
  ⟨r.len, r.nd, fun n o e => let ⟨a, h1, h2⟩ := r.ob n o e; ⟨a, h1, ORp.map (K' := K) (fun t => t.weakH hs) (fun _ e => e) h2⟩, fun a ha => r.hid a (hs a ha)⟩
/-- a new list D is being made -/
theorem HR.hide {D : Addr} {ix hd : List Addr} (r : HR K ⟨ix, hd⟩ H h) (hD : H D = none) (vs : List V) : HR K ⟨ix, D :: hd⟩ (upd H D (.lst vs)) h := by
  have hh : D ∈ (⟨ix, D :: hd⟩ : Ix).hd := List.mem_cons_self
  have r2 := r.upd_new hD (.lst vs)
  refine ⟨r.len, r.nd, fun n o e => ?_, fun a ha => ?_⟩
  · obtain ⟨a, h1, h2⟩ := r.ob n o e
    have hne : a ≠ D := fun z => by
      obtain ⟨o', e', _⟩ := r.there (List.mem_of_getElem? h1)
      rw [z, hD] at e'; cases e'
    refine ⟨a, h1, ORp.map (K' := K) (fun t => ?_) (fun _ e => by rw [upd_ne hne]; exact e) h2⟩
    have e2 : Ext ⟨ix, D :: hd⟩ H ⟨ix, D :: hd⟩ (upd H D (.lst vs)) := ⟨⟨[], by simp, by simp⟩, fun _ z => .inl z, fun _ z => z, fun b u q _ => by rw [upd_ne (ne_of_none q hD)]; exact q⟩
    have t2 := Rps.hide (D := D) hD t
    exact Rps.newHid hD t2
  · rcases List.mem_cons.mp ha with z | z
    · rw [z]; exact ⟨vs, upd_same⟩
    · obtain ⟨ws, e⟩ := r.hid a z
      exact ⟨ws, by rw [upd_ne (ne_of_none e hD)]; exact e⟩
theorem HR.expose {ix hd hd' : List Addr} {D : Addr} {ws : List V} {acc : List Pf.D} (hs : ∀ a ∈ hd', a ∈ hd) (hD : D ∈ hd) (hL : H D = some (.lst ws)) (hn : D ∉ ix) (t : Rps K ⟨ix, hd⟩ H ws acc) (r : HR K ⟨ix, hd⟩ H h) : HR K ⟨ix ++ [D], hd'⟩ H (h ++ [.lst acc]) := by
  refine ⟨by rw [List.length_append, List.length_append]; exact congrArg (· + 1) r.len, ?_, fun n o e => ?_, fun a ha => r.hid a (hs a ha)⟩
  · rw [List.nodup_append]
    refine ⟨r.nd, by simp, fun x hx y hy => ?_⟩
    rw [List.mem_singleton.mp hy]
    rintro rfl
    exact hn hx
  · have hl : ix.length = h.length := r.len
    by_cases hlt : n < h.length
    · rw [List.getElem?_append_left hlt] at e
      obtain ⟨a, h1, h2⟩ := r.ob n o e
      refine ⟨a, ?_, ORp.map (K' := K) (fun t => t.expose hs hD ⟨_, hL⟩) (fun _ e => e) h2⟩
      show (ix ++ [D])[n]? = _
      rw [List.getElem?_append_left (by omega)]
      exact h1
    · have hn2 : n = h.length := by
        have := (List.getElem?_eq_some_iff.mp e).1
        simp at this
        omega
      subst hn2
      rw [List.getElem?_append_right (Nat.le_refl _), Nat.sub_self] at e
      cases e
      refine ⟨D, ?_, ws, hL, t.expose hs hD ⟨_, hL⟩⟩
      show (ix ++ [D])[h.length]? = _
      rw [← hl, List.getElem?_append_right (Nat.le_refl _), Nat.sub_self]
      rfl
theorem HR.inHid {D : Addr} {xs ys : List V} (r : HR K ι H h) (hD : H D = some (.lst xs)) (hh : D ∈ ι.hd) (hn : D ∉ ι.ix) : HR K ι (upd H D (.lst ys)) h := by
  refine ⟨r.len, r.nd, fun n o e => ?_, fun a ha => ?_⟩
  · obtain ⟨a, h1, h2⟩ := r.ob n o e
    have hne : a ≠ D := fun z => hn (z ▸ List.mem_of_getElem? h1)
    exact ⟨a, h1, ORp.map (K' := K) (fun t => t.inHid hD hh) (fun _ e => by rw [upd_ne hne]; exact e) h2⟩
  · by_cases hca : a = D
    · subst hca; exact ⟨ys, upd_same⟩
    · obtain ⟨ws, e⟩ := r.hid a ha
      exact ⟨ws, by rw [upd_ne hca]; exact e⟩

theorem Rp.seq (r : HR K ι H h) {xs : List D} (q : Rp K ι H v d) (e : seqOf h d = some xs) : ∃ a vs, v = .ref a ∧ (SqL K H a vs ∨ SqT K H a vs) ∧ Rps K ι H vs xs := by
  cases q with
  | tup q t => cases e; exact ⟨_, _, rfl, .inr q, t⟩
  | lst q n n2 t => cases e; exact ⟨_, _, rfl, .inl (.inl (.inl q)), t⟩
  | scr q t =>
    cases e
    refine ⟨_, _, rfl, .inl ?_, t⟩
    rcases q with ⟨⟨o, z⟩, _⟩ | q
    · exact .inl (.inr ⟨_, z⟩)
    · exact q H
  | ref hn =>
    rename_i n a
    have e : (match h[n]? with | some (.lst xs) => some xs | _ => none) = some xs := e
    cases hq : h[n]? with
    | none => rw [hq] at e; cases e
    | some o =>
      rw [hq] at e
      cases o with
      | lst ys =>
        cases e
        obtain ⟨a', vs, h1, h2, h3⟩ := r.ref hq
        rw [hn] at h1; cases h1
        exact ⟨_, _, rfl, .inl (.inl (.inl h2)), h3⟩
      | dic _ => cases e
      | ins _ _ => cases e
  | non => cases e
  | bl _ => cases e
  | int _ => cases e
  | str _ => cases e
theorem Rp.list (r : HR K ι H h) {xs : List D} (q : Rp K ι H v d) (e : lstOf h d = some xs) : ∃ a vs, v = .ref a ∧ H a = some (.lst vs) ∧ Rps K ι H vs xs := by
  cases q with
  | tup q t => cases e
  | scr q t => cases e
  | lst q n n2 t => cases e; exact ⟨_, _, rfl, q, t⟩
  | ref hn =>
    rename_i n a
    have e : (match h[n]? with | some (.lst xs) => some xs | _ => none) = some xs := e
    cases hq : h[n]? with
    | none => rw [hq] at e; cases e
    | some o =>
      rw [hq] at e
      cases o with
      | lst ys =>
        cases e
        obtain ⟨a', vs, h1, h2, h3⟩ := r.ref hq
        rw [hn] at h1; cases h1
        exact ⟨_, _, rfl, h2, h3⟩
      | dic _ => cases e
      | ins _ _ => cases e
  | non => cases e
  | bl _ => cases e
  | int _ => cases e
  | str _ => cases e
theorem Rp.iv {i : Int} (q : Rp K ι H v (.int i)) : v = .int i := by cases q; rfl
theorem Rp.bv {i : Bool} (q : Rp K ι H v (.bl i)) : v = .bl i := by cases q; rfl
theorem Rp.sv {i : Str} (q : Rp K ι H v (.str i)) : v = .str i := by cases q; rfl
theorem Rp.nv (q : Rp K ι H v .non) : v = .non := by cases q; rfl
end

structure SR (K : PySem.W.Frag) (ι : Ix) (H : Hp) (h : DH) (σ : L2.St) (τ : DS) : Prop where
  hr : HR K ι H h
  len : τ.length = σ.length
  at_ : ∀ (i : Nat) (d : D), τ[i]? = some (some d) → ∃ v, σ[i]? = some (some v) ∧ Rp K ι H v d
section
variable {K : PySem.W.Frag} {ι ι' : Ix} {H H' : Hp} {h h' : DH} {σ : L2.St} {τ : DS}
theorem SR.mono (r : SR K ι H h σ τ) (e : Ext ι H ι' H') (hr : HR K ι' H' h') : SR K ι' H' h' σ τ :=
  ⟨hr, r.len, fun i d q => let ⟨v, a, b⟩ := r.at_ i d q; ⟨v, a, b.mono r.hr e⟩⟩
theorem SR.set (r : SR K ι H h σ τ) (i : Nat) {v : V} {d : D} (q : Rp K ι H v d) : SR K ι H h (σ.set i (some v)) (τ.set i (some d)) := by
  refine ⟨r.hr, by simp [r.len], fun j e hj => ?_⟩
  by_cases hij : i = j
  · subst hij
    by_cases hi : i < τ.length
    · rw [List.getElem?_set_self hi] at hj
      cases hj
      exact ⟨v, List.getElem?_set_self (by rw [← r.len]; exact hi), q⟩
    · rw [List.getElem?_eq_none (by simpa using hi)] at hj
      cases hj
  · rw [List.getElem?_set_ne hij] at hj ⊢
    exact r.at_ j e hj
theorem SR.unset (r : SR K ι H h σ τ) (i : Nat) : SR K ι H h (σ.set i none) (τ.set i none) := by
  refine ⟨r.hr, by simp [r.len], fun j e hj => ?_⟩
  by_cases hij : i = j
  · subst hij
    by_cases hi : i < τ.length
    · rw [List.getElem?_set_self hi] at hj
      cases hj
    · rw [List.getElem?_eq_none (by simpa using hi)] at hj
      cases hj
  · rw [List.getElem?_set_ne hij] at hj ⊢
    exact r.at_ j e hj
theorem SR.wipe (r : SR K ι H h σ τ) : ∀ own : List Nat, SR K ι H h (wipe σ own) (wipeD τ own)
  | [] => r
  | v :: vs => (SR.wipe r vs).unset v
end

/-- how a def was entered -/
structure Ent where
  K : PySem.W.Frag
  ι : Ix
  H : Hp
def liftE (F : Ent) (t : DS → DH → DQ → Prop) : TE := fun σ H Q => ∃ ι τ h Qd, SR F.K ι H h σ τ ∧ Ext F.ι F.H ι H ∧ t τ h Qd ∧
  ∀ d h' v H' ι', Qd d h' → Ext ι H ι' H' → HR F.K ι' H' h' → Rp F.K ι' H' v d → Q v H'
def liftA (F : Ent) (t : DS → DH → (List D → DH → Prop) → Prop) : TA := fun σ H Q => ∃ ι τ h Qd, SR F.K ι H h σ τ ∧ Ext F.ι F.H ι H ∧ t τ h Qd ∧
  ∀ ds h' vs H' ι', Qd ds h' → Ext ι H ι' H' → HR F.K ι' H' h' → Rps F.K ι' H' vs ds → Q vs H'
/-- a test -/
def liftT (F : Ent) (t : DS → DH → DQ → Prop) : TT := fun σ H Q => ∃ ι τ h Qd, SR F.K ι H h σ τ ∧ Ext F.ι F.H ι H ∧ t τ h Qd ∧
  ∀ d h' H' ι', Qd d h' → Ext ι H ι' H' → HR F.K ι' H' h' → ∃ b, d = .bl b ∧ Q b H'
/-- what follows a statement -/
def Nx (F : Ent) (ι : Ix) (H : Hp) (P : DS → DH → Prop) (Pd : L2.St → Hp → Prop) : Prop := ∀ τ' h' σ' H' ι', P τ' h' → Ext ι H ι' H' → SR F.K ι' H' h' σ' τ' → Pd σ' H'
def Rt (F : Ent) (ι : Ix) (H : Hp) (P : DQ) (Pd : VK) : Prop := ∀ d h' v H' ι', P d h' → Ext ι H ι' H' → HR F.K ι' H' h' → Rp F.K ι' H' v d → Pd v H'
def liftS (F : Ent) (t : DE → DS → DH → Prop) : TS := fun D σ H => ∃ ι τ h K, SR F.K ι H h σ τ ∧ Ext F.ι F.H ι H ∧ t K τ h ∧
  Nx F ι H K.nx D.nx ∧ Nx F ι H K.bk D.bk ∧ Nx F ι H K.ct D.ct ∧ Rt F ι H K.rt D.rt
/-- a def's promise -/
def liftP (K : PySem.W.Frag) (sp : Spc) : Sp := fun vs H Q _ => ∃ ι ds h Qd, HR K ι H h ∧ Rps K ι H vs ds ∧ sp ds h Qd (fun _ _ => False) ∧
  ∀ d h' v H' ι', Qd d h' → Ext ι H ι' H' → HR K ι' H' h' → Rp K ι' H' v d → Q v H'
end Pf

namespace Pf
open PySem PySem.Spec PyProof.Rows L2

/-- what follows, at a later heap -/
def Kont (F : Ent) (ι : Ix) (H : Hp) (Qd : DQ) (Q : VK) : Prop := ∀ d h' v H' ι', Qd d h' → Ext ι H ι' H' → HR F.K ι' H' h' → Rp F.K ι' H' v d → Q v H'
section
variable {F : Ent} {ι ι' : Ix} {H H' : Hp} {h h' : DH} {Qd : DQ} {Q : VK} {σ : L2.St} {τ : DS} {v w : V} {x y : D}
theorem Kont.mv (k : Kont F ι H Qd Q) (hr : HR F.K ι' H' h') (e : Ext ι H ι' H') : Kont F ι' H' Qd Q := fun d h2 v H2 ι2 q e2 r2 rp => k d h2 v H2 ι2 q (e.trans hr e2) r2 rp
theorem Kont.here (k : Kont F ι H Qd Q) (hr : HR F.K ι H h) (q : Qd x h) (r : Rp F.K ι H v x) : Q v H := k x h v H ι q .refl hr r
/-- a new object of the hand layer's heap that the small heap doesn't tell -/
theorem Kont.new {p : Addr} {o : HO} (k : Kont F ι H Qd Q) (hr : HR F.K ι H h) (hp : H p = none) (q : Qd x h) (r : HR F.K ι (upd H p o) h → Ext ι H ι (upd H p o) → Rp F.K ι (upd H p o) v x) : Q v (upd H p o) :=
  k x h v _ ι q (.upd_new hp o) (hr.upd_new hp o) (r (hr.upd_new hp o) (.upd_new hp o))
/-- a new list -/
theorem Kont.mk {p : Addr} {vs : List V} {ds : List D} {bx : Bool} (k : Kont F ι H Qd Q) (hr : HR F.K ι H h) (hp : H p = none) (q : mkL bx ds h Qd) (r : Rps F.K ι H vs ds) : Q (.ref p) (upd H p (.lst vs)) := by
  unfold mkL at q
  cases bx with
  | true =>
    rw [if_pos rfl] at q
    refine k _ _ _ _ _ q (.upd_newIn hp _) (hr.push hp r) (.ref ?_)
    rw [← hr.len, List.getElem?_append_right (Nat.le_refl _), Nat.sub_self]
    rfl
  | false =>
    rw [if_neg Bool.false_ne_true] at q
    exact k _ _ _ _ _ q (.upd_new hp _) (hr.upd_new hp _) (.lst upd_same (hr.fresh hp) (hr.freshH hp) (r.mono hr (.upd_new hp _)))
theorem Kont.tup {p : Addr} {vs : List V} {ds : List D} (k : Kont F ι H Qd Q) (hr : HR F.K ι H h) (hp : H p = none) (q : Qd (.tup ds) h) (r : Rps F.K ι H vs ds) : Q (.ref p) (upd H p (.tup vs)) :=
  k.new hr hp q fun h1 e => .tup (.inl (.inl upd_same)) (r.mono hr e)

theorem bind1 {t : DS → DH → DQ → Prop} {W : DS → D → DH → DQ → Prop} (q : liftE F (fun τ h Q => t τ h fun x h1 => W τ x h1 Q) σ H Q) :
    liftE F t σ H fun v H1 => ∃ ι τ h x Qd, SR F.K ι H1 h σ τ ∧ Ext F.ι F.H ι H1 ∧ Rp F.K ι H1 v x ∧ W τ x h Qd ∧ Kont F ι H1 Qd Q := by
  obtain ⟨ι, τ, h, Qd, sr, ex, q, k⟩ := q
  exact ⟨ι, τ, h, _, sr, ex, q, fun d h' v H' ι' w e hr rp => ⟨ι', τ, h', d, Qd, sr.mono e hr, ex.trans sr.hr e, rp, w, Kont.mv k hr e⟩⟩
/-- two operands -/
theorem bind2 {ta tb : DS → DH → DQ → Prop} {W : DS → D → D → DH → DQ → Prop} (q : liftE F (fun τ h Q => ta τ h fun x h1 => tb τ h1 fun y h2 => W τ x y h2 Q) σ H Q) :
    liftE F ta σ H fun v H1 => liftE F tb σ H1 fun w H2 => ∃ ι τ h x y Qd, SR F.K ι H2 h σ τ ∧ Ext F.ι F.H ι H2 ∧ Rp F.K ι H2 v x ∧ Rp F.K ι H2 w y ∧ W τ x y h Qd ∧ Kont F ι H2 Qd Q := by
  obtain ⟨ι, τ, h, Qd, sr, ex, q, k⟩ := q
  refine ⟨ι, τ, h, _, sr, ex, q, fun x h1 v H1 ι1 w e1 hr1 rp1 => ?_⟩
  refine ⟨ι1, τ, h1, _, sr.mono e1 hr1, ex.trans sr.hr e1, w, fun y h2 v2 H2 ι2 w2 e2 hr2 rp2 => ?_⟩
  exact ⟨ι2, τ, h2, x, y, Qd, (sr.mono e1 hr1).mono e2 hr2, (ex.trans sr.hr e1).trans hr1 e2, rp1.mono hr1 e2, rp2, w2, Kont.mv k hr2 (e1.trans hr1 e2)⟩
theorem bind3 {ta tb tc : DS → DH → DQ → Prop} {W : DS → D → D → D → DH → DQ → Prop} (q : liftE F (fun τ h Q => ta τ h fun x h1 => tb τ h1 fun y h2 => tc τ h2 fun z h3 => W τ x y z h3 Q) σ H Q) :
    liftE F ta σ H fun v H1 => liftE F tb σ H1 fun w H2 => liftE F tc σ H2 fun u H3 => ∃ ι τ h x y z Qd, SR F.K ι H3 h σ τ ∧ Ext F.ι F.H ι H3 ∧ Rp F.K ι H3 v x ∧ Rp F.K ι H3 w y ∧ Rp F.K ι H3 u z ∧ W τ x y z h Qd ∧ Kont F ι H3 Qd Q := by
  obtain ⟨ι, τ, h, Qd, sr, ex, q, k⟩ := q
  refine ⟨ι, τ, h, _, sr, ex, q, fun x h1 v H1 ι1 w e1 hr1 rp1 => ?_⟩
  refine ⟨ι1, τ, h1, _, sr.mono e1 hr1, ex.trans sr.hr e1, w, fun y h2 v2 H2 ι2 w2 e2 hr2 rp2 => ?_⟩
  refine ⟨ι2, τ, h2, _, (sr.mono e1 hr1).mono e2 hr2, (ex.trans sr.hr e1).trans hr1 e2, w2, fun z h3 v3 H3 ι3 w3 e3 hr3 rp3 => ?_⟩
  exact ⟨ι3, τ, h3, x, y, z, Qd, ((sr.mono e1 hr1).mono e2 hr2).mono e3 hr3, ((ex.trans sr.hr e1).trans hr1 e2).trans hr2 e3, (rp1.mono hr1 e2).mono hr2 e3, rp2.mono hr2 e3, rp3, w3, Kont.mv k hr3 ((e1.trans hr1 e2).trans hr2 e3)⟩
/-- an argument list -/
theorem bindA {t : DS → DH → (List D → DH → Prop) → Prop} {W : DS → List D → DH → DQ → Prop} (q : liftE F (fun τ h Q => t τ h fun x h1 => W τ x h1 Q) σ H Q) :
    liftA F t σ H fun vs H1 => ∃ ι τ h xs Qd, SR F.K ι H1 h σ τ ∧ Ext F.ι F.H ι H1 ∧ Rps F.K ι H1 vs xs ∧ W τ xs h Qd ∧ Kont F ι H1 Qd Q := by
  obtain ⟨ι, τ, h, Qd, sr, ex, q, k⟩ := q
  exact ⟨ι, τ, h, _, sr, ex, q, fun d h' v H' ι' w e hr rp => ⟨ι', τ, h', d, Qd, sr.mono e hr, ex.trans sr.hr e, rp, w, Kont.mv k hr e⟩⟩
theorem bind1A {ta : DS → DH → DQ → Prop} {t : DS → DH → (List D → DH → Prop) → Prop} {W : DS → D → List D → DH → DQ → Prop} (q : liftE F (fun τ h Q => ta τ h fun x h1 => t τ h1 fun ds h2 => W τ x ds h2 Q) σ H Q) :
    liftE F ta σ H fun v H1 => liftA F t σ H1 fun vs H2 => ∃ ι τ h x xs Qd, SR F.K ι H2 h σ τ ∧ Ext F.ι F.H ι H2 ∧ Rp F.K ι H2 v x ∧ Rps F.K ι H2 vs xs ∧ W τ x xs h Qd ∧ Kont F ι H2 Qd Q := by
  obtain ⟨ι, τ, h, Qd, sr, ex, q, k⟩ := q
  refine ⟨ι, τ, h, _, sr, ex, q, fun x h1 v H1 ι1 w e1 hr1 rp1 => ?_⟩
  refine ⟨ι1, τ, h1, _, sr.mono e1 hr1, ex.trans sr.hr e1, w, fun y h2 v2 H2 ι2 w2 e2 hr2 rp2 => ?_⟩
  exact ⟨ι2, τ, h2, x, y, Qd, (sr.mono e1 hr1).mono e2 hr2, (ex.trans sr.hr e1).trans hr1 e2, rp1.mono hr1 e2, rp2, w2, Kont.mv k hr2 (e1.trans hr1 e2)⟩
end

section
variable {X : Cx} {e : Expr} {es : List Expr} {st : Stmt}
theorem PE.imp {t t' : TE} (p : PE X e t) (h : ∀ σ H Q, t' σ H Q → t σ H Q) : PE X e t' := ⟨fun pins s σ H Q I q => p.run pins s σ H Q I (h σ H Q q)⟩
theorem PT.imp {t t' : TT} (p : PT X e t) (h : ∀ σ H Q, t' σ H Q → t σ H Q) : PT X e t' := ⟨fun pins s σ H Q I q => p.run pins s σ H Q I (h σ H Q q)⟩
theorem PA.imp {t t' : TA} (p : PA X es t) (h : ∀ σ H Q, t' σ H Q → t σ H Q) : PA X es t' := ⟨fun pos pins s σ H Q I q => p.run pos pins s σ H Q I (h σ H Q q)⟩
theorem PS.imp {t t' : TS} (p : PS X st t) (h : ∀ D σ H, t' D σ H → t D σ H) : PS X st t' := ⟨fun pins s σ H D I q => p.run pins s σ H D I (h D σ H q)⟩
theorem PSs.imp {sts : List Stmt} {t t' : TS} (p : PSs X sts t) (h : ∀ D σ H, t' D σ H → t D σ H) : PSs X sts t' := ⟨fun pins s σ H D I q => p.run pins s σ H D I (h D σ H q)⟩
end

mutual
theorem py_lay : ∀ d : D, d.pure = true → (py d).canLay0 = true
  | .non, _ => rfl
  | .bl _, _ => rfl
  | .int _, _ => rfl
  | .str x, h => h
  | .tup xs, h => pys_lay xs h
  | .lst xs, h => pys_lay xs h
  | .dic _ _, h => by cases h
  | .scr _, h => by cases h
  | .ref _, h => by cases h
  | .exc _ _ _, h => by cases h
theorem pys_lay : ∀ ds : List D, D.pures ds = true → PyData.canLayAll0 (pys ds) = true
  | [], _ => rfl
  | x :: xs, h => by
    have h : (x.pure && D.pures xs) = true := h
    rw [Bool.and_eq_true] at h
    show (PyData.canLay0 (py x) && PyData.canLayAll0 (pys xs)) = true
    rw [py_lay x h.1, pys_lay xs h.2]; rfl
end
mutual
theorem py_depth : ∀ d : D, (py d).depth = d.depth
  | .non => rfl
  | .bl _ => rfl
  | .int _ => rfl
  | .str x => rfl
  | .tup xs => by show PyData.depthAll (pys xs) + 1 = D.depths xs + 1; rw [pys_depth xs]
  | .lst xs => by show PyData.depthAll (pys xs) + 1 = D.depths xs + 1; rw [pys_depth xs]
  | .dic _ _ => rfl
  | .scr _ => rfl
  | .ref _ => rfl
  | .exc _ _ _ => rfl
theorem pys_depth : ∀ ds : List D, PyData.depthAll (pys ds) = D.depths ds
  | [] => rfl
  | x :: xs => by
    show max (py x).depth (PyData.depthAll (pys xs)) = max x.depth (D.depths xs)
    rw [py_depth x, pys_depth xs]
end
mutual
theorem py_eqv : ∀ d e : D, d.pure = true → e.pure = true → PyData.eqv (py d) (py e) = D.eqv d e
  | .non, e, _, h' => by cases e <;> first | rfl | cases h'
  | .bl _, e, _, _ => by cases e <;> rfl
  | .int _, e, _, _ => by cases e <;> rfl
  | .str x, e, _, _ => by cases e <;> rfl
  | .tup xs, e, h, h' => by
    cases e with
    | tup ys => exact pys_eqv xs ys h h'
    | _ => rfl
  | .lst xs, e, h, h' => by
    cases e with
    | lst ys => exact pys_eqv xs ys h h'
    | _ => rfl
  | .dic _ _, _, h, _ => by cases h
  | .scr _, _, h, _ => by cases h
  | .ref _, _, h, _ => by cases h
  | .exc _ _ _, _, h, _ => by cases h
theorem pys_eqv : ∀ ds es : List D, D.pures ds = true → D.pures es = true → PyData.eqvAll (pys ds) (pys es) = D.eqvs ds es
  | [], es, _, _ => by cases es <;> rfl
  | x :: xs, [], _, _ => rfl
  | x :: xs, y :: ys, h, h' => by
    have h : (x.pure && D.pures xs) = true := h
    have h' : (y.pure && D.pures ys) = true := h'
    rw [Bool.and_eq_true] at h h'
    show (PyData.eqv (py x) (py y) && PyData.eqvAll (pys xs) (pys ys)) = (D.eqv x y && D.eqvs xs ys)
    rw [py_eqv x y h.1 h'.1, pys_eqv xs ys h.2 h'.2]
end
section
variable {K : PySem.W.Frag} {ι : Ix} {H : Hp} {h : DH}
mutual
theorem Rp.dp : ∀ {v : V} {d : D}, d.pure = true → Rp K ι H v d → Dp K H v (py d)
  | _, _, _, .non => .non
  | _, _, _, .bl b => .bl b
  | _, _, _, .int b => .int b
  | _, _, _, .str b => .str b
  | _, _, hp, .tup q t => .tup q (Rps.dp hp t)
  | _, _, hp, .lst q n n2 t => .lst (.inl (.inl q)) (Rps.dp hp t)
  | _, _, hp, .scr q t => by cases hp
  | _, _, hp, .ref q => by cases hp
theorem Rps.dp : ∀ {vs : List V} {ds : List D}, D.pures ds = true → Rps K ι H vs ds → DpAll K H vs (pys ds)
  | _, _, _, .nil => .nil
  | _, x :: xs, hp, r => by
    cases r with
    | cons q t =>
      have hp : (D.pure x && D.pures xs) = true := hp
      rw [Bool.and_eq_true] at hp
      exact .cons (Rp.dp hp.1 q) (Rps.dp hp.2 t)
end
/-- a list at a place too -/
theorem Rp.dpr {v : V} {d : D} (hr : HR K ι H h) (hp : (res h d).pure = true) (q : Rp K ι H v d) : Dp K H v (py (res h d)) := by
  cases q with
  | ref hn =>
    rename_i n a
    have e : res h (.ref n) = (match h[n]? with | some (.lst xs) => D.lst xs | _ => D.ref n) := rfl
    rw [e] at hp ⊢
    cases hq : h[n]? with
    | none => rw [hq] at hp; cases hp
    | some o =>
      rw [hq] at hp
      cases o with
      | lst ys =>
        obtain ⟨a', vs, h1, h2, h3⟩ := hr.ref hq
        rw [hn] at h1; cases h1
        exact .lst (.inl (.inl h2)) (Rps.dp hp h3)
      | dic _ => cases hp
      | ins _ _ => cases hp
  | non => exact .non
  | bl b => exact .bl b
  | int b => exact .int b
  | str b => exact .str b
  | tup q t => exact Rp.dp hp (.tup q t)
  | lst q n n2 t => exact Rp.dp hp (.lst q n n2 t)
  | scr q t => cases hp
end

section
variable {X : Cx} {F : Ent}
/-- an operator's wish, over data -/
def rD (F : Ent) (W : D → D → DH → DQ → Prop) : R2 := fun v w H Q => ∃ ι h x y Qd, HR F.K ι H h ∧ Rp F.K ι H v x ∧ Rp F.K ι H w y ∧ W x y h Qd ∧ Kont F ι H Qd Q
def opA : BinO → Operator
  | .add => .Add | .sub => .Sub | .mul => .Mult | .fdiv => .FloorDiv | .mod => .Mod | .pow => .Pow
def opC : CmpO → PySem.CmpOp
  | .eq => .Eq | .ne => .NotEq | .lt => .Lt | .le => .LtE | .gt => .Gt | .ge => .GtE | .isin => .In | .notin => .NotIn | .is => .Is | .isnot => .IsNot

theorem cutV_eq (xs : List V) (lo hi : Option Int) : cutV xs lo hi = cutL xs lo hi := rfl
theorem sx (F : Ent) : sizeLine = 16777216 := by decide

theorem mulOk_small {x : Str} {n : Int} (h0 : 0 ≤ n) (h1 : n ≤ 1000) (h2 : x.length ≤ 1000) : PySem.MulOk x n := by
  refine ⟨?_, fun h3 _ h4 => ?_, fun h3 _ => ?_⟩
  · rw [Bool.or_eq_false_iff]
    exact ⟨decide_eq_false (by omega), decide_eq_false (by omega)⟩
  · have : (1000 : Int) < (2 ^ 63 - 1) / n := by
      refine Int.lt_of_lt_of_le (b := (2 ^ 63 - 1) / 1000) (by decide) ?_
      have a : (1000 : Int) = ((1000 : Nat) : Int) := rfl
      have hn : n = (n.toNat : Int) := by omega
      rw [hn, Int.le_ediv_iff_mul_le (by omega)]
      have : ((2 ^ 63 - 1) / 1000 : Int) * (n.toNat : Int) ≤ ((2 ^ 63 - 1) / 1000) * 1000 := Int.mul_le_mul_of_nonneg_left (by omega) (by decide)
      exact Int.le_trans this (by decide)
    omega
  · have : x.length * n.toNat ≤ 1000 * 1000 := Nat.mul_le_mul h2 (by omega)
    have hs : sizeLine = 16777216 := by decide
    unfold Builtin.Str.tooLong
    simp
    omega
theorem tcat {pins : List (Addr × Obj)} {s : Shared} {σ : L2.St} {H : Hp} {v w : V} {v' w' : Value} {Q : VK} {ι : Ix} {h : DH} {xs ys : List D} {Qd : DQ} (hK : F.K = X.K) (I : Inv X pins σ H s) (rv : RelV v v') (rw_ : RelV w w')
    (hr : HR F.K ι H h) (hx : Rp F.K ι H v (.tup xs)) (hy : Rp F.K ι H w (.tup ys)) (hz : xs.length + ys.length ≤ 16777216) (q : Qd (.tup (xs ++ ys)) h) (k : Kont F ι H Qd Q) :
    wpAny (model X.prog X.w) X.A (binaryOp .Add v' w') (EP X pins σ Q) X.xe s := by
  cases hx with
  | tup qx tx =>
    rename_i a vs
    cases hy with
    | tup qy ty =>
      rename_i b ws
      rw [hK] at qx qy
      have l1 := tx.length
      have l2 := ty.length
      refine op_catA pins s σ H _ _ _ _ _ I rv rw_ ⟨a, b, vs, ws, rfl, rfl, qx, qy, by rw [sx F]; omega, fun e => ?_, fun _ e => ?_, fun _ _ p hp => ?_⟩
      · subst e
        cases tx
        exact k.here hr q (.tup (by rw [hK]; exact qy) ty)
      · subst e
        cases ty
        rw [List.append_nil] at q
        exact k.here hr q (.tup (by rw [hK]; exact qx) tx)
      · exact k.tup hr hp q (tx.append ty)
theorem op_bin (hK : F.K = X.K) (o : BinO) : OpR X (binaryOp (opA o)) (rD F fun x y h Q => ∃ r, binF h o x y = some r ∧ Q r h) := by
  intro pins s σ H v w v' w' Q I rv rw_ hw
  obtain ⟨ι, h, x, y, Qd, hr, hx, hy, ⟨r, hb, q⟩, k⟩ := hw
  unfold binF at hb
  split at hb
  · cases hb
    have e1 := hx.iv; have e2 := hy.iv; subst e1; subst e2
    exact op_add pins s σ H _ _ _ _ _ I rv rw_ ⟨_, _, rfl, rfl, k.here hr q (.int _)⟩
  · split at hb
    · cases hb
      have e1 := hx.sv; have e2 := hy.sv; subst e1; subst e2
      exact op_add_str pins s σ H _ _ _ _ _ I rv rw_ ⟨_, _, rfl, rfl, by rw [sx F]; assumption, k.here hr q (.str _)⟩
    · cases hb
  · split at hb
    · cases hb
      exact tcat hK I rv rw_ hr hx hy (by assumption) q k
    · cases hb
  · split at hb
    · rename_i xs ys e1 e2
      split at hb
      · cases hb
        obtain ⟨a, vs, rfl, q1, t1⟩ := hx.list hr e1
        obtain ⟨b, ws, rfl, q2, t2⟩ := hy.list hr e2
        refine op_cat pins s σ H _ _ _ _ _ I rv rw_ ⟨a, b, vs, ws, rfl, rfl, q1, q2, by rw [sx F, t1.length, t2.length]; assumption, fun p hp => ?_⟩
        exact k.mk (bx := false) hr hp q (t1.append t2)
      · cases hb
    · cases hb
  · cases hb
    have e1 := hx.iv; have e2 := hy.iv; subst e1; subst e2
    exact op_sub pins s σ H _ _ _ _ _ I rv rw_ ⟨_, _, rfl, rfl, k.here hr q (.int _)⟩
  · split at hb
    · rename_i hn
      cases hb
      have e1 := hx.sv; have e2 := hy.iv; subst e1; subst e2
      obtain ⟨t, rfl⟩ := rv
      obtain ⟨t', rfl⟩ := rw_
      exact PySem.SB.mul (mulOk_small hn.1 hn.2.1 hn.2.2) fun t1 k1 => ⟨.str _, H, I.tok k1, ⟨_, rfl⟩, k.here hr q (.str _)⟩
    · cases hb
  · split at hb
    · cases hb
      have e1 := hx.iv; have e2 := hy.iv; subst e1; subst e2
      exact op_mul pins s σ H _ _ _ _ _ I rv rw_ ⟨_, _, rfl, rfl, by assumption, k.here hr q (.int _)⟩
    · cases hb
  · split at hb
    · cases hb
      have e1 := hx.iv; have e2 := hy.iv; subst e1; subst e2
      exact op_fdiv pins s σ H _ _ _ _ _ I rv rw_ ⟨_, _, rfl, rfl, by assumption, k.here hr q (.int _)⟩
    · cases hb
  · split at hb
    · cases hb
      have e1 := hx.iv; have e2 := hy.iv; subst e1; subst e2
      exact op_mod pins s σ H _ _ _ _ _ I rv rw_ ⟨_, _, rfl, rfl, by assumption, k.here hr q (.int _)⟩
    · cases hb
  · split at hb
    · cases hb
      have e1 := hx.iv; have e2 := hy.iv; subst e1; subst e2
      exact op_pow pins s σ H _ _ _ _ _ I rv rw_ ⟨_, _, rfl, rfl, by assumption, k.here hr q (.int _)⟩
    · cases hb
  · cases hb
/-- lists made into one, known by a place or not -/
theorem op_catL (hK : F.K = X.K) (bx : Bool) : OpR X (binaryOp .Add) (rD F fun x y h Q => ∃ xs, binF h .add x y = some (.lst xs) ∧ mkL bx xs h Q) := by
  intro pins s σ H v w v' w' Q I rv rw_ hw
  obtain ⟨ι, h, x, y, Qd, hr, hx, hy, ⟨r, hb, q⟩, k⟩ := hw
  unfold binF at hb
  split at hb
  · cases hb
  · split at hb <;> cases hb
  · split at hb <;> cases hb
  · split at hb
    · rename_i xs ys e1 e2
      split at hb
      · cases hb
        obtain ⟨a, vs, rfl, q1, t1⟩ := hx.list hr e1
        obtain ⟨b, ws, rfl, q2, t2⟩ := hy.list hr e2
        refine op_cat pins s σ H _ _ _ _ _ I rv rw_ ⟨a, b, vs, ws, rfl, rfl, q1, q2, by rw [sx F, t1.length, t2.length]; assumption, fun p hp => ?_⟩
        exact k.mk (bx := bx) hr hp q (t1.append t2)
      · cases hb
    · cases hb
  all_goals first | cases hb | contradiction | skip
end
end Pf

namespace Pf
open PySem PySem.Spec PyProof.Rows L2

section
variable {X : Cx} {F : Ent}

theorem op_eqDD0 (hK : F.K = X.K) (hu : X.A.units + 64 < cLine) : OpR X (compareOp .Eq) (rD F fun x y h Q => ∃ r, eqF0 h x y = some r ∧ Q (.bl r) h) := by
  intro pins s σ H v w v' w' Q I rv rw_ hw
  obtain ⟨ι, h, x, y, Qd, hr, hx, hy, ⟨r, hb, q⟩, k⟩ := hw
  unfold eqF0 at hb
  simp only at hb
  split at hb
  · rename_i hc
    cases hb
    simp only [Bool.and_eq_true, Bool.or_eq_true, decide_eq_true_eq] at hc
    obtain ⟨⟨p1, p2⟩, dd⟩ := hc
    have d1 := hx.dpr hr p1
    have d2 := hy.dpr hr p2
    rw [hK] at d1 d2
    obtain ⟨as, r1⟩ := Dp.reads I _ _ _ d1 rv
    obtain ⟨bs, r2⟩ := Dp.reads I _ _ _ d2 rw_
    refine SeqAt.compareEq_reads r1 r2 (py_lay _ p1) (py_lay _ p2) ?_ ⟨.bl _, H, I, rfl, ?_⟩
    · rw [py_depth, py_depth]
      have := Nat.min_le_left (res h x).depth (res h y).depth
      have := Nat.min_le_right (res h x).depth (res h y).depth
      omega
    · rw [py_eqv _ _ p1 p2]
      exact k.here hr q (.bl _)
  · cases hb
theorem op_neDD0 (hK : F.K = X.K) (hu : X.A.units + 64 < cLine) : OpR X (compareOp .NotEq) (rD F fun x y h Q => ∃ r, (eqF0 h x y).map (!·) = some r ∧ Q (.bl r) h) := by
  intro pins s σ H v w v' w' Q I rv rw_ hw
  obtain ⟨ι, h, x, y, Qd, hr, hx, hy, ⟨r, hb, q⟩, k⟩ := hw
  unfold eqF0 at hb
  simp only at hb
  split at hb
  · rename_i hc
    cases hb
    simp only [Bool.and_eq_true, Bool.or_eq_true, decide_eq_true_eq] at hc
    obtain ⟨⟨p1, p2⟩, dd⟩ := hc
    have d1 := hx.dpr hr p1
    have d2 := hy.dpr hr p2
    rw [hK] at d1 d2
    obtain ⟨as, r1⟩ := Dp.reads I _ _ _ d1 rv
    obtain ⟨bs, r2⟩ := Dp.reads I _ _ _ d2 rw_
    refine SeqAt.compareNe_reads r1 r2 (py_lay _ p1) (py_lay _ p2) ?_ ⟨.bl _, H, I, rfl, ?_⟩
    · rw [py_depth, py_depth]
      have := Nat.min_le_left (res h x).depth (res h y).depth
      have := Nat.min_le_right (res h x).depth (res h y).depth
      omega
    · rw [py_eqv _ _ p1 p2]
      exact k.here hr q (.bl _)
  · cases hb
theorem op_eqDD (hK : F.K = X.K) (hu : X.A.units + 64 < cLine) : OpR X (compareOp .Eq) (rD F fun x y h Q => ∃ r, eqF h x y = some r ∧ Q (.bl r) h) := by
  intro pins s σ H v w v' w' Q I rv rw_ hw
  obtain ⟨ι, h, x, y, Qd, hr, hx, hy, ⟨r, hb, q⟩, k⟩ := hw
  rcases eqF_or hb with ⟨a, b, rfl, rfl, rfl⟩ | hb
  · cases hx; cases hy
    exact op_eq pins s σ H _ _ v' w' Q I rv rw_ ⟨rfl, by rw [dec_str]; exact k.here hr q (.bl _)⟩
  · exact op_eqDD0 hK hu pins s σ H v w v' w' Q I rv rw_ ⟨ι, h, x, y, Qd, hr, hx, hy, ⟨r, hb, q⟩, k⟩
theorem op_neDD (hK : F.K = X.K) (hu : X.A.units + 64 < cLine) : OpR X (compareOp .NotEq) (rD F fun x y h Q => ∃ r, (eqF h x y).map (!·) = some r ∧ Q (.bl r) h) := by
  intro pins s σ H v w v' w' Q I rv rw_ hw
  obtain ⟨ι, h, x, y, Qd, hr, hx, hy, ⟨r, hb, q⟩, k⟩ := hw
  cases e : eqF h x y with
  | none => rw [e] at hb; cases hb
  | some r0 =>
    rcases eqF_or e with ⟨a, b, rfl, rfl, rfl⟩ | e0
    · rw [e] at hb; cases hb
      cases hx; cases hy
      exact op_ne pins s σ H _ _ v' w' Q I rv rw_ ⟨rfl, by rw [dec_str]; exact k.here hr q (.bl _)⟩
    · exact op_neDD0 hK hu pins s σ H v w v' w' Q I rv rw_ ⟨ι, h, x, y, Qd, hr, hx, hy, ⟨r, by rw [e0, ← e]; exact hb, q⟩, k⟩
theorem op_ltDD (hK : F.K = X.K) (hu : X.A.units + 64 < cLine) : OpR X (compareOp .Lt) (rD F fun x y h Q => ∃ r, ltF x y = some r ∧ Q (.bl r) h) := by
  intro pins s σ H v w v' w' Q I rv rw_ hw
  obtain ⟨ι, h, x, y, Qd, hr, hx, hy, ⟨r, hb, q⟩, k⟩ := hw
  unfold ltF at hb
  split at hb
  · cases hb
    have e1 := hx.iv; have e2 := hy.iv; subst e1; subst e2
    exact op_lt pins s σ H _ _ _ _ _ I rv rw_ ⟨_, _, rfl, rfl, k.here hr q (.bl _)⟩
  · cases hb
    have e1 := hx.sv; have e2 := hy.sv; subst e1; subst e2
    exact op_lt_str pins s σ H _ _ _ _ _ I rv rw_ ⟨_, _, rfl, rfl, k.here hr q (.bl _)⟩
  · rename_i xs ys
    split at hb
    · rename_i hc
      cases hb
      simp only [Bool.and_eq_true, decide_eq_true_eq] at hc
      obtain ⟨⟨⟨p1, p2⟩, al⟩, dd⟩ := hc
      have d1 := Rp.dp (d := D.tup xs) p1 hx
      have d2 := Rp.dp (d := D.tup ys) p2 hy
      rw [hK] at d1 d2
      obtain ⟨as, r1⟩ := Dp.reads I _ _ _ d1 rv
      obtain ⟨bs, r2⟩ := Dp.reads I _ _ _ d2 rw_
      show wpAny _ _ (richCompare .Lt v' w') _ _ _
      refine PySem.W.rcLt_alike _ _ X.A s v' w' as bs r1 r2 al (fun e => by cases e) ?_ _ _ _ _ ⟨.bl _, H, I, rfl, k.here hr q (.bl _)⟩
      rw [py_depth, py_depth]
      have := Nat.min_le_left (D.tup xs).depth (D.tup ys).depth
      have : (D.tup xs).depth = D.depths xs + 1 := rfl
      omega
    · cases hb
  · cases hb
theorem Rp.non_iff {K : PySem.W.Frag} {ι : Ix} {H : Hp} {v : V} {x : D} (q : Rp K ι H v x) : decide (v = .non) = isNon x := by
  cases q <;> rfl
theorem op_isDD (hK : F.K = X.K) : OpR X (compareOp .Is) (rD F fun x y h Q => ∃ r, isF x y = some r ∧ Q (.bl r) h) := by
  intro pins s σ H v w v' w' Q I rv rw_ hw
  obtain ⟨ι, h, x, y, Qd, hr, hx, hy, ⟨r, hb, q⟩, k⟩ := hw
  unfold isF at hb
  split at hb
  · cases hb
    have e1 := hx.bv; have e2 := hy.bv; subst e1; subst e2
    exact op_isBl pins s σ H _ _ _ _ _ I rv rw_ ⟨_, _, rfl, rfl, k.here hr q (.bl _)⟩
  · cases hb
    have e2 := hy.nv; subst e2
    refine op_isN pins s σ H _ _ _ _ _ I rv rw_ ⟨rfl, ?_⟩
    rw [hx.non_iff]
    exact k.here hr q (.bl _)
  · cases hb
theorem op_notDD (hK : F.K = X.K) : OpR X (compareOp .IsNot) (rD F fun x y h Q => ∃ r, (isF x y).map (!·) = some r ∧ Q (.bl r) h) := by
  intro pins s σ H v w v' w' Q I rv rw_ hw
  obtain ⟨ι, h, x, y, Qd, hr, hx, hy, ⟨r, hb, q⟩, k⟩ := hw
  unfold isF at hb
  split at hb
  · cases hb
    have e1 := hx.bv; have e2 := hy.bv; subst e1; subst e2
    exact op_notBl pins s σ H _ _ _ _ _ I rv rw_ ⟨_, _, rfl, rfl, k.here hr q (.bl _)⟩
  · cases hb
    have e2 := hy.nv; subst e2
    refine op_notN pins s σ H _ _ _ _ _ I rv rw_ ⟨rfl, ?_⟩
    rw [hx.non_iff]
    exact k.here hr q (.bl _)
  · cases hb
theorem Str.one_of {s : Str} {c : Nat} (h : s.cps.toList = [c]) : s = ⟨#[c]⟩ := by
  cases s with
  | mk a =>
    have : a = #[c] := by
      have h' := congrArg List.toArray h
      simpa using h'
    rw [this]
theorem any_pys {x : D} (hx : x.pure = true) : ∀ ys : List D, D.pures ys = true → ((pys ys).any fun z => PyData.eqv z (py x)) = ys.any fun z => D.eqv z x
  | [], _ => rfl
  | y :: ys, h => by
    have h : (D.pure y && D.pures ys) = true := h
    rw [Bool.and_eq_true] at h
    show ((py y :: pys ys).any _) = _
    rw [List.any_cons, List.any_cons, any_pys hx ys h.2, py_eqv y x h.1 hx]
theorem op_inDD (hK : F.K = X.K) (hu : X.A.units + 64 < cLine) : OpR X (compareOp .In) (rD F fun x y h Q => ∃ r, inF h x y = some r ∧ Q (.bl r) h) := by
  intro pins s σ H v w v' w' Q I rv rw_ hw
  obtain ⟨ι, h, x, y, Qd, hr, hx, hy, ⟨r, hb, q⟩, k⟩ := hw
  unfold inF at hb
  split at hb
  · split at hb
    · split at hb
      · rename_i hs
        cases hb
        have e1 := hx.sv; have e2 := hy.sv; subst e1; subst e2
        exact op_in_sign pins s σ H _ _ _ _ _ I rv rw_ ⟨_, _, by rw [Str.one_of hs], rfl, k.here hr q (.bl _)⟩
      · cases hb
    · cases hb
  · split at hb
    · rename_i ys hq
      split at hb
      · rename_i hc
        cases hb
        simp only [Bool.and_eq_true, decide_eq_true_eq] at hc
        obtain ⟨⟨p1, p2⟩, dd⟩ := hc
        have d1 := hx.dp p1
        obtain ⟨a, vs, rfl, hs, ht⟩ := hy.seq hr hq
        have d2 := Rps.dp p2 ht
        rw [hK] at d1 d2
        obtain ⟨as, r1⟩ := Dp.reads I _ _ _ d1 rv
        have room : X.A.units + 1 + min (PyData.depthAll (pys ys)) (py x).depth < cLine := by
          rw [py_depth]
          have := Nat.min_le_right (PyData.depthAll (pys ys)) x.depth
          omega
        have fin : EP X pins σ Q (.bool ((pys ys).any fun z => PyData.eqv z (py x))) s := ⟨.bl _, H, I, rfl, by rw [any_pys p1 ys p2]; exact k.here hr q (.bl _)⟩
        rcases hs with hs | hs
        · rw [hK] at hs
          obtain ⟨bs, r2⟩ := Dp.reads I (.list (pys ys)) _ _ (.lst hs d2) rw_
          exact SeqAt.in_list_reads r2 r1 (pys_lay _ p2) (py_lay _ p1) room fin
        · rw [hK] at hs
          obtain ⟨bs, r2⟩ := Dp.reads I (.tuple (pys ys)) _ _ (.tup hs d2) rw_
          exact SeqAt.in_tuple_reads r2 r1 (pys_lay _ p2) (py_lay _ p1) room fin
      · cases hb
    · cases hb
theorem op_notInDD (hK : F.K = X.K) (hu : X.A.units + 64 < cLine) : OpR X (compareOp .NotIn) (rD F fun x y h Q => ∃ r, (inF h x y).map (!·) = some r ∧ Q (.bl r) h) := by
  intro pins s σ H v w v' w' Q I rv rw_ hw
  obtain ⟨ι, h, x, y, Qd, hr, hx, hy, ⟨r, hb, q⟩, k⟩ := hw
  unfold inF at hb
  split at hb
  · split at hb
    · split at hb
      · rename_i hs
        cases hb
        have e1 := hx.sv; have e2 := hy.sv; subst e1; subst e2
        exact op_notIn_sign pins s σ H _ _ _ _ _ I rv rw_ ⟨_, _, by rw [Str.one_of hs], rfl, k.here hr q (.bl _)⟩
      · cases hb
    · cases hb
  · split at hb
    · rename_i ys hq
      split at hb
      · rename_i hc
        cases hb
        simp only [Bool.and_eq_true, decide_eq_true_eq] at hc
        obtain ⟨⟨p1, p2⟩, dd⟩ := hc
        have d1 := hx.dp p1
        obtain ⟨a, vs, rfl, hs, ht⟩ := hy.seq hr hq
        have d2 := Rps.dp p2 ht
        rw [hK] at d1 d2
        obtain ⟨as, r1⟩ := Dp.reads I _ _ _ d1 rv
        have room : X.A.units + 1 + min (PyData.depthAll (pys ys)) (py x).depth < cLine := by
          rw [py_depth]
          have := Nat.min_le_right (PyData.depthAll (pys ys)) x.depth
          omega
        have fin : EP X pins σ Q (.bool (!(pys ys).any fun z => PyData.eqv z (py x))) s := ⟨.bl _, H, I, rfl, by rw [any_pys p1 ys p2]; exact k.here hr q (.bl _)⟩
        rcases hs with hs | hs
        · rw [hK] at hs
          obtain ⟨bs, r2⟩ := Dp.reads I (.list (pys ys)) _ _ (.lst hs d2) rw_
          exact SeqAt.notIn_list_reads r2 r1 (pys_lay _ p2) (py_lay _ p1) room fin
        · rw [hK] at hs
          obtain ⟨bs, r2⟩ := Dp.reads I (.tuple (pys ys)) _ _ (.tup hs d2) rw_
          exact SeqAt.notIn_tuple_reads r2 r1 (pys_lay _ p2) (py_lay _ p1) room fin
      · cases hb
    · cases hb
theorem OpR.imp {f : Value → Value → Sem Value} {r r' : R2} (h : OpR X f r) (i : ∀ x y H Q, r' x y H Q → r x y H Q) : OpR X f r' := fun pins s σ H x y v u Q I rx ry q => h pins s σ H x y v u Q I rx ry (i _ _ _ _ q)
theorem rD_imp {W W' : D → D → DH → DQ → Prop} (h : ∀ x y hh Q, W x y hh Q → W' x y hh Q) (x y : V) (H : Hp) (Q : VK) (q : rD F W x y H Q) : rD F W' x y H Q := by
  obtain ⟨ι, hh, d, e, Qd, hr, hx, hy, w, k⟩ := q
  exact ⟨ι, hh, d, e, Qd, hr, hx, hy, h _ _ _ _ w, k⟩
/-- every comparison -/
theorem op_cmp (hK : F.K = X.K) (hu : X.A.units + 64 < cLine) (o : CmpO) : OpR X (compareOp (opC o)) (rD F fun x y h Q => ∃ r, cmpF h o x y = some r ∧ Q (.bl r) h) := by
  cases o with
  | eq => exact OpR.imp (op_eqDD hK hu) (rD_imp fun x y h Q q => q)
  | ne => exact OpR.imp (op_neDD hK hu) (rD_imp fun x y h Q q => q)
  | lt => exact OpR.imp (op_ltDD hK hu) (rD_imp fun x y h Q q => q)
  | isin => exact OpR.imp (op_inDD hK hu) (rD_imp fun x y h Q q => q)
  | notin => exact OpR.imp (op_notInDD hK hu) (rD_imp fun x y h Q q => q)
  | is => exact OpR.imp (op_isDD hK) (rD_imp fun x y h Q q => q)
  | isnot => exact OpR.imp (op_notDD hK) (rD_imp fun x y h Q q => q)
  | le =>
    intro pins s σ H v w v' w' Q I rv rw_ hw
    obtain ⟨ι, h, x, y, Qd, hr, hx, hy, ⟨r, hb, q⟩, k⟩ := hw
    have hb : leF x y = some r := hb
    unfold leF at hb
    split at hb
    · cases hb
      have e1 := hx.iv; have e2 := hy.iv; subst e1; subst e2
      exact op_le pins s σ H _ _ _ _ _ I rv rw_ ⟨_, _, rfl, rfl, k.here hr q (.bl _)⟩
    · cases hb
      have e1 := hx.sv; have e2 := hy.sv; subst e1; subst e2
      exact op_le_str pins s σ H _ _ _ _ _ I rv rw_ ⟨_, _, rfl, rfl, k.here hr q (.bl _)⟩
    · cases hb
  | gt =>
    intro pins s σ H v w v' w' Q I rv rw_ hw
    obtain ⟨ι, h, x, y, Qd, hr, hx, hy, ⟨r, hb, q⟩, k⟩ := hw
    have hb : gtF x y = some r := hb
    unfold gtF at hb
    split at hb
    · cases hb
      have e1 := hx.iv; have e2 := hy.iv; subst e1; subst e2
      exact op_gt pins s σ H _ _ _ _ _ I rv rw_ ⟨_, _, rfl, rfl, k.here hr q (.bl _)⟩
    · cases hb
  | ge =>
    intro pins s σ H v w v' w' Q I rv rw_ hw
    obtain ⟨ι, h, x, y, Qd, hr, hx, hy, ⟨r, hb, q⟩, k⟩ := hw
    have hb : geF x y = some r := hb
    unfold geF at hb
    split at hb
    · cases hb
      have e1 := hx.iv; have e2 := hy.iv; subst e1; subst e2
      exact op_ge pins s σ H _ _ _ _ _ I rv rw_ ⟨_, _, rfl, rfl, k.here hr q (.bl _)⟩
    · cases hb

theorem atO_rel {K : PySem.W.Frag} {ι : Ix} {H : Hp} {vs : List V} {ds : List D} {i : Int} {d : D} (t : Rps K ι H vs ds) (e : atO ds i = some d) : ∃ v, atI vs i = some v ∧ Rp K ι H v d := by
  unfold atO at e
  unfold atI
  rw [← t.length] at e
  show ∃ v, ((ixO vs.length i).bind fun j => vs[j]?) = some v ∧ _
  cases q : ixO vs.length i with
  | none => rw [q] at e; cases e
  | some j =>
    rw [q] at e
    exact t.get (by simpa using e)
theorem ix_DD (hK : F.K = X.K) : IxR X (rD F fun x y h Q => ∃ r, idxF h x y = some r ∧ Q r h) := by
  intro value slice pins s σ H v w v' w' Q I rv rw_ hw hs
  obtain ⟨ι, h, x, y, Qd, hr, hx, hy, ⟨r, hb, q⟩, k⟩ := hw
  unfold idxF at hb
  split at hb
  · rename_i i
    have e2 := hy.iv; subst e2
    split at hb
    · rename_i z
      split at hb
      · have e1 := hx.sv; subst e1
        rw [Option.map_eq_some_iff] at hb
        obtain ⟨c, hc, rfl⟩ := hb
        exact ix_str value slice pins s σ H _ _ _ _ _ I rv rw_ ⟨_, _, c, rfl, rfl, by rw [sx F]; assumption, hc, k.here hr q (.str _)⟩ hs
      · cases hb
    · rw [Option.bind_eq_some_iff] at hb
      obtain ⟨xs, hq, hi⟩ := hb
      obtain ⟨a, vs, rfl, hsq, ht⟩ := hx.seq hr hq
      obtain ⟨u, hu, ru⟩ := atO_rel ht hi
      rw [hK] at hsq
      rcases hsq with hsq | hsq
      · exact ix_list value slice pins s σ H _ _ _ _ _ I rv rw_ ⟨_, vs, i, u, rfl, rfl, hsq, hu, k.here hr q ru⟩ hs
      · exact ix_tup value slice pins s σ H _ _ _ _ _ I rv rw_ ⟨_, vs, i, u, rfl, rfl, hsq, hu, k.here hr q ru⟩ hs
  · cases hb
end
end Pf

namespace Pf
open PySem PySem.Spec PyProof.Rows L2
section
variable {X : Cx} {F : Ent}
/-- what is said of a sequence of data before one is looked up in it -/
theorem seqD {pins : List (Addr × Obj)} {σ : L2.St} {H : Hp} {s : Shared} {its : List Value} {vs : List V} {ds : List PyData} {d : PyData} {v : V} {u : Value} (I : Inv X pins σ H s) (rv : Vals vs its) (ha : DpAll X.K H vs ds) (hv : Dp X.K H v d) (ru : RelV v u)
    (hu : X.A.units + 70 < cLine) (lay : PyData.canLayAll0 ds = true) (layd : d.canLay0 = true) (dep : d.depth ≤ 60) :
    its.map (SeqAt.readOf s.heap) = ds ∧ its.length = ds.length ∧ ∀ y, y ∈ its.toArray → SeqAt.EqAt X.A.in1 s y u (PyData.eqv (SeqAt.readOf s.heap y) d) := by
  obtain ⟨as, r1⟩ := Dp.reads I d v u hv ru
  obtain ⟨bs, r2⟩ := Dp.readsAll I ds vs its ha rv
  refine ⟨SeqAt.readsAll_map ds its bs lay r2, SeqAt.ReadsAll.length ds its bs r2, ?_⟩
  refine SeqAt.items_eqAt (vs := its.toArray) (show ReadsAll s.heap its.toArray.toList ds bs from r2) r1 lay layd ?_
  show X.A.units + 1 + min (PyData.depthAll ds) d.depth < cLine
  have : min (PyData.depthAll ds) d.depth ≤ 60 := Nat.le_trans (Nat.min_le_right _ _) dep
  omega
theorem readAt {h : Heap} {its : List Value} {ds : List PyData} (e : its.map (SeqAt.readOf h) = ds) {m : Nat} (hm : m < its.toArray.size) {z : PyData} (hz : ds[m]? = some z) : SeqAt.readOf h its.toArray[m] = z := by
  have hm' : m < its.length := by simpa using hm
  rw [← e, List.getElem?_map, List.getElem?_eq_getElem hm', Option.map_some] at hz
  have := Option.some.inj hz
  simpa using this
/-- t.index(x), t a tuple of data -/
theorem mt_tindexD (hu : X.A.units + 70 < cLine) : MtR X "tuple.index" (fun x xs H Q => ∃ (a : Addr) (vs : List V) (y : V) (d : PyData) (ds : List PyData) (j : Nat) (z : PyData), x = V.ref a ∧ xs = [y] ∧ SqT X.K H a vs ∧ DpAll X.K H vs ds ∧ Dp X.K H y d ∧
    PyData.canLayAll0 ds = true ∧ d.canLay0 = true ∧ d.depth ≤ 60 ∧ ds[j]? = some z ∧ PyData.eqv z d = true ∧ (∀ (m : Nat) (z' : PyData), m < j → ds[m]? = some z' → PyData.eqv z' d = false) ∧ Q (.int (j : Nat)) H) := by
  intro pins s σ H x xs v us Q I rx rxs h
  obtain ⟨a, vs, y, d, ds, j, z, rfl, rfl, hs, ha, hy, lay, layd, dep, hz, hzj, hno, q⟩ := h
  cases rx
  obtain ⟨u, rfl, ru⟩ := vals1 rxs
  obtain ⟨its, rv, ⟨⟨cls, dd, data, sls⟩, ho, hc, n, hdt⟩, hlen⟩ := I.tuple hs
  simp only at hc hdt
  subst hc hdt
  obtain ⟨hm, hl, heq⟩ := seqD I rv ha hy ru hu lay layd dep
  obtain ⟨hjd, _⟩ := List.getElem?_eq_some_iff.mp hz
  have hj : j < its.toArray.size := by simp; omega
  refine call_meets PySem.F.slot_tuple_index ⟨_, ho, rfl⟩ PySem.F.entry_tuple_index (PySem.F.args_tuple_index_2 _ _)
    (TI.tuple_indexAt a its.toArray n dd sls u (fun w => PyData.eqv (SeqAt.readOf s.heap w) d) j hj ?_ ?_) ⟨ho, heq, ⟨.int (j : Nat), H, I.tok _, ⟨_, rfl⟩, q⟩⟩
  · show PyData.eqv (SeqAt.readOf s.heap its.toArray[j]) d = true
    rw [readAt hm hj hz]; exact hzj
  · intro m hmm hmj
    have hmd : m < ds.length := by omega
    have hz' : ds[m]? = some ds[m] := List.getElem?_eq_getElem hmd
    show PyData.eqv (SeqAt.readOf s.heap its.toArray[m]) d = false
    rw [readAt hm hmm hz']
    exact hno m _ hmj hz'
theorem countP_read {h : Heap} {its : List Value} {ds : List PyData} {d : PyData} (e : its.map (SeqAt.readOf h) = ds) : its.countP (fun w => PyData.eqv (SeqAt.readOf h w) d) = ds.countP fun z => PyData.eqv z d := by
  rw [← e, List.countP_map]; rfl
theorem mt_countD (hu : X.A.units + 70 < cLine) (tp : Bool) : MtR X (if tp = true then "tuple.count" else "list.count") (fun x xs H Q => ∃ (a : Addr) (vs : List V) (y : V) (d : PyData) (ds : List PyData), x = V.ref a ∧ xs = [y] ∧ (if tp = true then SqT X.K H a vs else SqL X.K H a vs) ∧ DpAll X.K H vs ds ∧ Dp X.K H y d ∧
    PyData.canLayAll0 ds = true ∧ d.canLay0 = true ∧ d.depth ≤ 60 ∧ Q (.int (ds.countP fun z => PyData.eqv z d : Nat)) H) := by
  intro pins s σ H x xs v us Q I rx rxs h
  obtain ⟨a, vs, y, d, ds, rfl, rfl, hs, ha, hy, lay, layd, dep, q⟩ := h
  cases rx
  obtain ⟨u, rfl, ru⟩ := vals1 rxs
  cases tp with
  | true =>
    obtain ⟨its, rv, ⟨⟨cls, dd, data, sls⟩, ho, hc, n, hdt⟩, hlen⟩ := I.tuple hs
    simp only at hc hdt
    subst hc hdt
    obtain ⟨hm, hl, heq⟩ := seqD I rv ha hy ru hu lay layd dep
    refine call_meets PySem.F.slot_tuple_count ⟨_, ho, rfl⟩ PySem.F.entry_tuple_count (PySem.F.args_tuple_count_2 _ _)
      (SeqAt.tuple_countAt a its.toArray n dd sls u (fun w => PyData.eqv (SeqAt.readOf s.heap w) d)) ⟨ho, heq, ⟨.int (ds.countP fun z => PyData.eqv z d : Nat), H, I.tok _, ⟨s.toks, ?_⟩, q⟩⟩
    rw [show its.toArray.toList = its from rfl, countP_read hm]
  | false =>
    obtain ⟨its, rv, ⟨⟨cls, dd, data, sls⟩, n, ho, hc, hdn, hdt⟩, hlen⟩ := I.list hs
    simp only at hc hdt
    subst hc hdt
    obtain ⟨hm, hl, heq⟩ := seqD I rv ha hy ru hu lay layd dep
    refine call_meets PySem.F.slot_list_count ⟨_, ho, rfl⟩ PySem.F.entry_list_count (PySem.F.args_list_count_2 _ _)
      (SeqAt.list_countAt a its.toArray n dd sls u (fun w => PyData.eqv (SeqAt.readOf s.heap w) d)) ⟨ho, heq, ⟨.int (ds.countP fun z => PyData.eqv z d : Nat), H, I.tok _, ⟨s.toks, ?_⟩, q⟩⟩
    rw [show its.toArray.toList = its from rfl, countP_read hm]
theorem rps_rep {K : PySem.W.Frag} {ι : Ix} {H : Hp} {vs : List V} {ds : List D} (t : Rps K ι H vs ds) : ∀ k : Nat, Rps K ι H (List.replicate k vs).flatten (List.replicate k ds).flatten
  | 0 => .nil
  | k + 1 => by
    rw [List.replicate_succ, List.replicate_succ, List.flatten_cons, List.flatten_cons]
    exact t.append (rps_rep t k)
theorem vals_rep {vs : List V} {us : List Value} (t : Vals vs us) : ∀ k : Nat, Vals (List.replicate k vs).flatten (List.replicate k us).flatten
  | 0 => .nil
  | k + 1 => by
    rw [List.replicate_succ, List.replicate_succ, List.flatten_cons, List.flatten_cons]
    exact t.append (vals_rep t k)
theorem len_rep {α : Type} (xs : List α) (k : Nat) : (List.replicate k xs).flatten.length = k * xs.length := by simp
/-- list * int -/
theorem op_repL : OpR X (binaryOp .Mult) (fun x y H Q => ∃ l k vs, x = V.ref l ∧ y = V.int k ∧ SqL X.K H l vs ∧ -1000 ≤ k ∧ k ≤ 1000 ∧ vs.length ≤ 1000 ∧ ∀ p, H p = none → Q (.ref p) (upd H p (.lst (List.replicate k.toNat vs).flatten))) := by
  intro pins s σ H x y v u Q I rx ry h
  obtain ⟨l, k, vs, rfl, rfl, hs, k0, k1, hz, q⟩ := h
  cases rx
  obtain ⟨t, rfl⟩ := ry
  obtain ⟨its, rv, ⟨⟨cls, dd, data, sls⟩, n, ho, hc, hdn, hdt⟩, hlen⟩ := I.list hs
  simp only at hc hdt
  subst hc hdt
  have hl : its.length = vs.length := rv.length.symm
  have a1 : its.length * k.toNat ≤ 1000 * 1000 := Nat.mul_le_mul (by omega) (by omega)
  refine wpAny_binaryOp_repeat_ref (T := "list") (U := "int") (by decide) ⟨_, ho, rfl⟩ (fun s' => typeIs_int s' k t) noFill_list_mul F.fills_int_mul F.slot_int_rmul repeat_list F.slot_int_index.lookup
    (call_meets F.slot_int_rmul (typeIs_int s k t) F.entry_int_rmul (F.args_int_rmul_2 _ _) (lm_int_rmul_list_any k t l its.toArray n dd sls)
      ⟨ho, rfl, ⟨_, ho, rfl⟩, call_meets F.slot_list_mul ⟨_, ho, rfl⟩ F.entry_list_mul (F.args_list_mul_2 _ _)
        (lm_list_mul_any l its.toArray n dd sls k t (by simp [Builtin.List.listFitsIndex]; omega) (by rw [List.size_toArray]; omega) (by rw [List.size_toArray]; simp [Builtin.List.listTooLong, sizeLine]; omega))
        ⟨ho, ?_⟩⟩)
  rw [listMul_foldl_if]
  have hsz : (List.replicate k.toNat vs).flatten.length ≤ sizeLine := by
    rw [len_rep, sizeLine_eq, Nat.mul_comm, ← hl]; omega
  exact ⟨.ref s.heap.objs.size, _, I.laid (t' := s.toks) (o := .lst (List.replicate k.toNat vs).flatten) (fun b ob q => Heap.get?_push_of_some _ q) (Nat.le_refl _) ⟨hsz, _, 0, vals_rep rv k.toNat, Heap.get?_push_size _ rfl⟩, rfl, q _ (I.hok.fresh (Nat.le_refl _))⟩
end
end Pf

namespace Pf
open PySem PySem.Spec PyProof.Rows L2

/-- a list of arguments' wish, over data -/
def rDs (F : Ent) (W : List D → DH → DQ → Prop) : List V → Hp → VK → Prop := fun vs H Q => ∃ ι h xs Qd, HR F.K ι H h ∧ Rps F.K ι H vs xs ∧ W xs h Qd ∧ Kont F ι H Qd Q
def rMD (F : Ent) (W : D → List D → DH → DQ → Prop) : V → List V → Hp → VK → Prop := fun v vs H Q => ∃ ι h x xs Qd, HR F.K ι H h ∧ Rp F.K ι H v x ∧ Rps F.K ι H vs xs ∧ W x xs h Qd ∧ Kont F ι H Qd Q
def bfVal : BF → Value
  | .len => .builtin "len" | .abs => .builtin "abs" | .int => .type "int" | .str => .type "str" | .ord => .builtin "ord"
  | .list => .type "list" | .tuple => .type "tuple" | .all => .builtin "all" | .any => .builtin "any" | .min => .builtin "min" | .max => .builtin "max"
  | .sum => .builtin "sum" | .lenset => .none | .list0 => .none
section
variable {K : PySem.W.Frag} {ι : Ix} {H : Hp}
theorem bls_rel : ∀ {vs : List V} {ys : List D} {bs : List Bool}, Rps K ι H vs ys → blsOf ys = some bs → vs = bs.map V.bl
  | _, _, _, .nil, e => by cases e; rfl
  | v :: vs, y :: ys, bs, r, e => by
    cases r with
    | cons q t =>
      cases y with
      | bl b =>
        have e : (blsOf ys).map (b :: ·) = some bs := e
        rw [Option.map_eq_some_iff] at e
        obtain ⟨cs, e1, rfl⟩ := e
        rw [q.bv, bls_rel t e1]; rfl
      | _ => cases e
theorem ints_rel : ∀ {vs : List V} {ys : List D} {bs : List Int}, Rps K ι H vs ys → intsOf ys = some bs → vs = bs.map V.int
  | _, _, _, .nil, e => by cases e; rfl
  | v :: vs, y :: ys, bs, r, e => by
    cases r with
    | cons q t =>
      cases y with
      | int b =>
        have e : (intsOf ys).map (b :: ·) = some bs := e
        rw [Option.map_eq_some_iff] at e
        obtain ⟨cs, e1, rfl⟩ := e
        rw [q.iv, ints_rel t e1]; rfl
      | _ => cases e
theorem strs_rel : ∀ {vs : List V} {ys : List D} {bs : List Str}, Rps K ι H vs ys → strsOf ys = some bs → vs = bs.map V.str
  | _, _, _, .nil, e => by cases e; rfl
  | v :: vs, y :: ys, bs, r, e => by
    cases r with
    | cons q t =>
      cases y with
      | str b =>
        have e : (strsOf ys).map (b :: ·) = some bs := e
        rw [Option.map_eq_some_iff] at e
        obtain ⟨cs, e1, rfl⟩ := e
        rw [q.sv, strs_rel t e1]; rfl
      | _ => cases e
theorem Rps.one {vs : List V} {x : D} (r : Rps K ι H vs [x]) : ∃ v, vs = [v] ∧ Rp K ι H v x := by
  cases r with
  | cons q t => cases t; exact ⟨_, rfl, q⟩
theorem Rps.two {vs : List V} {x y : D} (r : Rps K ι H vs [x, y]) : ∃ v w, vs = [v, w] ∧ Rp K ι H v x ∧ Rp K ι H w y := by
  cases r with
  | cons q t =>
    cases t with
    | cons q' t => cases t; exact ⟨_, _, rfl, q, q'⟩
end

section
variable {X : Cx} {F : Ent}
theorem call_strD (hK : F.K = X.K) (hu : X.A.units + 70 < cLine) (hg : X.A.guards = some []) : CallR X (.type "str") (rDs F fun xs h Q => ∃ x s, xs = [x] ∧ strF h x = some s ∧ Q (.str s) h) := by
  intro pins s σ H vs us Q I rvs hw
  obtain ⟨ι, h, xs, Qd, hr, ht, ⟨x, z, rfl, hz, q⟩, k⟩ := hw
  obtain ⟨v, rfl, hv⟩ := ht.one
  obtain ⟨u, rfl, ru⟩ := vals1 rvs
  have main : ∀ (hc : ((res h x).pure && (py (res h x)).showable && decide ((res h x).depth ≤ 60) && decide ((py (res h x)).shown.length ≤ 16777216)) = true) (q : Qd (.str (py (res h x)).shown) h), (∀ (y : Str) (t : Tok), u ≠ .str y t) →
      wpAny (model X.prog X.w) X.A (call (.type "str") [u]) (EP X pins σ Q) X.xe s := by
    intro hc q nstr
    simp only [Bool.and_eq_true, decide_eq_true_eq] at hc
    obtain ⟨⟨⟨p1, sh⟩, dd⟩, ll⟩ := hc
    have d1 := hv.dpr hr p1
    rw [hK] at d1
    obtain ⟨as, r1⟩ := Dp.reads I _ _ _ d1 ru
    cases hres : res h x with
    | non =>
      rw [hres] at d1 q; cases d1
      cases ru
      exact PySem.P.str_of_none ⟨.str _, H, I.tok _, ⟨_, rfl⟩, k.here hr q (.str _)⟩
    | bl b =>
      rw [hres] at d1 q; cases d1
      cases ru
      refine PySem.P.str_of_bool ⟨.str _, H, I.tok _, ⟨_, rfl⟩, ?_⟩
      have : (py (.bl b)).shown = (if b then "True" else "False" : Str) := by rw [show py (.bl b) = .bool b from rfl, PyData.shown_bool]
      rw [this] at q
      exact k.here hr q (.str _)
    | int i =>
      rw [hres] at d1 q sh; cases d1
      obtain ⟨t, rfl⟩ := ru
      have e : (py (.int i)).shown = ((toString i : String) : Str) := by rw [show py (.int i) = .int i from rfl, PyData.shown_int]
      rw [e] at q
      have sh : decide (i.natAbs.log2 < 1920) = true := sh
      exact PySem.P.str_of_int (of_decide_eq_true sh) ⟨.str _, H, I.tok _, ⟨_, rfl⟩, k.here hr q (.str _)⟩
    | str y =>
      rw [hres] at d1; cases d1
      obtain ⟨t, rfl⟩ := ru
      exact absurd rfl (nstr y t)
    | tup ys =>
      rw [hres] at d1; cases d1
      cases ru
      have dd2 : ((py (res h x)).depth) ≤ 60 := by rw [py_depth]; exact dd
      refine str_of_reads r1 sh (noDict_of (py_lay _ p1)) hg (by omega) (fun _ _ e => e) (fun h' u tk hk => ⟨.str _, H, I.kept hk, ⟨_, rfl⟩, k.here hr q (.str _)⟩) (by rw [sx F]; exact ll)
    | lst ys =>
      rw [hres] at d1; cases d1
      cases ru
      have dd2 : ((py (res h x)).depth) ≤ 60 := by rw [py_depth]; exact dd
      refine str_of_reads r1 sh (noDict_of (py_lay _ p1)) hg (by omega) (fun _ _ e => e) (fun h' u tk hk => ⟨.str _, H, I.kept hk, ⟨_, rfl⟩, k.here hr q (.str _)⟩) (by rw [sx F]; exact ll)
    | dic _ _ => rw [hres] at p1; cases p1
    | scr _ => rw [hres] at p1; cases p1
    | ref _ => rw [hres] at p1; cases p1
    | exc _ _ _ => rw [hres] at p1; cases p1
  unfold strF at hz
  split at hz
  · cases hz
    have e := hv.sv; subst e
    obtain ⟨t, rfl⟩ := ru
    exact PySem.P.str_of_str ⟨.str _, H, I, ⟨_, rfl⟩, k.here hr q (.str _)⟩
  · split at hz
    · rename_i hn hc
      cases hz
      refine main hc q fun y t e => ?_
      subst e
      have e := (L2.RelV.abs ru)
      have : v = .str y := (Option.some.inj e).symm
      subst this
      cases hv
      exact hn _ rfl
    · cases hz
where noDict_of {d : PyData} {as : List Addr} (h : d.canLay0 = true) : d.hasDict = true → sysModules ∉ as := PyData.noDict_hsm (PyData.hasDict_of_canLay d h)

theorem call_bf (hK : F.K = X.K) (hc : X.calm = true) (hu : X.A.units + 70 < cLine) (hg : X.A.guards = some []) (f : BF) (bx : Bool) (hl : f ≠ .lenset) (hl0 : f ≠ .list0) : CallR X (bfVal f) (rDs F (bfW f bx)) := by
  intro pins s σ H vs us Q I rvs hw
  obtain ⟨ι, h, xs, Qd, hr, ht, w, k⟩ := hw
  unfold bfW at w
  split at w
  · rename_i x
    obtain ⟨n, hn, q⟩ := w
    obtain ⟨v, rfl, hv⟩ := ht.one
    unfold lenF at hn
    split at hn
    · split at hn
      · cases hn
        have e := hv.sv; subst e
        exact call_len_str pins s σ H _ us Q I rvs ⟨_, rfl, by rw [sx F]; assumption, k.here hr q (.int _)⟩
      · cases hn
    · rw [Option.map_eq_some_iff] at hn
      obtain ⟨ys, hq, rfl⟩ := hn
      obtain ⟨a, ws, rfl, hs, t⟩ := hv.seq hr hq
      rw [hK] at hs
      refine call_len_seq pins s σ H _ us Q I rvs ⟨a, ws, rfl, hs, ?_⟩
      rw [t.length]
      exact k.here hr q (.int _)
  · obtain ⟨i, rfl, q⟩ := w
    obtain ⟨v, rfl, hv⟩ := ht.one
    have e := hv.iv; subst e
    exact call_abs pins s σ H _ us Q I rvs ⟨i, rfl, k.here hr q (.int _)⟩
  · obtain ⟨v, rfl, hv⟩ := ht.one
    rcases w with ⟨i, rfl, q⟩ | ⟨i, rfl, q⟩
    · have e := hv.iv; subst e
      exact call_int1 pins s σ H _ us Q I rvs (.inl ⟨i, rfl, k.here hr q (.int _)⟩)
    · have e := hv.bv; subst e
      exact call_int1 pins s σ H _ us Q I rvs (.inr ⟨i, rfl, k.here hr q (.int _)⟩)
  · obtain ⟨z, rfl, hz, q⟩ := w
    obtain ⟨v, rfl, hv⟩ := ht.one
    have e := hv.sv; subst e
    exact call_ord pins s σ H _ us Q I rvs ⟨z, rfl, hz, k.here hr q (.int _)⟩
  · obtain ⟨z, hz, q⟩ := w
    exact call_strD hK hu hg pins s σ H vs us Q I rvs ⟨ι, h, _, Qd, hr, ht, ⟨_, z, rfl, hz, q⟩, k⟩
  · obtain ⟨ys, hq, q⟩ := w
    obtain ⟨v, rfl, hv⟩ := ht.one
    obtain ⟨a, ws, rfl, hs, t⟩ := hv.seq hr hq
    rw [hK] at hs
    exact call_list_of pins s σ H _ us Q I rvs ⟨a, ws, rfl, hs, fun p hp => k.mk hr hp q t⟩
  · obtain ⟨ys, hq, q⟩ := w
    obtain ⟨v, rfl, hv⟩ := ht.one
    obtain ⟨a, ws, rfl, hs, t⟩ := hv.seq hr hq
    rcases hs with hs | hs
    · rw [hK] at hs
      exact call_tuple_of pins s σ H _ us Q I rvs ⟨a, ws, rfl, .inl ⟨hs, fun p hp => k.tup hr hp q t⟩⟩
    · have hs' := hs
      rw [hK] at hs'
      exact call_tuple_of pins s σ H _ us Q I rvs ⟨a, ws, rfl, .inr ⟨hs', k.here hr q (.tup hs t)⟩⟩
  · obtain ⟨ys, bs, hq, hb, q⟩ := w
    obtain ⟨v, rfl, hv⟩ := ht.one
    obtain ⟨a, ws, rfl, hs, t⟩ := hv.list hr hq
    have e := bls_rel t hb
    subst e
    exact cr_all hc pins s σ H _ us Q I rvs ⟨a, bs, rfl, .inl (.inl hs), k.here hr q (.bl _)⟩
  · obtain ⟨ys, bs, hq, hb, q⟩ := w
    obtain ⟨v, rfl, hv⟩ := ht.one
    obtain ⟨a, ws, rfl, hs, t⟩ := hv.list hr hq
    have e := bls_rel t hb
    subst e
    exact cr_any hc pins s σ H _ us Q I rvs ⟨a, bs, rfl, .inl (.inl hs), k.here hr q (.bl _)⟩
  · obtain ⟨i, j, rfl, rfl, q⟩ := w
    obtain ⟨v, w', rfl, hv, hw'⟩ := ht.two
    have e := hv.iv; subst e
    have e := hw'.iv; subst e
    exact call_min2 hc pins s σ H _ us Q I rvs ⟨i, j, rfl, k.here hr q (.int _)⟩
  · obtain ⟨i, j, rfl, rfl, q⟩ := w
    obtain ⟨v, w', rfl, hv, hw'⟩ := ht.two
    have e := hv.iv; subst e
    have e := hw'.iv; subst e
    exact call_max2 hc pins s σ H _ us Q I rvs ⟨i, j, rfl, k.here hr q (.int _)⟩
  · obtain ⟨ys, bs, hq, hb, q⟩ := w
    obtain ⟨v, rfl, hv⟩ := ht.one
    obtain ⟨a, ws, rfl, hs, t⟩ := hv.list hr hq
    have e := ints_rel t hb
    subst e
    exact cr_sum hc pins s σ H _ us Q I rvs ⟨a, bs, rfl, .inl (.inl hs), k.here hr q (.int _)⟩
  · exact w.elim

def tyStr : Ty → String
  | .int => "int" | .bool => "bool" | .str => "str" | .list => "list" | .tuple => "tuple" | .none => "NoneType"
theorem ty_rel {K : PySem.W.Frag} {ι : Ix} {H : Hp} {h : DH} {v : V} {x : D} {t : Ty} (hr : HR K ι H h) (q : Rp K ι H v x) (e : tyOf h x = some t) : TyX K H v (.type (tyStr t)) := by
  cases q with
  | non => cases e; exact .base .non
  | bl b => cases e; exact .base (.bl b)
  | int b => cases e; exact .base (.int b)
  | str b => cases e; exact .base (.str b)
  | tup q t =>
    cases e
    rcases q with (q | ⟨o, q⟩) | ⟨o, its, n, hk, hc, _⟩
    · exact .base (.tup q)
    · exact .fTuple q
    · exact .kTuple hk hc
  | lst q n n2 t => cases e; exact .base (.lst q)
  | scr q t => cases e
  | ref hn =>
    rename_i n a
    have e : (match h[n]? with | some (.lst _) => some Ty.list | _ => none) = some t := e
    cases hq : h[n]? with
    | none => rw [hq] at e; cases e
    | some o =>
      rw [hq] at e
      cases o with
      | lst ys =>
        cases e
        obtain ⟨a', vs, h1, h2, h3⟩ := hr.ref hq
        rw [hn] at h1; cases h1
        exact .base (.lst h2)
      | dic _ => cases e
      | ins _ _ => cases e
theorem isTy_kit {K : PySem.W.Frag} : ∀ a b : Ty, PySem.W.kitOne K (.type (tyStr a)) (.type (tyStr b)) = some (isTy a b) := by
  intro a b
  refine kit_ty ?_
  cases a <;> cases b <;> decide +kernel
theorem isTys_kit {K : PySem.W.Frag} (a : Ty) : ∀ ts : List Ty, PySem.W.kitAny K (.type (tyStr a)) (ts.map fun t => .type (tyStr t)) = some (ts.any (isTy a))
  | [] => kitAny_nil
  | t :: ts => by
    refine kitAny_cons (isTy_kit a t) (fun e => ?_) (fun e => ?_)
    · rw [isTys_kit a ts, List.any_cons, e, Bool.false_or]
    · rw [List.any_cons, e, Bool.true_or]

def mfId : MF → String
  | .append => "list.append" | .pop => "list.pop" | .index => "list.index" | .join => "str.join" | .insert => "list.insert" | .extend => "list.extend" | .count => "list.count" | .reverse => "list.reverse" | .tindex => "tuple.index" | .tcount => "tuple.count"
theorem ixO_seq {n : Nat} {i : Int} {j : Nat} (h : ixO n i = some j) : seqIndex? i n = some j ∧ j < n ∧ -(n : Int) ≤ i ∧ i < n := ixN_seq h
theorem find_pys {x : D} (hx : x.pure = true) : ∀ (ys : List D) (j : Nat), D.pures ys = true → ys.findIdx? (fun z => D.eqv z x) = some j →
    (∃ z, (pys ys)[j]? = some z ∧ PyData.eqv z (py x) = true) ∧ ∀ (m : Nat) (z' : PyData), m < j → (pys ys)[m]? = some z' → PyData.eqv z' (py x) = false
  | [], _, _, e => by simp at e
  | y :: ys, j, h, e => by
    have h : (D.pure y && D.pures ys) = true := h
    rw [Bool.and_eq_true] at h
    rw [List.findIdx?_cons] at e
    by_cases hy : D.eqv y x = true
    · rw [if_pos hy] at e
      cases e
      exact ⟨⟨py y, rfl, by rw [py_eqv y x h.1 hx]; exact hy⟩, fun m z' hm _ => absurd hm (Nat.not_lt_zero _)⟩
    · rw [if_neg hy] at e
      rw [Option.map_eq_some_iff] at e
      obtain ⟨j', e1, rfl⟩ := e
      obtain ⟨⟨z, z1, z2⟩, no⟩ := find_pys hx ys j' h.2 e1
      refine ⟨⟨z, z1, z2⟩, fun m z' hm hz => ?_⟩
      cases m with
      | zero =>
        cases hz
        rw [py_eqv y x h.1 hx]
        exact Bool.eq_false_iff.mpr hy
      | succ m => exact no m z' (by omega) hz
theorem count_pys {x : D} (hx : x.pure = true) : ∀ ys : List D, D.pures ys = true → ((pys ys).countP fun z => PyData.eqv z (py x)) = ys.countP fun z => D.eqv z x
  | [], _ => rfl
  | y :: ys, h => by
    have h : (D.pure y && D.pures ys) = true := h
    rw [Bool.and_eq_true] at h
    show ((py y :: pys ys).countP _) = _
    rw [List.countP_cons, List.countP_cons, count_pys hx ys h.2, py_eqv y x h.1 hx]
theorem mt_D (hK : F.K = X.K) (hu : X.A.units + 70 < cLine) (m : MF) : MtR X (mfId m) (rMD F (methW m)) := by
  intro pins s σ H v vs v' us Q I rv rvs hw
  obtain ⟨ι, h, x, xs, Qd, hr, hx, ht, w, k⟩ := hw
  unfold methW at w
  split at w
  · obtain ⟨n, ys, rfl, hn, hz, q⟩ := w
    obtain ⟨u, rfl, hv⟩ := ht.one
    cases hx with
    | ref hi =>
      rename_i y a
      obtain ⟨a', ws, h1, h2, h3⟩ := hr.ref hn
      rw [hi] at h1; cases h1
      refine mt_append pins s σ H _ _ _ us Q I rv rvs ⟨a, ws, u, rfl, rfl, h2, by rw [sx F, h3.length]; exact hz, ?_⟩
      have hr' : HR F.K ι (upd H a (.lst (ws ++ [u]))) (h.set n (.lst (ys ++ [y]))) := hr.write hi (h3.append (.cons hv .nil))
      exact k _ _ _ _ ι q (.upd_in (List.mem_of_getElem? hi) _) hr' .non
  · obtain ⟨n, ys, i, j, y, rfl, hn, rfl, hj, hy, q⟩ := w
    obtain ⟨u, rfl, hv⟩ := ht.one
    have e := hv.iv; subst e
    cases hx with
    | ref hi =>
      rename_i a
      obtain ⟨a', ws, h1, h2, h3⟩ := hr.ref hn
      rw [hi] at h1; cases h1
      obtain ⟨z, hz, rz⟩ := h3.get hy
      obtain ⟨i1, i2, i3, i4⟩ := ixO_seq hj
      obtain ⟨its, rits, pl, hlen⟩ := I.list (SqL.of h2)
      have hl := h3.length
      have hs := sx F
      refine mt_popAt pins s σ H _ _ _ us Q I rv rvs ⟨a, ws, i, j, z, rfl, rfl, h2, by omega, by omega, by rw [hl]; exact i1, hz, ?_⟩
      have ex : Ext ι H ι (upd H a (.lst (ws.eraseIdx j))) := .upd_in (List.mem_of_getElem? hi) _
      exact k _ _ _ _ ι q ex (hr.write hi (h3.erase j)) (rz.mono hr ex)
  · obtain ⟨ys, j, hq, hp, hj, q⟩ := w
    obtain ⟨u, rfl, hv⟩ := ht.one
    obtain ⟨a, ws, rfl, hs, t⟩ := hx.list hr hq
    simp only [Bool.and_eq_true, decide_eq_true_eq] at hp
    obtain ⟨⟨⟨p1, p2⟩, d1⟩, d2⟩ := hp
    obtain ⟨⟨z, z1, z2⟩, no⟩ := find_pys p1 ys j p2 hj
    have dx := hv.dp p1
    have dy := Rps.dp p2 t
    rw [hK] at dx dy
    refine mt_indexD (by omega) pins s σ H _ _ _ us Q I rv rvs ⟨a, u, py _, pys ys, j, z, rfl, rfl, .lst (SqL.of hs) dy, dx, ?_, ?_, z1, z2, no, k.here hr q (.int _)⟩
    · unfold SeqAt.shaped
      rw [show PyData.canLay0 (.list (pys ys)) = PyData.canLayAll0 (pys ys) from rfl, pys_lay _ p2, show (PyData.list (pys ys)).depth = PyData.depthAll (pys ys) + 1 from rfl, pys_depth]
      simp; omega
    · unfold SeqAt.shaped
      rw [py_lay _ p1, py_depth]
      simp; omega
  · obtain ⟨n, ys, zs, rfl, hn, hq, hz, q⟩ := w
    obtain ⟨u, rfl, hv⟩ := ht.one
    cases hx with
    | ref hi =>
      rename_i a
      obtain ⟨a', ws, h1, h2, h3⟩ := hr.ref hn
      rw [hi] at h1; cases h1
      obtain ⟨b, xs2, rfl, hb, t2⟩ := hv.list hr hq
      refine mt_extend pins s σ H _ _ _ us Q I rv rvs ⟨a, b, ws, xs2, rfl, rfl, h2, hb, by rw [sx F, h3.length, t2.length]; exact hz, ?_⟩
      exact k _ _ _ _ ι q (.upd_in (List.mem_of_getElem? hi) _) (hr.write hi (h3.append t2)) .non
  · obtain ⟨n, ys, j, rfl, hn, rfl, j0, j1, hz, q⟩ := w
    obtain ⟨u, u2, rfl, hv, hv2⟩ := ht.two
    have e := hv.iv; subst e
    cases hx with
    | ref hi =>
      rename_i y a
      obtain ⟨a', ws, h1, h2, h3⟩ := hr.ref hn
      rw [hi] at h1; cases h1
      refine mt_insert pins s σ H _ _ _ us Q I rv rvs ⟨a, ws, j, u2, rfl, rfl, h2, by rw [sx F, h3.length]; exact hz, j0, by omega, ?_⟩
      exact k _ _ _ _ ι q (.upd_in (List.mem_of_getElem? hi) _) (hr.write hi (((h3.take _).append (.cons hv2 .nil)).append (h3.drop _))) .non
  · obtain ⟨ys, hq, hp, q⟩ := w
    obtain ⟨u, rfl, hv⟩ := ht.one
    obtain ⟨a, ws, rfl, hs, t⟩ := hx.list hr hq
    simp only [Bool.and_eq_true, decide_eq_true_eq] at hp
    obtain ⟨⟨p1, p2⟩, d1⟩ := hp
    have dx := hv.dp p1
    have dy := Rps.dp p2 t
    rw [hK] at dx dy
    refine mt_countD hu false pins s σ H _ _ _ us Q I rv rvs ⟨a, ws, u, _, _, rfl, rfl, SqL.of hs, dy, dx, pys_lay _ p2, py_lay _ p1, by rw [py_depth]; exact d1, ?_⟩
    rw [count_pys p1 _ p2]
    exact k.here hr q (.int _)
  · obtain ⟨ys, rfl, hp, q⟩ := w
    obtain ⟨u, rfl, hv⟩ := ht.one
    cases hx with
    | tup hs t =>
      simp only [Bool.and_eq_true, decide_eq_true_eq] at hp
      obtain ⟨⟨p1, p2⟩, d1⟩ := hp
      have dx := hv.dp p1
      have dy := Rps.dp p2 t
      rw [hK] at dx dy hs
      refine mt_countD hu true pins s σ H _ _ _ us Q I rv rvs ⟨_, _, u, _, _, rfl, rfl, hs, dy, dx, pys_lay _ p2, py_lay _ p1, by rw [py_depth]; exact d1, ?_⟩
      rw [count_pys p1 _ p2]
      exact k.here hr q (.int _)
  · obtain ⟨ys, j, rfl, hp, hj, q⟩ := w
    obtain ⟨u, rfl, hv⟩ := ht.one
    cases hx with
    | tup hs t =>
      simp only [Bool.and_eq_true, decide_eq_true_eq] at hp
      obtain ⟨⟨p1, p2⟩, d1⟩ := hp
      obtain ⟨⟨z, z1, z2⟩, no⟩ := find_pys p1 ys j p2 hj
      have dx := hv.dp p1
      have dy := Rps.dp p2 t
      rw [hK] at dx dy hs
      exact mt_tindexD hu pins s σ H _ _ _ us Q I rv rvs ⟨_, _, u, _, _, j, z, rfl, rfl, hs, dy, dx, pys_lay _ p2, py_lay _ p1, by rw [py_depth]; exact d1, z1, z2, no, k.here hr q (.int _)⟩
  · obtain ⟨z, ys, ss, rfl, hq, hss, hz, q⟩ := w
    obtain ⟨u, rfl, hv⟩ := ht.one
    obtain ⟨a, ws, rfl, hs, t⟩ := hv.seq hr hq
    rw [hK] at hs
    have e := strs_rel t hss
    subst e
    have e := hx.sv; subst e
    exact mt_join pins s σ H _ _ _ us Q I rv rvs ⟨z, a, ss, rfl, rfl, hs, hz, k.here hr q (.str _)⟩
  · exact w.elim
end
end Pf

namespace Pf
open PySem PySem.Spec PyProof.Rows L2
section
variable {prog : Program} {w : World} {A : Around} {E : Value → Shared → Prop} {s : Shared}
/-- the next pair, by what the walked thing's own iterator gives -/
theorem enumG_next {en it : Addr} {i : Nat} {x old : Value} {St : Heap → Prop} {Q : Value → Shared → Prop} (ee : IsEnum s.heap en it i old) (ne : en ≠ it)
    (stay : ∀ h h', St h → (∀ b o, b ≠ en → h.get? b = some o → h'.get? b = some o) → St h')
    (nxt : ∀ R : Value → Shared → Prop, (∀ h', St h' → Heap.SameBut it s.heap h' → R x { s with heap := h' }) → wpAny (model prog w) A (Builtin.SmallTypes.nextOf (.ref it)) R E s)
    (q : ∀ h', IsEnumOut h' en it ((i : Int) + 1) x s.heap.objs.size → St h' → h'.get? s.heap.objs.size = some { cls := .type "tuple", data := .seq #[.int i s.toks, x] } →
      (∀ b o, b ≠ en → b ≠ it → s.heap.get? b = some o → h'.get? b = some o) → Q (.ref s.heap.objs.size) { s with heap := h', toks := s.toks + 1 }) :
    wpAny (model prog w) A (Builtin.«enumerate.__next__» ⟨[.ref en], []⟩) (fun f t => ∃ v, f = .done (.ret v) ∧ Q v t) E s := by
  obtain ⟨hh, gg, dd, tt, oo⟩ := s
  have lt : en < hh.objs.size := Heap.lt_size ee
  show wpAny _ _ (field (.ref en) 2 >>= _) _ _ _
  refine wpAny_bind (wpAny_field ee rfl (x := .ref it) rfl (wpAny_bind (nxt _ fun ha sa ka => ?_)))
  have ka : Heap.SameBut it hh ha := ka
  have ea : IsEnum ha en it i old := (ka.2 en ne).trans ee
  show wpAny _ _ (field (.ref en) 3 >>= _) _ _ ⟨ha, gg, dd, tt, oo⟩
  refine wpAny_bind (wpAny_field ea rfl (x := rawInt i) rfl ?_)
  show wpAny _ _ (field (.ref en) 4 >>= _) _ _ ⟨ha, gg, dd, tt, oo⟩
  refine wpAny_bind (wpAny_field ea rfl (x := .none) rfl ?_)
  show wpAny _ _ (mkInt i >>= _) _ _ ⟨ha, gg, dd, tt, oo⟩
  refine wpAny_bind (wpAny_mkInt ?_)
  show wpAny _ _ (setField (.ref en) 3 (rawInt ((i : Int) + 1)) >>= _) _ _ ⟨ha, gg, dd, tt + 1, oo⟩
  refine wpAny_bind (wpAny_setField_rec ea (by simp) fun hb eb kb => ?_)
  have kb : Heap.SameBut en ha hb := kb
  have eb : IsEnum hb en it ((i : Int) + 1) old := eb
  show wpAny _ _ (setField (.ref en) 4 .none >>= _) _ _ ⟨hb, gg, dd, tt + 1, oo⟩
  refine wpAny_bind (wpAny_setField_rec eb (by simp) fun hc ec kc => ?_)
  have kc : Heap.SameBut en hb hc := kc
  have ec : IsEnum hc en it ((i : Int) + 1) old := ec
  show wpAny _ _ (newTuple [.int i tt, x] >>= _) _ _ ⟨hc, gg, dd, tt + 1, oo⟩
  refine wpAny_bind (wpAny_newTuple ?_)
  have size : hc.objs.size = hh.objs.size := by rw [kc.1, kb.1, ka.1]
  have ed : IsEnum (hc.push { cls := .type "tuple", data := .seq #[.int i tt, x] }) en it ((i : Int) + 1) old := Heap.get?_push_of_some _ ec
  have td : (hc.push { cls := .type "tuple", data := .seq #[.int i tt, x] }).get? hh.objs.size = some { cls := .type "tuple", data := .seq #[.int i tt, x] } := by rw [← size]; exact Heap.get?_push_size _ rfl
  have kd : ∀ b o, b ≠ en → b ≠ it → hh.get? b = some o → (hc.push { cls := .type "tuple", data := .seq #[.int i tt, x] }).get? b = some o := fun b o n1 n2 e =>
    Heap.get?_push_of_some _ (kc.extBut b o n1 (kb.extBut b o n1 (ka.extBut b o n2 e)))
  have sd : St (hc.push { cls := .type "tuple", data := .seq #[.int i tt, x] }) := stay _ _ sa fun b o n1 e => Heap.get?_push_of_some _ (kc.extBut b o n1 (kb.extBut b o n1 e))
  rw [size]
  generalize hc.push { cls := .type "tuple", data := .seq #[.int i tt, x] } = hd at ed td kd sd
  clear ec kc eb kb ea ka sa size
  show wpAny _ _ (Builtin.SmallTypes.ownedTupleIsFree (.ref en) >>= _) _ _ ⟨hd, gg, dd, tt + 1, oo⟩
  refine wpAny_bind ?_
  unfold Builtin.SmallTypes.ownedTupleIsFree
  refine wpAny_bind (wpAny_field ed rfl (x := .none) rfl (wpAny_pure ?_))
  simp only [if_true]
  refine wpAny_bind (wpAny_rule (wpAny_bind (wpAny_field ed rfl (x := old) rfl (wpAny_bind (wpAny_setField_rec ed (by simp) fun hf ef kf => ?_)))))
  have kf : Heap.SameBut en hd hf := kf
  have ef : IsEnum hf en it ((i : Int) + 1) x := ef
  show wpAny _ _ (Builtin.SmallTypes.ownedTupleHandOut (.ref en) (.ref hh.objs.size) >>= _) _ _ ⟨hf, gg, dd, tt + 1, oo⟩
  refine wpAny_bind ?_
  unfold Builtin.SmallTypes.ownedTupleHandOut
  refine wpAny_bind (wpAny_setField_rec ef (by simp) fun hg eg kg => ?_)
  have kg : Heap.SameBut en hf hg := kg
  have eg : IsEnumOut hg en it ((i : Int) + 1) x hh.objs.size := eg
  refine wpAny_setField_rec eg (by simp) fun hk ek kk => ?_
  have kk : Heap.SameBut en hg hk := kk
  have ek : IsEnumOut hk en it ((i : Int) + 1) x hh.objs.size := ek
  have all : ∀ b o, b ≠ en → hd.get? b = some o → hk.get? b = some o := fun b o n e => kk.extBut b o n (kg.extBut b o n (kf.extBut b o n e))
  exact wpAny_bind (wpAny_letGo (wpAny_pure ⟨_, rfl, q hk ek (stay _ _ sd all) (all _ _ (Nat.ne_of_gt lt) td) fun b o n1 n2 e => all b o n1 (kd b o n1 n2 e)⟩))
theorem enumT_item {en it l : Addr} {i : Nat} {items : Array Value} {x old : Value} {Q : Option Value → Shared → Prop}
    (ee : IsEnum s.heap en it i old) (hit : s.heap.IsTupleIter it l i) (hl : s.heap.IsTuple l items) (hx : items[i]? = some x) (ne : en ≠ it)
    (q : ∀ h', IsEnumOut h' en it ((i : Int) + 1) x s.heap.objs.size → h'.IsTupleIter it l (i + 1) → h'.get? s.heap.objs.size = some { cls := .type "tuple", data := .seq #[.int i s.toks, x] } →
      (∀ b o, b ≠ en → b ≠ it → s.heap.get? b = some o → h'.get? b = some o) → Q (some (.ref s.heap.objs.size)) { s with heap := h', toks := s.toks + 1 }) :
    wpAny (model prog w) A (pyNext (.ref en)) Q E s := by
  have ty : s.TypeIs (.ref en) "enumerate" := ⟨_, ee, rfl⟩
  unfold pyNext
  refine wpAny_bind (wpAny_attempt (wpAny_callSpecial?_slot (name := Str.ofString "__next__") ty F.slot_enumerate_next
    (wpAny_call_entry F.slot_enumerate_next ty F.entry_enumerate_next ?_ (F.args_enumerate_next_1 _))))
  exact enumG_next (St := fun h => h.IsTupleIter it l (i + 1)) ee ne (fun h h' a k => let ⟨o, ho, r⟩ := a; ⟨o, k it o (Ne.symm ne) ho, r⟩)
    (fun R k => RZ.nextOf_tuple_item hit hl hx k) fun h' a b c d => wpAny_pure (q h' a b c d)
theorem enumT_end {en it l : Addr} {i : Nat} {items : Array Value} {old : Value} {Q : Option Value → Shared → Prop} (hh : A.handled = none)
    (ee : IsEnum s.heap en it i old) (hit : s.heap.IsTupleIter it l i) (hl : s.heap.IsTuple l items) (hx : items[i]? = none)
    (q : ∀ h', Heap.ExtBut it s.heap h' → Q none { s with heap := h' }) : wpAny (model prog w) A (pyNext (.ref en)) Q E s := by
  have ty : s.TypeIs (.ref en) "enumerate" := ⟨_, ee, rfl⟩
  unfold pyNext
  refine wpAny_bind (wpAny_attempt (wpAny_callSpecial?_slot (name := Str.ofString "__next__") ty F.slot_enumerate_next
    (wpAny_call_entry F.slot_enumerate_next ty F.entry_enumerate_next ?_ (F.args_enumerate_next_1 _))))
  show wpAny _ _ (field (.ref en) 2 >>= _) _ _ _
  refine wpAny_bind (wpAny_field ee rfl (x := .ref it) rfl (wpAny_bind (RZ.nextOf_tuple_end hh hit hl hx fun h' z k ⟨o, ho, hc⟩ => ?_)))
  exact wpAny_bind (wpAny_isInstance (T := "StopIteration") (b := true) ⟨o, ho, hc⟩ isSubtype_stop (wpAny_pure (q _ k)))
theorem meets_enumT (l : Addr) (items : Array Value) (n : Nat) (dct : Option Addr) (sl : Array (Option Value)) :
    Meets (Builtin.«enumerate.__new__» ⟨[.type "enumerate", .ref l], []⟩) (fun _ R s => s.heap.get? l = some { cls := .type "tuple", dict := dct, data := .seq items n, slots := sl } ∧
      R (.ok (.ret (.ref (s.heap.push { cls := .type "tuple_iterator", data := .fields #[.ref l, .int 0 0] }).objs.size)))
        { s with heap := (s.heap.push { cls := .type "tuple_iterator", data := .fields #[.ref l, .int 0 0] }).push { cls := .type "enumerate", data := .fields #[.none, .bool false, .ref s.heap.objs.size, rawInt 0, .none, .none] } }) :=
  .of_wp fun prog w A R s h => by
    obtain ⟨hp, g, d, tk, os⟩ := s
    obtain ⟨hl, h⟩ := h
    have se := sub_enumerate
    have tu : Heap.IsTuple (Shared.heap ⟨hp, g, d, tk, os⟩) l items := ⟨_, hl, rfl, n, rfl⟩
    wp_walk using AutoSeq1.wpAny_loadPart' hl
    refine wpAny_stack_any fun st => wpAny_pure ?_
    split
    · rename_i c _ _ _ _ _
      cases (c == Value.type "enumerate") <;> (wp_walk using AutoSeq1.wpAny_loadPart' hl, wpAny_pyIter_tuple tu; exact ⟨_, rfl, h⟩)
    · wp_walk using AutoSeq1.wpAny_loadPart' hl, wpAny_pyIter_tuple tu
      exact ⟨_, rfl, h⟩
theorem call_enumT {l : Addr} {items : Array Value} {Q : Value → Shared → Prop} (tu : s.heap.IsTuple l items)
    (q : ∀ h', IsEnum h' (s.heap.objs.size + 1) s.heap.objs.size 0 .none → h'.IsTupleIter s.heap.objs.size l 0 → (∀ b o, s.heap.get? b = some o → h'.get? b = some o) → Q (.ref (s.heap.objs.size + 1)) { s with heap := h' }) :
    wpAny (model prog w) A (call (.type "enumerate") [.ref l]) Q E s := by
  obtain ⟨⟨c, dct, dt, sl⟩, hl, hc, n, hd⟩ := tu
  simp only at hc hd
  subst hc hd
  refine callType_new F.called_enumerate (by decide) (F.typeCall_enumerate_1 _) (F.newCall_enumerate_1 _) (fun obj => F.args_object_init_2 obj _) F.entry_enumerate_new (meets_enumT l items n dct sl) ⟨hl, ?_⟩
  have sz : (s.heap.push { cls := .type "tuple_iterator", data := .fields #[.ref l, .int 0 0] }).objs.size = s.heap.objs.size + 1 := Heap.size_push ..
  have ee : IsEnum ((s.heap.push { cls := .type "tuple_iterator", data := .fields #[.ref l, .int 0 0] }).push { cls := .type "enumerate", data := .fields #[.none, .bool false, .ref s.heap.objs.size, rawInt 0, .none, .none] }) (s.heap.objs.size + 1) s.heap.objs.size 0 .none := by
    have z := Heap.get?_push_size (s.heap.push { cls := .type "tuple_iterator", data := .fields #[.ref l, .int 0 0] }) (o := { cls := .type "enumerate", data := .fields #[.none, .bool false, .ref s.heap.objs.size, rawInt 0, .none, .none] }) rfl
    rw [sz] at z; exact z
  show _ ∧ _
  rw [sz]
  exact ⟨⟨_, ee, rfl⟩, q _ ee ⟨_, Heap.get?_push_of_some _ (Heap.get?_push_size _ rfl), rfl, rfl⟩ fun b o x => Heap.get?_push_of_some _ (Heap.get?_push_of_some _ x)⟩
end
/-- the tuple at a, each item in a new pair -/
def IteT (K : PySem.W.Frag) (a : Addr) : L2.It :=
  ⟨fun i H => ∃ (xs : List V) (x : V), SqT K H a xs ∧ xs[i]? = some x, fun i H v H' => ∃ T x, v = .ref T ∧ H T = none ∧ H' = upd H T (.tup [.int (i : Nat), x]) ∧ ∀ xs, SqT K H a xs → xs[i]? = some x, fun i H => ∃ xs : List V, SqT K H a xs ∧ xs.length ≤ i⟩
theorem turn_enumT {P : Program} {w : World} {K : PySem.W.Frag} {elts : List Expr} {kk : Nat} {tpos : Pos} (a en it : Addr) :
    Turn P w K (.Tuple elts kk tpos) (IteT K a) [en, it] en (fun i h => (∃ old, IsEnum h en it ((i : Nat) : Int) old) ∧ h.IsTupleIter it a i ∧ en ≠ it) where
  mem := by simp
  obj := fun i h ⟨⟨old, he⟩, ⟨o, ho, hc, hd⟩, _⟩ b hb => by
    have two : b = en ∨ b = it := by simpa using hb
    rcases two with rfl | rfl
    · exact ⟨_, he, fun v q => nomatch q⟩
    · exact ⟨o, ho, fun v q => by rw [hd] at q; cases q⟩
  keep := fun i h h' ⟨⟨old, he⟩, ⟨o, ho, r⟩, ne⟩ k => ⟨⟨old, k en (by simp) _ he⟩, ⟨o, k it (by simp) _ ho, r⟩, ne⟩
  item := by
    intro X hP hw hK hc i pins s σ H E I hf st hg
    subst hP hw hK
    obtain ⟨⟨old, he⟩, hit, ne⟩ := st
    obtain ⟨xs, x, hq, hx⟩ := hg
    obtain ⟨its, rv, p, hz⟩ := I.tuple hq
    obtain ⟨u, hu, ru⟩ := rv.get hx
    have le : en < s.heap.objs.size := Heap.lt_size he
    have li : it < s.heap.objs.size := by obtain ⟨_, q, _⟩ := hit; exact Heap.lt_size q
    refine enumT_item he hit p (x := u) (by simpa using hu) ne fun h' ho hit' hT hk => ?_
    refine ⟨_, rfl, wpAny_letOwnedTupleGo_enum (s := { s with heap := h', toks := s.toks + 1 }) ho fun h2 he2 sb => ?_⟩
    have hT2 : h2.get? s.heap.objs.size = some { cls := .type "tuple", data := .seq #[.int i s.toks, u] } := (sb.2 _ (Nat.ne_of_gt le)).trans hT
    have I1 : Inv X pins σ (upd H s.heap.objs.size (.tup [.int (i : Nat), x])) { s with heap := h2, toks := s.toks + 1 } :=
      I.turnedNew (ch := [en, it]) (fun b ob hb q => (sb.2 b (fun z => hb (by simp [z]))).trans (hk b ob (fun z => hb (by simp [z])) (fun z => hb (by simp [z])) q)) hf (Nat.le_refl _)
        ⟨by show 2 ≤ sizeLine; decide, [.int i s.toks, u], .cons ⟨_, rfl⟩ (.cons ru .nil), ⟨_, hT2, rfl, _, rfl⟩⟩
    refine ⟨.ref s.heap.objs.size, _, I1, rfl, ⟨_, x, rfl, I.hok.fresh (Nat.le_refl _), rfl, fun ys hy => by rw [I.tuple_inj hy hq]; exact hx⟩, ⟨⟨u, ?_⟩, ?_, ne⟩, fun b hb => ?_⟩
    · have e1 : ((i + 1 : Nat) : Int) = (i : Int) + 1 := by omega
      rw [e1]; exact he2
    · obtain ⟨o, ho, r⟩ := hit'
      exact ⟨o, (sb.2 it (Ne.symm ne)).trans ho, r⟩
    · have two : b = en ∨ b = it := by simpa using hb
      have lb : b < s.heap.objs.size := by
        rcases two with rfl | rfl
        · exact le
        · exact li
      rw [upd_ne (Nat.ne_of_lt lb)]
      exact (hf b hb).1
  done := by
    intro X hP hw hK hc i pins s σ H E I hf st hg
    subst hP hw hK
    obtain ⟨⟨old, he⟩, hit, ne⟩ := st
    obtain ⟨xs, hq, hx⟩ := hg
    obtain ⟨its, rv, p, hz⟩ := I.tuple hq
    obtain ⟨f0, f1, f2, f3, f4, f5⟩ := hf it (by simp)
    have hl := rv.length
    exact enumT_end (I.ok.hd hc) he hit p (by simp; omega) fun h' eb => ⟨rfl, I.turned (t' := s.toks) (fun b o hb q => eb b o hb q) f0 f1 f3 f4 f5⟩
  self := fun A i s Q E ⟨⟨_, he⟩, _⟩ h => wpAny_pyIter_enum he h
def iEnumA (K : PySem.W.Frag) (ta : TA) : TI := fun σ H R => ta σ H fun vs H1 => ∃ a xs, vs = [.ref a] ∧ ((SqL K H1 a xs ∧ R (Ite K a) H1) ∨ (SqT K H1 a xs ∧ R (IteT K a) H1))
theorem pi_enumA {X : Cx} {e : Expr} {ta : TA} {p pos tpos : Pos} {elts : List Expr} {kk : Nat} (hg : Gl X "enumerate") (hm : X.mg "enumerate" = none) (ha : PA X [e] ta) (hs : starEach [e] X.env = [(false, eval e X.env)]) :
    PI X (.Tuple elts kk tpos) (.Call (.Name "enumerate" p) [e] [] pos) (iEnumA X.K ta) := by
  refine ⟨fun pins s σ H R I h => ?_⟩
  refine Call_ (ld_blt I hg hm boot_enumerate (PyProof.Rows.callWith_type1 (thn (ha.run pos pins s σ H _ I h) fun us s1 ⟨vs, H1, I1, r1, q1⟩ => ?_) hs rfl))
  obtain ⟨a, xs, ex, q⟩ := q1
  subst ex
  obtain ⟨u, rfl, ru⟩ := vals1 r1
  cases ru
  have fp : ∀ b ∈ [s1.heap.objs.size + 1, s1.heap.objs.size], s1.heap.objs.size ≤ b := fun b hb => by
    have two : b = s1.heap.objs.size + 1 ∨ b = s1.heap.objs.size := by simpa using hb
    omega
  rcases q with ⟨hq, q⟩ | ⟨hq, q⟩
  · obtain ⟨its, rv, p', hz⟩ := I1.list hq
    refine call_enumerate_list p'.isList fun h' he hit hsz hk => wpAny_pyIter_enum he ?_
    exact ⟨s1.heap.objs.size + 1, [s1.heap.objs.size + 1, s1.heap.objs.size], _, _, H1, rfl, I1.kept (t' := s1.toks) hk, turn_enum a (s1.heap.objs.size + 1) s1.heap.objs.size, ⟨⟨.none, he⟩, hit, Nat.succ_ne_self _⟩, fun b hb => I1.fpOk (fp b hb) (I1.hok.fresh (fp b hb)), q⟩
  · obtain ⟨its, rv, p', hz⟩ := I1.tuple hq
    refine call_enumT p' fun h' he hit hk => wpAny_pyIter_enum he ?_
    exact ⟨s1.heap.objs.size + 1, [s1.heap.objs.size + 1, s1.heap.objs.size], _, _, H1, rfl, I1.kept (t' := s1.toks) hk, turn_enumT a (s1.heap.objs.size + 1) s1.heap.objs.size, ⟨⟨.none, he⟩, hit, Nat.succ_ne_self _⟩, fun b hb => I1.fpOk (fp b hb) (I1.hok.fresh (fp b hb)), q⟩
end Pf

namespace Pf
open PySem PySem.Spec PyProof.Rows L2

/-- the iterator J walks the items, as long as st holds -/
def JR (F : Ent) (ι0 : Ix) (H0 : Hp) (J : It) (items : List D) (st : DH → Prop) : Prop :=
  ∀ (i : Nat) (ι : Ix) (h : DH) (H : Hp), HR F.K ι H h → Ext ι0 H0 ι H → st h →
    (i < items.length → J.go i H) ∧ (∀ x H', i < items.length → J.yld i H x H' → ∃ d, items[i]? = some d ∧ Ext ι H ι H' ∧ HR F.K ι H' h ∧ Rp F.K ι H' x d) ∧ (items.length ≤ i → J.stop i H)
def liftI (F : Ent) (t : DS → DH → (List D → (DH → Prop) → DH → Prop) → Prop) : TI := fun σ H R => ∃ ι τ h Qd, SR F.K ι H h σ τ ∧ Ext F.ι F.H ι H ∧ t τ h Qd ∧
  ∀ items st h' H' ι' J, Qd items st h' → Ext ι H ι' H' → HR F.K ι' H' h' → items.length ≤ 16777216 → JR F ι' H' J items st → R J H'

section
variable {K : PySem.W.Frag} {ι : Ix} {H : Hp} {h : DH}
theorem Rp.seqL (r : HR K ι H h) {a : Addr} {d : D} {xs : List D} (q : Rp K ι H (.ref a) d) (e : seqOf h d = some xs) (hn : ∀ ys, d ≠ .tup ys) : ∃ vs, SqL K H a vs ∧ Rps K ι H vs xs := by
  obtain ⟨a', vs, e1, hs, t⟩ := q.seq r e
  cases e1
  rcases hs with hs | hs
  · exact ⟨vs, hs, t⟩
  · cases q with
    | tup _ _ => exact absurd rfl (hn _)
    | lst q n n2 t' => cases e; exact ⟨_, .inl (.inl q), t'⟩
    | scr q t' =>
      cases e
      refine ⟨_, ?_, t'⟩
      rcases q with ⟨⟨o, z⟩, _⟩ | q
      · exact .inl (.inr ⟨_, z⟩)
      · exact q H
    | ref hi =>
      rename_i n
      have e : (match h[n]? with | some (.lst xs) => some xs | _ => none) = some xs := e
      cases hq : h[n]? with
      | none => rw [hq] at e; cases e
      | some o =>
        rw [hq] at e
        cases o with
        | lst ys =>
          cases e
          obtain ⟨a', vs, h1, h2, h3⟩ := r.ref hq
          rw [hi] at h1; cases h1
          exact ⟨_, .inl (.inl h2), h3⟩
        | dic _ => cases e
        | ins _ _ => cases e
theorem Rp.seqT' {a : Addr} {xs : List D} (q : Rp K ι H (.ref a) (.tup xs)) : ∃ vs, SqT K H a vs ∧ Rps K ι H vs xs := by
  cases q with
  | tup q t => exact ⟨_, q, t⟩
theorem Rp.seqRef {v : V} {d : D} {xs : List D} (q : Rp K ι H v d) (e : seqOf h d = some xs) : ∃ a, v = .ref a := by
  cases q with
  | tup _ _ => exact ⟨_, rfl⟩
  | lst _ _ _ _ => exact ⟨_, rfl⟩
  | scr _ _ => exact ⟨_, rfl⟩
  | ref _ => exact ⟨_, rfl⟩
  | _ => cases e
end

section
variable {F : Ent} {ι0 : Ix} {H0 : Hp} {h0 : DH} {a b : Addr} {d e : D} {xs ys : List D}
theorem jr_list (hr : HR F.K ι0 H0 h0) (q : Rp F.K ι0 H0 (.ref a) d) (hn : ∀ ys, d ≠ .tup ys) : JR F ι0 H0 (Itl F.K a) xs (fun h => seqOf h d = some xs) := by
  intro i ι h H r ex e
  obtain ⟨vs, hs, t⟩ := (q.mono hr ex).seqL r e hn
  have hl := t.length
  refine ⟨fun hi => ⟨vs, vs[i]'(by omega), hs, List.getElem?_eq_getElem (by omega)⟩, fun x H' hi y => ?_, fun hi => ⟨vs, hs, by omega⟩⟩
  obtain ⟨rfl, y⟩ := y
  obtain ⟨d', h1, h2⟩ := t.getV (y vs hs)
  exact ⟨d', h1, .refl, r, h2⟩
theorem jr_tup (hr : HR F.K ι0 H0 h0) (q : Rp F.K ι0 H0 (.ref a) (.tup xs)) (st : DH → Prop) : JR F ι0 H0 (Itt F.K a) xs st := by
  intro i ι h H r ex e
  obtain ⟨vs, hs, t⟩ := (q.mono hr ex).seqT'
  have hl := t.length
  refine ⟨fun hi => ⟨vs, vs[i]'(by omega), hs, List.getElem?_eq_getElem (by omega)⟩, fun x H' hi y => ?_, fun hi => ⟨vs, hs, by omega⟩⟩
  obtain ⟨rfl, y⟩ := y
  obtain ⟨d', h1, h2⟩ := t.getV (y vs hs)
  exact ⟨d', h1, .refl, r, h2⟩
theorem jr_str (z : Str) (st : DH → Prop) : JR F ι0 H0 (Its z) (z.cps.toList.map fun c => .str (oneS c)) st := by
  intro i ι h H r ex e
  have hl : (z.cps.toList.map fun c => D.str (oneS c)).length = z.cps.size := by simp
  refine ⟨fun hi => by rw [hl] at hi; exact hi, fun x H' hi y => ?_, fun hi => by rw [hl] at hi; exact hi⟩
  obtain ⟨rfl, c, hc, rfl⟩ := y
  refine ⟨.str (oneS c), ?_, .refl, r, .str _⟩
  rw [List.getElem?_map, Array.getElem?_toList, hc]
  rfl
theorem jr_rng (lo : Int) (n : Nat) (st : DH → Prop) : JR F ι0 H0 (Itr lo n) (rngL lo n) st := by
  intro i ι h H r ex e
  have hl : (rngL lo n).length = n := by simp [rngL]
  refine ⟨fun hi => by rw [hl] at hi; exact hi, fun x H' hi y => ?_, fun hi => by rw [hl] at hi; exact hi⟩
  obtain ⟨rfl, rfl⟩ := y
  rw [hl] at hi
  refine ⟨.int (lo + i), ?_, .refl, r, .int _⟩
  unfold rngL
  rw [List.getElem?_map, List.getElem?_range hi]
  rfl
theorem enumL_get : ∀ (k : Nat) (xs : List D) (i : Nat), (enumL k xs)[i]? = (xs[i]?).map fun x => .tup [.int ((k + i : Nat) : Int), x]
  | k, [], i => by simp [enumL]
  | k, x :: r, 0 => by simp [enumL]
  | k, x :: r, i + 1 => by
    show (enumL (k + 1) r)[i]? = _
    rw [enumL_get (k + 1) r i, show k + 1 + i = k + (i + 1) by omega]
    rfl
theorem enumL_length : ∀ (k : Nat) (xs : List D), (enumL k xs).length = xs.length
  | _, [] => rfl
  | k, _ :: r => congrArg (· + 1) (enumL_length (k + 1) r)
theorem jr_enum (hr : HR F.K ι0 H0 h0) (q : Rp F.K ι0 H0 (.ref a) d) (hn : ∀ ys, d ≠ .tup ys) : JR F ι0 H0 (Ite F.K a) (enumL 0 xs) (fun h => seqOf h d = some xs) := by
  intro i ι h H r ex e
  obtain ⟨vs, hs, t⟩ := (q.mono hr ex).seqL r e hn
  have hl := t.length
  rw [enumL_length]
  refine ⟨fun hi => ⟨vs, vs[i]'(by omega), hs, List.getElem?_eq_getElem (by omega)⟩, fun x H' hi y => ?_, fun hi => ⟨vs, hs, by omega⟩⟩
  obtain ⟨T, z, rfl, nT, rfl, y⟩ := y
  obtain ⟨d', h1, h2⟩ := t.getV (y vs hs)
  refine ⟨.tup [.int (i : Nat), d'], ?_, .upd_new nT _, r.upd_new nT _, .tup (.inl (.inl upd_same)) (.cons (.int _) (.cons (h2.mono r (.upd_new nT _)) .nil))⟩
  rw [enumL_get, h1, Nat.zero_add]
  rfl
theorem jr_enumT (hr : HR F.K ι0 H0 h0) (q : Rp F.K ι0 H0 (.ref a) (.tup xs)) (st : DH → Prop) : JR F ι0 H0 (IteT F.K a) (enumL 0 xs) st := by
  intro i ι h H r ex _
  obtain ⟨vs, hs, t⟩ := (q.mono hr ex).seqT'
  have hl := t.length
  rw [enumL_length]
  refine ⟨fun hi => ⟨vs, vs[i]'(by omega), hs, List.getElem?_eq_getElem (by omega)⟩, fun x H' hi y => ?_, fun hi => ⟨vs, hs, by omega⟩⟩
  obtain ⟨T, z, rfl, nT, rfl, y⟩ := y
  obtain ⟨d', h1, h2⟩ := t.getV (y vs hs)
  refine ⟨.tup [.int (i : Nat), d'], ?_, .upd_new nT _, r.upd_new nT _, .tup (.inl (.inl upd_same)) (.cons (.int _) (.cons (h2.mono r (.upd_new nT _)) .nil))⟩
  rw [enumL_get, h1, Nat.zero_add]
  rfl
theorem zipL_get : ∀ (xs ys : List D) (i : Nat) (x y : D), xs[i]? = some x → ys[i]? = some y → (zipL xs ys)[i]? = some (.tup [x, y])
  | [], _, _, _, _, h, _ => by simp at h
  | _ :: _, [], _, _, _, _, h => by simp at h
  | x :: xs, y :: ys, 0, _, _, h1, h2 => by cases h1; cases h2; rfl
  | x :: xs, y :: ys, i + 1, _, _, h1, h2 => zipL_get xs ys i _ _ h1 h2
theorem zipL_length : ∀ (xs ys : List D), (zipL xs ys).length = min xs.length ys.length
  | [], ys => by simp [zipL]
  | _ :: _, [] => by simp [zipL]
  | x :: xs, y :: ys => by
    show (zipL xs ys).length + 1 = _
    rw [zipL_length xs ys, List.length_cons, List.length_cons]
    omega
theorem jr_zipL (hr : HR F.K ι0 H0 h0) (q : Rp F.K ι0 H0 (.ref a) d) (hn : ∀ ys, d ≠ .tup ys) (q2 : Rp F.K ι0 H0 (.ref b) e) (hn2 : ∀ ys, e ≠ .tup ys) :
    JR F ι0 H0 (Itz F.K a b) (zipL xs ys) (fun h => seqOf h d = some xs ∧ seqOf h e = some ys) := by
  intro i ι h H r ex ⟨e1, e2⟩
  obtain ⟨vs, hs, t⟩ := (q.mono hr ex).seqL r e1 hn
  obtain ⟨ws, hs2, t2⟩ := (q2.mono hr ex).seqL r e2 hn2
  have hl := t.length
  have hl2 := t2.length
  rw [zipL_length]
  refine ⟨fun hi => ⟨vs, ws, vs[i]'(by omega), ws[i]'(by omega), hs, hs2, List.getElem?_eq_getElem (by omega), List.getElem?_eq_getElem (by omega)⟩, fun x H' hi y => ?_, fun hi => ⟨vs, ws, hs, hs2, by omega⟩⟩
  obtain ⟨T, z, u, rfl, nT, rfl, y, y2⟩ := y
  obtain ⟨d', h1, h2⟩ := t.getV (y vs hs)
  obtain ⟨d2, h3, h4⟩ := t2.getV (y2 ws hs2)
  exact ⟨_, zipL_get _ _ _ _ _ h1 h3, .upd_new nT _, r.upd_new nT _, .tup (.inl (.inl upd_same)) (.cons (h2.mono r (.upd_new nT _)) (.cons (h4.mono r (.upd_new nT _)) .nil))⟩
theorem jr_zipT (hr : HR F.K ι0 H0 h0) (q : Rp F.K ι0 H0 (.ref a) (.tup xs)) (q2 : Rp F.K ι0 H0 (.ref b) (.tup ys)) (st : DH → Prop) :
    JR F ι0 H0 (RZ.ItzT F.K a b) (zipL xs ys) st := by
  intro i ι h H r ex _
  obtain ⟨vs, hs, t⟩ := (q.mono hr ex).seqT'
  obtain ⟨ws, hs2, t2⟩ := (q2.mono hr ex).seqT'
  have hl := t.length
  have hl2 := t2.length
  rw [zipL_length]
  refine ⟨fun hi => ⟨vs, ws, vs[i]'(by omega), ws[i]'(by omega), hs, hs2, List.getElem?_eq_getElem (by omega), List.getElem?_eq_getElem (by omega)⟩, fun x H' hi y => ?_, fun hi => ⟨vs, ws, hs, hs2, by omega⟩⟩
  obtain ⟨T, z, u, rfl, nT, rfl, y, y2⟩ := y
  obtain ⟨d', h1, h2⟩ := t.getV (y vs hs)
  obtain ⟨d2, h3, h4⟩ := t2.getV (y2 ws hs2)
  exact ⟨_, zipL_get _ _ _ _ _ h1 h3, .upd_new nT _, r.upd_new nT _, .tup (.inl (.inl upd_same)) (.cons (h2.mono r (.upd_new nT _)) (.cons (h4.mono r (.upd_new nT _)) .nil))⟩
end

section
variable {X : Cx} {tg e : Expr} {te : TE}
def iAny (K : PySem.W.Frag) (te : TE) : TI := fun σ H R => te σ H fun x H1 =>
  (∃ a vs, x = .ref a ∧ SqL K H1 a vs ∧ R (Itl K a) H1) ∨ (∃ a vs, x = .ref a ∧ SqT K H1 a vs ∧ R (Itt K a) H1) ∨ ∃ z, x = .str z ∧ R (Its z) H1
theorem pi_any (he : PE X e te) : PI X tg e (iAny X.K te) := by
  refine ⟨fun pins s σ H R I hw => thn (he.run pins s σ H _ I hw) fun u s' ⟨x, H', I', rx, q⟩ => ?_⟩
  rcases q with ⟨a, vs, rfl, hs, q⟩ | ⟨a, vs, rfl, hs, q⟩ | ⟨z, rfl, q⟩
  · cases rx
    obtain ⟨us, ru, pl, _⟩ := I'.list hs
    exact wpAny_pyIter_list pl.isList (pi_one (tk := s'.toks) I' _ (turn_list a _) ⟨_, Heap.get?_push_size _ rfl, rfl, rfl⟩ q)
  · cases rx
    obtain ⟨us, ru, pt, _⟩ := I'.tuple hs
    exact wpAny_pyIter_tuple (show s'.heap.IsTuple a us.toArray from pt) (pi_one (tk := s'.toks) I' _ (turn_tuple a _) ⟨_, Heap.get?_push_size _ rfl, rfl, rfl⟩ q)
  · obtain ⟨t, rfl⟩ := rx
    cases hz : z.cps.all (· < 128)
    · exact wpAny_pyIter_wide hz (pi_one (tk := s'.toks) I' _ (turn_str _ z t _ (.inr rfl)) ⟨_, Heap.get?_push_size _ rfl, rfl, rfl⟩ q)
    · exact wpAny_pyIter_ascii hz (pi_one (tk := s'.toks) I' _ (turn_str _ z t _ (.inl rfl)) ⟨_, Heap.get?_push_size _ rfl, rfl, rfl⟩ q)
theorem PI.imp {wi wi' : TI} (p : PI X tg e wi) (h : ∀ σ H R, wi' σ H R → wi σ H R) : PI X tg e wi' := ⟨fun pins s σ H R I q => p.run pins s σ H R I (h σ H R q)⟩
end
end Pf

namespace Pf
open PySem PySem.Spec PyProof.Rows L2

/-- where a piece of text stands -/
structure SC where
  N : List Str
  sc : Scope
  fn : Str → Bool
  /-- built-in names that the module leaves alone -/
  B : List String
  F : List String
  G : List String
def SC.blk (c : SC) (scope : Scope) : SC := { c with sc := relS scope c.sc, fn := fun x => scope.names.lookup x == some .cell }

def visB (sc : Scope) (x : Str) : Bool := match sc.names.lookup x with | some .local => true | some .cell => true | some .free => true | _ => false
def glB (sc : Scope) (x : Str) : Bool := match sc.names.lookup x with | some .globalImplicit => true | _ => false
def nodbg (x : Str) : Bool := !(x == ("__debug__" : Str)) && !(x == ("__classdict__" : Str)) && !(x == ("__name__" : Str))
def bltB (c : SC) (n : String) (x : Str) : Bool := decide (x = Str.ofString n) && c.B.contains n && glB c.sc x && nodbg x
/-- a name that may be stored -/
def locB (c : SC) (x : Str) : Bool := match c.sc.names.lookup x with | some .local => true | some .cell => c.fn x | _ => false
def nmB (c : SC) (i : Nat) (x : Str) : Bool := decide (c.N[i]? = some x) && nodbg x
def opB : BinO → Operator → Bool
  | .add, .Add => true | .sub, .Sub => true | .mul, .Mult => true | .fdiv, .FloorDiv => true | .mod, .Mod => true | .pow, .Pow => true | _, _ => false
def cmB : CmpO → PySem.CmpOp → Bool
  | .eq, .Eq => true | .ne, .NotEq => true | .lt, .Lt => true | .le, .LtE => true | .gt, .Gt => true | .ge, .GtE => true
  | .isin, .In => true | .notin, .NotIn => true | .is, .Is => true | .isnot, .IsNot => true | _, _ => false
def bfName : BF → String
  | .len => "len" | .abs => "abs" | .int => "int" | .str => "str" | .ord => "ord" | .list => "list" | .tuple => "tuple" | .all => "all" | .any => "any"
  | .min => "min" | .max => "max" | .sum => "sum" | .lenset => "" | .list0 => ""
def mfName : MF → String
  | .append => "append" | .pop => "pop" | .index => "index" | .join => "join" | .insert => "insert" | .extend => "extend" | .count => "count" | .reverse => "reverse" | .tindex => "index" | .tcount => "count"
def tyB (c : SC) (t : Ty) : Expr → Bool
  | .Name x _ => decide (t ≠ .none) && bltB c (tyStr t) x
  | _ => false
def tysB (c : SC) : List Ty → List Expr → Bool
  | [], [] => true
  | t :: ts, e :: es => tyB c t e && tysB c ts es
  | _, _ => false
/-- one type, or a tuple of them -/
def tyAB (c : SC) (ts : List Ty) : Expr → Bool
  | .Name x p => tysB c ts [.Name x p]
  | .Tuple us _ _ => tysB c ts us && decide (us.length ≤ 10)
  | _ => false
/-- no set display -/
def noset : Expr → Bool
  | .Set _ _ _ => false
  | _ => true

/-- ::-1 -/
def revB : Expr → Bool
  | .Slice none none (some (.UnaryOp .USub (.Constant (.int k) _ _) _)) _ => decide (k = 1)
  | _ => false
theorem revB_is {s : Expr} (h : revB s = true) : ∃ k q1 q2 q3, s = .Slice none none (some (.UnaryOp .USub (.Constant (.int 1) k q1) q2)) q3 := by
  unfold revB at h
  split at h
  · obtain rfl := of_decide_eq_true h
    exact ⟨_, _, _, _, rfl⟩
  · cases h
/-- key=g, g a def -/
def keyB (c : SC) (g : String) : List Keyword → Bool
  | [⟨some kw, .Name z _, _⟩] => decide (kw = Str.ofString "key") && decide (z = Str.ofString g) && c.F.contains g && glB c.sc z && nodbg z
  | _ => false
theorem keyB_is {c : SC} {g : String} {kws : List Keyword} (h : keyB c g kws = true) : ∃ z zp kp, kws = [⟨some (Str.ofString "key"), .Name z zp, kp⟩] ∧ z = Str.ofString g ∧ c.F.contains g = true ∧ glB c.sc z = true ∧ nodbg z = true := by
  unfold keyB at h
  split at h
  · simp only [Bool.and_eq_true, decide_eq_true_eq] at h
    obtain ⟨⟨⟨⟨rfl, h2⟩, h3⟩, h4⟩, h5⟩ := h
    exact ⟨_, _, _, rfl, h2, h3, h4, h5⟩
  · cases h

mutual
def chkE : SC → E → Expr → Bool
  | c, .var i, .Name x _ => nmB c i x && visB c.sc x
  | c, .glob g, .Name x _ => decide (x = Str.ofString g) && c.G.contains g && glB c.sc x && nodbg x
  | _, .non, .Constant .none _ _ => true
  | _, .bl b, .Constant (.bool b') _ _ => b == b'
  | _, .int i, .Constant (.int j) _ _ => i == j
  | _, .str x, .Constant (.str y) _ _ => decide (x = y)
  | c, .tup es, .Tuple xs _ _ => chkEs c es xs
  | c, .lst _ es, .List xs _ => chkEs c es xs
  | c, .bin o a b, .BinOp x op y _ => opB o op && chkE c a x && chkE c b y
  | c, .cat _ a b, .BinOp x .Add y _ => chkE c a x && chkE c b y
  | c, .neg a, .UnaryOp .USub x _ => chkE c a x
  | c, .cmp o a b, .Compare x [op] [y] _ => cmB o op && chkE c a x && chkE c b y && noset y
  | c, .chain o p a b d, .Compare x [op, op'] [y, z] _ => cmB o op && cmB p op' && chkE c a x && chkE c b y && chkE c d z && noset y && noset z
  | c, .and a b, .BoolOp .And [x, y] _ => chkE c a x && chkE c b y
  | c, .and a b, .BoolOp .And (x :: y :: z :: r) pos => chkE c a x && chkE c b (.BoolOp .And (y :: z :: r) pos)
  | c, .or a b, .BoolOp .Or [x, y] _ => chkE c a x && chkE c b y
  | c, .or a b, .BoolOp .Or (x :: y :: z :: r) pos => chkE c a x && chkE c b (.BoolOp .Or (y :: z :: r) pos)
  | c, .not a, .UnaryOp .Not x _ => chkE c a x
  | c, .ite k a b, .IfExp t x y _ => chkE c k t && chkE c a x && chkE c b y
  | c, .bf f _ es, .Call (.Name x _) (y :: ys) [] _ => bltB c (bfName f) x && decide (f ≠ .lenset) && decide (f ≠ .list0) && chkEs c es (y :: ys)
  | c, .isi a ts, .Call (.Name x _) [y, t] [] _ => bltB c "isinstance" x && chkE c a y && tyAB c ts t
  | c, .call f es, .Call (.Name x _) (y :: ys) [] _ => decide (x = Str.ofString f) && c.F.contains f && glB c.sc x && nodbg x && chkEs c es (y :: ys)
  | c, .rev _ a, .Subscript x s _ => revB s && chkE c a x
  | c, .sli _ a lo hi, .Subscript x (.Slice l u none _) _ => chkE c a x && (match l with | none => isNonE lo | some y => !isNonE lo && chkE c lo y) && (match u with | none => isNonE hi | some y => !isNonE hi && chkE c hi y)
  | c, .srt _ a g, .Call (.Name x _) [y] kws _ => bltB c "sorted" x && chkE c a y && keyB c g kws
  | c, .meth m o es, .Call (.Attribute x n ap) (y :: ys) [] p => decide (n = Str.ofString (mfName m)) && chkE c o x && chkEs c es (y :: ys) && (ap.endLine == p.line) && decide (ys.length ≤ 3)
  | c, .rep _ a i, .BinOp x .Mult y _ => chkE c a x && chkE c i y
  | c, .lens a, .Call (.Name x _) [.Call (.Name y _) [z] [] _] [] _ => bltB c "len" x && bltB c "set" y && chkE c a z
  | c, .idx a i, .Subscript x s _ => chkE c a x && chkE c i s
  | c, .comp _ own tg it k elt, .ListComp e [⟨t, iter, ifs, n⟩] scope _ => decide (n = 0) && blkC c.N c.sc scope (own.map fun i => (c.N.getD i ⟨#[]⟩, i)) && chkW c t it iter && chkT (c.blk scope) tg t && tg.slots.all (fun i => own.contains i) && chkE (c.blk scope) elt e && noset iter && chkEs (c.blk scope) k ifs && decide (ifs.length ≤ 1)
  | _, _, _ => false
def chkEs : SC → Es → List Expr → Bool
  | _, .nil, [] => true
  | c, .cons e es, x :: xs => chkE c e x && chkEs c es xs
  | _, _, _ => false
def chkW : SC → Expr → Wk → Expr → Bool
  | c, _, .seq e, x => chkE c e x
  | c, _, .rng1 hi, .Call (.Name x _) [y] [] _ => bltB c "range" x && chkE c hi y
  | c, _, .rng lo hi, .Call (.Name x _) [y, z] [] _ => bltB c "range" x && chkE c lo y && chkE c hi z
  | c, .Tuple _ _ _, .enum e, .Call (.Name x _) [y] [] _ => bltB c "enumerate" x && chkE c e y
  | c, .Tuple _ _ _, .zip a b, .Call (.Name x _) [y, z] [] _ => bltB c "zip" x && chkE c a y && chkE c b z
  | _, _, _, _ => false
def chkT : SC → T → Expr → Bool
  | c, .name i, .Name x _ => nmB c i x && locB c x
  | c, .tup ts, .Tuple xs _ _ => chkTs c ts xs
  | _, _, _ => false
def chkTs : SC → Ts → List Expr → Bool
  | _, .nil, [] => true
  | c, .cons t ts, x :: xs => chkT c t x && chkTs c ts xs
  | _, _, _ => false
end
/-- what is stored by name on one line with a comprehension -/
def plainV : Expr → Bool
  | .ListComp _ _ _ _ => false
  | .SetComp _ _ _ _ => false
  | .DictComp _ _ _ _ _ => false
  | _ => true
/-- no tuple into a tuple of names -/
def asgB : Expr → Expr → Bool
  | .Tuple _ _ _, .Tuple _ _ _ => false
  | _, _ => true
/-- names on one line, written side by side, stored from the right -/
def parB (c : SC) : Expr → Expr → Bool
  | .Tuple [.Name x p, .Name y q] _ _, .Tuple [a, b] _ _ => decide (c.sc.names.lookup x = some .local) && decide (c.sc.names.lookup y = some .local) && !(x == y) && (q.line == p.line) && !(foldedForSure 8 a && foldedForSure 8 b) && !(constantsAlone 8 a && constantsAlone 8 b)
  | .Tuple [.Name x p, .Name y q, .Name z r] _ _, .Tuple [a, b, d] _ _ => decide (c.sc.names.lookup x = some .local) && decide (c.sc.names.lookup y = some .local) && decide (c.sc.names.lookup z = some .local) && !(x == y) && !(x == z) && !(y == z) && (q.line == p.line) && (r.line == p.line) && !(foldedForSure 8 a && foldedForSure 8 b && foldedForSure 8 d) && !(constantsAlone 8 a && constantsAlone 8 b && constantsAlone 8 d)
  | _, _ => false
def setB (c : SC) (a i e : E) : Expr → Expr → Bool
  | .Subscript y z _, x => chkE c a y && chkE c i z && chkE c e x && plainV x
  | _, _ => false
mutual
def chkS : SC → S → Stmt → Bool
  | c, .expr e, .Expr x _ => chkE c e x && plainV x
  | c, .ret e, .Return (some x) _ => chkE c e x
  | c, .asg t e, .Assign [y] x _ => chkE c e x && chkT c t y && (asgB y x || parB c y x)
  | c, .seti a i e, .Assign [y] x _ => setB c a i e y x
  | c, .aug i e, .AugAssign (.Name y _) .Add x _ => chkE c e x && nmB c i y && locB c y
  | c, .ite k a b, .If t x y _ => chkE c k t && chkSs c a x && chkSs c b y
  | c, .for_ t w b, .For y iter body [] _ => chkW c y w iter && chkT c t y && chkSs c b body && noset iter
  | c, .whl k b, .While t body [] _ => chkE c k t && chkSs c b body
  | _, .pass, .Pass _ => true
  | _, .brk, .Break _ => true
  | _, .cont, .Continue _ => true
  | _, .raise _ _, .Raise _ _ _ => true
  | _, _, _ => false
def chkSs : SC → Ss → List Stmt → Bool
  | _, .nil, [] => true
  | c, .cons s ss, x :: xs => chkS c s x && chkSs c ss xs
  | _, _, _ => false
end
end Pf

namespace Pf
open PySem PySem.Spec PyProof.Rows L2

/-- room, and no text of an object is being made -/
structure Rm (k : Nat) (A : Around) : Prop where
  room : Room k A
  guards : A.guards = some []
theorem Rm.mono {j k : Nat} {A : Around} (r : Rm k A) (h : j ≤ k) : Rm j A := ⟨r.room.mono h, r.guards⟩
theorem Rm.deeper {k : Nat} {A : Around} (r : Rm (k + 1) A) (env : Env) : Rm k (A.deeper env) := ⟨r.room.deeper env, r.guards⟩

/-- the def at f keeps the promise sp -/
structure FnG (P : Program) (w : World) (K : PySem.W.Frag) (mg : Str → Option Value) (base : Heap) (k : Nat) (f : Addr) (fd : FuncData) (ps : List Str) (sp : Sp) : Prop where
  len : ∀ vs H Q E, sp vs H Q E → vs.length = ps.length
  run : ∀ (A : Around) (outer : List Env) (s : Shared) (H : Hp) (args : Args) (us : List Value) (vs : List V) (Q : VK) (E : XK),
    Rm k A → Env0 P w K mg base A outer s H → BindsTo s fd args (ps.zip us) → Vals vs us → sp vs H Q E → codeAny (model P w) A (.call (.ref f) args) (CR CX0 outer P w H s Q E) s
theorem FnG.mono {P : Program} {w : World} {K : PySem.W.Frag} {mg : Str → Option Value} {base : Heap} {j k : Nat} {f : Addr} {fd : FuncData} {ps : List Str} {sp : Sp}
    (G : FnG P w K mg base j f fd ps sp) (h : j ≤ k) : FnG P w K mg base k f fd ps sp :=
  ⟨G.len, fun A outer s H args us vs Q E hr => G.run A outer s H args us vs Q E (hr.mono h)⟩
theorem FnG.imp {P : Program} {w : World} {K : PySem.W.Frag} {mg : Str → Option Value} {base : Heap} {k : Nat} {f : Addr} {fd : FuncData} {ps : List Str} {sp sp' : Sp}
    (G : FnG P w K mg base k f fd ps sp) (h : ∀ vs H Q E, sp' vs H Q E → sp vs H Q E) : FnG P w K mg base k f fd ps sp' :=
  ⟨fun vs H Q E q => G.len _ _ _ _ (h _ _ _ _ q), fun A outer s H args us vs Q E hr e b r q => G.run A outer s H args us vs Q E hr e b r (h _ _ _ _ q)⟩

section
variable {X : Cx} {k : Nat} {f : Addr} {fd : FuncData} {ps : List Str} {sp : Sp} {x : Str} {p pos : Pos} {e : Expr} {es : List Expr} {t : TA}
theorem run_g {pins : List (Addr × Obj)} {σ : L2.St} {H : Hp} {s : Shared} {Q : VK} {us : List Value} {vs : List V} (G : FnG X.prog X.w X.K X.mg X.base k f fd ps sp) (hr : Rm k X.A) (hb : Binds X.K fd ps [])
    (I : Inv X pins σ H s) (r : Vals vs us) (h : sp vs H Q E0) : wpAny (model X.prog X.w) X.A (call (.ref f) us) (EP X pins σ Q) X.xe s := by
  have hl : us.length = ps.length := by rw [← r.length]; exact G.len _ _ _ _ h
  have bb := hb s us I.kIn (by simpa using hl)
  rw [List.append_nil] at bb
  refine wpAny_call (codeAny_mono (G.run X.A X.stack s H ⟨us, []⟩ us vs Q E0 hr I.env0 bb r h) fun res s' hq => ?_)
  cases res with
  | error _ => exact False.elim hq
  | ok fl =>
    cases fl with
    | ret u => exact I.after hq
    | _ => exact False.elim hq
def tCallG (sp : Sp) (t : TA) : TE := fun σ H Q => t σ H fun vs H1 => sp vs H1 Q E0
theorem pe_callG (G : FnG X.prog X.w X.K X.mg X.base k f fd ps sp) (hr : Rm k X.A) (hg : Gl X x) (hm : X.mg x = some (.ref f)) (hk : PySem.W.keepIn X.K (.ref f) = true) (hb : Binds X.K fd ps []) (hd : (x == ("__debug__" : Str)) = false)
    (ha : PA X (e :: es) t) (he : starEach (e :: es) X.env = (false, eval e X.env) :: starEach es X.env) (hp : (backTo pos (starEach es X.env)).any (·.1) = false) : PE X (.Call (.Name x p) (e :: es) [] pos) (tCallG sp t) := by
  refine ⟨fun pins s σ H Q I q => wpAny_Call_Name_kw (ld_glob I hg hm ?_ hd)⟩
  exact PySem.W.callWith_K (h₀ := X.base) I.ok.mod.kin hk (thn (ha.run pos pins s σ H _ I q) fun us s1 ⟨vs, H1, I1, r, q1⟩ => ⟨I1.kIn, run_g G hr hb I1 r q1⟩) he hp
end

/-- a def, by its body -/
theorem fnG_of {P : Program} {w : World} {K : PySem.W.Frag} {mg : Str → Option Value} {base : Heap} {x qual : Str} {st : Stmt} {f : Addr} {fd : FuncData} {N ps : List Str} {k : Nat} {sp : Sp} (G : Fun K x qual st f fd) (S : FnScope N ps (defScope st))
    (len : ∀ vs H Q E, sp vs H Q E → vs.length = ps.length)
    (hbody : ∀ (cdv : Value) (A : Around) (outer : List Env) (s : Shared) (H : Hp) (vs : List V) (Q : VK) (E : XK), Rm k (A.deeper (envOfC qual (defScope st) s.heap.objs.size f cdv)) → sp vs H Q E →
      ∃ t, PSs (cxOf CX0 P w K mg base N qual (defScope st) f cdv A outer s H E).nox (defBody st) t ∧ t { nx := fun _ H' => Q .non H', rt := Q } (start N vs) H) : FnG P w K mg base (k + 1) f fd ps sp := by
  obtain ⟨oc, od, kV, doc, pm, an, cdv, ct, osl, rfl, lk, hcd⟩ := G.ex
  refine ⟨len, fun A outer s H args us vs Q E hr e0 hb r hsp => ?_⟩
  have hl := len _ _ _ _ hsp
  have inK : K.In s.heap := e0.mod.kin.keeps fun b o e => (e0.bs b o e).1
  have lim : s.heap.NoLimit := e0.mod.nolimit.keeps fun b o e => (e0.bs b o e).1
  refine codeAny_call_function hr.room.depth (inK _ _ lk) rfl S.co S.gen rfl (PySem.W.codeRec_of inK hcd) (hb _ _ _ _ ?_)
  refine wpAny_newFunctionEnv_cells S.kind (fun y hy => ?_) fun env he s1 x => ?_
  · rcases S.par y.1 (List.of_mem_zip hy).1 with q | q
    · exact .inl q
    · exact .inr ⟨q, PySem.W.cellsFrom_some _ _ _ (.inl q)⟩
  subst he
  refine ⟨lim.keeps x.toInCall.keep, codeAny_func ?_⟩
  obtain ⟨t, ht, hq⟩ := hbody cdv A outer s H vs Q E (hr.deeper _) hsp
  have I := inv_start (CX := CX0) (E := E) S hr.room.hd e0 hl r x
  refine wpAny_mono (ht.nox.run [] s1 (start N vs) H _ I hq) (fun fl s' hs => ?_) fun _ _ z => z
  cases fl with
  | ret u => obtain ⟨v, σ', H', J, rv, q⟩ := hs; exact ⟨v, H', J.os, J.bare, J.base, J.hok, rv, q⟩
  | next => obtain ⟨σ', H', J, q⟩ := hs; exact ⟨V.non, H', J.os, J.bare, J.base, J.hok, rfl, q⟩
  | brk => obtain ⟨_, _, _, q⟩ := hs; exact False.elim q
  | cont => obtain ⟨_, _, _, q⟩ := hs; exact False.elim q
end Pf

namespace Pf
open PySem PySem.Spec PyProof.Rows L2

section
variable {c : SC} {e : E} {x : Expr}
theorem chk_star (h : chkE c e x = true) : ∀ v p, x ≠ .Starred v p := by
  rintro v p rfl
  cases e <;> simp [chkE] at h
theorem chk_slice (h : chkE c e x = true) : ∀ a b d p, x ≠ .Slice a b d p := by
  rintro a b d p rfl
  cases e <;> simp [chkE] at h
theorem star_ns {x : Expr} {xs : List Expr} {env : Env} (h : ∀ v p, x ≠ .Starred v p) : starEach (x :: xs) env = (false, eval x env) :: starEach xs env := by
  cases x <;> first | rfl | exact absurd rfl (h _ _)
theorem chks_plain : ∀ {es : Es} {xs : List Expr} {pos : Pos} {env : Env}, chkEs c es xs = true → (backTo pos (starEach xs env)).any (·.1) = false
  | .nil, [], _, _, _ => rfl
  | .cons e es, x :: xs, pos, env, h => by
    have h : (chkE c e x && chkEs c es xs) = true := h
    rw [Bool.and_eq_true] at h
    rw [star_ns (chk_star h.1)]
    show ((false, _) :: backTo pos (starEach xs env)).any (·.1) = false
    rw [List.any_cons, chks_plain h.2]
    rfl
  | .nil, _ :: _, _, _, h => by simp [chkEs] at h
  | .cons _ _, [], _, _, h => by simp [chkEs] at h
theorem mark_no {op : PySem.CmpOp} {y : Expr} (h : noset y = true) : behindInMarks op y = false := by
  cases y <;> first | rfl | cases h
theorem fold_no {y : Expr} {env : Env} (h : noset y = true) : ∀ v, foldedSetIterable y env v = pure v := by
  intro v
  cases y <;> first | rfl | cases h
end

/-- what is told of the place where a text stands -/
structure Ok (X : Cx) (c : SC) (F : Ent) (Φ : Fs) (k : Nat) : Prop where
  hN : X.N = c.N
  hsc : X.env.scope = c.sc
  hfn : X.fn = c.fn
  hK : F.K = X.K
  nd : c.N.Nodup
  calm : X.calm = true
  xe : X.xe = fun _ _ => False
  rm : Rm k X.A
  blt : ∀ n, c.B.contains n = true → X.mg (Str.ofString n) = none
  gl : ∀ g, c.G.contains g = true → ∃ v u, X.mg (Str.ofString g) = some u ∧ RelV v u ∧ ∀ ι H, Rp X.K ι H v (Φ.gl g)
  fns : ∀ f, c.F.contains f = true → ∃ a fd ps j, j < k ∧ X.mg (Str.ofString f) = some (.ref a) ∧ PySem.W.keepIn X.K (.ref a) = true ∧ Binds X.K fd ps [] ∧ FnG X.prog X.w X.K X.mg X.base j a fd ps (liftP X.K (Φ.fn f))
section
variable {X : Cx} {c : SC} {F : Ent} {Φ : Fs} {k : Nat}
theorem Ok.blk (O : Ok X c F Φ k) (s : Shared) (H : Hp) (scope : Scope) (C : Addr) (cl : List (Str × Addr)) (fp : List Addr) : Ok (X.blk s H scope (compEnvC scope cl C X.env) fp) (c.blk scope) F Φ k :=
  ⟨O.hN, by show relS scope X.env.scope = relS scope c.sc; rw [O.hsc], rfl, O.hK, O.nd, O.calm, rfl, O.rm, O.blt, O.gl, O.fns⟩
theorem Ok.u64 (O : Ok X c F Φ k) : X.A.units + 64 < cLine := O.rm.room.units
theorem Ok.u70 (O : Ok X c F Φ k) : X.A.units + 70 < cLine := by have := O.rm.room.un; omega
theorem gl_of {x : Str} (O : Ok X c F Φ k) (h : glB c.sc x = true) : Gl X x := by
  unfold glB at h
  show X.env.scope.names.lookup x = some .globalImplicit
  rw [O.hsc]
  split at h
  · assumption
  · cases h
theorem dbg_of {x : Str} (h : nodbg x = true) : (x == ("__debug__" : Str)) = false ∧ (x == ("__classdict__" : Str)) = false ∧ x ≠ "__name__" := by
  unfold nodbg at h
  simp only [Bool.and_eq_true, Bool.not_eq_true'] at h
  exact ⟨h.1.1, h.1.2, fun e => by rw [e] at h; simp at h⟩
theorem vis_of {x : Str} (O : Ok X c F Φ k) (h : visB c.sc x = true) : Vis X.env.scope x := by
  unfold visB at h
  rw [O.hsc]
  split at h
  · exact .inl (by assumption)
  · exact .inr (.inl (by assumption))
  · exact .inr (.inr (by assumption))
  · cases h
theorem blt_of {x : Str} {n : String} (O : Ok X c F Φ k) (h : bltB c n x = true) : x = Str.ofString n ∧ X.mg x = none ∧ Gl X x ∧ (x == ("__debug__" : Str)) = false ∧ x ≠ "__name__" := by
  unfold bltB at h
  simp only [Bool.and_eq_true, decide_eq_true_eq] at h
  obtain ⟨⟨⟨e, h1⟩, h2⟩, h3⟩ := h
  obtain ⟨d1, d2, d3⟩ := dbg_of h3
  exact ⟨e, by rw [e]; exact O.blt n h1, gl_of O h2, d1, d3⟩
end

def Facts (K : PySem.W.Frag) (H : Hp) : Prop := ∀ a xs, (SqL K H a xs ∨ SqT K H a xs) → xs.length ≤ 16777216
section
variable {X : Cx} {e : Expr} {es : List Expr}
theorem facts_of {pins : List (Addr × Obj)} {σ : L2.St} {H : Hp} {s : Shared} (I : Inv X pins σ H s) : Facts X.K H := fun a xs h => by
  rcases h with h | h
  · obtain ⟨_, _, _, z⟩ := I.list h; exact z
  · obtain ⟨_, _, _, z⟩ := I.tuple h; exact z
theorem PE.facts {t : TE} (p : PE X e t) : PE X e (fun σ H Q => t σ H fun v H1 => Facts X.K H1 → Q v H1) :=
  ⟨fun pins s σ H Q I q => thn (p.run pins s σ H _ I q) fun u s' ⟨v, H', I', r, q⟩ => ⟨v, H', I', r, q (facts_of I')⟩⟩
theorem PA.facts {t : TA} (p : PA X es t) : PA X es (fun σ H Q => t σ H fun v H1 => Facts X.K H1 → Q v H1) :=
  ⟨fun pos pins s σ H Q I q => thn (p.run pos pins s σ H _ I q) fun u s' ⟨v, H', I', r, q⟩ => ⟨v, H', I', r, q (facts_of I')⟩⟩
end

/-- but for these slots -/
def Off (is : List Nat) (σ σ' : L2.St) : Prop := σ'.length = σ.length ∧ ∀ j, j ∉ is → σ'[j]? = σ[j]?
theorem wipe_at (σ : L2.St) : ∀ (vs : List Nat) (j : Nat), (wipe σ vs)[j]? = if j ∈ vs then (if j < σ.length then some none else none) else σ[j]?
  | [], j => by simp [wipe]
  | v :: vs, j => by
    unfold wipe
    by_cases hv : v = j
    · subst hv
      rw [if_pos List.mem_cons_self]
      by_cases hl : v < σ.length
      · rw [if_pos hl, List.getElem?_set_self (by rw [wipe_length]; exact hl)]
      · rw [if_neg hl, List.getElem?_eq_none (by rw [List.length_set, wipe_length]; omega)]
    · rw [List.getElem?_set_ne hv, wipe_at σ vs j]
      have : (j ∈ v :: vs) = (j ∈ vs) := by
        rw [List.mem_cons]
        exact propext ⟨fun z => z.elim (fun e => absurd e.symm hv) id, .inr⟩
      simp only [this]
theorem wipe_off {is own : List Nat} {σ σ' : L2.St} (h : Off is (wipe σ own) σ') (hs : ∀ i ∈ is, i ∈ own) : wipe σ' own = wipe σ own := by
  refine List.ext_getElem? fun j => ?_
  rw [wipe_at, wipe_at]
  by_cases hj : j ∈ own
  · rw [if_pos hj, if_pos hj, h.1, wipe_length]
  · rw [if_neg hj, if_neg hj, h.2 j fun z => hj (hs j z), wipe_at, if_neg hj]
def liftG (F : Ent) (is : List Nat) (t : D → DS → DH → (DS → DH → Prop) → Prop) : TG := fun v σ H Q => ∃ ι τ h d Qd, SR F.K ι H h σ τ ∧ Ext F.ι F.H ι H ∧ Rp F.K ι H v d ∧ t d τ h Qd ∧
  ∀ τ' h' σ' H' ι', Qd τ' h' → Ext ι H ι' H' → SR F.K ι' H' h' σ' τ' → Off is σ σ' → Q σ' H'
def liftGs (F : Ent) (is : List Nat) (t : List D → DS → DH → (DS → DH → Prop) → Prop) : TGs := fun vs σ H Q => ∃ ι τ h ds Qd, SR F.K ι H h σ τ ∧ Ext F.ι F.H ι H ∧ Rps F.K ι H vs ds ∧ t ds τ h Qd ∧
  ∀ τ' h' σ' H' ι', Qd τ' h' → Ext ι H ι' H' → SR F.K ι' H' h' σ' τ' → Off is σ σ' → Q σ' H'
section
variable {X : Cx} {c : SC} {F : Ent} {Φ : Fs} {k : Nat}
theorem PG.imp {tg : Expr} {t t' : TG} (p : PG X tg t) (h : ∀ v σ H Q, t' v σ H Q → t v σ H Q) : PG X tg t' := ⟨fun pins s σ H v u Q I r q => p.run pins s σ H v u Q I r (h _ _ _ _ q)⟩
theorem PGs.imp {tg : List Expr} {t t' : TGs} (p : PGs X tg t) (h : ∀ v σ H Q, t' v σ H Q → t v σ H Q) : PGs X tg t' := ⟨fun pins s σ H v u Q I r q => p.run pins s σ H v u Q I r (h _ _ _ _ q)⟩
theorem chkT_star {t : T} {x : Expr} (h : chkT c t x = true) : ∀ v p, x ≠ .Starred v p := by
  rintro v p rfl
  cases t <;> simp [chkT] at h
theorem asg_ns {x : Expr} {xs : List Expr} {env : Env} (h : ∀ v p, x ≠ .Starred v p) : assignEach (x :: xs) env = (false, assign x env) :: assignEach xs env := by
  cases x <;> first | rfl | exact absurd rfl (h _ _)
theorem chkTs_plain : ∀ {ts : Ts} {xs : List Expr} {env : Env}, chkTs c ts xs = true → (assignEach xs env).length = ts.len ∧ (assignEach xs env).findIdx? (·.1) = none
  | .nil, [], _, _ => ⟨rfl, rfl⟩
  | .cons t ts, x :: xs, env, h => by
    have h : (chkT c t x && chkTs c ts xs) = true := h
    rw [Bool.and_eq_true] at h
    obtain ⟨h1, h2⟩ := chkTs_plain (env := env) h.2
    rw [asg_ns (chkT_star h.1)]
    refine ⟨congrArg (· + 1) h1, ?_⟩
    rw [List.findIdx?_cons, h2]
    rfl
  | .nil, _ :: _, _, h => by simp [chkTs] at h
  | .cons _ _, [], _, h => by simp [chkTs] at h
mutual
theorem sndT (O : Ok X c F Φ k) : ∀ (t : T) (x : Expr), chkT c t x = true → PG X x (liftG F t.slots (bindT t))
  | .name i, x, h => by
    cases x with
    | Name x pos =>
      have h : (nmB c i x && locB c x) = true := h
      rw [Bool.and_eq_true] at h
      obtain ⟨h1, h2⟩ := h
      unfold nmB at h1
      rw [Bool.and_eq_true, decide_eq_true_eq] at h1
      have hl : (c.sc.names.lookup x = some .local ∨ c.sc.names.lookup x = some .cell) ∧ (c.fn x = true ∨ c.sc.names.lookup x = some .local) := by
        unfold locB at h2
        split at h2
        · exact ⟨.inl (by assumption), .inr (by assumption)⟩
        · exact ⟨.inr (by assumption), .inl h2⟩
        · cases h2
      refine PG.imp (pg_name (i := i) (by rw [O.hN]; exact O.nd) (by rw [O.hN]; exact h1.1) (by unfold L2.Loc; rw [O.hsc]; exact hl.1) (by rw [O.hfn, O.hsc]; exact hl.2)) fun v σ H Q q => ?_
      obtain ⟨ι, τ, h, d, Qd, sr, ex, rp, q, k⟩ := q
      exact k _ _ _ _ _ q .refl (sr.set i rp) ⟨by simp, fun j hj => List.getElem?_set_ne (fun e => hj (by rw [← e]; exact List.mem_singleton_self _))⟩
    | _ => simp [chkT] at h
  | .tup ts, x, h => by
    cases x with
    | Tuple xs kk pos =>
      have h : chkTs c ts xs = true := h
      obtain ⟨l1, l2⟩ := chkTs_plain (env := X.env) h
      refine PG.imp (pg_tup (n := ts.len) O.calm (sndTs O ts xs h) l1 l2) fun v σ H Q q => ?_
      obtain ⟨ι, τ, h, d, Qd, sr, ex, rp, ⟨ds, rfl, hl, q⟩, k⟩ := q
      cases rp with
      | tup qt t =>
        refine ⟨_, _, rfl, by rw [← O.hK]; exact qt, by rw [t.length]; exact hl, ι, τ, h, ds, Qd, sr, ex, t, q, k⟩
    | _ => simp [chkT] at h
theorem sndTs (O : Ok X c F Φ k) : ∀ (ts : Ts) (xs : List Expr), chkTs c ts xs = true → PGs X xs (liftGs F ts.slots (bindTs ts))
  | .nil, xs, h => by
    cases xs with
    | nil =>
      refine PGs.imp pgs_nil fun v σ H Q q => ?_
      obtain ⟨ι, τ, h, d, Qd, sr, ex, rp, ⟨rfl, q⟩, k⟩ := q
      cases rp
      exact ⟨rfl, k _ _ _ _ _ q .refl sr ⟨rfl, fun _ _ => rfl⟩⟩
    | cons _ _ => simp [chkTs] at h
  | .cons t ts, xs, h => by
    cases xs with
    | nil => simp [chkTs] at h
    | cons x xs =>
      have h : (chkT c t x && chkTs c ts xs) = true := h
      rw [Bool.and_eq_true] at h
      refine PGs.imp (pgs_cons (sndT O t x h.1) (sndTs O ts xs h.2) (by rw [asg_ns (chkT_star h.1)]; rfl)) fun vs σ H Q q => ?_
      obtain ⟨ι, τ, h, d, Qd, sr, ex, rp, ⟨y, r, rfl, q⟩, k⟩ := q
      cases rp with
      | cons r1 r2 =>
        refine ⟨_, _, rfl, ι, τ, h, y, _, sr, ex, r1, q, fun τ' h' σ' H' ι' q e sr' of => ?_⟩
        exact ⟨ι', τ', h', r, Qd, sr', ex.trans sr.hr e, r2.mono sr.hr e, q, fun τ2 h2 σ2 H2 ι2 q2 e2 s2 of2 => k _ _ _ _ _ q2 (e.trans sr'.hr e2) s2 ⟨of2.1.trans of.1, fun j hj => (of2.2 j fun z => hj (List.mem_append_right _ z)).trans (of.2 j fun z => hj (List.mem_append_left _ z))⟩⟩
end
end
end Pf

namespace Pf
open PySem PySem.Spec PyProof.Rows L2

/-- no error leaves -/
def NX : DQ := fun _ _ => False
section
variable {X : Cx} {c : SC} {F : Ent} {Φ : Fs} {k : Nat} {xq : DQ}
/-- a value at once -/
theorem lift_c {v : V} {d : D} {σ : L2.St} {H : Hp} {Q : VK} (q : liftE F (fun _ h Q => Q d h) σ H Q) (r : ∀ ι H, Rp F.K ι H v d) : Q v H := by
  obtain ⟨ι, τ, h, Qd, sr, ex, q, k⟩ := q
  exact k _ _ _ _ _ q .refl sr.hr (r _ _)
theorem opB_eq {o : BinO} {op : Operator} (h : opB o op = true) : op = opA o := by
  cases o <;> cases op <;> first | rfl | cases h
theorem cmB_eq {o : CmpO} {op : PySem.CmpOp} (h : cmB o op = true) : op = opC o := by
  cases o <;> cases op <;> first | rfl | cases h
theorem boot_bf : ∀ f : BF, f ≠ .lenset → f ≠ .list0 → bootBuiltins (Str.ofString (bfName f)) = some (bfVal f) := by
  intro f h1 h2
  cases f <;> first | exact absurd rfl h1 | exact absurd rfl h2 | decide +kernel
theorem boot_ty : ∀ t : Ty, t ≠ .none → bootBuiltins (Str.ofString (tyStr t)) = some (.type (tyStr t)) := by
  intro t h
  cases t <;> first | exact absurd rfl h | decide +kernel
/-- a test, of an expression that gives a truth value -/
theorem liftT_val {t : DS → DH → DQ → Prop} {σ : L2.St} {H : Hp} {Q : Bool → Hp → Prop} (q : liftT F t σ H Q) : liftE F t σ H fun v H1 => ∃ b, v = .bl b ∧ Q b H1 := by
  obtain ⟨ι, τ, h, Qd, sr, ex, q, k⟩ := q
  refine ⟨ι, τ, h, Qd, sr, ex, q, fun d h' v H' ι' q e hr rp => ?_⟩
  obtain ⟨b, rfl, q2⟩ := k d h' H' ι' q e hr
  exact ⟨b, rp.bv, q2⟩
/-- .. from a reading that gives one -/
theorem liftT_of {t : DS → DH → DQ → Prop} {σ : L2.St} {H : Hp} {Q : VK} (q : liftE F (fun τ h Q => t τ h fun x h1 => ∃ b, x = .bl b ∧ Q x h1) σ H Q) : liftT F t σ H fun b H1 => Q (.bl b) H1 := by
  obtain ⟨ι, τ, h, Qd, sr, ex, q, k⟩ := q
  refine ⟨ι, τ, h, _, sr, ex, q, fun d h' H' ι' q e hr => ?_⟩
  obtain ⟨b, rfl, q⟩ := q
  exact ⟨b, rfl, k _ _ _ _ _ q e hr (.bl b)⟩

theorem lc_D {wi : DS → DH → (List D → (DH → Prop) → DH → Prop) → Prop} {own : List Nat} {g : D → DS → DH → (DS → DH → Prop) → Prop} {ck ce : DS → DH → DQ → Prop} {bx : Bool} {σ : L2.St} {H : Hp} {Q : VK}
    {is : List Nat} (hg : ∀ i ∈ is, i ∈ own)
    (q : liftE F (fun τ h Q => wi τ h fun items st h1 => compL (fun x h2 k => g x (wipeD τ own) h2 fun σ3 h3 => ck σ3 h3 fun b h4 => ∃ t, b = .bl t ∧ if t = true then ce σ3 h4 fun y h5 => k (some y) h5 else k none h4) st items [] h1 fun ys h2 => mkL bx ys h2 Q) σ H Q) :
    tLc (liftI F wi) (liftG F is g) (liftT F ck) (liftE F ce) own σ H Q := by
  obtain ⟨ι, τ, h, Qd, sr, ex, q, k⟩ := q
  refine ⟨ι, τ, h, _, sr, ex, q, fun items st h1 H1 ι1 J q e hr hlen jr => fun D hD => ?_⟩
  have hDx : D ∉ ι1.ix := hr.fresh hD
  have hDh : D ∉ ι1.hd := hr.freshH hD
  refine ⟨fun i m Hc => m = items.length - i ∧ i ≤ items.length ∧ ∃ ι' hc acc vs, HR F.K ι' Hc hc ∧ Ext ι1 H1 ι' Hc ∧ Hc D = some (.lst vs) ∧ D ∈ ι'.hd ∧ D ∉ ι'.ix ∧ Rps F.K ι' Hc vs acc ∧ acc.length ≤ i ∧
    compL (fun x h2 k => g x (wipeD τ own) h2 fun σ3 h3 => ck σ3 h3 fun b h4 => ∃ t, b = .bl t ∧ if t = true then ce σ3 h4 fun y h5 => k (some y) h5 else k none h4) st (items.drop i) acc hc fun ys h2 => mkL bx ys h2 Qd, ?_, ?_⟩
  · refine ⟨items.length, rfl, Nat.zero_le _, ⟨ι1.ix, D :: ι1.hd⟩, h1, [], [], hr.hide hD [], ?_, upd_same, List.mem_cons_self, hDx, .nil, Nat.le_refl _, q⟩
    refine ⟨⟨[], by simp, by simp⟩, fun a ha => ?_, fun a ha => List.mem_cons_of_mem _ ha, fun b o q _ => by rw [upd_ne (ne_of_none q hD)]; exact q⟩
    rcases List.mem_cons.mp ha with z | z
    · exact .inr (by rw [z]; exact hD)
    · exact .inl z
  · rintro i m Hc ⟨rfl, hi, ι', hc, acc, vs, hrc, exc, hcD, hDin, hDn, tacc, hacc, w⟩
    by_cases hlt : i < items.length
    · have hdrop : items.drop i = items[i] :: items.drop (i + 1) := List.drop_eq_getElem_cons hlt
      rw [hdrop] at w
      obtain ⟨hst, w⟩ := w
      obtain ⟨j1, j2, j3⟩ := jr i ι' hc Hc hrc exc hst
      refine .inr ⟨j1 hlt, fun Hn => items.length - (i + 1) < items.length - i ∧ (fun i m Hc => m = items.length - i ∧ i ≤ items.length ∧ ∃ ι' hc acc vs, HR F.K ι' Hc hc ∧ Ext ι1 H1 ι' Hc ∧ Hc D = some (.lst vs) ∧ D ∈ ι'.hd ∧ D ∉ ι'.ix ∧ Rps F.K ι' Hc vs acc ∧ acc.length ≤ i ∧
        compL (fun x h2 k => g x (wipeD τ own) h2 fun σ3 h3 => ck σ3 h3 fun b h4 => ∃ t, b = .bl t ∧ if t = true then ce σ3 h4 fun y h5 => k (some y) h5 else k none h4) st (items.drop i) acc hc fun ys h2 => mkL bx ys h2 Qd) (i + 1) (items.length - (i + 1)) Hn, fun H' hn => ⟨_, hn.1, hn.2⟩, fun x H' hy => ?_⟩
      obtain ⟨d, hd, e2, hr2, rx⟩ := j2 x H' hlt hy
      have hde : d = items[i] := by rw [List.getElem?_eq_getElem hlt] at hd; exact (Option.some.inj hd).symm
      subst hde
      have exF : Ext F.ι F.H ι1 H1 := ex.trans sr.hr e
      have ex2 : Ext ι1 H1 ι' H' := exc.trans hrc e2
      have sr2 : SR F.K ι' H' hc (wipe σ own) (wipeD τ own) := ((sr.mono (e.trans hr ex2) hr2).wipe own)
      have hD2 : H' D = some (.lst vs) := e2.keep _ _ hcD hDn
      have tacc2 := tacc.mono hrc e2
      refine ⟨ι', _, hc, items[i], _, sr2, exF.trans hr ex2, rx, w, fun τ3 h3 σ3 H3 ι3 q3 e3 sr3 off => ?_⟩
      have stay : ∀ {ι4 : Ix} {H4 : Hp}, Ext ι' H' ι4 H4 → H4 D = some (.lst vs) ∧ D ∈ ι4.hd ∧ D ∉ ι4.ix := fun {ι4 H4} e4 => by
        refine ⟨e4.keep _ _ hD2 hDn, e4.hid2 _ hDin, e4.notin hDn ⟨_, hD2⟩⟩
      refine ⟨?_, ι3, τ3, h3, _, sr3, (exF.trans hr ex2).trans hr2 e3, q3, fun b h4 H4 ι4 q4 e4 hr4 => ?_⟩
      · exact wipe_off off hg
      · obtain ⟨t, rfl, q4⟩ := q4
        refine ⟨t, rfl, ?_⟩
        have e34 := e3.trans sr3.hr e4
        cases t with
        | true =>
          rw [if_pos rfl] at q4
          refine iteT ⟨ι4, τ3, h4, _, sr3.mono e4 hr4, ((exF.trans hr ex2).trans hr2 e3).trans sr3.hr e4, q4, fun y h5 v5 H5 ι5 q5 e5 hr5 ry => ?_⟩
          have e35 := e34.trans hr4 e5
          obtain ⟨s1, s2, s3⟩ := stay e35
          have tacc5 := tacc2.mono hr2 e35
          have hl := tacc5.length
          refine ⟨vs, s1, ?_, ?_⟩
          · rw [sx F]; omega
          · refine ⟨by omega, rfl, hlt, ι5, h5, acc ++ [y], vs ++ [v5], hr5.inHid s1 s2 s3, ?_, upd_same, s2, s3, ?_, ?_, q5⟩
            · have e15 := ex2.trans hr2 e35
              refine ⟨e15.pre, e15.hid, e15.hid2, fun b o q hb => ?_⟩
              rw [upd_ne (ne_of_none q hD)]
              exact e15.keep b o q hb
            · exact (tacc5.inHid s1 s2).append (.cons (ry.inHid s1 s2) .nil)
            · rw [List.length_append]; simp; omega
        | false =>
          rw [if_neg Bool.false_ne_true] at q4
          obtain ⟨s1, s2, s3⟩ := stay e34
          exact iteF ⟨by omega, rfl, hlt, ι4, h4, acc, vs, hr4, ex2.trans hr2 e34, s1, s2, s3, tacc2.mono hr2 e34, by omega, q4⟩
    · have hie : i = items.length := by omega
      subst hie
      rw [List.drop_length] at w
      obtain ⟨hst, w⟩ := w
      obtain ⟨j1, j2, j3⟩ := jr _ ι' hc Hc hrc exc hst
      refine .inl ⟨j3 (Nat.le_refl _), ?_⟩
      have hsub : ∀ a ∈ ι1.hd, a ∈ ι'.hd := exc.hid2
      have exs : Ext ι1 H1 ⟨ι'.ix, ι1.hd⟩ Hc := ⟨exc.pre, fun a z => .inl z, fun a z => z, exc.keep⟩
      unfold mkL at w
      cases bx with
      | true =>
        rw [if_pos rfl] at w
        obtain ⟨ix', hd'⟩ := ι'
        have hrx := hrc.expose (hd' := ι1.hd) hsub hDin hcD hDn tacc
        refine k _ _ _ _ ⟨ix' ++ [D], ι1.hd⟩ w (e.trans hr ?_) hrx (.ref ?_)
        · obtain ⟨m, em, hm⟩ := exc.pre
          refine ⟨⟨m ++ [D], ?_, fun a ha => ?_⟩, fun a z => .inl z, fun a z => z, exc.keep⟩
          · show ix' ++ [D] = ι1.ix ++ (m ++ [D])
            rw [show ix' = ι1.ix ++ m from em, List.append_assoc]
          · rcases List.mem_append.mp ha with z | z
            · exact hm a z
            · rw [List.mem_singleton.mp z]; exact hD
        · have hl : ix'.length = hc.length := hrc.len
          show (ix' ++ [D])[hc.length]? = _
          rw [← hl, List.getElem?_append_right (Nat.le_refl _), Nat.sub_self]
          rfl
      | false =>
        rw [if_neg Bool.false_ne_true] at w
        obtain ⟨ix', hd'⟩ := ι'
        refine k _ _ _ _ ⟨ix', ι1.hd⟩ w (e.trans hr exs) (hrc.weakH hsub) (.lst hcD hDn hDh (tacc.weakH hsub))
end
end Pf

namespace Pf
open PySem PySem.W PySem.Calls PyProof.Rows

/-- all of h but the object at z stands in h', the frames at fr up to their slots -/
structure KF (fr : List Addr) (z : Addr) (h h' : Heap) : Prop where
  keep : ∀ b o, b ≠ z → b ∉ fr → h.get? b = some o → h'.get? b = some o
  slot : ∀ b o, b ∈ fr → h.get? b = some o → ∃ sl, h'.get? b = some { o with slots := sl }
structure KA (fr : List Addr) (h h' : Heap) : Prop where
  keep : ∀ b o, b ∉ fr → h.get? b = some o → h'.get? b = some o
  slot : ∀ b o, b ∈ fr → h.get? b = some o → ∃ sl, h'.get? b = some { o with slots := sl }
theorem KF.all {fr : List Addr} {z : Addr} {h h' h'' : Heap} (p : KF fr z h h') (q : KA fr h' h'') : KF fr z h h'' :=
  ⟨fun b o n m e => q.keep b o m (p.keep b o n m e), fun b o m e => by
    obtain ⟨s1, e1⟩ := p.slot b o m e
    obtain ⟨s2, e2⟩ := q.slot b _ m e1
    exact ⟨s2, e2⟩⟩
theorem KF.but {fr : List Addr} {z c : Addr} {h h' h'' : Heap} (p : KF fr z h h') (q : Heap.SameBut c h' h'') (hc : c = z ∨ h.get? c = none) (hf : c ∉ fr) : KF fr z h h'' :=
  ⟨fun b o n m e => (q.2 b fun w => by
      subst w
      rcases hc with w | w
      · exact n w
      · rw [w] at e; cases e).trans (p.keep b o n m e), fun b o m e => by
    obtain ⟨s1, e1⟩ := p.slot b o m e
    exact ⟨s1, (q.2 b fun w => hf (w ▸ m)).trans e1⟩⟩
/-- a call that keeps the heap, and gives the key k -/
def KeyG (fr : List Addr) (k : PyData) (t : Shared) (v : Value) (t' : Shared) : Prop := t'.os = t.os ∧ AllBare t'.gens ∧ KA fr t.heap t'.heap ∧ Reads (hideAll t'.heap fr) v k []

section
variable {prog : Program} {w : World} {A : Around} {E : Value → Shared → Prop} {s : Shared} {z kS : Addr} {b : Bool} {us : List Value} {e1 : Nat} {P : PySem.Fin → Shared → Prop} {kz : List PyData} {fr : List Addr}
theorem hid_but {h : Heap} {c : Addr} {g : Obj → Obj} {b : Addr} {o : Obj} (hb : b ≠ c) (e : (hideAll h fr).get? b = some o) : (hideAll (h.update c g) fr).get? b = some o := by
  have n : b ∉ fr := fun m => by rw [hideAll_none fr m] at e; cases e
  exact hideAll_get _ ((Heap.get?_update_ne _ _ _ _ hb).trans (of_hideAll _ e)) n
theorem keyG_rest {f : Value} {h₁ : Heap} (kp : KF fr z h₁ s.heap) (nz : z ∉ fr) (nS : kS ∉ fr) (hkS : h₁.get? kS = none) (bare : AllBare s.gens) (nk : s.heap.get? kS = some (seqObj "list" #[] 0)) (na : s.heap.get? z = some (seqObj "list" #[] e1)) (hka : kS ≠ z)
    (hlen : kz.length = us.length) (hZ : us.length ≤ sizeLine) (hal : AllAlike kz) (hsk : Sortable kz) (hu : ∀ d, d ∈ kz → A.units + d.depth < cLine)
    (turn : ∀ (i : Nat) (v : Value) (k : PyData), us[i]? = some v → kz[i]? = some k → ∀ t : Shared, t.os = s.os → AllBare t.gens → KF fr z h₁ t.heap → wpAny (model prog w) A (call f [v]) (KeyG fr k t) (fun _ _ => False) t)
    (fin : ∀ (t : Shared) out c, t.os = s.os → AllBare t.gens → KF fr z h₁ t.heap → t.heap.get? z = some (seqObj "list" (List.toArray out) c) → KeyedOut b kz us out → P (.done (.ret .none)) t) :
    wpAny (model prog w) A (ksk_rest z f b us.toArray e1 (.ref kS)) P E s := by
  unfold ksk_rest
  refine wpAny_bind (wpAny_rule ?_)
  first
    | rw [List.forIn_toArray]
    | (rw [← Array.forIn_toList]; simp only [List.toList_toArray])
    | rw [← Array.forIn_toList]
  refine wpAny_bind (ksk_fold (fun i t => t.os = s.os ∧ AllBare t.gens ∧ KF fr z h₁ t.heap ∧ ∃ kA e, t.heap.get? kS = some (seqObj "list" kA e) ∧ t.heap.get? z = some (seqObj "list" #[] e1) ∧
    EachIs (fun v k => Reads (hideAll t.heap fr) v k [] ∧ alike k k = true) kA.toList (kz.take i)) us 0 s ⟨rfl, bare, kp, #[], 0, nk, na, by rw [List.take_zero]; exact EachIs.nil⟩ ?more ?last)
  case more =>
    rintro j x t hx ⟨os, ba, kp', kA, e, nk', na', hk⟩
    simp only [Nat.zero_add] at hk ⊢
    have hj : j < us.length := (List.getElem?_eq_some_iff.mp hx).1
    obtain ⟨k, hkj⟩ : ∃ k, kz[j]? = some k := ⟨_, List.getElem?_eq_getElem (by omega)⟩
    have mk := List.mem_of_getElem? hkj
    have hkk : alike k k = true := hal k mk k mk
    have sz : kA.size ≤ us.length := by
      have q := hk.length
      rw [Array.length_toList, List.length_take] at q
      omega
    refine wpAny_bind (wpAny_attempt (wpAny_mono (turn j x k hx hkj t os ba kp') (fun v t' he => ?_) fun _ _ hF => hF.elim))
    obtain ⟨os', ba', ka, hr⟩ := he
    try dsimp only
    have nk2 : t'.heap.get? kS = some (seqObj "list" kA e) := ka.keep _ _ nS nk'
    have na2 : t'.heap.get? z = some (seqObj "list" #[] e1) := ka.keep _ _ nz na'
    have s1 := Heap.SameBut.update t'.heap kS (Obj.mapSeq (·.push v))
    obtain ⟨c2, hc2⟩ : ∃ c2, (t'.heap.update kS (Obj.mapSeq (·.push v))).get? kS = some (seqObj "list" (kA.push v) c2) := ⟨_, get?_update_seq nk2 (·.push v)⟩
    have ek : kz.take (j + 1) = kz.take j ++ [k] := by rw [List.take_add_one, hkj]; simp
    have ea : (kA.push v).toList = kA.toList ++ [v] := by simp
    refine wpAny_bind (listUpdate_at nk2 rfl ?_ (Nat.le_trans sz hZ) (Nat.le_trans (Nat.le_of_eq (Array.size_push ..)) (Nat.succ_le_succ (Nat.le_trans sz hZ))))
    have push1 : ∀ (u : Value) (d : PyData), Reads (hideAll t'.heap fr) u d [] ∧ alike d d = true → Reads (hideAll (t'.heap.update kS (Obj.mapSeq (·.push v))) fr) u d [] ∧ alike d d = true := fun u d q =>
      ⟨Reads.keepBut (a := kS) (fun b o hb e => hid_but hb e) (fun o e => by
        have e2 := of_hideAll _ e
        rw [nk2] at e2; rw [← Option.some.inj e2]) d u [] q.2 q.1 (by simp), q.2⟩
    refine wpAny_pure ⟨rfl, os'.trans os, ba', (kp'.all ka).but s1 (.inr hkS) nS, kA.push v, c2, hc2, (s1.2 z hka.symm).trans na2, ?_⟩
    rw [ea, ek]
    refine each_snoc (R := fun (u : Value) (d : PyData) => Reads (hideAll (t'.heap.update kS (Obj.mapSeq (·.push v))) fr) u d [] ∧ alike d d = true) (push1 v k ⟨hr, hkk⟩) ?_
    refine hk.mono fun u d q => push1 u d ⟨PyProof.Rows.Reads.keeps (fun b o e => ?_) q.1, q.2⟩
    have n : b ∉ fr := fun m => by rw [hideAll_none fr m] at e; cases e
    exact hideAll_get _ (ka.keep b o n (of_hideAll _ e)) n
  case last =>
    rintro t ⟨os, ba, kp', kA, e, nk', na', hk⟩
    have hk' : EachIs (fun v k => ∃ as, Reads t.heap v k as) kA.toList kz := by
      have e3 : kz.take (0 + us.length) = kz := List.take_of_length_le (by omega)
      rw [e3] at hk
      exact hk.mono fun v k q => ⟨[], PyProof.Rows.Reads.keeps (fun b o e => of_hideAll _ e) q.1⟩
    have hsz : kA.size = us.length := by
      have q := hk'.length
      rw [Array.length_toList] at q
      omega
    try dsimp only
    refine wpAny_bind (listItems_at nk' rfl ?_)
    have k0 : KeepsBut z (hideAll t.heap [kS]) t.heap := fun b o _ q => of_hideAll _ q
    refine keyH_end (κ := dataKind t.heap kz) (h₁ := hideAll t.heap [kS]) k0 (hideAll_none _ (by simp)) nk' na' hka (SortsAt.data hk' hal hsk hu) hsz hZ fun h3 tk3 c k3 n3 => ?_
    refine fin { t with heap := h3, toks := tk3 } _ c os ba ⟨fun b o nb mb q => ?_, fun b o mb q => ?_⟩ n3 ⟨t.heap, kA.toList, hal, rfl, hk'⟩
    · have nk9 : b ≠ kS := fun w => by rw [w, hkS] at q; cases q
      exact k3 b o nb (hideAll_get _ (kp'.keep b o nb mb q) (by simpa using nk9))
    · obtain ⟨sl, q2⟩ := kp'.slot b o mb q
      exact ⟨sl, k3 b _ (fun w => nz (w ▸ mb)) (hideAll_get _ q2 (by
        rw [List.mem_singleton]
        intro w
        rw [w] at mb
        exact nS mb))⟩
theorem keyG_tree {f : Value} {n : Nat} (nf : ∀ c ∈ fr, ∃ o, s.heap.get? c = some o ∧ c ≠ z) (bare : AllBare s.gens) (ho : s.heap.get? z = some (seqObj "list" us.toArray n)) (hlen : kz.length = us.length) (hZ : us.length ≤ sizeLine) (hal : AllAlike kz) (hsk : Sortable kz) (hu : ∀ d, d ∈ kz → A.units + d.depth < cLine)
    (turn : ∀ (i : Nat) (v : Value) (k : PyData), us[i]? = some v → kz[i]? = some k → ∀ t : Shared, t.os = s.os → AllBare t.gens → KF fr z s.heap t.heap → wpAny (model prog w) A (call f [v]) (KeyG fr k t) (fun _ _ => False) t)
    (fin : ∀ (t : Shared) out c, t.os = s.os → AllBare t.gens → KF fr z s.heap t.heap → t.heap.get? z = some (seqObj "list" (List.toArray out) c) → KeyedOut b kz us out → P (.done (.ret .none)) t) :
    wpAny (model prog w) A (ksk_tree z f b) P E s := by
  have hz : z < s.heap.objs.size := Heap.lt_size ho
  obtain ⟨e1, ho1⟩ : ∃ e1, (s.heap.update z (Obj.mapSeq fun _ => (#[] : Array Value))).get? z = some (seqObj "list" #[] e1) := ⟨_, get?_update_seq ho fun _ => #[]⟩
  have hkS : ((s.heap.update z (Obj.mapSeq fun _ => (#[] : Array Value))).push (seqObj "tuple" us.toArray 0)).objs.size = s.heap.objs.size + 1 := by rw [size_push', Heap.size_update]
  unfold ksk_tree
  refine wpAny_bind (listItems_at ho rfl ?_)
  refine wpAny_bind (listUpdate_at ho rfl ?_ (by rw [List.size_toArray]; exact hZ) (Nat.zero_le _))
  refine wpAny_bind (seqEpoch_at ho1 rfl ?_)
  refine wpAny_bind (wpAny_newTuple ?_ (by show us.length ≤ _; exact hZ))
  refine wpAny_bind (wpAny_newList ?_ (Nat.zero_le _))
  refine wpAny_holding ?_
  have kp : KF fr z s.heap (sortingHeap s.heap z us) := ⟨fun b o hb _ q => sortingHeap_old hb q, fun b o m q => ⟨o.slots, sortingHeap_old (fun w => by obtain ⟨_, _, n⟩ := nf b m; exact n w) q⟩⟩
  exact keyG_rest (kz := kz) (fr := fr) (h₁ := s.heap) (kS := ((s.heap.update z (Obj.mapSeq fun _ => (#[] : Array Value))).push (seqObj "tuple" us.toArray 0)).objs.size)
    (s := { s with heap := ((s.heap.update z (Obj.mapSeq fun _ => (#[] : Array Value))).push (seqObj "tuple" us.toArray 0)).push (seqObj "list" #[] 0) })
    kp (fun m => (nf z m).elim fun _ q => q.2 rfl) (fun m => by
      obtain ⟨o, q, _⟩ := nf _ m
      have q2 := Heap.lt_size q
      rw [hkS] at q2
      exact absurd (Nat.lt_of_succ_lt q2) (Nat.lt_irrefl _)) (Heap.get?_none_of_le (by rw [hkS]; exact Nat.le_succ _)) bare (Heap.get?_push_size _ rfl) (Heap.get?_push_of_some _ (Heap.get?_push_of_some _ ho1)) (by rw [hkS]; exact Nat.ne_of_gt (Nat.lt_succ_of_lt hz)) hlen hZ hal hsk hu turn fin
/-- sorted(xs, key=f), xs a list or a tuple -/
theorem sortedG {β : Type} {bs : List β} {R : Value → β → Prop} {l : Addr} {o : Obj} {T : String} {n : Nat} {f : Value} {kw : List (Str × Value)} {Q : Value → Shared → Prop} (k : β → PyData) (hT : T = "list" ∨ T = "tuple") (ho : s.heap.get? l = some o) (hc : o.cls = .type T) (hd : o.data = .seq us.toArray n)
    (nf : ∀ c ∈ fr, ∃ o, s.heap.get? c = some o) (bare : AllBare s.gens) (e : EachIs R us bs) (hal : AllAlike (bs.map k)) (hk : Sortable (bs.map k)) (hL : bs.length ≤ sizeLine)
    (hu : ∀ x, x ∈ bs → A.units + 2 + (k x).depth < cLine) (ha1 : argsOk "sorted" ⟨[.ref l], kw⟩) (ha2 : ∀ x, argsOk "list.sort" ⟨[.ref x], kw⟩) (ht : ∀ x, Builtin.«list.sort» ⟨[.ref x], kw⟩ = ksk_tree x f b)
    (turn : ∀ (v : Value) (x : β), R v x → x ∈ bs → ∀ t : Shared, t.os = s.os → AllBare t.gens → KA fr s.heap t.heap → wpAny (model prog w) A.in1.in1 (call f [v]) (KeyG fr (k x) t) (fun _ _ => False) t)
    (fin : ∀ (t : Shared) out c z, t.os = s.os → AllBare t.gens → KA fr s.heap t.heap → s.heap.get? z = none → t.heap.get? z = some (seqObj "list" (List.toArray out) c) → out.length = bs.length → EachIs R out (bs.mergeSort (dataLe b k)) → Q (.ref z) t) :
    wpAny (model prog w) A (call (.builtin "sorted") [.ref l] kw) Q E s := by
  have hL2 : us.length ≤ sizeLine := by rw [e.length]; exact hL
  refine call_function_entry_kw kind_sorted plain_sorted entry_sorted ha1 ?_
  unfold Builtin.«sorted»
  refine wpAny_bind (m := checkCount "sorted" 1 1 _) (wpAny_pure ?_)
  refine wpAny_bind (wpAny_collect_seq l hT ho hc hd (fun h' hk' => ?_) (by rw [List.size_toArray]; exact hL2))
  have er : us.toArray.toList = us := by simp
  rw [er]
  refine wpAny_bind (wpAny_newList ?_ hL2)
  have hn : s.heap.get? h'.objs.size = none := by
    cases q : s.heap.get? h'.objs.size with
    | none => rfl
    | some o => exact absurd (Heap.lt_size (hk' _ _ q)) (Nat.lt_irrefl _)
  have at0 : (h'.push (seqObj "list" us.toArray 0)).get? h'.objs.size = some (seqObj "list" us.toArray 0) := Heap.get?_push_size _ rfl
  have up0 : ∀ b o, s.heap.get? b = some o → (h'.push (seqObj "list" us.toArray 0)).get? b = some o := fun b o q => Heap.get?_push_of_some _ (hk' b o q)
  have up1 : ∀ {g : Heap}, KF fr h'.objs.size (h'.push (seqObj "list" us.toArray 0)) g → KA fr s.heap g := fun {g} p => ⟨fun b o m q => p.keep b o (fun w => by rw [w, hn] at q; cases q) m (up0 b o q), fun b o m q => p.slot b o m (up0 b o q)⟩
  refine wpAny_bind (wpAny_holding (wpAny_call_entry_kw slot_list_sort ⟨_, at0, rfl⟩ entry_list_sort ?body (ha2 _)))
  case body =>
    show wpAny (model prog w) A.in1.in1 (Builtin.«list.sort» ⟨[.ref h'.objs.size], kw⟩) _ _ { s with heap := h'.push (seqObj "list" us.toArray 0) }
    rw [ht]
    refine keyG_tree (fr := fr) (kz := bs.map k) (s := { s with heap := h'.push (seqObj "list" us.toArray 0) }) (fun c m => ?_) bare at0 (by rw [List.length_map]; exact e.length.symm) hL2 hal hk (bound_map (A := A.in1.in1) hu) ?_ fun t out c os ba kf hD ko => ?_
    · obtain ⟨o, q⟩ := nf c m
      exact ⟨o, up0 c o q, fun w => by rw [w, hn] at q; cases q⟩
    · intro i v d hv hd t os ba kf
      rw [List.getElem?_map] at hd
      cases q : bs[i]? with
      | none => rw [q] at hd; simp at hd
      | some x =>
        rw [q] at hd
        have hd : some (k x) = some d := hd
        rw [← Option.some.inj hd]
        have mz : (v, x) ∈ us.zip bs := List.mem_of_getElem? (i := i) (by rw [List.getElem?_zip_eq_some]; exact ⟨hv, q⟩)
        exact turn v x (e.zip _ mz) (List.mem_of_getElem? q) t os ba (up1 kf)
    · refine ⟨_, rfl, wpAny_pure ⟨_, rfl, fin t out c _ os ba (up1 kf) hn hD ((ko.length (by rw [List.length_map]; exact e.length.symm)).trans e.length) (keyedOut_each k ko e)⟩⟩
end
end Pf

namespace Pf
open PySem PySem.Spec PyProof.Rows L2

/-- the tuples alone, as they stand -/
def frzT (H : Hp) (h : Heap) : Hp := fun b => match H b with
  | some (.tup vs) => (h.get? b).map fun o => .frz o (.tup vs)
  | some (.frz o (.tup vs)) => some (.frz o (.tup vs))
  | _ => none
section
variable {P : Program} {w : World} {K : PySem.W.Frag} {ι ι' : Ix} {H H' : Hp} {h h' : Heap} {fr : List Addr}
theorem frzT_is {b : Addr} {u : HO} (e : frzT H h b = some u) : ∃ o vs, u = .frz o (.tup vs) ∧ (H b = some (.tup vs) ∧ h.get? b = some o ∨ H b = some (.frz o (.tup vs))) := by
  unfold frzT at e
  split at e
  · rename_i vs q
    cases q2 : h.get? b with
    | none => rw [q2] at e; cases e
    | some o => rw [q2] at e; cases e; exact ⟨o, vs, rfl, .inl ⟨q, rfl⟩⟩
  · rename_i o vs q
    cases e
    exact ⟨o, vs, rfl, .inr q⟩
  · cases e
theorem frzT_tup {b : Addr} {vs : List V} (hok : HOk P w H h) (r : Rd H b (.tup vs)) : Rd (frzT H h) b (.tup vs) := by
  rcases r with r | ⟨o, r⟩
  · obtain ⟨_, its, _, o, ho, _⟩ := hok _ _ r
    refine .inr ⟨o, ?_⟩
    unfold frzT
    rw [r]
    show (h.get? b).map _ = _
    rw [ho]; rfl
  · refine .inr ⟨o, ?_⟩
    unfold frzT
    rw [r]
theorem frzT_ok (hok : HOk P w H h) (k : ∀ b o, H b ≠ none → h.get? b = some o → h'.get? b = some o) : HOk P w (frzT H h) h' := fun b u e => by
  obtain ⟨o, vs, rfl, q⟩ := frzT_is e
  rcases q with ⟨q, ho⟩ | q
  · obtain ⟨z, its, r, o', e1, c⟩ := hok _ _ q
    rw [ho] at e1; cases e1
    exact ⟨k _ _ (by rw [q]; exact fun z => nomatch z) ho, z, its, r, o, k _ _ (by rw [q]; exact fun z => nomatch z) ho, c⟩
  · obtain ⟨e0, z, its, r, o', e1, c⟩ := hok _ _ q
    exact ⟨k _ _ (by rw [q]; exact fun z => nomatch z) e0, z, its, r, o', k _ _ (by rw [q]; exact fun z => nomatch z) e1, c⟩
mutual
theorem Rp.frz (hok : HOk P w H h) : ∀ (d : D) (v : V), d.key = true → Rp K ι H v d → Rp K ι' (frzT H h) v d
  | .non, v, _, q => by cases q; exact .non
  | .bl b, v, _, q => by cases q; exact .bl b
  | .int b, v, _, q => by cases q; exact .int b
  | .str b, v, _, q => by cases q; exact .str b
  | .tup ds, v, b, q => by
    cases q with
    | tup q t =>
      refine .tup ?_ (Rps.frz hok ds _ b t)
      rcases q with q | q
      · exact .inl (frzT_tup hok q)
      · exact .inr q
  | .lst _, _, b, _ => by cases b
  | .dic _ _, _, b, _ => by cases b
  | .scr _, _, b, _ => by cases b
  | .ref _, _, b, _ => by cases b
  | .exc _ _ _, _, b, _ => by cases b
theorem Rps.frz (hok : HOk P w H h) : ∀ (ds : List D) (vs : List V), D.keys ds = true → Rps K ι H vs ds → Rps K ι' (frzT H h) vs ds
  | [], _, _, q => by cases q; exact .nil
  | d :: ds, _, b, q => by
    cases q with
    | cons q t =>
      have b : (d.key && D.keys ds) = true := b
      rw [Bool.and_eq_true] at b
      exact .cons (Rp.frz hok d _ b.1 q) (Rps.frz hok ds _ b.2 t)
end
mutual
theorem Rp.readsH (hok : HOk P w H h) (hK : ∀ b o, K.lookup b = some o → h.get? b = some o ∧ b ∉ fr) (hT : ∀ b, H b ≠ none → b ∉ fr) : ∀ (d : D) (v : V) (u : Value), d.key = true → Rp K ι H v d → RelV v u → Reads (PySem.W.hideAll h fr) u (py d) []
  | .non, _, _, _, q, r => by cases q; cases r; exact Reads.none
  | .bl b, _, _, _, q, r => by cases q; cases r; exact Reads.bool b
  | .int i, _, _, _, q, r => by cases q; obtain ⟨t, rfl⟩ := r; exact Reads.int i t
  | .str i, _, _, _, q, r => by cases q; obtain ⟨t, rfl⟩ := r; exact Reads.str i t
  | .tup ds, _, _, b, q, r => by
    cases q with
    | tup q t =>
      cases r
      rcases q with q | ⟨o, its, n, lk, hc, hd, hz, rv⟩
      · obtain ⟨_, its, rv, o, ho, hc, n, hd⟩ := Rd.ok q hok
        have nf : _ ∉ fr := hT _ (by
          rcases q with q | ⟨_, q⟩
          · rw [q]; exact fun z => nomatch z
          · rw [q]; exact fun z => nomatch z)
        exact Reads.tuple (PySem.W.hideAll_get _ ho nf) hc hd (Rps.readsH hok hK hT ds _ _ b t (by simpa using rv))
      · obtain ⟨e, nf⟩ := hK _ _ lk
        exact Reads.tuple (PySem.W.hideAll_get _ e nf) hc hd (Rps.readsH hok hK hT ds _ _ b t rv)
  | .lst _, _, _, b, _, _ => by cases b
  | .dic _ _, _, _, b, _, _ => by cases b
  | .scr _, _, _, b, _, _ => by cases b
  | .ref _, _, _, b, _, _ => by cases b
  | .exc _ _ _, _, _, b, _, _ => by cases b
theorem Rps.readsH (hok : HOk P w H h) (hK : ∀ b o, K.lookup b = some o → h.get? b = some o ∧ b ∉ fr) (hT : ∀ b, H b ≠ none → b ∉ fr) : ∀ (ds : List D) (vs : List V) (us : List Value), D.keys ds = true → Rps K ι H vs ds → Vals vs us → ReadsAll (PySem.W.hideAll h fr) us (pys ds) []
  | [], _, _, _, q, r => by cases q; cases r; exact ReadsAll.nil
  | d :: ds, _, _, b, q, r => by
    cases q with
    | cons q t =>
      cases r with
      | cons r1 r2 =>
        have b : (d.key && D.keys ds) = true := b
        rw [Bool.and_eq_true] at b
        exact ReadsAll.cons (as := []) (bs := []) (Rp.readsH hok hK hT d _ _ b.1 q r1) (Rps.readsH hok hK hT ds _ _ b.2 t r2)
end
theorem objAt {b : Addr} {u : HO} (x : ObjOk P w H h b u) : ∃ o, h.get? b = some o := by
  cases u with
  | lst xs => obtain ⟨_, _, _, _, e⟩ := x; exact ⟨_, e⟩
  | tup xs => obtain ⟨_, _, _, o, e, _⟩ := x; exact ⟨_, e⟩
  | dK kvs => obtain ⟨_, _, _, _, o, _, _, e, _⟩ := x; exact ⟨_, e⟩
  | dT kvs => obtain ⟨_, _, _, _, o, _, _, e, _⟩ := x; exact ⟨_, e⟩
  | set S n => obtain ⟨o, _, _, _, e, _⟩ := x; exact ⟨_, e⟩
  | ins C dx fs => obtain ⟨_, _, _, e, _⟩ := x; exact ⟨_, e⟩
  | own y => obtain ⟨_, e⟩ := x; exact ⟨_, e⟩
  | xd fs => obtain ⟨_, ⟨_, _, _, e, _⟩, _⟩ := x; exact ⟨_, e⟩
  | rng lo hi => obtain ⟨_, _, _, e⟩ := x; exact ⟨_, e⟩
  | frz ob u => obtain ⟨e, _⟩ := x; exact ⟨_, e⟩
  | tbl ps => exact ⟨_, show h.get? b = some _ from x⟩
  | met f y => exact ⟨_, show h.get? b = some _ from x⟩
  | ext φ => obtain ⟨_, ⟨_, e⟩, _⟩ := x; exact ⟨_, e⟩
theorem keys_mem : ∀ {xs : List D} {x : D}, D.keys xs = true → x ∈ xs → x.key = true
  | y :: ys, x, h, m => by
    have h : (y.key && D.keys ys) = true := h
    rw [Bool.and_eq_true] at h
    rcases List.mem_cons.mp m with e | m
    · rw [e]; exact h.1
    · exact keys_mem h.2 m
theorem each_rel : ∀ {vs : List V} {us : List Value} {ds : List D}, Vals vs us → Rps K ι H vs ds → PySem.W.EachIs (fun u d => ∃ v, RelV v u ∧ Rp K ι H v d) us ds
  | _, _, _, .nil, q => by cases q; exact .nil
  | _, _, _, .cons r t, q => by
    cases q with
    | cons q tq => exact .cons ⟨_, r, q⟩ (each_rel t tq)
theorem rel_each : ∀ {us : List Value} {ds : List D}, PySem.W.EachIs (fun u d => ∃ v, RelV v u ∧ Rp K ι H v d) us ds → ∃ vs, Vals vs us ∧ Rps K ι H vs ds
  | _, _, .nil => ⟨[], .nil, .nil⟩
  | _, _, .cons ⟨v, r, q⟩ t => by
    obtain ⟨vs, r2, q2⟩ := rel_each t
    exact ⟨v :: vs, .cons r r2, .cons q q2⟩
end

section
variable {X : Cx} {F : Ent} {k j : Nat} {fa : Addr} {fd : FuncData} {ps : List Str} {sp : Spc}
def rSrt (F : Ent) (sp : Spc) (fa : Addr) (bx : Bool) : List V → List V → Hp → VK → Prop := fun vs zs H Q => zs = [.ref fa] ∧ ∃ v, vs = [v] ∧
  ∃ ι h x Qd, HR F.K ι H h ∧ Rp F.K ι H v x ∧ (∃ xs kf, seqOf h x = some xs ∧ srtOk sp xs kf ∧ mkL bx (sortK xs kf) h Qd) ∧ Kont F ι H Qd Q
theorem cr_srt (hK : F.K = X.K) (hcalm : X.calm = true) (hr : Rm k X.A) (hj : j < k) (bx : Bool) (hb : Binds X.K fd ps []) (G : FnG X.prog X.w X.K X.mg X.base j fa fd ps (liftP X.K sp)) :
    CallRK X (.builtin "sorted") [Str.ofString "key"] (rSrt F sp fa bx) := by
  intro pins s σ H vs zs us ws Q I r rz hq
  obtain ⟨rfl, v, rfl, ι, h, x, Qd, hr0, rp, ⟨xs, kf, hx, ⟨ok1, ok2, ok3, ok4, ok5⟩, q⟩, kt⟩ := hq
  obtain ⟨u, rfl, ru⟩ := vals1 r
  obtain ⟨w1, rfl, e1⟩ := vals1 rz
  obtain rfl : w1 = Value.ref fa := e1
  obtain ⟨l, rfl⟩ := rp.seqRef hx
  obtain rfl : u = Value.ref l := ru
  have Kof : X.K = F.K := hK.symm
  have lenf : ∀ {vs : List V} {xs : List D}, Rps F.K ι H vs xs → vs.length = xs.length := fun t => t.length
  obtain ⟨T, o, its, n, vs, hT, ho, hc, hd, rv, t, hz⟩ : ∃ (T : String) (o : Obj) (its : List Value) (n : Nat) (vs : List V), (T = "list" ∨ T = "tuple") ∧ s.heap.get? l = some o ∧ o.cls = .type T ∧ o.data = .seq its.toArray n ∧ Vals vs its ∧ Rps F.K ι H vs xs ∧ vs.length ≤ sizeLine := by
    by_cases ht : ∃ ys, x = .tup ys
    · obtain ⟨ys, rfl⟩ := ht
      cases hx
      obtain ⟨vs, hs, t⟩ := rp.seqT'
      rw [hK] at hs
      obtain ⟨its, rv, ⟨o, ho, hc, n, hd⟩, hz⟩ := I.tuple hs
      exact ⟨"tuple", o, its, n, vs, .inr rfl, ho, hc, hd, rv, t, hz⟩
    · obtain ⟨vs, hs, t⟩ := rp.seqL hr0 hx fun ys e => ht ⟨ys, e⟩
      rw [hK] at hs
      obtain ⟨its, rv, pl, hz⟩ := I.list hs
      obtain ⟨o, ho, hc, n, hd⟩ := pl.isList
      exact ⟨"list", o, its, n, vs, .inl rfl, ho, hc, hd, rv, t, hz⟩
  have lx : xs.length ≤ sizeLine := by rw [← t.length]; exact hz
  have un : X.A.units + 200 < cLine := by have := hr.room.un; omega
  have hu3 : (frs X.stack) = X.stack.filterMap (·.frame) := rfl
  have trk : ∀ b o, H b ≠ none → s.heap.get? b = some o → b ∉ frs X.stack := fun b o n _ m => n (I.stkFree b m)
  refine sortedG (fr := frs X.stack) (b := false) (R := fun u d => ∃ v, RelV v u ∧ Rp F.K ι H v d) (bs := xs) (fun d => py (kf d)) hT ho hc hd (fun c m => ?_) I.bare (each_rel rv t) ?_ ?_ lx ?_ (ksk_s1 _ _) (fun _ => ksk_l1 _ _) (fun _ => ksk_t1 _ _) ?_ ?_
  · obtain ⟨_, o, e, _⟩ := I.stack.mem m
    exact ⟨o, e⟩
  · intro d hd d' hd'
    obtain ⟨y, m, rfl⟩ := List.mem_map.mp hd
    obtain ⟨y', m', rfl⟩ := List.mem_map.mp hd'
    exact ok4 y m y' m'
  · rcases ok5 with ok5 | ok5
    · refine .inl fun d hd => ?_
      obtain ⟨y, m, rfl⟩ := List.mem_map.mp hd
      have z := ok5 y m
      cases q : kf y with
      | tup ys =>
        rw [q] at z
        cases ys with
        | nil => cases z
        | cons a b => exact ⟨py a, pys b, rfl⟩
      | _ => rw [q] at z; cases z
    · refine .inr fun d hd => ?_
      obtain ⟨y, m, rfl⟩ := List.mem_map.mp hd
      have z := ok5 y m
      have z2 := (ok3 y m).1
      cases q : kf y with
      | tup _ => rw [q] at z; cases z
      | non => rw [q] at z; cases z
      | bl _ => exact ⟨(fun e => nomatch e), (fun _ e => nomatch e)⟩
      | int _ => exact ⟨(fun e => nomatch e), (fun _ e => nomatch e)⟩
      | str _ => exact ⟨(fun e => nomatch e), (fun _ e => nomatch e)⟩
      | _ => rw [q] at z2; cases z2
  · intro y m
    have := (ok3 y m).2
    show X.A.units + 2 + (py (kf y)).depth < cLine
    rw [py_depth]
    omega
  · rintro u d ⟨v, r1, r2⟩ m t os ba ka
    have kd := keys_mem ok1 m
    have keepT : ∀ b o, H b ≠ none → s.heap.get? b = some o → t.heap.get? b = some o := fun b o n e => ka.keep b o (trk b o n e) e
    have hf := frzT_ok I.hok keepT
    have e0 := I.env0
    have E : Env0 X.prog X.w X.K X.mg X.base X.A.in1.in1 X.stack t (frzT H s.heap) := by
      refine ⟨e0.frames, e0.mod, fun b o e => ?_, ?_, ?_, fun b m => ?_, hf, ba⟩
      · obtain ⟨z1, z2⟩ := e0.bs b o e
        refine ⟨ka.keep b o (fun m => ?_) z1, ?_⟩
        · have := (I.stack.mem m).1
          rw [e] at this; cases this
        · unfold frzT; rw [z2]
      · obtain ⟨m, ⟨o, _, _, ho', _⟩, _⟩ := I.loc
        have lt : X.env.locals < t.heap.objs.size := by
          by_cases hm : X.env.locals ∈ frs X.stack
          · obtain ⟨sl, e⟩ := ka.slot _ _ hm ho'
            exact Heap.lt_size e
          · exact Heap.lt_size (ka.keep _ _ hm ho')
        exact Nat.le_trans I.ok.bsz (Nat.le_trans I.ok.above (Nat.le_of_lt lt))
      · refine Heap.FunFrames.of_keeps (fun b o e _ => ?_) I.stack
        by_cases hm : b ∈ frs X.stack
        · obtain ⟨sl, e⟩ := ka.slot _ _ hm e
          exact ⟨_, e, rfl⟩
        · exact ⟨_, ka.keep _ _ hm e, rfl⟩
      · unfold frzT; rw [e0.frf b m]
    have rm : Rm j X.A.in1.in1 := ⟨⟨hr.room.hd, by have := hr.room.dp; show X.A.depth + 3 * j + 5 < _; omega, by have := hr.room.un; show X.A.units + 1 + 1 + 16 * j + 200 < _; omega⟩, hr.guards⟩
    have spq : liftP X.K sp [v] (frzT H s.heap) (fun v' H' => ∃ ι', Rp X.K ι' H' v' (kf d)) E0 := by
      refine ⟨⟨[], []⟩, [d], [], fun d' _ => d' = kf d, ⟨rfl, List.nodup_nil, (fun n o e => by simp at e), (fun a z => by simp at z)⟩, .cons ?_ .nil, ok2 d m, fun d' h' v' H' ι' e _ _ rp => ⟨ι', by rw [← e]; exact rp⟩⟩
      rw [← hK]
      exact Rp.frz I.hok d v kd r2
    have hl := G.len _ _ _ _ spq
    have kin : X.K.In t.heap := E.mod.kin.keeps fun b o e => (E.bs b o e).1
    have bb := hb t [u] kin (by simpa using hl)
    rw [List.append_nil] at bb
    refine wpAny_call (codeAny_mono (G.run X.A.in1.in1 X.stack t _ ⟨[u], []⟩ [u] [v] _ E0 rm E bb (.cons r1 .nil) spq) fun res t' hq => ?_)
    cases res with
    | error _ => exact False.elim hq
    | ok fl =>
      cases fl with
      | ret u' =>
        obtain ⟨v', H', os', ba', un', hok', rv', ι', rp'⟩ := hq
        refine ⟨os', ba', ⟨fun b o m e => ?_, fun b o m e => ?_⟩, ?_⟩
        · cases q : frzT H s.heap b with
          | none => exact un'.keep b o e q m (by simp)
          | some z =>
            obtain ⟨o', vs', rfl, _⟩ := frzT_is q
            obtain ⟨z1, _⟩ := hf b _ q
            rw [e] at z1; cases z1
            exact (hok' b _ (un'.frzs b _ _ q)).1
        · exact un'.slot b o e (E.frf b m) m (by simp)
        · refine Rp.readsH (K := X.K) hok' (fun b o lk => ?_) (fun b n m => ?_) (kf d) v' u' (ok3 d m).1 rp' rv'
          · have e := E.mod.kin b o lk
            have nf : b ∉ frs X.stack := fun m => by
              have := (I.stack.mem m).1
              rw [e] at this; cases this
            have e2 := (E.bs b o e)
            exact ⟨un'.keep b o e2.1 e2.2 nf (by simp), nf⟩
          · obtain ⟨o, e⟩ : ∃ o, t.heap.get? b = some o := by
              obtain ⟨o, e⟩ := (I.stack.mem m).2
              obtain ⟨sl, e2⟩ := ka.slot b o m e.1
              exact ⟨_, e2⟩
            exact n (un'.free b o e (E.frf b m) (by simp))
      | _ => exact False.elim hq
  · intro t out c z os ba ka hz hD hlen er
    obtain ⟨vs2, rv2, t2⟩ := rel_each er
    have hzn : H z = none := by
      cases q : H z with
      | none => rfl
      | some u =>
        obtain ⟨o, e⟩ := objAt (I.hok z u q)
        rw [hz] at e; cases e
    have un1 : Un (frs X.stack) [] H (upd H z (.lst vs2)) s.heap t.heap := by
      have nz : ∀ {b : Addr} {o : Obj}, s.heap.get? b = some o → b ≠ z := fun {b o} e w => by rw [w, hz] at e; cases e
      have nz2 : ∀ {b : Addr} {o : HO}, H b = some o → b ≠ z := fun {b o} e w => by rw [w, hzn] at e; cases e
      refine ⟨fun b o e _ m _ => ka.keep b o m e, fun b o e _ m _ => ka.slot b o m e, fun b o e n _ => by rw [upd_ne (nz e)]; exact n, fun b o e _ => ?_, fun b xs e => by rw [upd_ne (nz2 e)]; exact e, fun b o u e => by rw [upd_ne (nz2 e)]; exact e, fun b ps e => ⟨#[], by rw [upd_ne (nz2 e), e]; simp⟩⟩
      by_cases m : b ∈ frs X.stack
      · obtain ⟨sl, e⟩ := ka.slot b o m e
        exact ⟨_, e⟩
      · exact ⟨_, ka.keep b o m e⟩
    have hok1 : HOk X.prog X.w (upd H z (.lst vs2)) t.heap := fun b u e => by
      by_cases hb : b = z
      · subst hb
        rw [upd_same] at e
        cases e
        refine ⟨by rw [rv2.length, hlen]; exact lx, out, c, rv2, hD⟩
      · rw [upd_ne hb] at e
        have nz2 : ∀ {b : Addr} {o : HO}, H b = some o → b ≠ z := fun {b o} e w => by rw [w, hzn] at e; cases e
        refine (I.hok b u e).stay (fun b' o hb' q => ka.keep b' o (trk b' o (by
          rcases hb' with w | w
          · rw [w, e]; exact fun z => nomatch z
          · rw [w]; exact fun z => nomatch z) q) q) (fun b' q => by rw [upd_ne (nz2 q)]; exact q) fun b' xs q => by rw [upd_ne (nz2 q)]; exact q
    obtain ⟨hh, g, dd, tt, os'⟩ := t
    obtain rfl : os' = s.os := os
    have I2 := I.call (h' := hh) (g' := g) (d' := dd) (t' := tt) (ch := []) un1 hok1 ba (fun b z => absurd z (by simp))
    exact ⟨.ref z, _, I2, rfl, kt.mk hr0 hzn q t2⟩
end
end Pf

namespace Pf
open PySem PySem.Spec PyProof.Rows L2
section
variable {X : Cx} {F : Ent}
theorem cutL_V (xs : List V) (lo hi : Option Int) : cutL xs lo hi = cutV xs lo hi := by
  unfold cutL cutV
  cases lo <;> cases hi <;> rfl
theorem cutI_le (n d : Nat) (hd : d ≤ n) : ∀ o : Option Int, cutI n d o ≤ n
  | none => hd
  | some v => by
    show (if v < 0 then (v + (n : Int)).toNat else min v.toNat n) ≤ n
    split <;> omega
theorem rps_cut {K : PySem.W.Frag} {ι : Ix} {H : Hp} {vs : List V} {ds : List D} (t : Rps K ι H vs ds) (lo hi : Option Int) : Rps K ι H (cutL vs lo hi) (cutL ds lo hi) := by
  unfold cutL
  rw [t.length]
  exact (t.drop _).take _
def rSlD (F : Ent) (bx : Bool) : V → Option Int → Option Int → Hp → VK → Prop := fun v lo hi H Q => ∃ ι h x Qd, HR F.K ι H h ∧ Rp F.K ι H v x ∧ sliF h bx x lo hi Qd ∧ Kont F ι H Qd Q
theorem sl_D (hK : F.K = X.K) (bx : Bool) : SlR X (rSlD F bx) := by
  intro pins s σ H v u vl vu lo hi sl Q I rv hs pl pu hq
  obtain ⟨ι, h, x, Qd, hr, rp, q, k⟩ := hq
  have lst : (∀ s, x ≠ .str s) → (∀ ys, x ≠ .tup ys) → (∃ xs, lstOf h x = some xs ∧ mkL bx (cutL xs lo hi) h Qd) → ∃ T id, typeLookup (.type T) "__getitem__" = pure (some (.builtin id)) ∧ s.TypeIs u T ∧ wpAny (model X.prog X.w) X.A (getItem u (.ref sl)) (EP X pins σ Q) X.xe s := by
    intro n1 n2 ⟨xs, hx, q⟩
    have hx2 : seqOf h x = some xs := by cases x <;> first | exact hx | cases hx
    obtain ⟨a, rfl⟩ := rp.seqRef hx2
    obtain ⟨vs, hv, t⟩ := rp.seqL hr hx2 n2
    rw [hK] at hv
    refine sl_list pins s σ H _ u vl vu lo hi sl Q I rv hs pl pu ⟨a, vs, rfl, hv, fun p hp => ?_⟩
    rw [← cutL_V]
    exact k.mk hr hp q (rps_cut t lo hi)
  cases x with
  | str z =>
    obtain ⟨hz, q⟩ := q
    have e := rp.sv
    subst e
    refine sl_str pins s σ H _ u vl vu lo hi sl Q I rv hs pl pu ⟨z, rfl, hz, ?_⟩
    have e2 : cutS z lo hi = ⟨(cutL z.cps.toList lo hi).toArray⟩ := by
      unfold cutS cutL
      rw [show z.length = z.cps.toList.length from (Array.length_toList).symm]
      cases lo <;> cases hi <;> rfl
    rw [e2]
    exact k.here hr q (.str _)
  | tup ds =>
    obtain ⟨a, rfl⟩ := rp.seqRef (h := h) (xs := ds) rfl
    obtain ⟨vs, hv, t⟩ := rp.seqT'
    rw [hK] at hv
    have q : Qd (.tup (cutL ds lo hi)) h := q
    refine sl_tupA pins s σ H _ u vl vu lo hi sl Q I rv hs pl pu ⟨a, vs, rfl, hv, fun ⟨h1, h2⟩ => ?_, fun _ p hp => ?_⟩
    · have e : cutL ds lo hi = ds := by
        have l := t.length
        have h1 : cutI ds.length 0 lo = 0 := by rw [← l]; cases lo <;> exact h1
        have h2 : cutI ds.length ds.length hi = ds.length := by rw [← l]; cases hi <;> exact h2
        unfold cutL
        rw [h1, h2, Nat.sub_zero, List.drop_zero, List.take_length]
      rw [e] at q
      exact k.here hr q rp
    · rw [← cutL_V]
      exact k.tup hr hp q (rps_cut t lo hi)
  | non => exact lst (fun s e => nomatch e) (fun s e => nomatch e) q
  | bl _ => exact lst (fun s e => nomatch e) (fun s e => nomatch e) q
  | int _ => exact lst (fun s e => nomatch e) (fun s e => nomatch e) q
  | lst _ => exact lst (fun s e => nomatch e) (fun s e => nomatch e) q
  | dic _ _ => exact lst (fun s e => nomatch e) (fun s e => nomatch e) q
  | scr _ => exact lst (fun s e => nomatch e) (fun s e => nomatch e) q
  | ref _ => exact lst (fun s e => nomatch e) (fun s e => nomatch e) q
  | exc _ _ _ => exact lst (fun s e => nomatch e) (fun s e => nomatch e) q
def liftOp (F : Ent) (b : Bool) (t : DS → DH → DQ → Prop) : TO := fun σ H Q => ∃ ι τ h Qd, SR F.K ι H h σ τ ∧ Ext F.ι F.H ι H ∧ wpO b (t τ) h Qd ∧ ∀ o h' H' ι', Qd o h' → Ext ι H ι' H' → HR F.K ι' H' h' → Q o H'
theorem PO.imp {e : Option Expr} {t t' : TO} (p : PO X e t) (h : ∀ σ H Q, t' σ H Q → t σ H Q) : PO X e t' := ⟨fun pins s σ H Q I q => p.run pins s σ H Q I (h _ _ _ q)⟩
theorem po_noneD {t : DS → DH → DQ → Prop} : PO X none (liftOp F true t) := PO.imp po_none fun σ H Q q => by
  obtain ⟨ι, τ, h, Qd, sr, ex, q, k⟩ := q
  unfold wpO at q
  rw [if_pos rfl] at q
  exact k _ _ _ _ q .refl sr.hr
theorem po_someD {e : Expr} {t : DS → DH → DQ → Prop} (p : PE X e (liftE F t)) : PO X (some e) (liftOp F false t) := PO.imp (po_some p) fun σ H Q q => by
  obtain ⟨ι, τ, h, Qd, sr, ex, q, k⟩ := q
  unfold wpO at q
  rw [if_neg Bool.false_ne_true] at q
  refine ⟨ι, τ, h, _, sr, ex, q, fun d h' v H' ι' ⟨i, e1, q⟩ e2 hr rp => ?_⟩
  subst e1
  exact ⟨i, rp.iv, k _ _ _ _ q e2 hr⟩
theorem sli_D {ta tl th : DS → DH → DQ → Prop} {bl bh bx : Bool} {σ : L2.St} {H : Hp} {Q : VK}
    (q : liftE F (fun τ h Q => ta τ h fun x h1 => wpO bl (fun h Q => tl τ h Q) h1 fun l h2 => wpO bh (fun h Q => th τ h Q) h2 fun u h3 => sliF h3 bx x l u Q) σ H Q) :
    L2.tSl (rSlD F bx) (liftE F ta) (liftOp F bl tl) (liftOp F bh th) σ H Q := by
  obtain ⟨ι, τ, h, Qd, sr, ex, q, k⟩ := q
  refine ⟨ι, τ, h, _, sr, ex, q, fun x h1 v H1 ι1 q e1 hr1 r1 => ?_⟩
  have sr1 := sr.mono e1 hr1
  have ex1 := ex.trans sr.hr e1
  refine ⟨ι1, τ, h1, _, sr1, ex1, q, fun l h2 H2 ι2 q e2 hr2 => ?_⟩
  have sr2 := sr1.mono e2 hr2
  have ex2 := ex1.trans hr1 e2
  refine ⟨ι2, τ, h2, _, sr2, ex2, q, fun u h3 H3 ι3 q e3 hr3 => ?_⟩
  exact ⟨ι3, h3, x, Qd, hr3, (r1.mono hr1 e2).mono hr2 e3, q, Kont.mv k hr3 ((e1.trans hr1 e2).trans hr2 e3)⟩
end
end Pf

namespace Pf
open PySem PySem.Spec PyProof.Rows L2
section
variable {prog : Program} {w : World} {A : Around} {E : Value → Shared → Prop} {s : Shared}
theorem applied_back {sl : Addr} {n : Nat} {t : Tok} {Q : Int × Int × Nat → Shared → Prop} (hs : s.heap.IsSliceOf sl .none .none (.int (-1) t)) (h : Q ((n : Int) - 1, -1, n) s) :
    wpAny (model prog w) A (Builtin.Slice.sliceApplied (.ref sl) (pure (n : Int))) Q E s := by
  obtain ⟨ob, hob, hcb, hdb⟩ := id hs
  unfold Builtin.Slice.sliceApplied Builtin.Slice.sliceFields
  refine wpAny_bind (wpAny_bind (wpAny_field hob hdb (x := .none) rfl (wpAny_bind (wpAny_field hob hdb (x := .none) rfl (wpAny_bind (wpAny_field hob hdb (x := .int (-1) t) rfl (wpAny_pure ?_)))))))
  refine wpAny_bind (slicePart_int ?_)
  show wpAny _ _ (if ((-1 : Int) == 0) = true then _ else _) _ _ s
  rw [if_neg (by decide)]
  refine wpAny_bind (slicePart_none (wpAny_bind (slicePart_none (wpAny_bind (wpAny_pure ?_)))))
  show wpAny _ _ (pure ((n : Int) - 1, (-1 : Int), Builtin.Slice.slicePlaces ((n : Int) - 1) (-1) (-1))) _ _ s
  have e : Builtin.Slice.slicePlaces ((n : Int) - 1) (-1) (-1) = n := by
    unfold Builtin.Slice.slicePlaces
    rw [if_neg (by decide)]
    by_cases hn : (n : Int) - 1 > -1
    · rw [if_pos hn, show (-(-1) : Int) = 1 by decide, Int.ediv_one]
      omega
    · rw [if_neg hn]
      omega
  rw [e]
  exact wpAny_pure h
theorem fm_congr {α β : Type} {f g : α → Option β} : ∀ {l : List α}, (∀ x ∈ l, f x = g x) → l.filterMap f = l.filterMap g
  | [], _ => rfl
  | x :: l, h => by
    rw [List.filterMap_cons, List.filterMap_cons, h x (by simp), fm_congr fun y m => h y (by simp [m])]
theorem pick_back (xs : Array Value) : ((List.range xs.size).filterMap fun (m : Nat) => xs[(((xs.size : Int) - 1) + (m : Int) * -1).toNat]?).toArray = xs.toList.reverse.toArray := by
  have e : (List.range xs.size).filterMap (fun (m : Nat) => xs[(((xs.size : Int) - 1) + (m : Int) * -1).toNat]?) = ((List.range xs.size).map fun k => xs.size - 1 - k).filterMap (xs[·]?) := by
    rw [List.filterMap_map]
    refine fm_congr fun m hm => ?_
    have := List.mem_range.mp hm
    show xs[_]? = xs[xs.size - 1 - m]?
    congr 1
    omega
  rw [e, PySem.W.krv_range, List.filterMap_reverse, PySem.W.krv_all]
theorem item_back {t sl : Addr} {items : Array Value} {u : Tok} {Q : Value → Shared → Prop} (ht : IsTup s.heap t items) (hs : s.heap.IsSliceOf sl .none .none (.int (-1) u))
    (h : Q (.ref s.heap.objs.size) { s with heap := s.heap.push { cls := .type "tuple", data := .seq items.toList.reverse.toArray } }) (hsz : items.size ≤ sizeLine) : wpAny (model prog w) A (getItem (.ref t) (.ref sl)) Q E s := by
  have hrev : sizeOk (.seq items.toList.reverse.toArray) := by
    show items.toList.reverse.toArray.size ≤ sizeLine
    rw [List.size_toArray, List.length_reverse, Array.length_toList]
    exact hsz
  obtain ⟨ob, hob, hcb, hdb⟩ := id hs
  have tsl : s.TypeIs (.ref sl) "slice" := ⟨ob, hob, hcb⟩
  unfold getItem
  try with_reducible refine wpAny_holding ?_
  first | refine wpAny_bind (wpAny_pure ?_) | skip
  refine wpAny_bind (wpAny_sequenceKey ht.typeIs (by decide) ?_)
  refine wpAny_bind (wpAny_callSpecial?_slot (name := Str.ofString "__getitem__") ht.typeIs PyProof.Rows.slot_tuple_getitem (wpAny_call_entry PyProof.Rows.slot_tuple_getitem ht.typeIs entry_tuple_getitem ?_ (args_tuple_getitem _ _)))
  show wpAny _ _ (Builtin.Tuple.tupleItemsOf (.ref t) >>= _) _ _ s
  refine wpAny_bind (tupleItemsOf_ ht ?_)
  refine wpAny_bind (wpAny_typeOf tsl ?_)
  rw [if_pos (by decide)]
  refine wpAny_bind (applied_back hs ?_)
  have hno : ¬ ((((items.size : Int) - 1) == 0 && (-1 : Int) == 1 && items.size == items.size) = true) := by
    rw [show ((-1 : Int) == 1) = false by decide, Bool.and_false, Bool.false_and]
    exact Bool.false_ne_true
  show wpAny _ _ (if (((items.size : Int) - 1) == 0 && (-1 : Int) == 1 && items.size == items.size) = true then _ else _) _ _ s
  rw [if_neg hno, pick_back]
  first
    | exact wpAny_bind (m := Builtin.Tuple.tupleExact _) (wpAny_newObj_type (wpAny_pure ⟨_, rfl, wpAny_pure h⟩) hrev)
    | exact wpAny_bind (m := Builtin.Tuple.tupleExact _) (wpAny_newObj_type (wpAny_bind (wpAny_pure (wpAny_pure ⟨_, rfl, wpAny_pure h⟩))) hrev)
    | exact wpAny_bind (wpAny_bind (m := Builtin.Tuple.tupleExact _) (wpAny_newObj_type (wpAny_pure (wpAny_pure ⟨_, rfl, wpAny_pure h⟩)) hrev))
    | exact wpAny_bind (wpAny_bind (m := Builtin.Tuple.tupleExact _) (wpAny_newObj_type (wpAny_pure ⟨_, rfl, wpAny_pure h⟩) hrev))
end
section
variable {X : Cx} {F : Ent}
def rRev (F : Ent) (bx : Bool) : V → Hp → VK → Prop := fun v H Q => ∃ ι h x Qd, HR F.K ι H h ∧ Rp F.K ι H v x ∧ revF h bx x Qd ∧ Kont F ι H Qd Q
theorem pe_revD (hK : F.K = X.K) (bx : Bool) {e : Expr} {te : TE} {k : Nat} {q1 q2 q3 pos : Pos} (he : PE X e te) :
    PE X (.Subscript e (.Slice none none (some (.UnaryOp .USub (.Constant (.int 1) k q1) q2)) q3) pos) (fun σ H Q => te σ H fun v H1 => rRev F bx v H1 Q) := by
  refine ⟨fun pins s σ H Q I hh => ?_⟩
  refine Subscript_ (thn (he.run pins s σ H _ I hh) fun v s1 ⟨y, H1, I1, r1, qq⟩ => ?_)
  obtain ⟨ι, h, x, Qd, hr, rp, qd, kt⟩ := qq
  have back : PO X (some (.UnaryOp .USub (.Constant (.int 1) k q1) q2)) (tPart (tUn (rU fun i => .int (-i)) (tC (.int 1)))) := po_some (pe_un un_neg pe_int)
  refine wpAny_Slice (thn (po_none.run pins s1 σ H1 (fun o G => o = none ∧ G = H1) I1 ⟨rfl, rfl⟩) fun vl s2 ⟨l, G, I2, pl, el, eg⟩ => ?_)
  subst el eg
  refine thn (po_none.run pins s2 σ G (fun o G' => o = none ∧ G' = G) I2 ⟨rfl, rfl⟩) fun vu s3 ⟨u, G', I3, pu, eu, eg⟩ => ?_
  subst eu eg
  refine thn (back.run pins s3 σ G' (fun o G2 => o = some (-1) ∧ G2 = G') I3 ⟨1, rfl, -1, rfl, rfl, rfl⟩) fun vs s4 ⟨o, G2, I4, pb, eo, eg⟩ => ?_
  subst eo eg
  have J : Inv X pins σ G2 { s4 with heap := s4.heap.push { cls := .type "slice", data := .fields #[vl, vu, vs] } } := I4.kept (t' := s4.toks) fun b ob z => Heap.get?_push_of_some _ z
  have slc := Heap.IsSliceOf.new s4.heap vl vu vs
  have lst : (∀ ys, x ≠ .tup ys) → (∃ xs, lstOf h x = some xs ∧ mkL bx xs.reverse h Qd) → wpAny (model X.prog X.w) X.A (subscriptTail e (.Slice none none (some (.UnaryOp .USub (.Constant (.int 1) k q1) q2)) q3) v (.ref s4.heap.objs.size)) (EP X pins σ Q) X.xe
      { s4 with heap := s4.heap.push { cls := .type "slice", data := .fields #[vl, vu, vs] } } := by
    intro n2 ⟨xs, hx, q⟩
    have hx2 : seqOf h x = some xs := by cases x <;> first | exact hx | cases hx
    obtain ⟨a, rfl⟩ := rp.seqRef hx2
    obtain ⟨ws, hv, t⟩ := rp.seqL hr hx2 n2
    rw [hK] at hv
    obtain rfl : v = Value.ref a := r1
    obtain ⟨its, rv, ht, hz⟩ := J.list hv
    have hlen := rv.length
    refine tail_any (ops := [.ref a, .ref s4.heap.objs.size]) ht.isList.typeIs (PySem.slot_list_getitem.lookup) ?_ (by with_unfolding_all rfl)
    refine wpAny_getItem_list_slice ht.isList slc pl pu pb (by decide) ?_ (by rw [List.size_toArray]; omega)
    rw [PySem.W.krv_pick]
    refine ⟨.ref _, _, J.laid (t' := s4.toks) (o := .lst ws.reverse) (fun b ob z => Heap.get?_push_of_some _ z) (Nat.le_refl _) ?_, rfl, kt.mk hr (J.hok.fresh (Nat.le_refl _)) q t.reverse⟩
    exact ⟨by rw [List.length_reverse]; exact hz, _, 0, rv.reverse, Heap.get?_push_size _ rfl⟩
  cases x with
  | tup ds =>
    obtain ⟨a, rfl⟩ := rp.seqRef (h := h) (xs := ds) rfl
    obtain ⟨ws, hv, t⟩ := rp.seqT'
    rw [hK] at hv
    obtain rfl : v = Value.ref a := r1
    obtain ⟨its, rv, ht, hz⟩ := J.tuple hv
    have hlen := rv.length
    cases pl
    cases pu
    cases pb
    refine tail_any (ops := [.ref a, .ref s4.heap.objs.size]) ht.typeIs (PyProof.Rows.slot_tuple_getitem.lookup) ?_ (by with_unfolding_all rfl)
    refine item_back ht slc ?_ (by rw [List.size_toArray]; omega)
    refine ⟨.ref _, _, J.laid (t' := s4.toks) (o := .tup ws.reverse) (fun b ob z => Heap.get?_push_of_some _ z) (Nat.le_refl _) ?_, rfl, kt.tup hr (J.hok.fresh (Nat.le_refl _)) qd t.reverse⟩
    exact ⟨by rw [List.length_reverse]; exact hz, _, rv.reverse, _, Heap.get?_push_size _ rfl, rfl, 0, rfl⟩
  | non => exact lst (fun s e => nomatch e) qd
  | bl _ => exact lst (fun s e => nomatch e) qd
  | int _ => exact lst (fun s e => nomatch e) qd
  | str _ => exact lst (fun s e => nomatch e) qd
  | lst _ => exact lst (fun s e => nomatch e) qd
  | dic _ _ => exact lst (fun s e => nomatch e) qd
  | scr _ => exact lst (fun s e => nomatch e) qd
  | ref _ => exact lst (fun s e => nomatch e) qd
  | exc _ _ _ => exact lst (fun s e => nomatch e) qd
end
end Pf

namespace Pf
open PySem PySem.Spec PyProof.Rows L2
section
variable {X : Cx} {F : Ent}
theorem op_repD (hK : F.K = X.K) (bx : Bool) : OpR X (binaryOp .Mult) (rD F fun x y h Q => repW bx x y h Q) := by
  intro pins s σ H v w v' w' Q I rv rw_ hw
  obtain ⟨ι, h, x, y, Qd, hr, hx, hy, ⟨k, rfl, k0, k1, w0⟩, kk⟩ := hw
  have e2 := hy.iv; subst e2
  have lst : (∃ xs, lstOf h x = some xs ∧ xs.length ≤ 1000 ∧ mkL bx (repD xs k) h Qd) → wpAny (model X.prog X.w) X.A (binaryOp .Mult v' w') (EP X pins σ Q) X.xe s := fun ⟨xs, hq, hl, q⟩ => by
    obtain ⟨a, vs, rfl, hs, t⟩ := hx.list hr hq
    exact op_repL pins s σ H _ _ _ _ _ I rv rw_ ⟨a, k, vs, rfl, rfl, SqL.of hs, k0, k1, by rw [t.length]; exact hl, fun p hp => kk.mk hr hp q (rps_rep t k.toNat)⟩
  cases x with
  | tup xs =>
    obtain ⟨hne, h2, hl, q⟩ := w0
    cases hx with
    | tup hs t =>
      rename_i a vs
      rw [hK] at hs
      refine op_repT pins s σ H _ _ _ _ _ I rv rw_ ⟨a, k, vs, rfl, rfl, hs, fun e => hne ?_, h2, k1, by rw [t.length]; exact hl, fun p hp => kk.tup hr hp q (rps_rep t k.toNat)⟩
      subst e
      cases t; rfl
  | _ => exact lst w0
end
theorem nostar {a : Expr} (h : ∀ v p, a ≠ .Starred v p) : (match a with | .Starred .. => true | _ => false) = false := by
  cases a <;> first | rfl | exact absurd rfl (h _ _)
theorem swapped2 {x y : Str} {a b : Expr} {p q pt pt2 : Pos} {kt k2} {env : Env} (hk : env.blockKind = .function) (hx : env.kindOf x = some .local) (hy : env.kindOf y = some .local) (hne : (x == y) = false) (hl : (q.line == p.line) = true)
    (hf : (foldedForSure 8 a && foldedForSure 8 b) = false) (hc : (constantsAlone 8 a && constantsAlone 8 b) = false) (na : ∀ v p, a ≠ .Starred v p) (nb : ∀ v p, b ≠ .Starred v p) :
    swappedStores [.Tuple [.Name x p, .Name y q] kt pt] (.Tuple [a, b] k2 pt2) env = pure (some [x, y]) := by
  have ha := nostar na
  have hb := nostar nb
  have hne2 : (y == x) = false := by rw [beq_eq_false_iff_ne] at hne ⊢; exact fun e => hne e.symm
  have hn : ([x, y] : List Str).eraseDups = [x, y] := by simp [List.eraseDups_cons, List.filter, hne2]
  have hn2 : ([x, y] : List Str).eraseDups.length = 2 := by rw [hn]; rfl
  unfold swappedStores
  simp only [List.length_cons, List.length_nil, List.any_cons, List.any_nil, ha, hb, Bool.or_false, List.filterMap_cons, List.filterMap_nil, hx, hy, List.head?_cons, Option.map_some, Option.getD_some, Expr.pos, beq_self_eq_true, Bool.and_self, hl, if_true, hn2, hk, List.all_cons, List.all_nil, Bool.and_true, hf, hc, Bool.false_eq_true, if_false, bne_self_eq_false, Nat.reduceAdd, Bool.true_or, Bool.not_true, Bool.false_or, Nat.reduceBNe, Nat.reduceBEq, Bool.and_true, Bool.true_and]
theorem swapped3 {x y z : Str} {a b d : Expr} {p q r pt pt2 : Pos} {kt k2} {env : Env} (hk : env.blockKind = .function) (hx : env.kindOf x = some .local) (hy : env.kindOf y = some .local) (hz : env.kindOf z = some .local) (n1 : (x == y) = false) (n2 : (x == z) = false) (n3 : (y == z) = false) (hl : (q.line == p.line) = true) (hl2 : (r.line == p.line) = true)
    (hf : (foldedForSure 8 a && (foldedForSure 8 b && foldedForSure 8 d)) = false) (hc : (constantsAlone 8 a && (constantsAlone 8 b && constantsAlone 8 d)) = false) (na : ∀ v p, a ≠ .Starred v p) (nb : ∀ v p, b ≠ .Starred v p) (nd : ∀ v p, d ≠ .Starred v p) :
    swappedStores [.Tuple [.Name x p, .Name y q, .Name z r] kt pt] (.Tuple [a, b, d] k2 pt2) env = pure (some [x, y, z]) := by
  have ha := nostar na
  have hb := nostar nb
  have hd := nostar nd
  have m1 : (y == x) = false := by rw [beq_eq_false_iff_ne] at n1 ⊢; exact fun e => n1 e.symm
  have m2 : (z == x) = false := by rw [beq_eq_false_iff_ne] at n2 ⊢; exact fun e => n2 e.symm
  have m3 : (z == y) = false := by rw [beq_eq_false_iff_ne] at n3 ⊢; exact fun e => n3 e.symm
  have hn : ([x, y, z] : List Str).eraseDups = [x, y, z] := by simp [List.eraseDups_cons, List.filter, m1, m2, m3]
  have hn2 : ([x, y, z] : List Str).eraseDups.length = 3 := by rw [hn]; rfl
  unfold swappedStores
  simp only [List.length_cons, List.length_nil, List.any_cons, List.any_nil, ha, hb, hd, Bool.or_false, List.filterMap_cons, List.filterMap_nil, hx, hy, hz, List.head?_cons, Option.map_some, Option.getD_some, Expr.pos, beq_self_eq_true, Bool.and_self, hl, hl2, if_true, hn2, hk, List.all_cons, List.all_nil, Bool.and_true, hf, hc, Bool.false_eq_true, if_false, bne_self_eq_false, Nat.reduceAdd, Bool.true_or, Bool.or_true, Bool.not_true, Bool.false_or, Nat.reduceBNe, Nat.reduceBEq, Bool.and_true, Bool.true_and]
end Pf

namespace Pf
open PySem PySem.Spec PyProof.Rows
section
variable {prog : Program} {w : World} {A : Around} {R : Result → Shared → Prop} {I : Addr} {fp wr : List Addr} {G : Array GenState → Array GenState → Prop} {n : Nat} {P : Nat → Value → Prop} {St : Nat → Shared → Prop}
/-- the loop that adds all of an iterator's items: J i h, what stands at the set after i items -/
theorem loopG (W : WalksS prog w A.in1 I fp wr G n P St) (Z : Addr) (nZ : Z ∉ fp) (J : Nat → Heap → Prop) (same : ∀ i h h', J i h → (∀ b o, b ∉ wr → h.get? b = some o → h'.get? b = some o) → J i h')
    (step : ∀ i v (s : Shared) (Q : Bool → Shared → Prop) (E : Value → Shared → Prop), i < n → P i v → J i s.heap → (∀ b h' tk, Heap.SameBut Z s.heap h' → s.toks ≤ tk → J (i + 1) h' → Q b { s with heap := h', toks := tk }) → wpAny (model prog w) A.in1 (setAdd Z v) Q E s) :
    ∀ (k i : Nat) (s : Shared), n - i = k → i ≤ n → St i s → J i s.heap → (∀ s', Moved (Z :: wr) G s s' → J n s'.heap → R (.ok (.ret .none)) s') → codeAny (model prog w) A (.builtin "set.update.loop" ⟨[.ref Z, .ref I], []⟩) R s := by
  have nw : Z ∉ wr := fun h => nZ (W.sub _ h)
  have more : ∀ b ∈ wr, b ∈ Z :: wr := fun b hb => List.mem_cons_of_mem _ hb
  intro k
  induction k with
  | zero =>
    intro i s hk hi hst hJ hR
    obtain rfl : i = n := by omega
    refine codeAny_builtin PyProof.Rows.F.entry_set_update_loop ?_
    rw [Around.under_plainId PyProof.Rows.F.plain_set_update_loop _]
    show wpAny _ A.in1 (pyNext (.ref I) >>= _) _ _ s
    refine wpAny_bind (W.done s _ _ hst fun s' hm => ?_)
    show wpAny _ A.in1 (ret Value.none) _ _ s'
    exact wpAny_pure (hR s' (hm.mono more) (same _ _ _ hJ fun b o hb e => hm.heap b o hb e))
  | succ k ih =>
    intro i s hk hi hst hJ hR
    have hlt : i < n := by omega
    refine codeAny_builtin PyProof.Rows.F.entry_set_update_loop ?_
    rw [Around.under_plainId PyProof.Rows.F.plain_set_update_loop _]
    show wpAny _ A.in1 (pyNext (.ref I) >>= _) _ _ s
    refine wpAny_bind (W.item i s _ _ hlt hst fun v s' hP hst' hm => ?_)
    have hJ' := same _ _ s'.heap hJ fun b o hb e => hm.heap b o hb e
    show wpAny _ A.in1 (holding [v] (setAdd Z v) >>= _) _ _ s'
    refine wpAny_bind (wpAny_holding (step i v s' _ _ hlt hP hJ' fun b h' tk hsb htk hJ2 => ?_))
    refine wpAny_pure ⟨plainId_quiet PyProof.Rows.F.plain_set_update_loop _, ih (i + 1) _ (by omega) hlt (W.frame _ s' _ _ hst' htk fun b hb o e => ?_) hJ2 fun s'' hm'' hJ3 => ?_⟩
    · rw [hsb.2 b (fun h : b = Z => nZ (by rw [← h]; exact hb))]; exact e
    · refine hR s'' (Moved.trans W.gtrans ((hm.mono more).then_heap htk fun b o hb e => ?_) hm'') hJ3
      rw [hsb.2 b (fun h : b = Z => hb (by rw [h]; exact List.mem_cons_self))]; exact e
end
section
variable {prog : Program} {w : World} {A : Around} {E : Value → Shared → Prop} {s : Shared}

/-- set(xs), xs a list -/
theorem set_listG {l : Addr} {items : Array Value} (J : Nat → Heap → Prop) {Q : Value → Shared → Prop} (hh : A.handled = none) (hl : s.heap.IsList l items)
    (J0 : ∀ (led : Bool) (g : Heap), (∀ b u, s.heap.get? b = some u → g.get? b = some u) → g.get? s.heap.objs.size = some { cls := .type "set", dict := none, data := .set #[] 0 (.fresh 0 0 led) } → J 0 g)
    (same : ∀ i h h', J i h → (∀ b u, b ≠ s.heap.objs.size + 1 → h.get? b = some u → h'.get? b = some u) → J i h')
    (step : ∀ (B : Around) i v (t : Shared) (Q : Bool → Shared → Prop) (E : Value → Shared → Prop), i < items.size → items[i]? = some v → J i t.heap → B.units ≤ A.units + 8 → B.handled = none → (∀ b h' tk, Heap.SameBut s.heap.objs.size t.heap h' → t.toks ≤ tk → J (i + 1) h' → Q b { t with heap := h', toks := tk }) → wpAny (model prog w) B (setAdd s.heap.objs.size v) Q E t)
    (fin : ∀ (h' : Heap) (tk : Nat), J items.size h' → (∀ b u, b < s.heap.objs.size → s.heap.get? b = some u → h'.get? b = some u) → Q (.ref s.heap.objs.size) { s with heap := h', toks := tk }) :
    wpAny (model prog w) A (call (.type "set") [.ref l]) Q E s := by
  obtain ⟨c, tl, hmro⟩ := PySem.F.called_set.mro
  have hmade := PySem.F.called_set.made
  have hsub := PySem.F.called_set.sub
  refine wpAny_call (codeAny_of_tree ?_)
  show wpAny _ _ (callAny (.type "set") _) _ _ _
  refine wpAny_pure ⟨Code.quiet_builtin _ (by decide +kernel), codeAny_builtin F.entry_type_call ?_⟩
  rw [Around.under_plain (weight_type_call_type "set" [.ref l] []) rfl]
  have h1 := PySem.F.called_set.notType
  have h2 := PySem.F.called_set.canCreate
  have hct := PySem.F.typeCall_set_1 (.ref l)
  repeat (any_goals (first | assumption | wp_step))

  refine codeAny_mono (code_set_new_1 (.ref l) (E := E) (Q₁ := fun z s₁ => ∃ led : Bool, z = .ref s.heap.objs.size ∧ s₁ = { s with heap := s.heap.push { cls := .type "set", dict := none, data := .set #[] 0 (.fresh 0 0 led) } }) fun led => ⟨led, rfl, rfl⟩) fun r s₁ hr => ?_
  cases r with
  | error e => exact hr
  | ok fl =>
    cases fl with
    | ret z =>
      obtain ⟨led, rfl, rfl⟩ := hr
      have atZ : (s.heap.push { cls := .type "set", dict := none, data := .set #[] 0 (.fresh 0 0 led) }).get? s.heap.objs.size = some { cls := .type "set", dict := none, data := .set #[] 0 (.fresh 0 0 led) } := Heap.get?_push_size _ rfl
      have tyZ : Shared.TypeIs { s with heap := s.heap.push { cls := .type "set", dict := none, data := .set #[] 0 (.fresh 0 0 led) } } (.ref s.heap.objs.size) "set" := ⟨_, atZ, rfl⟩
      have hli := PySem.F.called_set.init.lookup
      have hbi := PySem.F.called_set.init.bind (.ref s.heap.objs.size)
      repeat (any_goals (first | assumption | wp_step))

      refine codeAny_mono (codeAny_call_builtin (R := wants (fun r s₂ => r = .none ∧ ∃ h' tk, s₂ = { s with heap := h', toks := tk } ∧ J items.size h' ∧
          (∀ b u, b < s.heap.objs.size → s.heap.get? b = some u → h'.get? b = some u)) E) PySem.F.called_set.init.plain PySem.F.entry_set_init (check_set_init_1 tyZ ?_)) fun r₂ s₂ hr₂ => ?_
      · obtain ⟨ol, hol, hcl, nl, hdl⟩ := hl
        obtain ⟨ocls, odict, odata, oslots⟩ := ol
        simp only at hcl hdl
        subst hcl; subst hdl
        have hol' : (s.heap.push { cls := .type "set", dict := none, data := .set #[] 0 (.fresh 0 0 led) }).get? l = some { cls := .type "list", dict := odict, data := .seq items nl, slots := oslots } := Heap.get?_push_of_some _ hol
        have hsls := PySem.F.sub_list_set
        have hslf := PySem.F.sub_list_frozenset
        have hne : (Value.type "list" == Value.type "dict") = false := by decide
        have hl1 : (s.heap.push { cls := .type "set", dict := none, data := .set #[] 0 (.fresh 0 0 led) }).IsList l items := ⟨_, hol', rfl, nl, rfl⟩
        unfold Builtin.«set.__init__» noKeywords Builtin.Frozenset.updateFrom
        generalize hPI : pyIter = PI
        wp_walk
        subst hPI

        refine wpAny_pyIter_list hl1 ?_
        refine wpAny_bind (wpAny_runValue ?_)
        have ltl : l < s.heap.objs.size := Heap.lt_size hol
        have hh3 : A.in1.in1.in1.handled = none := by simp [hh]
        have sz1 : (s.heap.push { cls := .type "set", dict := none, data := .set #[] 0 (.fresh 0 0 led) }).objs.size = s.heap.objs.size + 1 := Heap.size_push ..
        have neI : l ≠ (s.heap.push { cls := .type "set", dict := none, data := .set #[] 0 (.fresh 0 0 led) }).objs.size := by
          rw [sz1]; exact Nat.ne_of_lt (Nat.lt_succ_of_lt ltl)
        have nZ : s.heap.objs.size ∉ [(s.heap.push { cls := .type "set", dict := none, data := .set #[] 0 (.fresh 0 0 led) }).objs.size, l] := by
          rw [sz1]; simp only [List.mem_cons, List.mem_singleton, List.not_mem_nil, or_false, not_or]
          exact ⟨Nat.ne_of_lt (Nat.lt_succ_self _), Nat.ne_of_gt ltl⟩
        refine loopG ((Walks.list hh3 _ l neI items).toS) s.heap.objs.size nZ J (fun i h h' j k => same i h h' j fun b u nb e => k b u (by rw [sz1, List.mem_singleton]; exact nb) e)
          (fun i v t Q E hi hv hj q => step _ i v t Q E hi hv hj (by show A.units + 1 + 1 + 1 ≤ A.units + 8; omega) (by simp [hh]) q) (items.size - 0) 0 _ (by omega) (Nat.zero_le _)
          ⟨⟨_, Heap.get?_push_size _ rfl, rfl, rfl⟩, (hl1.push _)⟩ ?hS0 ?hR
        case hS0 => exact J0 led _ (fun b u e => Heap.get?_push_of_some _ (Heap.get?_push_of_some _ e)) (Heap.get?_push_of_some _ atZ)
        case hR =>
          intro s' hm hS'
          obtain ⟨h', g', d', tk', os'⟩ := s'
          have eg : g' = s.gens := hm.gens
          have ed : d' = s.drawn := hm.drawn
          have eo : os' = s.os := hm.os
          subst eg; subst ed; subst eo
          show wpAny _ _ _ _ _ _
          refine wpAny_pure ?_
          show wpAny _ _ (ret Value.none) _ _ _
          refine wpAny_pure ⟨rfl, h', tk', rfl, hS', fun b u hb e => ?_⟩
          have nb1 : b ≠ s.heap.objs.size := Nat.ne_of_lt hb
          have nb2 : b ≠ (s.heap.push { cls := .type "set", dict := none, data := .set #[] 0 (.fresh 0 0 led) }).objs.size := by
            rw [sz1]; exact Nat.ne_of_lt (Nat.lt_succ_of_lt hb)
          exact hm.heap b u (by simp only [List.mem_cons, List.mem_singleton, List.not_mem_nil, or_false, not_or]; exact ⟨nb1, nb2⟩) (Heap.get?_push_of_some _ (Heap.get?_push_of_some _ e))

      · cases r₂ with
        | error e => exact hr₂
        | ok fl₂ =>
          cases fl₂ with
          | ret r =>
            obtain ⟨rfl, h', tk, rfl, hS', hk'⟩ := hr₂
            repeat (any_goals (first | assumption | wp_step))
            exact fin _ _ hS' hk'
          | _ => exact hr₂.elim
    | _ => exact hr.elim

/-- set(xs), xs a tuple -/
theorem set_tupleG {l : Addr} {items : Array Value} (J : Nat → Heap → Prop) {Q : Value → Shared → Prop} (hh : A.handled = none) (hl : s.heap.IsTuple l items)
    (J0 : ∀ (led : Bool) (g : Heap), (∀ b u, s.heap.get? b = some u → g.get? b = some u) → g.get? s.heap.objs.size = some { cls := .type "set", dict := none, data := .set #[] 0 (.fresh 0 0 led) } → J 0 g)
    (same : ∀ i h h', J i h → (∀ b u, b ≠ s.heap.objs.size + 1 → h.get? b = some u → h'.get? b = some u) → J i h')
    (step : ∀ (B : Around) i v (t : Shared) (Q : Bool → Shared → Prop) (E : Value → Shared → Prop), i < items.size → items[i]? = some v → J i t.heap → B.units ≤ A.units + 8 → B.handled = none → (∀ b h' tk, Heap.SameBut s.heap.objs.size t.heap h' → t.toks ≤ tk → J (i + 1) h' → Q b { t with heap := h', toks := tk }) → wpAny (model prog w) B (setAdd s.heap.objs.size v) Q E t)
    (fin : ∀ (h' : Heap) (tk : Nat), J items.size h' → (∀ b u, b < s.heap.objs.size → s.heap.get? b = some u → h'.get? b = some u) → Q (.ref s.heap.objs.size) { s with heap := h', toks := tk }) :
    wpAny (model prog w) A (call (.type "set") [.ref l]) Q E s := by
  obtain ⟨c, tl, hmro⟩ := PySem.F.called_set.mro
  have hmade := PySem.F.called_set.made
  have hsub := PySem.F.called_set.sub
  refine wpAny_call (codeAny_of_tree ?_)
  show wpAny _ _ (callAny (.type "set") _) _ _ _
  refine wpAny_pure ⟨Code.quiet_builtin _ (by decide +kernel), codeAny_builtin F.entry_type_call ?_⟩
  rw [Around.under_plain (weight_type_call_type "set" [.ref l] []) rfl]
  have h1 := PySem.F.called_set.notType
  have h2 := PySem.F.called_set.canCreate
  have hct := PySem.F.typeCall_set_1 (.ref l)
  repeat (any_goals (first | assumption | wp_step))

  refine codeAny_mono (code_set_new_1 (.ref l) (E := E) (Q₁ := fun z s₁ => ∃ led : Bool, z = .ref s.heap.objs.size ∧ s₁ = { s with heap := s.heap.push { cls := .type "set", dict := none, data := .set #[] 0 (.fresh 0 0 led) } }) fun led => ⟨led, rfl, rfl⟩) fun r s₁ hr => ?_
  cases r with
  | error e => exact hr
  | ok fl =>
    cases fl with
    | ret z =>
      obtain ⟨led, rfl, rfl⟩ := hr
      have atZ : (s.heap.push { cls := .type "set", dict := none, data := .set #[] 0 (.fresh 0 0 led) }).get? s.heap.objs.size = some { cls := .type "set", dict := none, data := .set #[] 0 (.fresh 0 0 led) } := Heap.get?_push_size _ rfl
      have tyZ : Shared.TypeIs { s with heap := s.heap.push { cls := .type "set", dict := none, data := .set #[] 0 (.fresh 0 0 led) } } (.ref s.heap.objs.size) "set" := ⟨_, atZ, rfl⟩
      have hli := PySem.F.called_set.init.lookup
      have hbi := PySem.F.called_set.init.bind (.ref s.heap.objs.size)
      repeat (any_goals (first | assumption | wp_step))

      refine codeAny_mono (codeAny_call_builtin (R := wants (fun r s₂ => r = .none ∧ ∃ h' tk, s₂ = { s with heap := h', toks := tk } ∧ J items.size h' ∧
          (∀ b u, b < s.heap.objs.size → s.heap.get? b = some u → h'.get? b = some u)) E) PySem.F.called_set.init.plain PySem.F.entry_set_init (check_set_init_1 tyZ ?_)) fun r₂ s₂ hr₂ => ?_
      · obtain ⟨ol, hol, hcl, nl, hdl⟩ := hl
        obtain ⟨ocls, odict, odata, oslots⟩ := ol
        simp only at hcl hdl
        subst hcl; subst hdl
        have hol' : (s.heap.push { cls := .type "set", dict := none, data := .set #[] 0 (.fresh 0 0 led) }).get? l = some { cls := .type "tuple", dict := odict, data := .seq items nl, slots := oslots } := Heap.get?_push_of_some _ hol
        have hsls := PySem.F.sub_tuple_set
        have hslf := PySem.F.sub_tuple_frozenset
        have hne : (Value.type "tuple" == Value.type "dict") = false := by decide
        have hl1 : (s.heap.push { cls := .type "set", dict := none, data := .set #[] 0 (.fresh 0 0 led) }).IsTuple l items := ⟨_, hol', rfl, nl, rfl⟩
        unfold Builtin.«set.__init__» noKeywords Builtin.Frozenset.updateFrom
        generalize hPI : pyIter = PI
        wp_walk
        subst hPI

        refine wpAny_pyIter_tuple hl1 ?_
        refine wpAny_bind (wpAny_runValue ?_)
        have ltl : l < s.heap.objs.size := Heap.lt_size hol
        have hh3 : A.in1.in1.in1.handled = none := by simp [hh]
        have sz1 : (s.heap.push { cls := .type "set", dict := none, data := .set #[] 0 (.fresh 0 0 led) }).objs.size = s.heap.objs.size + 1 := Heap.size_push ..
        have neI : l ≠ (s.heap.push { cls := .type "set", dict := none, data := .set #[] 0 (.fresh 0 0 led) }).objs.size := by
          rw [sz1]; exact Nat.ne_of_lt (Nat.lt_succ_of_lt ltl)
        have nZ : s.heap.objs.size ∉ [(s.heap.push { cls := .type "set", dict := none, data := .set #[] 0 (.fresh 0 0 led) }).objs.size, l] := by
          rw [sz1]; simp only [List.mem_cons, List.mem_singleton, List.not_mem_nil, or_false, not_or]
          exact ⟨Nat.ne_of_lt (Nat.lt_succ_self _), Nat.ne_of_gt ltl⟩
        refine loopG ((Walks.tuple hh3 _ l neI items).toS) s.heap.objs.size nZ J (fun i h h' j k => same i h h' j fun b u nb e => k b u (by rw [sz1, List.mem_singleton]; exact nb) e)
          (fun i v t Q E hi hv hj q => step _ i v t Q E hi hv hj (by show A.units + 1 + 1 + 1 ≤ A.units + 8; omega) (by simp [hh]) q) (items.size - 0) 0 _ (by omega) (Nat.zero_le _)
          ⟨⟨_, Heap.get?_push_size _ rfl, rfl, rfl⟩, (hl1.push _)⟩ ?hS0 ?hR
        case hS0 => exact J0 led _ (fun b u e => Heap.get?_push_of_some _ (Heap.get?_push_of_some _ e)) (Heap.get?_push_of_some _ atZ)
        case hR =>
          intro s' hm hS'
          obtain ⟨h', g', d', tk', os'⟩ := s'
          have eg : g' = s.gens := hm.gens
          have ed : d' = s.drawn := hm.drawn
          have eo : os' = s.os := hm.os
          subst eg; subst ed; subst eo
          show wpAny _ _ _ _ _ _
          refine wpAny_pure ?_
          show wpAny _ _ (ret Value.none) _ _ _
          refine wpAny_pure ⟨rfl, h', tk', rfl, hS', fun b u hb e => ?_⟩
          have nb1 : b ≠ s.heap.objs.size := Nat.ne_of_lt hb
          have nb2 : b ≠ (s.heap.push { cls := .type "set", dict := none, data := .set #[] 0 (.fresh 0 0 led) }).objs.size := by
            rw [sz1]; exact Nat.ne_of_lt (Nat.lt_succ_of_lt hb)
          exact hm.heap b u (by simp only [List.mem_cons, List.mem_singleton, List.not_mem_nil, or_false, not_or]; exact ⟨nb1, nb2⟩) (Heap.get?_push_of_some _ (Heap.get?_push_of_some _ e))

      · cases r₂ with
        | error e => exact hr₂
        | ok fl₂ =>
          cases fl₂ with
          | ret r =>
            obtain ⟨rfl, h', tk, rfl, hS', hk'⟩ := hr₂
            repeat (any_goals (first | assumption | wp_step))
            exact fin _ _ hS' hk'
          | _ => exact hr₂.elim
    | _ => exact hr.elim
end
end Pf

namespace Pf
open PySem PySem.Spec PyProof.Rows L2
/-- data as a key carried by value -/
def lf : D → Leaf
  | .bl b => .num (if b = true then 1 else 0)
  | .int i => .num i
  | .str x => .text x
  | _ => .none
theorem beq_dec {α : Type} [DecidableEq α] (a b : α) : (a == b) = decide (a = b) := rfl
theorem lf_eqv {a b : D} (ha : leafD a = true) (hb : leafD b = true) : D.eqv a b = decide (lf a = lf b) := by
  cases a <;> cases b <;> first | (cases ha; done) | (cases hb; done) | skip
  all_goals simp [D.eqv, lf]
  · rename_i x y; cases x <;> cases y <;> decide
  all_goals first | exact beq_dec _ _ | (rw [Bool.beq_eq_decide_eq]) | (rename_i x y; by_cases e : x = y <;> simp [e])
def onceF {κ : Type} [DecidableEq κ] (acc : List κ) : List κ → List κ
  | [] => acc
  | x :: r => if x ∈ acc then onceF acc r else onceF (acc ++ [x]) r
theorem onceF_snoc {κ : Type} [DecidableEq κ] (x : κ) : ∀ (l acc : List κ), onceF acc (l ++ [x]) = if x ∈ onceF acc l then onceF acc l else onceF acc l ++ [x]
  | [], acc => rfl
  | y :: l, acc => by
    show (if y ∈ acc then onceF acc (l ++ [x]) else onceF (acc ++ [y]) (l ++ [x])) = if x ∈ (if y ∈ acc then onceF acc l else onceF (acc ++ [y]) l) then (if y ∈ acc then onceF acc l else onceF (acc ++ [y]) l) else (if y ∈ acc then onceF acc l else onceF (acc ++ [y]) l) ++ [x]
    by_cases h : y ∈ acc
    · rw [if_pos h, if_pos h]; exact onceF_snoc x l acc
    · rw [if_neg h, if_neg h]; exact onceF_snoc x l (acc ++ [y])
theorem onceF_len {κ : Type} [DecidableEq κ] : ∀ (l acc : List κ), (onceF acc l).length ≤ acc.length + l.length
  | [], acc => Nat.le_refl _
  | y :: l, acc => by
    show (if y ∈ acc then onceF acc l else onceF (acc ++ [y]) l).length ≤ _
    by_cases h : y ∈ acc
    · rw [if_pos h]; have := onceF_len l acc; rw [List.length_cons]; omega
    · rw [if_neg h]; have := onceF_len l (acc ++ [y]); rw [List.length_append] at this; simp at this; rw [List.length_cons]; omega
theorem any_lf {x : D} (hx : leafD x = true) : ∀ {acc : List D}, acc.all leafD = true → (acc.any fun z => D.eqv z x) = decide (lf x ∈ acc.map lf)
  | [], _ => by simp
  | a :: acc, h => by
    rw [List.all_cons, Bool.and_eq_true] at h
    rw [List.any_cons, any_lf hx h.2, lf_eqv h.1 hx]
    simp [eq_comm]
theorem onceL_lf : ∀ (ys acc : List D), ys.all leafD = true → acc.all leafD = true → (onceL acc ys).map lf = onceF (acc.map lf) (ys.map lf)
  | [], acc, _, _ => rfl
  | y :: ys, acc, h, ha => by
    rw [List.all_cons, Bool.and_eq_true] at h
    show (if (acc.any fun z => D.eqv z y) = true then onceL acc ys else onceL (acc ++ [y]) ys).map lf = if lf y ∈ acc.map lf then onceF (acc.map lf) (ys.map lf) else onceF (acc.map lf ++ [lf y]) (ys.map lf)
    rw [any_lf h.1 ha]
    by_cases e : lf y ∈ acc.map lf
    · rw [if_pos (decide_eq_true e), if_pos e]; exact onceL_lf ys acc h.2 ha
    · rw [if_neg (by simpa using e), if_neg e, onceL_lf ys (acc ++ [y]) h.2 (by rw [List.all_append, ha]; simp [h.1])]
      simp
theorem leaf_is {K : PySem.W.Frag} {ι : Ix} {H : Hp} {d : D} {v : V} {u : Value} (hd : leafD d = true) (r : Rp K ι H v d) (ru : RelV v u) : Leaf.isOf (lf d) u = true ∧ u.scannable = true := by
  cases r with
  | non => cases ru; exact ⟨rfl, rfl⟩
  | bl b => cases ru; exact ⟨by simp [lf, Leaf.isOf], rfl⟩
  | int i => obtain ⟨t, rfl⟩ := ru; exact ⟨by simp [lf, Leaf.isOf], rfl⟩
  | str x => obtain ⟨t, rfl⟩ := ru; exact ⟨by simp [lf, Leaf.isOf, Value.isStrOf], rfl⟩
  | _ => cases hd
theorem leaf_items {K : PySem.W.Frag} {ι : Ix} {H : Hp} : ∀ {ys : List D} {vs : List V} {us : List Value}, ys.all leafD = true → Rps K ι H vs ys → Vals vs us → ∀ (i : Nat) (u : Value), us[i]? = some u → ∃ k, (ys.map lf)[i]? = some k ∧ Leaf.isOf k u = true ∧ u.scannable = true
  | _, _, _, _, .nil, .nil, i, u, e => by simp at e
  | y :: ys, _, _, h, .cons r t, .cons ru rt, i, u, e => by
    rw [List.all_cons, Bool.and_eq_true] at h
    cases i with
    | zero =>
      simp at e; subst e
      exact ⟨_, rfl, leaf_is h.1 r ru⟩
    | succ i =>
      obtain ⟨k, h1, h2⟩ := leaf_items h.2 t rt i u (by simpa using e)
      exact ⟨k, by simpa using h1, h2⟩
section
variable {prog : Program} {w : World}
/-- the set after i of the keys -/
def JL (prog : Program) (w : World) (Z : Addr) (ks : List Leaf) (i : Nat) (h : Heap) : Prop := ∃ S : Leaf → Bool, (∀ k, S k = decide (k ∈ onceF [] (ks.take i))) ∧ h.SetOf (leafKind prog w) Z S (onceF [] (ks.take i)).length
theorem JL.same {Z : Addr} {ks : List Leaf} {i : Nat} {h h' : Heap} (j : JL prog w Z ks i h) (k : ∀ u, h.get? Z = some u → h'.get? Z = some u) : JL prog w Z ks i h' := by
  obtain ⟨S, hS, o, es, ep, t, ho, r⟩ := j
  exact ⟨S, hS, o, es, ep, t, k _ ho, r⟩
theorem JL.zero {Z : Addr} {ks : List Leaf} {led : Bool} {g : Heap} (e : g.get? Z = some { cls := .type "set", dict := none, data := .set #[] 0 (.fresh 0 0 led) }) : JL prog w Z ks 0 g :=
  ⟨fun _ => false, fun k => by simp [onceF], _, #[], 0, _, e, ⟨rfl, rfl, rfl⟩, rfl, fun e he => by simp at he, fun k => by simp, by decide, by rfl, rfl⟩
theorem JL.step {Z : Addr} {ks : List Leaf} {i : Nat} {v : Value} {k : Leaf} {B : Around} {t : Shared} {Q : Bool → Shared → Prop} {E : Value → Shared → Prop} (hk : ks[i]? = some k) (hv : Leaf.isOf k v = true) (hs : v.scannable = true) (hn : ks.length < 4000) (j : JL prog w Z ks i t.heap)
    (q : ∀ b h' tk, Heap.SameBut Z t.heap h' → t.toks ≤ tk → JL prog w Z ks (i + 1) h' → Q b { t with heap := h', toks := tk }) : wpAny (model prog w) B (setAdd Z v) Q E t := by
  obtain ⟨S, hS, hset⟩ := j
  have hil : i < ks.length := (List.getElem?_eq_some_iff.mp hk).1
  have hl := onceF_len (ks.take i) []
  have hl2 : (ks.take i).length ≤ ks.length := by rw [List.length_take]; exact Nat.min_le_right _ _
  simp at hl
  unfold setAdd
  refine wpAny_holding (wpAny_bind ((leafKind prog w).pyHash (k := k) hv ?_))
  refine wpAny_setAddHashed_of (knd := leafKind prog w) (s := { t with toks := t.toks + 1 }) hv hs hset (by unfold scanBound; omega) fun h' hsb hS2 => ?_
  refine q _ h' _ hsb (Nat.le_succ _) ?_
  have et : ks.take (i + 1) = ks.take i ++ [k] := by rw [List.take_add_one, hk]; rfl
  refine ⟨fun k' => decide (k' ∈ onceF [] (ks.take (i + 1))), fun k' => rfl, ?_⟩
  · rw [et, onceF_snoc]
    have e1 : (fun k' => S k' || decide (k' = k)) = fun k' => decide (k' ∈ if k ∈ onceF [] (ks.take i) then onceF [] (ks.take i) else onceF [] (ks.take i) ++ [k]) := by
      funext k'
      rw [hS]
      by_cases h : k ∈ onceF [] (ks.take i)
      · rw [if_pos h]
        by_cases e : k' = k
        · subst e; simp [h]
        · simp [e]
      · rw [if_neg h]; simp
    rw [e1] at hS2
    have e2 : (if S k = true then (onceF [] (ks.take i)).length else (onceF [] (ks.take i)).length + 1) = (if k ∈ onceF [] (ks.take i) then onceF [] (ks.take i) else onceF [] (ks.take i) ++ [k]).length := by
      rw [hS]
      by_cases h : k ∈ onceF [] (ks.take i)
      · rw [if_pos h, if_pos (decide_eq_true h)]
      · rw [if_neg h, if_neg (by simpa using h)]; simp
    rw [e2] at hS2
    exact hS2
end
section
variable {X : Cx} {F : Ent}
/-- len(set(a)) -/
theorem pe_lens (hK : F.K = X.K) {a : Expr} {ta : DS → DH → DQ → Prop} {p p2 q pos : Pos} (hc : X.calm = true) (hg : Gl X "len") (hm : X.mg "len" = none) (hg2 : Gl X "set") (hm2 : X.mg "set" = none) (ha : PE X a (liftE F ta))
    (na : starEach [a] X.env = (false, eval a X.env) :: starEach [] X.env) : PE X (.Call (.Name "len" p) [.Call (.Name "set" p2) [a] [] q] [] pos) (liftE F fun τ h Q => ta τ h fun x h1 => lensW x h1 Q) := by
  refine ⟨fun pins s σ H Q I h => ?_⟩
  have h := bind1 (W := fun _ x h1 Q => lensW x h1 Q) h
  refine Call_ (ld_blt I hg hm boot_len ?_)
  refine PyProof.Rows.callWith_builtin1 (PyProof.Rows.args_cons ?_ rfl) rfl rfl
  refine Call_ (ld_blt I hg2 hm2 boot_set ?_)
  refine PyProof.Rows.callWith_type1 (PyProof.Rows.args_cons (thn (ha.run pins s σ H _ I h) fun v s1 ⟨x, H1, I1, r1, q1⟩ => PyProof.Rows.args_nil ?_) na) na rfl
  obtain ⟨ι, τ, h1, d, Qd, sr, ex, rp, ⟨ys, hq, hls, q2⟩, kk⟩ := q1
  unfold lsOk at hls
  rw [Bool.and_eq_true, decide_eq_true_eq] at hls
  obtain ⟨hlf, hn⟩ := hls
  obtain ⟨l, ws, rfl, hs, t⟩ := rp.seq sr.hr hq
  cases r1
  rw [hK] at hs
  have hws := t.length
  have eN : (onceL [] ys).length = (onceF [] (ys.map lf)).length := by
    rw [← List.length_map (f := lf), onceL_lf ys [] hlf rfl]; rfl
  have fin : ∀ (its : List Value), Vals ws its → ∀ (h' : Heap) (tk : Nat), JL X.prog X.w s1.heap.objs.size (ys.map lf) its.toArray.size h' →
      (∀ b u, b < s1.heap.objs.size → s1.heap.get? b = some u → h'.get? b = some u) →
      wpAny (model X.prog X.w) X.A (spliced (backTo pos (starEach [] X.env))) (fun vs s₂ => wpAny (model X.prog X.w) X.A (call (.builtin "len") (Value.ref s1.heap.objs.size :: vs)) (EP X pins σ Q) X.xe s₂) X.xe { s1 with heap := h', toks := tk } := fun its r h' tk hS hk => by
    refine PyProof.Rows.args_nil ?_
    have hl : its.toArray.size = (ys.map lf).length := by rw [List.size_toArray, ← r.length, hws, List.length_map]
    rw [hl] at hS
    obtain ⟨S, _, hS⟩ := hS
    rw [List.take_length] at hS
    obtain ⟨o, es, ep, tt, ho, hex, hd, _, _, _, hf, hn2⟩ := hS
    have I2 : Inv X pins σ H1 { s1 with heap := h', toks := tk } := I1.kept fun b o e => hk b o (Heap.lt_size e) e
    have hle := onceF_len (ys.map lf) []
    simp at hle
    refine call_len_set ho hex hd hf (by rw [hn2] <;> omega) ⟨.int (onceL [] ys).length, H1, I2.tok _, ⟨_, by rw [hn2, eN]⟩, kk.here sr.hr q2 (.int _)⟩
  have step : ∀ (its : List Value), Vals ws its → ∀ (B : Around) (i : Nat) (v : Value) (t : Shared) (Q : Bool → Shared → Prop) (E : Value → Shared → Prop), i < its.toArray.size → its.toArray[i]? = some v → JL X.prog X.w s1.heap.objs.size (ys.map lf) i t.heap → B.units ≤ X.A.units + 8 → B.handled = none →
      (∀ b h' tk, Heap.SameBut s1.heap.objs.size t.heap h' → t.toks ≤ tk → JL X.prog X.w s1.heap.objs.size (ys.map lf) (i + 1) h' → Q b { t with heap := h', toks := tk }) → wpAny (model X.prog X.w) B (setAdd s1.heap.objs.size v) Q E t := fun its r B i v t' Q E hi hv hj _ _ q => by
    obtain ⟨k, hk, k1, k2⟩ := leaf_items hlf t r i v (by simpa using hv)
    exact JL.step hk k1 k2 (by rw [List.length_map]; exact hn) hj q
  rcases hs with hs | hs
  · obtain ⟨its, r, pl, hz⟩ := I1.list hs
    exact set_listG (JL X.prog X.w s1.heap.objs.size (ys.map lf)) (I1.ok.hd hc) pl.isList (fun led g _ e => JL.zero e) (fun i h h' j k => j.same fun u e => k _ u (by omega) e) (step its r) fun h' tk hS hk => fin its r h' tk hS hk
  · obtain ⟨its, r, pl, hz⟩ := I1.tuple hs
    exact set_tupleG (JL X.prog X.w s1.heap.objs.size (ys.map lf)) (I1.ok.hd hc) pl (fun led g _ e => JL.zero e) (fun i h h' j k => j.same fun u e => k _ u (by omega) e) (step its r) fun h' tk hS hk => fin its r h' tk hS hk
end
end Pf

namespace Pf
open PySem PySem.Spec PyProof.Rows L2

section
variable {X : Cx} {c : SC} {F : Ent} {Φ : Fs} {k : Nat}
theorem rD_of {W : D → D → DH → DQ → Prop} {v w : V} {H : Hp} {Q : VK} {σ : L2.St}
    (q : ∃ ι τ h x y Qd, SR F.K ι H h σ τ ∧ Ext F.ι F.H ι H ∧ Rp F.K ι H v x ∧ Rp F.K ι H w y ∧ W x y h Qd ∧ Kont F ι H Qd Q) : rD F W v w H Q := by
  obtain ⟨ι, τ, h, x, y, Qd, sr, ex, r1, r2, w, k⟩ := q
  exact ⟨ι, h, x, y, Qd, sr.hr, r1, r2, w, k⟩
theorem liftE_mono {t : DS → DH → DQ → Prop} {σ : L2.St} {H : Hp} {Q Q' : VK} (q : liftE F t σ H Q) (h : ∀ v H1, Q v H1 → Q' v H1) : liftE F t σ H Q' := by
  obtain ⟨ι, τ, hh, Qd, sr, ex, q, k⟩ := q
  exact ⟨ι, τ, hh, Qd, sr, ex, q, fun d h' v H' ι' a b c d' => h _ _ (k d h' v H' ι' a b c d')⟩
theorem liftA_mono {t : DS → DH → (List D → DH → Prop) → Prop} {σ : L2.St} {H : Hp} {Q Q' : List V → Hp → Prop} (q : liftA F t σ H Q) (h : ∀ v H1, Q v H1 → Q' v H1) : liftA F t σ H Q' := by
  obtain ⟨ι, τ, hh, Qd, sr, ex, q, k⟩ := q
  exact ⟨ι, τ, hh, Qd, sr, ex, q, fun d h' v H' ι' a b c d' => h _ _ (k d h' v H' ι' a b c d')⟩
theorem liftT_mono {t : DS → DH → DQ → Prop} {σ : L2.St} {H : Hp} {Q Q' : Bool → Hp → Prop} (q : liftT F t σ H Q) (h : ∀ v H1, Q v H1 → Q' v H1) : liftT F t σ H Q' := by
  obtain ⟨ι, τ, hh, Qd, sr, ex, q, k⟩ := q
  exact ⟨ι, τ, hh, Qd, sr, ex, q, fun d h' H' ι' a b c => let ⟨z, e, q⟩ := k d h' H' ι' a b c; ⟨z, e, h _ _ q⟩⟩
theorem tB_of {x : Expr} {t : DS → DH → DQ → Prop} (p : PE X x (liftE F t)) (he : ∀ whole, isTrue x X.env whole = (do let v ← whole; standAt x.pos; holding [v] (truthy v))) : PT X x (liftT F t) :=
  PT.imp (pt_val p he) fun σ H Q q => liftT_val q
def mfT : MF → String
  | .join => "str"
  | .tindex => "tuple"
  | .tcount => "tuple"
  | _ => "list"
theorem mfTy {m : MF} {h : DH} {d : D} {ι : Ix} {H : Hp} {v : V} (hr : HR X.K ι H h) (r : Rp X.K ι H v d) (e : methTy m h d = true) : tyV X.K (mfT m) v H := by
  have seqL : ∀ {d}, Rp X.K ι H v d → (lstOf h d).isSome = true → tyV X.K "list" v H := fun {d} r e => by
    cases q : lstOf h d with
    | none => rw [q] at e; cases e
    | some xs =>
      obtain ⟨a, vs, rfl, hs, t⟩ := r.list hr q
      exact .inl ⟨rfl, _, .inl (.inl hs)⟩
  cases m with
  | join =>
    cases r with
    | str x => rfl
    | _ => cases e
  | tindex => cases e
  | tcount => cases e
  | _ => exact seqL r e
theorem tys_pa (O : Ok X c F Φ k) : ∀ (ts : List Ty) (us : List Expr), tysB c ts us = true → ∃ t : TA, PA X us t ∧ ∀ σ H (Q : List V → Hp → Prop), Q (ts.map fun t => .ty (tyStr t)) H → t σ H Q
  | [], [], _ => ⟨_, pa_nil, fun σ H Q q => q⟩
  | t :: ts, u :: us, h => by
    have h : (tyB c t u && tysB c ts us) = true := h
    rw [Bool.and_eq_true] at h
    obtain ⟨ta, p, hq⟩ := tys_pa O ts us h.2
    cases u with
    | Name x pos =>
      have h1 : (decide (t ≠ .none) && bltB c (tyStr t) x) = true := h.1
      rw [Bool.and_eq_true, decide_eq_true_eq] at h1
      obtain ⟨ht, h1⟩ := h1
      obtain ⟨e, hm, hg, hd, hn⟩ := blt_of O h1
      have pb : PE X (.Name x pos) (tC (.ty (tyStr t))) := pe_bltn hg hm (by rw [e]; exact boot_ty t ht) (show RelV (V.ty (tyStr t)) (Value.type (tyStr t)) from rfl) hn hd
      exact ⟨_, pa_cons pb p rfl, fun σ H Q q => hq σ H _ q⟩
    | _ => simp [tyB] at h
  | [], _ :: _, h => by simp [tysB] at h
  | _ :: _, [], h => by simp [tysB] at h
theorem tysB_length : ∀ {ts : List Ty} {us : List Expr}, tysB c ts us = true → ts.length = us.length
  | [], [], _ => rfl
  | t :: ts, u :: us, h => by
    have h : (tyB c t u && tysB c ts us) = true := h
    rw [Bool.and_eq_true] at h
    exact congrArg (· + 1) (tysB_length h.2)
  | [], _ :: _, h => by simp [tysB] at h
  | _ :: _, [], h => by simp [tysB] at h
theorem tys_cls : ∀ ts : List Ty, Paired ClsV (ts.map fun t => V.ty (tyStr t)) (ts.map fun t => Value.type (tyStr t))
  | [] => .nil
  | t :: ts => .cons (.ty _) (tys_cls ts)
theorem chain_D {o p : CmpO} {ta tb tc : DS → DH → DQ → Prop} {σ : L2.St} {H : Hp} {Q : VK}
    (q : liftE F (fun τ h Q => ta τ h fun x h1 => tb τ h1 fun y h2 => ∃ r, cmpF h2 o x y = some r ∧ if r = true then tc τ h2 fun z h3 => ∃ r', cmpF h3 p y z = some r' ∧ Q (.bl r') h3 else Q (.bl false) h2) σ H Q) :
    tChain (rD F fun x y h Q => ∃ r, cmpF h o x y = some r ∧ Q (.bl r) h) (rD F fun x y h Q => ∃ r, cmpF h p x y = some r ∧ Q (.bl r) h) (liftE F ta) (liftE F tb) (liftE F tc) σ H Q := by
  refine liftE_mono (bind2 (W := fun τ x y h2 Q => ∃ r, cmpF h2 o x y = some r ∧ if r = true then tc τ h2 fun z h3 => ∃ r', cmpF h3 p y z = some r' ∧ Q (.bl r') h3 else Q (.bl false) h2) q) fun v H1 q => liftE_mono q fun w H2 q => ?_
  obtain ⟨ι, τ, h, x, y, Qd, sr, ex, r1, r2, ⟨r, hc, q⟩, k⟩ := q
  refine ⟨ι, h, x, y, fun d h' => d = .bl r ∧ h' = h, sr.hr, r1, r2, ⟨r, hc, rfl, rfl⟩, fun d h' v' H' ι' ⟨e1, e2⟩ e hr rp => ?_⟩
  subst e1; subst e2
  refine ⟨r, rp.bv, ?_⟩
  have rb := rp.bv
  subst rb
  cases r with
  | true =>
    rw [if_pos rfl] at q
    refine iteT ⟨ι', τ, h', _, sr.mono e hr, ex.trans sr.hr e, q, fun z h3 u H3 ι3 ⟨r', hc', q⟩ e3 hr3 r3 => ?_⟩
    exact ⟨ι3, h3, y, z, Qd, hr3, (r2.mono sr.hr e).mono hr e3, r3, ⟨r', hc', q⟩, Kont.mv k hr3 (e.trans hr e3)⟩
  | false =>
    rw [if_neg Bool.false_ne_true] at q
    exact iteF (k _ _ _ _ _ q e hr (.bl _))
theorem and_D {ta tb : DS → DH → DQ → Prop} {σ : L2.St} {H : Hp} {Q : VK}
    (q : liftE F (fun τ h Q => ta τ h fun x h1 => ∃ c, x = .bl c ∧ if c = true then tb τ h1 (fun y h2 => ∃ k, y = .bl k ∧ Q (.bl k) h2) else Q (.bl false) h1) σ H Q) : tAndV (liftE F ta) (liftE F tb) σ H Q := by
  refine liftE_mono (bind1 (W := fun τ x h1 Q => ∃ c, x = .bl c ∧ if c = true then tb τ h1 (fun y h2 => ∃ k, y = .bl k ∧ Q (.bl k) h2) else Q (.bl false) h1) q) fun v H1 q => ?_
  obtain ⟨ι, τ, h, x, Qd, sr, ex, r1, ⟨c, rfl, q⟩, k⟩ := q
  refine ⟨c, r1.bv, ?_⟩
  cases c with
  | true =>
    rw [if_pos rfl] at q
    refine iteT ⟨ι, τ, h, _, sr, ex, q, fun d h' v' H' ι' ⟨z, e1, q⟩ e hr rp => ?_⟩
    subst e1
    exact k _ _ _ _ _ q e hr rp
  | false =>
    rw [if_neg Bool.false_ne_true] at q
    exact iteF (k.here sr.hr q (.bl _))
theorem or_D {ta tb : DS → DH → DQ → Prop} {σ : L2.St} {H : Hp} {Q : VK}
    (q : liftE F (fun τ h Q => ta τ h fun x h1 => ∃ c, x = .bl c ∧ if c = true then Q (.bl true) h1 else tb τ h1 (fun y h2 => ∃ k, y = .bl k ∧ Q (.bl k) h2)) σ H Q) : tOrV (liftE F ta) (liftE F tb) σ H Q := by
  refine liftE_mono (bind1 (W := fun τ x h1 Q => ∃ c, x = .bl c ∧ if c = true then Q (.bl true) h1 else tb τ h1 (fun y h2 => ∃ k, y = .bl k ∧ Q (.bl k) h2)) q) fun v H1 q => ?_
  obtain ⟨ι, τ, h, x, Qd, sr, ex, r1, ⟨c, rfl, q⟩, k⟩ := q
  refine ⟨c, r1.bv, ?_⟩
  cases c with
  | true =>
    rw [if_pos rfl] at q
    exact iteT (k.here sr.hr q (.bl _))
  | false =>
    rw [if_neg Bool.false_ne_true] at q
    refine iteF ⟨ι, τ, h, _, sr, ex, q, fun d h' v' H' ι' ⟨z, e1, q⟩ e hr rp => ?_⟩
    subst e1
    exact k _ _ _ _ _ q e hr rp
theorem ite_D {tc ta tb : DS → DH → DQ → Prop} {σ : L2.St} {H : Hp} {Q : VK}
    (q : liftE F (fun τ h Q => tc τ h fun x h1 => ∃ k, x = .bl k ∧ if k = true then ta τ h1 Q else tb τ h1 Q) σ H Q) : tIf (liftT F tc) (liftE F ta) (liftE F tb) σ H Q := by
  obtain ⟨ι, τ, h, Qd, sr, ex, q, k⟩ := q
  refine ⟨ι, τ, h, _, sr, ex, q, fun d h' H' ι' ⟨b, e1, q⟩ e hr => ⟨b, e1, ?_⟩⟩
  cases b with
  | true =>
    rw [if_pos rfl] at q
    exact iteT ⟨ι', τ, h', Qd, sr.mono e hr, ex.trans sr.hr e, q, Kont.mv k hr e⟩
  | false =>
    rw [if_neg Bool.false_ne_true] at q
    exact iteF ⟨ι', τ, h', Qd, sr.mono e hr, ex.trans sr.hr e, q, Kont.mv k hr e⟩
theorem pw_bool {op : BoolOp} {vs : List Expr} {pos : Pos} {t : TT} (p : PT X (.BoolOp op vs pos) t) : PW X (.BoolOp op vs pos) t := ⟨fun _ pins s σ H Q I q => p.run pins s σ H Q I q⟩
theorem and_T {ta tb : DS → DH → DQ → Prop} {σ : L2.St} {H : Hp} {Q : Bool → Hp → Prop}
    (q : liftT F (fun τ h Q => ta τ h fun x h1 => ∃ c, x = .bl c ∧ if c = true then tb τ h1 (fun y h2 => ∃ k, y = .bl k ∧ Q (.bl k) h2) else Q (.bl false) h1) σ H Q) : tAnd (liftT F ta) (liftT F tb) σ H Q := by
  obtain ⟨ι, τ, h, Qd, sr, ex, q, k⟩ := q
  refine ⟨ι, τ, h, _, sr, ex, q, fun d h' H' ι' ⟨b, e1, q⟩ e hr => ⟨b, e1, ?_⟩⟩
  cases b with
  | true =>
    rw [if_pos rfl] at q
    refine iteT ⟨ι', τ, h', _, sr.mono e hr, ex.trans sr.hr e, q, fun d2 h2 H2 ι2 ⟨z, e3, q⟩ e2 hr2 => ⟨z, e3, ?_⟩⟩
    obtain ⟨b, e4, q⟩ := k _ _ _ _ q (e.trans hr e2) hr2
    cases e4
    exact q
  | false =>
    rw [if_neg Bool.false_ne_true] at q
    obtain ⟨b, e4, q⟩ := k _ _ _ _ q e hr
    cases e4
    exact iteF q
theorem or_T {ta tb : DS → DH → DQ → Prop} {σ : L2.St} {H : Hp} {Q : Bool → Hp → Prop}
    (q : liftT F (fun τ h Q => ta τ h fun x h1 => ∃ c, x = .bl c ∧ if c = true then Q (.bl true) h1 else tb τ h1 (fun y h2 => ∃ k, y = .bl k ∧ Q (.bl k) h2)) σ H Q) : tOr (liftT F ta) (liftT F tb) σ H Q := by
  obtain ⟨ι, τ, h, Qd, sr, ex, q, k⟩ := q
  refine ⟨ι, τ, h, _, sr, ex, q, fun d h' H' ι' ⟨b, e1, q⟩ e hr => ⟨b, e1, ?_⟩⟩
  cases b with
  | true =>
    rw [if_pos rfl] at q
    obtain ⟨b, e4, q⟩ := k _ _ _ _ q e hr
    cases e4
    exact iteT q
  | false =>
    rw [if_neg Bool.false_ne_true] at q
    refine iteF ⟨ι', τ, h', _, sr.mono e hr, ex.trans sr.hr e, q, fun d2 h2 H2 ι2 ⟨z, e3, q⟩ e2 hr2 => ⟨z, e3, ?_⟩⟩
    obtain ⟨b, e4, q⟩ := k _ _ _ _ q (e.trans hr e2) hr2
    cases e4
    exact q
theorem ite_T {tc ta tb : DS → DH → DQ → Prop} {σ : L2.St} {H : Hp} {Q : Bool → Hp → Prop}
    (q : liftT F (fun τ h Q => tc τ h fun x h1 => ∃ k, x = .bl k ∧ if k = true then ta τ h1 Q else tb τ h1 Q) σ H Q) : liftT F tc σ H fun b H1 => if b = true then liftT F ta σ H1 Q else liftT F tb σ H1 Q := by
  obtain ⟨ι, τ, h, Qd, sr, ex, q, k⟩ := q
  refine ⟨ι, τ, h, _, sr, ex, q, fun d h' H' ι' ⟨b, e1, q⟩ e hr => ⟨b, e1, ?_⟩⟩
  cases b with
  | true =>
    rw [if_pos rfl] at q
    exact iteT ⟨ι', τ, h', Qd, sr.mono e hr, ex.trans sr.hr e, q, fun d2 h2 H2 ι2 q e2 hr2 => k d2 h2 H2 ι2 q (e.trans hr e2) hr2⟩
  | false =>
    rw [if_neg Bool.false_ne_true] at q
    exact iteF ⟨ι', τ, h', Qd, sr.mono e hr, ex.trans sr.hr e, q, fun d2 h2 H2 ι2 q e2 hr2 => k d2 h2 H2 ι2 q (e.trans hr e2) hr2⟩
theorem base_ok {o : E} {x : Expr} {n : Str} {env : Env} (h : chkE c o x = true) : attributeBase x n env (eval x env) = eval x env := by
  cases x with
  | Call fn args kws pos =>
    cases fn with
    | Name id p =>
      cases args with
      | nil => cases o <;> simp [chkE] at h
      | cons y ys => rfl
    | _ => rfl
  | _ => rfl
theorem few_ok {es : Es} {y : Expr} {ys : List Expr} {pos : Pos} {env : Env} (h : chkEs c es (y :: ys) = true) (hl : ys.length ≤ 3) :
    ((backTo pos (starEach (y :: ys) env)).all (fun x => !x.1) && (backToKw pos (keywordEach [] env)).all (fun x => x.1.isSome) && decide ((y :: ys).length + ([] : List Keyword).length + (if ([] : List Keyword).isEmpty then 0 else 1) < 30)) = true := by
  have h1 := chks_plain (pos := pos) (env := env) h
  have h2 : (backTo pos (starEach (y :: ys) env)).all (fun x => !x.1) = true := by
    rw [List.all_eq_true]
    intro z hz
    have := List.any_eq_false.mp h1 z hz
    simpa using this
  have h3 : decide ((y :: ys).length + ([] : List Keyword).length + (if ([] : List Keyword).isEmpty then 0 else 1) < 30) = true := by
    refine decide_eq_true ?_
    simp
    omega
  rw [h2, h3]
  rfl
theorem meth_D (O : Ok X c F Φ k) (m : MF) {o : E} {es : Es} {x y : Expr} {ys : List Expr} {ap pos : Pos} (po : PE X x (liftE F (wpE Φ NX o))) (pa : PA X (y :: ys) (liftA F (wpEs Φ NX es)))
    (h4 : chkEs c es (y :: ys) = true) (h2 : chkE c o x = true) (h5 : (ap.endLine == pos.line) = true) (h6 : ys.length ≤ 3) :
    PE X (.Call (.Attribute x (Str.ofString (mfName m)) ap) (y :: ys) [] pos) (liftE F (wpE Φ NX (.meth m o es))) := by
  have s0 : ∀ v p, y ≠ .Starred v p := by
    cases es with
    | nil => simp [chkEs] at h4
    | cons e1 es1 =>
      have h4 : (chkE c e1 y && chkEs c es1 ys) = true := h4
      rw [Bool.and_eq_true] at h4
      exact chk_star h4.1
  have s1 : (backTo pos (starEach ys X.env)).any (·.1) = false := by
    cases es with
    | nil => simp [chkEs] at h4
    | cons e1 es1 =>
      have h4 : (chkE c e1 y && chkEs c es1 ys) = true := h4
      rw [Bool.and_eq_true] at h4
      exact chks_plain h4.2
  have mt := mt_D (X := X) (F := F) O.hK O.u70 m
  have fin : ∀ σ H Q, liftE F (wpE Φ NX (.meth m o es)) σ H Q → tBM X.K (mfT m) (rMD F (methW m)) (liftE F (wpE Φ NX o)) (liftA F (wpEs Φ NX es)) σ H Q := fun σ H Q q => by
    obtain ⟨ι, τ, h, Qd, sr, ex, q, k⟩ := q
    refine ⟨ι, τ, h, _, sr, ex, q, fun d h1 v H1 ι1 ⟨ty, q⟩ e1 hr1 r1 => ⟨?_, ι1, τ, h1, _, sr.mono e1 hr1, ex.trans sr.hr e1, q, fun ds h2 vs H2 ι2 q e2 hr2 r2 => ⟨ι2, h2, d, ds, Qd, hr2, r1.mono hr1 e2, r2, q, Kont.mv k hr2 (e1.trans hr1 e2)⟩⟩⟩
    rw [O.hK] at hr1 r1
    exact mfTy hr1 r1 ty
  cases m with
  | append => exact PE.imp (pe_bm PySem.F.plainAttrs_list PySem.F.slot_list_append PySem.F.type_list_append mt po pa (base_ok h2) (few_ok h4 h6) h5 (star_ns s0) s1) fin
  | pop => exact PE.imp (pe_bm PySem.F.plainAttrs_list PySem.F.slot_list_pop PySem.F.type_list_pop mt po pa (base_ok h2) (few_ok h4 h6) h5 (star_ns s0) s1) fin
  | index => exact PE.imp (pe_bm PySem.F.plainAttrs_list PySem.F.slot_list_index PySem.F.type_list_index mt po pa (base_ok h2) (few_ok h4 h6) h5 (star_ns s0) s1) fin
  | join => exact PE.imp (pe_bm PySem.F.plainAttrs_str PySem.F.slot_str_join PySem.F.type_str_join mt po pa (base_ok h2) (few_ok h4 h6) h5 (star_ns s0) s1) fin
  | insert => exact PE.imp (pe_bm PySem.F.plainAttrs_list PySem.F.slot_list_insert PySem.F.type_list_insert mt po pa (base_ok h2) (few_ok h4 h6) h5 (star_ns s0) s1) fin
  | extend => exact PE.imp (pe_bm PySem.F.plainAttrs_list PySem.F.slot_list_extend PySem.F.type_list_extend mt po pa (base_ok h2) (few_ok h4 h6) h5 (star_ns s0) s1) fin
  | count => exact PE.imp (pe_bm PySem.F.plainAttrs_list PySem.F.slot_list_count PySem.F.type_list_count mt po pa (base_ok h2) (few_ok h4 h6) h5 (star_ns s0) s1) fin
  | tindex => exact PE.imp (pe_bm PySem.F.plainAttrs_tuple PySem.F.slot_tuple_index PySem.F.type_tuple_index mt po pa (base_ok h2) (few_ok h4 h6) h5 (star_ns s0) s1) fin
  | tcount => exact PE.imp (pe_bm PySem.F.plainAttrs_tuple PySem.F.slot_tuple_count PySem.F.type_tuple_count mt po pa (base_ok h2) (few_ok h4 h6) h5 (star_ns s0) s1) fin
  | reverse => exact PE.imp (pe_bm PySem.F.plainAttrs_list PySem.F.slot_list_reverse PySem.F.type_list_reverse mt po pa (base_ok h2) (few_ok h4 h6) h5 (star_ns s0) s1) fin
theorem seq_D (hK : F.K = X.K) {t : DS → DH → DQ → Prop} {σ : L2.St} {H : Hp} {R : L2.It → Hp → Prop}
    (q : liftI F (fun τ h Q => t τ h fun x h1 => match x with
      | .str s => s.length ≤ 16777216 ∧ Q (s.cps.toList.map fun c => .str (oneS c)) (fun _ => True) h1
      | x => ∃ xs, seqOf h1 x = some xs ∧ Q xs (fun h2 => seqOf h2 x = some xs) h1) σ H R) :
    iAny X.K (fun σ H Q => liftE F t σ H fun v H1 => Facts X.K H1 → Q v H1) σ H R := by
  obtain ⟨ι, τ, h, Qd, sr, ex, q, k⟩ := q
  refine ⟨ι, τ, h, _, sr, ex, q, fun d h1 v H1 ι1 q e1 hr1 r1 fa => ?_⟩
  have gen : ∀ xs, (∀ s, d ≠ .str s) → seqOf h1 d = some xs → Qd xs (fun h2 => seqOf h2 d = some xs) h1 →
      (∃ a vs, v = .ref a ∧ SqL X.K H1 a vs ∧ R (Itl X.K a) H1) ∨ (∃ a vs, v = .ref a ∧ SqT X.K H1 a vs ∧ R (Itt X.K a) H1) ∨ ∃ z, v = .str z ∧ R (Its z) H1 := by
    intro xs hns hq qd
    obtain ⟨a, rfl⟩ := r1.seqRef hq
    by_cases ht : ∃ ys, d = .tup ys
    · obtain ⟨ys, rfl⟩ := ht
      cases hq
      obtain ⟨vs, hs, tt⟩ := r1.seqT'
      have hj := jr_tup hr1 r1 (fun h2 => seqOf h2 (D.tup xs) = some xs)
      rw [hK] at hs hj
      refine .inr (.inl ⟨a, vs, rfl, hs, k _ _ _ _ _ _ qd e1 hr1 ?_ hj⟩)
      rw [← tt.length]
      exact fa a vs (.inr hs)
    · have hn : ∀ ys, d ≠ .tup ys := fun ys e => ht ⟨ys, e⟩
      obtain ⟨vs, hs, tt⟩ := r1.seqL hr1 hq hn
      have hj := jr_list (xs := xs) hr1 r1 hn
      rw [hK] at hs hj
      refine .inl ⟨a, vs, rfl, hs, k _ _ _ _ _ _ qd e1 hr1 ?_ hj⟩
      rw [← tt.length]
      exact fa a vs (.inl hs)
  cases d with
  | str s =>
    obtain ⟨hl, q⟩ := q
    have e := r1.sv
    subst e
    refine .inr (.inr ⟨s, rfl, k _ _ _ _ _ _ q e1 hr1 ?_ (jr_str s _)⟩)
    rw [List.length_map]
    show s.cps.toList.length ≤ _
    rw [Array.length_toList]
    exact hl
  | non => obtain ⟨xs, hq, qd⟩ := q; exact gen xs (fun s e => by cases e) hq qd
  | bl b => obtain ⟨xs, hq, qd⟩ := q; exact gen xs (fun s e => by cases e) hq qd
  | int b => obtain ⟨xs, hq, qd⟩ := q; exact gen xs (fun s e => by cases e) hq qd
  | tup b => obtain ⟨xs, hq, qd⟩ := q; exact gen xs (fun s e => by cases e) hq qd
  | lst b => obtain ⟨xs, hq, qd⟩ := q; exact gen xs (fun s e => by cases e) hq qd
  | dic b c => obtain ⟨xs, hq, qd⟩ := q; exact gen xs (fun s e => by cases e) hq qd
  | scr b => obtain ⟨xs, hq, qd⟩ := q; exact gen xs (fun s e => by cases e) hq qd
  | ref b => obtain ⟨xs, hq, qd⟩ := q; exact gen xs (fun s e => by cases e) hq qd
  | exc b c d => obtain ⟨xs, hq, qd⟩ := q; exact gen xs (fun s e => by cases e) hq qd
theorem rng1_D {t : DS → DH → DQ → Prop} {σ : L2.St} {H : Hp} {R : L2.It → Hp → Prop}
    (q : liftI F (fun τ h Q => t τ h fun y h1 => ∃ j, y = .int j ∧ (-(2 ^ 62) ≤ j ∧ j ≤ 16777216) ∧ Q (rngL 0 j.toNat) (fun _ => True) h1) σ H R) : iRng1 (tCons (liftE F t) tNil) σ H R := by
  obtain ⟨ι, τ, h, Qd, sr, ex, q, k⟩ := q
  refine ⟨ι, τ, h, _, sr, ex, q, fun d h1 v H1 ι1 ⟨j, e0, ⟨b1, b2⟩, q⟩ e1 hr1 r1 => ?_⟩
  subst e0
  have e := r1.iv
  subst e
  refine ⟨j, rfl, b1, by omega, k _ _ _ _ _ _ q e1 hr1 ?_ (jr_rng 0 _ _)⟩
  simp [rngL]; omega
theorem rng_D {ta tb : DS → DH → DQ → Prop} {σ : L2.St} {H : Hp} {R : L2.It → Hp → Prop}
    (q : liftI F (fun τ h Q => ta τ h fun x h1 => tb τ h1 fun y h2 => ∃ i j, x = .int i ∧ y = .int j ∧ (-(2 ^ 62) ≤ i ∧ i < 2 ^ 62 ∧ -(2 ^ 62) ≤ j ∧ j < 2 ^ 62) ∧ j - i ≤ 16777216 ∧ Q (rngL i (j - i).toNat) (fun _ => True) h2) σ H R) :
    iRng2 (tCons (liftE F ta) (tCons (liftE F tb) tNil)) σ H R := by
  obtain ⟨ι, τ, h, Qd, sr, ex, q, k⟩ := q
  refine ⟨ι, τ, h, _, sr, ex, q, fun d h1 v H1 ι1 q e1 hr1 r1 => ⟨ι1, τ, h1, _, sr.mono e1 hr1, ex.trans sr.hr e1, q, fun d2 h2 v2 H2 ι2 ⟨i, j, e0, e0', bb, b3, q9⟩ e2 hr2 r2 => ?_⟩⟩
  subst e0; subst e0'
  have e := r1.iv
  subst e
  have e := r2.iv
  subst e
  refine ⟨i, j, rfl, bb, k _ _ _ _ _ _ q9 (e1.trans hr1 e2) hr2 ?_ (jr_rng i _ _)⟩
  simp [rngL]; omega
theorem notT {d : D} (h : isTup d = false) : ∀ ys, d ≠ .tup ys := fun ys e => by subst e; cases h
theorem enum_D (hK : F.K = X.K) {t : DS → DH → DQ → Prop} {σ : L2.St} {H : Hp} {R : L2.It → Hp → Prop}
    (q : liftI F (fun τ h Q => t τ h fun x h1 => ∃ xs, seqOf h1 x = some xs ∧ Q (enumL 0 xs) (fun h2 => seqOf h2 x = some xs) h1) σ H R) :
    iEnumA X.K (fun σ H Q => tCons (liftE F t) tNil σ H fun v H1 => Facts X.K H1 → Q v H1) σ H R := by
  obtain ⟨ι, τ, h, Qd, sr, ex, q, k⟩ := q
  refine ⟨ι, τ, h, _, sr, ex, q, fun d h1 v H1 ι1 ⟨xs, hq, q⟩ e1 hr1 r1 fa => ?_⟩
  obtain ⟨a, rfl⟩ := r1.seqRef hq
  cases ht : isTup d with
  | false =>
    obtain ⟨vs, hs, tt⟩ := r1.seqL hr1 hq (notT ht)
    have hj := jr_enum (xs := xs) hr1 r1 (notT ht)
    rw [hK] at hs hj
    refine ⟨a, vs, rfl, .inl ⟨hs, k _ _ _ _ _ _ q e1 hr1 ?_ hj⟩⟩
    rw [enumL_length, ← tt.length]
    exact fa a vs (.inl hs)
  | true =>
    cases d with
    | tup ys =>
      cases hq
      obtain ⟨vs, hs, tt⟩ := r1.seqT'
      have hj := jr_enumT hr1 r1 (fun h2 => seqOf h2 (D.tup xs) = some xs)
      rw [hK] at hs hj
      refine ⟨a, vs, rfl, .inr ⟨hs, k _ _ _ _ _ _ q e1 hr1 ?_ hj⟩⟩
      rw [enumL_length, ← tt.length]
      exact fa a vs (.inr hs)
    | _ => cases ht
theorem zip_D (hK : F.K = X.K) {ta tb : DS → DH → DQ → Prop} {σ : L2.St} {H : Hp} {R : L2.It → Hp → Prop}
    (q : liftI F (fun τ h Q => ta τ h fun x h1 => tb τ h1 fun y h2 => ∃ xs ys, seqOf h2 x = some xs ∧ seqOf h2 y = some ys ∧ isTup x = isTup y ∧ Q (zipL xs ys) (fun h3 => seqOf h3 x = some xs ∧ seqOf h3 y = some ys) h2) σ H R) :
    RZ.iZipA X.K (fun σ H Q => tCons (liftE F ta) (tCons (liftE F tb) tNil) σ H fun v H1 => Facts X.K H1 → Q v H1) σ H R := by
  obtain ⟨ι, τ, h, Qd, sr, ex, q, k⟩ := q
  refine ⟨ι, τ, h, _, sr, ex, q, fun d h1 v H1 ι1 q e1 hr1 r1 => ⟨ι1, τ, h1, _, sr.mono e1 hr1, ex.trans sr.hr e1, q, fun d2 h2 v2 H2 ι2 ⟨xs, ys, hx, hy, hn, q⟩ e2 hr2 r2 fa => ?_⟩⟩
  have r1 := r1.mono hr1 e2
  obtain ⟨a, rfl⟩ := r1.seqRef hx
  obtain ⟨b, rfl⟩ := r2.seqRef hy
  cases ht : isTup d with
  | false =>
    rw [ht] at hn
    obtain ⟨vs, hs, tt⟩ := r1.seqL hr2 hx (notT ht)
    obtain ⟨ws, hs2, tt2⟩ := r2.seqL hr2 hy (notT hn.symm)
    have hj := jr_zipL (xs := xs) (ys := ys) hr2 r1 (notT ht) r2 (notT hn.symm)
    rw [hK] at hs hs2 hj
    refine ⟨a, b, vs, ws, rfl, .inl ⟨hs, hs2, k _ _ _ _ _ _ q (e1.trans hr1 e2) hr2 ?_ hj⟩⟩
    rw [zipL_length, ← tt.length]
    have := fa a vs (.inl hs)
    omega
  | true =>
    rw [ht] at hn
    cases d with
    | tup xs' =>
      cases d2 with
      | tup ys' =>
        cases hx; cases hy
        obtain ⟨vs, hs, tt⟩ := r1.seqT'
        obtain ⟨ws, hs2, tt2⟩ := r2.seqT'
        have hj := jr_zipT hr2 r1 r2 (fun h3 => seqOf h3 (D.tup xs) = some xs ∧ seqOf h3 (D.tup ys) = some ys)
        rw [hK] at hs hs2 hj
        refine ⟨a, b, vs, ws, rfl, .inr ⟨hs, hs2, k _ _ _ _ _ _ q (e1.trans hr1 e2) hr2 ?_ hj⟩⟩
        rw [zipL_length, ← tt.length]
        have := fa a vs (.inr hs)
        omega
      | _ => cases hn
    | _ => cases ht
mutual
theorem sndE {X : Cx} {c : SC} (O : Ok X c F Φ k) : ∀ (e : E) (x : Expr), chkE c e x = true → PE X x (liftE F (wpE Φ NX e))
  | .var i, x, h => by
    cases x with
    | Name x pos =>
      have h : (nmB c i x && visB c.sc x) = true := h
      unfold nmB at h
      simp only [Bool.and_eq_true, decide_eq_true_eq] at h
      obtain ⟨⟨h1, h2⟩, h3⟩ := h
      obtain ⟨d1, d2, d3⟩ := dbg_of h2
      refine PE.imp (pe_var (i := i) (by rw [O.hN]; exact h1) (vis_of O h3) d1 d2) fun σ H Q q => ?_
      obtain ⟨ι, τ, h, Qd, sr, ex, ⟨d, hd, q⟩, k⟩ := q
      obtain ⟨v, hv, rv⟩ := sr.at_ i d hd
      exact ⟨v, hv, k _ _ _ _ _ q .refl sr.hr rv⟩
    | _ => simp [chkE] at h
  | .glob g, x, h => by
    cases x with
    | Name x pos =>
      have h : (decide (x = Str.ofString g) && c.G.contains g && glB c.sc x && nodbg x) = true := h
      simp only [Bool.and_eq_true, decide_eq_true_eq] at h
      obtain ⟨⟨⟨h1, h2⟩, h3⟩, h4⟩ := h
      obtain ⟨d1, d2, d3⟩ := dbg_of h4
      obtain ⟨v, u, hm, r, hr⟩ := O.gl g h2
      refine PE.imp (pe_glob (gl_of O h3) (by rw [h1]; exact hm) r d1) fun σ H Q q => ?_
      exact lift_c q fun ι H => by rw [O.hK]; exact hr ι H
    | _ => simp [chkE] at h
  | .non, x, h => by
    cases x with
    | Constant a b p =>
      cases a with
      | none => exact PE.imp pe_non fun σ H Q q => lift_c q fun _ _ => .non
      | _ => simp [chkE] at h
    | _ => simp [chkE] at h
  | .bl b, x, h => by
    cases x with
    | Constant a j p =>
      cases a with
      | bool b' =>
        have e : b = b' := by simpa [chkE] using h
        subst e
        exact PE.imp pe_bl fun σ H Q q => lift_c q fun _ _ => .bl _
      | _ => simp [chkE] at h
    | _ => simp [chkE] at h
  | .int i, x, h => by
    cases x with
    | Constant a j p =>
      cases a with
      | int i' =>
        have e : i = i' := by simpa [chkE] using h
        subst e
        exact PE.imp pe_int fun σ H Q q => lift_c q fun _ _ => .int _
      | _ => simp [chkE] at h
    | _ => simp [chkE] at h
  | .str z, x, h => by
    cases x with
    | Constant a j p =>
      cases a with
      | str z' =>
        have e : z = z' := by simpa [chkE] using h
        subst e
        exact PE.imp pe_str fun σ H Q q => lift_c q fun _ _ => .str _
      | _ => simp [chkE] at h
    | _ => simp [chkE] at h
  | .tup es, x, h => by
    cases x with
    | Tuple xs kk p =>
      have h : chkEs c es xs = true := h
      refine PE.imp (pe_tup (sndEs O es xs h)) fun σ H Q q => ?_
      refine liftA_mono (bindA (W := fun _ ds h' Q => ds.length ≤ 16777216 ∧ Q (.tup ds) h') q) fun vs H1 q => ?_
      obtain ⟨ι, τ, h, ds, Qd, sr, ex, t, ⟨hl, q⟩, k⟩ := q
      exact ⟨by rw [sx F, t.length]; exact hl, fun p hp => k.tup sr.hr hp q t⟩
    | _ => simp [chkE] at h
  | .lst bx es, x, h => by
    cases x with
    | List xs p =>
      have h : chkEs c es xs = true := h
      refine PE.imp (pe_lst (sndEs O es xs h)) fun σ H Q q => ?_
      refine liftA_mono (bindA (W := fun _ ds h' Q => ds.length ≤ 16777216 ∧ mkL bx ds h' Q) q) fun vs H1 q => ?_
      obtain ⟨ι, τ, h, ds, Qd, sr, ex, t, ⟨hl, q⟩, k⟩ := q
      exact ⟨by rw [sx F, t.length]; exact hl, fun p hp => k.mk sr.hr hp q t⟩
    | _ => simp [chkE] at h
  | .bin o a b, x, h => by
    cases x with
    | BinOp x op y p =>
      have h : (opB o op && chkE c a x && chkE c b y) = true := h
      simp only [Bool.and_eq_true] at h
      obtain ⟨⟨h1, h2⟩, h3⟩ := h
      rw [opB_eq h1]
      refine PE.imp (pe_op (op_bin O.hK o) (sndE O a x h2) (sndE O b y h3)) fun σ H Q q => ?_
      exact liftE_mono (bind2 (W := fun _ x y h2 Q => ∃ r, binF h2 o x y = some r ∧ Q r h2) q) fun v H1 q => liftE_mono q fun w H2 q => rD_of q
    | _ => simp [chkE] at h
  | .cat bx a b, x, h => by
    cases x with
    | BinOp x op y p =>
      cases op with
      | Add =>
        have h : (chkE c a x && chkE c b y) = true := h
        rw [Bool.and_eq_true] at h
        refine PE.imp (pe_op (op_catL O.hK bx) (sndE O a x h.1) (sndE O b y h.2)) fun σ H Q q => ?_
        exact liftE_mono (bind2 (W := fun _ x y h2 Q => ∃ xs, binF h2 .add x y = some (.lst xs) ∧ mkL bx xs h2 Q) q) fun v H1 q => liftE_mono q fun w H2 q => rD_of q
      | _ => simp [chkE] at h
    | _ => simp [chkE] at h
  | .rep bx a b, x, h => by
    cases x with
    | BinOp x op y p =>
      cases op with
      | Mult =>
        have h : (chkE c a x && chkE c b y) = true := h
        rw [Bool.and_eq_true] at h
        refine PE.imp (pe_op (op_repD O.hK bx) (sndE O a x h.1) (sndE O b y h.2)) fun σ H Q q => ?_
        exact liftE_mono (bind2 (W := fun _ x y h2 Q => repW bx x y h2 Q) q) fun v H1 q => liftE_mono q fun w H2 q => rD_of q
      | _ => simp [chkE] at h
    | _ => simp [chkE] at h
  | .lens a, x, h => by
    cases x with
    | Call fn args kws pos =>
      cases fn with
      | Name x p =>
        match args, kws, h with
        | [], _, h => simp [chkE] at h
        | _ :: _ :: _, _, h => simp [chkE] at h
        | [y], _ :: _, h => cases y <;> simp [chkE] at h
        | [y], [], h =>
          cases y with
          | Call fn2 args2 kws2 q =>
            cases fn2 with
            | Name y p2 =>
              cases args2 with
              | nil => simp [chkE] at h
              | cons z zs =>
                cases zs with
                | cons _ _ => simp [chkE] at h
                | nil =>
                  cases kws2 with
                  | cons _ _ => simp [chkE] at h
                  | nil =>
                    have h : (bltB c "len" x && bltB c "set" y && chkE c a z) = true := h
                    simp only [Bool.and_eq_true] at h
                    obtain ⟨⟨h1, h2⟩, h3⟩ := h
                    obtain ⟨e, hm, hg, hd, hn⟩ := blt_of O h1
                    subst e
                    obtain ⟨e, hm2, hg2, hd2, hn2⟩ := blt_of O h2
                    subst e
                    exact PE.imp (pe_lens O.hK O.calm hg hm hg2 hm2 (sndE O a z h3) (star_ns (chk_star h3))) fun σ H Q q => q
            | _ => simp [chkE] at h
          | _ => simp [chkE] at h
      | _ => simp [chkE] at h
    | _ => simp [chkE] at h
  | .neg a, x, h => by
    cases x with
    | UnaryOp op y p =>
      cases op with
      | USub =>
        have h : chkE c a y = true := h
        refine PE.imp (pe_un un_neg (sndE O a y h)) fun σ H Q q => ?_
        refine liftE_mono (bind1 (W := fun _ x h1 Q => ∃ i, x = .int i ∧ Q (.int (-i)) h1) q) fun v H1 q => ?_
        obtain ⟨ι, τ, h, d, Qd, sr, ex, rp, ⟨i, rfl, q⟩, k⟩ := q
        exact ⟨i, rp.iv, k.here sr.hr q (.int _)⟩
      | _ => simp [chkE] at h
    | _ => simp [chkE] at h
  | .cmp o a b, x, h => by
    cases x with
    | Compare x ops ys p =>
      match ops, ys, h with
      | [op], [y], h =>
        have h : (cmB o op && chkE c a x && chkE c b y && noset y) = true := h
        simp only [Bool.and_eq_true] at h
        obtain ⟨⟨⟨h1, h2⟩, h3⟩, h4⟩ := h
        rw [cmB_eq h1]
        refine PE.imp (pe_cmpR (op_cmp O.hK O.u64 o) (sndE O a x h2) (sndE O b y h3) (mark_no h4)) fun σ H Q q => ?_
        exact liftE_mono (bind2 (W := fun _ x y h2 Q => ∃ r, cmpF h2 o x y = some r ∧ Q (.bl r) h2) q) fun v H1 q => liftE_mono q fun w H2 q => rD_of q
      | [], _, h => simp [chkE] at h
      | [_], [], h => simp [chkE] at h
      | [_], _ :: _ :: _, h => simp [chkE] at h
      | _ :: _ :: _, _, h => simp [chkE] at h
    | _ => simp [chkE] at h
  | .chain o p a b d, x, h => by
    cases x with
    | Compare x ops ys pos =>
      match ops, ys, h with
      | [op, op'], [y, z], h =>
        have h : (cmB o op && cmB p op' && chkE c a x && chkE c b y && chkE c d z && noset y && noset z) = true := h
        simp only [Bool.and_eq_true] at h
        obtain ⟨⟨⟨⟨⟨⟨h1, h2⟩, h3⟩, h4⟩, h5⟩, h6⟩, h7⟩ := h
        rw [cmB_eq h1, cmB_eq h2]
        exact PE.imp (pe_chain (op_cmp O.hK O.u64 o) (op_cmp O.hK O.u64 p) (sndE O a x h3) (sndE O b y h4) (sndE O d z h5) (mark_no h7)) fun σ H Q q => chain_D q
      | [], _, h => simp [chkE] at h
      | [_], _, h => simp [chkE] at h
      | [_, _], [], h => simp [chkE] at h
      | [_, _], [_], h => simp [chkE] at h
      | [_, _], _ :: _ :: _ :: _, h => simp [chkE] at h
      | _ :: _ :: _ :: _, _, h => simp [chkE] at h
    | _ => simp [chkE] at h
  | .and a b, x, h => by
    cases x with
    | BoolOp op vs pos =>
      cases op with
      | And =>
        match vs, h with
        | [x, y], h =>
          have h : (chkE c a x && chkE c b y) = true := h
          rw [Bool.and_eq_true] at h
          exact PE.imp (pe_and (sndE O a x h.1) (pe_one (sndE O b y h.2))) fun σ H Q q => and_D q
        | x :: y :: z :: r, h =>
          have h : (chkE c a x && chkE c b (.BoolOp .And (y :: z :: r) pos)) = true := h
          rw [Bool.and_eq_true] at h
          exact PE.imp (pe_and (sndE O a x h.1) (sndE O b _ h.2)) fun σ H Q q => and_D q
        | [], h => simp [chkE] at h
        | [_], h => simp [chkE] at h
      | _ => simp [chkE] at h
    | _ => simp [chkE] at h
  | .or a b, x, h => by
    cases x with
    | BoolOp op vs pos =>
      cases op with
      | Or =>
        match vs, h with
        | [x, y], h =>
          have h : (chkE c a x && chkE c b y) = true := h
          rw [Bool.and_eq_true] at h
          exact PE.imp (pe_or (sndE O a x h.1) (pe_one (sndE O b y h.2))) fun σ H Q q => or_D q
        | x :: y :: z :: r, h =>
          have h : (chkE c a x && chkE c b (.BoolOp .Or (y :: z :: r) pos)) = true := h
          rw [Bool.and_eq_true] at h
          exact PE.imp (pe_or (sndE O a x h.1) (sndE O b _ h.2)) fun σ H Q q => or_D q
        | [], h => simp [chkE] at h
        | [_], h => simp [chkE] at h
      | _ => simp [chkE] at h
    | _ => simp [chkE] at h
  | .not a, x, h => by
    cases x with
    | UnaryOp op y p =>
      cases op with
      | Not =>
        have h : chkE c a y = true := h
        refine PE.imp (pe_not (sndE O a y h)) fun σ H Q q => ?_
        refine liftE_mono (bind1 (W := fun _ x h1 Q => ∃ i, x = .bl i ∧ Q (.bl (!i)) h1) q) fun v H1 q => ?_
        obtain ⟨ι, τ, h, d, Qd, sr, ex, rp, ⟨i, rfl, q⟩, k⟩ := q
        exact ⟨i, rp.bv, k.here sr.hr q (.bl _)⟩
      | _ => simp [chkE] at h
    | _ => simp [chkE] at h
  | .ite t a b, x, h => by
    cases x with
    | IfExp t' x y p =>
      have h : (chkE c t t' && chkE c a x && chkE c b y) = true := h
      simp only [Bool.and_eq_true] at h
      obtain ⟨⟨h1, h2⟩, h3⟩ := h
      exact PE.imp (pe_ifExp (sndP O t t' h1) (sndE O a x h2) (sndE O b y h3)) fun σ H Q q => ite_D q
    | _ => simp [chkE] at h
  | .bf f bx es, x, h => by
    cases x with
    | Call fn args kws pos =>
      cases fn with
      | Name x p =>
        match args, kws, h with
        | y :: ys, [], h =>
          have h : (bltB c (bfName f) x && decide (f ≠ .lenset) && decide (f ≠ .list0) && chkEs c es (y :: ys)) = true := h
          simp only [Bool.and_eq_true, decide_eq_true_eq] at h
          obtain ⟨⟨⟨h1, h2⟩, h3⟩, h4⟩ := h
          obtain ⟨e, hm, hg, hd, hn⟩ := blt_of O h1
          have hb := boot_bf f h2 h3
          rw [← e] at hb
          have cr := call_bf (X := X) (F := F) O.hK O.calm O.u70 O.rm.guards f bx h2 h3
          have pa := sndEs O es (y :: ys) h4
          have s0 : ∀ v p, y ≠ .Starred v p := by
            cases es with
            | nil => simp [chkEs] at h4
            | cons e1 es1 =>
              have h4 : (chkE c e1 y && chkEs c es1 ys) = true := h4
              rw [Bool.and_eq_true] at h4
              exact chk_star h4.1
          have s1 : (backTo pos (starEach ys X.env)).any (·.1) = false := by
            cases es with
            | nil => simp [chkEs] at h4
            | cons e1 es1 =>
              have h4 : (chkE c e1 y && chkEs c es1 ys) = true := h4
              rw [Bool.and_eq_true] at h4
              exact chks_plain h4.2
          have fin : ∀ σ H Q, liftE F (wpE Φ NX (.bf f bx es)) σ H Q → tCB (rDs F (bfW f bx)) (liftA F (wpEs Φ NX es)) σ H Q := fun σ H Q q =>
            liftA_mono (bindA (W := fun _ ds h1 Q => bfW f bx ds h1 Q) q) fun vs H1 ⟨ι, τ, h, xs, Qd, sr, ex, t, w, k⟩ => ⟨ι, h, xs, Qd, sr.hr, t, w, k⟩
          cases hv : bfVal f with
          | builtin id =>
            rw [hv] at cr hb
            exact PE.imp (pe_callB cr hg hm hb pa hn hd (star_ns s0) s1) fin
          | type T =>
            rw [hv] at cr hb
            exact PE.imp (pe_callTy cr hg hm hb pa hn hd (star_ns s0) s1) fin
          | _ => cases f <;> first | exact absurd rfl h2 | exact absurd rfl h3 | (simp [bfVal] at hv; done)
        | [], _, h => simp [chkE] at h
        | _ :: _, _ :: _, h => simp [chkE] at h
      | _ => simp [chkE] at h
    | _ => simp [chkE] at h
  | .isi a ts, x, h => by
    cases x with
    | Call fn args kws pos =>
      cases fn with
      | Name x p =>
        match args, kws, h with
        | [y, u], [], h =>
          have h : (bltB c "isinstance" x && chkE c a y && tyAB c ts u) = true := h
          simp only [Bool.and_eq_true] at h
          obtain ⟨⟨h1, h2⟩, h3⟩ := h
          obtain ⟨e, hm, hg, hd, hn⟩ := blt_of O h1
          subst e
          cases u with
          | Name z zp =>
            match ts, h3 with
            | [t1], h3 =>
              obtain ⟨ta, p2, hq⟩ := tys_pa O [t1] [.Name z zp] h3
              refine PE.imp (pe_callB call_isi hg hm (by decide +kernel) (pa_cons (sndE O a y h2) p2 (star_ns (chk_star h2))) hn hd (star_ns (chk_star h2)) rfl) fun σ H Q q => ?_
              refine liftE_mono (bind1 (W := fun _ x h1 Q => ∃ t, tyOf h1 x = some t ∧ Q (.bl ([t1].any (isTy t))) h1) q) fun v H1 q => ?_
              obtain ⟨ι, τ, h, d, Qd, sr, ex, rp, ⟨t, ht, q⟩, k⟩ := q
              refine hq _ _ _ ⟨v, .ty (tyStr t1), .type (tyStr t), .type (tyStr t1), isTy t t1, rfl, .ty _, by rw [← O.hK]; exact ty_rel sr.hr rp ht, isTy_kit t t1, ?_⟩
              rw [show ([t1].any (isTy t)) = isTy t t1 by simp] at q
              exact k.here sr.hr q (.bl _)
            | [], h3 => simp [tyAB, tysB] at h3
            | _ :: _ :: _, h3 => simp [tyAB, tysB] at h3
          | Tuple us kk up =>
            have h3 : (tysB c ts us && decide (us.length ≤ 10)) = true := h3
            rw [Bool.and_eq_true, decide_eq_true_eq] at h3
            obtain ⟨ta, p2, hq⟩ := tys_pa O ts us h3.1
            refine PE.imp (pe_callB call_isiT hg hm (by decide +kernel) (pa_cons (sndE O a y h2) (pa_cons (pe_tup p2) pa_nil rfl) (star_ns (chk_star h2))) hn hd (star_ns (chk_star h2)) rfl) fun σ H Q q => ?_
            refine liftE_mono (bind1 (W := fun _ x h1 Q => ∃ t, tyOf h1 x = some t ∧ Q (.bl (ts.any (isTy t))) h1) q) fun v H1 q => ?_
            obtain ⟨ι, τ, h, d, Qd, sr, ex, rp, ⟨t, ht, q⟩, k⟩ := q
            refine hq _ _ _ ⟨?_, fun p hp => ?_⟩
            · rw [sx F, List.length_map]
              have := tysB_length h3.1
              omega
            · have ty := ty_rel (sr.hr.upd_new hp (.tup (ts.map fun t => .ty (tyStr t)))) (rp.mono sr.hr (.upd_new hp _)) ht
              rw [O.hK] at ty
              refine ⟨v, p, ts.map fun t => .ty (tyStr t), .type (tyStr t), ts.map fun t => .type (tyStr t), ts.any (isTy t), rfl, upd_same, tys_cls ts, ty, isTys_kit t ts, ?_⟩
              exact k.new sr.hr hp q fun _ _ => .bl _
          | _ => simp [tyAB] at h3
        | [], _, h => simp [chkE] at h
        | [_], _, h => simp [chkE] at h
        | [_, _], _ :: _, h => simp [chkE] at h
        | _ :: _ :: _ :: _, _, h => simp [chkE] at h
      | _ => simp [chkE] at h
    | _ => simp [chkE] at h
  | .call f es, x, h => by
    cases x with
    | Call fn args kws pos =>
      cases fn with
      | Name x p =>
        match args, kws, h with
        | y :: ys, [], h =>
          have h : (decide (x = Str.ofString f) && c.F.contains f && glB c.sc x && nodbg x && chkEs c es (y :: ys)) = true := h
          simp only [Bool.and_eq_true, decide_eq_true_eq] at h
          obtain ⟨⟨⟨⟨h1, h2⟩, h3⟩, h5⟩, h4⟩ := h
          obtain ⟨d1, d2, d3⟩ := dbg_of h5
          obtain ⟨a, fd, ps, j, hj, hm, hk, hb, G0⟩ := O.fns f h2
          have G := G0.mono (Nat.le_of_lt hj)
          have pa := sndEs O es (y :: ys) h4
          have s0 : ∀ v p, y ≠ .Starred v p := by
            cases es with
            | nil => simp [chkEs] at h4
            | cons e1 es1 =>
              have h4 : (chkE c e1 y && chkEs c es1 ys) = true := h4
              rw [Bool.and_eq_true] at h4
              exact chk_star h4.1
          have s1 : (backTo pos (starEach ys X.env)).any (·.1) = false := by
            cases es with
            | nil => simp [chkEs] at h4
            | cons e1 es1 =>
              have h4 : (chkE c e1 y && chkEs c es1 ys) = true := h4
              rw [Bool.and_eq_true] at h4
              exact chks_plain h4.2
          refine PE.imp (pe_callG G O.rm (gl_of O h3) (by rw [h1]; exact hm) hk hb d1 pa (star_ns s0) s1) fun σ H Q q => ?_
          refine liftA_mono (bindA (W := fun _ ds h1 Q => Φ.fn f ds h1 Q NX) q) fun vs H1 ⟨ι, τ, h, xs, Qd, sr, ex, t, w, k⟩ => ?_
          rw [← O.hK]
          exact ⟨ι, xs, h, Qd, sr.hr, t, w, k⟩
        | [], _, h => simp [chkE] at h
        | _ :: _, _ :: _, h => simp [chkE] at h
      | _ => simp [chkE] at h
    | _ => simp [chkE] at h
  | .meth m o es, x, h => by
    cases x with
    | Call fn args kws pos =>
      cases fn with
      | Attribute x n ap =>
        match args, kws, h with
        | y :: ys, [], h =>
          have h : (decide (n = Str.ofString (mfName m)) && chkE c o x && chkEs c es (y :: ys) && (ap.endLine == pos.line) && decide (ys.length ≤ 3)) = true := h
          simp only [Bool.and_eq_true, decide_eq_true_eq] at h
          obtain ⟨⟨⟨⟨h1, h2⟩, h4⟩, h5⟩, h6⟩ := h
          subst h1
          have pa := sndEs O es (y :: ys) h4
          have po := sndE O o x h2
          exact meth_D O m po pa h4 h2 h5 h6
        | [], _, h => simp [chkE] at h
        | _ :: _, _ :: _, h => simp [chkE] at h
      | _ => simp [chkE] at h
    | _ => simp [chkE] at h
  | .idx a i, x, h => by
    cases x with
    | Subscript x s p =>
      have h : (chkE c a x && chkE c i s) = true := h
      rw [Bool.and_eq_true] at h
      have ns := chk_slice h.2
      refine PE.imp (pe_ix (ix_DD O.hK) (sndE O a x h.1) (sndE O i s h.2) (by
        intro o' i'
        cases s <;> first | rfl | exact absurd rfl (ns _ _ _ _))) fun σ H Q q => ?_
      exact liftE_mono (bind2 (W := fun _ x y h2 Q => ∃ r, idxF h2 x y = some r ∧ Q r h2) q) fun v H1 q => liftE_mono q fun w H2 q => rD_of q
    | _ => simp [chkE] at h
  | .sli bx a lo hi, x, h => by
    cases x with
    | Subscript x s pos =>
      cases s with
      | Slice l u st p2 =>
        cases st with
        | none =>
          simp only [chkE, Bool.and_eq_true] at h
          obtain ⟨⟨h1, h2⟩, h3⟩ := h
          have pl : PO X l (liftOp F (isNonE lo) (wpE Φ NX lo)) := by
            cases l with
            | none =>
              have e : isNonE lo = true := h2
              rw [e]; exact po_noneD
            | some y =>
              have h2 : (!isNonE lo && chkE c lo y) = true := h2
              rw [Bool.and_eq_true, Bool.not_eq_true'] at h2
              rw [h2.1]; exact po_someD (sndE O lo y h2.2)
          have pu : PO X u (liftOp F (isNonE hi) (wpE Φ NX hi)) := by
            cases u with
            | none =>
              have e : isNonE hi = true := h3
              rw [e]; exact po_noneD
            | some y =>
              have h3 : (!isNonE hi && chkE c hi y) = true := h3
              rw [Bool.and_eq_true, Bool.not_eq_true'] at h3
              rw [h3.1]; exact po_someD (sndE O hi y h3.2)
          exact PE.imp (pe_slice (sl_D O.hK bx) (sndE O a x h1) pl pu) fun σ H Q q => sli_D q
        | some _ => simp [chkE] at h
      | _ => simp [chkE] at h
    | _ => simp [chkE] at h
  | .rev bx a, x, h => by
    cases x with
    | Subscript x s pos =>
      have h : (revB s && chkE c a x) = true := h
      rw [Bool.and_eq_true] at h
      obtain ⟨k, q1, q2, q3, rfl⟩ := revB_is h.1
      refine PE.imp (pe_revD O.hK bx (sndE O a x h.2)) fun σ H Q q => ?_
      refine liftE_mono (bind1 (W := fun _ x h1 Q => revF h1 bx x Q) q) fun v H1 q => ?_
      obtain ⟨ι, τ, h, d, Qd, sr, ex, rp, q, k⟩ := q
      exact ⟨ι, h, d, Qd, sr.hr, rp, q, k⟩
    | _ => simp [chkE] at h
  | .comp bx own tg w t elt, x, h => by
    cases x with
    | ListComp e gs scope pos =>
      match gs, h with
      | [⟨tt, iter, ifs, n⟩], h =>
        have h : (decide (n = 0) && blkC c.N c.sc scope (own.map fun i => (c.N.getD i ⟨#[]⟩, i)) && chkW c tt w iter && chkT (c.blk scope) tg tt && tg.slots.all (fun i => own.contains i) && chkE (c.blk scope) elt e && noset iter && chkEs (c.blk scope) t ifs && decide (ifs.length ≤ 1)) = true := h
        simp only [Bool.and_eq_true, decide_eq_true_eq] at h
        obtain ⟨⟨⟨⟨⟨⟨⟨⟨h1, h2⟩, h3⟩, h4⟩, h5⟩, h7⟩, h8⟩, h6⟩, h9⟩ := h
        subst h1
        have eo : (own.map fun i => (c.N.getD i ⟨#[]⟩, i)).map (·.2) = own := by rw [List.map_map]; exact List.map_id own
        have pw : PI X tt iter (liftI F (wpIt Φ NX w)) := sndW O w tt iter h3
        have key : ∀ (tt' : TT) (_ : ∀ (s : Shared) (H : Hp) (C : Addr) (cl : List (Str × Addr)) (fp : List Addr), PTs (X.blk s H scope (compEnvC scope cl C X.env) fp) ifs (liftT F (wpCs Φ NX t))),
            PE X (.ListComp e [⟨tt, iter, ifs, 0⟩] scope pos) (liftE F (wpE Φ NX (.comp bx own tg w t elt))) := fun _ ht => by
          refine PE.imp (pe_lc (own := own.map fun i => (c.N.getD i ⟨#[]⟩, i)) O.calm (by rw [O.hN]; exact O.nd) pw (by rw [O.hN, O.hsc]; exact blkOk_by h2)
            (fun s H C cl fp => sndT (O.blk s H scope C cl fp) tg tt h4) ht (fun s H C cl fp => sndE (O.blk s H scope C cl fp) elt e h7) (fold_no h8)) fun σ H Q q => ?_
          rw [eo]
          exact lc_D (fun i hi => by
            have := List.all_eq_true.mp h5 i hi
            simpa using this) q
        exact key (fun _ _ _ => True) fun s H C cl fp => sndC (O.blk s H scope C cl fp) t ifs h6 h9
      | [], h => simp [chkE] at h
      | _ :: _ :: _, h => simp [chkE] at h
    | _ => simp [chkE] at h
  | .srt bx a g, x, h => by
    cases x with
    | Call fn args kws pos =>
      cases fn with
      | Name x p =>
        match args, h with
        | [y], h =>
          have h : (bltB c "sorted" x && chkE c a y && keyB c g kws) = true := h
          simp only [Bool.and_eq_true] at h
          obtain ⟨⟨h1, h2⟩, h3⟩ := h
          obtain ⟨e, hm, hg, hd, hn⟩ := blt_of O h1
          obtain ⟨z, zp, kp, rfl, hz, h4, h5, h6⟩ := keyB_is h3
          obtain ⟨d1, d2, d3⟩ := dbg_of h6
          obtain ⟨b, fd, ps, j, hj, hmb, hk, hb, G⟩ := O.fns g h4
          have hv : bootBuiltins x = some (.builtin "sorted") := by rw [e]; decide +kernel
          have pk : PE X (.Name z zp) (tC (.ref b)) := pe_glob (gl_of O h5) (by rw [hz]; exact hmb) (show RelV (V.ref b) (Value.ref b) from rfl) d1
          refine PE.imp (pe_callBK (cr_srt (F := F) O.hK O.calm O.rm hj bx hb G) hg hm hv (pa_cons (sndE O a y h2) pa_nil (star_ns (chk_star h2))) (pk_cons (kpos := kp) (nm := some (Str.ofString "key")) pk pk_nil) hn hd (by rw [star_ns (chk_star h2)]; rfl) (by rw [star_ns (chk_star h2)]; rfl) rfl rfl rfl) fun σ H Q q => ?_
          refine liftE_mono (bind1 (W := fun _ x h1 Q => ∃ xs kf, seqOf h1 x = some xs ∧ srtOk (Φ.fn g) xs kf ∧ mkL bx (sortK xs kf) h1 Q) q) fun v H1 q => ?_
          obtain ⟨ι, τ, h, d, Qd, sr, ex, rp, q, k⟩ := q
          exact ⟨rfl, v, rfl, ι, h, d, Qd, sr.hr, rp, q, k⟩
        | [], h => simp [chkE] at h
        | _ :: _ :: _, h => simp [chkE] at h
      | _ => simp [chkE] at h
    | _ => simp [chkE] at h
theorem sndC {X : Cx} {c : SC} (O : Ok X c F Φ k) : ∀ (es : Es) (xs : List Expr), chkEs c es xs = true → xs.length ≤ 1 → PTs X xs (liftT F (wpCs Φ NX es))
  | .nil, xs, h, _ => by
    cases xs with
    | nil =>
      refine ⟨fun pins s σ H Q I q => pts_nil.run pins s σ H Q I ?_⟩
      obtain ⟨ι, τ, h, Qd, sr, ex, q, k⟩ := q
      obtain ⟨b, e, q⟩ := k _ _ _ _ q .refl sr.hr
      cases e
      exact q
    | cons _ _ => simp [chkEs] at h
  | .cons e es, xs, h, hl => by
    cases xs with
    | nil => simp [chkEs] at h
    | cons x xs =>
      have h : (chkE c e x && chkEs c es xs) = true := h
      rw [Bool.and_eq_true] at h
      cases xs with
      | nil => exact pts_one (sndP O e x h.1)
      | cons _ _ => simp at hl
theorem sndP {X : Cx} {c : SC} (O : Ok X c F Φ k) : ∀ (e : E) (x : Expr), chkE c e x = true → PT X x (liftT F (wpE Φ NX e))
  | .cmp o a b, x, h => by
    cases x with
    | Compare x ops ys p =>
      match ops, ys, h with
      | [op], [y], h =>
        have h : (cmB o op && chkE c a x && chkE c b y && noset y) = true := h
        simp only [Bool.and_eq_true] at h
        obtain ⟨⟨⟨h1, h2⟩, h3⟩, h4⟩ := h
        rw [cmB_eq h1]
        refine PT.imp (pt_cmpR (op_cmp O.hK O.u64 o) (sndE O a x h2) (sndE O b y h3) (mark_no h4)) fun σ H Q q => ?_
        exact liftE_mono (bind2 (W := fun _ x y h2 Q => ∃ r, cmpF h2 o x y = some r ∧ Q (.bl r) h2) (liftT_val q)) fun v H1 q => liftE_mono q fun w H2 q => rD_of q
      | [], _, h => simp [chkE] at h
      | [_], [], h => simp [chkE] at h
      | [_], _ :: _ :: _, h => simp [chkE] at h
      | _ :: _ :: _, _, h => simp [chkE] at h
    | _ => simp [chkE] at h
  | .chain o p a b d, x, h => by
    cases x with
    | Compare x ops ys pos =>
      match ops, ys, h with
      | [op, op'], [y, z], h =>
        have h : (cmB o op && cmB p op' && chkE c a x && chkE c b y && chkE c d z && noset y && noset z) = true := h
        simp only [Bool.and_eq_true] at h
        obtain ⟨⟨⟨⟨⟨⟨h1, h2⟩, h3⟩, h4⟩, h5⟩, h6⟩, h7⟩ := h
        rw [cmB_eq h1, cmB_eq h2]
        exact PT.imp (pt_chain (op_cmp O.hK O.u64 o) (op_cmp O.hK O.u64 p) (sndE O a x h3) (sndE O b y h4) (sndE O d z h5) (mark_no h7)) fun σ H Q q => chain_D (liftT_val q)
      | [], _, h => simp [chkE] at h
      | [_], _, h => simp [chkE] at h
      | [_, _], [], h => simp [chkE] at h
      | [_, _], [_], h => simp [chkE] at h
      | [_, _], _ :: _ :: _ :: _, h => simp [chkE] at h
      | _ :: _ :: _ :: _, _, h => simp [chkE] at h
    | _ => simp [chkE] at h
  | .and a b, x, h => by
    cases x with
    | BoolOp op vs pos =>
      cases op with
      | And =>
        match vs, h with
        | [x, y], h =>
          have h : (chkE c a x && chkE c b y) = true := h
          rw [Bool.and_eq_true] at h
          exact PT.imp (PW.pt (pw_and (sndP O a x h.1) (pw_and1 (sndP O b y h.2)))) fun σ H Q q => and_T q
        | x :: y :: z :: r, h =>
          have h : (chkE c a x && chkE c b (.BoolOp .And (y :: z :: r) pos)) = true := h
          rw [Bool.and_eq_true] at h
          exact PT.imp (PW.pt (pw_and (sndP O a x h.1) (pw_bool (sndP O b _ h.2)))) fun σ H Q q => and_T q
        | [], h => simp [chkE] at h
        | [_], h => simp [chkE] at h
      | _ => simp [chkE] at h
    | _ => simp [chkE] at h
  | .or a b, x, h => by
    cases x with
    | BoolOp op vs pos =>
      cases op with
      | Or =>
        match vs, h with
        | [x, y], h =>
          have h : (chkE c a x && chkE c b y) = true := h
          rw [Bool.and_eq_true] at h
          exact PT.imp (PW.pt (pw_or (sndP O a x h.1) (pw_or1 (sndP O b y h.2)))) fun σ H Q q => or_T q
        | x :: y :: z :: r, h =>
          have h : (chkE c a x && chkE c b (.BoolOp .Or (y :: z :: r) pos)) = true := h
          rw [Bool.and_eq_true] at h
          exact PT.imp (PW.pt (pw_or (sndP O a x h.1) (pw_bool (sndP O b _ h.2)))) fun σ H Q q => or_T q
        | [], h => simp [chkE] at h
        | [_], h => simp [chkE] at h
      | _ => simp [chkE] at h
    | _ => simp [chkE] at h
  | .not a, x, h => by
    cases x with
    | UnaryOp op y p =>
      cases op with
      | Not =>
        have h : chkE c a y = true := h
        refine PT.imp (pt_not (sndP O a y h)) fun σ H Q q => ?_
        obtain ⟨ι, τ, h, Qd, sr, ex, q, k⟩ := q
        refine ⟨ι, τ, h, _, sr, ex, q, fun d h' H' ι' ⟨i, e1, q⟩ e hr => ⟨i, e1, ?_⟩⟩
        obtain ⟨b, e2, q⟩ := k _ _ _ _ q e hr
        cases e2
        exact q
      | _ => simp [chkE] at h
    | _ => simp [chkE] at h
  | .ite t a b, x, h => by
    cases x with
    | IfExp t' x y p =>
      have h : (chkE c t t' && chkE c a x && chkE c b y) = true := h
      simp only [Bool.and_eq_true] at h
      obtain ⟨⟨h1, h2⟩, h3⟩ := h
      refine ⟨fun pins s σ H Q I q => isTrue_IfExp (thn ((sndP O t t' h1).run pins s σ H _ I (ite_T q)) fun d s1 ⟨H1, I1, q1⟩ => ?_)⟩
      cases d with
      | true => exact (sndP O a x h2).run pins s1 σ H1 Q I1 q1
      | false => exact (sndP O b y h3).run pins s1 σ H1 Q I1 q1
    | _ => simp [chkE] at h
  | .var i, x, h => tB_of (sndE O _ x h) (by cases x <;> first | (intro _; rfl) | (simp [chkE] at h))
  | .glob i, x, h => tB_of (sndE O _ x h) (by cases x <;> first | (intro _; rfl) | (simp [chkE] at h))
  | .non, x, h => tB_of (sndE O _ x h) (by cases x <;> first | (intro _; rfl) | (simp [chkE] at h))
  | .bl i, x, h => tB_of (sndE O _ x h) (by cases x <;> first | (intro _; rfl) | (simp [chkE] at h))
  | .int i, x, h => tB_of (sndE O _ x h) (by cases x <;> first | (intro _; rfl) | (simp [chkE] at h))
  | .str i, x, h => tB_of (sndE O _ x h) (by cases x <;> first | (intro _; rfl) | (simp [chkE] at h))
  | .tup i, x, h => tB_of (sndE O _ x h) (by cases x <;> first | (intro _; rfl) | (simp [chkE] at h))
  | .lst _ i, x, h => tB_of (sndE O _ x h) (by cases x <;> first | (intro _; rfl) | (simp [chkE] at h))
  | .bin _ _ _, x, h => tB_of (sndE O _ x h) (by cases x <;> first | (intro _; rfl) | (simp [chkE] at h))
  | .cat _ _ _, x, h => tB_of (sndE O _ x h) (by cases x <;> first | (intro _; rfl) | (simp [chkE] at h))
  | .neg a, x, h => tB_of (sndE O _ x h) (by
      cases x with
      | UnaryOp op y p => cases op <;> first | (intro _; rfl) | (simp [chkE] at h)
      | _ => simp [chkE] at h)
  | .bf _ _ _, x, h => tB_of (sndE O _ x h) (by cases x <;> first | (intro _; rfl) | (simp [chkE] at h))
  | .isi _ _, x, h => tB_of (sndE O _ x h) (by cases x <;> first | (intro _; rfl) | (simp [chkE] at h))
  | .call _ _, x, h => tB_of (sndE O _ x h) (by cases x <;> first | (intro _; rfl) | (simp [chkE] at h))
  | .meth _ _ _, x, h => tB_of (sndE O _ x h) (by cases x <;> first | (intro _; rfl) | (simp [chkE] at h))
  | .idx _ _, x, h => tB_of (sndE O _ x h) (by cases x <;> first | (intro _; rfl) | (simp [chkE] at h))
  | .sli _ _ _ _, x, h => tB_of (sndE O _ x h) (by cases x <;> first | (intro _; rfl) | (simp [chkE] at h))
  | .rev _ _, x, h => tB_of (sndE O _ x h) (by cases x <;> first | (intro _; rfl) | (simp [chkE] at h))
  | .comp _ _ _ _ _ _, x, h => tB_of (sndE O _ x h) (by cases x <;> first | (intro _; rfl) | (simp [chkE] at h))
  | .rep _ _ _, x, h => tB_of (sndE O _ x h) (by cases x <;> first | (intro _; rfl) | (simp [chkE] at h))
  | .lens _, x, h => tB_of (sndE O _ x h) (by cases x <;> first | (intro _; rfl) | (simp [chkE] at h))
  | .srt _ _ _, x, h => tB_of (sndE O _ x h) (by cases x <;> first | (intro _; rfl) | (simp [chkE] at h))
theorem sndW {X : Cx} {c : SC} (O : Ok X c F Φ k) : ∀ (w : Wk) (tg iter : Expr), chkW c tg w iter = true → PI X tg iter (liftI F (wpIt Φ NX w))
  | .seq e, tg, x, h => by
    have h : chkE c e x = true := by cases tg <;> exact h
    exact PI.imp (pi_any (PE.facts (sndE O e x h))) fun σ H R q => seq_D O.hK q
  | .rng1 hi, tg, x, h => by
    cases x with
    | Call fn args kws pos =>
      cases fn with
      | Name x p =>
        match args, kws, h with
        | [y], [], h =>
          have h : (bltB c "range" x && chkE c hi y) = true := by cases tg <;> exact h
          rw [Bool.and_eq_true] at h
          obtain ⟨e, hm, hg, hd, hn⟩ := blt_of O h.1
          subst e
          exact PI.imp (pi_range1 hg hm (pa_cons (sndE O hi y h.2) pa_nil (star_ns (chk_star h.2))) (star_ns (chk_star h.2))) fun σ H R q => rng1_D q
        | [], _, h => cases tg <;> simp [chkW] at h
        | [_], _ :: _, h => cases tg <;> simp [chkW] at h
        | _ :: _ :: _, _, h => cases tg <;> simp [chkW] at h
      | _ => cases tg <;> simp [chkW] at h
    | _ => cases tg <;> simp [chkW] at h
  | .rng lo hi, tg, x, h => by
    cases x with
    | Call fn args kws pos =>
      cases fn with
      | Name x p =>
        match args, kws, h with
        | [y, z], [], h =>
          have h : (bltB c "range" x && chkE c lo y && chkE c hi z) = true := by cases tg <;> exact h
          simp only [Bool.and_eq_true] at h
          obtain ⟨⟨h1, h2⟩, h3⟩ := h
          obtain ⟨e, hm, hg, hd, hn⟩ := blt_of O h1
          subst e
          exact PI.imp (pi_range2 hg hm (pa_cons (sndE O lo y h2) (pa_cons (sndE O hi z h3) pa_nil (star_ns (chk_star h3))) (star_ns (chk_star h2))) (by rw [star_ns (chk_star h2), star_ns (chk_star h3)]; rfl) (star_ns (chk_star h3))) fun σ H R q => rng_D q
        | [], _, h => cases tg <;> simp [chkW] at h
        | [_], _, h => cases tg <;> simp [chkW] at h
        | [_, _], _ :: _, h => cases tg <;> simp [chkW] at h
        | _ :: _ :: _ :: _, _, h => cases tg <;> simp [chkW] at h
      | _ => cases tg <;> simp [chkW] at h
    | _ => cases tg <;> simp [chkW] at h
  | .enum e, tg, x, h => by
    cases tg with
    | Tuple ts kk tp =>
      cases x with
      | Call fn args kws pos =>
        cases fn with
        | Name x p =>
          match args, kws, h with
          | [y], [], h =>
            have h : (bltB c "enumerate" x && chkE c e y) = true := h
            rw [Bool.and_eq_true] at h
            obtain ⟨e', hm, hg, hd, hn⟩ := blt_of O h.1
            subst e'
            exact PI.imp (pi_enumA hg hm (PA.facts (pa_cons (sndE O e y h.2) pa_nil (star_ns (chk_star h.2)))) (star_ns (chk_star h.2))) fun σ H R q => enum_D O.hK q
          | [], _, h => simp [chkW] at h
          | [_], _ :: _, h => simp [chkW] at h
          | _ :: _ :: _, _, h => simp [chkW] at h
        | _ => simp [chkW] at h
      | _ => simp [chkW] at h
    | _ => simp [chkW] at h
  | .zip a b, tg, x, h => by
    cases tg with
    | Tuple ts kk tp =>
      cases x with
      | Call fn args kws pos =>
        cases fn with
        | Name x p =>
          match args, kws, h with
          | [y, z], [], h =>
            have h : (bltB c "zip" x && chkE c a y && chkE c b z) = true := h
            simp only [Bool.and_eq_true] at h
            obtain ⟨⟨h1, h2⟩, h3⟩ := h
            obtain ⟨e', hm, hg, hd, hn⟩ := blt_of O h1
            subst e'
            exact PI.imp (RZ.pi_zipA hg hm (PA.facts (pa_cons (sndE O a y h2) (pa_cons (sndE O b z h3) pa_nil (star_ns (chk_star h3))) (star_ns (chk_star h2)))) (star_ns (chk_star h2)) (by rw [star_ns (chk_star h3)]; rfl)) fun σ H R q => zip_D O.hK q
          | [], _, h => simp [chkW] at h
          | [_], _, h => simp [chkW] at h
          | [_, _], _ :: _, h => simp [chkW] at h
          | _ :: _ :: _ :: _, _, h => simp [chkW] at h
        | _ => simp [chkW] at h
      | _ => simp [chkW] at h
    | _ => simp [chkW] at h
theorem sndEs {X : Cx} {c : SC} (O : Ok X c F Φ k) : ∀ (es : Es) (xs : List Expr), chkEs c es xs = true → PA X xs (liftA F (wpEs Φ NX es))
  | .nil, xs, h => by
    cases xs with
    | nil =>
      refine PA.imp pa_nil fun σ H Q q => ?_
      obtain ⟨ι, τ, h, Qd, sr, ex, q, k⟩ := q
      exact k _ _ _ _ _ q .refl sr.hr .nil
    | cons _ _ => simp [chkEs] at h
  | .cons e es, xs, h => by
    cases xs with
    | nil => simp [chkEs] at h
    | cons x xs =>
      have h : (chkE c e x && chkEs c es xs) = true := h
      rw [Bool.and_eq_true] at h
      refine PA.imp (pa_cons (sndE O e x h.1) (sndEs O es xs h.2) (star_ns (chk_star h.1))) fun σ H Q q => ?_
      obtain ⟨ι, τ, h, Qd, sr, ex, q, k⟩ := q
      refine ⟨ι, τ, h, _, sr, ex, q, fun d h1 v H1 ι1 q e1 hr1 r1 => ?_⟩
      refine ⟨ι1, τ, h1, _, sr.mono e1 hr1, ex.trans sr.hr e1, q, fun ds h2 vs H2 ι2 q e2 hr2 r2 => ?_⟩
      exact k _ _ _ _ _ q (e1.trans hr1 e2) hr2 (.cons (r1.mono hr1 e2) r2)
end
end
end Pf

namespace Pf
open PySem PySem.Spec PyProof.Rows L2

section
variable {X : Cx} {c : SC} {F : Ent} {Φ : Fs} {k : Nat}
theorem swaps_no {x : Expr} {o : Option Expr} {l : Nat} {env : Env} (h : plainV x = true) : swapsWith x o l env = pure false := by
  cases x <;> first | rfl | cases h
section
variable {ι ι' : Ix} {H H' : Hp} {h h' : DH}
theorem Nx.mv {P : DS → DH → Prop} {Pd : L2.St → Hp → Prop} (n : Nx F ι H P Pd) (hr : HR F.K ι' H' h') (e : Ext ι H ι' H') : Nx F ι' H' P Pd := fun τ2 h2 σ2 H2 ι2 q e2 r2 => n _ _ _ _ _ q (e.trans hr e2) r2
theorem Rt.mv {P : DQ} {Pd : VK} (n : Rt F ι H P Pd) (hr : HR F.K ι' H' h') (e : Ext ι H ι' H') : Rt F ι' H' P Pd := fun d h2 v H2 ι2 q e2 r2 rp => n _ _ _ _ _ q (e.trans hr e2) r2 rp
end
theorem asg_D {te : DS → DH → DQ → Prop} {is : List Nat} {g : D → DS → DH → (DS → DH → Prop) → Prop} {D0 : Ends} {σ : L2.St} {H : Hp}
    (q : liftS F (fun K τ h => te τ h fun x h1 => g x τ h1 K.nx) D0 σ H) : tAsg (liftE F te) (liftG F is g) D0 σ H := by
  obtain ⟨ι, τ, h, K, sr, ex, q, n1, n2, n3, n4⟩ := q
  refine ⟨ι, τ, h, _, sr, ex, q, fun d h1 v H1 ι1 q e1 hr1 r1 => ?_⟩
  exact ⟨ι1, τ, h1, d, K.nx, sr.mono e1 hr1, ex.trans sr.hr e1, r1, q, fun τ' h' σ' H' ι' q e sr' _ => n1 _ _ _ _ _ q (e1.trans hr1 e) sr'⟩
theorem for_D {wi : DS → DH → (List D → (DH → Prop) → DH → Prop) → Prop} {is : List Nat} {g : D → DS → DH → (DS → DH → Prop) → Prop} {tb : DE → DS → DH → Prop} {D0 : Ends} {σ : L2.St} {H : Hp}
    (q : liftS F (fun K τ h => wi τ h fun items st h1 => forL (fun x K' σ' h' => g x σ' h' fun σ2 h2 => tb K' σ2 h2) st items K τ h1) D0 σ H) :
    tFor (liftI F wi) (liftG F is g) (liftS F tb) D0 σ H := by
  obtain ⟨ι, τ, h, K, sr, ex, q, n1, n2, n3, n4⟩ := q
  refine ⟨ι, τ, h, _, sr, ex, q, fun items st h1 H1 ι1 J q e1 hr1 hlen jr => ?_⟩
  have exF : Ext F.ι F.H ι1 H1 := ex.trans sr.hr e1
  refine ⟨fun i m σ Hc => m = items.length - i ∧ i ≤ items.length ∧ ∃ ι' τ' hc, SR F.K ι' Hc hc σ τ' ∧ Ext ι1 H1 ι' Hc ∧ forL (fun x K' σ' h' => g x σ' h' fun σ2 h2 => tb K' σ2 h2) st (items.drop i) K τ' hc,
    ⟨items.length, rfl, Nat.zero_le _, ι1, τ, h1, sr.mono e1 hr1, .refl, q⟩, ?_⟩
  rintro i m σ' Hc ⟨rfl, hi, ι', τ', hc, src, exc, w⟩
  by_cases hlt : i < items.length
  · have hdrop : items.drop i = items[i] :: items.drop (i + 1) := List.drop_eq_getElem_cons hlt
    rw [hdrop] at w
    obtain ⟨hst, w⟩ := w
    obtain ⟨j1, j2, j3⟩ := jr i ι' hc Hc src.hr exc hst
    refine .inr ⟨j1 hlt, fun σ2 H2 => ∃ ι' τ' hc, SR F.K ι' H2 hc σ2 τ' ∧ Ext ι1 H1 ι' H2 ∧ forL (fun x K' σ' h' => g x σ' h' fun σ2 h2 => tb K' σ2 h2) st (items.drop (i + 1)) K τ' hc, fun σ2 H2 q => ⟨items.length - (i + 1), by omega, rfl, hlt, q⟩, fun x H' hy => ?_⟩
    obtain ⟨d, hd, e2, hr2, rx⟩ := j2 x H' hlt hy
    have hde : d = items[i] := by rw [List.getElem?_eq_getElem hlt] at hd; exact (Option.some.inj hd).symm
    subst hde
    have ex2 := exc.trans src.hr e2
    refine ⟨ι', τ', hc, _, _, src.mono e2 hr2, exF.trans hr1 ex2, rx, w, fun τ3 h3 σ3 H3 ι3 q3 e3 sr3 _ => ?_⟩
    have ex3 := ex2.trans hr2 e3
    have back : Nx F ι3 H3 (forL (fun x K' σ' h' => g x σ' h' fun σ2 h2 => tb K' σ2 h2) st (items.drop (i + 1)) K) (fun σ2 H2 => ∃ ι' τ' hc, SR F.K ι' H2 hc σ2 τ' ∧ Ext ι1 H1 ι' H2 ∧ forL (fun x K' σ' h' => g x σ' h' fun σ2 h2 => tb K' σ2 h2) st (items.drop (i + 1)) K τ' hc) :=
      fun τ4 h4 σ4 H4 ι4 q4 e4 sr4 => ⟨ι4, τ4, h4, sr4, ex3.trans sr3.hr e4, q4⟩
    exact ⟨ι3, τ3, h3, _, sr3, exF.trans hr1 ex3, q3, back, Nx.mv n1 sr3.hr (e1.trans hr1 ex3), back, Rt.mv n4 sr3.hr (e1.trans hr1 ex3)⟩
  · have hie : i = items.length := by omega
    subst hie
    rw [List.drop_length] at w
    obtain ⟨hst, w⟩ := w
    obtain ⟨j1, j2, j3⟩ := jr _ ι' hc Hc src.hr exc hst
    exact .inl ⟨j3 (Nat.le_refl _), n1 _ _ _ _ _ w (e1.trans hr1 exc) src⟩
theorem whl_D {tc : DS → DH → DQ → Prop} {tb : DE → DS → DH → Prop} {D0 : Ends} {σ : L2.St} {H : Hp}
    (q : liftS F (fun K τ h => ∃ W : Nat → DS → DH → Prop, (∃ m, W m τ h) ∧ ∀ m τ h, W m τ h → tc τ h fun x h1 => ∃ k, x = .bl k ∧
      if k = true then tb { K with nx := fun σ' h' => ∃ m', m' < m ∧ W m' σ' h', ct := fun σ' h' => ∃ m', m' < m ∧ W m' σ' h', bk := K.nx } τ h1 else K.nx τ h1) D0 σ H) : tWhile (liftT F tc) (liftS F tb) D0 σ H := by
  obtain ⟨ι, τ, h, K, sr, ex, ⟨W, ⟨m0, w0⟩, turn⟩, n1, n2, n3, n4⟩ := q
  refine ⟨fun m σ' Hc => ∃ ι' τ' hc, SR F.K ι' Hc hc σ' τ' ∧ Ext ι H ι' Hc ∧ W m τ' hc, ⟨m0, ι, τ, h, sr, .refl, w0⟩, ?_⟩
  rintro m σ' Hc ⟨ι', τ', hc, src, exc, w⟩
  refine ⟨ι', τ', hc, _, src, ex.trans sr.hr exc, turn m τ' hc w, fun d h1 H1 ι1 ⟨b, e0, q⟩ e1 hr1 => ⟨b, e0, ?_⟩⟩
  have ex1 := exc.trans src.hr e1
  cases b with
  | true =>
    rw [if_pos rfl] at q
    refine iteT ⟨fun σ2 H2 => ∃ m', m' < m ∧ ∃ ι' τ' hc, SR F.K ι' H2 hc σ2 τ' ∧ Ext ι H ι' H2 ∧ W m' τ' hc, fun σ2 H2 ⟨m', h1, h2⟩ => ⟨m', h1, h2⟩, ?_⟩
    have back : Nx F ι1 H1 (fun σ' h' => ∃ m', m' < m ∧ W m' σ' h') (fun σ2 H2 => ∃ m', m' < m ∧ ∃ ι' τ' hc, SR F.K ι' H2 hc σ2 τ' ∧ Ext ι H ι' H2 ∧ W m' τ' hc) :=
      fun τ4 h4 σ4 H4 ι4 ⟨m', hm, q4⟩ e4 sr4 => ⟨m', hm, ι4, τ4, h4, sr4, ex1.trans hr1 e4, q4⟩
    exact ⟨ι1, τ', h1, _, src.mono e1 hr1, ex.trans sr.hr ex1, q, back, Nx.mv n1 hr1 ex1, back, Rt.mv n4 hr1 ex1⟩
  | false =>
    rw [if_neg Bool.false_ne_true] at q
    exact iteF (n1 _ _ _ _ _ q ex1 (src.mono e1 hr1))
theorem ipD (hK : F.K = X.K) : PIp X .Add (rD F fun x y h Q => ∃ r, binF h .add x y = some r ∧ flat? r = true ∧ Q r h) := by
  intro pins s σ H v w v' w' Q I rv rw_ hw
  obtain ⟨ι, h, x, y, Qd, hr, hx, hy, ⟨r, hb, fl, q⟩, k⟩ := hw
  unfold binF at hb
  split at hb
  · cases hb
    have e1 := hx.iv; have e2 := hy.iv; subst e1; subst e2
    exact ip_add pins s σ H _ _ _ _ _ I rv rw_ ⟨_, _, rfl, rfl, k.here hr q (.int _)⟩
  · split at hb
    · cases hb
      have e1 := hx.sv; have e2 := hy.sv; subst e1; subst e2
      exact iop_add_str pins s σ H _ _ _ _ _ I rv rw_ ⟨_, _, rfl, rfl, by rw [sx F]; assumption, k.here hr q (.str _)⟩
    · cases hb
  · split at hb
    · cases hb; cases fl
    · cases hb
  · split at hb
    · split at hb
      · cases hb; cases fl
      · cases hb
    · cases hb
  all_goals contradiction
theorem loc_of {x : Str} (h2 : locB c x = true) : (c.sc.names.lookup x = some .local ∨ c.sc.names.lookup x = some .cell) ∧ (c.fn x = true ∨ c.sc.names.lookup x = some .local) := by
  unfold locB at h2
  split at h2
  · exact ⟨.inl (by assumption), .inr (by assumption)⟩
  · exact ⟨.inr (by assumption), .inl h2⟩
  · cases h2
theorem sole_eq {y x : Expr} {l : Nat} {env : Env} : swapsWithSole [y] x l env = swapsWith x (some y) l env := rfl
theorem asg1 {y : Expr} {env : Env} (h : ∀ v p, y ≠ .Starred v p) : (assignEach [y] env).map (·.2) = [assign y env] := by rw [asg_ns h]; rfl
theorem asg_S0 (O : Ok X c F Φ k) {t : T} {e : E} {y x : Expr} {p : Pos} (h1 : chkE c e x = true) (h2 : chkT c t y = true) (h3 : asgB y x = true) : PS X (.Assign [y] x p) (liftS F (wpS Φ NX (.asg t e))) := by
  have hst : swappedStores [y] x X.env = pure none := by
    cases y with
    | Tuple ts kk tp => cases x <;> first | rfl | cases h3
    | Name n np => cases x <;> rfl
    | _ => cases t <;> simp [chkT] at h2
  have gen : swapsWith x (some y) p.line X.env = pure false → PS X (.Assign [y] x p) (liftS F (wpS Φ NX (.asg t e))) := fun hs =>
    PS.imp (ps_asg (sndE O e x h1) (sndT O t y h2) (by rw [sole_eq]; exact hs) hst (asg1 (chkT_star h2))) fun D σ H q => asg_D q
  cases hp : plainV x with
  | true => exact gen (swaps_no hp)
  | false =>
    cases x with
    | ListComp el gs scope pos =>
      cases y with
      | Name n np =>
        have e0 : swapsWith (.ListComp el gs scope pos) (some (.Name n np)) p.line X.env = pure (X.env.blockKind == .function && X.env.kindOf n == some .local && np.line == pos.line && !(scope.names.any fun (z, kd) => z == n && (kd == .local || kd == .cell))) := rfl
        cases hb : (X.env.blockKind == .function && X.env.kindOf n == some .local && np.line == pos.line && !(scope.names.any fun (z, kd) => z == n && (kd == .local || kd == .cell))) with
        | false => exact gen (by rw [e0, hb])
        | true =>
          have hsw : swapsWith (.ListComp el gs scope pos) (some (.Name n np)) p.line X.env = pure true := by rw [e0, hb]
          simp only [Bool.and_eq_true] at hb
          have hloc : X.env.scope.names.lookup n = some .local := by
            have := hb.1.1.2
            simpa [Env.kindOf] using this
          cases t with
          | name i =>
            have h2 : (nmB c i n && locB c n) = true := h2
            unfold nmB at h2
            simp only [Bool.and_eq_true, decide_eq_true_eq] at h2
            cases e with
            | comp bx own tg w cs elt =>
              match gs, h1 with
              | [⟨tt, iter, ifs, m⟩], h =>
                have h : (decide (m = 0) && blkC c.N c.sc scope (own.map fun i => (c.N.getD i ⟨#[]⟩, i)) && chkW c tt w iter && chkT (c.blk scope) tg tt && tg.slots.all (fun i => own.contains i) && chkE (c.blk scope) elt el && noset iter && chkEs (c.blk scope) cs ifs && decide (ifs.length ≤ 1)) = true := h
                simp only [Bool.and_eq_true, decide_eq_true_eq] at h
                obtain ⟨⟨⟨⟨⟨⟨⟨⟨g1, g2⟩, g3⟩, g4⟩, g5⟩, g7⟩, g8⟩, g6⟩, g9⟩ := h
                subst g1
                have eo : (own.map fun i => (c.N.getD i ⟨#[]⟩, i)).map (·.2) = own := by rw [List.map_map]; exact List.map_id own
                refine PS.imp (ps_setLc (i := i) (own := own.map fun i => (c.N.getD i ⟨#[]⟩, i)) O.calm (by rw [O.hN]; exact O.nd) (by rw [O.hN]; exact h2.1.1) hloc hsw (sndW O w tt iter g3) (by rw [O.hN, O.hsc]; exact blkOk_by g2)
                  (fun s H C cl fp => sndT (O.blk s H scope C cl fp) tg tt g4) (fun s H C cl fp => sndC (O.blk s H scope C cl fp) cs ifs g6 g9) (fun s H C cl fp => sndE (O.blk s H scope C cl fp) elt el g7) (fold_no g8)) fun D σ H q => ?_
                rw [eo]
                obtain ⟨ι, τ, h, K, sr, ex, q, n1, n2, n3, n4⟩ := q
                refine lc_D (bx := bx) (fun i hi => by
                  have := List.all_eq_true.mp g5 i hi
                  simpa using this) ⟨ι, τ, h, _, sr, ex, q, fun d h1 v H1 ι1 q e1 hr1 r1 => ?_⟩
                exact n1 _ _ _ _ _ q e1 ((sr.mono e1 hr1).set i r1)
              | [], h => simp [chkE] at h
              | _ :: _ :: _, h => simp [chkE] at h
            | _ => simp [chkE] at h1
          | tup ts => simp [chkT] at h2
      | Tuple ts kk tp => exact gen rfl
      | _ => cases t <;> simp [chkT] at h2
    | SetComp _ _ _ _ => cases e <;> simp [chkE] at h1
    | DictComp _ _ _ _ _ => cases e <;> simp [chkE] at h1
    | _ => cases hp
theorem two_of {t : T} {a b : Expr} {kt pt} (h : chkT c t (.Tuple [a, b] kt pt) = true) : ∃ t1 t2, t = .tup (.cons t1 (.cons t2 .nil)) ∧ chkT c t1 a = true ∧ chkT c t2 b = true := by
  cases t with
  | name i => simp [chkT] at h
  | tup ts =>
    match ts, h with
    | .cons t1 (.cons t2 .nil), h =>
      have h : (chkT c t1 a && (chkT c t2 b && true)) = true := h
      simp only [Bool.and_eq_true] at h
      exact ⟨t1, t2, rfl, h.1, h.2.1⟩
    | .nil, h => simp [chkT, chkTs] at h
    | .cons _ .nil, h => simp [chkT, chkTs] at h
    | .cons _ (.cons _ (.cons _ _)), h => simp [chkT, chkTs] at h
theorem three_of {t : T} {a b d : Expr} {kt pt} (h : chkT c t (.Tuple [a, b, d] kt pt) = true) : ∃ t1 t2 t3, t = .tup (.cons t1 (.cons t2 (.cons t3 .nil))) ∧ chkT c t1 a = true ∧ chkT c t2 b = true ∧ chkT c t3 d = true := by
  cases t with
  | name i => simp [chkT] at h
  | tup ts =>
    match ts, h with
    | .cons t1 (.cons t2 (.cons t3 .nil)), h =>
      have h : (chkT c t1 a && (chkT c t2 b && (chkT c t3 d && true))) = true := h
      simp only [Bool.and_eq_true] at h
      exact ⟨t1, t2, t3, rfl, h.1, h.2.1, h.2.2.1⟩
    | .nil, h => simp [chkT, chkTs] at h
    | .cons _ .nil, h => simp [chkT, chkTs] at h
    | .cons _ (.cons _ .nil), h => simp [chkT, chkTs] at h
    | .cons _ (.cons _ (.cons _ (.cons _ _))), h => simp [chkT, chkTs] at h
theorem name_of {t : T} {x : Str} {p : Pos} (h : chkT c t (.Name x p) = true) : ∃ i, t = .name i ∧ c.N[i]? = some x := by
  cases t with
  | name i =>
    have h : (nmB c i x && locB c x) = true := h
    unfold nmB at h
    simp only [Bool.and_eq_true, decide_eq_true_eq] at h
    exact ⟨i, rfl, h.1.1⟩
  | tup ts => simp [chkT] at h
theorem es_of {e : E} {xs : List Expr} {kt pt} (h : chkE c e (.Tuple xs kt pt) = true) : ∃ es, e = .tup es ∧ chkEs c es xs = true := by
  cases e with
  | tup es => exact ⟨es, rfl, h⟩
  | _ => simp [chkE] at h
theorem kindF {env : Env} (h : env.scope.kind = .function) : env.blockKind = .function := by
  unfold Env.blockKind
  rw [h]; rfl
theorem ne_ix {xs : List Str} {i j : Nat} {x y : Str} (hi : xs[i]? = some x) (hj : xs[j]? = some y) (n : (x == y) = false) : i ≠ j := fun e => by
  subst e
  rw [hi] at hj; cases hj
  simp at n
theorem nostars {es : Es} {xs : List Expr} (h : chkEs c es xs = true) : ∀ a ∈ xs, ∀ v p, a ≠ .Starred v p := by
  induction xs generalizing es with
  | nil => intro a m; cases m
  | cons x xs ih =>
    cases es with
    | nil => simp [chkEs] at h
    | cons e es =>
      have h : (chkE c e x && chkEs c es xs) = true := h
      rw [Bool.and_eq_true] at h
      intro a m
      rcases List.mem_cons.mp m with e | m
      · subst e; exact chk_star h.1
      · exact ih h.2 a m
theorem par2_S (O : Ok X c F Φ k) {t : T} {e : E} {x z : Str} {p q pt pt2 pos : Pos} {kt k2} {a b : Expr} (h1 : chkE c e (.Tuple [a, b] k2 pt2) = true) (h2 : chkT c t (.Tuple [.Name x p, .Name z q] kt pt) = true) (h3 : parB c (.Tuple [.Name x p, .Name z q] kt pt) (.Tuple [a, b] k2 pt2) = true) :
    PS X (.Assign [.Tuple [.Name x p, .Name z q] kt pt] (.Tuple [a, b] k2 pt2) pos) (liftS F (wpS Φ NX (.asg t e))) := by
  obtain ⟨t1, t2, rfl, g1, g2⟩ := two_of h2
  obtain ⟨i, rfl, hi⟩ := name_of g1
  obtain ⟨j, rfl, hj⟩ := name_of g2
  obtain ⟨es, rfl, hes⟩ := es_of h1
  simp only [parB, Bool.and_eq_true, Bool.not_eq_true', decide_eq_true_eq] at h3
  obtain ⟨⟨⟨⟨⟨lx, lz⟩, n1⟩, l1⟩, hf⟩, hc⟩ := h3
  have ns := nostars hes
  have na := ns a (by simp)
  have nb := ns b (by simp)
  have hlx : X.env.scope.names.lookup x = some .local := by rw [O.hsc]; exact lx
  have hlz : X.env.scope.names.lookup z = some .local := by rw [O.hsc]; exact lz
  have hne := ne_ix hi hj n1
  refine ⟨fun pins s σ H D I w => ?_⟩
  have par := ps_par (X := X) (i := i) (j := j) (pos := pos) O.calm (by rw [O.hN]; exact O.nd) (by rw [O.hN]; exact hi) (by rw [O.hN]; exact hj) hne hlx hlz (sndEs O es [a, b] hes)
    (swapped2 (pt := pt) (pt2 := pt2) (kt := kt) (k2 := k2) (kindF I.ok.kind) hlx hlz n1 l1 hf hc na nb)
  refine par.run pins s σ H D I ?_
  obtain ⟨ι, τ, h, K, sr, ex, qq, n1', n2, n3, n4⟩ := w
  refine ⟨ι, τ, h, _, sr, ex, qq, fun ds h1 vs H1 ι1 ⟨hl, xs, e0, hlen, x1, r1, e1, x2, r2, e2, e3, q5⟩ ee hr1 rp => ?_⟩
  cases e0
  subst e1
  subst e2
  subst e3
  obtain ⟨v1, v2, rfl, rv1, rv2⟩ := rp.two
  exact ⟨v1, v2, rfl, n1' _ _ _ _ _ q5 ee (((sr.mono ee hr1).set i rv1).set j rv2)⟩
theorem par3_S (O : Ok X c F Φ k) {t : T} {e : E} {x z y : Str} {p q r pt pt2 pos : Pos} {kt k2} {a b d : Expr} (h1 : chkE c e (.Tuple [a, b, d] k2 pt2) = true) (h2 : chkT c t (.Tuple [.Name x p, .Name z q, .Name y r] kt pt) = true) (h3 : parB c (.Tuple [.Name x p, .Name z q, .Name y r] kt pt) (.Tuple [a, b, d] k2 pt2) = true) :
    PS X (.Assign [.Tuple [.Name x p, .Name z q, .Name y r] kt pt] (.Tuple [a, b, d] k2 pt2) pos) (liftS F (wpS Φ NX (.asg t e))) := by
  obtain ⟨t1, t2, t3, rfl, g1, g2, g3⟩ := three_of h2
  obtain ⟨i, rfl, hi⟩ := name_of g1
  obtain ⟨j, rfl, hj⟩ := name_of g2
  obtain ⟨l, rfl, hl'⟩ := name_of g3
  obtain ⟨es, rfl, hes⟩ := es_of h1
  simp only [parB, Bool.and_eq_true, Bool.not_eq_true', decide_eq_true_eq] at h3
  obtain ⟨⟨⟨⟨⟨⟨⟨⟨⟨lx, lz⟩, ly⟩, n1⟩, n2⟩, n3⟩, l1⟩, l2⟩, hf⟩, hc⟩ := h3
  have ns := nostars hes
  have na := ns a (by simp)
  have nb := ns b (by simp)
  have nd := ns d (by simp)
  have hlx : X.env.scope.names.lookup x = some .local := by rw [O.hsc]; exact lx
  have hlz : X.env.scope.names.lookup z = some .local := by rw [O.hsc]; exact lz
  have hly : X.env.scope.names.lookup y = some .local := by rw [O.hsc]; exact ly
  refine ⟨fun pins s σ H D I w => ?_⟩
  have par := ps_par3 (X := X) (i := i) (j := j) (l := l) (pos := pos) O.calm (by rw [O.hN]; exact O.nd) (by rw [O.hN]; exact hi) (by rw [O.hN]; exact hj) (by rw [O.hN]; exact hl') (ne_ix hi hj n1) (ne_ix hi hl' n2) (ne_ix hj hl' n3) hlx hlz hly (sndEs O es [a, b, d] hes)
    (swapped3 (pt := pt) (pt2 := pt2) (kt := kt) (k2 := k2) (kindF I.ok.kind) hlx hlz hly n1 n2 n3 l1 l2 (by rw [← Bool.and_assoc]; exact hf) (by rw [← Bool.and_assoc]; exact hc) na nb nd)
  refine par.run pins s σ H D I ?_
  obtain ⟨ι, τ, h, K, sr, ex, qq, n1', n2', n3', n4'⟩ := w
  refine ⟨ι, τ, h, _, sr, ex, qq, fun ds h1 vs H1 ι1 ⟨hl, xs, e0, hlen, x1, r1, e1, x2, r2, e2, x3, r3, e3, e4, q5⟩ ee hr1 rp => ?_⟩
  cases e0
  subst e1
  subst e2
  subst e3
  subst e4
  cases rp with
  | cons rv1 rp =>
    obtain ⟨v2, v3, rfl, rv2, rv3⟩ := rp.two
    exact ⟨_, v2, v3, rfl, n1' _ _ _ _ _ q5 ee ((((sr.mono ee hr1).set i rv1).set j rv2).set l rv3)⟩
theorem asg_S (O : Ok X c F Φ k) {t : T} {e : E} {y x : Expr} {p : Pos} (h1 : chkE c e x = true) (h2 : chkT c t y = true) (h3 : (asgB y x || parB c y x) = true) : PS X (.Assign [y] x p) (liftS F (wpS Φ NX (.asg t e))) := by
  rw [Bool.or_eq_true] at h3
  rcases h3 with h3 | h3
  · exact asg_S0 O h1 h2 h3
  · have h4 := h3
    unfold parB at h4
    split at h4
    · exact par2_S O h1 h2 h3
    · exact par3_S O h1 h2 h3
    · cases h4
theorem seti_S (O : Ok X c F Φ k) {a i e : E} {y x : Expr} {p : Pos} (h : setB c a i e y x = true) : PS X (.Assign [y] x p) (liftS F (wpS Φ NX (.seti a i e))) := by
  cases y with
  | Subscript y z q =>
      have h : (chkE c a y && chkE c i z && chkE c e x && plainV x) = true := h
      simp only [Bool.and_eq_true] at h
      obtain ⟨⟨⟨h1, h2⟩, h3⟩, h4⟩ := h
      have ns := chk_slice h2
      refine PS.imp (ps_asg (sndE O e x h3) (pg_sub (sndE O a y h1) (sndE O i z h2) set_list (by
        intro v
        cases z <;> first | rfl | exact absurd rfl (ns _ _ _ _))) (by rw [sole_eq]; exact swaps_no h4) (by cases x <;> rfl) rfl) fun D σ H q => ?_
      obtain ⟨ι, τ, h, K, sr, ex, q, n1, n2, n3, n4⟩ := q
      refine ⟨ι, τ, h, _, sr, ex, q, fun d h1 v H1 ι1 q e1 hr1 r1 => ?_⟩
      refine ⟨ι1, τ, h1, _, sr.mono e1 hr1, ex.trans sr.hr e1, q, fun d2 h2 v2 H2 ι2 q e2 hr2 r2 => ?_⟩
      have e12 := e1.trans hr1 e2
      refine ⟨ι2, τ, h2, _, sr.mono e12 hr2, ex.trans sr.hr e12, q, fun d3 h3 v3 H3 ι3 q e3 hr3 r3 => ?_⟩
      obtain ⟨n, ys, z, j, rfl, hn, rfl, hj, q⟩ := q
      have e13 := e12.trans hr2 e3
      have r2 := r2.mono hr2 e3
      have r1 := r1.mono hr1 (e2.trans hr2 e3)
      have e := r3.iv
      subst e
      cases r2 with
      | ref hi =>
        rename_i a
        obtain ⟨a', ws, g1, g2, g3⟩ := hr3.ref hn
        rw [hi] at g1; cases g1
        refine ⟨a, ws, z, j, rfl, rfl, g2, by rw [g3.length]; exact hj, ?_⟩
        have ex4 : Ext ι3 H3 ι3 (upd H3 a (.lst (ws.set j v))) := .upd_in (List.mem_of_getElem? hi) _
        have hr4 := hr3.write hi (g3.set r1 j)
        exact n1 _ _ _ _ _ q (e13.trans hr3 ex4) (sr.mono (e13.trans hr3 ex4) hr4)
  | _ => simp [setB] at h
mutual
theorem sndS (O : Ok X c F Φ k) : ∀ (s : S) (st : Stmt), chkS c s st = true → PS X st (liftS F (wpS Φ NX s))
  | .expr e, st, h => by
    cases st with
    | Expr x p =>
      have h : (chkE c e x && plainV x) = true := h
      rw [Bool.and_eq_true] at h
      refine PS.imp (ps_expr (sndE O e x h.1) (swaps_no h.2)) fun D σ H q => ?_
      obtain ⟨ι, τ, h, K, sr, ex, q, n1, n2, n3, n4⟩ := q
      exact ⟨ι, τ, h, _, sr, ex, q, fun d h' v H' ι' q e hr rp => n1 _ _ _ _ _ q e (sr.mono e hr)⟩
    | _ => simp [chkS] at h
  | .ret e, st, h => by
    cases st with
    | Return ox p =>
      cases ox with
      | some x =>
        have h : chkE c e x = true := h
        refine PS.imp (ps_ret (sndE O e x h)) fun D σ H q => ?_
        obtain ⟨ι, τ, h, K, sr, ex, q, n1, n2, n3, n4⟩ := q
        exact ⟨ι, τ, h, _, sr, ex, q, n4⟩
      | none => simp [chkS] at h
    | _ => simp [chkS] at h
  | .asg t e, st, h => by
    cases st with
    | Assign ts x p =>
      match ts, h with
      | [y], h =>
        have h : (chkE c e x && chkT c t y && (asgB y x || parB c y x)) = true := h
        simp only [Bool.and_eq_true] at h
        obtain ⟨⟨h1, h2⟩, h3⟩ := h
        exact asg_S O h1 h2 h3
      | [], h => simp [chkS] at h
      | _ :: _ :: _, h => simp [chkS] at h
    | _ => simp [chkS] at h
  | .seti a i e, st, h => by
    cases st with
    | Assign ts x p =>
      match ts, h with
      | [y], h => exact seti_S O h
      | [], h => simp [chkS] at h
      | _ :: _ :: _, h => simp [chkS] at h
    | _ => simp [chkS] at h
  | .aug i e, st, h => by
    cases st with
    | AugAssign y op x p =>
      cases y with
      | Name x' pos =>
        cases op with
        | Add =>
          have h : (chkE c e x && nmB c i x' && locB c x') = true := h
          simp only [Bool.and_eq_true] at h
          obtain ⟨⟨h1, h2⟩, h3⟩ := h
          unfold nmB at h2
          rw [Bool.and_eq_true, decide_eq_true_eq] at h2
          have hl := loc_of h3
          refine PS.imp (ps_aug (i := i) (by rw [O.hN]; exact O.nd) (by rw [O.hN]; exact h2.1) (by unfold L2.Loc; rw [O.hsc]; exact hl.1) (sndE O e x h1) (ipD O.hK) (by rw [O.hfn, O.hsc]; exact hl.2)) fun D σ H q => ?_
          obtain ⟨ι, τ, h, K, sr, ex, ⟨d, hd, q⟩, n1, n2, n3, n4⟩ := q
          obtain ⟨v, hv, rv⟩ := sr.at_ i d hd
          refine ⟨v, hv, ι, τ, h, _, sr, ex, q, fun y h1 w H1 ι1 ⟨r, hb, fl, q⟩ e1 hr1 r1 => ?_⟩
          refine ⟨ι1, h1, d, y, fun z h' => z = r ∧ h' = h1, hr1, rv.mono sr.hr e1, r1, ⟨r, hb, fl, rfl, rfl⟩, fun z h' u H' ι' ⟨g1, g2⟩ e2 hr2 r2 => ?_⟩
          subst g1; subst g2
          exact n1 _ _ _ _ _ q (e1.trans hr1 e2) ((sr.mono (e1.trans hr1 e2) hr2).set i r2)
        | _ => simp [chkS] at h
      | _ => simp [chkS] at h
    | _ => simp [chkS] at h
  | .ite t a b, st, h => by
    cases st with
    | If t' x y p =>
      have h : (chkE c t t' && chkSs c a x && chkSs c b y) = true := h
      simp only [Bool.and_eq_true] at h
      obtain ⟨⟨h1, h2⟩, h3⟩ := h
      refine PS.imp (ps_if (sndP O t t' h1) (sndSs O a x h2) (sndSs O b y h3)) fun D σ H q => ?_
      obtain ⟨ι, τ, h, K, sr, ex, q, n1, n2, n3, n4⟩ := q
      refine ⟨ι, τ, h, _, sr, ex, q, fun d h1 H1 ι1 ⟨b, e0, q⟩ e1 hr1 => ⟨b, e0, ?_⟩⟩
      cases b with
      | true =>
        rw [if_pos rfl] at q
        exact iteT ⟨ι1, τ, h1, K, sr.mono e1 hr1, ex.trans sr.hr e1, q, Nx.mv n1 hr1 e1, Nx.mv n2 hr1 e1, Nx.mv n3 hr1 e1, Rt.mv n4 hr1 e1⟩
      | false =>
        rw [if_neg Bool.false_ne_true] at q
        exact iteF ⟨ι1, τ, h1, K, sr.mono e1 hr1, ex.trans sr.hr e1, q, Nx.mv n1 hr1 e1, Nx.mv n2 hr1 e1, Nx.mv n3 hr1 e1, Rt.mv n4 hr1 e1⟩
    | _ => simp [chkS] at h
  | .whl t b, st, h => by
    cases st with
    | While t' x y p =>
      cases y with
      | nil =>
        have h : (chkE c t t' && chkSs c b x) = true := h
        rw [Bool.and_eq_true] at h
        exact PS.imp (ps_while (by rw [O.xe]; exact PassesOwn.never) (sndP O t t' h.1) (sndSs O b x h.2)) fun D σ H q => whl_D q
      | cons _ _ => simp [chkS] at h
    | _ => simp [chkS] at h
  | .for_ t w b, st, h => by
    cases st with
    | For y it x z p =>
      cases z with
      | nil =>
        have h : (chkW c y w it && chkT c t y && chkSs c b x && noset it) = true := h
        simp only [Bool.and_eq_true] at h
        obtain ⟨⟨⟨h1, h2⟩, h3⟩, h4⟩ := h
        exact PS.imp (ps_for (by rw [O.xe]; exact PassesOwn.never) O.calm (sndW O w y it h1) (sndT O t y h2) (sndSs O b x h3) (fold_no h4)) fun D σ H q => for_D q
      | cons _ _ => simp [chkS] at h
    | _ => simp [chkS] at h
  | .pass, st, h => by
    cases st with
    | Pass p => exact PS.imp ps_pass fun D σ H ⟨ι, τ, h, K, sr, ex, q, n1, n2, n3, n4⟩ => n1 _ _ _ _ _ q .refl sr
    | _ => simp [chkS] at h
  | .brk, st, h => by
    cases st with
    | Break p => exact PS.imp ps_break fun D σ H ⟨ι, τ, h, K, sr, ex, q, n1, n2, n3, n4⟩ => n2 _ _ _ _ _ q .refl sr
    | _ => simp [chkS] at h
  | .cont, st, h => by
    cases st with
    | Continue p => exact PS.imp ps_continue fun D σ H ⟨ι, τ, h, K, sr, ex, q, n1, n2, n3, n4⟩ => n3 _ _ _ _ _ q .refl sr
    | _ => simp [chkS] at h
  | .raise _ _, st, h => PS.imp ps_never fun D σ H ⟨ι, τ, h, K, sr, ex, q, n1, n2, n3, n4⟩ => q
theorem sndSs (O : Ok X c F Φ k) : ∀ (ss : Ss) (sts : List Stmt), chkSs c ss sts = true → PSs X sts (liftS F (wpSs Φ NX ss))
  | .nil, sts, h => by
    cases sts with
    | nil => exact PSs.imp pss_nil fun D σ H ⟨ι, τ, h, K, sr, ex, q, n1, n2, n3, n4⟩ => n1 _ _ _ _ _ q .refl sr
    | cons _ _ => simp [chkSs] at h
  | .cons s ss, sts, h => by
    cases sts with
    | nil => simp [chkSs] at h
    | cons st sts =>
      have h : (chkS c s st && chkSs c ss sts) = true := h
      rw [Bool.and_eq_true] at h
      refine PSs.imp (pss_cons (sndS O s st h.1) (sndSs O ss sts h.2)) fun D σ H q => ?_
      obtain ⟨ι, τ, h, K, sr, ex, q, n1, n2, n3, n4⟩ := q
      refine ⟨ι, τ, h, _, sr, ex, q, fun τ' h' σ' H' ι' q e sr' => ?_, n2, n3, n4⟩
      exact ⟨ι', τ', h', K, sr', ex.trans sr.hr e, q, Nx.mv n1 sr'.hr e, Nx.mv n2 sr'.hr e, Nx.mv n3 sr'.hr e, Rt.mv n4 sr'.hr e⟩
end
end
end Pf

namespace Pf
open PySem PySem.Spec PyProof.Rows L2

mutual
/-- no place at n or behind -/
def D.low (n : Nat) : D → Bool
  | .ref m => decide (m < n)
  | .tup xs => D.lows n xs | .lst xs => D.lows n xs
  | .dic _ _ => false
  | .exc _ _ _ => false
  | .scr xs => D.lows n xs
  | _ => true
def D.lows (n : Nat) : List D → Bool
  | [] => true
  | x :: xs => D.low n x && D.lows n xs
end
def Ob.low (n : Nat) : Ob → Bool
  | .lst xs => D.lows n xs
  | _ => false
mutual
/-- the places from n on told as what stands there -/
inductive Fr (h : DH) (n : Nat) : D → D → Prop
  | non : Fr h n .non .non
  | bl (b : Bool) : Fr h n (.bl b) (.bl b)
  | int (i : Int) : Fr h n (.int i) (.int i)
  | str (x : Str) : Fr h n (.str x) (.str x)
  | tup {xs ys : List D} : Frs h n xs ys → Fr h n (.tup xs) (.tup ys)
  | lst {xs ys : List D} : Frs h n xs ys → Fr h n (.lst xs) (.lst ys)
  | old {m : Nat} : m < n → Fr h n (.ref m) (.ref m)
  | new {m : Nat} {xs ys : List D} : n ≤ m → h[m]? = some (.lst xs) → Frs h n xs ys → Fr h n (.ref m) (.lst ys)
inductive Frs (h : DH) (n : Nat) : List D → List D → Prop
  | nil : Frs h n [] []
  | cons {x y : D} {xs ys : List D} : Fr h n x y → Frs h n xs ys → Frs h n (x :: xs) (y :: ys)
end
mutual
theorem Fr.same {h : DH} {n : Nat} : ∀ {d : D}, d.pure = true → Fr h n d d
  | .non, _ => .non
  | .bl b, _ => .bl b
  | .int b, _ => .int b
  | .str b, _ => .str b
  | .tup xs, q => .tup (Frs.same q)
  | .lst xs, q => .lst (Frs.same q)
theorem Frs.same {h : DH} {n : Nat} : ∀ {ds : List D}, D.pures ds = true → Frs h n ds ds
  | [], _ => .nil
  | d :: ds, q => by
    have q : (d.pure && D.pures ds) = true := q
    rw [Bool.and_eq_true] at q
    exact .cons (Fr.same q.1) (Frs.same q.2)
end
/-- the older places hold nothing of the newer ones -/
def OldOk (h0 h : DH) : Prop := h0.length ≤ h.length ∧ ∀ n, n < h0.length → h[n]? = h0[n]? ∨ ∃ o, h[n]? = some o ∧ o.low h0.length = true
/-- what is handed back, with or without what was made on the way -/
def Fz (h0 : DH) (Q : DQ) : DQ := fun d h => Q d h ∨ ∃ d', Fr h h0.length d d' ∧ OldOk h0 h ∧ Q d' (h.take h0.length)

section
variable {K : PySem.W.Frag} {ι ι' : Ix} {H H' : Hp} {h h' : DH}
theorem Ext.mem_old (e : Ext ι H ι' H') {a : Addr} (ha : a ∈ ι.ix) : a ∈ ι'.ix := by
  obtain ⟨m, em, _⟩ := e.pre
  rw [em]; exact List.mem_append_left _ ha
theorem Ext.at_new (hr : HR K ι H h) (e : Ext ι H ι' H') {n : Nat} {a : Addr} (hn : h.length ≤ n) (ha : ι'.ix[n]? = some a) : H a = none := by
  obtain ⟨m, em, hm⟩ := e.pre
  rw [em, List.getElem?_append_right (by rw [hr.len]; exact hn)] at ha
  exact hm a (List.mem_of_getElem? ha)
theorem Ext.at_old (hr : HR K ι H h) (e : Ext ι H ι' H') {n : Nat} {a : Addr} (hn : n < h.length) (ha : ι'.ix[n]? = some a) : ι.ix[n]? = some a := by
  obtain ⟨m, em, hm⟩ := e.pre
  rw [em, List.getElem?_append_left (by rw [hr.len]; exact hn)] at ha
  exact ha
mutual
theorem Rp.froze (hr : HR K ι H h) (hr' : HR K ι' H' h') (e : Ext ι H ι' H') {d d' : D} (f : Fr h' h.length d d') : ∀ (v : V), Rp K ι' H' v d → Rp K ι H' v d' := by
  match f with
  | .non => intro v q; cases q; exact .non
  | .bl b => intro v q; cases q; exact .bl b
  | .int b => intro v q; cases q; exact .int b
  | .str b => intro v q; cases q; exact .str b
  | .tup f =>
    intro v q
    cases q with
    | tup q t => exact .tup q (Rps.froze hr hr' e f _ t)
  | .lst f =>
    intro v q
    cases q with
    | lst q n n2 t => exact .lst q (fun z => n (e.mem_old z)) (fun z => n2 (e.hid2 _ z)) (Rps.froze hr hr' e f _ t)
  | .old hm =>
    intro v q
    cases q with
    | ref q => exact .ref (e.at_old hr hm q)
  | .new hm hx f =>
    intro v q
    cases q with
    | ref q =>
      have hn := e.at_new hr hm q
      obtain ⟨a', vs, h1, h2, h3⟩ := hr'.ref hx
      rw [q] at h1; cases h1
      exact .lst h2 (hr.fresh hn) (hr.freshH hn) (Rps.froze hr hr' e f _ h3)
theorem Rps.froze (hr : HR K ι H h) (hr' : HR K ι' H' h') (e : Ext ι H ι' H') {ds ds' : List D} (f : Frs h' h.length ds ds') : ∀ (vs : List V), Rps K ι' H' vs ds → Rps K ι H' vs ds' := by
  match f with
  | .nil => intro v q; cases q; exact .nil
  | .cons f fs =>
    intro v q
    cases q with
    | cons q t => exact .cons (Rp.froze hr hr' e f _ q) (Rps.froze hr hr' e fs _ t)
end
mutual
theorem Rp.lows1 (hr : HR K ι H h) (e : Ext ι H ι' H') : ∀ (d : D) (v : V), d.low h.length = true → Rp K ι' H' v d → Rp K ι H' v d
  | .non, v, _, q => by cases q; exact .non
  | .bl b, v, _, q => by cases q; exact .bl b
  | .int b, v, _, q => by cases q; exact .int b
  | .str b, v, _, q => by cases q; exact .str b
  | .tup ds, v, b, q => by
    cases q with
    | tup q t => exact .tup q (Rps.lows hr e ds _ b t)
  | .lst ds, v, b, q => by
    cases q with
    | lst q n n2 t => exact .lst q (fun z => n (e.mem_old z)) (fun z => n2 (e.hid2 _ z)) (Rps.lows hr e ds _ b t)
  | .scr ds, v, b, q => by
    cases q with
    | scr q t => exact .scr (q.elim (fun ⟨z, n⟩ => .inl ⟨z, fun y => n (e.mem_old y)⟩) .inr) (Rps.lows hr e ds _ b t)
  | .ref m, v, b, q => by
    cases q with
    | ref q => exact .ref (e.at_old hr (of_decide_eq_true b) q)
  | .dic _ _, v, _, q => by cases q
  | .exc _ _ _, v, _, q => by cases q
theorem Rps.lows (hr : HR K ι H h) (e : Ext ι H ι' H') : ∀ (ds : List D) (vs : List V), D.lows h.length ds = true → Rps K ι' H' vs ds → Rps K ι H' vs ds
  | [], _, _, q => by cases q; exact .nil
  | d :: ds, _, b, q => by
    cases q with
    | cons q t =>
      have b : (d.low h.length && D.lows h.length ds) = true := b
      rw [Bool.and_eq_true] at b
      exact .cons (Rp.lows1 hr e d _ b.1 q) (Rps.lows hr e ds _ b.2 t)
end
mutual
theorem Rp.isBelow (hr : HR K ι H h) : ∀ (d : D) (v : V), Rp K ι H v d → d.low h.length = true
  | .non, _, _ => rfl
  | .bl b, _, _ => rfl
  | .int b, _, _ => rfl
  | .str b, _, _ => rfl
  | .tup ds, v, q => by
    cases q with
    | tup q t => exact Rps.isBelow hr ds _ t
  | .lst ds, v, q => by
    cases q with
    | lst q n n2 t => exact Rps.isBelow hr ds _ t
  | .scr ds, v, q => by
    cases q with
    | scr q t => exact Rps.isBelow hr ds _ t
  | .ref m, v, q => by
    cases q with
    | ref q => exact decide_eq_true (by rw [← hr.len]; exact (List.getElem?_eq_some_iff.mp q).1)
  | .dic _ _, v, q => by cases q
  | .exc _ _ _, v, q => by cases q
theorem Rps.isBelow (hr : HR K ι H h) : ∀ (ds : List D) (vs : List V), Rps K ι H vs ds → D.lows h.length ds = true
  | [], _, q => rfl
  | d :: ds, _, q => by
    cases q with
    | cons q t =>
      show (d.low h.length && D.lows h.length ds) = true
      rw [Rp.isBelow hr d _ q, Rps.isBelow hr ds _ t]; rfl
end
theorem HR.cut (hr : HR K ι H h) (hr' : HR K ι' H' h') (e : Ext ι H ι' H') (ok : OldOk h h') : HR K ι H' (h'.take h.length) := by
  refine ⟨by rw [List.length_take, hr.len]; exact (Nat.min_eq_left ok.1).symm, hr.nd, fun n o q => ?_, fun a ha => hr'.hid a (e.hid2 a ha)⟩
  have hn : n < h.length := by
    have := (List.getElem?_eq_some_iff.mp q).1
    rw [List.length_take] at this
    omega
  rw [List.getElem?_take_of_lt hn] at q
  obtain ⟨a, h1, h2⟩ := hr'.ob n o q
  refine ⟨a, e.at_old hr hn h1, ?_⟩
  have hb : o.low h.length = true := by
    rcases ok.2 n hn with z | ⟨o', z, zb⟩
    · rw [z] at q
      obtain ⟨a0, g1, g2⟩ := hr.ob n o q
      cases o with
      | lst ds =>
        obtain ⟨vs, e1, t⟩ := g2
        exact Rps.isBelow hr _ _ t
      | dic _ => exact g2.elim
      | ins _ _ => exact g2.elim
    · rw [q] at z; cases z; exact zb
  cases o with
  | lst ds =>
    obtain ⟨vs, e1, t⟩ := h2
    exact ⟨vs, e1, Rps.lows hr e _ _ hb t⟩
  | dic _ => exact h2.elim
  | ins _ _ => exact h2.elim
theorem Ext.cut (hr : HR K ι H h) (e : Ext ι H ι' H') : Ext ι H ι H' := ⟨⟨[], by simp, by simp⟩, fun a z => .inl z, fun a z => z, e.keep⟩
end

/-- a def's body keeps a promise, over data -/
def Impl (Φ : Fs) (f : Fn) (sp : Spc) : Prop := ∀ ds h Q, sp ds h Q NX → ds.length = f.np ∧
  wpSs Φ NX f.body { nx := fun _ h' => Fz h Q .non h', rt := Fz h Q } (startD f ds) h

section
variable {P : Program} {w : World} {K : PySem.W.Frag} {mg : Str → Option Value} {base : Heap} {x qual : Str} {st : Stmt} {f : Addr} {fd : FuncData} {N ps : List Str} {k : Nat} {sp : Spc} {Φ : Fs} {c : Fn} {B Fl Gl : List String}
theorem fn_D (G : Fun K x qual st f fd) (S : FnScope N ps (defScope st)) (hnp : c.np = ps.length) (hnn : c.nn = N.length) (hc : chkSs ⟨N, defScope st, fun _ => true, B, Fl, Gl⟩ c.body (defBody st) = true)
    (blt : ∀ n, B.contains n = true → mg (Str.ofString n) = none)
    (gl : ∀ g, Gl.contains g = true → ∃ v u, mg (Str.ofString g) = some u ∧ RelV v u ∧ ∀ ι H, Rp K ι H v (Φ.gl g))
    (fns : ∀ g, Fl.contains g = true → ∃ a fd ps j, j < k ∧ mg (Str.ofString g) = some (.ref a) ∧ PySem.W.keepIn K (.ref a) = true ∧ Binds K fd ps [] ∧ FnG P w K mg base j a fd ps (liftP K (Φ.fn g)))
    (impl : Impl Φ c sp) : FnG P w K mg base (k + 1) f fd ps (liftP K sp) := by
  refine fnG_of (N := N) G S (fun vs H Q E q => ?_) fun cdv A outer s H vs Q E hr q => ?_
  · obtain ⟨ι, ds, h, Qd, hrr, t, q, kk⟩ := q
    rw [t.length, (impl ds h Qd q).1, hnp]
  · obtain ⟨ι, ds, h, Qd, hrr, t, q, kk⟩ := q
    obtain ⟨hl, wp⟩ := impl ds h Qd q
    refine ⟨liftS ⟨K, ι, H⟩ (wpSs Φ NX c.body), sndSs (c := ⟨N, defScope st, fun _ => true, B, Fl, Gl⟩) ⟨rfl, rfl, rfl, rfl, S.nd, rfl, rfl, hr, blt, gl, fns⟩ c.body (defBody st) hc, ?_⟩
    have fin : Rt ⟨K, ι, H⟩ ι H (Fz h Qd) Q := fun d h' v H' ι' q e hr' rp => by
      rcases q with q | ⟨d', fr, ok, q⟩
      · exact kk _ _ _ _ _ q e hr' rp
      · exact kk _ _ _ _ ι q (e.cut hrr) (hrr.cut hr' e ok) (Rp.froze hrr hr' e fr _ rp)
    have lv := t.length
    refine ⟨ι, startD c ds, h, _, ⟨hrr, ?_, fun i d hd => ?_⟩, .refl, wp, fun τ' h' σ' H' ι' q e sr' => fin _ _ _ _ _ q e sr'.hr .non, fun _ _ _ _ _ q => q.elim, fun _ _ _ _ _ q => q.elim, fin⟩
    · unfold startD L2.start
      rw [List.length_append, List.length_append, List.length_map, List.length_map, List.length_replicate, List.length_replicate, hnn, lv]
    · unfold startD at hd
      unfold L2.start
      by_cases hi : i < ds.length
      · rw [List.getElem?_append_left (by simpa using hi), List.getElem?_map] at hd
        cases q : ds[i]? with
        | none => rw [q] at hd; cases hd
        | some d' =>
          rw [q] at hd
          cases hd
          obtain ⟨v, hv, rv⟩ := t.get q
          refine ⟨v, ?_, rv⟩
          rw [List.getElem?_append_left (by rw [List.length_map, lv]; exact hi), List.getElem?_map, hv]
          rfl
      · rw [List.getElem?_append_right (by simpa using hi), List.getElem?_replicate] at hd
        split at hd <;> cases hd
end
end Pf

namespace Pf
open PySem PySem.Spec PyProof.Rows L2

/-- what is wanted of a law: at every script of at most 63 ints it gives True -/
def spLaw : Spc := fun ds h Q _ => ∃ ns : List Int, ds = [.scr (ns.map .int)] ∧ h = [] ∧ ns.length ≤ 63 ∧ ∀ h', Q (.bl true) h'

theorem rps_ints {K : PySem.W.Frag} {ι : Ix} {H : Hp} : ∀ ns : List Int, Rps K ι H (ns.map V.int) (ns.map D.int)
  | [] => .nil
  | n :: ns => .cons (.int n) (rps_ints ns)
section
variable {P : Program} {w : World} {K : PySem.W.Frag} {mg mb : Str → Option Value} {k : Nat} {fa a : Addr} {fd : FuncData} {x : Str} {s1 : Shared} {vs : List Value} {ns : List Int}
/-- .. from an abstract heap in which at most the script is told -/
theorem law_at {H : Hp} (hin : K.In s1.heap) (hns : s1.heap.Ns mainGlobals mg) (hb : s1.heap.Ns builtinsNs mb) (hbb : ∀ x : Str, x ≠ "__name__" → mb x = bootBuiltins x) (hlim : s1.heap.NoLimit) (hg : s1.gens = #[])
    (ha : s1.heap.get? a = some { cls := .type "list", data := .seq vs.toArray }) (hl : ns.length ≤ 63) (hr : Rm k callerA)
    (G : ∀ base : Heap, K.In base → base.Ns mainGlobals mg → FnG P w K mg base k fa fd [x] (liftP K spLaw)) (hbind : ∀ (s : Shared) (u : Value), BindsTo s fd ⟨[u], []⟩ [(x, u)])
    (hS : ((∃ o, H a = some (.frz o (.lst (ns.map V.int))))) ∨ (∀ H', SqL K H' a (ns.map V.int))) (hO : ∀ b u, H b = some u → ∃ o xs, u = .frz o (.lst xs)) (hok : HOk P w H s1.heap) (hA : ∀ b, H b ≠ none → b = a) (hK : H a ≠ none → K.lookup a = none) :
    codeAny (model P w) callerA (.call (.ref fa) ⟨[.ref a], []⟩) (fun r s' => r = .ok (.ret (.bool true)) ∧ OldK s1.heap s'.heap ∧ s'.os = s1.os ∧ AllBare s'.gens) s1 := by
  have isA : ∀ {b : Addr} {u : HO}, H b = some u → b = a := fun {b u} e => hA b (by rw [e]; exact fun z => nomatch z)
  have noA : ∀ {b : Addr} {o : Obj} {es : Array DictEntry} {ep : Nat}, s1.heap.get? b = some o → o.data = .dict es ep → H b = none := fun {b o es ep} e d => by
    cases q : H b with
    | none => rfl
    | some u =>
      rw [isA q, ha] at e
      cases e
      exact nomatch d
  have nsB : ∀ {b : Addr} {m : Str → Option Value}, s1.heap.Ns b m → (hidT s1.heap H).Ns b m := fun {b m} z => by
    obtain ⟨o, es, ep, e, d, r⟩ := z
    exact ⟨o, es, ep, hidT_get e (noA e d), d, r⟩
  have inB : K.In (hidT s1.heap H) := fun b o e => hidT_get (hin b o e) (by
    cases q : H b with
    | none => rfl
    | some u =>
      have z := isA q
      subst z
      rw [hK (by rw [q]; exact fun z => nomatch z)] at e
      cases e)
  have M : Mod K mg (hidT s1.heap H) := ⟨inB, nsB hns, ⟨mb, nsB hb, hbb⟩, let ⟨mc, z1, z2⟩ := hlim; ⟨mc, nsB z1, z2⟩⟩
  have E : Env0 P w K mg (hidT s1.heap H) callerA [] s1 H := ⟨rfl, M, fun b o e => of_hidT e, Nat.le_of_eq (hidT_size _ _), trivial, (fun b z => absurd (show b ∈ ([] : List Addr) from z) (by simp)), hok, .of_eq hg⟩
  have sp : liftP K spLaw [V.ref a] H (fun v _ => v = .bl true) E0 := by
    refine ⟨⟨[], []⟩, [.scr (ns.map D.int)], [], fun d _ => d = .bl true, ⟨rfl, List.nodup_nil, (fun n o e => by simp at e), (fun a z => by simp at z)⟩, .cons (.scr ?_ (rps_ints ns)) .nil, ⟨ns, rfl, rfl, hl, fun _ => rfl⟩, fun d h' v H' ι' e _ _ r => ?_⟩
    · rcases hS with z | z
      · exact .inl ⟨z, by simp⟩
      · exact .inr z
    · rw [e] at r
      exact r.bv
  refine codeAny_mono ((G _ inB (nsB hns)).run callerA [] s1 H ⟨[.ref a], []⟩ [.ref a] [.ref a] _ E0 hr E (hbind s1 (.ref a)) (.cons rfl .nil) sp) fun r s' q => ?_
  cases r with
  | error _ => exact False.elim q
  | ok fl =>
    cases fl with
    | ret u =>
      obtain ⟨v, H', os, bare, un, hok', rv, e⟩ := q
      have e : v = V.bl true := e
      rw [e] at rv
      have rv : u = Value.bool true := rv
      refine ⟨by rw [rv], OldK.of_keep fun b o e => ?_, os, bare⟩
      cases z : H b with
      | none => exact un.keep b o e z (fun z => absurd (show b ∈ ([] : List Addr) from z) (by simp)) (by simp)
      | some u =>
        obtain ⟨ob, xs, z0⟩ := hO b u z
        subst z0
        obtain ⟨e1, _⟩ := hok b _ z
        obtain ⟨e2, _⟩ := hok' b _ (un.frzs b ob _ z)
        rw [e] at e1
        cases e1
        exact e2
    | _ => exact False.elim q
theorem law_G (hin : K.In s1.heap) (hns : s1.heap.Ns mainGlobals mg) (hb : s1.heap.Ns builtinsNs mb) (hbb : ∀ x : Str, x ≠ "__name__" → mb x = bootBuiltins x) (hlim : s1.heap.NoLimit) (hg : s1.gens = #[])
    (ha : s1.heap.get? a = some { cls := .type "list", data := .seq vs.toArray }) (hi : IntsAre vs ns) (hl : ns.length ≤ 63) (hr : Rm k callerA)
    (G : ∀ base : Heap, K.In base → base.Ns mainGlobals mg → FnG P w K mg base k fa fd [x] (liftP K spLaw)) (hbind : ∀ (s : Shared) (u : Value), BindsTo s fd ⟨[u], []⟩ [(x, u)]) :
    codeAny (model P w) callerA (.call (.ref fa) ⟨[.ref a], []⟩) (fun r s' => r = .ok (.ret (.bool true)) ∧ OldK s1.heap s'.heap ∧ s'.os = s1.os ∧ AllBare s'.gens) s1 := by
  have rv := vals_ints hi
  have hle : ns.length ≤ sizeLine := Nat.le_trans hl (by decide)
  have lv := hi.length
  cases hk : K.lookup a with
  | some o =>
    have e := hin a o hk
    rw [ha] at e
    cases e
    refine law_at (H := fun _ => none) hin hns hb hbb hlim hg ha hl hr G hbind (.inr fun H' => .inr ⟨_, vs.toArray, _, hk, rfl, rfl, rfl, by rw [List.size_toArray, lv]; exact hle, by simpa using rv⟩) (fun b u z => nomatch z) (fun b u z => nomatch z) (fun b z => absurd rfl z) (fun z => absurd rfl z)
  | none =>
    have at1 : ∀ {b : Addr} {u : HO}, (if b = a then some (HO.frz { cls := .type "list", data := .seq vs.toArray } (.lst (ns.map V.int))) else none) = some u → b = a ∧ u = .frz { cls := .type "list", data := .seq vs.toArray } (.lst (ns.map V.int)) := fun {b u} z => by
      by_cases hba : b = a
      · rw [if_pos hba] at z; cases z; exact ⟨hba, rfl⟩
      · rw [if_neg hba] at z; cases z
    refine law_at (H := fun b => if b = a then some (.frz { cls := .type "list", data := .seq vs.toArray } (.lst (ns.map V.int))) else none) hin hns hb hbb hlim hg ha hl hr G hbind (.inl ⟨_, if_pos rfl⟩)
      (fun b u z => ⟨_, _, (at1 z).2⟩) (fun b u z => ?_) (fun b z => ?_) (fun _ => hk)
    · obtain ⟨e1, e2⟩ := at1 z
      subst e1; subst e2
      exact ⟨ha, by rw [List.length_map]; exact hle, vs, _, rv, ha⟩
    · by_cases hba : b = a
      · exact hba
      · exact absurd (if_neg hba) z
end
/-- the end: from what the top has written, the law keeps its promise -/
theorem walk_G {l : PySem.W.OpenLaw} {k : Nat} {q : Program} {loose : List Str} {XP : (Str → Option Value) → Heap → Prop} {YP : World → Heap → Prop} {d : DefRec} {K : Params → PySem.W.Frag} {x : Str}
    (hn : l.most = some 63) (hdf : d.params.defaults = []) (hr : Rm k callerA) (hY : ∀ (w : World) (h : Heap), YP w h → (K w.params).In h)
    (G : ∀ (w : World) (mg : Str → Option Value) (fa : Addr) (h : Heap), (K w.params).In h → h.Ns mainGlobals mg → mg d.name = some (.ref fa) →
      ∃ fd : FuncData, (∀ (s : Shared) (u : Value), BindsTo s fd ⟨[u], []⟩ [(x, u)]) ∧ ∀ base : Heap, (K w.params).In base → base.Ns mainGlobals mg → FnG l.prog w (K w.params) mg base k fa fd [x] (liftP (K w.params) spLaw)) :
    PySem.W.WalkO q loose XP YP l.row.toRowW d [] (fun f vs => PySem.call f vs) := by
  refine Att.attach_call hn hdf fun w s0 s1 mg mb fa o pm cd doc a vs ns Gr Y ho hd hcd hmg hobj hints hlen hg => ?_
  have hin := hY w _ Y
  obtain ⟨fd, hb, g⟩ := G w mg fa _ hin Gr.T.g hmg
  exact law_G hin Gr.T.g Gr.T.b Gr.T.builtins Gr.T.nolimit hg hobj hints hlen hr g hb
end Pf

namespace Pf
open PySem PySem.Spec PyProof.Rows L2

theorem sone {Φ : Fs} {xq : DQ} {s : S} {ss : Ss} {K : DE} {σ : DS} {h : DH} (q : wpS Φ xq s { K with nx := fun σ' h' => wpSs Φ xq ss K σ' h' } σ h) : wpSs Φ xq (.cons s ss) K σ h := q
theorem snil {Φ : Fs} {xq : DQ} {K : DE} {σ : DS} {h : DH} (q : K.nx σ h) : wpSs Φ xq .nil K σ h := q

/-- a loop, by what holds ahead of each turn -/
theorem forL_inv {f : D → DE → DS → DH → Prop} {st : DH → Prop} (I : List D → DS → DH → Prop) {K : DE}
    (step : ∀ x r σ h, I (x :: r) σ h → st h ∧ ∀ K' : DE, K'.rt = K.rt → (∀ σ' h', I r σ' h' → K'.nx σ' h') → (∀ σ' h', I r σ' h' → K'.ct σ' h') → (∀ σ' h', K.nx σ' h' → K'.bk σ' h') → f x K' σ h)
    (fin : ∀ σ h, I [] σ h → st h ∧ K.nx σ h) : ∀ (items : List D) (σ : DS) (h : DH), I items σ h → forL f st items K σ h
  | [], σ, h, q => fin σ h q
  | x :: r, σ, h, q => by
    obtain ⟨q1, q2⟩ := step x r σ h q
    exact ⟨q1, q2 _ rfl (fun σ' h' z => forL_inv I step fin r σ' h' z) (fun σ' h' z => forL_inv I step fin r σ' h' z) fun _ _ z => z⟩
theorem compL_inv {f : D → DH → (Option D → DH → Prop) → Prop} {st : DH → Prop} (I : List D → List D → DH → Prop) {Q : List D → DH → Prop}
    (step : ∀ x r acc h, I (x :: r) acc h → st h ∧ ∀ k : Option D → DH → Prop, (∀ y h', I r (acc ++ [y]) h' → k (some y) h') → (∀ h', I r acc h' → k none h') → f x h k)
    (fin : ∀ acc h, I [] acc h → st h ∧ Q acc h) : ∀ (items acc : List D) (h : DH), I items acc h → compL f st items acc h Q
  | [], acc, h, q => fin acc h q
  | x :: r, acc, h, q => by
    obtain ⟨q1, q2⟩ := step x r acc h q
    refine ⟨q1, ?_⟩
    refine q2 (fun o h' => match o with | some y => compL f st r (acc ++ [y]) h' Q | none => compL f st r acc h' Q) (fun y h' z => ?_) fun h' z => ?_
    · exact compL_inv I step fin r (acc ++ [y]) h' z
    · exact compL_inv I step fin r acc h' z
/-- .. each item by a function, the heap as it was -/
theorem compL_map {f : D → DH → (Option D → DH → Prop) → Prop} {st : DH → Prop} {h : DH} (g : D → D) {Q : List D → DH → Prop} {items : List D} (hst : st h)
    (step : ∀ x, x ∈ items → ∀ k : Option D → DH → Prop, k (some (g x)) h → f x h k) (fin : Q (items.map g) h) : compL f st items [] h Q := by
  refine compL_inv (fun r acc h' => h' = h ∧ ∃ d, items = d ++ r ∧ acc = d.map g) (fun x r acc h' ⟨e, d, e1, e2⟩ => ?_) (fun acc h' ⟨e, d, e1, e2⟩ => ?_) items [] h ⟨rfl, [], rfl, rfl⟩
  · subst e
    refine ⟨hst, fun k k1 k2 => step x (by rw [e1]; simp) k (k1 _ _ ⟨rfl, d ++ [x], by rw [e1]; simp, by rw [e2]; simp⟩)⟩
  · subst e
    refine ⟨hst, ?_⟩
    rw [List.append_nil] at e1
    rw [e2, ← e1]
    exact fin
theorem blsOf_map {α : Type} (f : α → Bool) : ∀ xs : List α, blsOf (xs.map fun x => D.bl (f x)) = some (xs.map f)
  | [] => rfl
  | x :: xs => by
    show (blsOf (xs.map fun x => D.bl (f x))).map _ = _
    rw [blsOf_map f xs]
    rfl
section
variable {h : DH} {i j : Int} {x y : Str} {xs ys : List D} {n : Nat} {a b : Bool} {d : D}
theorem add_ii : binF h .add (.int i) (.int j) = some (.int (i + j)) := rfl
theorem sub_ii : binF h .sub (.int i) (.int j) = some (.int (i - j)) := rfl
theorem mul_ii : binF h .mul (.int i) (.int j) = if (-(2 ^ 64) < i ∧ i < 2 ^ 64) ∨ (-(2 ^ 64) < j ∧ j < 2 ^ 64) then some (.int (i * j)) else none := rfl
theorem fdiv_ii : binF h .fdiv (.int i) (.int j) = if 0 < j ∧ j < 1073741824 then some (.int (i / j)) else none := rfl
theorem mod_ii : binF h .mod (.int i) (.int j) = if 0 < j then some (.int (i % j)) else none := rfl
theorem pow_ii : binF h .pow (.int i) (.int j) = if 0 ≤ j ∧ j ≤ 1000000 ∧ i.natAbs < 2 ^ 64 then some (.int (i ^ j.toNat)) else none := rfl
theorem pow_10 : binF h .pow (.int 10) (.int j) = if 0 ≤ j ∧ j ≤ 1000000 then some (.int (10 ^ j.toNat)) else none := by
  have e : (Int.natAbs 10 < 2 ^ 64) = True := eq_true (by decide)
  rw [pow_ii]
  simp only [e, and_true]
theorem add_ss : binF h .add (.str x) (.str y) = if x.length + y.length ≤ 16777216 then some (.str (x ++ y)) else none := rfl
theorem mul_si : binF h .mul (.str x) (.int i) = if 0 ≤ i ∧ i ≤ 1000 ∧ x.length ≤ 1000 then some (.str (Txt.mul x i)) else none := rfl
theorem add_tt : binF h .add (.tup xs) (.tup ys) = if xs.length + ys.length ≤ 16777216 then some (.tup (xs ++ ys)) else none := rfl
theorem add_ll : binF h .add (.lst xs) (.lst ys) = if xs.length + ys.length ≤ 16777216 then some (.lst (xs ++ ys)) else none := rfl
theorem lstOf_l : lstOf h (.lst xs) = some xs := rfl
theorem lstOf_r (e : h[n]? = some (.lst xs)) : lstOf h (.ref n) = some xs := by simp only [lstOf, e]
theorem add_rl (e : h[n]? = some (.lst xs)) : binF h .add (.ref n) (.lst ys) = if xs.length + ys.length ≤ 16777216 then some (.lst (xs ++ ys)) else none := by
  show (match lstOf h (.ref n), lstOf h (.lst ys) with | some xs, some ys => if xs.length + ys.length ≤ 16777216 then some (D.lst (xs ++ ys)) else none | _, _ => none) = _
  rw [lstOf_r e]; rfl
theorem lt_ii : ltF (.int i) (.int j) = some (decide (i < j)) := rfl
theorem lt_ss : ltF (.str x) (.str y) = some (decide (x.cps.toList < y.cps.toList)) := rfl
theorem le_ii : leF (.int i) (.int j) = some (decide (i ≤ j)) := rfl
theorem le_ss : leF (.str x) (.str y) = some (!decide (y.cps.toList < x.cps.toList)) := rfl
theorem gt_ii : gtF (.int i) (.int j) = some (decide (j < i)) := rfl
theorem ge_ii : geF (.int i) (.int j) = some (decide (j ≤ i)) := rfl
theorem is_bb : isF (.bl a) (.bl b) = some (decide (a = b)) := rfl
theorem is_non : isF d .non = some (isNon d) := by cases d <;> rfl
theorem isNon_n : isNon .non = true := rfl
theorem isNon_i : isNon (.int i) = false := rfl
theorem isNon_s : isNon (.str x) = false := rfl
theorem isNon_b : isNon (.bl a) = false := rfl
theorem isNon_t : isNon (.tup xs) = false := rfl
theorem isNon_l : isNon (.lst xs) = false := rfl
theorem isNon_r : isNon (.ref n) = false := rfl
theorem isTup_t : isTup (.tup xs) = true := rfl
theorem isTup_l : isTup (.lst xs) = false := rfl
theorem isTup_r : isTup (.ref n) = false := rfl
theorem isTup_c : isTup (.scr xs) = false := rfl
theorem seqOf_t : seqOf h (.tup xs) = some xs := rfl
theorem seqOf_l : seqOf h (.lst xs) = some xs := rfl
theorem seqOf_c : seqOf h (.scr xs) = some xs := rfl
theorem seqOf_r (e : h[n]? = some (.lst xs)) : seqOf h (.ref n) = some xs := by simp only [seqOf, e]
theorem tyOf_i : tyOf h (.int i) = some .int := rfl
theorem tyOf_b : tyOf h (.bl a) = some .bool := rfl
theorem tyOf_s : tyOf h (.str x) = some .str := rfl
theorem tyOf_t : tyOf h (.tup xs) = some .tuple := rfl
theorem tyOf_l : tyOf h (.lst xs) = some .list := rfl
theorem tyOf_n : tyOf h .non = some .none := rfl
theorem tyOf_r (e : h[n]? = some (.lst xs)) : tyOf h (.ref n) = some .list := by simp only [tyOf, e]
theorem len_s : lenF h (.str x) = if x.length ≤ 16777216 then some x.length else none := rfl
theorem len_t : lenF h (.tup xs) = some xs.length := rfl
theorem len_l : lenF h (.lst xs) = some xs.length := rfl
theorem len_c : lenF h (.scr xs) = some xs.length := rfl
theorem len_r (e : h[n]? = some (.lst xs)) : lenF h (.ref n) = some xs.length := by
  show (seqOf h (.ref n)).map List.length = _
  rw [seqOf_r e]; rfl
theorem idx_s : idxF h (.str x) (.int i) = if x.length ≤ 16777216 then (atO x.cps.toList i).map fun c => .str (oneS c) else none := rfl
theorem idx_t : idxF h (.tup xs) (.int i) = atO xs i := rfl
theorem idx_l : idxF h (.lst xs) (.int i) = atO xs i := rfl
theorem idx_c : idxF h (.scr xs) (.int i) = atO xs i := rfl
theorem idx_r (e : h[n]? = some (.lst xs)) : idxF h (.ref n) (.int i) = atO xs i := by
  show (seqOf h (.ref n)).bind (fun xs => atO xs i) = _
  rw [seqOf_r e]; rfl
end
theorem ix0 {n : Nat} : ixO (n + 1) 0 = some 0 := by unfold ixO; rw [if_pos (by decide), if_pos (by omega)]; rfl
theorem ix1 {n : Nat} : ixO (n + 2) 1 = some 1 := by unfold ixO; rw [if_pos (by decide), if_pos (by omega)]; rfl
theorem ix2 {n : Nat} : ixO (n + 3) 2 = some 2 := by unfold ixO; rw [if_pos (by decide), if_pos (by omega)]; rfl
theorem ix3 {n : Nat} : ixO (n + 4) 3 = some 3 := by unfold ixO; rw [if_pos (by decide), if_pos (by omega)]; rfl
theorem ix4 {n : Nat} : ixO (n + 5) 4 = some 4 := by unfold ixO; rw [if_pos (by decide), if_pos (by omega)]; rfl
theorem ix5 {n : Nat} : ixO (n + 6) 5 = some 5 := by unfold ixO; rw [if_pos (by decide), if_pos (by omega)]; rfl
section
variable {α : Type} {a b c d e f : α} {r : List α}
theorem at0 : atO (a :: r) 0 = some a := by unfold atO; rw [List.length_cons, ix0]; rfl
theorem at1 : atO (a :: b :: r) 1 = some b := by unfold atO; rw [List.length_cons, List.length_cons, ix1]; rfl
theorem at2 : atO (a :: b :: c :: r) 2 = some c := by unfold atO; rw [show (a :: b :: c :: r).length = r.length + 3 from rfl, ix2]; rfl
theorem at3 : atO (a :: b :: c :: d :: r) 3 = some d := by unfold atO; rw [show (a :: b :: c :: d :: r).length = r.length + 4 from rfl, ix3]; rfl
theorem at4 : atO (a :: b :: c :: d :: e :: r) 4 = some e := by unfold atO; rw [show (a :: b :: c :: d :: e :: r).length = r.length + 5 from rfl, ix4]; rfl
theorem at5 : atO (a :: b :: c :: d :: e :: f :: r) 5 = some f := by unfold atO; rw [show (a :: b :: c :: d :: e :: f :: r).length = r.length + 6 from rfl, ix5]; rfl
theorem atm1 : atO (r ++ [a]) (-1) = some a := by
  have l : (r ++ [a]).length = r.length + 1 := by simp
  have e : (-1 + ((r.length + 1 : Nat) : Int)).toNat = r.length := by omega
  unfold atO ixO
  rw [l, if_neg (by decide), if_pos (by omega), Option.bind_some, e, List.getElem?_append_right (Nat.le_refl _), Nat.sub_self]
  rfl
theorem atO_nat {xs : List α} {i : Int} (h0 : 0 ≤ i) (h1 : i < xs.length) : atO xs i = some (xs[i.toNat]'(by omega)) := by
  unfold atO ixO
  rw [if_pos h0, if_pos h1, Option.bind_some, List.getElem?_eq_getElem]
theorem at_mem {P : α → Prop} {xs : List α} {i : Int} (h : ∀ x ∈ xs, P x) (h0 : 0 ≤ i) (h1 : i < xs.length) : ∃ x, atO xs i = some x ∧ P x := ⟨_, atO_nat h0 h1, h _ (List.getElem_mem _)⟩
end
theorem eq_ii {h : DH} {i j : Int} : eqF h (.int i) (.int j) = some (decide (i = j)) := by
  simp only [eqF, eqF0, res, D.pure, D.depth, D.eqv, Bool.and_self, Bool.true_and, Nat.zero_le, decide_true, Bool.or_self, if_true]
  by_cases e : i = j
  · subst e; simp
  · rw [decide_eq_false e, beq_eq_false_iff_ne.mpr e]
theorem eq_bb {h : DH} {i j : Bool} : eqF h (.bl i) (.bl j) = some (i == j) := by
  simp only [eqF, eqF0, res, D.pure, D.depth, D.eqv, Bool.and_self, Bool.true_and, Nat.zero_le, decide_true, Bool.or_self, if_true]
theorem eq_ss {h : DH} {x y : Str} : eqF h (.str x) (.str y) = some (x == y) := rfl
theorem eq_pure {h : DH} {x y : D} (p : x.pure = true) (q : y.pure = true) (d : x.depth ≤ 64) : eqF h x y = some (D.eqv x y) := by
  rcases (show (∃ a b, x = .str a ∧ y = .str b) ∨ eqF h x y = eqF0 h x y from by
    cases x <;> first | exact .inr rfl | skip
    cases y <;> first | exact .inr rfl | exact .inl ⟨_, _, rfl, rfl⟩) with ⟨a, b, rfl, rfl⟩ | e
  · simp [eqF, D.eqv]
  rw [e]
  have rx : res h x = x := by cases x <;> first | rfl | cases p
  have ry : res h y = y := by cases y <;> first | rfl | cases q
  unfold eqF0
  simp only [rx, ry, p, q, d, Bool.and_self, Bool.true_and, decide_true, Bool.true_or, if_true]
mutual
theorem eqv_self : ∀ d : D, d.pure = true → D.eqv d d = true
  | .non, _ => rfl
  | .bl b, _ => by simp [D.eqv]
  | .int i, _ => by simp [D.eqv]
  | .str s, _ => by simp [D.eqv]
  | .tup xs, h => by
    show D.eqvs xs xs = true
    exact eqvs_self xs h
  | .lst xs, h => by
    show D.eqvs xs xs = true
    exact eqvs_self xs h
theorem eqvs_self : ∀ ds : List D, D.pures ds = true → D.eqvs ds ds = true
  | [], _ => rfl
  | d :: ds, h => by
    have h : (d.pure && D.pures ds) = true := h
    rw [Bool.and_eq_true] at h
    show (D.eqv d d && D.eqvs ds ds) = true
    rw [eqv_self d h.1, eqvs_self ds h.2]; rfl
end
theorem pures_mem : ∀ {xs : List D} {x : D}, D.pures xs = true → x ∈ xs → x.pure = true
  | y :: ys, x, h, m => by
    have h : (y.pure && D.pures ys) = true := h
    rw [Bool.and_eq_true] at h
    rcases List.mem_cons.mp m with e | m
    · rw [e]; exact h.1
    · exact pures_mem h.2 m
theorem pures_of : ∀ {xs : List D}, (∀ x ∈ xs, x.pure = true) → D.pures xs = true
  | [], _ => rfl
  | x :: xs, h => by
    show (x.pure && D.pures xs) = true
    rw [h x (by simp), pures_of fun y m => h y (by simp [m])]; rfl
theorem depth_mem : ∀ {xs : List D} {x : D}, x ∈ xs → x.depth ≤ D.depths xs
  | y :: ys, x, m => by
    show x.depth ≤ max y.depth (D.depths ys)
    rcases List.mem_cons.mp m with e | m
    · rw [e]; exact Nat.le_max_left _ _
    · exact Nat.le_trans (depth_mem m) (Nat.le_max_right _ _)
theorem depths_le {k : Nat} : ∀ {xs : List D}, (∀ x ∈ xs, x.depth ≤ k) → D.depths xs ≤ k
  | [], _ => Nat.zero_le _
  | x :: xs, h => by
    show max x.depth (D.depths xs) ≤ k
    exact Nat.max_le.mpr ⟨h x (by simp), depths_le fun y m => h y (by simp [m])⟩
def noSp : Spc := fun _ _ _ _ => False
/-- one turn less -/
def famP (sp : Nat → Spc) : Nat → Spc
  | 0 => noSp
  | k + 1 => sp k
def mkF (l : List (String × Spc)) : Fs := ⟨fun x => (l.lookup x).getD noSp, fun _ => .non⟩
section
variable {P : Program} {w : World} {K : PySem.W.Frag} {mg : Str → Option Value} {base : Heap} {k : Nat} {Φ : Fs} {x : String} {Fl : List String}
theorem fnG_false {f : Addr} {fd : FuncData} {ps : List Str} : FnG P w K mg base k f fd ps (liftP K noSp) :=
  ⟨fun vs H Q E q => by obtain ⟨_, _, _, _, _, _, q, _⟩ := q; exact q.elim, fun A outer s H args us vs Q E hr e b r q => by obtain ⟨_, _, _, _, _, _, q, _⟩ := q; exact q.elim⟩
theorem blt_nil : ∀ n, ([] : List String).contains n = true → mg (Str.ofString n) = none := fun n h => by simp at h
theorem blt_cons {B : List String} (e : mg (Str.ofString x) = none) (r : ∀ n, B.contains n = true → mg (Str.ofString n) = none) : ∀ n, (x :: B).contains n = true → mg (Str.ofString n) = none := fun n h => by
  rw [List.contains_cons, Bool.or_eq_true] at h
  rcases h with h | h
  · rw [eq_of_beq h]; exact e
  · exact r n h
theorem gl_nil : ∀ g, ([] : List String).contains g = true → ∃ v u, mg (Str.ofString g) = some u ∧ RelV v u ∧ ∀ ι H, Rp K ι H v (Φ.gl g) := fun n h => by simp at h
theorem fns_nil : ∀ g, ([] : List String).contains g = true → ∃ a fd ps j, j < k ∧ mg (Str.ofString g) = some (.ref a) ∧ PySem.W.keepIn K (.ref a) = true ∧ Binds K fd ps [] ∧ FnG P w K mg base j a fd ps (liftP K (Φ.fn g)) := fun n h => by simp at h
theorem fns_cons (e : ∃ a fd ps j, j < k ∧ mg (Str.ofString x) = some (.ref a) ∧ PySem.W.keepIn K (.ref a) = true ∧ Binds K fd ps [] ∧ FnG P w K mg base j a fd ps (liftP K (Φ.fn x)))
    (r : ∀ g, Fl.contains g = true → ∃ a fd ps j, j < k ∧ mg (Str.ofString g) = some (.ref a) ∧ PySem.W.keepIn K (.ref a) = true ∧ Binds K fd ps [] ∧ FnG P w K mg base j a fd ps (liftP K (Φ.fn g))) :
    ∀ g, (x :: Fl).contains g = true → ∃ a fd ps j, j < k ∧ mg (Str.ofString g) = some (.ref a) ∧ PySem.W.keepIn K (.ref a) = true ∧ Binds K fd ps [] ∧ FnG P w K mg base j a fd ps (liftP K (Φ.fn g)) := fun n h => by
  rw [List.contains_cons, Bool.or_eq_true] at h
  rcases h with h | h
  · rw [eq_of_beq h]; exact e
  · exact r n h
end
end Pf

namespace Pf
open PySem PySem.Spec PyProof.Rows L2
def f_is_number : Fn := ⟨1, 1, (.cons (.ret (.and (.isi (.var 0) [.int]) (.not (.isi (.var 0) [.bool])))) .nil)⟩
def isNum : Option Ty → Bool
  | some .int => true
  | _ => false
def spIsNumber : Spc := fun ds h Q _ => ∃ d t, ds = [d] ∧ tyOf h d = some t ∧ Q (.bl (isNum (some t))) h
theorem i_is_number {Φ : Fs} : Impl Φ f_is_number spIsNumber := by
  rintro ds h Q ⟨d, t, rfl, ht, q⟩
  refine ⟨rfl, sone ?_⟩
  simp only [wpE, wpEs, wpCs, wpIt, wpS, bindT, bindTs, cmpF, bfW, methTy, methW, mkL, Ts.len, List.getElem?_cons_zero, List.getElem?_cons_succ, List.set_cons_zero, List.set_cons_succ, Option.some.injEq, D.int.injEq, D.bl.injEq, D.str.injEq, D.tup.injEq, D.lst.injEq, D.ref.injEq, exists_eq_left, exists_eq_left', true_and, and_true, if_true, if_false, Bool.false_eq_true, Bool.true_eq_false, reduceCtorEq, List.length_cons, List.length_nil, Option.map_some, List.any_cons, List.any_nil, Bool.or_false, isTy, decide_true, decide_false, Bool.and_true, Bool.and_false, Bool.or_true, Bool.true_or, Bool.false_or, Bool.false_and, Bool.true_and, Bool.not_true, Bool.not_false, startD, List.map_cons, List.map_nil, List.cons_append, List.nil_append, List.replicate_zero, List.replicate_succ, Nat.reduceSub, Nat.reduceAdd, Option.isSome_some, wipeD, false_and, and_false, exists_false, false_or, or_false, gt_iff_lt, ge_iff_le, at0, at1, at2, at3, at4, at5, atm1, ix0, ix1, ix2, ix3, ix4, Option.bind_some, decide_eq_true_eq, eq_ii, eq_bb, eq_ss, add_ii, sub_ii, mul_ii, fdiv_ii, mod_ii, pow_10, Nat.reduceLeDiff, Nat.zero_le, Int.reduceLE, Int.reduceLT, Nat.reducePow, Int.reducePow, Int.reduceNeg, Int.reduceToNat, Int.reduceSub, Int.reduceMul, Int.reduceAdd, or_true, true_or, Nat.reduceLT, and_self, Int.reduceEq, Nat.reduceEqDiff, exists_and_left, add_ss, mul_si, add_tt, add_ll, lstOf_l, lt_ii, lt_ss, le_ii, le_ss, gt_ii, ge_ii, is_bb, is_non, isNon_n, isNon_i, isNon_s, isNon_b, isNon_t, isNon_l, isNon_r, isTup_t, isTup_l, isTup_r, isTup_c, seqOf_t, seqOf_l, seqOf_c, tyOf_i, tyOf_b, tyOf_s, tyOf_t, tyOf_l, tyOf_n, len_s, len_t, len_l, len_c, idx_s, idx_t, idx_l, idx_c, f_is_number, ht]
  cases t <;> exact .inl q
def f_is_value : Fn := ⟨1, 2, (.cons (.ite (.isi (.var 0) [.str]) (.cons (.ret (.bf .all false (.cons (.comp false [1] (.name 1) (.seq (.var 0)) .nil (.chain .le .le (.str " ") (.var 1) (.str "~"))) .nil))) .nil) .nil) (.cons (.ret (.or (.cmp .is (.var 0) .non) (.call "is_number" (.cons (.var 0) .nil)))) .nil))⟩
/-- a sign that may stand in a value's text -/
def okc (c : Nat) : Bool := decide (32 ≤ c) && decide (c ≤ 126)
def okT (s : Str) : Bool := s.cps.toList.all okc
def isVal : D → Bool
  | .non => true
  | .int _ => true
  | .str s => okT s
  | _ => false
/-- what is_value may be asked of -/
def askV (d : D) : Prop := d.pure = true ∧ ∀ s, d = .str s → s.length ≤ 16777216
def spIsValue : Spc := fun ds h Q _ => ∃ d, ds = [d] ∧ askV d ∧ Q (.bl (isVal d)) h
theorem lt_one (a b : Nat) : decide (([a] : List Nat) < [b]) = decide (a < b) := by
  apply decide_eq_decide.mpr
  constructor
  · intro h
    rcases List.cons_lt_cons_iff.mp h with h | ⟨_, h⟩
    · exact h
    · exact absurd h (by simp)
  · intro h
    exact List.cons_lt_cons_iff.mpr (.inl h)
theorem okc_eq (c : Nat) : (!decide (c < 32) && !decide (126 < c)) = okc c := by
  unfold okc
  by_cases h1 : c < 32 <;> by_cases h2 : 126 < c <;> simp [h1, h2] <;> omega
theorem i_is_value {Φ : Fs} (e1 : Φ.fn "is_number" = spIsNumber) : Impl Φ f_is_value spIsValue := by
  rintro ds h Q ⟨d, rfl, ⟨ht, hs⟩, q⟩
  refine ⟨rfl, sone ?_⟩
  cases d with
  | str s =>
    simp only [wpE, wpEs, wpCs, wpIt, wpS, bindT, bindTs, cmpF, bfW, methTy, methW, mkL, Ts.len, List.getElem?_cons_zero, List.getElem?_cons_succ, List.set_cons_zero, List.set_cons_succ, Option.some.injEq, D.int.injEq, D.bl.injEq, D.str.injEq, D.tup.injEq, D.lst.injEq, D.ref.injEq, exists_eq_left, exists_eq_left', true_and, and_true, if_true, if_false, Bool.false_eq_true, Bool.true_eq_false, reduceCtorEq, List.length_cons, List.length_nil, Option.map_some, List.any_cons, List.any_nil, Bool.or_false, isTy, decide_true, decide_false, Bool.and_true, Bool.and_false, Bool.or_true, Bool.true_or, Bool.false_or, Bool.false_and, Bool.true_and, Bool.not_true, Bool.not_false, startD, List.map_cons, List.map_nil, List.cons_append, List.nil_append, List.replicate_zero, List.replicate_succ, Nat.reduceSub, Nat.reduceAdd, Option.isSome_some, wipeD, false_and, and_false, exists_false, false_or, or_false, gt_iff_lt, ge_iff_le, at0, at1, at2, at3, at4, at5, atm1, ix0, ix1, ix2, ix3, ix4, Option.bind_some, decide_eq_true_eq, eq_ii, eq_bb, eq_ss, add_ii, sub_ii, mul_ii, fdiv_ii, mod_ii, pow_10, Nat.reduceLeDiff, Nat.zero_le, Int.reduceLE, Int.reduceLT, Nat.reducePow, Int.reducePow, Int.reduceNeg, Int.reduceToNat, Int.reduceSub, Int.reduceMul, Int.reduceAdd, or_true, true_or, Nat.reduceLT, and_self, Int.reduceEq, Nat.reduceEqDiff, exists_and_left, add_ss, mul_si, add_tt, add_ll, lstOf_l, lt_ii, lt_ss, le_ii, le_ss, gt_ii, ge_ii, is_bb, is_non, isNon_n, isNon_i, isNon_s, isNon_b, isNon_t, isNon_l, isNon_r, isTup_t, isTup_l, isTup_r, isTup_c, seqOf_t, seqOf_l, seqOf_c, tyOf_i, tyOf_b, tyOf_s, tyOf_t, tyOf_l, tyOf_n, len_s, len_t, len_l, len_c, idx_s, idx_t, idx_l, idx_c, f_is_value]
    refine sone ?_
    simp only [wpE, wpEs, wpCs, wpIt, wpS, bindT, bindTs, cmpF, bfW, methTy, methW, mkL, Ts.len, List.getElem?_cons_zero, List.getElem?_cons_succ, List.set_cons_zero, List.set_cons_succ, Option.some.injEq, D.int.injEq, D.bl.injEq, D.str.injEq, D.tup.injEq, D.lst.injEq, D.ref.injEq, exists_eq_left, exists_eq_left', true_and, and_true, if_true, if_false, Bool.false_eq_true, Bool.true_eq_false, reduceCtorEq, List.length_cons, List.length_nil, Option.map_some, List.any_cons, List.any_nil, Bool.or_false, isTy, decide_true, decide_false, Bool.and_true, Bool.and_false, Bool.or_true, Bool.true_or, Bool.false_or, Bool.false_and, Bool.true_and, Bool.not_true, Bool.not_false, startD, List.map_cons, List.map_nil, List.cons_append, List.nil_append, List.replicate_zero, List.replicate_succ, Nat.reduceSub, Nat.reduceAdd, Option.isSome_some, wipeD, false_and, and_false, exists_false, false_or, or_false, gt_iff_lt, ge_iff_le, at0, at1, at2, at3, at4, at5, atm1, ix0, ix1, ix2, ix3, ix4, Option.bind_some, decide_eq_true_eq, eq_ii, eq_bb, eq_ss, add_ii, sub_ii, mul_ii, fdiv_ii, mod_ii, pow_10, Nat.reduceLeDiff, Nat.zero_le, Int.reduceLE, Int.reduceLT, Nat.reducePow, Int.reducePow, Int.reduceNeg, Int.reduceToNat, Int.reduceSub, Int.reduceMul, Int.reduceAdd, or_true, true_or, Nat.reduceLT, and_self, Int.reduceEq, Nat.reduceEqDiff, exists_and_left, add_ss, mul_si, add_tt, add_ll, lstOf_l, lt_ii, lt_ss, le_ii, le_ss, gt_ii, ge_ii, is_bb, is_non, isNon_n, isNon_i, isNon_s, isNon_b, isNon_t, isNon_l, isNon_r, isTup_t, isTup_l, isTup_r, isTup_c, seqOf_t, seqOf_l, seqOf_c, tyOf_i, tyOf_b, tyOf_s, tyOf_t, tyOf_l, tyOf_n, len_s, len_t, len_l, len_c, idx_s, idx_t, idx_l, idx_c]
    refine ⟨hs s rfl, compL_map (fun x => match x with | .str z => .bl (okT z) | _ => .non) trivial (fun x hx k hk => ?_) ?_⟩
    · obtain ⟨c, hc, rfl⟩ := List.mem_map.mp hx
      simp only [wpE, wpEs, wpCs, wpIt, wpS, bindT, bindTs, cmpF, bfW, methTy, methW, mkL, Ts.len, List.getElem?_cons_zero, List.getElem?_cons_succ, List.set_cons_zero, List.set_cons_succ, Option.some.injEq, D.int.injEq, D.bl.injEq, D.str.injEq, D.tup.injEq, D.lst.injEq, D.ref.injEq, exists_eq_left, exists_eq_left', true_and, and_true, if_true, if_false, Bool.false_eq_true, Bool.true_eq_false, reduceCtorEq, List.length_cons, List.length_nil, Option.map_some, List.any_cons, List.any_nil, Bool.or_false, isTy, decide_true, decide_false, Bool.and_true, Bool.and_false, Bool.or_true, Bool.true_or, Bool.false_or, Bool.false_and, Bool.true_and, Bool.not_true, Bool.not_false, startD, List.map_cons, List.map_nil, List.cons_append, List.nil_append, List.replicate_zero, List.replicate_succ, Nat.reduceSub, Nat.reduceAdd, Option.isSome_some, wipeD, false_and, and_false, exists_false, false_or, or_false, gt_iff_lt, ge_iff_le, at0, at1, at2, at3, at4, at5, atm1, ix0, ix1, ix2, ix3, ix4, Option.bind_some, decide_eq_true_eq, eq_ii, eq_bb, eq_ss, add_ii, sub_ii, mul_ii, fdiv_ii, mod_ii, pow_10, Nat.reduceLeDiff, Nat.zero_le, Int.reduceLE, Int.reduceLT, Nat.reducePow, Int.reducePow, Int.reduceNeg, Int.reduceToNat, Int.reduceSub, Int.reduceMul, Int.reduceAdd, or_true, true_or, Nat.reduceLT, and_self, Int.reduceEq, Nat.reduceEqDiff, exists_and_left, add_ss, mul_si, add_tt, add_ll, lstOf_l, lt_ii, lt_ss, le_ii, le_ss, gt_ii, ge_ii, is_bb, is_non, isNon_n, isNon_i, isNon_s, isNon_b, isNon_t, isNon_l, isNon_r, isTup_t, isTup_l, isTup_r, isTup_c, seqOf_t, seqOf_l, seqOf_c, tyOf_i, tyOf_b, tyOf_s, tyOf_t, tyOf_l, tyOf_n, len_s, len_t, len_l, len_c, idx_s, idx_t, idx_l, idx_c]
      have e : okT (oneS c) = okc c := by simp [okT, oneS]
      rw [show (oneS c).cps.toList = [c] from rfl, show (Str.ofString " ").cps.toList = [32] from rfl, show (Str.ofString "~").cps.toList = [126] from rfl, lt_one, lt_one]
      have e2 := okc_eq c
      split
      · rename_i z
        rw [z, Bool.true_and] at e2
        rw [e2, ← e]; exact hk
      · rename_i z
        rw [Bool.not_eq_true] at z
        rw [z, Bool.false_and] at e2
        rw [e2, ← e]; exact hk
    · refine ⟨s.cps.toList.map okc, ?_, .inl ?_⟩
      · rw [List.map_map, show ((fun x => match x with | D.str z => D.bl (okT z) | _ => D.non) ∘ fun c => D.str (oneS c)) = fun c => D.bl (okc c) from funext fun c => by simp [okT, oneS]]
        exact blsOf_map okc _
      · rw [List.all_map]; exact q
  | dic _ _ => cases ht
  | scr _ => cases ht
  | ref _ => cases ht
  | exc _ _ _ => cases ht
  | _ =>
    simp only [wpE, wpEs, wpCs, wpIt, wpS, bindT, bindTs, cmpF, bfW, methTy, methW, mkL, Ts.len, List.getElem?_cons_zero, List.getElem?_cons_succ, List.set_cons_zero, List.set_cons_succ, Option.some.injEq, D.int.injEq, D.bl.injEq, D.str.injEq, D.tup.injEq, D.lst.injEq, D.ref.injEq, exists_eq_left, exists_eq_left', true_and, and_true, if_true, if_false, Bool.false_eq_true, Bool.true_eq_false, reduceCtorEq, List.length_cons, List.length_nil, Option.map_some, List.any_cons, List.any_nil, Bool.or_false, isTy, decide_true, decide_false, Bool.and_true, Bool.and_false, Bool.or_true, Bool.true_or, Bool.false_or, Bool.false_and, Bool.true_and, Bool.not_true, Bool.not_false, startD, List.map_cons, List.map_nil, List.cons_append, List.nil_append, List.replicate_zero, List.replicate_succ, Nat.reduceSub, Nat.reduceAdd, Option.isSome_some, wipeD, false_and, and_false, exists_false, false_or, or_false, gt_iff_lt, ge_iff_le, at0, at1, at2, at3, at4, at5, atm1, ix0, ix1, ix2, ix3, ix4, Option.bind_some, decide_eq_true_eq, eq_ii, eq_bb, eq_ss, add_ii, sub_ii, mul_ii, fdiv_ii, mod_ii, pow_10, Nat.reduceLeDiff, Nat.zero_le, Int.reduceLE, Int.reduceLT, Nat.reducePow, Int.reducePow, Int.reduceNeg, Int.reduceToNat, Int.reduceSub, Int.reduceMul, Int.reduceAdd, or_true, true_or, Nat.reduceLT, and_self, Int.reduceEq, Nat.reduceEqDiff, exists_and_left, add_ss, mul_si, add_tt, add_ll, lstOf_l, lt_ii, lt_ss, le_ii, le_ss, gt_ii, ge_ii, is_bb, is_non, isNon_n, isNon_i, isNon_s, isNon_b, isNon_t, isNon_l, isNon_r, isTup_t, isTup_l, isTup_r, isTup_c, seqOf_t, seqOf_l, seqOf_c, tyOf_i, tyOf_b, tyOf_s, tyOf_t, tyOf_l, tyOf_n, len_s, len_t, len_l, len_c, idx_s, idx_t, idx_l, idx_c, f_is_value]
    refine snil (sone ?_)
    simp only [wpE, wpEs, wpCs, wpIt, wpS, bindT, bindTs, cmpF, bfW, methTy, methW, mkL, Ts.len, List.getElem?_cons_zero, List.getElem?_cons_succ, List.set_cons_zero, List.set_cons_succ, Option.some.injEq, D.int.injEq, D.bl.injEq, D.str.injEq, D.tup.injEq, D.lst.injEq, D.ref.injEq, exists_eq_left, exists_eq_left', true_and, and_true, if_true, if_false, Bool.false_eq_true, Bool.true_eq_false, reduceCtorEq, List.length_cons, List.length_nil, Option.map_some, List.any_cons, List.any_nil, Bool.or_false, isTy, decide_true, decide_false, Bool.and_true, Bool.and_false, Bool.or_true, Bool.true_or, Bool.false_or, Bool.false_and, Bool.true_and, Bool.not_true, Bool.not_false, startD, List.map_cons, List.map_nil, List.cons_append, List.nil_append, List.replicate_zero, List.replicate_succ, Nat.reduceSub, Nat.reduceAdd, Option.isSome_some, wipeD, false_and, and_false, exists_false, false_or, or_false, gt_iff_lt, ge_iff_le, at0, at1, at2, at3, at4, at5, atm1, ix0, ix1, ix2, ix3, ix4, Option.bind_some, decide_eq_true_eq, eq_ii, eq_bb, eq_ss, add_ii, sub_ii, mul_ii, fdiv_ii, mod_ii, pow_10, Nat.reduceLeDiff, Nat.zero_le, Int.reduceLE, Int.reduceLT, Nat.reducePow, Int.reducePow, Int.reduceNeg, Int.reduceToNat, Int.reduceSub, Int.reduceMul, Int.reduceAdd, or_true, true_or, Nat.reduceLT, and_self, Int.reduceEq, Nat.reduceEqDiff, exists_and_left, add_ss, mul_si, add_tt, add_ll, lstOf_l, lt_ii, lt_ss, le_ii, le_ss, gt_ii, ge_ii, is_bb, is_non, isNon_n, isNon_i, isNon_s, isNon_b, isNon_t, isNon_l, isNon_r, isTup_t, isTup_l, isTup_r, isTup_c, seqOf_t, seqOf_l, seqOf_c, tyOf_i, tyOf_b, tyOf_s, tyOf_t, tyOf_l, tyOf_n, len_s, len_t, len_l, len_c, idx_s, idx_t, idx_l, idx_c, e1]
    first
      | exact .inl q
      | exact ⟨_, _, rfl, rfl, _, rfl, .inl q⟩
def Val (d : D) : Prop := isVal d = true ∧ ∀ s, d = .str s → s.length ≤ 100000
theorem okc_small {c : Nat} (h : okc c = true) : c < 0x110000 := by
  unfold okc at h
  simp only [Bool.and_eq_true, decide_eq_true_eq] at h
  omega
theorem okT_pure {s : Str} (h : okT s = true) : (D.str s).pure = true := by
  show s.cps.all (fun x => decide (x < 0x110000)) = true
  rw [← Array.all_toList, List.all_eq_true]
  intro c hc
  exact decide_eq_true (okc_small (List.all_eq_true.mp h c hc))
theorem Val.pure {d : D} (h : Val d) : d.pure = true := by
  cases d with
  | str s => exact okT_pure h.1
  | non => rfl
  | int _ => rfl
  | _ => cases h.1
theorem Val.cases {d : D} (h : Val d) : d = .non ∨ (∃ i, d = .int i) ∨ ∃ s, d = .str s ∧ okT s = true ∧ s.length ≤ 100000 := by
  cases d with
  | str s => exact .inr (.inr ⟨s, rfl, h.1, h.2 s rfl⟩)
  | non => exact .inl rfl
  | int i => exact .inr (.inl ⟨i, rfl⟩)
  | _ => cases h.1
theorem Val.ask {d : D} (h : Val d) : askV d := ⟨h.pure, fun s e => Nat.le_trans (h.2 s e) (by decide)⟩
def rankD : D → D
  | .non => .tup [.int 0, .int 0, .str ""]
  | .str s => .tup [.int 2, .int 0, .str s]
  | d => .tup [.int 1, d, .str ""]
def f_rank : Fn := ⟨1, 1, (.cons (.ite (.cmp .is (.var 0) .non) (.cons (.ret (.tup (.cons (.int 0) (.cons (.int 0) (.cons (.str "") .nil))))) .nil) .nil) (.cons (.ite (.isi (.var 0) [.str]) (.cons (.ret (.tup (.cons (.int 2) (.cons (.int 0) (.cons (.var 0) .nil))))) .nil) .nil) (.cons (.ret (.tup (.cons (.int 1) (.cons (.var 0) (.cons (.str "") .nil))))) .nil)))⟩
def spRank : Spc := fun ds h Q _ => ∃ d, ds = [d] ∧ d.pure = true ∧ Q (rankD d) h
theorem i_rank {Φ : Fs} : Impl Φ f_rank spRank := by
  rintro ds h Q ⟨d, rfl, hp, q⟩
  refine ⟨rfl, sone ?_⟩
  cases d with
  | dic _ _ => cases hp
  | scr _ => cases hp
  | ref _ => cases hp
  | exc _ _ _ => cases hp
  | non => simp only [wpE, wpEs, wpCs, wpIt, wpS, bindT, bindTs, cmpF, bfW, methTy, methW, mkL, Ts.len, List.getElem?_cons_zero, List.getElem?_cons_succ, List.set_cons_zero, List.set_cons_succ, Option.some.injEq, D.int.injEq, D.bl.injEq, D.str.injEq, D.tup.injEq, D.lst.injEq, D.ref.injEq, exists_eq_left, exists_eq_left', true_and, and_true, if_true, if_false, Bool.false_eq_true, Bool.true_eq_false, reduceCtorEq, List.length_cons, List.length_nil, Option.map_some, List.any_cons, List.any_nil, Bool.or_false, isTy, decide_true, decide_false, Bool.and_true, Bool.and_false, Bool.or_true, Bool.true_or, Bool.false_or, Bool.false_and, Bool.true_and, Bool.not_true, Bool.not_false, startD, List.map_cons, List.map_nil, List.cons_append, List.nil_append, List.replicate_zero, List.replicate_succ, Nat.reduceSub, Nat.reduceAdd, Option.isSome_some, wipeD, false_and, and_false, exists_false, false_or, or_false, gt_iff_lt, ge_iff_le, at0, at1, at2, at3, at4, at5, atm1, ix0, ix1, ix2, ix3, ix4, Option.bind_some, decide_eq_true_eq, eq_ii, eq_bb, eq_ss, add_ii, sub_ii, mul_ii, fdiv_ii, mod_ii, pow_10, Nat.reduceLeDiff, Nat.zero_le, Int.reduceLE, Int.reduceLT, Nat.reducePow, Int.reducePow, Int.reduceNeg, Int.reduceToNat, Int.reduceSub, Int.reduceMul, Int.reduceAdd, or_true, true_or, Nat.reduceLT, and_self, Int.reduceEq, Nat.reduceEqDiff, exists_and_left, add_ss, mul_si, add_tt, add_ll, lstOf_l, lt_ii, lt_ss, le_ii, le_ss, gt_ii, ge_ii, is_bb, is_non, isNon_n, isNon_i, isNon_s, isNon_b, isNon_t, isNon_l, isNon_r, isTup_t, isTup_l, isTup_r, isTup_c, seqOf_t, seqOf_l, seqOf_c, tyOf_i, tyOf_b, tyOf_s, tyOf_t, tyOf_l, tyOf_n, len_s, len_t, len_l, len_c, idx_s, idx_t, idx_l, idx_c, f_rank]; exact sone (by simp only [wpE, wpEs, wpCs, wpIt, wpS, bindT, bindTs, cmpF, bfW, methTy, methW, mkL, Ts.len, List.getElem?_cons_zero, List.getElem?_cons_succ, List.set_cons_zero, List.set_cons_succ, Option.some.injEq, D.int.injEq, D.bl.injEq, D.str.injEq, D.tup.injEq, D.lst.injEq, D.ref.injEq, exists_eq_left, exists_eq_left', true_and, and_true, if_true, if_false, Bool.false_eq_true, Bool.true_eq_false, reduceCtorEq, List.length_cons, List.length_nil, Option.map_some, List.any_cons, List.any_nil, Bool.or_false, isTy, decide_true, decide_false, Bool.and_true, Bool.and_false, Bool.or_true, Bool.true_or, Bool.false_or, Bool.false_and, Bool.true_and, Bool.not_true, Bool.not_false, startD, List.map_cons, List.map_nil, List.cons_append, List.nil_append, List.replicate_zero, List.replicate_succ, Nat.reduceSub, Nat.reduceAdd, Option.isSome_some, wipeD, false_and, and_false, exists_false, false_or, or_false, gt_iff_lt, ge_iff_le, at0, at1, at2, at3, at4, at5, atm1, ix0, ix1, ix2, ix3, ix4, Option.bind_some, decide_eq_true_eq, eq_ii, eq_bb, eq_ss, add_ii, sub_ii, mul_ii, fdiv_ii, mod_ii, pow_10, Nat.reduceLeDiff, Nat.zero_le, Int.reduceLE, Int.reduceLT, Nat.reducePow, Int.reducePow, Int.reduceNeg, Int.reduceToNat, Int.reduceSub, Int.reduceMul, Int.reduceAdd, or_true, true_or, Nat.reduceLT, and_self, Int.reduceEq, Nat.reduceEqDiff, exists_and_left, add_ss, mul_si, add_tt, add_ll, lstOf_l, lt_ii, lt_ss, le_ii, le_ss, gt_ii, ge_ii, is_bb, is_non, isNon_n, isNon_i, isNon_s, isNon_b, isNon_t, isNon_l, isNon_r, isTup_t, isTup_l, isTup_r, isTup_c, seqOf_t, seqOf_l, seqOf_c, tyOf_i, tyOf_b, tyOf_s, tyOf_t, tyOf_l, tyOf_n, len_s, len_t, len_l, len_c, idx_s, idx_t, idx_l, idx_c]; exact .inl q)
  | str s => simp only [wpE, wpEs, wpCs, wpIt, wpS, bindT, bindTs, cmpF, bfW, methTy, methW, mkL, Ts.len, List.getElem?_cons_zero, List.getElem?_cons_succ, List.set_cons_zero, List.set_cons_succ, Option.some.injEq, D.int.injEq, D.bl.injEq, D.str.injEq, D.tup.injEq, D.lst.injEq, D.ref.injEq, exists_eq_left, exists_eq_left', true_and, and_true, if_true, if_false, Bool.false_eq_true, Bool.true_eq_false, reduceCtorEq, List.length_cons, List.length_nil, Option.map_some, List.any_cons, List.any_nil, Bool.or_false, isTy, decide_true, decide_false, Bool.and_true, Bool.and_false, Bool.or_true, Bool.true_or, Bool.false_or, Bool.false_and, Bool.true_and, Bool.not_true, Bool.not_false, startD, List.map_cons, List.map_nil, List.cons_append, List.nil_append, List.replicate_zero, List.replicate_succ, Nat.reduceSub, Nat.reduceAdd, Option.isSome_some, wipeD, false_and, and_false, exists_false, false_or, or_false, gt_iff_lt, ge_iff_le, at0, at1, at2, at3, at4, at5, atm1, ix0, ix1, ix2, ix3, ix4, Option.bind_some, decide_eq_true_eq, eq_ii, eq_bb, eq_ss, add_ii, sub_ii, mul_ii, fdiv_ii, mod_ii, pow_10, Nat.reduceLeDiff, Nat.zero_le, Int.reduceLE, Int.reduceLT, Nat.reducePow, Int.reducePow, Int.reduceNeg, Int.reduceToNat, Int.reduceSub, Int.reduceMul, Int.reduceAdd, or_true, true_or, Nat.reduceLT, and_self, Int.reduceEq, Nat.reduceEqDiff, exists_and_left, add_ss, mul_si, add_tt, add_ll, lstOf_l, lt_ii, lt_ss, le_ii, le_ss, gt_ii, ge_ii, is_bb, is_non, isNon_n, isNon_i, isNon_s, isNon_b, isNon_t, isNon_l, isNon_r, isTup_t, isTup_l, isTup_r, isTup_c, seqOf_t, seqOf_l, seqOf_c, tyOf_i, tyOf_b, tyOf_s, tyOf_t, tyOf_l, tyOf_n, len_s, len_t, len_l, len_c, idx_s, idx_t, idx_l, idx_c, f_rank]; exact snil (sone (by simp only [wpE, wpEs, wpCs, wpIt, wpS, bindT, bindTs, cmpF, bfW, methTy, methW, mkL, Ts.len, List.getElem?_cons_zero, List.getElem?_cons_succ, List.set_cons_zero, List.set_cons_succ, Option.some.injEq, D.int.injEq, D.bl.injEq, D.str.injEq, D.tup.injEq, D.lst.injEq, D.ref.injEq, exists_eq_left, exists_eq_left', true_and, and_true, if_true, if_false, Bool.false_eq_true, Bool.true_eq_false, reduceCtorEq, List.length_cons, List.length_nil, Option.map_some, List.any_cons, List.any_nil, Bool.or_false, isTy, decide_true, decide_false, Bool.and_true, Bool.and_false, Bool.or_true, Bool.true_or, Bool.false_or, Bool.false_and, Bool.true_and, Bool.not_true, Bool.not_false, startD, List.map_cons, List.map_nil, List.cons_append, List.nil_append, List.replicate_zero, List.replicate_succ, Nat.reduceSub, Nat.reduceAdd, Option.isSome_some, wipeD, false_and, and_false, exists_false, false_or, or_false, gt_iff_lt, ge_iff_le, at0, at1, at2, at3, at4, at5, atm1, ix0, ix1, ix2, ix3, ix4, Option.bind_some, decide_eq_true_eq, eq_ii, eq_bb, eq_ss, add_ii, sub_ii, mul_ii, fdiv_ii, mod_ii, pow_10, Nat.reduceLeDiff, Nat.zero_le, Int.reduceLE, Int.reduceLT, Nat.reducePow, Int.reducePow, Int.reduceNeg, Int.reduceToNat, Int.reduceSub, Int.reduceMul, Int.reduceAdd, or_true, true_or, Nat.reduceLT, and_self, Int.reduceEq, Nat.reduceEqDiff, exists_and_left, add_ss, mul_si, add_tt, add_ll, lstOf_l, lt_ii, lt_ss, le_ii, le_ss, gt_ii, ge_ii, is_bb, is_non, isNon_n, isNon_i, isNon_s, isNon_b, isNon_t, isNon_l, isNon_r, isTup_t, isTup_l, isTup_r, isTup_c, seqOf_t, seqOf_l, seqOf_c, tyOf_i, tyOf_b, tyOf_s, tyOf_t, tyOf_l, tyOf_n, len_s, len_t, len_l, len_c, idx_s, idx_t, idx_l, idx_c]; exact sone (by simp only [wpE, wpEs, wpCs, wpIt, wpS, bindT, bindTs, cmpF, bfW, methTy, methW, mkL, Ts.len, List.getElem?_cons_zero, List.getElem?_cons_succ, List.set_cons_zero, List.set_cons_succ, Option.some.injEq, D.int.injEq, D.bl.injEq, D.str.injEq, D.tup.injEq, D.lst.injEq, D.ref.injEq, exists_eq_left, exists_eq_left', true_and, and_true, if_true, if_false, Bool.false_eq_true, Bool.true_eq_false, reduceCtorEq, List.length_cons, List.length_nil, Option.map_some, List.any_cons, List.any_nil, Bool.or_false, isTy, decide_true, decide_false, Bool.and_true, Bool.and_false, Bool.or_true, Bool.true_or, Bool.false_or, Bool.false_and, Bool.true_and, Bool.not_true, Bool.not_false, startD, List.map_cons, List.map_nil, List.cons_append, List.nil_append, List.replicate_zero, List.replicate_succ, Nat.reduceSub, Nat.reduceAdd, Option.isSome_some, wipeD, false_and, and_false, exists_false, false_or, or_false, gt_iff_lt, ge_iff_le, at0, at1, at2, at3, at4, at5, atm1, ix0, ix1, ix2, ix3, ix4, Option.bind_some, decide_eq_true_eq, eq_ii, eq_bb, eq_ss, add_ii, sub_ii, mul_ii, fdiv_ii, mod_ii, pow_10, Nat.reduceLeDiff, Nat.zero_le, Int.reduceLE, Int.reduceLT, Nat.reducePow, Int.reducePow, Int.reduceNeg, Int.reduceToNat, Int.reduceSub, Int.reduceMul, Int.reduceAdd, or_true, true_or, Nat.reduceLT, and_self, Int.reduceEq, Nat.reduceEqDiff, exists_and_left, add_ss, mul_si, add_tt, add_ll, lstOf_l, lt_ii, lt_ss, le_ii, le_ss, gt_ii, ge_ii, is_bb, is_non, isNon_n, isNon_i, isNon_s, isNon_b, isNon_t, isNon_l, isNon_r, isTup_t, isTup_l, isTup_r, isTup_c, seqOf_t, seqOf_l, seqOf_c, tyOf_i, tyOf_b, tyOf_s, tyOf_t, tyOf_l, tyOf_n, len_s, len_t, len_l, len_c, idx_s, idx_t, idx_l, idx_c]; exact .inl q)))
  | _ => simp only [wpE, wpEs, wpCs, wpIt, wpS, bindT, bindTs, cmpF, bfW, methTy, methW, mkL, Ts.len, List.getElem?_cons_zero, List.getElem?_cons_succ, List.set_cons_zero, List.set_cons_succ, Option.some.injEq, D.int.injEq, D.bl.injEq, D.str.injEq, D.tup.injEq, D.lst.injEq, D.ref.injEq, exists_eq_left, exists_eq_left', true_and, and_true, if_true, if_false, Bool.false_eq_true, Bool.true_eq_false, reduceCtorEq, List.length_cons, List.length_nil, Option.map_some, List.any_cons, List.any_nil, Bool.or_false, isTy, decide_true, decide_false, Bool.and_true, Bool.and_false, Bool.or_true, Bool.true_or, Bool.false_or, Bool.false_and, Bool.true_and, Bool.not_true, Bool.not_false, startD, List.map_cons, List.map_nil, List.cons_append, List.nil_append, List.replicate_zero, List.replicate_succ, Nat.reduceSub, Nat.reduceAdd, Option.isSome_some, wipeD, false_and, and_false, exists_false, false_or, or_false, gt_iff_lt, ge_iff_le, at0, at1, at2, at3, at4, at5, atm1, ix0, ix1, ix2, ix3, ix4, Option.bind_some, decide_eq_true_eq, eq_ii, eq_bb, eq_ss, add_ii, sub_ii, mul_ii, fdiv_ii, mod_ii, pow_10, Nat.reduceLeDiff, Nat.zero_le, Int.reduceLE, Int.reduceLT, Nat.reducePow, Int.reducePow, Int.reduceNeg, Int.reduceToNat, Int.reduceSub, Int.reduceMul, Int.reduceAdd, or_true, true_or, Nat.reduceLT, and_self, Int.reduceEq, Nat.reduceEqDiff, exists_and_left, add_ss, mul_si, add_tt, add_ll, lstOf_l, lt_ii, lt_ss, le_ii, le_ss, gt_ii, ge_ii, is_bb, is_non, isNon_n, isNon_i, isNon_s, isNon_b, isNon_t, isNon_l, isNon_r, isTup_t, isTup_l, isTup_r, isTup_c, seqOf_t, seqOf_l, seqOf_c, tyOf_i, tyOf_b, tyOf_s, tyOf_t, tyOf_l, tyOf_n, len_s, len_t, len_l, len_c, idx_s, idx_t, idx_l, idx_c, f_rank]; exact snil (sone (by simp only [wpE, wpEs, wpCs, wpIt, wpS, bindT, bindTs, cmpF, bfW, methTy, methW, mkL, Ts.len, List.getElem?_cons_zero, List.getElem?_cons_succ, List.set_cons_zero, List.set_cons_succ, Option.some.injEq, D.int.injEq, D.bl.injEq, D.str.injEq, D.tup.injEq, D.lst.injEq, D.ref.injEq, exists_eq_left, exists_eq_left', true_and, and_true, if_true, if_false, Bool.false_eq_true, Bool.true_eq_false, reduceCtorEq, List.length_cons, List.length_nil, Option.map_some, List.any_cons, List.any_nil, Bool.or_false, isTy, decide_true, decide_false, Bool.and_true, Bool.and_false, Bool.or_true, Bool.true_or, Bool.false_or, Bool.false_and, Bool.true_and, Bool.not_true, Bool.not_false, startD, List.map_cons, List.map_nil, List.cons_append, List.nil_append, List.replicate_zero, List.replicate_succ, Nat.reduceSub, Nat.reduceAdd, Option.isSome_some, wipeD, false_and, and_false, exists_false, false_or, or_false, gt_iff_lt, ge_iff_le, at0, at1, at2, at3, at4, at5, atm1, ix0, ix1, ix2, ix3, ix4, Option.bind_some, decide_eq_true_eq, eq_ii, eq_bb, eq_ss, add_ii, sub_ii, mul_ii, fdiv_ii, mod_ii, pow_10, Nat.reduceLeDiff, Nat.zero_le, Int.reduceLE, Int.reduceLT, Nat.reducePow, Int.reducePow, Int.reduceNeg, Int.reduceToNat, Int.reduceSub, Int.reduceMul, Int.reduceAdd, or_true, true_or, Nat.reduceLT, and_self, Int.reduceEq, Nat.reduceEqDiff, exists_and_left, add_ss, mul_si, add_tt, add_ll, lstOf_l, lt_ii, lt_ss, le_ii, le_ss, gt_ii, ge_ii, is_bb, is_non, isNon_n, isNon_i, isNon_s, isNon_b, isNon_t, isNon_l, isNon_r, isTup_t, isTup_l, isTup_r, isTup_c, seqOf_t, seqOf_l, seqOf_c, tyOf_i, tyOf_b, tyOf_s, tyOf_t, tyOf_l, tyOf_n, len_s, len_t, len_l, len_c, idx_s, idx_t, idx_l, idx_c]; exact snil (sone (by simp only [wpE, wpEs, wpCs, wpIt, wpS, bindT, bindTs, cmpF, bfW, methTy, methW, mkL, Ts.len, List.getElem?_cons_zero, List.getElem?_cons_succ, List.set_cons_zero, List.set_cons_succ, Option.some.injEq, D.int.injEq, D.bl.injEq, D.str.injEq, D.tup.injEq, D.lst.injEq, D.ref.injEq, exists_eq_left, exists_eq_left', true_and, and_true, if_true, if_false, Bool.false_eq_true, Bool.true_eq_false, reduceCtorEq, List.length_cons, List.length_nil, Option.map_some, List.any_cons, List.any_nil, Bool.or_false, isTy, decide_true, decide_false, Bool.and_true, Bool.and_false, Bool.or_true, Bool.true_or, Bool.false_or, Bool.false_and, Bool.true_and, Bool.not_true, Bool.not_false, startD, List.map_cons, List.map_nil, List.cons_append, List.nil_append, List.replicate_zero, List.replicate_succ, Nat.reduceSub, Nat.reduceAdd, Option.isSome_some, wipeD, false_and, and_false, exists_false, false_or, or_false, gt_iff_lt, ge_iff_le, at0, at1, at2, at3, at4, at5, atm1, ix0, ix1, ix2, ix3, ix4, Option.bind_some, decide_eq_true_eq, eq_ii, eq_bb, eq_ss, add_ii, sub_ii, mul_ii, fdiv_ii, mod_ii, pow_10, Nat.reduceLeDiff, Nat.zero_le, Int.reduceLE, Int.reduceLT, Nat.reducePow, Int.reducePow, Int.reduceNeg, Int.reduceToNat, Int.reduceSub, Int.reduceMul, Int.reduceAdd, or_true, true_or, Nat.reduceLT, and_self, Int.reduceEq, Nat.reduceEqDiff, exists_and_left, add_ss, mul_si, add_tt, add_ll, lstOf_l, lt_ii, lt_ss, le_ii, le_ss, gt_ii, ge_ii, is_bb, is_non, isNon_n, isNon_i, isNon_s, isNon_b, isNon_t, isNon_l, isNon_r, isTup_t, isTup_l, isTup_r, isTup_c, seqOf_t, seqOf_l, seqOf_c, tyOf_i, tyOf_b, tyOf_s, tyOf_t, tyOf_l, tyOf_n, len_s, len_t, len_l, len_c, idx_s, idx_t, idx_l, idx_c]; exact .inl q))))
def kindV : D → Int
  | .non => 0
  | .str _ => 2
  | _ => 1
def vlt (a b : D) : Bool := if kindV a = kindV b then (match a, b with | .int i, .int j => decide (i < j) | .str s, .str t => decide (s.cps.toList < t.cps.toList) | _, _ => false) else decide (kindV a < kindV b)
def f_stands_ahead : Fn := ⟨2, 2, (.cons (.ret (.cmp .lt (.call "rank" (.cons (.var 0) .nil)) (.call "rank" (.cons (.var 1) .nil)))) .nil)⟩
def spAhead : Spc := fun ds h Q _ => ∃ a b, ds = [a, b] ∧ Val a ∧ Val b ∧ Q (.bl (vlt a b)) h
theorem vlt_rank {a b : D} (ha : Val a) (hb : Val b) : PySem.W.dataLt (py (rankD a)) (py (rankD b)) = vlt a b := by
  have e0 : PyProof.Rows.lexLt itemOrd (PySem.W.keyToksAll []) (PySem.W.keyToksAll []) = false := lex_irrefl _
  rcases ha.cases with rfl | ⟨i, rfl⟩ | ⟨s, rfl, _, _⟩ <;> rcases hb.cases with rfl | ⟨j, rfl⟩ | ⟨t, rfl, _, _⟩
  all_goals
    show PySem.W.dataLt (.tuple [_, _, _]) (.tuple [_, _, _]) = _
    rw [PySem.W.dataLt_tuple, PySem.W.dataLt_cons (by simp [PySem.W.alike, py]), PySem.W.dataLt_cons (by simp [PySem.W.alike, py]), PySem.W.dataLt_cons (by simp [PySem.W.alike, py])]
    simp [py, PyData.eqv, vlt, kindV, PySem.W.dataLt_int, PySem.W.dataLt_str, e0]
  · intro h e; omega
  · intro h e
    subst e
    exact absurd (show s.cps.toList < s.cps.toList from h) (List.lt_irrefl _)
theorem rank_alike {a b : D} (ha : Val a) (hb : Val b) : PySem.W.alike (py (rankD a)) (py (rankD b)) = true := by
  rcases ha.cases with rfl | ⟨i, rfl⟩ | ⟨s, rfl, _, _⟩ <;> rcases hb.cases with rfl | ⟨j, rfl⟩ | ⟨t, rfl, _, _⟩ <;> simp [rankD, py, pys, PySem.W.alike, PySem.W.alikeAll]
theorem rank_key {a : D} (ha : Val a) : (rankD a).key = true ∧ (rankD a).depth ≤ 60 ∧ tup1 (rankD a) = true ∧ (rankD a).pure = true := by
  have e0 : (D.str "").pure = true := okT_pure (by decide)
  rcases ha.cases with rfl | ⟨i, rfl⟩ | ⟨s, rfl, h1, _⟩
  · refine ⟨rfl, ?_, rfl, ?_⟩
    · show max 0 (max 0 (max 0 0)) + 1 ≤ 60
      decide
    · show (true && (true && ((D.str "").pure && true))) = true
      rw [e0]; rfl
  · refine ⟨rfl, ?_, rfl, ?_⟩
    · show max 0 (max 0 (max 0 0)) + 1 ≤ 60
      decide
    · show (true && (true && ((D.str "").pure && true))) = true
      rw [e0]; rfl
  · refine ⟨rfl, ?_, rfl, ?_⟩
    · show max 0 (max 0 (max 0 0)) + 1 ≤ 60
      decide
    · show (true && (true && ((D.str s).pure && true))) = true
      rw [okT_pure h1]; rfl
theorem i_stands_ahead {Φ : Fs} (e1 : Φ.fn "rank" = spRank) : Impl Φ f_stands_ahead spAhead := by
  rintro ds h Q ⟨a, b, rfl, ha, hb, q⟩
  refine ⟨rfl, sone ?_⟩
  simp only [wpE, wpEs, wpCs, wpIt, wpS, bindT, bindTs, cmpF, bfW, methTy, methW, mkL, Ts.len, List.getElem?_cons_zero, List.getElem?_cons_succ, List.set_cons_zero, List.set_cons_succ, Option.some.injEq, D.int.injEq, D.bl.injEq, D.str.injEq, D.tup.injEq, D.lst.injEq, D.ref.injEq, exists_eq_left, exists_eq_left', true_and, and_true, if_true, if_false, Bool.false_eq_true, Bool.true_eq_false, reduceCtorEq, List.length_cons, List.length_nil, Option.map_some, List.any_cons, List.any_nil, Bool.or_false, isTy, decide_true, decide_false, Bool.and_true, Bool.and_false, Bool.or_true, Bool.true_or, Bool.false_or, Bool.false_and, Bool.true_and, Bool.not_true, Bool.not_false, startD, List.map_cons, List.map_nil, List.cons_append, List.nil_append, List.replicate_zero, List.replicate_succ, Nat.reduceSub, Nat.reduceAdd, Option.isSome_some, wipeD, false_and, and_false, exists_false, false_or, or_false, gt_iff_lt, ge_iff_le, at0, at1, at2, at3, at4, at5, atm1, ix0, ix1, ix2, ix3, ix4, Option.bind_some, decide_eq_true_eq, eq_ii, eq_bb, eq_ss, add_ii, sub_ii, mul_ii, fdiv_ii, mod_ii, pow_10, Nat.reduceLeDiff, Nat.zero_le, Int.reduceLE, Int.reduceLT, Nat.reducePow, Int.reducePow, Int.reduceNeg, Int.reduceToNat, Int.reduceSub, Int.reduceMul, Int.reduceAdd, or_true, true_or, Nat.reduceLT, and_self, Int.reduceEq, Nat.reduceEqDiff, exists_and_left, add_ss, mul_si, add_tt, add_ll, lstOf_l, lt_ii, lt_ss, le_ii, le_ss, gt_ii, ge_ii, is_bb, is_non, isNon_n, isNon_i, isNon_s, isNon_b, isNon_t, isNon_l, isNon_r, isTup_t, isTup_l, isTup_r, isTup_c, seqOf_t, seqOf_l, seqOf_c, tyOf_i, tyOf_b, tyOf_s, tyOf_t, tyOf_l, tyOf_n, len_s, len_t, len_l, len_c, idx_s, idx_t, idx_l, idx_c, f_stands_ahead, e1]
  refine ⟨a, rfl, ha.pure, b, rfl, hb.pure, vlt a b, ?_, .inl q⟩
  obtain ⟨xs, ea⟩ : ∃ xs, rankD a = .tup xs := by cases a <;> exact ⟨_, rfl⟩
  obtain ⟨ys, eb⟩ : ∃ ys, rankD b = .tup ys := by cases b <;> exact ⟨_, rfl⟩
  have l := vlt_rank ha hb
  have al := rank_alike ha hb
  have k1 := rank_key ha
  have k2 := rank_key hb
  rw [ea] at l al k1 ⊢
  rw [eb] at l al k2 ⊢
  have d1 : D.depths xs + 1 ≤ 60 := k1.2.1
  show (if (D.pures xs && D.pures ys && PySem.W.alike (.tuple (pys xs)) (.tuple (pys ys)) && decide (D.depths xs ≤ 60)) = true then some (PySem.W.dataLt (.tuple (pys xs)) (.tuple (pys ys))) else none) = _
  rw [show D.pures xs = true from k1.2.2.2, show D.pures ys = true from k2.2.2.2, show PySem.W.alike (.tuple (pys xs)) (.tuple (pys ys)) = true from al, decide_eq_true (by omega : D.depths xs ≤ 60)]
  rw [show PySem.W.dataLt (.tuple (pys xs)) (.tuple (pys ys)) = vlt a b from l]
  rfl
def f_risen : Fn := ⟨1, 1, (.cons (.ret (.srt true (.var 0) "rank")) .nil)⟩
def Vals' (xs : List D) : Prop := ∀ x ∈ xs, Val x
theorem keys_of : ∀ {xs : List D}, (∀ x ∈ xs, D.key x = true) → D.keys xs = true
  | [], _ => rfl
  | x :: xs, h => by
    show (D.key x && D.keys xs) = true
    rw [h x (by simp), keys_of fun y m => h y (by simp [m])]; rfl
theorem Val.key {d : D} (h : Val d) : d.key = true := by
  rcases h.cases with rfl | ⟨i, rfl⟩ | ⟨s, rfl, h1, _⟩ <;> rfl
def spRisen : Spc := fun ds h Q _ => ∃ d xs, ds = [d] ∧ seqOf h d = some xs ∧ Vals' xs ∧ mkL true (sortK xs rankD) h Q
theorem srt_vals {sp : Spc} (e : sp = spRank) {xs : List D} (hv : Vals' xs) : srtOk sp xs rankD := by
  subst e
  refine ⟨keys_of fun x m => (hv x m).key, fun y m => ⟨y, rfl, (hv y m).pure, rfl⟩, fun y m => ⟨(rank_key (hv y m)).1, (rank_key (hv y m)).2.1⟩, fun y m z m' => rank_alike (hv y m) (hv z m'), .inl fun y m => (rank_key (hv y m)).2.2.1⟩
theorem i_risen {Φ : Fs} (e1 : Φ.fn "rank" = spRank) : Impl Φ f_risen spRisen := by
  rintro ds h Q ⟨d, xs, rfl, hx, hv, q⟩
  refine ⟨rfl, sone ?_⟩
  simp only [wpE, wpEs, wpCs, wpIt, wpS, bindT, bindTs, cmpF, bfW, methTy, methW, mkL, Ts.len, List.getElem?_cons_zero, List.getElem?_cons_succ, List.set_cons_zero, List.set_cons_succ, Option.some.injEq, D.int.injEq, D.bl.injEq, D.str.injEq, D.tup.injEq, D.lst.injEq, D.ref.injEq, exists_eq_left, exists_eq_left', true_and, and_true, if_true, if_false, Bool.false_eq_true, Bool.true_eq_false, reduceCtorEq, List.length_cons, List.length_nil, Option.map_some, List.any_cons, List.any_nil, Bool.or_false, isTy, decide_true, decide_false, Bool.and_true, Bool.and_false, Bool.or_true, Bool.true_or, Bool.false_or, Bool.false_and, Bool.true_and, Bool.not_true, Bool.not_false, startD, List.map_cons, List.map_nil, List.cons_append, List.nil_append, List.replicate_zero, List.replicate_succ, Nat.reduceSub, Nat.reduceAdd, Option.isSome_some, wipeD, false_and, and_false, exists_false, false_or, or_false, gt_iff_lt, ge_iff_le, at0, at1, at2, at3, at4, at5, atm1, ix0, ix1, ix2, ix3, ix4, Option.bind_some, decide_eq_true_eq, eq_ii, eq_bb, eq_ss, add_ii, sub_ii, mul_ii, fdiv_ii, mod_ii, pow_10, Nat.reduceLeDiff, Nat.zero_le, Int.reduceLE, Int.reduceLT, Nat.reducePow, Int.reducePow, Int.reduceNeg, Int.reduceToNat, Int.reduceSub, Int.reduceMul, Int.reduceAdd, or_true, true_or, Nat.reduceLT, and_self, Int.reduceEq, Nat.reduceEqDiff, exists_and_left, add_ss, mul_si, add_tt, add_ll, lstOf_l, lt_ii, lt_ss, le_ii, le_ss, gt_ii, ge_ii, is_bb, is_non, isNon_n, isNon_i, isNon_s, isNon_b, isNon_t, isNon_l, isNon_r, isTup_t, isTup_l, isTup_r, isTup_c, seqOf_t, seqOf_l, seqOf_c, tyOf_i, tyOf_b, tyOf_s, tyOf_t, tyOf_l, tyOf_n, len_s, len_t, len_l, len_c, idx_s, idx_t, idx_l, idx_c, f_risen]
  exact ⟨xs, hx, rankD, srt_vals e1 hv, .inl q⟩
end Pf

namespace Pf
open PySem PySem.Spec PyProof.Rows L2
def f_law_cell_at : Fn := ⟨2, 2, (.cons (.ite (.cmp .lt (.var 1) (.bf .len false (.cons (.var 0) .nil))) (.cons (.ret (.idx (.var 0) (.var 1))) .nil) .nil) (.cons (.ret (.int 0)) .nil))⟩
def spCellAt : Spc := fun ds h Q _ => ∃ (ns : List Int) (k : Int), ds = [.scr (ns.map .int), .int k] ∧ 0 ≤ k ∧ ∀ i, Q (.int i) h
theorem i_cell_at {Φ : Fs} : Impl Φ f_law_cell_at spCellAt := by
  rintro ds h Q ⟨ns, k, rfl, hk, q⟩
  refine ⟨rfl, sone ?_⟩
  simp only [wpE, wpEs, wpCs, wpIt, wpS, bindT, bindTs, cmpF, bfW, methTy, methW, mkL, Ts.len, List.getElem?_cons_zero, List.getElem?_cons_succ, List.set_cons_zero, List.set_cons_succ, Option.some.injEq, D.int.injEq, D.bl.injEq, D.str.injEq, D.tup.injEq, D.lst.injEq, D.ref.injEq, exists_eq_left, exists_eq_left', true_and, and_true, if_true, if_false, Bool.false_eq_true, Bool.true_eq_false, reduceCtorEq, List.length_cons, List.length_nil, Option.map_some, List.any_cons, List.any_nil, Bool.or_false, isTy, decide_true, decide_false, Bool.and_true, Bool.and_false, Bool.or_true, Bool.true_or, Bool.false_or, Bool.false_and, Bool.true_and, Bool.not_true, Bool.not_false, startD, List.map_cons, List.map_nil, List.cons_append, List.nil_append, List.replicate_zero, List.replicate_succ, Nat.reduceSub, Nat.reduceAdd, Option.isSome_some, wipeD, false_and, and_false, exists_false, false_or, or_false, gt_iff_lt, ge_iff_le, at0, at1, at2, at3, at4, at5, atm1, ix0, ix1, ix2, ix3, ix4, Option.bind_some, decide_eq_true_eq, eq_ii, eq_bb, eq_ss, add_ii, sub_ii, mul_ii, fdiv_ii, mod_ii, pow_10, Nat.reduceLeDiff, Nat.zero_le, Int.reduceLE, Int.reduceLT, Nat.reducePow, Int.reducePow, Int.reduceNeg, Int.reduceToNat, Int.reduceSub, Int.reduceMul, Int.reduceAdd, or_true, true_or, Nat.reduceLT, and_self, Int.reduceEq, Nat.reduceEqDiff, exists_and_left, add_ss, mul_si, add_tt, add_ll, lstOf_l, lt_ii, lt_ss, le_ii, le_ss, gt_ii, ge_ii, is_bb, is_non, isNon_n, isNon_i, isNon_s, isNon_b, isNon_t, isNon_l, isNon_r, isTup_t, isTup_l, isTup_r, isTup_c, seqOf_t, seqOf_l, seqOf_c, tyOf_i, tyOf_b, tyOf_s, tyOf_t, tyOf_l, tyOf_n, len_s, len_t, len_l, len_c, idx_s, idx_t, idx_l, idx_c, f_law_cell_at, List.length_map]
  by_cases hl : k < ns.length
  · rw [if_pos hl]
    refine sone ?_
    simp only [wpE, wpEs, wpCs, wpIt, wpS, bindT, bindTs, cmpF, bfW, methTy, methW, mkL, Ts.len, List.getElem?_cons_zero, List.getElem?_cons_succ, List.set_cons_zero, List.set_cons_succ, Option.some.injEq, D.int.injEq, D.bl.injEq, D.str.injEq, D.tup.injEq, D.lst.injEq, D.ref.injEq, exists_eq_left, exists_eq_left', true_and, and_true, if_true, if_false, Bool.false_eq_true, Bool.true_eq_false, reduceCtorEq, List.length_cons, List.length_nil, Option.map_some, List.any_cons, List.any_nil, Bool.or_false, isTy, decide_true, decide_false, Bool.and_true, Bool.and_false, Bool.or_true, Bool.true_or, Bool.false_or, Bool.false_and, Bool.true_and, Bool.not_true, Bool.not_false, startD, List.map_cons, List.map_nil, List.cons_append, List.nil_append, List.replicate_zero, List.replicate_succ, Nat.reduceSub, Nat.reduceAdd, Option.isSome_some, wipeD, false_and, and_false, exists_false, false_or, or_false, gt_iff_lt, ge_iff_le, at0, at1, at2, at3, at4, at5, atm1, ix0, ix1, ix2, ix3, ix4, Option.bind_some, decide_eq_true_eq, eq_ii, eq_bb, eq_ss, add_ii, sub_ii, mul_ii, fdiv_ii, mod_ii, pow_10, Nat.reduceLeDiff, Nat.zero_le, Int.reduceLE, Int.reduceLT, Nat.reducePow, Int.reducePow, Int.reduceNeg, Int.reduceToNat, Int.reduceSub, Int.reduceMul, Int.reduceAdd, or_true, true_or, Nat.reduceLT, and_self, Int.reduceEq, Nat.reduceEqDiff, exists_and_left, add_ss, mul_si, add_tt, add_ll, lstOf_l, lt_ii, lt_ss, le_ii, le_ss, gt_ii, ge_ii, is_bb, is_non, isNon_n, isNon_i, isNon_s, isNon_b, isNon_t, isNon_l, isNon_r, isTup_t, isTup_l, isTup_r, isTup_c, seqOf_t, seqOf_l, seqOf_c, tyOf_i, tyOf_b, tyOf_s, tyOf_t, tyOf_l, tyOf_n, len_s, len_t, len_l, len_c, idx_s, idx_t, idx_l, idx_c]
    have e : k.toNat < ns.length := by omega
    refine ⟨.int (ns[k.toNat]), ?_, .inl (q _)⟩
    show ((ixO (ns.map D.int).length k).bind fun j => (ns.map D.int)[j]?) = _
    unfold ixO
    rw [if_pos hk, if_pos (by simpa using hl)]
    show (ns.map D.int)[k.toNat]? = _
    rw [List.getElem?_map, List.getElem?_eq_getElem e]
    rfl
  · rw [if_neg hl]
    exact snil (sone (by simp only [wpE, wpEs, wpCs, wpIt, wpS, bindT, bindTs, cmpF, bfW, methTy, methW, mkL, Ts.len, List.getElem?_cons_zero, List.getElem?_cons_succ, List.set_cons_zero, List.set_cons_succ, Option.some.injEq, D.int.injEq, D.bl.injEq, D.str.injEq, D.tup.injEq, D.lst.injEq, D.ref.injEq, exists_eq_left, exists_eq_left', true_and, and_true, if_true, if_false, Bool.false_eq_true, Bool.true_eq_false, reduceCtorEq, List.length_cons, List.length_nil, Option.map_some, List.any_cons, List.any_nil, Bool.or_false, isTy, decide_true, decide_false, Bool.and_true, Bool.and_false, Bool.or_true, Bool.true_or, Bool.false_or, Bool.false_and, Bool.true_and, Bool.not_true, Bool.not_false, startD, List.map_cons, List.map_nil, List.cons_append, List.nil_append, List.replicate_zero, List.replicate_succ, Nat.reduceSub, Nat.reduceAdd, Option.isSome_some, wipeD, false_and, and_false, exists_false, false_or, or_false, gt_iff_lt, ge_iff_le, at0, at1, at2, at3, at4, at5, atm1, ix0, ix1, ix2, ix3, ix4, Option.bind_some, decide_eq_true_eq, eq_ii, eq_bb, eq_ss, add_ii, sub_ii, mul_ii, fdiv_ii, mod_ii, pow_10, Nat.reduceLeDiff, Nat.zero_le, Int.reduceLE, Int.reduceLT, Nat.reducePow, Int.reducePow, Int.reduceNeg, Int.reduceToNat, Int.reduceSub, Int.reduceMul, Int.reduceAdd, or_true, true_or, Nat.reduceLT, and_self, Int.reduceEq, Nat.reduceEqDiff, exists_and_left, add_ss, mul_si, add_tt, add_ll, lstOf_l, lt_ii, lt_ss, le_ii, le_ss, gt_ii, ge_ii, is_bb, is_non, isNon_n, isNon_i, isNon_s, isNon_b, isNon_t, isNon_l, isNon_r, isTup_t, isTup_l, isTup_r, isTup_c, seqOf_t, seqOf_l, seqOf_c, tyOf_i, tyOf_b, tyOf_s, tyOf_t, tyOf_l, tyOf_n, len_s, len_t, len_l, len_c, idx_s, idx_t, idx_l, idx_c]; exact .inl (q 0)))
theorem b01 {p : Prop} [Decidable p] : -(2 ^ 64 : Int) < (if p then 1 else 0) ∧ (if p then (1 : Int) else 0) < 2 ^ 64 := by by_cases h : p <;> simp [h]
/-- a box that gave at most B -/
def BoxOk (B : Int) (xs : List D) : Prop := ∃ a b c : Int, xs = [.int a, .int b, .int c] ∧ 0 ≤ a ∧ 0 ≤ b ∧ b ≤ 4611686018427387904 ∧ 0 ≤ c ∧ c ≤ B
def f_law_box : Fn := ⟨2, 3, (.cons (.asg (.name 2) (.call "_law_cell_at" (.cons (.var 0) (.cons (.var 1) .nil)))) (.cons (.ret (.lst true (.cons (.bin .mul (.bf .abs false (.cons (.var 2) .nil)) (.bf .int false (.cons (.cmp .ge (.bf .abs false (.cons (.var 2) .nil)) (.bin .pow (.int 10) (.int 18))) .nil))) (.cons (.bin .add (.bin .add (.bin .mod (.var 2) (.int 2305843009213693951)) (.bin .mul (.int 39373) (.var 1))) (.int 17)) (.cons (.int 0) .nil))))) .nil))⟩
def spBox : Spc := fun ds h Q _ => ∃ (ns : List Int) (k : Int), ds = [.scr (ns.map .int), .int k] ∧ 0 ≤ k ∧ k ≤ 1000000 ∧ ∀ xs, BoxOk 0 xs → Q (.ref h.length) (h ++ [.lst xs])
theorem i_box {Φ : Fs} (e1 : Φ.fn "_law_cell_at" = spCellAt) : Impl Φ f_law_box spBox := by
  rintro ds h Q ⟨ns, k, rfl, hk, hk2, q⟩
  refine ⟨rfl, sone ?_⟩
  simp only [wpE, wpEs, wpCs, wpIt, wpS, bindT, bindTs, cmpF, bfW, methTy, methW, mkL, Ts.len, List.getElem?_cons_zero, List.getElem?_cons_succ, List.set_cons_zero, List.set_cons_succ, Option.some.injEq, D.int.injEq, D.bl.injEq, D.str.injEq, D.tup.injEq, D.lst.injEq, D.ref.injEq, exists_eq_left, exists_eq_left', true_and, and_true, if_true, if_false, Bool.false_eq_true, Bool.true_eq_false, reduceCtorEq, List.length_cons, List.length_nil, Option.map_some, List.any_cons, List.any_nil, Bool.or_false, isTy, decide_true, decide_false, Bool.and_true, Bool.and_false, Bool.or_true, Bool.true_or, Bool.false_or, Bool.false_and, Bool.true_and, Bool.not_true, Bool.not_false, startD, List.map_cons, List.map_nil, List.cons_append, List.nil_append, List.replicate_zero, List.replicate_succ, Nat.reduceSub, Nat.reduceAdd, Option.isSome_some, wipeD, false_and, and_false, exists_false, false_or, or_false, gt_iff_lt, ge_iff_le, at0, at1, at2, at3, at4, at5, atm1, ix0, ix1, ix2, ix3, ix4, Option.bind_some, decide_eq_true_eq, eq_ii, eq_bb, eq_ss, add_ii, sub_ii, mul_ii, fdiv_ii, mod_ii, pow_10, Nat.reduceLeDiff, Nat.zero_le, Int.reduceLE, Int.reduceLT, Nat.reducePow, Int.reducePow, Int.reduceNeg, Int.reduceToNat, Int.reduceSub, Int.reduceMul, Int.reduceAdd, or_true, true_or, Nat.reduceLT, and_self, Int.reduceEq, Nat.reduceEqDiff, exists_and_left, add_ss, mul_si, add_tt, add_ll, lstOf_l, lt_ii, lt_ss, le_ii, le_ss, gt_ii, ge_ii, is_bb, is_non, isNon_n, isNon_i, isNon_s, isNon_b, isNon_t, isNon_l, isNon_r, isTup_t, isTup_l, isTup_r, isTup_c, seqOf_t, seqOf_l, seqOf_c, tyOf_i, tyOf_b, tyOf_s, tyOf_t, tyOf_l, tyOf_n, len_s, len_t, len_l, len_c, idx_s, idx_t, idx_l, idx_c, f_law_box, e1]
  refine ⟨ns, k, rfl, hk, fun i => ?_⟩
  refine sone ?_
  simp only [wpE, wpEs, wpCs, wpIt, wpS, bindT, bindTs, cmpF, bfW, methTy, methW, mkL, Ts.len, List.getElem?_cons_zero, List.getElem?_cons_succ, List.set_cons_zero, List.set_cons_succ, Option.some.injEq, D.int.injEq, D.bl.injEq, D.str.injEq, D.tup.injEq, D.lst.injEq, D.ref.injEq, exists_eq_left, exists_eq_left', true_and, and_true, if_true, if_false, Bool.false_eq_true, Bool.true_eq_false, reduceCtorEq, List.length_cons, List.length_nil, Option.map_some, List.any_cons, List.any_nil, Bool.or_false, isTy, decide_true, decide_false, Bool.and_true, Bool.and_false, Bool.or_true, Bool.true_or, Bool.false_or, Bool.false_and, Bool.true_and, Bool.not_true, Bool.not_false, startD, List.map_cons, List.map_nil, List.cons_append, List.nil_append, List.replicate_zero, List.replicate_succ, Nat.reduceSub, Nat.reduceAdd, Option.isSome_some, wipeD, false_and, and_false, exists_false, false_or, or_false, gt_iff_lt, ge_iff_le, at0, at1, at2, at3, at4, at5, atm1, ix0, ix1, ix2, ix3, ix4, Option.bind_some, decide_eq_true_eq, eq_ii, eq_bb, eq_ss, add_ii, sub_ii, mul_ii, fdiv_ii, mod_ii, pow_10, Nat.reduceLeDiff, Nat.zero_le, Int.reduceLE, Int.reduceLT, Nat.reducePow, Int.reducePow, Int.reduceNeg, Int.reduceToNat, Int.reduceSub, Int.reduceMul, Int.reduceAdd, or_true, true_or, Nat.reduceLT, and_self, Int.reduceEq, Nat.reduceEqDiff, exists_and_left, add_ss, mul_si, add_tt, add_ll, lstOf_l, lt_ii, lt_ss, le_ii, le_ss, gt_ii, ge_ii, is_bb, is_non, isNon_n, isNon_i, isNon_s, isNon_b, isNon_t, isNon_l, isNon_r, isTup_t, isTup_l, isTup_r, isTup_c, seqOf_t, seqOf_l, seqOf_c, tyOf_i, tyOf_b, tyOf_s, tyOf_t, tyOf_l, tyOf_n, len_s, len_t, len_l, len_c, idx_s, idx_t, idx_l, idx_c]
  refine ⟨_, if_pos (.inr b01), ?_⟩
  refine .inl (q _ ⟨_, _, _, rfl, Int.mul_nonneg (by split <;> omega) (by split <;> omega), by omega, by omega, by omega, by omega⟩)
def f_law_take : Fn := ⟨2, 5, (.cons (.ite (.cmp .gt (.idx (.var 0) (.int 0)) (.int 0)) (.cons (.asg (.name 2) (.bin .mod (.idx (.var 0) (.int 0)) (.var 1))) (.cons (.seti (.var 0) (.int 0) (.bin .fdiv (.idx (.var 0) (.int 0)) (.var 1))) (.cons (.ret (.var 2)) .nil))) .nil) (.cons (.seti (.var 0) (.int 2) (.bin .add (.idx (.var 0) (.int 2)) (.int 1))) (.cons (.asg (.name 3) (.bin .mod (.bin .mul (.bin .add (.idx (.var 0) (.int 1)) (.bin .mul (.int 48271) (.idx (.var 0) (.int 2)))) (.bin .add (.int 39373) (.idx (.var 0) (.int 2)))) (.int 2147483647))) (.cons (.asg (.name 4) (.bin .mod (.bin .mul (.bin .add (.var 3) (.idx (.var 0) (.int 2))) (.bin .add (.bin .mod (.var 3) (.int 40009)) (.int 7))) (.int 2147483629))) (.cons (.ret (.bin .mod (.bin .fdiv (.bin .mod (.bin .add (.bin .mul (.var 4) (.int 48271)) (.var 3)) (.int 2147483587)) (.int 64)) (.var 1))) .nil)))))⟩
/-- the box at n is asked once; many: below 2 ^ 30 -/
def spTake : Spc := fun ds h Q _ => ∃ (n : Nat) (m B : Int) (xs : List D), ds = [.ref n, .int m] ∧ h[n]? = some (.lst xs) ∧ BoxOk B xs ∧ B ≤ 1000000000000 ∧ 0 < m ∧ m ≤ 1000000 ∧ ∀ r ys, 0 ≤ r → r < m → BoxOk (B + 1) ys → Q (.int r) (h.set n (.lst ys))
theorem i_take {Φ : Fs} : Impl Φ f_law_take spTake := by
  rintro ds h Q ⟨n, m, B, xs, rfl, hn, ⟨a, b, c, rfl, ha, hb, hb2, hc, hc2⟩, hB, hm, hm2, q⟩
  have hnl : n < h.length := (List.getElem?_eq_some_iff.mp hn).1
  refine ⟨rfl, sone ?_⟩
  have hs : ∀ o, (h.set n o)[n]? = some o := fun o => List.getElem?_set_self hnl
  simp only [wpE, wpEs, wpCs, wpIt, wpS, bindT, bindTs, cmpF, bfW, methTy, methW, mkL, Ts.len, List.getElem?_cons_zero, List.getElem?_cons_succ, List.set_cons_zero, List.set_cons_succ, Option.some.injEq, D.int.injEq, D.bl.injEq, D.str.injEq, D.tup.injEq, D.lst.injEq, D.ref.injEq, exists_eq_left, exists_eq_left', true_and, and_true, if_true, if_false, Bool.false_eq_true, Bool.true_eq_false, reduceCtorEq, List.length_cons, List.length_nil, Option.map_some, List.any_cons, List.any_nil, Bool.or_false, isTy, decide_true, decide_false, Bool.and_true, Bool.and_false, Bool.or_true, Bool.true_or, Bool.false_or, Bool.false_and, Bool.true_and, Bool.not_true, Bool.not_false, startD, List.map_cons, List.map_nil, List.cons_append, List.nil_append, List.replicate_zero, List.replicate_succ, Nat.reduceSub, Nat.reduceAdd, Option.isSome_some, wipeD, false_and, and_false, exists_false, false_or, or_false, gt_iff_lt, ge_iff_le, at0, at1, at2, at3, at4, at5, atm1, ix0, ix1, ix2, ix3, ix4, Option.bind_some, decide_eq_true_eq, eq_ii, eq_bb, eq_ss, add_ii, sub_ii, mul_ii, fdiv_ii, mod_ii, pow_10, Nat.reduceLeDiff, Nat.zero_le, Int.reduceLE, Int.reduceLT, Nat.reducePow, Int.reducePow, Int.reduceNeg, Int.reduceToNat, Int.reduceSub, Int.reduceMul, Int.reduceAdd, or_true, true_or, Nat.reduceLT, and_self, Int.reduceEq, Nat.reduceEqDiff, exists_and_left, add_ss, mul_si, add_tt, add_ll, lstOf_l, lt_ii, lt_ss, le_ii, le_ss, gt_ii, ge_ii, is_bb, is_non, isNon_n, isNon_i, isNon_s, isNon_b, isNon_t, isNon_l, isNon_r, isTup_t, isTup_l, isTup_r, isTup_c, seqOf_t, seqOf_l, seqOf_c, tyOf_i, tyOf_b, tyOf_s, tyOf_t, tyOf_l, tyOf_n, len_s, len_t, len_l, len_c, idx_s, idx_t, idx_l, idx_c, f_law_take, lstOf_r (hn), seqOf_r (hn), tyOf_r (hn), len_r (hn), idx_r (hn), add_rl (hn)]
  by_cases h0 : 0 < a
  · rw [if_pos h0]
    refine sone ?_
    simp only [wpE, wpEs, wpCs, wpIt, wpS, bindT, bindTs, cmpF, bfW, methTy, methW, mkL, Ts.len, List.getElem?_cons_zero, List.getElem?_cons_succ, List.set_cons_zero, List.set_cons_succ, Option.some.injEq, D.int.injEq, D.bl.injEq, D.str.injEq, D.tup.injEq, D.lst.injEq, D.ref.injEq, exists_eq_left, exists_eq_left', true_and, and_true, if_true, if_false, Bool.false_eq_true, Bool.true_eq_false, reduceCtorEq, List.length_cons, List.length_nil, Option.map_some, List.any_cons, List.any_nil, Bool.or_false, isTy, decide_true, decide_false, Bool.and_true, Bool.and_false, Bool.or_true, Bool.true_or, Bool.false_or, Bool.false_and, Bool.true_and, Bool.not_true, Bool.not_false, startD, List.map_cons, List.map_nil, List.cons_append, List.nil_append, List.replicate_zero, List.replicate_succ, Nat.reduceSub, Nat.reduceAdd, Option.isSome_some, wipeD, false_and, and_false, exists_false, false_or, or_false, gt_iff_lt, ge_iff_le, at0, at1, at2, at3, at4, at5, atm1, ix0, ix1, ix2, ix3, ix4, Option.bind_some, decide_eq_true_eq, eq_ii, eq_bb, eq_ss, add_ii, sub_ii, mul_ii, fdiv_ii, mod_ii, pow_10, Nat.reduceLeDiff, Nat.zero_le, Int.reduceLE, Int.reduceLT, Nat.reducePow, Int.reducePow, Int.reduceNeg, Int.reduceToNat, Int.reduceSub, Int.reduceMul, Int.reduceAdd, or_true, true_or, Nat.reduceLT, and_self, Int.reduceEq, Nat.reduceEqDiff, exists_and_left, add_ss, mul_si, add_tt, add_ll, lstOf_l, lt_ii, lt_ss, le_ii, le_ss, gt_ii, ge_ii, is_bb, is_non, isNon_n, isNon_i, isNon_s, isNon_b, isNon_t, isNon_l, isNon_r, isTup_t, isTup_l, isTup_r, isTup_c, seqOf_t, seqOf_l, seqOf_c, tyOf_i, tyOf_b, tyOf_s, tyOf_t, tyOf_l, tyOf_n, len_s, len_t, len_l, len_c, idx_s, idx_t, idx_l, idx_c, lstOf_r (hn), seqOf_r (hn), tyOf_r (hn), len_r (hn), idx_r (hn), add_rl (hn)]
    refine ⟨_, if_pos hm, sone ?_⟩
    simp only [wpE, wpEs, wpCs, wpIt, wpS, bindT, bindTs, cmpF, bfW, methTy, methW, mkL, Ts.len, List.getElem?_cons_zero, List.getElem?_cons_succ, List.set_cons_zero, List.set_cons_succ, Option.some.injEq, D.int.injEq, D.bl.injEq, D.str.injEq, D.tup.injEq, D.lst.injEq, D.ref.injEq, exists_eq_left, exists_eq_left', true_and, and_true, if_true, if_false, Bool.false_eq_true, Bool.true_eq_false, reduceCtorEq, List.length_cons, List.length_nil, Option.map_some, List.any_cons, List.any_nil, Bool.or_false, isTy, decide_true, decide_false, Bool.and_true, Bool.and_false, Bool.or_true, Bool.true_or, Bool.false_or, Bool.false_and, Bool.true_and, Bool.not_true, Bool.not_false, startD, List.map_cons, List.map_nil, List.cons_append, List.nil_append, List.replicate_zero, List.replicate_succ, Nat.reduceSub, Nat.reduceAdd, Option.isSome_some, wipeD, false_and, and_false, exists_false, false_or, or_false, gt_iff_lt, ge_iff_le, at0, at1, at2, at3, at4, at5, atm1, ix0, ix1, ix2, ix3, ix4, Option.bind_some, decide_eq_true_eq, eq_ii, eq_bb, eq_ss, add_ii, sub_ii, mul_ii, fdiv_ii, mod_ii, pow_10, Nat.reduceLeDiff, Nat.zero_le, Int.reduceLE, Int.reduceLT, Nat.reducePow, Int.reducePow, Int.reduceNeg, Int.reduceToNat, Int.reduceSub, Int.reduceMul, Int.reduceAdd, or_true, true_or, Nat.reduceLT, and_self, Int.reduceEq, Nat.reduceEqDiff, exists_and_left, add_ss, mul_si, add_tt, add_ll, lstOf_l, lt_ii, lt_ss, le_ii, le_ss, gt_ii, ge_ii, is_bb, is_non, isNon_n, isNon_i, isNon_s, isNon_b, isNon_t, isNon_l, isNon_r, isTup_t, isTup_l, isTup_r, isTup_c, seqOf_t, seqOf_l, seqOf_c, tyOf_i, tyOf_b, tyOf_s, tyOf_t, tyOf_l, tyOf_n, len_s, len_t, len_l, len_c, idx_s, idx_t, idx_l, idx_c, lstOf_r (hn), seqOf_r (hn), tyOf_r (hn), len_r (hn), idx_r (hn), add_rl (hn)]
    refine ⟨_, if_pos ⟨hm, by omega⟩, _, hn, _, ix0, sone ?_⟩
    simp only [wpE, wpEs, wpCs, wpIt, wpS, bindT, bindTs, cmpF, bfW, methTy, methW, mkL, Ts.len, List.getElem?_cons_zero, List.getElem?_cons_succ, List.set_cons_zero, List.set_cons_succ, Option.some.injEq, D.int.injEq, D.bl.injEq, D.str.injEq, D.tup.injEq, D.lst.injEq, D.ref.injEq, exists_eq_left, exists_eq_left', true_and, and_true, if_true, if_false, Bool.false_eq_true, Bool.true_eq_false, reduceCtorEq, List.length_cons, List.length_nil, Option.map_some, List.any_cons, List.any_nil, Bool.or_false, isTy, decide_true, decide_false, Bool.and_true, Bool.and_false, Bool.or_true, Bool.true_or, Bool.false_or, Bool.false_and, Bool.true_and, Bool.not_true, Bool.not_false, startD, List.map_cons, List.map_nil, List.cons_append, List.nil_append, List.replicate_zero, List.replicate_succ, Nat.reduceSub, Nat.reduceAdd, Option.isSome_some, wipeD, false_and, and_false, exists_false, false_or, or_false, gt_iff_lt, ge_iff_le, at0, at1, at2, at3, at4, at5, atm1, ix0, ix1, ix2, ix3, ix4, Option.bind_some, decide_eq_true_eq, eq_ii, eq_bb, eq_ss, add_ii, sub_ii, mul_ii, fdiv_ii, mod_ii, pow_10, Nat.reduceLeDiff, Nat.zero_le, Int.reduceLE, Int.reduceLT, Nat.reducePow, Int.reducePow, Int.reduceNeg, Int.reduceToNat, Int.reduceSub, Int.reduceMul, Int.reduceAdd, or_true, true_or, Nat.reduceLT, and_self, Int.reduceEq, Nat.reduceEqDiff, exists_and_left, add_ss, mul_si, add_tt, add_ll, lstOf_l, lt_ii, lt_ss, le_ii, le_ss, gt_ii, ge_ii, is_bb, is_non, isNon_n, isNon_i, isNon_s, isNon_b, isNon_t, isNon_l, isNon_r, isTup_t, isTup_l, isTup_r, isTup_c, seqOf_t, seqOf_l, seqOf_c, tyOf_i, tyOf_b, tyOf_s, tyOf_t, tyOf_l, tyOf_n, len_s, len_t, len_l, len_c, idx_s, idx_t, idx_l, idx_c]
    exact .inl (q _ _ (Int.emod_nonneg _ (by omega)) (Int.emod_lt_of_pos _ hm) ⟨_, _, _, rfl, Int.ediv_nonneg ha (by omega), hb, hb2, hc, by omega⟩)
  · rw [if_neg h0]
    refine snil (sone ?_)
    simp only [wpE, wpEs, wpCs, wpIt, wpS, bindT, bindTs, cmpF, bfW, methTy, methW, mkL, Ts.len, List.getElem?_cons_zero, List.getElem?_cons_succ, List.set_cons_zero, List.set_cons_succ, Option.some.injEq, D.int.injEq, D.bl.injEq, D.str.injEq, D.tup.injEq, D.lst.injEq, D.ref.injEq, exists_eq_left, exists_eq_left', true_and, and_true, if_true, if_false, Bool.false_eq_true, Bool.true_eq_false, reduceCtorEq, List.length_cons, List.length_nil, Option.map_some, List.any_cons, List.any_nil, Bool.or_false, isTy, decide_true, decide_false, Bool.and_true, Bool.and_false, Bool.or_true, Bool.true_or, Bool.false_or, Bool.false_and, Bool.true_and, Bool.not_true, Bool.not_false, startD, List.map_cons, List.map_nil, List.cons_append, List.nil_append, List.replicate_zero, List.replicate_succ, Nat.reduceSub, Nat.reduceAdd, Option.isSome_some, wipeD, false_and, and_false, exists_false, false_or, or_false, gt_iff_lt, ge_iff_le, at0, at1, at2, at3, at4, at5, atm1, ix0, ix1, ix2, ix3, ix4, Option.bind_some, decide_eq_true_eq, eq_ii, eq_bb, eq_ss, add_ii, sub_ii, mul_ii, fdiv_ii, mod_ii, pow_10, Nat.reduceLeDiff, Nat.zero_le, Int.reduceLE, Int.reduceLT, Nat.reducePow, Int.reducePow, Int.reduceNeg, Int.reduceToNat, Int.reduceSub, Int.reduceMul, Int.reduceAdd, or_true, true_or, Nat.reduceLT, and_self, Int.reduceEq, Nat.reduceEqDiff, exists_and_left, add_ss, mul_si, add_tt, add_ll, lstOf_l, lt_ii, lt_ss, le_ii, le_ss, gt_ii, ge_ii, is_bb, is_non, isNon_n, isNon_i, isNon_s, isNon_b, isNon_t, isNon_l, isNon_r, isTup_t, isTup_l, isTup_r, isTup_c, seqOf_t, seqOf_l, seqOf_c, tyOf_i, tyOf_b, tyOf_s, tyOf_t, tyOf_l, tyOf_n, len_s, len_t, len_l, len_c, idx_s, idx_t, idx_l, idx_c, lstOf_r (hn), seqOf_r (hn), tyOf_r (hn), len_r (hn), idx_r (hn), add_rl (hn)]
    refine ⟨_, hn, _, ix2, sone ?_⟩
    simp only [wpE, wpEs, wpCs, wpIt, wpS, bindT, bindTs, cmpF, bfW, methTy, methW, mkL, Ts.len, List.getElem?_cons_zero, List.getElem?_cons_succ, List.set_cons_zero, List.set_cons_succ, Option.some.injEq, D.int.injEq, D.bl.injEq, D.str.injEq, D.tup.injEq, D.lst.injEq, D.ref.injEq, exists_eq_left, exists_eq_left', true_and, and_true, if_true, if_false, Bool.false_eq_true, Bool.true_eq_false, reduceCtorEq, List.length_cons, List.length_nil, Option.map_some, List.any_cons, List.any_nil, Bool.or_false, isTy, decide_true, decide_false, Bool.and_true, Bool.and_false, Bool.or_true, Bool.true_or, Bool.false_or, Bool.false_and, Bool.true_and, Bool.not_true, Bool.not_false, startD, List.map_cons, List.map_nil, List.cons_append, List.nil_append, List.replicate_zero, List.replicate_succ, Nat.reduceSub, Nat.reduceAdd, Option.isSome_some, wipeD, false_and, and_false, exists_false, false_or, or_false, gt_iff_lt, ge_iff_le, at0, at1, at2, at3, at4, at5, atm1, ix0, ix1, ix2, ix3, ix4, Option.bind_some, decide_eq_true_eq, eq_ii, eq_bb, eq_ss, add_ii, sub_ii, mul_ii, fdiv_ii, mod_ii, pow_10, Nat.reduceLeDiff, Nat.zero_le, Int.reduceLE, Int.reduceLT, Nat.reducePow, Int.reducePow, Int.reduceNeg, Int.reduceToNat, Int.reduceSub, Int.reduceMul, Int.reduceAdd, or_true, true_or, Nat.reduceLT, and_self, Int.reduceEq, Nat.reduceEqDiff, exists_and_left, add_ss, mul_si, add_tt, add_ll, lstOf_l, lt_ii, lt_ss, le_ii, le_ss, gt_ii, ge_ii, is_bb, is_non, isNon_n, isNon_i, isNon_s, isNon_b, isNon_t, isNon_l, isNon_r, isTup_t, isTup_l, isTup_r, isTup_c, seqOf_t, seqOf_l, seqOf_c, tyOf_i, tyOf_b, tyOf_s, tyOf_t, tyOf_l, tyOf_n, len_s, len_t, len_l, len_c, idx_s, idx_t, idx_l, idx_c, lstOf_r (hs _), seqOf_r (hs _), tyOf_r (hs _), len_r (hs _), idx_r (hs _), add_rl (hs _)]
    refine ⟨_, if_pos (.inr ⟨by omega, by omega⟩), ?_⟩
    simp only [wpE, wpEs, wpCs, wpIt, wpS, bindT, bindTs, cmpF, bfW, methTy, methW, mkL, Ts.len, List.getElem?_cons_zero, List.getElem?_cons_succ, List.set_cons_zero, List.set_cons_succ, Option.some.injEq, D.int.injEq, D.bl.injEq, D.str.injEq, D.tup.injEq, D.lst.injEq, D.ref.injEq, exists_eq_left, exists_eq_left', true_and, and_true, if_true, if_false, Bool.false_eq_true, Bool.true_eq_false, reduceCtorEq, List.length_cons, List.length_nil, Option.map_some, List.any_cons, List.any_nil, Bool.or_false, isTy, decide_true, decide_false, Bool.and_true, Bool.and_false, Bool.or_true, Bool.true_or, Bool.false_or, Bool.false_and, Bool.true_and, Bool.not_true, Bool.not_false, startD, List.map_cons, List.map_nil, List.cons_append, List.nil_append, List.replicate_zero, List.replicate_succ, Nat.reduceSub, Nat.reduceAdd, Option.isSome_some, wipeD, false_and, and_false, exists_false, false_or, or_false, gt_iff_lt, ge_iff_le, at0, at1, at2, at3, at4, at5, atm1, ix0, ix1, ix2, ix3, ix4, Option.bind_some, decide_eq_true_eq, eq_ii, eq_bb, eq_ss, add_ii, sub_ii, mul_ii, fdiv_ii, mod_ii, pow_10, Nat.reduceLeDiff, Nat.zero_le, Int.reduceLE, Int.reduceLT, Nat.reducePow, Int.reducePow, Int.reduceNeg, Int.reduceToNat, Int.reduceSub, Int.reduceMul, Int.reduceAdd, or_true, true_or, Nat.reduceLT, and_self, Int.reduceEq, Nat.reduceEqDiff, exists_and_left, add_ss, mul_si, add_tt, add_ll, lstOf_l, lt_ii, lt_ss, le_ii, le_ss, gt_ii, ge_ii, is_bb, is_non, isNon_n, isNon_i, isNon_s, isNon_b, isNon_t, isNon_l, isNon_r, isTup_t, isTup_l, isTup_r, isTup_c, seqOf_t, seqOf_l, seqOf_c, tyOf_i, tyOf_b, tyOf_s, tyOf_t, tyOf_l, tyOf_n, len_s, len_t, len_l, len_c, idx_s, idx_t, idx_l, idx_c, lstOf_r (hs _), seqOf_r (hs _), tyOf_r (hs _), len_r (hs _), idx_r (hs _), add_rl (hs _)]
    refine sone ?_
    simp only [wpE, wpEs, wpCs, wpIt, wpS, bindT, bindTs, cmpF, bfW, methTy, methW, mkL, Ts.len, List.getElem?_cons_zero, List.getElem?_cons_succ, List.set_cons_zero, List.set_cons_succ, Option.some.injEq, D.int.injEq, D.bl.injEq, D.str.injEq, D.tup.injEq, D.lst.injEq, D.ref.injEq, exists_eq_left, exists_eq_left', true_and, and_true, if_true, if_false, Bool.false_eq_true, Bool.true_eq_false, reduceCtorEq, List.length_cons, List.length_nil, Option.map_some, List.any_cons, List.any_nil, Bool.or_false, isTy, decide_true, decide_false, Bool.and_true, Bool.and_false, Bool.or_true, Bool.true_or, Bool.false_or, Bool.false_and, Bool.true_and, Bool.not_true, Bool.not_false, startD, List.map_cons, List.map_nil, List.cons_append, List.nil_append, List.replicate_zero, List.replicate_succ, Nat.reduceSub, Nat.reduceAdd, Option.isSome_some, wipeD, false_and, and_false, exists_false, false_or, or_false, gt_iff_lt, ge_iff_le, at0, at1, at2, at3, at4, at5, atm1, ix0, ix1, ix2, ix3, ix4, Option.bind_some, decide_eq_true_eq, eq_ii, eq_bb, eq_ss, add_ii, sub_ii, mul_ii, fdiv_ii, mod_ii, pow_10, Nat.reduceLeDiff, Nat.zero_le, Int.reduceLE, Int.reduceLT, Nat.reducePow, Int.reducePow, Int.reduceNeg, Int.reduceToNat, Int.reduceSub, Int.reduceMul, Int.reduceAdd, or_true, true_or, Nat.reduceLT, and_self, Int.reduceEq, Nat.reduceEqDiff, exists_and_left, add_ss, mul_si, add_tt, add_ll, lstOf_l, lt_ii, lt_ss, le_ii, le_ss, gt_ii, ge_ii, is_bb, is_non, isNon_n, isNon_i, isNon_s, isNon_b, isNon_t, isNon_l, isNon_r, isTup_t, isTup_l, isTup_r, isTup_c, seqOf_t, seqOf_l, seqOf_c, tyOf_i, tyOf_b, tyOf_s, tyOf_t, tyOf_l, tyOf_n, len_s, len_t, len_l, len_c, idx_s, idx_t, idx_l, idx_c, lstOf_r (hs _), seqOf_r (hs _), tyOf_r (hs _), len_r (hs _), idx_r (hs _), add_rl (hs _)]
    refine ⟨_, if_pos (.inr ⟨by omega, by omega⟩), ?_⟩
    simp only [wpE, wpEs, wpCs, wpIt, wpS, bindT, bindTs, cmpF, bfW, methTy, methW, mkL, Ts.len, List.getElem?_cons_zero, List.getElem?_cons_succ, List.set_cons_zero, List.set_cons_succ, Option.some.injEq, D.int.injEq, D.bl.injEq, D.str.injEq, D.tup.injEq, D.lst.injEq, D.ref.injEq, exists_eq_left, exists_eq_left', true_and, and_true, if_true, if_false, Bool.false_eq_true, Bool.true_eq_false, reduceCtorEq, List.length_cons, List.length_nil, Option.map_some, List.any_cons, List.any_nil, Bool.or_false, isTy, decide_true, decide_false, Bool.and_true, Bool.and_false, Bool.or_true, Bool.true_or, Bool.false_or, Bool.false_and, Bool.true_and, Bool.not_true, Bool.not_false, startD, List.map_cons, List.map_nil, List.cons_append, List.nil_append, List.replicate_zero, List.replicate_succ, Nat.reduceSub, Nat.reduceAdd, Option.isSome_some, wipeD, false_and, and_false, exists_false, false_or, or_false, gt_iff_lt, ge_iff_le, at0, at1, at2, at3, at4, at5, atm1, ix0, ix1, ix2, ix3, ix4, Option.bind_some, decide_eq_true_eq, eq_ii, eq_bb, eq_ss, add_ii, sub_ii, mul_ii, fdiv_ii, mod_ii, pow_10, Nat.reduceLeDiff, Nat.zero_le, Int.reduceLE, Int.reduceLT, Nat.reducePow, Int.reducePow, Int.reduceNeg, Int.reduceToNat, Int.reduceSub, Int.reduceMul, Int.reduceAdd, or_true, true_or, Nat.reduceLT, and_self, Int.reduceEq, Nat.reduceEqDiff, exists_and_left, add_ss, mul_si, add_tt, add_ll, lstOf_l, lt_ii, lt_ss, le_ii, le_ss, gt_ii, ge_ii, is_bb, is_non, isNon_n, isNon_i, isNon_s, isNon_b, isNon_t, isNon_l, isNon_r, isTup_t, isTup_l, isTup_r, isTup_c, seqOf_t, seqOf_l, seqOf_c, tyOf_i, tyOf_b, tyOf_s, tyOf_t, tyOf_l, tyOf_n, len_s, len_t, len_l, len_c, idx_s, idx_t, idx_l, idx_c, lstOf_r (hs _), seqOf_r (hs _), tyOf_r (hs _), len_r (hs _), idx_r (hs _), add_rl (hs _)]
    refine sone ?_
    simp only [wpE, wpEs, wpCs, wpIt, wpS, bindT, bindTs, cmpF, bfW, methTy, methW, mkL, Ts.len, List.getElem?_cons_zero, List.getElem?_cons_succ, List.set_cons_zero, List.set_cons_succ, Option.some.injEq, D.int.injEq, D.bl.injEq, D.str.injEq, D.tup.injEq, D.lst.injEq, D.ref.injEq, exists_eq_left, exists_eq_left', true_and, and_true, if_true, if_false, Bool.false_eq_true, Bool.true_eq_false, reduceCtorEq, List.length_cons, List.length_nil, Option.map_some, List.any_cons, List.any_nil, Bool.or_false, isTy, decide_true, decide_false, Bool.and_true, Bool.and_false, Bool.or_true, Bool.true_or, Bool.false_or, Bool.false_and, Bool.true_and, Bool.not_true, Bool.not_false, startD, List.map_cons, List.map_nil, List.cons_append, List.nil_append, List.replicate_zero, List.replicate_succ, Nat.reduceSub, Nat.reduceAdd, Option.isSome_some, wipeD, false_and, and_false, exists_false, false_or, or_false, gt_iff_lt, ge_iff_le, at0, at1, at2, at3, at4, at5, atm1, ix0, ix1, ix2, ix3, ix4, Option.bind_some, decide_eq_true_eq, eq_ii, eq_bb, eq_ss, add_ii, sub_ii, mul_ii, fdiv_ii, mod_ii, pow_10, Nat.reduceLeDiff, Nat.zero_le, Int.reduceLE, Int.reduceLT, Nat.reducePow, Int.reducePow, Int.reduceNeg, Int.reduceToNat, Int.reduceSub, Int.reduceMul, Int.reduceAdd, or_true, true_or, Nat.reduceLT, and_self, Int.reduceEq, Nat.reduceEqDiff, exists_and_left, add_ss, mul_si, add_tt, add_ll, lstOf_l, lt_ii, lt_ss, le_ii, le_ss, gt_ii, ge_ii, is_bb, is_non, isNon_n, isNon_i, isNon_s, isNon_b, isNon_t, isNon_l, isNon_r, isTup_t, isTup_l, isTup_r, isTup_c, seqOf_t, seqOf_l, seqOf_c, tyOf_i, tyOf_b, tyOf_s, tyOf_t, tyOf_l, tyOf_n, len_s, len_t, len_l, len_c, idx_s, idx_t, idx_l, idx_c, lstOf_r (hs _), seqOf_r (hs _), tyOf_r (hs _), len_r (hs _), idx_r (hs _), add_rl (hs _)]
    refine ⟨_, if_pos hm, .inl ?_⟩
    exact q _ _ (Int.emod_nonneg _ (by omega)) (Int.emod_lt_of_pos _ hm) ⟨_, _, _, rfl, ha, hb, hb2, by omega, by omega⟩
/-- a comprehension whose turns ask the box at n, each at most c times -/
theorem compL_box {f : D → DH → (Option D → DH → Prop) → Prop} {st : DH → Prop} {h : DH} {n : Nat} {B c : Int} {us0 : List D} (P : D → Prop) {Q : List D → DH → Prop} {items : List D} (hc : 0 ≤ c) (hst : ∀ us, st (h.set n (.lst us))) (h0 : BoxOk B us0)
    (step : ∀ x, x ∈ items → ∀ C us, BoxOk C us → B ≤ C → C + c ≤ B + items.length * c → ∀ k : Option D → DH → Prop, (∀ y vs, P y → BoxOk (C + c) vs → k (some y) (h.set n (.lst vs))) → f x (h.set n (.lst us)) k)
    (fin : ∀ ys vs, ys.length = items.length → (∀ y ∈ ys, P y) → BoxOk (B + items.length * c) vs → Q ys (h.set n (.lst vs))) : compL f st items [] (h.set n (.lst us0)) Q := by
  refine compL_inv (fun rest acc h' => ∃ us, h' = h.set n (.lst us) ∧ BoxOk (B + acc.length * c) us ∧ (∀ x ∈ acc, P x) ∧ acc.length + rest.length = items.length ∧ ∀ x ∈ rest, x ∈ items) (fun x rest acc h' ⟨us, e, hb, hp, hl, hm⟩ => ?_) (fun acc h' ⟨us, e, hb, hp, hl, hm⟩ => ?_) _ _ _ ⟨us0, rfl, by simpa using h0, (fun x m => absurd m (by simp)), by simp, fun x m => m⟩
  · subst e
    have l1 : (acc.length : Int) + 1 ≤ items.length := by rw [List.length_cons] at hl; omega
    have l2 := Int.mul_le_mul_of_nonneg_right l1 hc
    have l3 : 0 ≤ (acc.length : Int) * c := Int.mul_nonneg (by omega) hc
    rw [Int.add_mul, Int.one_mul] at l2
    refine ⟨hst us, fun k k1 k2 => step x (hm x (by simp)) _ us hb (by omega) (by omega) k fun y vs py hv => ?_⟩
    refine k1 y _ ⟨vs, rfl, ?_, fun z m => ?_, ?_, fun z m => hm z (by simp [m])⟩
    · rw [List.length_append, show ((acc.length + [y].length : Nat) : Int) = (acc.length : Int) + 1 by simp, Int.add_mul, Int.one_mul, ← Int.add_assoc]
      exact hv
    · rcases List.mem_append.mp m with m | m
      · exact hp z m
      · rw [List.mem_singleton.mp m]; exact py
    · rw [List.length_append]; simp at hl ⊢; omega
  · subst e
    have hl : acc.length = items.length := by simpa using hl
    refine ⟨hst us, fin acc us hl hp (by rw [← hl]; exact hb)⟩
def f_law_value : Fn := ⟨1, 2, (.cons (.asg (.name 1) (.call "_law_take" (.cons (.var 0) (.cons (.int 9) .nil)))) (.cons (.ite (.cmp .lt (.var 1) (.int 4)) (.cons (.ret (.bin .sub (.call "_law_take" (.cons (.var 0) (.cons (.int 13) .nil))) (.int 3))) .nil) .nil) (.cons (.ite (.cmp .eq (.var 1) (.int 4)) (.cons (.ret (.idx (.lst false (.cons (.bin .sub (.bin .pow (.int 10) (.int 12)) (.int 1)) (.cons (.bin .sub (.int 0) (.bin .pow (.int 10) (.int 11))) (.cons (.int 100) (.cons (.int 10) .nil))))) (.call "_law_take" (.cons (.var 0) (.cons (.int 4) .nil))))) .nil) .nil) (.cons (.ite (.cmp .eq (.var 1) (.int 5)) (.cons (.ret .non) .nil) .nil) (.cons (.ret (.idx (.lst false (.cons (.str "") (.cons (.str "a") (.cons (.str "b") (.cons (.str "B") (.cons (.str "10") (.cons (.str "9") (.cons (.str "-") (.cons (.str "a b") (.cons (.str "it's") (.cons (.str "\\") (.cons (.str "/") (.cons (.str "_") (.cons (.str ":") (.cons (.str "None") (.cons (.str "ab") .nil)))))))))))))))) (.call "_law_take" (.cons (.var 0) (.cons (.int 15) .nil))))) .nil)))))⟩
/-- the box at n is asked at most k times more -/
def Asked (h : DH) (n : Nat) (B : Int) (k : Int) (ds : List D) : Prop := ds = [.ref n] ∧ (∃ xs, h[n]? = some (.lst xs) ∧ BoxOk B xs) ∧ B + k ≤ 1000000000000
def spValue : Spc := fun ds h Q _ => ∃ (n : Nat) (B : Int), Asked h n B 10 ds ∧ ∀ d ys, Val d → BoxOk (B + 2) ys → Q d (h.set n (.lst ys))
theorem BoxOk.mono {B C : Int} {xs : List D} (h : BoxOk B xs) (l : B ≤ C) : BoxOk C xs := by
  obtain ⟨a, b, c, e, h1, h2, h3, h4, h5⟩ := h
  exact ⟨a, b, c, e, h1, h2, h3, h4, by omega⟩
theorem val_int (i : Int) : Val (.int i) := ⟨rfl, fun s e => nomatch e⟩
theorem val_non : Val .non := ⟨rfl, fun s e => nomatch e⟩
def valB (d : D) : Bool := isVal d && (match d with | .str s => decide (s.length ≤ 100000) | _ => true)
theorem val_of {d : D} (h : valB d = true) : Val d := by
  unfold valB at h
  rw [Bool.and_eq_true] at h
  refine ⟨h.1, fun s e => ?_⟩
  subst e
  exact of_decide_eq_true h.2
theorem vals_of {xs : List D} (h : xs.all valB = true) : ∀ x ∈ xs, Val x := fun x m => val_of (List.all_eq_true.mp h x m)
theorem i_value {Φ : Fs} (e1 : Φ.fn "_law_take" = spTake) : Impl Φ f_law_value spValue := by
  rintro ds h Q ⟨n, B, ⟨rfl, ⟨xs, hn, hb⟩, hB⟩, q⟩
  have hnl : n < h.length := (List.getElem?_eq_some_iff.mp hn).1
  have hs : ∀ o, (h.set n o)[n]? = some o := fun o => List.getElem?_set_self hnl
  refine ⟨rfl, sone ?_⟩
  simp only [wpE, wpEs, wpCs, wpIt, wpS, bindT, bindTs, cmpF, bfW, methTy, methW, mkL, Ts.len, List.getElem?_cons_zero, List.getElem?_cons_succ, List.set_cons_zero, List.set_cons_succ, Option.some.injEq, D.int.injEq, D.bl.injEq, D.str.injEq, D.tup.injEq, D.lst.injEq, D.ref.injEq, exists_eq_left, exists_eq_left', true_and, and_true, if_true, if_false, Bool.false_eq_true, Bool.true_eq_false, reduceCtorEq, List.length_cons, List.length_nil, Option.map_some, List.any_cons, List.any_nil, Bool.or_false, isTy, decide_true, decide_false, Bool.and_true, Bool.and_false, Bool.or_true, Bool.true_or, Bool.false_or, Bool.false_and, Bool.true_and, Bool.not_true, Bool.not_false, startD, List.map_cons, List.map_nil, List.cons_append, List.nil_append, List.replicate_zero, List.replicate_succ, Nat.reduceSub, Nat.reduceAdd, Option.isSome_some, wipeD, false_and, and_false, exists_false, false_or, or_false, gt_iff_lt, ge_iff_le, at0, at1, at2, at3, at4, at5, atm1, ix0, ix1, ix2, ix3, ix4, Option.bind_some, decide_eq_true_eq, eq_ii, eq_bb, eq_ss, add_ii, sub_ii, mul_ii, fdiv_ii, mod_ii, pow_10, Nat.reduceLeDiff, Nat.zero_le, Int.reduceLE, Int.reduceLT, Nat.reducePow, Int.reducePow, Int.reduceNeg, Int.reduceToNat, Int.reduceSub, Int.reduceMul, Int.reduceAdd, or_true, true_or, Nat.reduceLT, and_self, Int.reduceEq, Nat.reduceEqDiff, exists_and_left, add_ss, mul_si, add_tt, add_ll, lstOf_l, lt_ii, lt_ss, le_ii, le_ss, gt_ii, ge_ii, is_bb, is_non, isNon_n, isNon_i, isNon_s, isNon_b, isNon_t, isNon_l, isNon_r, isTup_t, isTup_l, isTup_r, isTup_c, seqOf_t, seqOf_l, seqOf_c, tyOf_i, tyOf_b, tyOf_s, tyOf_t, tyOf_l, tyOf_n, len_s, len_t, len_l, len_c, idx_s, idx_t, idx_l, idx_c, f_law_value, e1]
  refine ⟨n, 9, B, xs, rfl, hn, hb, by omega, by decide, by decide, fun r ys h0 h1 hy => ?_⟩
  refine sone ?_
  simp only [wpE, wpEs, wpCs, wpIt, wpS, bindT, bindTs, cmpF, bfW, methTy, methW, mkL, Ts.len, List.getElem?_cons_zero, List.getElem?_cons_succ, List.set_cons_zero, List.set_cons_succ, Option.some.injEq, D.int.injEq, D.bl.injEq, D.str.injEq, D.tup.injEq, D.lst.injEq, D.ref.injEq, exists_eq_left, exists_eq_left', true_and, and_true, if_true, if_false, Bool.false_eq_true, Bool.true_eq_false, reduceCtorEq, List.length_cons, List.length_nil, Option.map_some, List.any_cons, List.any_nil, Bool.or_false, isTy, decide_true, decide_false, Bool.and_true, Bool.and_false, Bool.or_true, Bool.true_or, Bool.false_or, Bool.false_and, Bool.true_and, Bool.not_true, Bool.not_false, startD, List.map_cons, List.map_nil, List.cons_append, List.nil_append, List.replicate_zero, List.replicate_succ, Nat.reduceSub, Nat.reduceAdd, Option.isSome_some, wipeD, false_and, and_false, exists_false, false_or, or_false, gt_iff_lt, ge_iff_le, at0, at1, at2, at3, at4, at5, atm1, ix0, ix1, ix2, ix3, ix4, Option.bind_some, decide_eq_true_eq, eq_ii, eq_bb, eq_ss, add_ii, sub_ii, mul_ii, fdiv_ii, mod_ii, pow_10, Nat.reduceLeDiff, Nat.zero_le, Int.reduceLE, Int.reduceLT, Nat.reducePow, Int.reducePow, Int.reduceNeg, Int.reduceToNat, Int.reduceSub, Int.reduceMul, Int.reduceAdd, or_true, true_or, Nat.reduceLT, and_self, Int.reduceEq, Nat.reduceEqDiff, exists_and_left, add_ss, mul_si, add_tt, add_ll, lstOf_l, lt_ii, lt_ss, le_ii, le_ss, gt_ii, ge_ii, is_bb, is_non, isNon_n, isNon_i, isNon_s, isNon_b, isNon_t, isNon_l, isNon_r, isTup_t, isTup_l, isTup_r, isTup_c, seqOf_t, seqOf_l, seqOf_c, tyOf_i, tyOf_b, tyOf_s, tyOf_t, tyOf_l, tyOf_n, len_s, len_t, len_l, len_c, idx_s, idx_t, idx_l, idx_c]
  split
  · refine sone ?_
    simp only [wpE, wpEs, wpCs, wpIt, wpS, bindT, bindTs, cmpF, bfW, methTy, methW, mkL, Ts.len, List.getElem?_cons_zero, List.getElem?_cons_succ, List.set_cons_zero, List.set_cons_succ, Option.some.injEq, D.int.injEq, D.bl.injEq, D.str.injEq, D.tup.injEq, D.lst.injEq, D.ref.injEq, exists_eq_left, exists_eq_left', true_and, and_true, if_true, if_false, Bool.false_eq_true, Bool.true_eq_false, reduceCtorEq, List.length_cons, List.length_nil, Option.map_some, List.any_cons, List.any_nil, Bool.or_false, isTy, decide_true, decide_false, Bool.and_true, Bool.and_false, Bool.or_true, Bool.true_or, Bool.false_or, Bool.false_and, Bool.true_and, Bool.not_true, Bool.not_false, startD, List.map_cons, List.map_nil, List.cons_append, List.nil_append, List.replicate_zero, List.replicate_succ, Nat.reduceSub, Nat.reduceAdd, Option.isSome_some, wipeD, false_and, and_false, exists_false, false_or, or_false, gt_iff_lt, ge_iff_le, at0, at1, at2, at3, at4, at5, atm1, ix0, ix1, ix2, ix3, ix4, Option.bind_some, decide_eq_true_eq, eq_ii, eq_bb, eq_ss, add_ii, sub_ii, mul_ii, fdiv_ii, mod_ii, pow_10, Nat.reduceLeDiff, Nat.zero_le, Int.reduceLE, Int.reduceLT, Nat.reducePow, Int.reducePow, Int.reduceNeg, Int.reduceToNat, Int.reduceSub, Int.reduceMul, Int.reduceAdd, or_true, true_or, Nat.reduceLT, and_self, Int.reduceEq, Nat.reduceEqDiff, exists_and_left, add_ss, mul_si, add_tt, add_ll, lstOf_l, lt_ii, lt_ss, le_ii, le_ss, gt_ii, ge_ii, is_bb, is_non, isNon_n, isNon_i, isNon_s, isNon_b, isNon_t, isNon_l, isNon_r, isTup_t, isTup_l, isTup_r, isTup_c, seqOf_t, seqOf_l, seqOf_c, tyOf_i, tyOf_b, tyOf_s, tyOf_t, tyOf_l, tyOf_n, len_s, len_t, len_l, len_c, idx_s, idx_t, idx_l, idx_c, e1]
    refine ⟨n, 13, B + 1, ys, rfl, hs _, hy, by omega, by decide, by decide, fun r2 zs g0 g1 hz => ?_⟩
    simp only [wpE, wpEs, wpCs, wpIt, wpS, bindT, bindTs, cmpF, bfW, methTy, methW, mkL, Ts.len, List.getElem?_cons_zero, List.getElem?_cons_succ, List.set_cons_zero, List.set_cons_succ, Option.some.injEq, D.int.injEq, D.bl.injEq, D.str.injEq, D.tup.injEq, D.lst.injEq, D.ref.injEq, exists_eq_left, exists_eq_left', true_and, and_true, if_true, if_false, Bool.false_eq_true, Bool.true_eq_false, reduceCtorEq, List.length_cons, List.length_nil, Option.map_some, List.any_cons, List.any_nil, Bool.or_false, isTy, decide_true, decide_false, Bool.and_true, Bool.and_false, Bool.or_true, Bool.true_or, Bool.false_or, Bool.false_and, Bool.true_and, Bool.not_true, Bool.not_false, startD, List.map_cons, List.map_nil, List.cons_append, List.nil_append, List.replicate_zero, List.replicate_succ, Nat.reduceSub, Nat.reduceAdd, Option.isSome_some, wipeD, false_and, and_false, exists_false, false_or, or_false, gt_iff_lt, ge_iff_le, at0, at1, at2, at3, at4, at5, atm1, ix0, ix1, ix2, ix3, ix4, Option.bind_some, decide_eq_true_eq, eq_ii, eq_bb, eq_ss, add_ii, sub_ii, mul_ii, fdiv_ii, mod_ii, pow_10, Nat.reduceLeDiff, Nat.zero_le, Int.reduceLE, Int.reduceLT, Nat.reducePow, Int.reducePow, Int.reduceNeg, Int.reduceToNat, Int.reduceSub, Int.reduceMul, Int.reduceAdd, or_true, true_or, Nat.reduceLT, and_self, Int.reduceEq, Nat.reduceEqDiff, exists_and_left, add_ss, mul_si, add_tt, add_ll, lstOf_l, lt_ii, lt_ss, le_ii, le_ss, gt_ii, ge_ii, is_bb, is_non, isNon_n, isNon_i, isNon_s, isNon_b, isNon_t, isNon_l, isNon_r, isTup_t, isTup_l, isTup_r, isTup_c, seqOf_t, seqOf_l, seqOf_c, tyOf_i, tyOf_b, tyOf_s, tyOf_t, tyOf_l, tyOf_n, len_s, len_t, len_l, len_c, idx_s, idx_t, idx_l, idx_c, List.set_set]
    exact .inl (q _ _ (val_int _) (hz.mono (by omega)))
  refine snil (sone ?_)
  simp only [wpE, wpEs, wpCs, wpIt, wpS, bindT, bindTs, cmpF, bfW, methTy, methW, mkL, Ts.len, List.getElem?_cons_zero, List.getElem?_cons_succ, List.set_cons_zero, List.set_cons_succ, Option.some.injEq, D.int.injEq, D.bl.injEq, D.str.injEq, D.tup.injEq, D.lst.injEq, D.ref.injEq, exists_eq_left, exists_eq_left', true_and, and_true, if_true, if_false, Bool.false_eq_true, Bool.true_eq_false, reduceCtorEq, List.length_cons, List.length_nil, Option.map_some, List.any_cons, List.any_nil, Bool.or_false, isTy, decide_true, decide_false, Bool.and_true, Bool.and_false, Bool.or_true, Bool.true_or, Bool.false_or, Bool.false_and, Bool.true_and, Bool.not_true, Bool.not_false, startD, List.map_cons, List.map_nil, List.cons_append, List.nil_append, List.replicate_zero, List.replicate_succ, Nat.reduceSub, Nat.reduceAdd, Option.isSome_some, wipeD, false_and, and_false, exists_false, false_or, or_false, gt_iff_lt, ge_iff_le, at0, at1, at2, at3, at4, at5, atm1, ix0, ix1, ix2, ix3, ix4, Option.bind_some, decide_eq_true_eq, eq_ii, eq_bb, eq_ss, add_ii, sub_ii, mul_ii, fdiv_ii, mod_ii, pow_10, Nat.reduceLeDiff, Nat.zero_le, Int.reduceLE, Int.reduceLT, Nat.reducePow, Int.reducePow, Int.reduceNeg, Int.reduceToNat, Int.reduceSub, Int.reduceMul, Int.reduceAdd, or_true, true_or, Nat.reduceLT, and_self, Int.reduceEq, Nat.reduceEqDiff, exists_and_left, add_ss, mul_si, add_tt, add_ll, lstOf_l, lt_ii, lt_ss, le_ii, le_ss, gt_ii, ge_ii, is_bb, is_non, isNon_n, isNon_i, isNon_s, isNon_b, isNon_t, isNon_l, isNon_r, isTup_t, isTup_l, isTup_r, isTup_c, seqOf_t, seqOf_l, seqOf_c, tyOf_i, tyOf_b, tyOf_s, tyOf_t, tyOf_l, tyOf_n, len_s, len_t, len_l, len_c, idx_s, idx_t, idx_l, idx_c]
  split
  · refine sone ?_
    simp only [wpE, wpEs, wpCs, wpIt, wpS, bindT, bindTs, cmpF, bfW, methTy, methW, mkL, Ts.len, List.getElem?_cons_zero, List.getElem?_cons_succ, List.set_cons_zero, List.set_cons_succ, Option.some.injEq, D.int.injEq, D.bl.injEq, D.str.injEq, D.tup.injEq, D.lst.injEq, D.ref.injEq, exists_eq_left, exists_eq_left', true_and, and_true, if_true, if_false, Bool.false_eq_true, Bool.true_eq_false, reduceCtorEq, List.length_cons, List.length_nil, Option.map_some, List.any_cons, List.any_nil, Bool.or_false, isTy, decide_true, decide_false, Bool.and_true, Bool.and_false, Bool.or_true, Bool.true_or, Bool.false_or, Bool.false_and, Bool.true_and, Bool.not_true, Bool.not_false, startD, List.map_cons, List.map_nil, List.cons_append, List.nil_append, List.replicate_zero, List.replicate_succ, Nat.reduceSub, Nat.reduceAdd, Option.isSome_some, wipeD, false_and, and_false, exists_false, false_or, or_false, gt_iff_lt, ge_iff_le, at0, at1, at2, at3, at4, at5, atm1, ix0, ix1, ix2, ix3, ix4, Option.bind_some, decide_eq_true_eq, eq_ii, eq_bb, eq_ss, add_ii, sub_ii, mul_ii, fdiv_ii, mod_ii, pow_10, Nat.reduceLeDiff, Nat.zero_le, Int.reduceLE, Int.reduceLT, Nat.reducePow, Int.reducePow, Int.reduceNeg, Int.reduceToNat, Int.reduceSub, Int.reduceMul, Int.reduceAdd, or_true, true_or, Nat.reduceLT, and_self, Int.reduceEq, Nat.reduceEqDiff, exists_and_left, add_ss, mul_si, add_tt, add_ll, lstOf_l, lt_ii, lt_ss, le_ii, le_ss, gt_ii, ge_ii, is_bb, is_non, isNon_n, isNon_i, isNon_s, isNon_b, isNon_t, isNon_l, isNon_r, isTup_t, isTup_l, isTup_r, isTup_c, seqOf_t, seqOf_l, seqOf_c, tyOf_i, tyOf_b, tyOf_s, tyOf_t, tyOf_l, tyOf_n, len_s, len_t, len_l, len_c, idx_s, idx_t, idx_l, idx_c]
    rw [e1]
    refine ⟨n, 4, B + 1, ys, rfl, hs _, hy, by omega, by decide, by decide, fun r2 zs g0 g1 hz => ?_⟩
    simp only [wpE, wpEs, wpCs, wpIt, wpS, bindT, bindTs, cmpF, bfW, methTy, methW, mkL, Ts.len, List.getElem?_cons_zero, List.getElem?_cons_succ, List.set_cons_zero, List.set_cons_succ, Option.some.injEq, D.int.injEq, D.bl.injEq, D.str.injEq, D.tup.injEq, D.lst.injEq, D.ref.injEq, exists_eq_left, exists_eq_left', true_and, and_true, if_true, if_false, Bool.false_eq_true, Bool.true_eq_false, reduceCtorEq, List.length_cons, List.length_nil, Option.map_some, List.any_cons, List.any_nil, Bool.or_false, isTy, decide_true, decide_false, Bool.and_true, Bool.and_false, Bool.or_true, Bool.true_or, Bool.false_or, Bool.false_and, Bool.true_and, Bool.not_true, Bool.not_false, startD, List.map_cons, List.map_nil, List.cons_append, List.nil_append, List.replicate_zero, List.replicate_succ, Nat.reduceSub, Nat.reduceAdd, Option.isSome_some, wipeD, false_and, and_false, exists_false, false_or, or_false, gt_iff_lt, ge_iff_le, at0, at1, at2, at3, at4, at5, atm1, ix0, ix1, ix2, ix3, ix4, Option.bind_some, decide_eq_true_eq, eq_ii, eq_bb, eq_ss, add_ii, sub_ii, mul_ii, fdiv_ii, mod_ii, pow_10, Nat.reduceLeDiff, Nat.zero_le, Int.reduceLE, Int.reduceLT, Nat.reducePow, Int.reducePow, Int.reduceNeg, Int.reduceToNat, Int.reduceSub, Int.reduceMul, Int.reduceAdd, or_true, true_or, Nat.reduceLT, and_self, Int.reduceEq, Nat.reduceEqDiff, exists_and_left, add_ss, mul_si, add_tt, add_ll, lstOf_l, lt_ii, lt_ss, le_ii, le_ss, gt_ii, ge_ii, is_bb, is_non, isNon_n, isNon_i, isNon_s, isNon_b, isNon_t, isNon_l, isNon_r, isTup_t, isTup_l, isTup_r, isTup_c, seqOf_t, seqOf_l, seqOf_c, tyOf_i, tyOf_b, tyOf_s, tyOf_t, tyOf_l, tyOf_n, len_s, len_t, len_l, len_c, idx_s, idx_t, idx_l, idx_c]
    obtain ⟨x, ex, hx⟩ := at_mem (P := Val) (xs := [.int 999999999999, .int (-100000000000), .int 100, .int 10]) (i := r2) (by simp [val_int]) g0 (by simpa using g1)
    rw [ex, List.set_set]
    exact ⟨x, rfl, .inl (q _ _ hx (hz.mono (by omega)))⟩
  refine snil (sone ?_)
  simp only [wpE, wpEs, wpCs, wpIt, wpS, bindT, bindTs, cmpF, bfW, methTy, methW, mkL, Ts.len, List.getElem?_cons_zero, List.getElem?_cons_succ, List.set_cons_zero, List.set_cons_succ, Option.some.injEq, D.int.injEq, D.bl.injEq, D.str.injEq, D.tup.injEq, D.lst.injEq, D.ref.injEq, exists_eq_left, exists_eq_left', true_and, and_true, if_true, if_false, Bool.false_eq_true, Bool.true_eq_false, reduceCtorEq, List.length_cons, List.length_nil, Option.map_some, List.any_cons, List.any_nil, Bool.or_false, isTy, decide_true, decide_false, Bool.and_true, Bool.and_false, Bool.or_true, Bool.true_or, Bool.false_or, Bool.false_and, Bool.true_and, Bool.not_true, Bool.not_false, startD, List.map_cons, List.map_nil, List.cons_append, List.nil_append, List.replicate_zero, List.replicate_succ, Nat.reduceSub, Nat.reduceAdd, Option.isSome_some, wipeD, false_and, and_false, exists_false, false_or, or_false, gt_iff_lt, ge_iff_le, at0, at1, at2, at3, at4, at5, atm1, ix0, ix1, ix2, ix3, ix4, Option.bind_some, decide_eq_true_eq, eq_ii, eq_bb, eq_ss, add_ii, sub_ii, mul_ii, fdiv_ii, mod_ii, pow_10, Nat.reduceLeDiff, Nat.zero_le, Int.reduceLE, Int.reduceLT, Nat.reducePow, Int.reducePow, Int.reduceNeg, Int.reduceToNat, Int.reduceSub, Int.reduceMul, Int.reduceAdd, or_true, true_or, Nat.reduceLT, and_self, Int.reduceEq, Nat.reduceEqDiff, exists_and_left, add_ss, mul_si, add_tt, add_ll, lstOf_l, lt_ii, lt_ss, le_ii, le_ss, gt_ii, ge_ii, is_bb, is_non, isNon_n, isNon_i, isNon_s, isNon_b, isNon_t, isNon_l, isNon_r, isTup_t, isTup_l, isTup_r, isTup_c, seqOf_t, seqOf_l, seqOf_c, tyOf_i, tyOf_b, tyOf_s, tyOf_t, tyOf_l, tyOf_n, len_s, len_t, len_l, len_c, idx_s, idx_t, idx_l, idx_c]
  split
  · refine sone ?_
    simp only [wpE, wpEs, wpCs, wpIt, wpS, bindT, bindTs, cmpF, bfW, methTy, methW, mkL, Ts.len, List.getElem?_cons_zero, List.getElem?_cons_succ, List.set_cons_zero, List.set_cons_succ, Option.some.injEq, D.int.injEq, D.bl.injEq, D.str.injEq, D.tup.injEq, D.lst.injEq, D.ref.injEq, exists_eq_left, exists_eq_left', true_and, and_true, if_true, if_false, Bool.false_eq_true, Bool.true_eq_false, reduceCtorEq, List.length_cons, List.length_nil, Option.map_some, List.any_cons, List.any_nil, Bool.or_false, isTy, decide_true, decide_false, Bool.and_true, Bool.and_false, Bool.or_true, Bool.true_or, Bool.false_or, Bool.false_and, Bool.true_and, Bool.not_true, Bool.not_false, startD, List.map_cons, List.map_nil, List.cons_append, List.nil_append, List.replicate_zero, List.replicate_succ, Nat.reduceSub, Nat.reduceAdd, Option.isSome_some, wipeD, false_and, and_false, exists_false, false_or, or_false, gt_iff_lt, ge_iff_le, at0, at1, at2, at3, at4, at5, atm1, ix0, ix1, ix2, ix3, ix4, Option.bind_some, decide_eq_true_eq, eq_ii, eq_bb, eq_ss, add_ii, sub_ii, mul_ii, fdiv_ii, mod_ii, pow_10, Nat.reduceLeDiff, Nat.zero_le, Int.reduceLE, Int.reduceLT, Nat.reducePow, Int.reducePow, Int.reduceNeg, Int.reduceToNat, Int.reduceSub, Int.reduceMul, Int.reduceAdd, or_true, true_or, Nat.reduceLT, and_self, Int.reduceEq, Nat.reduceEqDiff, exists_and_left, add_ss, mul_si, add_tt, add_ll, lstOf_l, lt_ii, lt_ss, le_ii, le_ss, gt_ii, ge_ii, is_bb, is_non, isNon_n, isNon_i, isNon_s, isNon_b, isNon_t, isNon_l, isNon_r, isTup_t, isTup_l, isTup_r, isTup_c, seqOf_t, seqOf_l, seqOf_c, tyOf_i, tyOf_b, tyOf_s, tyOf_t, tyOf_l, tyOf_n, len_s, len_t, len_l, len_c, idx_s, idx_t, idx_l, idx_c]
    exact .inl (q _ _ val_non (hy.mono (by omega)))
  refine snil (sone ?_)
  simp only [wpE, wpEs, wpCs, wpIt, wpS, bindT, bindTs, cmpF, bfW, methTy, methW, mkL, Ts.len, List.getElem?_cons_zero, List.getElem?_cons_succ, List.set_cons_zero, List.set_cons_succ, Option.some.injEq, D.int.injEq, D.bl.injEq, D.str.injEq, D.tup.injEq, D.lst.injEq, D.ref.injEq, exists_eq_left, exists_eq_left', true_and, and_true, if_true, if_false, Bool.false_eq_true, Bool.true_eq_false, reduceCtorEq, List.length_cons, List.length_nil, Option.map_some, List.any_cons, List.any_nil, Bool.or_false, isTy, decide_true, decide_false, Bool.and_true, Bool.and_false, Bool.or_true, Bool.true_or, Bool.false_or, Bool.false_and, Bool.true_and, Bool.not_true, Bool.not_false, startD, List.map_cons, List.map_nil, List.cons_append, List.nil_append, List.replicate_zero, List.replicate_succ, Nat.reduceSub, Nat.reduceAdd, Option.isSome_some, wipeD, false_and, and_false, exists_false, false_or, or_false, gt_iff_lt, ge_iff_le, at0, at1, at2, at3, at4, at5, atm1, ix0, ix1, ix2, ix3, ix4, Option.bind_some, decide_eq_true_eq, eq_ii, eq_bb, eq_ss, add_ii, sub_ii, mul_ii, fdiv_ii, mod_ii, pow_10, Nat.reduceLeDiff, Nat.zero_le, Int.reduceLE, Int.reduceLT, Nat.reducePow, Int.reducePow, Int.reduceNeg, Int.reduceToNat, Int.reduceSub, Int.reduceMul, Int.reduceAdd, or_true, true_or, Nat.reduceLT, and_self, Int.reduceEq, Nat.reduceEqDiff, exists_and_left, add_ss, mul_si, add_tt, add_ll, lstOf_l, lt_ii, lt_ss, le_ii, le_ss, gt_ii, ge_ii, is_bb, is_non, isNon_n, isNon_i, isNon_s, isNon_b, isNon_t, isNon_l, isNon_r, isTup_t, isTup_l, isTup_r, isTup_c, seqOf_t, seqOf_l, seqOf_c, tyOf_i, tyOf_b, tyOf_s, tyOf_t, tyOf_l, tyOf_n, len_s, len_t, len_l, len_c, idx_s, idx_t, idx_l, idx_c, e1]
  refine ⟨n, 15, B + 1, ys, rfl, hs _, hy, by omega, by decide, by decide, fun r2 zs g0 g1 hz => ?_⟩
  simp only [wpE, wpEs, wpCs, wpIt, wpS, bindT, bindTs, cmpF, bfW, methTy, methW, mkL, Ts.len, List.getElem?_cons_zero, List.getElem?_cons_succ, List.set_cons_zero, List.set_cons_succ, Option.some.injEq, D.int.injEq, D.bl.injEq, D.str.injEq, D.tup.injEq, D.lst.injEq, D.ref.injEq, exists_eq_left, exists_eq_left', true_and, and_true, if_true, if_false, Bool.false_eq_true, Bool.true_eq_false, reduceCtorEq, List.length_cons, List.length_nil, Option.map_some, List.any_cons, List.any_nil, Bool.or_false, isTy, decide_true, decide_false, Bool.and_true, Bool.and_false, Bool.or_true, Bool.true_or, Bool.false_or, Bool.false_and, Bool.true_and, Bool.not_true, Bool.not_false, startD, List.map_cons, List.map_nil, List.cons_append, List.nil_append, List.replicate_zero, List.replicate_succ, Nat.reduceSub, Nat.reduceAdd, Option.isSome_some, wipeD, false_and, and_false, exists_false, false_or, or_false, gt_iff_lt, ge_iff_le, at0, at1, at2, at3, at4, at5, atm1, ix0, ix1, ix2, ix3, ix4, Option.bind_some, decide_eq_true_eq, eq_ii, eq_bb, eq_ss, add_ii, sub_ii, mul_ii, fdiv_ii, mod_ii, pow_10, Nat.reduceLeDiff, Nat.zero_le, Int.reduceLE, Int.reduceLT, Nat.reducePow, Int.reducePow, Int.reduceNeg, Int.reduceToNat, Int.reduceSub, Int.reduceMul, Int.reduceAdd, or_true, true_or, Nat.reduceLT, and_self, Int.reduceEq, Nat.reduceEqDiff, exists_and_left, add_ss, mul_si, add_tt, add_ll, lstOf_l, lt_ii, lt_ss, le_ii, le_ss, gt_ii, ge_ii, is_bb, is_non, isNon_n, isNon_i, isNon_s, isNon_b, isNon_t, isNon_l, isNon_r, isTup_t, isTup_l, isTup_r, isTup_c, seqOf_t, seqOf_l, seqOf_c, tyOf_i, tyOf_b, tyOf_s, tyOf_t, tyOf_l, tyOf_n, len_s, len_t, len_l, len_c, idx_s, idx_t, idx_l, idx_c]
  obtain ⟨x, ex, hx⟩ := at_mem (P := Val) (i := r2) (xs := [.str "", .str "a", .str "b", .str "B", .str "10", .str "9", .str "-", .str "a b", .str "it's", .str "\\", .str "/", .str "_", .str ":", .str "None", .str "ab"]) (vals_of (by decide +kernel)) g0 (by simpa using g1)
  rw [ex, List.set_set]
  exact ⟨x, rfl, .inl (q _ _ hx (hz.mono (by omega)))⟩
end Pf

namespace Pf
open PySem PySem.Spec PyProof.Rows L2
def f_law_rank : Fn := ⟨1, 1, (.cons (.ite (.cmp .is (.var 0) .non) (.cons (.ret (.tup (.cons (.int 0) (.cons (.int 0) (.cons (.str "") .nil))))) .nil) .nil) (.cons (.ite (.isi (.var 0) [.str]) (.cons (.ret (.tup (.cons (.int 2) (.cons (.int 0) (.cons (.var 0) .nil))))) .nil) .nil) (.cons (.ret (.tup (.cons (.int 1) (.cons (.var 0) (.cons (.str "") .nil))))) .nil)))⟩
theorem i_law_rank {Φ : Fs} : Impl Φ f_law_rank spRank := i_rank
def f_law_is_value : Fn := ⟨1, 2, (.cons (.ite (.isi (.var 0) [.str]) (.cons (.ret (.bf .all false (.cons (.comp false [1] (.name 1) (.seq (.var 0)) .nil (.chain .le .lt (.int 32) (.bf .ord false (.cons (.var 1) .nil)) (.int 127))) .nil))) .nil) .nil) (.cons (.ret (.or (.cmp .is (.var 0) .non) (.and (.isi (.var 0) [.int]) (.not (.isi (.var 0) [.bool]))))) .nil))⟩
/-- as is_value, told by numbers -/
theorem i_law_is_value {Φ : Fs} : Impl Φ f_law_is_value spIsValue := by
  rintro ds h Q ⟨d, rfl, ⟨ht, hs⟩, q⟩
  refine ⟨rfl, sone ?_⟩
  cases d with
  | str s =>
    simp only [wpE, wpEs, wpCs, wpIt, wpS, bindT, bindTs, cmpF, bfW, methTy, methW, mkL, Ts.len, List.getElem?_cons_zero, List.getElem?_cons_succ, List.set_cons_zero, List.set_cons_succ, Option.some.injEq, D.int.injEq, D.bl.injEq, D.str.injEq, D.tup.injEq, D.lst.injEq, D.ref.injEq, exists_eq_left, exists_eq_left', true_and, and_true, if_true, if_false, Bool.false_eq_true, Bool.true_eq_false, reduceCtorEq, List.length_cons, List.length_nil, Option.map_some, List.any_cons, List.any_nil, Bool.or_false, isTy, decide_true, decide_false, Bool.and_true, Bool.and_false, Bool.or_true, Bool.true_or, Bool.false_or, Bool.false_and, Bool.true_and, Bool.not_true, Bool.not_false, startD, List.map_cons, List.map_nil, List.cons_append, List.nil_append, List.replicate_zero, List.replicate_succ, Nat.reduceSub, Nat.reduceAdd, Option.isSome_some, wipeD, false_and, and_false, exists_false, false_or, or_false, gt_iff_lt, ge_iff_le, at0, at1, at2, at3, at4, at5, atm1, ix0, ix1, ix2, ix3, ix4, Option.bind_some, decide_eq_true_eq, eq_ii, eq_bb, eq_ss, add_ii, sub_ii, mul_ii, fdiv_ii, mod_ii, pow_10, Nat.reduceLeDiff, Nat.zero_le, Int.reduceLE, Int.reduceLT, Nat.reducePow, Int.reducePow, Int.reduceNeg, Int.reduceToNat, Int.reduceSub, Int.reduceMul, Int.reduceAdd, or_true, true_or, Nat.reduceLT, and_self, Int.reduceEq, Nat.reduceEqDiff, exists_and_left, add_ss, mul_si, add_tt, add_ll, lstOf_l, lt_ii, lt_ss, le_ii, le_ss, gt_ii, ge_ii, is_bb, is_non, isNon_n, isNon_i, isNon_s, isNon_b, isNon_t, isNon_l, isNon_r, isTup_t, isTup_l, isTup_r, isTup_c, seqOf_t, seqOf_l, seqOf_c, tyOf_i, tyOf_b, tyOf_s, tyOf_t, tyOf_l, tyOf_n, len_s, len_t, len_l, len_c, idx_s, idx_t, idx_l, idx_c, f_law_is_value]
    refine sone ?_
    simp only [wpE, wpEs, wpCs, wpIt, wpS, bindT, bindTs, cmpF, bfW, methTy, methW, mkL, Ts.len, List.getElem?_cons_zero, List.getElem?_cons_succ, List.set_cons_zero, List.set_cons_succ, Option.some.injEq, D.int.injEq, D.bl.injEq, D.str.injEq, D.tup.injEq, D.lst.injEq, D.ref.injEq, exists_eq_left, exists_eq_left', true_and, and_true, if_true, if_false, Bool.false_eq_true, Bool.true_eq_false, reduceCtorEq, List.length_cons, List.length_nil, Option.map_some, List.any_cons, List.any_nil, Bool.or_false, isTy, decide_true, decide_false, Bool.and_true, Bool.and_false, Bool.or_true, Bool.true_or, Bool.false_or, Bool.false_and, Bool.true_and, Bool.not_true, Bool.not_false, startD, List.map_cons, List.map_nil, List.cons_append, List.nil_append, List.replicate_zero, List.replicate_succ, Nat.reduceSub, Nat.reduceAdd, Option.isSome_some, wipeD, false_and, and_false, exists_false, false_or, or_false, gt_iff_lt, ge_iff_le, at0, at1, at2, at3, at4, at5, atm1, ix0, ix1, ix2, ix3, ix4, Option.bind_some, decide_eq_true_eq, eq_ii, eq_bb, eq_ss, add_ii, sub_ii, mul_ii, fdiv_ii, mod_ii, pow_10, Nat.reduceLeDiff, Nat.zero_le, Int.reduceLE, Int.reduceLT, Nat.reducePow, Int.reducePow, Int.reduceNeg, Int.reduceToNat, Int.reduceSub, Int.reduceMul, Int.reduceAdd, or_true, true_or, Nat.reduceLT, and_self, Int.reduceEq, Nat.reduceEqDiff, exists_and_left, add_ss, mul_si, add_tt, add_ll, lstOf_l, lt_ii, lt_ss, le_ii, le_ss, gt_ii, ge_ii, is_bb, is_non, isNon_n, isNon_i, isNon_s, isNon_b, isNon_t, isNon_l, isNon_r, isTup_t, isTup_l, isTup_r, isTup_c, seqOf_t, seqOf_l, seqOf_c, tyOf_i, tyOf_b, tyOf_s, tyOf_t, tyOf_l, tyOf_n, len_s, len_t, len_l, len_c, idx_s, idx_t, idx_l, idx_c]
    refine ⟨hs s rfl, compL_map (fun x => match x with | .str z => .bl (okT z) | _ => .non) trivial (fun x hx k hk => ?_) ?_⟩
    · obtain ⟨c, hc, rfl⟩ := List.mem_map.mp hx
      simp only [wpE, wpEs, wpCs, wpIt, wpS, bindT, bindTs, cmpF, bfW, methTy, methW, mkL, Ts.len, List.getElem?_cons_zero, List.getElem?_cons_succ, List.set_cons_zero, List.set_cons_succ, Option.some.injEq, D.int.injEq, D.bl.injEq, D.str.injEq, D.tup.injEq, D.lst.injEq, D.ref.injEq, exists_eq_left, exists_eq_left', true_and, and_true, if_true, if_false, Bool.false_eq_true, Bool.true_eq_false, reduceCtorEq, List.length_cons, List.length_nil, Option.map_some, List.any_cons, List.any_nil, Bool.or_false, isTy, decide_true, decide_false, Bool.and_true, Bool.and_false, Bool.or_true, Bool.true_or, Bool.false_or, Bool.false_and, Bool.true_and, Bool.not_true, Bool.not_false, startD, List.map_cons, List.map_nil, List.cons_append, List.nil_append, List.replicate_zero, List.replicate_succ, Nat.reduceSub, Nat.reduceAdd, Option.isSome_some, wipeD, false_and, and_false, exists_false, false_or, or_false, gt_iff_lt, ge_iff_le, at0, at1, at2, at3, at4, at5, atm1, ix0, ix1, ix2, ix3, ix4, Option.bind_some, decide_eq_true_eq, eq_ii, eq_bb, eq_ss, add_ii, sub_ii, mul_ii, fdiv_ii, mod_ii, pow_10, Nat.reduceLeDiff, Nat.zero_le, Int.reduceLE, Int.reduceLT, Nat.reducePow, Int.reducePow, Int.reduceNeg, Int.reduceToNat, Int.reduceSub, Int.reduceMul, Int.reduceAdd, or_true, true_or, Nat.reduceLT, and_self, Int.reduceEq, Nat.reduceEqDiff, exists_and_left, add_ss, mul_si, add_tt, add_ll, lstOf_l, lt_ii, lt_ss, le_ii, le_ss, gt_ii, ge_ii, is_bb, is_non, isNon_n, isNon_i, isNon_s, isNon_b, isNon_t, isNon_l, isNon_r, isTup_t, isTup_l, isTup_r, isTup_c, seqOf_t, seqOf_l, seqOf_c, tyOf_i, tyOf_b, tyOf_s, tyOf_t, tyOf_l, tyOf_n, len_s, len_t, len_l, len_c, idx_s, idx_t, idx_l, idx_c]
      have e : okT (oneS c) = okc c := by simp [okT, oneS]
      refine ⟨rfl, ?_⟩
      have e2 : (oneS c).cps.getD 0 0 = c := rfl
      rw [e2]
      split
      · rename_i z
        have e3 : okc c = decide ((c : Int) < 127) := by
          unfold okc
          rw [decide_eq_true (by omega : 32 ≤ c), Bool.true_and]
          exact decide_eq_decide.mpr (by omega)
        rw [← e3, ← e]; exact hk
      · rename_i z
        have e3 : okc c = false := by
          unfold okc
          rw [decide_eq_false (by omega), Bool.false_and]
        rw [← e3, ← e]; exact hk
    · refine ⟨s.cps.toList.map okc, ?_, .inl ?_⟩
      · rw [List.map_map, show ((fun x => match x with | D.str z => D.bl (okT z) | _ => D.non) ∘ fun c => D.str (oneS c)) = fun c => D.bl (okc c) from funext fun c => by simp [okT, oneS]]
        exact blsOf_map okc _
      · rw [List.all_map]; exact q
  | dic _ _ => cases ht
  | scr _ => cases ht
  | ref _ => cases ht
  | exc _ _ _ => cases ht
  | _ =>
    simp only [wpE, wpEs, wpCs, wpIt, wpS, bindT, bindTs, cmpF, bfW, methTy, methW, mkL, Ts.len, List.getElem?_cons_zero, List.getElem?_cons_succ, List.set_cons_zero, List.set_cons_succ, Option.some.injEq, D.int.injEq, D.bl.injEq, D.str.injEq, D.tup.injEq, D.lst.injEq, D.ref.injEq, exists_eq_left, exists_eq_left', true_and, and_true, if_true, if_false, Bool.false_eq_true, Bool.true_eq_false, reduceCtorEq, List.length_cons, List.length_nil, Option.map_some, List.any_cons, List.any_nil, Bool.or_false, isTy, decide_true, decide_false, Bool.and_true, Bool.and_false, Bool.or_true, Bool.true_or, Bool.false_or, Bool.false_and, Bool.true_and, Bool.not_true, Bool.not_false, startD, List.map_cons, List.map_nil, List.cons_append, List.nil_append, List.replicate_zero, List.replicate_succ, Nat.reduceSub, Nat.reduceAdd, Option.isSome_some, wipeD, false_and, and_false, exists_false, false_or, or_false, gt_iff_lt, ge_iff_le, at0, at1, at2, at3, at4, at5, atm1, ix0, ix1, ix2, ix3, ix4, Option.bind_some, decide_eq_true_eq, eq_ii, eq_bb, eq_ss, add_ii, sub_ii, mul_ii, fdiv_ii, mod_ii, pow_10, Nat.reduceLeDiff, Nat.zero_le, Int.reduceLE, Int.reduceLT, Nat.reducePow, Int.reducePow, Int.reduceNeg, Int.reduceToNat, Int.reduceSub, Int.reduceMul, Int.reduceAdd, or_true, true_or, Nat.reduceLT, and_self, Int.reduceEq, Nat.reduceEqDiff, exists_and_left, add_ss, mul_si, add_tt, add_ll, lstOf_l, lt_ii, lt_ss, le_ii, le_ss, gt_ii, ge_ii, is_bb, is_non, isNon_n, isNon_i, isNon_s, isNon_b, isNon_t, isNon_l, isNon_r, isTup_t, isTup_l, isTup_r, isTup_c, seqOf_t, seqOf_l, seqOf_c, tyOf_i, tyOf_b, tyOf_s, tyOf_t, tyOf_l, tyOf_n, len_s, len_t, len_l, len_c, idx_s, idx_t, idx_l, idx_c, f_law_is_value]
    refine snil (sone ?_)
    simp only [wpE, wpEs, wpCs, wpIt, wpS, bindT, bindTs, cmpF, bfW, methTy, methW, mkL, Ts.len, List.getElem?_cons_zero, List.getElem?_cons_succ, List.set_cons_zero, List.set_cons_succ, Option.some.injEq, D.int.injEq, D.bl.injEq, D.str.injEq, D.tup.injEq, D.lst.injEq, D.ref.injEq, exists_eq_left, exists_eq_left', true_and, and_true, if_true, if_false, Bool.false_eq_true, Bool.true_eq_false, reduceCtorEq, List.length_cons, List.length_nil, Option.map_some, List.any_cons, List.any_nil, Bool.or_false, isTy, decide_true, decide_false, Bool.and_true, Bool.and_false, Bool.or_true, Bool.true_or, Bool.false_or, Bool.false_and, Bool.true_and, Bool.not_true, Bool.not_false, startD, List.map_cons, List.map_nil, List.cons_append, List.nil_append, List.replicate_zero, List.replicate_succ, Nat.reduceSub, Nat.reduceAdd, Option.isSome_some, wipeD, false_and, and_false, exists_false, false_or, or_false, gt_iff_lt, ge_iff_le, at0, at1, at2, at3, at4, at5, atm1, ix0, ix1, ix2, ix3, ix4, Option.bind_some, decide_eq_true_eq, eq_ii, eq_bb, eq_ss, add_ii, sub_ii, mul_ii, fdiv_ii, mod_ii, pow_10, Nat.reduceLeDiff, Nat.zero_le, Int.reduceLE, Int.reduceLT, Nat.reducePow, Int.reducePow, Int.reduceNeg, Int.reduceToNat, Int.reduceSub, Int.reduceMul, Int.reduceAdd, or_true, true_or, Nat.reduceLT, and_self, Int.reduceEq, Nat.reduceEqDiff, exists_and_left, add_ss, mul_si, add_tt, add_ll, lstOf_l, lt_ii, lt_ss, le_ii, le_ss, gt_ii, ge_ii, is_bb, is_non, isNon_n, isNon_i, isNon_s, isNon_b, isNon_t, isNon_l, isNon_r, isTup_t, isTup_l, isTup_r, isTup_c, seqOf_t, seqOf_l, seqOf_c, tyOf_i, tyOf_b, tyOf_s, tyOf_t, tyOf_l, tyOf_n, len_s, len_t, len_l, len_c, idx_s, idx_t, idx_l, idx_c]
    exact .inl q
def f_law_same : Fn := ⟨2, 4, (.cons (.ite (.isi (.var 1) [.list, .tuple]) (.cons (.ite (.or (.cmp .ne (.isi (.var 0) [.list]) (.isi (.var 1) [.list])) (.cmp .ne (.isi (.var 0) [.tuple]) (.isi (.var 1) [.tuple]))) (.cons (.ret (.bl false)) .nil) .nil) (.cons (.ret (.and (.cmp .eq (.bf .len false (.cons (.var 0) .nil)) (.bf .len false (.cons (.var 1) .nil))) (.bf .all false (.cons (.comp false [2, 3] (.tup (.cons (.name 2) (.cons (.name 3) .nil))) (.zip (.var 0) (.var 1)) .nil (.call "_law_same" (.cons (.var 2) (.cons (.var 3) .nil)))) .nil)))) .nil)) .nil) (.cons (.ite (.or (.cmp .is (.var 1) .non) (.isi (.var 1) [.str])) (.cons (.ret (.and (.cmp .eq (.var 0) (.var 1)) (.cmp .eq (.isi (.var 0) [.str]) (.isi (.var 1) [.str])))) .nil) .nil) (.cons (.ite (.isi (.var 1) [.bool]) (.cons (.ret (.and (.isi (.var 0) [.bool]) (.cmp .eq (.var 0) (.var 1)))) .nil) .nil) (.cons (.ret (.and (.isi (.var 0) [.int]) (.and (.not (.isi (.var 0) [.bool])) (.cmp .eq (.var 0) (.var 1))))) .nil))))⟩
theorem res_l {h : DH} {x : D} {zs : List D} (e : res h x = .lst zs) : seqOf h x = some zs ∧ isTup x = false ∧ tyOf h x = some .list ∧ lenF h x = some zs.length := by
  cases x with
  | lst xs => cases e; exact ⟨rfl, rfl, rfl, rfl⟩
  | ref n =>
    unfold res at e
    simp only at e
    split at e
    · rename_i xs hx
      cases e
      exact ⟨seqOf_r hx, rfl, tyOf_r hx, len_r hx⟩
    · cases e
  | _ => cases e
theorem res_o {h : DH} {x d : D} (e : res h x = d) (p : d.pure = true) (hn : ∀ zs, d ≠ .lst zs) : x = d := by
  cases x with
  | ref n =>
    unfold res at e
    simp only at e
    split at e
    · subst e; exact absurd rfl (hn _)
    · subst e; cases p
  | _ => exact e
/-- the two are one datum -/
def spSame : Nat → Spc
  | 0 => fun _ _ _ _ => False
  | k + 1 => fun ds h Q _ => ∃ x y d, ds = [x, y] ∧ res h x = d ∧ res h y = d ∧ d.pure = true ∧ d.depth ≤ k ∧ k ≤ 60 ∧ Q (.bl true) h
theorem zipL_self : ∀ zs : List D, zipL zs zs = zs.map fun z => .tup [z, z]
  | [] => rfl
  | z :: zs => by
    show D.tup [z, z] :: zipL zs zs = _
    rw [zipL_self zs]; rfl
theorem all_trues {α : Type} (xs : List α) : (xs.map fun _ => true).all id = true := by
  rw [List.all_eq_true]
  intro x hx
  obtain ⟨_, _, rfl⟩ := List.mem_map.mp hx
  rfl
theorem i_same {Φ : Fs} {k : Nat} (e1 : Φ.fn "_law_same" = spSame k) : Impl Φ f_law_same (spSame (k + 1)) := by
  rintro ds h Q ⟨x, y, d, rfl, hx, hy, hp, hd, hk, q⟩
  refine ⟨rfl, sone ?_⟩
  have es : d.depth ≤ 64 → eqF h d d = some true := fun l => by rw [eq_pure hp hp l, eqv_self _ hp]
  have inner : ∀ zs : List D, D.pures zs = true → D.depths zs + 1 ≤ k → ∀ (g : Option D → DH → Prop) z, z ∈ zs → g (some (.bl true)) h → Φ.fn "_law_same" [z, z] h (fun y h' => g (some y) h') NX := by
    intro zs hz hd' g z m hg
    rw [e1]
    obtain ⟨j, rfl⟩ : ∃ j, k = j + 1 := ⟨k - 1, by omega⟩
    have pz := pures_mem hz m
    have dz := depth_mem m
    have rz : res h z = z := by cases z <;> first | rfl | cases pz
    exact ⟨z, z, z, rfl, rz, rz, pz, by omega, by omega, hg⟩
  cases d with
  | non =>
    obtain rfl := res_o hx hp (fun z e => nomatch e)
    obtain rfl := res_o hy hp (fun z e => nomatch e)
    simp only [wpE, wpEs, wpCs, wpIt, wpS, bindT, bindTs, cmpF, bfW, methTy, methW, mkL, Ts.len, List.getElem?_cons_zero, List.getElem?_cons_succ, List.set_cons_zero, List.set_cons_succ, Option.some.injEq, D.int.injEq, D.bl.injEq, D.str.injEq, D.tup.injEq, D.lst.injEq, D.ref.injEq, exists_eq_left, exists_eq_left', true_and, and_true, if_true, if_false, Bool.false_eq_true, Bool.true_eq_false, reduceCtorEq, List.length_cons, List.length_nil, Option.map_some, List.any_cons, List.any_nil, Bool.or_false, isTy, decide_true, decide_false, Bool.and_true, Bool.and_false, Bool.or_true, Bool.true_or, Bool.false_or, Bool.false_and, Bool.true_and, Bool.not_true, Bool.not_false, startD, List.map_cons, List.map_nil, List.cons_append, List.nil_append, List.replicate_zero, List.replicate_succ, Nat.reduceSub, Nat.reduceAdd, Option.isSome_some, wipeD, false_and, and_false, exists_false, false_or, or_false, gt_iff_lt, ge_iff_le, at0, at1, at2, at3, at4, at5, atm1, ix0, ix1, ix2, ix3, ix4, Option.bind_some, decide_eq_true_eq, eq_ii, eq_bb, eq_ss, add_ii, sub_ii, mul_ii, fdiv_ii, mod_ii, pow_10, Nat.reduceLeDiff, Nat.zero_le, Int.reduceLE, Int.reduceLT, Nat.reducePow, Int.reducePow, Int.reduceNeg, Int.reduceToNat, Int.reduceSub, Int.reduceMul, Int.reduceAdd, or_true, true_or, Nat.reduceLT, and_self, Int.reduceEq, Nat.reduceEqDiff, exists_and_left, add_ss, mul_si, add_tt, add_ll, lstOf_l, lt_ii, lt_ss, le_ii, le_ss, gt_ii, ge_ii, is_bb, is_non, isNon_n, isNon_i, isNon_s, isNon_b, isNon_t, isNon_l, isNon_r, isTup_t, isTup_l, isTup_r, isTup_c, seqOf_t, seqOf_l, seqOf_c, tyOf_i, tyOf_b, tyOf_s, tyOf_t, tyOf_l, tyOf_n, len_s, len_t, len_l, len_c, idx_s, idx_t, idx_l, idx_c, f_law_same]
    refine snil (sone ?_)
    simp only [wpE, wpEs, wpCs, wpIt, wpS, bindT, bindTs, cmpF, bfW, methTy, methW, mkL, Ts.len, List.getElem?_cons_zero, List.getElem?_cons_succ, List.set_cons_zero, List.set_cons_succ, Option.some.injEq, D.int.injEq, D.bl.injEq, D.str.injEq, D.tup.injEq, D.lst.injEq, D.ref.injEq, exists_eq_left, exists_eq_left', true_and, and_true, if_true, if_false, Bool.false_eq_true, Bool.true_eq_false, reduceCtorEq, List.length_cons, List.length_nil, Option.map_some, List.any_cons, List.any_nil, Bool.or_false, isTy, decide_true, decide_false, Bool.and_true, Bool.and_false, Bool.or_true, Bool.true_or, Bool.false_or, Bool.false_and, Bool.true_and, Bool.not_true, Bool.not_false, startD, List.map_cons, List.map_nil, List.cons_append, List.nil_append, List.replicate_zero, List.replicate_succ, Nat.reduceSub, Nat.reduceAdd, Option.isSome_some, wipeD, false_and, and_false, exists_false, false_or, or_false, gt_iff_lt, ge_iff_le, at0, at1, at2, at3, at4, at5, atm1, ix0, ix1, ix2, ix3, ix4, Option.bind_some, decide_eq_true_eq, eq_ii, eq_bb, eq_ss, add_ii, sub_ii, mul_ii, fdiv_ii, mod_ii, pow_10, Nat.reduceLeDiff, Nat.zero_le, Int.reduceLE, Int.reduceLT, Nat.reducePow, Int.reducePow, Int.reduceNeg, Int.reduceToNat, Int.reduceSub, Int.reduceMul, Int.reduceAdd, or_true, true_or, Nat.reduceLT, and_self, Int.reduceEq, Nat.reduceEqDiff, exists_and_left, add_ss, mul_si, add_tt, add_ll, lstOf_l, lt_ii, lt_ss, le_ii, le_ss, gt_ii, ge_ii, is_bb, is_non, isNon_n, isNon_i, isNon_s, isNon_b, isNon_t, isNon_l, isNon_r, isTup_t, isTup_l, isTup_r, isTup_c, seqOf_t, seqOf_l, seqOf_c, tyOf_i, tyOf_b, tyOf_s, tyOf_t, tyOf_l, tyOf_n, len_s, len_t, len_l, len_c, idx_s, idx_t, idx_l, idx_c]
    refine sone ?_
    simp only [wpE, wpEs, wpCs, wpIt, wpS, bindT, bindTs, cmpF, bfW, methTy, methW, mkL, Ts.len, List.getElem?_cons_zero, List.getElem?_cons_succ, List.set_cons_zero, List.set_cons_succ, Option.some.injEq, D.int.injEq, D.bl.injEq, D.str.injEq, D.tup.injEq, D.lst.injEq, D.ref.injEq, exists_eq_left, exists_eq_left', true_and, and_true, if_true, if_false, Bool.false_eq_true, Bool.true_eq_false, reduceCtorEq, List.length_cons, List.length_nil, Option.map_some, List.any_cons, List.any_nil, Bool.or_false, isTy, decide_true, decide_false, Bool.and_true, Bool.and_false, Bool.or_true, Bool.true_or, Bool.false_or, Bool.false_and, Bool.true_and, Bool.not_true, Bool.not_false, startD, List.map_cons, List.map_nil, List.cons_append, List.nil_append, List.replicate_zero, List.replicate_succ, Nat.reduceSub, Nat.reduceAdd, Option.isSome_some, wipeD, false_and, and_false, exists_false, false_or, or_false, gt_iff_lt, ge_iff_le, at0, at1, at2, at3, at4, at5, atm1, ix0, ix1, ix2, ix3, ix4, Option.bind_some, decide_eq_true_eq, eq_ii, eq_bb, eq_ss, add_ii, sub_ii, mul_ii, fdiv_ii, mod_ii, pow_10, Nat.reduceLeDiff, Nat.zero_le, Int.reduceLE, Int.reduceLT, Nat.reducePow, Int.reducePow, Int.reduceNeg, Int.reduceToNat, Int.reduceSub, Int.reduceMul, Int.reduceAdd, or_true, true_or, Nat.reduceLT, and_self, Int.reduceEq, Nat.reduceEqDiff, exists_and_left, add_ss, mul_si, add_tt, add_ll, lstOf_l, lt_ii, lt_ss, le_ii, le_ss, gt_ii, ge_ii, is_bb, is_non, isNon_n, isNon_i, isNon_s, isNon_b, isNon_t, isNon_l, isNon_r, isTup_t, isTup_l, isTup_r, isTup_c, seqOf_t, seqOf_l, seqOf_c, tyOf_i, tyOf_b, tyOf_s, tyOf_t, tyOf_l, tyOf_n, len_s, len_t, len_l, len_c, idx_s, idx_t, idx_l, idx_c, es (Nat.zero_le _)]
    exact .inl q
  | bl b =>
    obtain rfl := res_o hx hp (fun z e => nomatch e)
    obtain rfl := res_o hy hp (fun z e => nomatch e)
    simp only [wpE, wpEs, wpCs, wpIt, wpS, bindT, bindTs, cmpF, bfW, methTy, methW, mkL, Ts.len, List.getElem?_cons_zero, List.getElem?_cons_succ, List.set_cons_zero, List.set_cons_succ, Option.some.injEq, D.int.injEq, D.bl.injEq, D.str.injEq, D.tup.injEq, D.lst.injEq, D.ref.injEq, exists_eq_left, exists_eq_left', true_and, and_true, if_true, if_false, Bool.false_eq_true, Bool.true_eq_false, reduceCtorEq, List.length_cons, List.length_nil, Option.map_some, List.any_cons, List.any_nil, Bool.or_false, isTy, decide_true, decide_false, Bool.and_true, Bool.and_false, Bool.or_true, Bool.true_or, Bool.false_or, Bool.false_and, Bool.true_and, Bool.not_true, Bool.not_false, startD, List.map_cons, List.map_nil, List.cons_append, List.nil_append, List.replicate_zero, List.replicate_succ, Nat.reduceSub, Nat.reduceAdd, Option.isSome_some, wipeD, false_and, and_false, exists_false, false_or, or_false, gt_iff_lt, ge_iff_le, at0, at1, at2, at3, at4, at5, atm1, ix0, ix1, ix2, ix3, ix4, Option.bind_some, decide_eq_true_eq, eq_ii, eq_bb, eq_ss, add_ii, sub_ii, mul_ii, fdiv_ii, mod_ii, pow_10, Nat.reduceLeDiff, Nat.zero_le, Int.reduceLE, Int.reduceLT, Nat.reducePow, Int.reducePow, Int.reduceNeg, Int.reduceToNat, Int.reduceSub, Int.reduceMul, Int.reduceAdd, or_true, true_or, Nat.reduceLT, and_self, Int.reduceEq, Nat.reduceEqDiff, exists_and_left, add_ss, mul_si, add_tt, add_ll, lstOf_l, lt_ii, lt_ss, le_ii, le_ss, gt_ii, ge_ii, is_bb, is_non, isNon_n, isNon_i, isNon_s, isNon_b, isNon_t, isNon_l, isNon_r, isTup_t, isTup_l, isTup_r, isTup_c, seqOf_t, seqOf_l, seqOf_c, tyOf_i, tyOf_b, tyOf_s, tyOf_t, tyOf_l, tyOf_n, len_s, len_t, len_l, len_c, idx_s, idx_t, idx_l, idx_c, f_law_same]
    refine snil (sone ?_)
    simp only [wpE, wpEs, wpCs, wpIt, wpS, bindT, bindTs, cmpF, bfW, methTy, methW, mkL, Ts.len, List.getElem?_cons_zero, List.getElem?_cons_succ, List.set_cons_zero, List.set_cons_succ, Option.some.injEq, D.int.injEq, D.bl.injEq, D.str.injEq, D.tup.injEq, D.lst.injEq, D.ref.injEq, exists_eq_left, exists_eq_left', true_and, and_true, if_true, if_false, Bool.false_eq_true, Bool.true_eq_false, reduceCtorEq, List.length_cons, List.length_nil, Option.map_some, List.any_cons, List.any_nil, Bool.or_false, isTy, decide_true, decide_false, Bool.and_true, Bool.and_false, Bool.or_true, Bool.true_or, Bool.false_or, Bool.false_and, Bool.true_and, Bool.not_true, Bool.not_false, startD, List.map_cons, List.map_nil, List.cons_append, List.nil_append, List.replicate_zero, List.replicate_succ, Nat.reduceSub, Nat.reduceAdd, Option.isSome_some, wipeD, false_and, and_false, exists_false, false_or, or_false, gt_iff_lt, ge_iff_le, at0, at1, at2, at3, at4, at5, atm1, ix0, ix1, ix2, ix3, ix4, Option.bind_some, decide_eq_true_eq, eq_ii, eq_bb, eq_ss, add_ii, sub_ii, mul_ii, fdiv_ii, mod_ii, pow_10, Nat.reduceLeDiff, Nat.zero_le, Int.reduceLE, Int.reduceLT, Nat.reducePow, Int.reducePow, Int.reduceNeg, Int.reduceToNat, Int.reduceSub, Int.reduceMul, Int.reduceAdd, or_true, true_or, Nat.reduceLT, and_self, Int.reduceEq, Nat.reduceEqDiff, exists_and_left, add_ss, mul_si, add_tt, add_ll, lstOf_l, lt_ii, lt_ss, le_ii, le_ss, gt_ii, ge_ii, is_bb, is_non, isNon_n, isNon_i, isNon_s, isNon_b, isNon_t, isNon_l, isNon_r, isTup_t, isTup_l, isTup_r, isTup_c, seqOf_t, seqOf_l, seqOf_c, tyOf_i, tyOf_b, tyOf_s, tyOf_t, tyOf_l, tyOf_n, len_s, len_t, len_l, len_c, idx_s, idx_t, idx_l, idx_c]
    refine snil (sone ?_)
    simp only [wpE, wpEs, wpCs, wpIt, wpS, bindT, bindTs, cmpF, bfW, methTy, methW, mkL, Ts.len, List.getElem?_cons_zero, List.getElem?_cons_succ, List.set_cons_zero, List.set_cons_succ, Option.some.injEq, D.int.injEq, D.bl.injEq, D.str.injEq, D.tup.injEq, D.lst.injEq, D.ref.injEq, exists_eq_left, exists_eq_left', true_and, and_true, if_true, if_false, Bool.false_eq_true, Bool.true_eq_false, reduceCtorEq, List.length_cons, List.length_nil, Option.map_some, List.any_cons, List.any_nil, Bool.or_false, isTy, decide_true, decide_false, Bool.and_true, Bool.and_false, Bool.or_true, Bool.true_or, Bool.false_or, Bool.false_and, Bool.true_and, Bool.not_true, Bool.not_false, startD, List.map_cons, List.map_nil, List.cons_append, List.nil_append, List.replicate_zero, List.replicate_succ, Nat.reduceSub, Nat.reduceAdd, Option.isSome_some, wipeD, false_and, and_false, exists_false, false_or, or_false, gt_iff_lt, ge_iff_le, at0, at1, at2, at3, at4, at5, atm1, ix0, ix1, ix2, ix3, ix4, Option.bind_some, decide_eq_true_eq, eq_ii, eq_bb, eq_ss, add_ii, sub_ii, mul_ii, fdiv_ii, mod_ii, pow_10, Nat.reduceLeDiff, Nat.zero_le, Int.reduceLE, Int.reduceLT, Nat.reducePow, Int.reducePow, Int.reduceNeg, Int.reduceToNat, Int.reduceSub, Int.reduceMul, Int.reduceAdd, or_true, true_or, Nat.reduceLT, and_self, Int.reduceEq, Nat.reduceEqDiff, exists_and_left, add_ss, mul_si, add_tt, add_ll, lstOf_l, lt_ii, lt_ss, le_ii, le_ss, gt_ii, ge_ii, is_bb, is_non, isNon_n, isNon_i, isNon_s, isNon_b, isNon_t, isNon_l, isNon_r, isTup_t, isTup_l, isTup_r, isTup_c, seqOf_t, seqOf_l, seqOf_c, tyOf_i, tyOf_b, tyOf_s, tyOf_t, tyOf_l, tyOf_n, len_s, len_t, len_l, len_c, idx_s, idx_t, idx_l, idx_c]
    refine sone ?_
    simp only [wpE, wpEs, wpCs, wpIt, wpS, bindT, bindTs, cmpF, bfW, methTy, methW, mkL, Ts.len, List.getElem?_cons_zero, List.getElem?_cons_succ, List.set_cons_zero, List.set_cons_succ, Option.some.injEq, D.int.injEq, D.bl.injEq, D.str.injEq, D.tup.injEq, D.lst.injEq, D.ref.injEq, exists_eq_left, exists_eq_left', true_and, and_true, if_true, if_false, Bool.false_eq_true, Bool.true_eq_false, reduceCtorEq, List.length_cons, List.length_nil, Option.map_some, List.any_cons, List.any_nil, Bool.or_false, isTy, decide_true, decide_false, Bool.and_true, Bool.and_false, Bool.or_true, Bool.true_or, Bool.false_or, Bool.false_and, Bool.true_and, Bool.not_true, Bool.not_false, startD, List.map_cons, List.map_nil, List.cons_append, List.nil_append, List.replicate_zero, List.replicate_succ, Nat.reduceSub, Nat.reduceAdd, Option.isSome_some, wipeD, false_and, and_false, exists_false, false_or, or_false, gt_iff_lt, ge_iff_le, at0, at1, at2, at3, at4, at5, atm1, ix0, ix1, ix2, ix3, ix4, Option.bind_some, decide_eq_true_eq, eq_ii, eq_bb, eq_ss, add_ii, sub_ii, mul_ii, fdiv_ii, mod_ii, pow_10, Nat.reduceLeDiff, Nat.zero_le, Int.reduceLE, Int.reduceLT, Nat.reducePow, Int.reducePow, Int.reduceNeg, Int.reduceToNat, Int.reduceSub, Int.reduceMul, Int.reduceAdd, or_true, true_or, Nat.reduceLT, and_self, Int.reduceEq, Nat.reduceEqDiff, exists_and_left, add_ss, mul_si, add_tt, add_ll, lstOf_l, lt_ii, lt_ss, le_ii, le_ss, gt_ii, ge_ii, is_bb, is_non, isNon_n, isNon_i, isNon_s, isNon_b, isNon_t, isNon_l, isNon_r, isTup_t, isTup_l, isTup_r, isTup_c, seqOf_t, seqOf_l, seqOf_c, tyOf_i, tyOf_b, tyOf_s, tyOf_t, tyOf_l, tyOf_n, len_s, len_t, len_l, len_c, idx_s, idx_t, idx_l, idx_c]
    rw [beq_self_eq_true]
    exact .inl q
  | int i =>
    obtain rfl := res_o hx hp (fun z e => nomatch e)
    obtain rfl := res_o hy hp (fun z e => nomatch e)
    simp only [wpE, wpEs, wpCs, wpIt, wpS, bindT, bindTs, cmpF, bfW, methTy, methW, mkL, Ts.len, List.getElem?_cons_zero, List.getElem?_cons_succ, List.set_cons_zero, List.set_cons_succ, Option.some.injEq, D.int.injEq, D.bl.injEq, D.str.injEq, D.tup.injEq, D.lst.injEq, D.ref.injEq, exists_eq_left, exists_eq_left', true_and, and_true, if_true, if_false, Bool.false_eq_true, Bool.true_eq_false, reduceCtorEq, List.length_cons, List.length_nil, Option.map_some, List.any_cons, List.any_nil, Bool.or_false, isTy, decide_true, decide_false, Bool.and_true, Bool.and_false, Bool.or_true, Bool.true_or, Bool.false_or, Bool.false_and, Bool.true_and, Bool.not_true, Bool.not_false, startD, List.map_cons, List.map_nil, List.cons_append, List.nil_append, List.replicate_zero, List.replicate_succ, Nat.reduceSub, Nat.reduceAdd, Option.isSome_some, wipeD, false_and, and_false, exists_false, false_or, or_false, gt_iff_lt, ge_iff_le, at0, at1, at2, at3, at4, at5, atm1, ix0, ix1, ix2, ix3, ix4, Option.bind_some, decide_eq_true_eq, eq_ii, eq_bb, eq_ss, add_ii, sub_ii, mul_ii, fdiv_ii, mod_ii, pow_10, Nat.reduceLeDiff, Nat.zero_le, Int.reduceLE, Int.reduceLT, Nat.reducePow, Int.reducePow, Int.reduceNeg, Int.reduceToNat, Int.reduceSub, Int.reduceMul, Int.reduceAdd, or_true, true_or, Nat.reduceLT, and_self, Int.reduceEq, Nat.reduceEqDiff, exists_and_left, add_ss, mul_si, add_tt, add_ll, lstOf_l, lt_ii, lt_ss, le_ii, le_ss, gt_ii, ge_ii, is_bb, is_non, isNon_n, isNon_i, isNon_s, isNon_b, isNon_t, isNon_l, isNon_r, isTup_t, isTup_l, isTup_r, isTup_c, seqOf_t, seqOf_l, seqOf_c, tyOf_i, tyOf_b, tyOf_s, tyOf_t, tyOf_l, tyOf_n, len_s, len_t, len_l, len_c, idx_s, idx_t, idx_l, idx_c, f_law_same]
    refine snil (sone ?_)
    simp only [wpE, wpEs, wpCs, wpIt, wpS, bindT, bindTs, cmpF, bfW, methTy, methW, mkL, Ts.len, List.getElem?_cons_zero, List.getElem?_cons_succ, List.set_cons_zero, List.set_cons_succ, Option.some.injEq, D.int.injEq, D.bl.injEq, D.str.injEq, D.tup.injEq, D.lst.injEq, D.ref.injEq, exists_eq_left, exists_eq_left', true_and, and_true, if_true, if_false, Bool.false_eq_true, Bool.true_eq_false, reduceCtorEq, List.length_cons, List.length_nil, Option.map_some, List.any_cons, List.any_nil, Bool.or_false, isTy, decide_true, decide_false, Bool.and_true, Bool.and_false, Bool.or_true, Bool.true_or, Bool.false_or, Bool.false_and, Bool.true_and, Bool.not_true, Bool.not_false, startD, List.map_cons, List.map_nil, List.cons_append, List.nil_append, List.replicate_zero, List.replicate_succ, Nat.reduceSub, Nat.reduceAdd, Option.isSome_some, wipeD, false_and, and_false, exists_false, false_or, or_false, gt_iff_lt, ge_iff_le, at0, at1, at2, at3, at4, at5, atm1, ix0, ix1, ix2, ix3, ix4, Option.bind_some, decide_eq_true_eq, eq_ii, eq_bb, eq_ss, add_ii, sub_ii, mul_ii, fdiv_ii, mod_ii, pow_10, Nat.reduceLeDiff, Nat.zero_le, Int.reduceLE, Int.reduceLT, Nat.reducePow, Int.reducePow, Int.reduceNeg, Int.reduceToNat, Int.reduceSub, Int.reduceMul, Int.reduceAdd, or_true, true_or, Nat.reduceLT, and_self, Int.reduceEq, Nat.reduceEqDiff, exists_and_left, add_ss, mul_si, add_tt, add_ll, lstOf_l, lt_ii, lt_ss, le_ii, le_ss, gt_ii, ge_ii, is_bb, is_non, isNon_n, isNon_i, isNon_s, isNon_b, isNon_t, isNon_l, isNon_r, isTup_t, isTup_l, isTup_r, isTup_c, seqOf_t, seqOf_l, seqOf_c, tyOf_i, tyOf_b, tyOf_s, tyOf_t, tyOf_l, tyOf_n, len_s, len_t, len_l, len_c, idx_s, idx_t, idx_l, idx_c]
    refine snil (sone ?_)
    simp only [wpE, wpEs, wpCs, wpIt, wpS, bindT, bindTs, cmpF, bfW, methTy, methW, mkL, Ts.len, List.getElem?_cons_zero, List.getElem?_cons_succ, List.set_cons_zero, List.set_cons_succ, Option.some.injEq, D.int.injEq, D.bl.injEq, D.str.injEq, D.tup.injEq, D.lst.injEq, D.ref.injEq, exists_eq_left, exists_eq_left', true_and, and_true, if_true, if_false, Bool.false_eq_true, Bool.true_eq_false, reduceCtorEq, List.length_cons, List.length_nil, Option.map_some, List.any_cons, List.any_nil, Bool.or_false, isTy, decide_true, decide_false, Bool.and_true, Bool.and_false, Bool.or_true, Bool.true_or, Bool.false_or, Bool.false_and, Bool.true_and, Bool.not_true, Bool.not_false, startD, List.map_cons, List.map_nil, List.cons_append, List.nil_append, List.replicate_zero, List.replicate_succ, Nat.reduceSub, Nat.reduceAdd, Option.isSome_some, wipeD, false_and, and_false, exists_false, false_or, or_false, gt_iff_lt, ge_iff_le, at0, at1, at2, at3, at4, at5, atm1, ix0, ix1, ix2, ix3, ix4, Option.bind_some, decide_eq_true_eq, eq_ii, eq_bb, eq_ss, add_ii, sub_ii, mul_ii, fdiv_ii, mod_ii, pow_10, Nat.reduceLeDiff, Nat.zero_le, Int.reduceLE, Int.reduceLT, Nat.reducePow, Int.reducePow, Int.reduceNeg, Int.reduceToNat, Int.reduceSub, Int.reduceMul, Int.reduceAdd, or_true, true_or, Nat.reduceLT, and_self, Int.reduceEq, Nat.reduceEqDiff, exists_and_left, add_ss, mul_si, add_tt, add_ll, lstOf_l, lt_ii, lt_ss, le_ii, le_ss, gt_ii, ge_ii, is_bb, is_non, isNon_n, isNon_i, isNon_s, isNon_b, isNon_t, isNon_l, isNon_r, isTup_t, isTup_l, isTup_r, isTup_c, seqOf_t, seqOf_l, seqOf_c, tyOf_i, tyOf_b, tyOf_s, tyOf_t, tyOf_l, tyOf_n, len_s, len_t, len_l, len_c, idx_s, idx_t, idx_l, idx_c]
    refine snil (sone ?_)
    simp only [wpE, wpEs, wpCs, wpIt, wpS, bindT, bindTs, cmpF, bfW, methTy, methW, mkL, Ts.len, List.getElem?_cons_zero, List.getElem?_cons_succ, List.set_cons_zero, List.set_cons_succ, Option.some.injEq, D.int.injEq, D.bl.injEq, D.str.injEq, D.tup.injEq, D.lst.injEq, D.ref.injEq, exists_eq_left, exists_eq_left', true_and, and_true, if_true, if_false, Bool.false_eq_true, Bool.true_eq_false, reduceCtorEq, List.length_cons, List.length_nil, Option.map_some, List.any_cons, List.any_nil, Bool.or_false, isTy, decide_true, decide_false, Bool.and_true, Bool.and_false, Bool.or_true, Bool.true_or, Bool.false_or, Bool.false_and, Bool.true_and, Bool.not_true, Bool.not_false, startD, List.map_cons, List.map_nil, List.cons_append, List.nil_append, List.replicate_zero, List.replicate_succ, Nat.reduceSub, Nat.reduceAdd, Option.isSome_some, wipeD, false_and, and_false, exists_false, false_or, or_false, gt_iff_lt, ge_iff_le, at0, at1, at2, at3, at4, at5, atm1, ix0, ix1, ix2, ix3, ix4, Option.bind_some, decide_eq_true_eq, eq_ii, eq_bb, eq_ss, add_ii, sub_ii, mul_ii, fdiv_ii, mod_ii, pow_10, Nat.reduceLeDiff, Nat.zero_le, Int.reduceLE, Int.reduceLT, Nat.reducePow, Int.reducePow, Int.reduceNeg, Int.reduceToNat, Int.reduceSub, Int.reduceMul, Int.reduceAdd, or_true, true_or, Nat.reduceLT, and_self, Int.reduceEq, Nat.reduceEqDiff, exists_and_left, add_ss, mul_si, add_tt, add_ll, lstOf_l, lt_ii, lt_ss, le_ii, le_ss, gt_ii, ge_ii, is_bb, is_non, isNon_n, isNon_i, isNon_s, isNon_b, isNon_t, isNon_l, isNon_r, isTup_t, isTup_l, isTup_r, isTup_c, seqOf_t, seqOf_l, seqOf_c, tyOf_i, tyOf_b, tyOf_s, tyOf_t, tyOf_l, tyOf_n, len_s, len_t, len_l, len_c, idx_s, idx_t, idx_l, idx_c]
    exact .inl q
  | str s =>
    obtain rfl := res_o hx hp (fun z e => nomatch e)
    obtain rfl := res_o hy hp (fun z e => nomatch e)
    simp only [wpE, wpEs, wpCs, wpIt, wpS, bindT, bindTs, cmpF, bfW, methTy, methW, mkL, Ts.len, List.getElem?_cons_zero, List.getElem?_cons_succ, List.set_cons_zero, List.set_cons_succ, Option.some.injEq, D.int.injEq, D.bl.injEq, D.str.injEq, D.tup.injEq, D.lst.injEq, D.ref.injEq, exists_eq_left, exists_eq_left', true_and, and_true, if_true, if_false, Bool.false_eq_true, Bool.true_eq_false, reduceCtorEq, List.length_cons, List.length_nil, Option.map_some, List.any_cons, List.any_nil, Bool.or_false, isTy, decide_true, decide_false, Bool.and_true, Bool.and_false, Bool.or_true, Bool.true_or, Bool.false_or, Bool.false_and, Bool.true_and, Bool.not_true, Bool.not_false, startD, List.map_cons, List.map_nil, List.cons_append, List.nil_append, List.replicate_zero, List.replicate_succ, Nat.reduceSub, Nat.reduceAdd, Option.isSome_some, wipeD, false_and, and_false, exists_false, false_or, or_false, gt_iff_lt, ge_iff_le, at0, at1, at2, at3, at4, at5, atm1, ix0, ix1, ix2, ix3, ix4, Option.bind_some, decide_eq_true_eq, eq_ii, eq_bb, eq_ss, add_ii, sub_ii, mul_ii, fdiv_ii, mod_ii, pow_10, Nat.reduceLeDiff, Nat.zero_le, Int.reduceLE, Int.reduceLT, Nat.reducePow, Int.reducePow, Int.reduceNeg, Int.reduceToNat, Int.reduceSub, Int.reduceMul, Int.reduceAdd, or_true, true_or, Nat.reduceLT, and_self, Int.reduceEq, Nat.reduceEqDiff, exists_and_left, add_ss, mul_si, add_tt, add_ll, lstOf_l, lt_ii, lt_ss, le_ii, le_ss, gt_ii, ge_ii, is_bb, is_non, isNon_n, isNon_i, isNon_s, isNon_b, isNon_t, isNon_l, isNon_r, isTup_t, isTup_l, isTup_r, isTup_c, seqOf_t, seqOf_l, seqOf_c, tyOf_i, tyOf_b, tyOf_s, tyOf_t, tyOf_l, tyOf_n, len_s, len_t, len_l, len_c, idx_s, idx_t, idx_l, idx_c, f_law_same]
    refine snil (sone ?_)
    simp only [wpE, wpEs, wpCs, wpIt, wpS, bindT, bindTs, cmpF, bfW, methTy, methW, mkL, Ts.len, List.getElem?_cons_zero, List.getElem?_cons_succ, List.set_cons_zero, List.set_cons_succ, Option.some.injEq, D.int.injEq, D.bl.injEq, D.str.injEq, D.tup.injEq, D.lst.injEq, D.ref.injEq, exists_eq_left, exists_eq_left', true_and, and_true, if_true, if_false, Bool.false_eq_true, Bool.true_eq_false, reduceCtorEq, List.length_cons, List.length_nil, Option.map_some, List.any_cons, List.any_nil, Bool.or_false, isTy, decide_true, decide_false, Bool.and_true, Bool.and_false, Bool.or_true, Bool.true_or, Bool.false_or, Bool.false_and, Bool.true_and, Bool.not_true, Bool.not_false, startD, List.map_cons, List.map_nil, List.cons_append, List.nil_append, List.replicate_zero, List.replicate_succ, Nat.reduceSub, Nat.reduceAdd, Option.isSome_some, wipeD, false_and, and_false, exists_false, false_or, or_false, gt_iff_lt, ge_iff_le, at0, at1, at2, at3, at4, at5, atm1, ix0, ix1, ix2, ix3, ix4, Option.bind_some, decide_eq_true_eq, eq_ii, eq_bb, eq_ss, add_ii, sub_ii, mul_ii, fdiv_ii, mod_ii, pow_10, Nat.reduceLeDiff, Nat.zero_le, Int.reduceLE, Int.reduceLT, Nat.reducePow, Int.reducePow, Int.reduceNeg, Int.reduceToNat, Int.reduceSub, Int.reduceMul, Int.reduceAdd, or_true, true_or, Nat.reduceLT, and_self, Int.reduceEq, Nat.reduceEqDiff, exists_and_left, add_ss, mul_si, add_tt, add_ll, lstOf_l, lt_ii, lt_ss, le_ii, le_ss, gt_ii, ge_ii, is_bb, is_non, isNon_n, isNon_i, isNon_s, isNon_b, isNon_t, isNon_l, isNon_r, isTup_t, isTup_l, isTup_r, isTup_c, seqOf_t, seqOf_l, seqOf_c, tyOf_i, tyOf_b, tyOf_s, tyOf_t, tyOf_l, tyOf_n, len_s, len_t, len_l, len_c, idx_s, idx_t, idx_l, idx_c]
    refine sone ?_
    simp only [wpE, wpEs, wpCs, wpIt, wpS, bindT, bindTs, cmpF, bfW, methTy, methW, mkL, Ts.len, List.getElem?_cons_zero, List.getElem?_cons_succ, List.set_cons_zero, List.set_cons_succ, Option.some.injEq, D.int.injEq, D.bl.injEq, D.str.injEq, D.tup.injEq, D.lst.injEq, D.ref.injEq, exists_eq_left, exists_eq_left', true_and, and_true, if_true, if_false, Bool.false_eq_true, Bool.true_eq_false, reduceCtorEq, List.length_cons, List.length_nil, Option.map_some, List.any_cons, List.any_nil, Bool.or_false, isTy, decide_true, decide_false, Bool.and_true, Bool.and_false, Bool.or_true, Bool.true_or, Bool.false_or, Bool.false_and, Bool.true_and, Bool.not_true, Bool.not_false, startD, List.map_cons, List.map_nil, List.cons_append, List.nil_append, List.replicate_zero, List.replicate_succ, Nat.reduceSub, Nat.reduceAdd, Option.isSome_some, wipeD, false_and, and_false, exists_false, false_or, or_false, gt_iff_lt, ge_iff_le, at0, at1, at2, at3, at4, at5, atm1, ix0, ix1, ix2, ix3, ix4, Option.bind_some, decide_eq_true_eq, eq_ii, eq_bb, eq_ss, add_ii, sub_ii, mul_ii, fdiv_ii, mod_ii, pow_10, Nat.reduceLeDiff, Nat.zero_le, Int.reduceLE, Int.reduceLT, Nat.reducePow, Int.reducePow, Int.reduceNeg, Int.reduceToNat, Int.reduceSub, Int.reduceMul, Int.reduceAdd, or_true, true_or, Nat.reduceLT, and_self, Int.reduceEq, Nat.reduceEqDiff, exists_and_left, add_ss, mul_si, add_tt, add_ll, lstOf_l, lt_ii, lt_ss, le_ii, le_ss, gt_ii, ge_ii, is_bb, is_non, isNon_n, isNon_i, isNon_s, isNon_b, isNon_t, isNon_l, isNon_r, isTup_t, isTup_l, isTup_r, isTup_c, seqOf_t, seqOf_l, seqOf_c, tyOf_i, tyOf_b, tyOf_s, tyOf_t, tyOf_l, tyOf_n, len_s, len_t, len_l, len_c, idx_s, idx_t, idx_l, idx_c, es (Nat.zero_le _)]
    rw [beq_self_eq_true]
    exact .inl q
  | tup zs =>
    obtain rfl := res_o hx hp (fun z e => nomatch e)
    obtain rfl := res_o hy hp (fun z e => nomatch e)
    have hz : D.pures zs = true := hp
    have hd' : D.depths zs + 1 ≤ k := hd
    simp only [wpE, wpEs, wpCs, wpIt, wpS, bindT, bindTs, cmpF, bfW, methTy, methW, mkL, Ts.len, List.getElem?_cons_zero, List.getElem?_cons_succ, List.set_cons_zero, List.set_cons_succ, Option.some.injEq, D.int.injEq, D.bl.injEq, D.str.injEq, D.tup.injEq, D.lst.injEq, D.ref.injEq, exists_eq_left, exists_eq_left', true_and, and_true, if_true, if_false, Bool.false_eq_true, Bool.true_eq_false, reduceCtorEq, List.length_cons, List.length_nil, Option.map_some, List.any_cons, List.any_nil, Bool.or_false, isTy, decide_true, decide_false, Bool.and_true, Bool.and_false, Bool.or_true, Bool.true_or, Bool.false_or, Bool.false_and, Bool.true_and, Bool.not_true, Bool.not_false, startD, List.map_cons, List.map_nil, List.cons_append, List.nil_append, List.replicate_zero, List.replicate_succ, Nat.reduceSub, Nat.reduceAdd, Option.isSome_some, wipeD, false_and, and_false, exists_false, false_or, or_false, gt_iff_lt, ge_iff_le, at0, at1, at2, at3, at4, at5, atm1, ix0, ix1, ix2, ix3, ix4, Option.bind_some, decide_eq_true_eq, eq_ii, eq_bb, eq_ss, add_ii, sub_ii, mul_ii, fdiv_ii, mod_ii, pow_10, Nat.reduceLeDiff, Nat.zero_le, Int.reduceLE, Int.reduceLT, Nat.reducePow, Int.reducePow, Int.reduceNeg, Int.reduceToNat, Int.reduceSub, Int.reduceMul, Int.reduceAdd, or_true, true_or, Nat.reduceLT, and_self, Int.reduceEq, Nat.reduceEqDiff, exists_and_left, add_ss, mul_si, add_tt, add_ll, lstOf_l, lt_ii, lt_ss, le_ii, le_ss, gt_ii, ge_ii, is_bb, is_non, isNon_n, isNon_i, isNon_s, isNon_b, isNon_t, isNon_l, isNon_r, isTup_t, isTup_l, isTup_r, isTup_c, seqOf_t, seqOf_l, seqOf_c, tyOf_i, tyOf_b, tyOf_s, tyOf_t, tyOf_l, tyOf_n, len_s, len_t, len_l, len_c, idx_s, idx_t, idx_l, idx_c, f_law_same]
    refine sone ?_
    simp only [wpE, wpEs, wpCs, wpIt, wpS, bindT, bindTs, cmpF, bfW, methTy, methW, mkL, Ts.len, List.getElem?_cons_zero, List.getElem?_cons_succ, List.set_cons_zero, List.set_cons_succ, Option.some.injEq, D.int.injEq, D.bl.injEq, D.str.injEq, D.tup.injEq, D.lst.injEq, D.ref.injEq, exists_eq_left, exists_eq_left', true_and, and_true, if_true, if_false, Bool.false_eq_true, Bool.true_eq_false, reduceCtorEq, List.length_cons, List.length_nil, Option.map_some, List.any_cons, List.any_nil, Bool.or_false, isTy, decide_true, decide_false, Bool.and_true, Bool.and_false, Bool.or_true, Bool.true_or, Bool.false_or, Bool.false_and, Bool.true_and, Bool.not_true, Bool.not_false, startD, List.map_cons, List.map_nil, List.cons_append, List.nil_append, List.replicate_zero, List.replicate_succ, Nat.reduceSub, Nat.reduceAdd, Option.isSome_some, wipeD, false_and, and_false, exists_false, false_or, or_false, gt_iff_lt, ge_iff_le, at0, at1, at2, at3, at4, at5, atm1, ix0, ix1, ix2, ix3, ix4, Option.bind_some, decide_eq_true_eq, eq_ii, eq_bb, eq_ss, add_ii, sub_ii, mul_ii, fdiv_ii, mod_ii, pow_10, Nat.reduceLeDiff, Nat.zero_le, Int.reduceLE, Int.reduceLT, Nat.reducePow, Int.reducePow, Int.reduceNeg, Int.reduceToNat, Int.reduceSub, Int.reduceMul, Int.reduceAdd, or_true, true_or, Nat.reduceLT, and_self, Int.reduceEq, Nat.reduceEqDiff, exists_and_left, add_ss, mul_si, add_tt, add_ll, lstOf_l, lt_ii, lt_ss, le_ii, le_ss, gt_ii, ge_ii, is_bb, is_non, isNon_n, isNon_i, isNon_s, isNon_b, isNon_t, isNon_l, isNon_r, isTup_t, isTup_l, isTup_r, isTup_c, seqOf_t, seqOf_l, seqOf_c, tyOf_i, tyOf_b, tyOf_s, tyOf_t, tyOf_l, tyOf_n, len_s, len_t, len_l, len_c, idx_s, idx_t, idx_l, idx_c, beq_self_eq_true]
    refine snil (sone ?_)
    simp only [wpE, wpEs, wpCs, wpIt, wpS, bindT, bindTs, cmpF, bfW, methTy, methW, mkL, Ts.len, List.getElem?_cons_zero, List.getElem?_cons_succ, List.set_cons_zero, List.set_cons_succ, Option.some.injEq, D.int.injEq, D.bl.injEq, D.str.injEq, D.tup.injEq, D.lst.injEq, D.ref.injEq, exists_eq_left, exists_eq_left', true_and, and_true, if_true, if_false, Bool.false_eq_true, Bool.true_eq_false, reduceCtorEq, List.length_cons, List.length_nil, Option.map_some, List.any_cons, List.any_nil, Bool.or_false, isTy, decide_true, decide_false, Bool.and_true, Bool.and_false, Bool.or_true, Bool.true_or, Bool.false_or, Bool.false_and, Bool.true_and, Bool.not_true, Bool.not_false, startD, List.map_cons, List.map_nil, List.cons_append, List.nil_append, List.replicate_zero, List.replicate_succ, Nat.reduceSub, Nat.reduceAdd, Option.isSome_some, wipeD, false_and, and_false, exists_false, false_or, or_false, gt_iff_lt, ge_iff_le, at0, at1, at2, at3, at4, at5, atm1, ix0, ix1, ix2, ix3, ix4, Option.bind_some, decide_eq_true_eq, eq_ii, eq_bb, eq_ss, add_ii, sub_ii, mul_ii, fdiv_ii, mod_ii, pow_10, Nat.reduceLeDiff, Nat.zero_le, Int.reduceLE, Int.reduceLT, Nat.reducePow, Int.reducePow, Int.reduceNeg, Int.reduceToNat, Int.reduceSub, Int.reduceMul, Int.reduceAdd, or_true, true_or, Nat.reduceLT, and_self, Int.reduceEq, Nat.reduceEqDiff, exists_and_left, add_ss, mul_si, add_tt, add_ll, lstOf_l, lt_ii, lt_ss, le_ii, le_ss, gt_ii, ge_ii, is_bb, is_non, isNon_n, isNon_i, isNon_s, isNon_b, isNon_t, isNon_l, isNon_r, isTup_t, isTup_l, isTup_r, isTup_c, seqOf_t, seqOf_l, seqOf_c, tyOf_i, tyOf_b, tyOf_s, tyOf_t, tyOf_l, tyOf_n, len_s, len_t, len_l, len_c, idx_s, idx_t, idx_l, idx_c]
    refine compL_map (fun _ => .bl true) trivial (fun x m g hg => ?_) ?_
    · rw [zipL_self] at m
      obtain ⟨z, mz, rfl⟩ := List.mem_map.mp m
      exact ⟨_, rfl, rfl, _, _, rfl, _, _, rfl, rfl, inner zs hz hd' g z mz hg⟩
    · exact ⟨_, blsOf_map (fun _ => true) _, .inl (by rw [all_trues]; exact q)⟩
  | lst zs =>
    obtain ⟨x1, x2, x3, x4⟩ := res_l hx
    obtain ⟨y1, y2, y3, y4⟩ := res_l hy
    have hz : D.pures zs = true := hp
    have hd' : D.depths zs + 1 ≤ k := hd
    simp only [wpE, wpEs, wpCs, wpIt, wpS, bindT, bindTs, cmpF, bfW, methTy, methW, mkL, Ts.len, List.getElem?_cons_zero, List.getElem?_cons_succ, List.set_cons_zero, List.set_cons_succ, Option.some.injEq, D.int.injEq, D.bl.injEq, D.str.injEq, D.tup.injEq, D.lst.injEq, D.ref.injEq, exists_eq_left, exists_eq_left', true_and, and_true, if_true, if_false, Bool.false_eq_true, Bool.true_eq_false, reduceCtorEq, List.length_cons, List.length_nil, Option.map_some, List.any_cons, List.any_nil, Bool.or_false, isTy, decide_true, decide_false, Bool.and_true, Bool.and_false, Bool.or_true, Bool.true_or, Bool.false_or, Bool.false_and, Bool.true_and, Bool.not_true, Bool.not_false, startD, List.map_cons, List.map_nil, List.cons_append, List.nil_append, List.replicate_zero, List.replicate_succ, Nat.reduceSub, Nat.reduceAdd, Option.isSome_some, wipeD, false_and, and_false, exists_false, false_or, or_false, gt_iff_lt, ge_iff_le, at0, at1, at2, at3, at4, at5, atm1, ix0, ix1, ix2, ix3, ix4, Option.bind_some, decide_eq_true_eq, eq_ii, eq_bb, eq_ss, add_ii, sub_ii, mul_ii, fdiv_ii, mod_ii, pow_10, Nat.reduceLeDiff, Nat.zero_le, Int.reduceLE, Int.reduceLT, Nat.reducePow, Int.reducePow, Int.reduceNeg, Int.reduceToNat, Int.reduceSub, Int.reduceMul, Int.reduceAdd, or_true, true_or, Nat.reduceLT, and_self, Int.reduceEq, Nat.reduceEqDiff, exists_and_left, add_ss, mul_si, add_tt, add_ll, lstOf_l, lt_ii, lt_ss, le_ii, le_ss, gt_ii, ge_ii, is_bb, is_non, isNon_n, isNon_i, isNon_s, isNon_b, isNon_t, isNon_l, isNon_r, isTup_t, isTup_l, isTup_r, isTup_c, seqOf_t, seqOf_l, seqOf_c, tyOf_i, tyOf_b, tyOf_s, tyOf_t, tyOf_l, tyOf_n, len_s, len_t, len_l, len_c, idx_s, idx_t, idx_l, idx_c, f_law_same, x3, y3]
    refine sone ?_
    simp only [wpE, wpEs, wpCs, wpIt, wpS, bindT, bindTs, cmpF, bfW, methTy, methW, mkL, Ts.len, List.getElem?_cons_zero, List.getElem?_cons_succ, List.set_cons_zero, List.set_cons_succ, Option.some.injEq, D.int.injEq, D.bl.injEq, D.str.injEq, D.tup.injEq, D.lst.injEq, D.ref.injEq, exists_eq_left, exists_eq_left', true_and, and_true, if_true, if_false, Bool.false_eq_true, Bool.true_eq_false, reduceCtorEq, List.length_cons, List.length_nil, Option.map_some, List.any_cons, List.any_nil, Bool.or_false, isTy, decide_true, decide_false, Bool.and_true, Bool.and_false, Bool.or_true, Bool.true_or, Bool.false_or, Bool.false_and, Bool.true_and, Bool.not_true, Bool.not_false, startD, List.map_cons, List.map_nil, List.cons_append, List.nil_append, List.replicate_zero, List.replicate_succ, Nat.reduceSub, Nat.reduceAdd, Option.isSome_some, wipeD, false_and, and_false, exists_false, false_or, or_false, gt_iff_lt, ge_iff_le, at0, at1, at2, at3, at4, at5, atm1, ix0, ix1, ix2, ix3, ix4, Option.bind_some, decide_eq_true_eq, eq_ii, eq_bb, eq_ss, add_ii, sub_ii, mul_ii, fdiv_ii, mod_ii, pow_10, Nat.reduceLeDiff, Nat.zero_le, Int.reduceLE, Int.reduceLT, Nat.reducePow, Int.reducePow, Int.reduceNeg, Int.reduceToNat, Int.reduceSub, Int.reduceMul, Int.reduceAdd, or_true, true_or, Nat.reduceLT, and_self, Int.reduceEq, Nat.reduceEqDiff, exists_and_left, add_ss, mul_si, add_tt, add_ll, lstOf_l, lt_ii, lt_ss, le_ii, le_ss, gt_ii, ge_ii, is_bb, is_non, isNon_n, isNon_i, isNon_s, isNon_b, isNon_t, isNon_l, isNon_r, isTup_t, isTup_l, isTup_r, isTup_c, seqOf_t, seqOf_l, seqOf_c, tyOf_i, tyOf_b, tyOf_s, tyOf_t, tyOf_l, tyOf_n, len_s, len_t, len_l, len_c, idx_s, idx_t, idx_l, idx_c, x3, y3, beq_self_eq_true]
    refine snil (sone ?_)
    simp only [wpE, wpEs, wpCs, wpIt, wpS, bindT, bindTs, cmpF, bfW, methTy, methW, mkL, Ts.len, List.getElem?_cons_zero, List.getElem?_cons_succ, List.set_cons_zero, List.set_cons_succ, Option.some.injEq, D.int.injEq, D.bl.injEq, D.str.injEq, D.tup.injEq, D.lst.injEq, D.ref.injEq, exists_eq_left, exists_eq_left', true_and, and_true, if_true, if_false, Bool.false_eq_true, Bool.true_eq_false, reduceCtorEq, List.length_cons, List.length_nil, Option.map_some, List.any_cons, List.any_nil, Bool.or_false, isTy, decide_true, decide_false, Bool.and_true, Bool.and_false, Bool.or_true, Bool.true_or, Bool.false_or, Bool.false_and, Bool.true_and, Bool.not_true, Bool.not_false, startD, List.map_cons, List.map_nil, List.cons_append, List.nil_append, List.replicate_zero, List.replicate_succ, Nat.reduceSub, Nat.reduceAdd, Option.isSome_some, wipeD, false_and, and_false, exists_false, false_or, or_false, gt_iff_lt, ge_iff_le, at0, at1, at2, at3, at4, at5, atm1, ix0, ix1, ix2, ix3, ix4, Option.bind_some, decide_eq_true_eq, eq_ii, eq_bb, eq_ss, add_ii, sub_ii, mul_ii, fdiv_ii, mod_ii, pow_10, Nat.reduceLeDiff, Nat.zero_le, Int.reduceLE, Int.reduceLT, Nat.reducePow, Int.reducePow, Int.reduceNeg, Int.reduceToNat, Int.reduceSub, Int.reduceMul, Int.reduceAdd, or_true, true_or, Nat.reduceLT, and_self, Int.reduceEq, Nat.reduceEqDiff, exists_and_left, add_ss, mul_si, add_tt, add_ll, lstOf_l, lt_ii, lt_ss, le_ii, le_ss, gt_ii, ge_ii, is_bb, is_non, isNon_n, isNon_i, isNon_s, isNon_b, isNon_t, isNon_l, isNon_r, isTup_t, isTup_l, isTup_r, isTup_c, seqOf_t, seqOf_l, seqOf_c, tyOf_i, tyOf_b, tyOf_s, tyOf_t, tyOf_l, tyOf_n, len_s, len_t, len_l, len_c, idx_s, idx_t, idx_l, idx_c, x1, y1, x2, y2, x4, y4]
    refine compL_map (fun _ => .bl true) ⟨x1, y1⟩ (fun x m g hg => ?_) ?_
    · rw [zipL_self] at m
      obtain ⟨z, mz, rfl⟩ := List.mem_map.mp m
      exact ⟨_, rfl, rfl, _, _, rfl, _, _, rfl, rfl, inner zs hz hd' g z mz hg⟩
    · exact ⟨_, blsOf_map (fun _ => true) _, .inl (by rw [all_trues]; exact q)⟩
  | _ => cases hp
def f_law_odd : Fn := ⟨2, 6, (.cons (.asg (.name 2) (.lst false (.cons .non (.cons (.bl true) (.cons (.bl false) (.cons (.int 0) (.cons (.neg (.int 1)) (.cons (.bin .pow (.int 10) (.int 30)) (.cons (.str "") (.cons (.str "a") (.cons (.str "A") (.cons (.str "a b") (.cons (.str "'") .nil))))))))))))) (.cons (.asg (.name 2) (.bin .add (.var 2) (.lst false (.cons (.tup .nil) (.cons (.lst false .nil) (.cons (.tup (.cons (.str "a") .nil)) (.cons (.lst false (.cons (.str "a") .nil)) (.cons (.tup (.cons (.tup (.cons (.str "a") .nil)) (.cons (.tup (.cons (.tup (.cons (.int 1) .nil)) .nil)) .nil))) (.cons (.tup (.cons .non .nil)) .nil))))))))) (.cons (.asg (.name 3) (.call "_law_take" (.cons (.var 0) (.cons (.int 24) .nil)))) (.cons (.ite (.or (.cmp .lt (.var 3) (.int 17)) (.cmp .eq (.var 1) (.int 0))) (.cons (.ret (.idx (.var 2) (.bin .mod (.var 3) (.int 17)))) .nil) .nil) (.cons (.asg (.name 4) (.comp false [5] (.name 5) (.rng1 (.call "_law_take" (.cons (.var 0) (.cons (.int 3) .nil)))) .nil (.call "_law_odd" (.cons (.var 0) (.cons (.bin .sub (.var 1) (.int 1)) .nil))))) (.cons (.ret (.idx (.lst false (.cons (.var 4) (.cons (.bf .tuple false (.cons (.var 4) .nil)) .nil))) (.call "_law_take" (.cons (.var 0) (.cons (.int 2) .nil))))) .nil))))))⟩
/-- the length of the text of d -/
def shl (d : D) : Nat := (py d).shown.length
theorem textFrom_le : ∀ (ts : List Str) (k : Nat) (acc : Str), (textFrom k acc ts).length ≤ acc.length + piled ts
  | [], k, acc => Nat.le_add_right _ _
  | t :: r, k, acc => by
    have ih := textFrom_le r (k + 1) (acc ++ (if k > 0 then ", " else "" : String) ++ t)
    show (textFrom (k + 1) _ r).length ≤ _
    rw [piled_cons]
    have e : (acc ++ (if k > 0 then ", " else "" : String) ++ t).length = acc.length + (if k > 0 then 2 else 0) + t.length := by
      rw [strLen_append, strLen_append]
      split <;> rfl
    have : (if k > 0 then 2 else 0 : Nat) ≤ 2 := by split <;> omega
    omega
theorem piled_pys (m : Nat) : ∀ xs : List D, (∀ x ∈ xs, shl x ≤ m) → piled (PyData.shownAll (pys xs)) ≤ xs.length * (m + 2)
  | [], _ => Nat.zero_le _
  | x :: xs, h => by
    show piled ((py x).shown :: PyData.shownAll (pys xs)) ≤ (xs.length + 1) * (m + 2)
    rw [piled_cons]
    have h1 := h x (by simp)
    have h2 := piled_pys m xs fun y hy => h y (by simp [hy])
    unfold shl at h1
    rw [Nat.add_mul]
    omega
theorem shl_lst {m : Nat} {xs : List D} (h : ∀ x ∈ xs, shl x ≤ m) : shl (.lst xs) ≤ 2 + xs.length * (m + 2) := by
  have h1 := piled_pys m xs h
  show (listText (PyData.shownAll (pys xs))).length ≤ _
  unfold listText
  rw [strLen_append]
  have h2 := textFrom_le (PyData.shownAll (pys xs)) 0 ("[" : Str)
  have e1 : ("[" : Str).length = 1 := rfl
  have e2 : ("]" : Str).length = 1 := rfl
  omega
theorem shl_tup {m : Nat} {xs : List D} (h : ∀ x ∈ xs, shl x ≤ m) : shl (.tup xs) ≤ 3 + xs.length * (m + 2) := by
  have h1 := piled_pys m xs h
  show (tupleText (PyData.shownAll (pys xs))).length ≤ _
  unfold tupleText
  rw [strLen_append, strLen_append]
  have e1 : ("(" : Str).length = 1 := rfl
  have e2 : ((if (PyData.shownAll (pys xs)).length == 1 then ",)" else ")" : String) : Str).length ≤ 2 := by split <;> decide
  cases q : pys xs with
  | nil =>
    have e3 : (Str.join ", " (PyData.shownAll (pys xs))).length = 0 := by rw [q]; rfl
    rw [q] at e2 e3
    omega
  | cons a b =>
    have e3 := join_length_add (PyData.shownAll (pys xs)) (by rw [q]; exact fun z => nomatch z)
    rw [q] at e2 e3 h1
    omega
def oddL : Nat → Nat
  | 0 => 40
  | k + 1 => 3 + 2 * (oddL k + 2)
structure OddD (k : Nat) (d : D) : Prop where
  pure : d.pure = true
  depth : d.depth ≤ k + 3
  show_ : (py d).showable = true
  len : shl d ≤ oddL k
  str : ∀ s, d = .str s → s.length ≤ 100
def oddB (d : D) : Bool := d.pure && decide (d.depth ≤ 3) && (py d).showable && decide (shl d ≤ 40) && (match d with | .str s => decide (s.length ≤ 100) | _ => true)
theorem odd_of {d : D} (h : oddB d = true) : OddD 0 d := by
  unfold oddB at h
  simp only [Bool.and_eq_true, decide_eq_true_eq] at h
  obtain ⟨⟨⟨⟨h1, h2⟩, h3⟩, h4⟩, h5⟩ := h
  refine ⟨h1, h2, h3, h4, fun s e => ?_⟩
  subst e
  exact of_decide_eq_true h5
theorem oddL_mono : ∀ k, oddL 0 ≤ oddL k
  | 0 => Nat.le_refl _
  | k + 1 => by
    have := oddL_mono k
    show oddL 0 ≤ 3 + 2 * (oddL k + 2)
    omega
theorem OddD.up {d : D} (h : OddD 0 d) (k : Nat) : OddD k d := ⟨h.pure, by have := h.depth; omega, h.show_, Nat.le_trans h.len (oddL_mono k), h.str⟩
def oddBase : List D := [.non, .bl true, .bl false, .int 0, .int (-1), .int 1000000000000000000000000000000, .str "", .str "a", .str "A", .str "a b", .str "'", .tup [], .lst [], .tup [.str "a"], .lst [.str "a"], .tup [.tup [.str "a"], .tup [.tup [.int 1]]], .tup [.non]]
theorem oddBase_ok : ∀ x ∈ oddBase, OddD 0 x := fun x m => odd_of (List.all_eq_true.mp (show oddBase.all oddB = true by decide +kernel) x m)
def oddC : Nat → Int
  | 0 => 1
  | k + 1 => 3 + 2 * oddC k
def spOdd (k : Nat) : Spc := fun ds h Q _ => ∃ (n : Nat) (B : Int), ds = [.ref n, .int k] ∧ (∃ xs, h[n]? = some (.lst xs) ∧ BoxOk B xs) ∧ B + oddC k ≤ 1000000000000 ∧ ∀ d ys, OddD k d → BoxOk (B + oddC k) ys → Q d (h.set n (.lst ys))
theorem oddC_pos : ∀ k, 1 ≤ oddC k
  | 0 => by decide
  | k + 1 => by
    have := oddC_pos k
    show 1 ≤ 3 + 2 * oddC k
    omega
theorem show_all : ∀ {xs : List D}, (∀ x ∈ xs, (py x).showable = true) → PyData.showableAll (pys xs) = true
  | [], _ => rfl
  | x :: xs, h => by
    show ((py x).showable && PyData.showableAll (pys xs)) = true
    rw [h x (by simp), show_all fun y m => h y (by simp [m])]; rfl
theorem odd_step {j : Nat} {acc : List D} (hl : acc.length ≤ 2) (hp : ∀ x ∈ acc, OddD j x) : OddD (j + 1) (.lst acc) ∧ OddD (j + 1) (.tup acc) := by
  have p := pures_of fun x m => (hp x m).pure
  have d := depths_le fun x m => (hp x m).depth
  have s := show_all fun x m => (hp x m).show_
  have l1 := shl_lst fun x m => (hp x m).len
  have l2 := shl_tup fun x m => (hp x m).len
  have l3 : acc.length * (oddL j + 2) ≤ 2 * (oddL j + 2) := Nat.mul_le_mul_right _ hl
  have e : oddL (j + 1) = 3 + 2 * (oddL j + 2) := rfl
  exact ⟨⟨p, by show D.depths acc + 1 ≤ _; omega, s, by omega, fun s e => nomatch e⟩, p, by show D.depths acc + 1 ≤ _; omega, s, by omega, fun s e => nomatch e⟩
theorem i_odd {Φ : Fs} {k : Nat} (e1 : Φ.fn "_law_take" = spTake) (e2 : k ≠ 0 → Φ.fn "_law_odd" = spOdd (k - 1)) : Impl Φ f_law_odd (spOdd k) := by
  rintro ds h Q ⟨n, B, rfl, ⟨xs, hn, hb⟩, hB, q⟩
  have hnl : n < h.length := (List.getElem?_eq_some_iff.mp hn).1
  have hs : ∀ o, (h.set n o)[n]? = some o := fun o => List.getElem?_set_self hnl
  have hk := oddC_pos k
  refine ⟨rfl, sone ?_⟩
  simp only [wpE, wpEs, wpCs, wpIt, wpS, bindT, bindTs, cmpF, bfW, methTy, methW, mkL, Ts.len, List.getElem?_cons_zero, List.getElem?_cons_succ, List.set_cons_zero, List.set_cons_succ, Option.some.injEq, D.int.injEq, D.bl.injEq, D.str.injEq, D.tup.injEq, D.lst.injEq, D.ref.injEq, exists_eq_left, exists_eq_left', true_and, and_true, if_true, if_false, Bool.false_eq_true, Bool.true_eq_false, reduceCtorEq, List.length_cons, List.length_nil, Option.map_some, List.any_cons, List.any_nil, Bool.or_false, isTy, decide_true, decide_false, Bool.and_true, Bool.and_false, Bool.or_true, Bool.true_or, Bool.false_or, Bool.false_and, Bool.true_and, Bool.not_true, Bool.not_false, startD, List.map_cons, List.map_nil, List.cons_append, List.nil_append, List.replicate_zero, List.replicate_succ, Nat.reduceSub, Nat.reduceAdd, Option.isSome_some, wipeD, false_and, and_false, exists_false, false_or, or_false, gt_iff_lt, ge_iff_le, at0, at1, at2, at3, at4, at5, atm1, ix0, ix1, ix2, ix3, ix4, Option.bind_some, decide_eq_true_eq, eq_ii, eq_bb, eq_ss, add_ii, sub_ii, mul_ii, fdiv_ii, mod_ii, pow_10, Nat.reduceLeDiff, Nat.zero_le, Int.reduceLE, Int.reduceLT, Nat.reducePow, Int.reducePow, Int.reduceNeg, Int.reduceToNat, Int.reduceSub, Int.reduceMul, Int.reduceAdd, or_true, true_or, Nat.reduceLT, and_self, Int.reduceEq, Nat.reduceEqDiff, exists_and_left, add_ss, mul_si, add_tt, add_ll, lstOf_l, lt_ii, lt_ss, le_ii, le_ss, gt_ii, ge_ii, is_bb, is_non, isNon_n, isNon_i, isNon_s, isNon_b, isNon_t, isNon_l, isNon_r, isTup_t, isTup_l, isTup_r, isTup_c, seqOf_t, seqOf_l, seqOf_c, tyOf_i, tyOf_b, tyOf_s, tyOf_t, tyOf_l, tyOf_n, len_s, len_t, len_l, len_c, idx_s, idx_t, idx_l, idx_c, f_law_odd]
  refine sone ?_
  simp only [wpE, wpEs, wpCs, wpIt, wpS, bindT, bindTs, cmpF, bfW, methTy, methW, mkL, Ts.len, List.getElem?_cons_zero, List.getElem?_cons_succ, List.set_cons_zero, List.set_cons_succ, Option.some.injEq, D.int.injEq, D.bl.injEq, D.str.injEq, D.tup.injEq, D.lst.injEq, D.ref.injEq, exists_eq_left, exists_eq_left', true_and, and_true, if_true, if_false, Bool.false_eq_true, Bool.true_eq_false, reduceCtorEq, List.length_cons, List.length_nil, Option.map_some, List.any_cons, List.any_nil, Bool.or_false, isTy, decide_true, decide_false, Bool.and_true, Bool.and_false, Bool.or_true, Bool.true_or, Bool.false_or, Bool.false_and, Bool.true_and, Bool.not_true, Bool.not_false, startD, List.map_cons, List.map_nil, List.cons_append, List.nil_append, List.replicate_zero, List.replicate_succ, Nat.reduceSub, Nat.reduceAdd, Option.isSome_some, wipeD, false_and, and_false, exists_false, false_or, or_false, gt_iff_lt, ge_iff_le, at0, at1, at2, at3, at4, at5, atm1, ix0, ix1, ix2, ix3, ix4, Option.bind_some, decide_eq_true_eq, eq_ii, eq_bb, eq_ss, add_ii, sub_ii, mul_ii, fdiv_ii, mod_ii, pow_10, Nat.reduceLeDiff, Nat.zero_le, Int.reduceLE, Int.reduceLT, Nat.reducePow, Int.reducePow, Int.reduceNeg, Int.reduceToNat, Int.reduceSub, Int.reduceMul, Int.reduceAdd, or_true, true_or, Nat.reduceLT, and_self, Int.reduceEq, Nat.reduceEqDiff, exists_and_left, add_ss, mul_si, add_tt, add_ll, lstOf_l, lt_ii, lt_ss, le_ii, le_ss, gt_ii, ge_ii, is_bb, is_non, isNon_n, isNon_i, isNon_s, isNon_b, isNon_t, isNon_l, isNon_r, isTup_t, isTup_l, isTup_r, isTup_c, seqOf_t, seqOf_l, seqOf_c, tyOf_i, tyOf_b, tyOf_s, tyOf_t, tyOf_l, tyOf_n, len_s, len_t, len_l, len_c, idx_s, idx_t, idx_l, idx_c]
  refine sone ?_
  simp only [wpE, wpEs, wpCs, wpIt, wpS, bindT, bindTs, cmpF, bfW, methTy, methW, mkL, Ts.len, List.getElem?_cons_zero, List.getElem?_cons_succ, List.set_cons_zero, List.set_cons_succ, Option.some.injEq, D.int.injEq, D.bl.injEq, D.str.injEq, D.tup.injEq, D.lst.injEq, D.ref.injEq, exists_eq_left, exists_eq_left', true_and, and_true, if_true, if_false, Bool.false_eq_true, Bool.true_eq_false, reduceCtorEq, List.length_cons, List.length_nil, Option.map_some, List.any_cons, List.any_nil, Bool.or_false, isTy, decide_true, decide_false, Bool.and_true, Bool.and_false, Bool.or_true, Bool.true_or, Bool.false_or, Bool.false_and, Bool.true_and, Bool.not_true, Bool.not_false, startD, List.map_cons, List.map_nil, List.cons_append, List.nil_append, List.replicate_zero, List.replicate_succ, Nat.reduceSub, Nat.reduceAdd, Option.isSome_some, wipeD, false_and, and_false, exists_false, false_or, or_false, gt_iff_lt, ge_iff_le, at0, at1, at2, at3, at4, at5, atm1, ix0, ix1, ix2, ix3, ix4, Option.bind_some, decide_eq_true_eq, eq_ii, eq_bb, eq_ss, add_ii, sub_ii, mul_ii, fdiv_ii, mod_ii, pow_10, Nat.reduceLeDiff, Nat.zero_le, Int.reduceLE, Int.reduceLT, Nat.reducePow, Int.reducePow, Int.reduceNeg, Int.reduceToNat, Int.reduceSub, Int.reduceMul, Int.reduceAdd, or_true, true_or, Nat.reduceLT, and_self, Int.reduceEq, Nat.reduceEqDiff, exists_and_left, add_ss, mul_si, add_tt, add_ll, lstOf_l, lt_ii, lt_ss, le_ii, le_ss, gt_ii, ge_ii, is_bb, is_non, isNon_n, isNon_i, isNon_s, isNon_b, isNon_t, isNon_l, isNon_r, isTup_t, isTup_l, isTup_r, isTup_c, seqOf_t, seqOf_l, seqOf_c, tyOf_i, tyOf_b, tyOf_s, tyOf_t, tyOf_l, tyOf_n, len_s, len_t, len_l, len_c, idx_s, idx_t, idx_l, idx_c, e1]
  refine ⟨n, 24, B, xs, rfl, hn, hb, by omega, by decide, by decide, fun r ys h0 h1 hy => ?_⟩
  have base : ∃ x, atO oddBase (r % 17) = some x ∧ OddD 0 x := at_mem oddBase_ok (by omega) (by show r % 17 < 17; omega)
  obtain ⟨x, ex, hx⟩ := base
  unfold oddBase at ex
  refine sone ?_
  simp only [wpE, wpEs, wpCs, wpIt, wpS, bindT, bindTs, cmpF, bfW, methTy, methW, mkL, Ts.len, List.getElem?_cons_zero, List.getElem?_cons_succ, List.set_cons_zero, List.set_cons_succ, Option.some.injEq, D.int.injEq, D.bl.injEq, D.str.injEq, D.tup.injEq, D.lst.injEq, D.ref.injEq, exists_eq_left, exists_eq_left', true_and, and_true, if_true, if_false, Bool.false_eq_true, Bool.true_eq_false, reduceCtorEq, List.length_cons, List.length_nil, Option.map_some, List.any_cons, List.any_nil, Bool.or_false, isTy, decide_true, decide_false, Bool.and_true, Bool.and_false, Bool.or_true, Bool.true_or, Bool.false_or, Bool.false_and, Bool.true_and, Bool.not_true, Bool.not_false, startD, List.map_cons, List.map_nil, List.cons_append, List.nil_append, List.replicate_zero, List.replicate_succ, Nat.reduceSub, Nat.reduceAdd, Option.isSome_some, wipeD, false_and, and_false, exists_false, false_or, or_false, gt_iff_lt, ge_iff_le, at0, at1, at2, at3, at4, at5, atm1, ix0, ix1, ix2, ix3, ix4, Option.bind_some, decide_eq_true_eq, eq_ii, eq_bb, eq_ss, add_ii, sub_ii, mul_ii, fdiv_ii, mod_ii, pow_10, Nat.reduceLeDiff, Nat.zero_le, Int.reduceLE, Int.reduceLT, Nat.reducePow, Int.reducePow, Int.reduceNeg, Int.reduceToNat, Int.reduceSub, Int.reduceMul, Int.reduceAdd, or_true, true_or, Nat.reduceLT, and_self, Int.reduceEq, Nat.reduceEqDiff, exists_and_left, add_ss, mul_si, add_tt, add_ll, lstOf_l, lt_ii, lt_ss, le_ii, le_ss, gt_ii, ge_ii, is_bb, is_non, isNon_n, isNon_i, isNon_s, isNon_b, isNon_t, isNon_l, isNon_r, isTup_t, isTup_l, isTup_r, isTup_c, seqOf_t, seqOf_l, seqOf_c, tyOf_i, tyOf_b, tyOf_s, tyOf_t, tyOf_l, tyOf_n, len_s, len_t, len_l, len_c, idx_s, idx_t, idx_l, idx_c]
  split
  · refine sone ?_
    simp only [wpE, wpEs, wpCs, wpIt, wpS, bindT, bindTs, cmpF, bfW, methTy, methW, mkL, Ts.len, List.getElem?_cons_zero, List.getElem?_cons_succ, List.set_cons_zero, List.set_cons_succ, Option.some.injEq, D.int.injEq, D.bl.injEq, D.str.injEq, D.tup.injEq, D.lst.injEq, D.ref.injEq, exists_eq_left, exists_eq_left', true_and, and_true, if_true, if_false, Bool.false_eq_true, Bool.true_eq_false, reduceCtorEq, List.length_cons, List.length_nil, Option.map_some, List.any_cons, List.any_nil, Bool.or_false, isTy, decide_true, decide_false, Bool.and_true, Bool.and_false, Bool.or_true, Bool.true_or, Bool.false_or, Bool.false_and, Bool.true_and, Bool.not_true, Bool.not_false, startD, List.map_cons, List.map_nil, List.cons_append, List.nil_append, List.replicate_zero, List.replicate_succ, Nat.reduceSub, Nat.reduceAdd, Option.isSome_some, wipeD, false_and, and_false, exists_false, false_or, or_false, gt_iff_lt, ge_iff_le, at0, at1, at2, at3, at4, at5, atm1, ix0, ix1, ix2, ix3, ix4, Option.bind_some, decide_eq_true_eq, eq_ii, eq_bb, eq_ss, add_ii, sub_ii, mul_ii, fdiv_ii, mod_ii, pow_10, Nat.reduceLeDiff, Nat.zero_le, Int.reduceLE, Int.reduceLT, Nat.reducePow, Int.reducePow, Int.reduceNeg, Int.reduceToNat, Int.reduceSub, Int.reduceMul, Int.reduceAdd, or_true, true_or, Nat.reduceLT, and_self, Int.reduceEq, Nat.reduceEqDiff, exists_and_left, add_ss, mul_si, add_tt, add_ll, lstOf_l, lt_ii, lt_ss, le_ii, le_ss, gt_ii, ge_ii, is_bb, is_non, isNon_n, isNon_i, isNon_s, isNon_b, isNon_t, isNon_l, isNon_r, isTup_t, isTup_l, isTup_r, isTup_c, seqOf_t, seqOf_l, seqOf_c, tyOf_i, tyOf_b, tyOf_s, tyOf_t, tyOf_l, tyOf_n, len_s, len_t, len_l, len_c, idx_s, idx_t, idx_l, idx_c, ex]
    exact .inl (q _ _ (hx.up k) (hy.mono (by omega)))
  split
  · refine sone ?_
    simp only [wpE, wpEs, wpCs, wpIt, wpS, bindT, bindTs, cmpF, bfW, methTy, methW, mkL, Ts.len, List.getElem?_cons_zero, List.getElem?_cons_succ, List.set_cons_zero, List.set_cons_succ, Option.some.injEq, D.int.injEq, D.bl.injEq, D.str.injEq, D.tup.injEq, D.lst.injEq, D.ref.injEq, exists_eq_left, exists_eq_left', true_and, and_true, if_true, if_false, Bool.false_eq_true, Bool.true_eq_false, reduceCtorEq, List.length_cons, List.length_nil, Option.map_some, List.any_cons, List.any_nil, Bool.or_false, isTy, decide_true, decide_false, Bool.and_true, Bool.and_false, Bool.or_true, Bool.true_or, Bool.false_or, Bool.false_and, Bool.true_and, Bool.not_true, Bool.not_false, startD, List.map_cons, List.map_nil, List.cons_append, List.nil_append, List.replicate_zero, List.replicate_succ, Nat.reduceSub, Nat.reduceAdd, Option.isSome_some, wipeD, false_and, and_false, exists_false, false_or, or_false, gt_iff_lt, ge_iff_le, at0, at1, at2, at3, at4, at5, atm1, ix0, ix1, ix2, ix3, ix4, Option.bind_some, decide_eq_true_eq, eq_ii, eq_bb, eq_ss, add_ii, sub_ii, mul_ii, fdiv_ii, mod_ii, pow_10, Nat.reduceLeDiff, Nat.zero_le, Int.reduceLE, Int.reduceLT, Nat.reducePow, Int.reducePow, Int.reduceNeg, Int.reduceToNat, Int.reduceSub, Int.reduceMul, Int.reduceAdd, or_true, true_or, Nat.reduceLT, and_self, Int.reduceEq, Nat.reduceEqDiff, exists_and_left, add_ss, mul_si, add_tt, add_ll, lstOf_l, lt_ii, lt_ss, le_ii, le_ss, gt_ii, ge_ii, is_bb, is_non, isNon_n, isNon_i, isNon_s, isNon_b, isNon_t, isNon_l, isNon_r, isTup_t, isTup_l, isTup_r, isTup_c, seqOf_t, seqOf_l, seqOf_c, tyOf_i, tyOf_b, tyOf_s, tyOf_t, tyOf_l, tyOf_n, len_s, len_t, len_l, len_c, idx_s, idx_t, idx_l, idx_c, ex]
    exact .inl (q _ _ (hx.up k) (hy.mono (by omega)))
  · rename_i hk0
    obtain ⟨j, rfl⟩ : ∃ j, k = j + 1 := ⟨k - 1, by omega⟩
    have e2 := e2 (by omega)
    rw [Nat.add_sub_cancel] at e2
    have ej : ((j + 1 : Nat) : Int) - 1 = (j : Int) := by omega
    have cj : oddC (j + 1) = 3 + 2 * oddC j := rfl
    have pj := oddC_pos j
    refine snil (sone ?_)
    simp only [wpE, wpEs, wpCs, wpIt, wpS, bindT, bindTs, cmpF, bfW, methTy, methW, mkL, Ts.len, List.getElem?_cons_zero, List.getElem?_cons_succ, List.set_cons_zero, List.set_cons_succ, Option.some.injEq, D.int.injEq, D.bl.injEq, D.str.injEq, D.tup.injEq, D.lst.injEq, D.ref.injEq, exists_eq_left, exists_eq_left', true_and, and_true, if_true, if_false, Bool.false_eq_true, Bool.true_eq_false, reduceCtorEq, List.length_cons, List.length_nil, Option.map_some, List.any_cons, List.any_nil, Bool.or_false, isTy, decide_true, decide_false, Bool.and_true, Bool.and_false, Bool.or_true, Bool.true_or, Bool.false_or, Bool.false_and, Bool.true_and, Bool.not_true, Bool.not_false, startD, List.map_cons, List.map_nil, List.cons_append, List.nil_append, List.replicate_zero, List.replicate_succ, Nat.reduceSub, Nat.reduceAdd, Option.isSome_some, wipeD, false_and, and_false, exists_false, false_or, or_false, gt_iff_lt, ge_iff_le, at0, at1, at2, at3, at4, at5, atm1, ix0, ix1, ix2, ix3, ix4, Option.bind_some, decide_eq_true_eq, eq_ii, eq_bb, eq_ss, add_ii, sub_ii, mul_ii, fdiv_ii, mod_ii, pow_10, Nat.reduceLeDiff, Nat.zero_le, Int.reduceLE, Int.reduceLT, Nat.reducePow, Int.reducePow, Int.reduceNeg, Int.reduceToNat, Int.reduceSub, Int.reduceMul, Int.reduceAdd, or_true, true_or, Nat.reduceLT, and_self, Int.reduceEq, Nat.reduceEqDiff, exists_and_left, add_ss, mul_si, add_tt, add_ll, lstOf_l, lt_ii, lt_ss, le_ii, le_ss, gt_ii, ge_ii, is_bb, is_non, isNon_n, isNon_i, isNon_s, isNon_b, isNon_t, isNon_l, isNon_r, isTup_t, isTup_l, isTup_r, isTup_c, seqOf_t, seqOf_l, seqOf_c, tyOf_i, tyOf_b, tyOf_s, tyOf_t, tyOf_l, tyOf_n, len_s, len_t, len_l, len_c, idx_s, idx_t, idx_l, idx_c, e1]
    refine ⟨n, 3, B + 1, ys, rfl, hs _, hy, by omega, by decide, by decide, fun r2 zs g0 g1 hz => ?_⟩
    simp only [wpE, wpEs, wpCs, wpIt, wpS, bindT, bindTs, cmpF, bfW, methTy, methW, mkL, Ts.len, List.getElem?_cons_zero, List.getElem?_cons_succ, List.set_cons_zero, List.set_cons_succ, Option.some.injEq, D.int.injEq, D.bl.injEq, D.str.injEq, D.tup.injEq, D.lst.injEq, D.ref.injEq, exists_eq_left, exists_eq_left', true_and, and_true, if_true, if_false, Bool.false_eq_true, Bool.true_eq_false, reduceCtorEq, List.length_cons, List.length_nil, Option.map_some, List.any_cons, List.any_nil, Bool.or_false, isTy, decide_true, decide_false, Bool.and_true, Bool.and_false, Bool.or_true, Bool.true_or, Bool.false_or, Bool.false_and, Bool.true_and, Bool.not_true, Bool.not_false, startD, List.map_cons, List.map_nil, List.cons_append, List.nil_append, List.replicate_zero, List.replicate_succ, Nat.reduceSub, Nat.reduceAdd, Option.isSome_some, wipeD, false_and, and_false, exists_false, false_or, or_false, gt_iff_lt, ge_iff_le, at0, at1, at2, at3, at4, at5, atm1, ix0, ix1, ix2, ix3, ix4, Option.bind_some, decide_eq_true_eq, eq_ii, eq_bb, eq_ss, add_ii, sub_ii, mul_ii, fdiv_ii, mod_ii, pow_10, Nat.reduceLeDiff, Nat.zero_le, Int.reduceLE, Int.reduceLT, Nat.reducePow, Int.reducePow, Int.reduceNeg, Int.reduceToNat, Int.reduceSub, Int.reduceMul, Int.reduceAdd, or_true, true_or, Nat.reduceLT, and_self, Int.reduceEq, Nat.reduceEqDiff, exists_and_left, add_ss, mul_si, add_tt, add_ll, lstOf_l, lt_ii, lt_ss, le_ii, le_ss, gt_ii, ge_ii, is_bb, is_non, isNon_n, isNon_i, isNon_s, isNon_b, isNon_t, isNon_l, isNon_r, isTup_t, isTup_l, isTup_r, isTup_c, seqOf_t, seqOf_l, seqOf_c, tyOf_i, tyOf_b, tyOf_s, tyOf_t, tyOf_l, tyOf_n, len_s, len_t, len_l, len_c, idx_s, idx_t, idx_l, idx_c, List.set_set, e2, ej]
    refine ⟨⟨by omega, by omega⟩, ?_⟩
    have lr : (rngL 0 r2.toNat).length ≤ 2 := by
      unfold rngL
      rw [List.length_map, List.length_range]
      omega
    have lr2 : ((rngL 0 r2.toNat).length : Int) * oddC j ≤ 2 * oddC j := Int.mul_le_mul_of_nonneg_right (by omega) (by omega)
    refine compL_box (c := oddC j) (OddD j) (by omega) (fun _ => trivial) hz (fun x m C us hu hC hC2 k hk => ?_) fun acc us hl hp hu => ?_
    · exact ⟨n, C, rfl, ⟨us, hs _, hu⟩, by omega, fun d vs hd hv => by rw [List.set_set]; exact hk d vs hd hv⟩
    · have hu := hu.mono (C := B + 2 + 2 * oddC j) (by omega)
      refine sone ?_
      simp only [wpE, wpEs, wpCs, wpIt, wpS, bindT, bindTs, cmpF, bfW, methTy, methW, mkL, Ts.len, List.getElem?_cons_zero, List.getElem?_cons_succ, List.set_cons_zero, List.set_cons_succ, Option.some.injEq, D.int.injEq, D.bl.injEq, D.str.injEq, D.tup.injEq, D.lst.injEq, D.ref.injEq, exists_eq_left, exists_eq_left', true_and, and_true, if_true, if_false, Bool.false_eq_true, Bool.true_eq_false, reduceCtorEq, List.length_cons, List.length_nil, Option.map_some, List.any_cons, List.any_nil, Bool.or_false, isTy, decide_true, decide_false, Bool.and_true, Bool.and_false, Bool.or_true, Bool.true_or, Bool.false_or, Bool.false_and, Bool.true_and, Bool.not_true, Bool.not_false, startD, List.map_cons, List.map_nil, List.cons_append, List.nil_append, List.replicate_zero, List.replicate_succ, Nat.reduceSub, Nat.reduceAdd, Option.isSome_some, wipeD, false_and, and_false, exists_false, false_or, or_false, gt_iff_lt, ge_iff_le, at0, at1, at2, at3, at4, at5, atm1, ix0, ix1, ix2, ix3, ix4, Option.bind_some, decide_eq_true_eq, eq_ii, eq_bb, eq_ss, add_ii, sub_ii, mul_ii, fdiv_ii, mod_ii, pow_10, Nat.reduceLeDiff, Nat.zero_le, Int.reduceLE, Int.reduceLT, Nat.reducePow, Int.reducePow, Int.reduceNeg, Int.reduceToNat, Int.reduceSub, Int.reduceMul, Int.reduceAdd, or_true, true_or, Nat.reduceLT, and_self, Int.reduceEq, Nat.reduceEqDiff, exists_and_left, add_ss, mul_si, add_tt, add_ll, lstOf_l, lt_ii, lt_ss, le_ii, le_ss, gt_ii, ge_ii, is_bb, is_non, isNon_n, isNon_i, isNon_s, isNon_b, isNon_t, isNon_l, isNon_r, isTup_t, isTup_l, isTup_r, isTup_c, seqOf_t, seqOf_l, seqOf_c, tyOf_i, tyOf_b, tyOf_s, tyOf_t, tyOf_l, tyOf_n, len_s, len_t, len_l, len_c, idx_s, idx_t, idx_l, idx_c, e1]
      refine ⟨n, 2, _, us, rfl, hs _, hu, by omega, by decide, by decide, fun r3 vs g0 g1 hv => ?_⟩
      have ok := odd_step (j := j) (by omega) hp
      obtain ⟨x, ex, hx⟩ := at_mem (P := OddD (j + 1)) (xs := [.lst acc, .tup acc]) (i := r3) (fun x m => by
        rcases List.mem_cons.mp m with rfl | m
        · exact ok.1
        · rw [List.mem_singleton.mp m]; exact ok.2) g0 (by simpa using g1)
      simp only [wpE, wpEs, wpCs, wpIt, wpS, bindT, bindTs, cmpF, bfW, methTy, methW, mkL, Ts.len, List.getElem?_cons_zero, List.getElem?_cons_succ, List.set_cons_zero, List.set_cons_succ, Option.some.injEq, D.int.injEq, D.bl.injEq, D.str.injEq, D.tup.injEq, D.lst.injEq, D.ref.injEq, exists_eq_left, exists_eq_left', true_and, and_true, if_true, if_false, Bool.false_eq_true, Bool.true_eq_false, reduceCtorEq, List.length_cons, List.length_nil, Option.map_some, List.any_cons, List.any_nil, Bool.or_false, isTy, decide_true, decide_false, Bool.and_true, Bool.and_false, Bool.or_true, Bool.true_or, Bool.false_or, Bool.false_and, Bool.true_and, Bool.not_true, Bool.not_false, startD, List.map_cons, List.map_nil, List.cons_append, List.nil_append, List.replicate_zero, List.replicate_succ, Nat.reduceSub, Nat.reduceAdd, Option.isSome_some, wipeD, false_and, and_false, exists_false, false_or, or_false, gt_iff_lt, ge_iff_le, at0, at1, at2, at3, at4, at5, atm1, ix0, ix1, ix2, ix3, ix4, Option.bind_some, decide_eq_true_eq, eq_ii, eq_bb, eq_ss, add_ii, sub_ii, mul_ii, fdiv_ii, mod_ii, pow_10, Nat.reduceLeDiff, Nat.zero_le, Int.reduceLE, Int.reduceLT, Nat.reducePow, Int.reducePow, Int.reduceNeg, Int.reduceToNat, Int.reduceSub, Int.reduceMul, Int.reduceAdd, or_true, true_or, Nat.reduceLT, and_self, Int.reduceEq, Nat.reduceEqDiff, exists_and_left, add_ss, mul_si, add_tt, add_ll, lstOf_l, lt_ii, lt_ss, le_ii, le_ss, gt_ii, ge_ii, is_bb, is_non, isNon_n, isNon_i, isNon_s, isNon_b, isNon_t, isNon_l, isNon_r, isTup_t, isTup_l, isTup_r, isTup_c, seqOf_t, seqOf_l, seqOf_c, tyOf_i, tyOf_b, tyOf_s, tyOf_t, tyOf_l, tyOf_n, len_s, len_t, len_l, len_c, idx_s, idx_t, idx_l, idx_c]
      rw [ex, List.set_set]
      exact ⟨x, rfl, .inl (q _ _ hx (hv.mono (by omega)))⟩
end Pf

namespace Pf
open PySem PySem.Spec PyProof.Rows L2
def f_law_ahead : Fn := ⟨2, 4, (.cons (.asg (.name 2) (.comp false [3] (.name 3) (.seq (.tup (.cons (.var 0) (.cons (.var 1) .nil)))) .nil (.meth .index (.lst false (.cons (.cmp .is (.var 3) .non) (.cons (.isi (.var 3) [.int]) (.cons (.bl true) .nil)))) (.cons (.bl true) .nil)))) (.cons (.ite (.cmp .ne (.idx (.var 2) (.int 0)) (.idx (.var 2) (.int 1))) (.cons (.ret (.cmp .lt (.idx (.var 2) (.int 0)) (.idx (.var 2) (.int 1)))) .nil) .nil) (.cons (.ret (.and (.cmp .gt (.idx (.var 2) (.int 0)) (.int 0)) (.cmp .lt (.var 0) (.var 1)))) .nil)))⟩
theorem i_law_ahead {Φ : Fs} : Impl Φ f_law_ahead spAhead := by
  rintro ds h Q ⟨a, b, rfl, ha, hb, q⟩
  refine ⟨rfl, sone ?_⟩
  simp only [wpE, wpEs, wpCs, wpIt, wpS, bindT, bindTs, cmpF, bfW, methTy, methW, mkL, Ts.len, List.getElem?_cons_zero, List.getElem?_cons_succ, List.set_cons_zero, List.set_cons_succ, Option.some.injEq, D.int.injEq, D.bl.injEq, D.str.injEq, D.tup.injEq, D.lst.injEq, D.ref.injEq, exists_eq_left, exists_eq_left', true_and, and_true, if_true, if_false, Bool.false_eq_true, Bool.true_eq_false, reduceCtorEq, List.length_cons, List.length_nil, Option.map_some, List.any_cons, List.any_nil, Bool.or_false, isTy, decide_true, decide_false, Bool.and_true, Bool.and_false, Bool.or_true, Bool.true_or, Bool.false_or, Bool.false_and, Bool.true_and, Bool.not_true, Bool.not_false, startD, List.map_cons, List.map_nil, List.cons_append, List.nil_append, List.replicate_zero, List.replicate_succ, Nat.reduceSub, Nat.reduceAdd, Option.isSome_some, wipeD, false_and, and_false, exists_false, false_or, or_false, gt_iff_lt, ge_iff_le, at0, at1, at2, at3, at4, at5, atm1, ix0, ix1, ix2, ix3, ix4, Option.bind_some, decide_eq_true_eq, eq_ii, eq_bb, eq_ss, add_ii, sub_ii, mul_ii, fdiv_ii, mod_ii, pow_10, Nat.reduceLeDiff, Nat.zero_le, Int.reduceLE, Int.reduceLT, Nat.reducePow, Int.reducePow, Int.reduceNeg, Int.reduceToNat, Int.reduceSub, Int.reduceMul, Int.reduceAdd, or_true, true_or, Nat.reduceLT, and_self, Int.reduceEq, Nat.reduceEqDiff, exists_and_left, add_ss, mul_si, add_tt, add_ll, lstOf_l, lt_ii, lt_ss, le_ii, le_ss, gt_ii, ge_ii, is_bb, is_non, isNon_n, isNon_i, isNon_s, isNon_b, isNon_t, isNon_l, isNon_r, isTup_t, isTup_l, isTup_r, isTup_c, seqOf_t, seqOf_l, seqOf_c, tyOf_i, tyOf_b, tyOf_s, tyOf_t, tyOf_l, tyOf_n, len_s, len_t, len_l, len_c, idx_s, idx_t, idx_l, idx_c, f_law_ahead]
  refine compL_map (fun d => .int (kindV d)) trivial (fun x m k hk => ?_) ?_
  · have vx : Val x := by
      rcases List.mem_cons.mp m with rfl | m
      · exact ha
      · rw [List.mem_singleton.mp m]; exact hb
    rcases vx.cases with rfl | ⟨i, rfl⟩ | ⟨s, rfl, _, _⟩
    · simp only [wpE, wpEs, wpCs, wpIt, wpS, bindT, bindTs, cmpF, bfW, methTy, methW, mkL, Ts.len, List.getElem?_cons_zero, List.getElem?_cons_succ, List.set_cons_zero, List.set_cons_succ, Option.some.injEq, D.int.injEq, D.bl.injEq, D.str.injEq, D.tup.injEq, D.lst.injEq, D.ref.injEq, exists_eq_left, exists_eq_left', true_and, and_true, if_true, if_false, Bool.false_eq_true, Bool.true_eq_false, reduceCtorEq, List.length_cons, List.length_nil, Option.map_some, List.any_cons, List.any_nil, Bool.or_false, isTy, decide_true, decide_false, Bool.and_true, Bool.and_false, Bool.or_true, Bool.true_or, Bool.false_or, Bool.false_and, Bool.true_and, Bool.not_true, Bool.not_false, startD, List.map_cons, List.map_nil, List.cons_append, List.nil_append, List.replicate_zero, List.replicate_succ, Nat.reduceSub, Nat.reduceAdd, Option.isSome_some, wipeD, false_and, and_false, exists_false, false_or, or_false, gt_iff_lt, ge_iff_le, at0, at1, at2, at3, at4, at5, atm1, ix0, ix1, ix2, ix3, ix4, Option.bind_some, decide_eq_true_eq, eq_ii, eq_bb, eq_ss, add_ii, sub_ii, mul_ii, fdiv_ii, mod_ii, pow_10, Nat.reduceLeDiff, Nat.zero_le, Int.reduceLE, Int.reduceLT, Nat.reducePow, Int.reducePow, Int.reduceNeg, Int.reduceToNat, Int.reduceSub, Int.reduceMul, Int.reduceAdd, or_true, true_or, Nat.reduceLT, and_self, Int.reduceEq, Nat.reduceEqDiff, exists_and_left, add_ss, mul_si, add_tt, add_ll, lstOf_l, lt_ii, lt_ss, le_ii, le_ss, gt_ii, ge_ii, is_bb, is_non, isNon_n, isNon_i, isNon_s, isNon_b, isNon_t, isNon_l, isNon_r, isTup_t, isTup_l, isTup_r, isTup_c, seqOf_t, seqOf_l, seqOf_c, tyOf_i, tyOf_b, tyOf_s, tyOf_t, tyOf_l, tyOf_n, len_s, len_t, len_l, len_c, idx_s, idx_t, idx_l, idx_c]
      exact ⟨by decide +kernel, 0, by decide +kernel, hk⟩
    · simp only [wpE, wpEs, wpCs, wpIt, wpS, bindT, bindTs, cmpF, bfW, methTy, methW, mkL, Ts.len, List.getElem?_cons_zero, List.getElem?_cons_succ, List.set_cons_zero, List.set_cons_succ, Option.some.injEq, D.int.injEq, D.bl.injEq, D.str.injEq, D.tup.injEq, D.lst.injEq, D.ref.injEq, exists_eq_left, exists_eq_left', true_and, and_true, if_true, if_false, Bool.false_eq_true, Bool.true_eq_false, reduceCtorEq, List.length_cons, List.length_nil, Option.map_some, List.any_cons, List.any_nil, Bool.or_false, isTy, decide_true, decide_false, Bool.and_true, Bool.and_false, Bool.or_true, Bool.true_or, Bool.false_or, Bool.false_and, Bool.true_and, Bool.not_true, Bool.not_false, startD, List.map_cons, List.map_nil, List.cons_append, List.nil_append, List.replicate_zero, List.replicate_succ, Nat.reduceSub, Nat.reduceAdd, Option.isSome_some, wipeD, false_and, and_false, exists_false, false_or, or_false, gt_iff_lt, ge_iff_le, at0, at1, at2, at3, at4, at5, atm1, ix0, ix1, ix2, ix3, ix4, Option.bind_some, decide_eq_true_eq, eq_ii, eq_bb, eq_ss, add_ii, sub_ii, mul_ii, fdiv_ii, mod_ii, pow_10, Nat.reduceLeDiff, Nat.zero_le, Int.reduceLE, Int.reduceLT, Nat.reducePow, Int.reducePow, Int.reduceNeg, Int.reduceToNat, Int.reduceSub, Int.reduceMul, Int.reduceAdd, or_true, true_or, Nat.reduceLT, and_self, Int.reduceEq, Nat.reduceEqDiff, exists_and_left, add_ss, mul_si, add_tt, add_ll, lstOf_l, lt_ii, lt_ss, le_ii, le_ss, gt_ii, ge_ii, is_bb, is_non, isNon_n, isNon_i, isNon_s, isNon_b, isNon_t, isNon_l, isNon_r, isTup_t, isTup_l, isTup_r, isTup_c, seqOf_t, seqOf_l, seqOf_c, tyOf_i, tyOf_b, tyOf_s, tyOf_t, tyOf_l, tyOf_n, len_s, len_t, len_l, len_c, idx_s, idx_t, idx_l, idx_c]
      exact ⟨by decide +kernel, 1, by decide +kernel, hk⟩
    · simp only [wpE, wpEs, wpCs, wpIt, wpS, bindT, bindTs, cmpF, bfW, methTy, methW, mkL, Ts.len, List.getElem?_cons_zero, List.getElem?_cons_succ, List.set_cons_zero, List.set_cons_succ, Option.some.injEq, D.int.injEq, D.bl.injEq, D.str.injEq, D.tup.injEq, D.lst.injEq, D.ref.injEq, exists_eq_left, exists_eq_left', true_and, and_true, if_true, if_false, Bool.false_eq_true, Bool.true_eq_false, reduceCtorEq, List.length_cons, List.length_nil, Option.map_some, List.any_cons, List.any_nil, Bool.or_false, isTy, decide_true, decide_false, Bool.and_true, Bool.and_false, Bool.or_true, Bool.true_or, Bool.false_or, Bool.false_and, Bool.true_and, Bool.not_true, Bool.not_false, startD, List.map_cons, List.map_nil, List.cons_append, List.nil_append, List.replicate_zero, List.replicate_succ, Nat.reduceSub, Nat.reduceAdd, Option.isSome_some, wipeD, false_and, and_false, exists_false, false_or, or_false, gt_iff_lt, ge_iff_le, at0, at1, at2, at3, at4, at5, atm1, ix0, ix1, ix2, ix3, ix4, Option.bind_some, decide_eq_true_eq, eq_ii, eq_bb, eq_ss, add_ii, sub_ii, mul_ii, fdiv_ii, mod_ii, pow_10, Nat.reduceLeDiff, Nat.zero_le, Int.reduceLE, Int.reduceLT, Nat.reducePow, Int.reducePow, Int.reduceNeg, Int.reduceToNat, Int.reduceSub, Int.reduceMul, Int.reduceAdd, or_true, true_or, Nat.reduceLT, and_self, Int.reduceEq, Nat.reduceEqDiff, exists_and_left, add_ss, mul_si, add_tt, add_ll, lstOf_l, lt_ii, lt_ss, le_ii, le_ss, gt_ii, ge_ii, is_bb, is_non, isNon_n, isNon_i, isNon_s, isNon_b, isNon_t, isNon_l, isNon_r, isTup_t, isTup_l, isTup_r, isTup_c, seqOf_t, seqOf_l, seqOf_c, tyOf_i, tyOf_b, tyOf_s, tyOf_t, tyOf_l, tyOf_n, len_s, len_t, len_l, len_c, idx_s, idx_t, idx_l, idx_c]
      exact ⟨by decide +kernel, 2, by decide +kernel, hk⟩
  · refine sone ?_
    simp only [wpE, wpEs, wpCs, wpIt, wpS, bindT, bindTs, cmpF, bfW, methTy, methW, mkL, Ts.len, List.getElem?_cons_zero, List.getElem?_cons_succ, List.set_cons_zero, List.set_cons_succ, Option.some.injEq, D.int.injEq, D.bl.injEq, D.str.injEq, D.tup.injEq, D.lst.injEq, D.ref.injEq, exists_eq_left, exists_eq_left', true_and, and_true, if_true, if_false, Bool.false_eq_true, Bool.true_eq_false, reduceCtorEq, List.length_cons, List.length_nil, Option.map_some, List.any_cons, List.any_nil, Bool.or_false, isTy, decide_true, decide_false, Bool.and_true, Bool.and_false, Bool.or_true, Bool.true_or, Bool.false_or, Bool.false_and, Bool.true_and, Bool.not_true, Bool.not_false, startD, List.map_cons, List.map_nil, List.cons_append, List.nil_append, List.replicate_zero, List.replicate_succ, Nat.reduceSub, Nat.reduceAdd, Option.isSome_some, wipeD, false_and, and_false, exists_false, false_or, or_false, gt_iff_lt, ge_iff_le, at0, at1, at2, at3, at4, at5, atm1, ix0, ix1, ix2, ix3, ix4, Option.bind_some, decide_eq_true_eq, eq_ii, eq_bb, eq_ss, add_ii, sub_ii, mul_ii, fdiv_ii, mod_ii, pow_10, Nat.reduceLeDiff, Nat.zero_le, Int.reduceLE, Int.reduceLT, Nat.reducePow, Int.reducePow, Int.reduceNeg, Int.reduceToNat, Int.reduceSub, Int.reduceMul, Int.reduceAdd, or_true, true_or, Nat.reduceLT, and_self, Int.reduceEq, Nat.reduceEqDiff, exists_and_left, add_ss, mul_si, add_tt, add_ll, lstOf_l, lt_ii, lt_ss, le_ii, le_ss, gt_ii, ge_ii, is_bb, is_non, isNon_n, isNon_i, isNon_s, isNon_b, isNon_t, isNon_l, isNon_r, isTup_t, isTup_l, isTup_r, isTup_c, seqOf_t, seqOf_l, seqOf_c, tyOf_i, tyOf_b, tyOf_s, tyOf_t, tyOf_l, tyOf_n, len_s, len_t, len_l, len_c, idx_s, idx_t, idx_l, idx_c]
    rcases ha.cases with rfl | ⟨i, rfl⟩ | ⟨s, rfl, _, _⟩ <;> rcases hb.cases with rfl | ⟨j, rfl⟩ | ⟨t, rfl, _, _⟩
    all_goals simp only [wpE, wpEs, wpCs, wpIt, wpS, bindT, bindTs, cmpF, bfW, methTy, methW, mkL, Ts.len, List.getElem?_cons_zero, List.getElem?_cons_succ, List.set_cons_zero, List.set_cons_succ, Option.some.injEq, D.int.injEq, D.bl.injEq, D.str.injEq, D.tup.injEq, D.lst.injEq, D.ref.injEq, exists_eq_left, exists_eq_left', true_and, and_true, if_true, if_false, Bool.false_eq_true, Bool.true_eq_false, reduceCtorEq, List.length_cons, List.length_nil, Option.map_some, List.any_cons, List.any_nil, Bool.or_false, isTy, decide_true, decide_false, Bool.and_true, Bool.and_false, Bool.or_true, Bool.true_or, Bool.false_or, Bool.false_and, Bool.true_and, Bool.not_true, Bool.not_false, startD, List.map_cons, List.map_nil, List.cons_append, List.nil_append, List.replicate_zero, List.replicate_succ, Nat.reduceSub, Nat.reduceAdd, Option.isSome_some, wipeD, false_and, and_false, exists_false, false_or, or_false, gt_iff_lt, ge_iff_le, at0, at1, at2, at3, at4, at5, atm1, ix0, ix1, ix2, ix3, ix4, Option.bind_some, decide_eq_true_eq, eq_ii, eq_bb, eq_ss, add_ii, sub_ii, mul_ii, fdiv_ii, mod_ii, pow_10, Nat.reduceLeDiff, Nat.zero_le, Int.reduceLE, Int.reduceLT, Nat.reducePow, Int.reducePow, Int.reduceNeg, Int.reduceToNat, Int.reduceSub, Int.reduceMul, Int.reduceAdd, or_true, true_or, Nat.reduceLT, and_self, Int.reduceEq, Nat.reduceEqDiff, exists_and_left, add_ss, mul_si, add_tt, add_ll, lstOf_l, lt_ii, lt_ss, le_ii, le_ss, gt_ii, ge_ii, is_bb, is_non, isNon_n, isNon_i, isNon_s, isNon_b, isNon_t, isNon_l, isNon_r, isTup_t, isTup_l, isTup_r, isTup_c, seqOf_t, seqOf_l, seqOf_c, tyOf_i, tyOf_b, tyOf_s, tyOf_t, tyOf_l, tyOf_n, len_s, len_t, len_l, len_c, idx_s, idx_t, idx_l, idx_c, kindV]
    all_goals first
      | (refine sone ?_
         simp only [wpE, wpEs, wpCs, wpIt, wpS, bindT, bindTs, cmpF, bfW, methTy, methW, mkL, Ts.len, List.getElem?_cons_zero, List.getElem?_cons_succ, List.set_cons_zero, List.set_cons_succ, Option.some.injEq, D.int.injEq, D.bl.injEq, D.str.injEq, D.tup.injEq, D.lst.injEq, D.ref.injEq, exists_eq_left, exists_eq_left', true_and, and_true, if_true, if_false, Bool.false_eq_true, Bool.true_eq_false, reduceCtorEq, List.length_cons, List.length_nil, Option.map_some, List.any_cons, List.any_nil, Bool.or_false, isTy, decide_true, decide_false, Bool.and_true, Bool.and_false, Bool.or_true, Bool.true_or, Bool.false_or, Bool.false_and, Bool.true_and, Bool.not_true, Bool.not_false, startD, List.map_cons, List.map_nil, List.cons_append, List.nil_append, List.replicate_zero, List.replicate_succ, Nat.reduceSub, Nat.reduceAdd, Option.isSome_some, wipeD, false_and, and_false, exists_false, false_or, or_false, gt_iff_lt, ge_iff_le, at0, at1, at2, at3, at4, at5, atm1, ix0, ix1, ix2, ix3, ix4, Option.bind_some, decide_eq_true_eq, eq_ii, eq_bb, eq_ss, add_ii, sub_ii, mul_ii, fdiv_ii, mod_ii, pow_10, Nat.reduceLeDiff, Nat.zero_le, Int.reduceLE, Int.reduceLT, Nat.reducePow, Int.reducePow, Int.reduceNeg, Int.reduceToNat, Int.reduceSub, Int.reduceMul, Int.reduceAdd, or_true, true_or, Nat.reduceLT, and_self, Int.reduceEq, Nat.reduceEqDiff, exists_and_left, add_ss, mul_si, add_tt, add_ll, lstOf_l, lt_ii, lt_ss, le_ii, le_ss, gt_ii, ge_ii, is_bb, is_non, isNon_n, isNon_i, isNon_s, isNon_b, isNon_t, isNon_l, isNon_r, isTup_t, isTup_l, isTup_r, isTup_c, seqOf_t, seqOf_l, seqOf_c, tyOf_i, tyOf_b, tyOf_s, tyOf_t, tyOf_l, tyOf_n, len_s, len_t, len_l, len_c, idx_s, idx_t, idx_l, idx_c]
         exact .inl q)
      | (refine snil (sone ?_)
         simp only [wpE, wpEs, wpCs, wpIt, wpS, bindT, bindTs, cmpF, bfW, methTy, methW, mkL, Ts.len, List.getElem?_cons_zero, List.getElem?_cons_succ, List.set_cons_zero, List.set_cons_succ, Option.some.injEq, D.int.injEq, D.bl.injEq, D.str.injEq, D.tup.injEq, D.lst.injEq, D.ref.injEq, exists_eq_left, exists_eq_left', true_and, and_true, if_true, if_false, Bool.false_eq_true, Bool.true_eq_false, reduceCtorEq, List.length_cons, List.length_nil, Option.map_some, List.any_cons, List.any_nil, Bool.or_false, isTy, decide_true, decide_false, Bool.and_true, Bool.and_false, Bool.or_true, Bool.true_or, Bool.false_or, Bool.false_and, Bool.true_and, Bool.not_true, Bool.not_false, startD, List.map_cons, List.map_nil, List.cons_append, List.nil_append, List.replicate_zero, List.replicate_succ, Nat.reduceSub, Nat.reduceAdd, Option.isSome_some, wipeD, false_and, and_false, exists_false, false_or, or_false, gt_iff_lt, ge_iff_le, at0, at1, at2, at3, at4, at5, atm1, ix0, ix1, ix2, ix3, ix4, Option.bind_some, decide_eq_true_eq, eq_ii, eq_bb, eq_ss, add_ii, sub_ii, mul_ii, fdiv_ii, mod_ii, pow_10, Nat.reduceLeDiff, Nat.zero_le, Int.reduceLE, Int.reduceLT, Nat.reducePow, Int.reducePow, Int.reduceNeg, Int.reduceToNat, Int.reduceSub, Int.reduceMul, Int.reduceAdd, or_true, true_or, Nat.reduceLT, and_self, Int.reduceEq, Nat.reduceEqDiff, exists_and_left, add_ss, mul_si, add_tt, add_ll, lstOf_l, lt_ii, lt_ss, le_ii, le_ss, gt_ii, ge_ii, is_bb, is_non, isNon_n, isNon_i, isNon_s, isNon_b, isNon_t, isNon_l, isNon_r, isTup_t, isTup_l, isTup_r, isTup_c, seqOf_t, seqOf_l, seqOf_c, tyOf_i, tyOf_b, tyOf_s, tyOf_t, tyOf_l, tyOf_n, len_s, len_t, len_l, len_c, idx_s, idx_t, idx_l, idx_c]
         exact .inl q)
theorem okT_append {x y : Str} (hx : okT x = true) (hy : okT y = true) : okT (x ++ y) = true := by
  unfold okT at *
  have e : (x ++ y).cps.toList = x.cps.toList ++ y.cps.toList := by
    show (x.cps ++ y.cps).toList = _
    rw [Array.toList_append]
  rw [e, List.all_append, hx, hy]; rfl
theorem okT_join {sep : Str} (hs : okT sep = true) : ∀ {l : List Str}, (∀ x ∈ l, okT x = true) → okT (Str.join sep l) = true
  | [], _ => rfl
  | [x], h => h x (by simp)
  | x :: y :: r, h => okT_append (okT_append (h x (by simp)) hs) (okT_join hs fun z m => h z (by simp [m]))
def signs0 : Str := (" !\"#$&'()*+,-./0123456789:;<=>?@ABCDEFGHIJKLMNOPQRSTUVWXYZ[\\]^_`" : Str) ++ ("abcdefghijklmnopqrstuvwxyz{|}~" : Str)
def f_law_sign : Fn := ⟨1, 2, (.cons (.asg (.name 1) (.str " !\"#$&'()*+,-./0123456789:;<=>?@ABCDEFGHIJKLMNOPQRSTUVWXYZ[\\]^_`")) (.cons (.asg (.name 1) (.bin .add (.var 1) (.str "abcdefghijklmnopqrstuvwxyz{|}~"))) (.cons (.ret (.idx (.var 1) (.call "_law_take" (.cons (.var 0) (.cons (.bf .len false (.cons (.var 1) .nil)) .nil))))) .nil)))⟩
def spSign : Spc := fun ds h Q _ => ∃ (n : Nat) (B : Int), Asked h n B 1 ds ∧ ∀ c ys, okc c = true → BoxOk (B + 1) ys → Q (.str (oneS c)) (h.set n (.lst ys))
theorem i_sign {Φ : Fs} (e1 : Φ.fn "_law_take" = spTake) : Impl Φ f_law_sign spSign := by
  rintro ds h Q ⟨n, B, ⟨rfl, ⟨xs, hn, hb⟩, hB⟩, q⟩
  have hnl : n < h.length := (List.getElem?_eq_some_iff.mp hn).1
  have e2 : signs0.length = 94 := by decide +kernel
  have e3 : signs0.cps.toList.all okc = true := by decide +kernel
  have e4 : signs0.cps.toList.length = 94 := e2
  refine ⟨rfl, sone ?_⟩
  simp only [wpE, wpEs, wpCs, wpIt, wpS, bindT, bindTs, cmpF, bfW, methTy, methW, mkL, Ts.len, List.getElem?_cons_zero, List.getElem?_cons_succ, List.set_cons_zero, List.set_cons_succ, Option.some.injEq, D.int.injEq, D.bl.injEq, D.str.injEq, D.tup.injEq, D.lst.injEq, D.ref.injEq, exists_eq_left, exists_eq_left', true_and, and_true, if_true, if_false, Bool.false_eq_true, Bool.true_eq_false, reduceCtorEq, List.length_cons, List.length_nil, Option.map_some, List.any_cons, List.any_nil, Bool.or_false, isTy, decide_true, decide_false, Bool.and_true, Bool.and_false, Bool.or_true, Bool.true_or, Bool.false_or, Bool.false_and, Bool.true_and, Bool.not_true, Bool.not_false, startD, List.map_cons, List.map_nil, List.cons_append, List.nil_append, List.replicate_zero, List.replicate_succ, Nat.reduceSub, Nat.reduceAdd, Option.isSome_some, wipeD, false_and, and_false, exists_false, false_or, or_false, gt_iff_lt, ge_iff_le, at0, at1, at2, at3, at4, at5, atm1, ix0, ix1, ix2, ix3, ix4, Option.bind_some, decide_eq_true_eq, eq_ii, eq_bb, eq_ss, add_ii, sub_ii, mul_ii, fdiv_ii, mod_ii, pow_10, Nat.reduceLeDiff, Nat.zero_le, Int.reduceLE, Int.reduceLT, Nat.reducePow, Int.reducePow, Int.reduceNeg, Int.reduceToNat, Int.reduceSub, Int.reduceMul, Int.reduceAdd, or_true, true_or, Nat.reduceLT, and_self, Int.reduceEq, Nat.reduceEqDiff, exists_and_left, add_ss, mul_si, add_tt, add_ll, lstOf_l, lt_ii, lt_ss, le_ii, le_ss, gt_ii, ge_ii, is_bb, is_non, isNon_n, isNon_i, isNon_s, isNon_b, isNon_t, isNon_l, isNon_r, isTup_t, isTup_l, isTup_r, isTup_c, seqOf_t, seqOf_l, seqOf_c, tyOf_i, tyOf_b, tyOf_s, tyOf_t, tyOf_l, tyOf_n, len_s, len_t, len_l, len_c, idx_s, idx_t, idx_l, idx_c, f_law_sign]
  refine sone ?_
  simp only [wpE, wpEs, wpCs, wpIt, wpS, bindT, bindTs, cmpF, bfW, methTy, methW, mkL, Ts.len, List.getElem?_cons_zero, List.getElem?_cons_succ, List.set_cons_zero, List.set_cons_succ, Option.some.injEq, D.int.injEq, D.bl.injEq, D.str.injEq, D.tup.injEq, D.lst.injEq, D.ref.injEq, exists_eq_left, exists_eq_left', true_and, and_true, if_true, if_false, Bool.false_eq_true, Bool.true_eq_false, reduceCtorEq, List.length_cons, List.length_nil, Option.map_some, List.any_cons, List.any_nil, Bool.or_false, isTy, decide_true, decide_false, Bool.and_true, Bool.and_false, Bool.or_true, Bool.true_or, Bool.false_or, Bool.false_and, Bool.true_and, Bool.not_true, Bool.not_false, startD, List.map_cons, List.map_nil, List.cons_append, List.nil_append, List.replicate_zero, List.replicate_succ, Nat.reduceSub, Nat.reduceAdd, Option.isSome_some, wipeD, false_and, and_false, exists_false, false_or, or_false, gt_iff_lt, ge_iff_le, at0, at1, at2, at3, at4, at5, atm1, ix0, ix1, ix2, ix3, ix4, Option.bind_some, decide_eq_true_eq, eq_ii, eq_bb, eq_ss, add_ii, sub_ii, mul_ii, fdiv_ii, mod_ii, pow_10, Nat.reduceLeDiff, Nat.zero_le, Int.reduceLE, Int.reduceLT, Nat.reducePow, Int.reducePow, Int.reduceNeg, Int.reduceToNat, Int.reduceSub, Int.reduceMul, Int.reduceAdd, or_true, true_or, Nat.reduceLT, and_self, Int.reduceEq, Nat.reduceEqDiff, exists_and_left, add_ss, mul_si, add_tt, add_ll, lstOf_l, lt_ii, lt_ss, le_ii, le_ss, gt_ii, ge_ii, is_bb, is_non, isNon_n, isNon_i, isNon_s, isNon_b, isNon_t, isNon_l, isNon_r, isTup_t, isTup_l, isTup_r, isTup_c, seqOf_t, seqOf_l, seqOf_c, tyOf_i, tyOf_b, tyOf_s, tyOf_t, tyOf_l, tyOf_n, len_s, len_t, len_l, len_c, idx_s, idx_t, idx_l, idx_c]
  refine ⟨_, if_pos (by decide +kernel), sone ?_⟩
  show wpS Φ NX _ _ [_, some (.str signs0)] h
  simp only [wpE, wpEs, wpCs, wpIt, wpS, bindT, bindTs, cmpF, bfW, methTy, methW, mkL, Ts.len, List.getElem?_cons_zero, List.getElem?_cons_succ, List.set_cons_zero, List.set_cons_succ, Option.some.injEq, D.int.injEq, D.bl.injEq, D.str.injEq, D.tup.injEq, D.lst.injEq, D.ref.injEq, exists_eq_left, exists_eq_left', true_and, and_true, if_true, if_false, Bool.false_eq_true, Bool.true_eq_false, reduceCtorEq, List.length_cons, List.length_nil, Option.map_some, List.any_cons, List.any_nil, Bool.or_false, isTy, decide_true, decide_false, Bool.and_true, Bool.and_false, Bool.or_true, Bool.true_or, Bool.false_or, Bool.false_and, Bool.true_and, Bool.not_true, Bool.not_false, startD, List.map_cons, List.map_nil, List.cons_append, List.nil_append, List.replicate_zero, List.replicate_succ, Nat.reduceSub, Nat.reduceAdd, Option.isSome_some, wipeD, false_and, and_false, exists_false, false_or, or_false, gt_iff_lt, ge_iff_le, at0, at1, at2, at3, at4, at5, atm1, ix0, ix1, ix2, ix3, ix4, Option.bind_some, decide_eq_true_eq, eq_ii, eq_bb, eq_ss, add_ii, sub_ii, mul_ii, fdiv_ii, mod_ii, pow_10, Nat.reduceLeDiff, Nat.zero_le, Int.reduceLE, Int.reduceLT, Nat.reducePow, Int.reducePow, Int.reduceNeg, Int.reduceToNat, Int.reduceSub, Int.reduceMul, Int.reduceAdd, or_true, true_or, Nat.reduceLT, and_self, Int.reduceEq, Nat.reduceEqDiff, exists_and_left, add_ss, mul_si, add_tt, add_ll, lstOf_l, lt_ii, lt_ss, le_ii, le_ss, gt_ii, ge_ii, is_bb, is_non, isNon_n, isNon_i, isNon_s, isNon_b, isNon_t, isNon_l, isNon_r, isTup_t, isTup_l, isTup_r, isTup_c, seqOf_t, seqOf_l, seqOf_c, tyOf_i, tyOf_b, tyOf_s, tyOf_t, tyOf_l, tyOf_n, len_s, len_t, len_l, len_c, idx_s, idx_t, idx_l, idx_c, e1, e2]
  refine ⟨n, 94, B, xs, rfl, hn, hb, by omega, by decide, by decide, fun r ys h0 h1 hy => ?_⟩
  simp only [wpE, wpEs, wpCs, wpIt, wpS, bindT, bindTs, cmpF, bfW, methTy, methW, mkL, Ts.len, List.getElem?_cons_zero, List.getElem?_cons_succ, List.set_cons_zero, List.set_cons_succ, Option.some.injEq, D.int.injEq, D.bl.injEq, D.str.injEq, D.tup.injEq, D.lst.injEq, D.ref.injEq, exists_eq_left, exists_eq_left', true_and, and_true, if_true, if_false, Bool.false_eq_true, Bool.true_eq_false, reduceCtorEq, List.length_cons, List.length_nil, Option.map_some, List.any_cons, List.any_nil, Bool.or_false, isTy, decide_true, decide_false, Bool.and_true, Bool.and_false, Bool.or_true, Bool.true_or, Bool.false_or, Bool.false_and, Bool.true_and, Bool.not_true, Bool.not_false, startD, List.map_cons, List.map_nil, List.cons_append, List.nil_append, List.replicate_zero, List.replicate_succ, Nat.reduceSub, Nat.reduceAdd, Option.isSome_some, wipeD, false_and, and_false, exists_false, false_or, or_false, gt_iff_lt, ge_iff_le, at0, at1, at2, at3, at4, at5, atm1, ix0, ix1, ix2, ix3, ix4, Option.bind_some, decide_eq_true_eq, eq_ii, eq_bb, eq_ss, add_ii, sub_ii, mul_ii, fdiv_ii, mod_ii, pow_10, Nat.reduceLeDiff, Nat.zero_le, Int.reduceLE, Int.reduceLT, Nat.reducePow, Int.reducePow, Int.reduceNeg, Int.reduceToNat, Int.reduceSub, Int.reduceMul, Int.reduceAdd, or_true, true_or, Nat.reduceLT, and_self, Int.reduceEq, Nat.reduceEqDiff, exists_and_left, add_ss, mul_si, add_tt, add_ll, lstOf_l, lt_ii, lt_ss, le_ii, le_ss, gt_ii, ge_ii, is_bb, is_non, isNon_n, isNon_i, isNon_s, isNon_b, isNon_t, isNon_l, isNon_r, isTup_t, isTup_l, isTup_r, isTup_c, seqOf_t, seqOf_l, seqOf_c, tyOf_i, tyOf_b, tyOf_s, tyOf_t, tyOf_l, tyOf_n, len_s, len_t, len_l, len_c, idx_s, idx_t, idx_l, idx_c, e2]
  obtain ⟨c, ec, hc⟩ := at_mem (P := fun c => okc c = true) (xs := signs0.cps.toList) (i := r) (fun x m => List.all_eq_true.mp e3 x m) h0 (by rw [e4]; exact h1)
  rw [ec]
  exact ⟨_, rfl, .inl (q c ys hc hy)⟩
theorem strsOf_ones : ∀ {ys : List D}, (∀ y ∈ ys, ∃ c, okc c = true ∧ y = .str (oneS c)) → ∃ ss, strsOf ys = some ss ∧ ss.length = ys.length ∧ ∀ s ∈ ss, okT s = true ∧ s.length = 1
  | [], _ => ⟨[], rfl, rfl, fun s m => absurd m (by simp)⟩
  | y :: ys, h => by
    obtain ⟨c, hc, rfl⟩ := h y (by simp)
    obtain ⟨ss, e, l, hs⟩ := strsOf_ones (ys := ys) fun y m => h y (by simp [m])
    refine ⟨oneS c :: ss, ?_, by simp [l], fun s m => ?_⟩
    · show (strsOf ys).map _ = _
      rw [e]; rfl
    · rcases List.mem_cons.mp m with rfl | m
      · exact ⟨by simp [okT, oneS, hc], rfl⟩
      · exact hs s m
def f_law_any_text : Fn := ⟨1, 2, (.cons (.ret (.meth .join (.str "") (.cons (.comp false [1] (.name 1) (.rng1 (.call "_law_take" (.cons (.var 0) (.cons (.int 13) .nil)))) .nil (.call "_law_sign" (.cons (.var 0) .nil))) .nil))) .nil)⟩
def spAnyText : Spc := fun ds h Q _ => ∃ (n : Nat) (B : Int), Asked h n B 14 ds ∧ ∀ s ys, okT s = true → s.length ≤ 12 → BoxOk (B + 14) ys → Q (.str s) (h.set n (.lst ys))
theorem sum_ones : ∀ {ss : List Str}, (∀ s ∈ ss, s.length = 1) → (ss.map (·.length)).sum = ss.length
  | [], _ => rfl
  | s :: ss, h => by
    rw [List.map_cons, List.sum_cons, sum_ones fun z m => h z (by simp [m]), h s (by simp), List.length_cons, Nat.add_comm]
theorem i_any_text {Φ : Fs} (e1 : Φ.fn "_law_take" = spTake) (e2 : Φ.fn "_law_sign" = spSign) : Impl Φ f_law_any_text spAnyText := by
  rintro ds h Q ⟨n, B, ⟨rfl, ⟨xs, hn, hb⟩, hB⟩, q⟩
  have hnl : n < h.length := (List.getElem?_eq_some_iff.mp hn).1
  have hs : ∀ o, (h.set n o)[n]? = some o := fun o => List.getElem?_set_self hnl
  refine ⟨rfl, sone ?_⟩
  simp only [wpE, wpEs, wpCs, wpIt, wpS, bindT, bindTs, cmpF, bfW, methTy, methW, mkL, Ts.len, List.getElem?_cons_zero, List.getElem?_cons_succ, List.set_cons_zero, List.set_cons_succ, Option.some.injEq, D.int.injEq, D.bl.injEq, D.str.injEq, D.tup.injEq, D.lst.injEq, D.ref.injEq, exists_eq_left, exists_eq_left', true_and, and_true, if_true, if_false, Bool.false_eq_true, Bool.true_eq_false, reduceCtorEq, List.length_cons, List.length_nil, Option.map_some, List.any_cons, List.any_nil, Bool.or_false, isTy, decide_true, decide_false, Bool.and_true, Bool.and_false, Bool.or_true, Bool.true_or, Bool.false_or, Bool.false_and, Bool.true_and, Bool.not_true, Bool.not_false, startD, List.map_cons, List.map_nil, List.cons_append, List.nil_append, List.replicate_zero, List.replicate_succ, Nat.reduceSub, Nat.reduceAdd, Option.isSome_some, wipeD, false_and, and_false, exists_false, false_or, or_false, gt_iff_lt, ge_iff_le, at0, at1, at2, at3, at4, at5, atm1, ix0, ix1, ix2, ix3, ix4, Option.bind_some, decide_eq_true_eq, eq_ii, eq_bb, eq_ss, add_ii, sub_ii, mul_ii, fdiv_ii, mod_ii, pow_10, Nat.reduceLeDiff, Nat.zero_le, Int.reduceLE, Int.reduceLT, Nat.reducePow, Int.reducePow, Int.reduceNeg, Int.reduceToNat, Int.reduceSub, Int.reduceMul, Int.reduceAdd, or_true, true_or, Nat.reduceLT, and_self, Int.reduceEq, Nat.reduceEqDiff, exists_and_left, add_ss, mul_si, add_tt, add_ll, lstOf_l, lt_ii, lt_ss, le_ii, le_ss, gt_ii, ge_ii, is_bb, is_non, isNon_n, isNon_i, isNon_s, isNon_b, isNon_t, isNon_l, isNon_r, isTup_t, isTup_l, isTup_r, isTup_c, seqOf_t, seqOf_l, seqOf_c, tyOf_i, tyOf_b, tyOf_s, tyOf_t, tyOf_l, tyOf_n, len_s, len_t, len_l, len_c, idx_s, idx_t, idx_l, idx_c, f_law_any_text, e1, e2]
  refine ⟨n, 13, B, xs, rfl, hn, hb, by omega, by decide, by decide, fun r ys h0 h1 hy => ?_⟩
  simp only [wpE, wpEs, wpCs, wpIt, wpS, bindT, bindTs, cmpF, bfW, methTy, methW, mkL, Ts.len, List.getElem?_cons_zero, List.getElem?_cons_succ, List.set_cons_zero, List.set_cons_succ, Option.some.injEq, D.int.injEq, D.bl.injEq, D.str.injEq, D.tup.injEq, D.lst.injEq, D.ref.injEq, exists_eq_left, exists_eq_left', true_and, and_true, if_true, if_false, Bool.false_eq_true, Bool.true_eq_false, reduceCtorEq, List.length_cons, List.length_nil, Option.map_some, List.any_cons, List.any_nil, Bool.or_false, isTy, decide_true, decide_false, Bool.and_true, Bool.and_false, Bool.or_true, Bool.true_or, Bool.false_or, Bool.false_and, Bool.true_and, Bool.not_true, Bool.not_false, startD, List.map_cons, List.map_nil, List.cons_append, List.nil_append, List.replicate_zero, List.replicate_succ, Nat.reduceSub, Nat.reduceAdd, Option.isSome_some, wipeD, false_and, and_false, exists_false, false_or, or_false, gt_iff_lt, ge_iff_le, at0, at1, at2, at3, at4, at5, atm1, ix0, ix1, ix2, ix3, ix4, Option.bind_some, decide_eq_true_eq, eq_ii, eq_bb, eq_ss, add_ii, sub_ii, mul_ii, fdiv_ii, mod_ii, pow_10, Nat.reduceLeDiff, Nat.zero_le, Int.reduceLE, Int.reduceLT, Nat.reducePow, Int.reducePow, Int.reduceNeg, Int.reduceToNat, Int.reduceSub, Int.reduceMul, Int.reduceAdd, or_true, true_or, Nat.reduceLT, and_self, Int.reduceEq, Nat.reduceEqDiff, exists_and_left, add_ss, mul_si, add_tt, add_ll, lstOf_l, lt_ii, lt_ss, le_ii, le_ss, gt_ii, ge_ii, is_bb, is_non, isNon_n, isNon_i, isNon_s, isNon_b, isNon_t, isNon_l, isNon_r, isTup_t, isTup_l, isTup_r, isTup_c, seqOf_t, seqOf_l, seqOf_c, tyOf_i, tyOf_b, tyOf_s, tyOf_t, tyOf_l, tyOf_n, len_s, len_t, len_l, len_c, idx_s, idx_t, idx_l, idx_c]
  refine ⟨⟨by omega, by omega⟩, ?_⟩
  have lr : (rngL 0 r.toNat).length ≤ 12 := by
    unfold rngL
    rw [List.length_map, List.length_range]
    omega
  refine compL_box (c := 1) (fun y => ∃ c, okc c = true ∧ y = .str (oneS c)) (by omega) (fun _ => trivial) hy (fun x m C us hu hC hC2 k hk => ?_) fun acc us hl hp hu => ?_
  · exact ⟨n, C, ⟨rfl, ⟨us, hs _, hu⟩, by omega⟩, fun c vs hd hv => by rw [List.set_set]; exact hk _ vs ⟨c, hd, rfl⟩ hv⟩
  · obtain ⟨ss, e, l, hss⟩ := strsOf_ones hp
    have ls := sum_ones fun s m => (hss s m).2
    have z0 : (Str.ofString "").length = 0 := by decide
    refine ⟨ss, e, ?_, .inl (q _ us ?_ ?_ (hu.mono (by omega)))⟩
    · rw [ls, z0]; omega
    · rw [show Txt.join (Str.ofString "") ss = Str.join (Str.ofString "") ss from StrLaws.glued_eq_join _ _]
      exact okT_join rfl fun x m => (hss x m).1
    · rw [show Txt.join (Str.ofString "") ss = Str.join (Str.ofString "") ss from StrLaws.glued_eq_join _ _]
      have := StrLaws.join_length_le (Str.ofString "") ss
      rw [ls, z0] at this
      omega
end Pf

namespace Pf
open PySem PySem.Spec PyProof.Rows L2
/-- a thing that stays as it is while what stands beside it is looked at -/
inductive Mk {α : Sort u} (a : α) : Type | mk
section
variable {α : Type}
def gO (o : Option α) (f : α → Prop) (_ : Mk f := .mk) : Prop := ∃ r, o = some r ∧ f r
theorem gO_i {o : Option α} {r : α} {f : α → Prop} (e : o = some r) (p : f r) : gO o f := ⟨r, e, p⟩
theorem gO_s {a : α} {f : α → Prop} : gO (some a) f = f a := propext ⟨fun ⟨r, e, p⟩ => by cases e; exact p, fun p => ⟨a, rfl, p⟩⟩
end
def gB (x : D) (f : Bool → Prop) (_ : Mk f := .mk) : Prop := ∃ c, x = .bl c ∧ f c
theorem gB_s {a : Bool} {f : Bool → Prop} : gB (.bl a) f = f a := propext ⟨fun ⟨r, e, p⟩ => by cases e; exact p, fun p => ⟨a, rfl, p⟩⟩
def gI (x : D) (f : Int → Prop) (_ : Mk f := .mk) : Prop := ∃ c, x = .int c ∧ f c
theorem gI_s {a : Int} {f : Int → Prop} : gI (.int a) f = f a := propext ⟨fun ⟨r, e, p⟩ => by cases e; exact p, fun p => ⟨a, rfl, p⟩⟩
def gS (x : D) (f : Str → Prop) (_ : Mk f := .mk) : Prop := ∃ c, x = .str c ∧ f c
theorem gS_s {a : Str} {f : Str → Prop} : gS (.str a) f = f a := propext ⟨fun ⟨r, e, p⟩ => by cases e; exact p, fun p => ⟨a, rfl, p⟩⟩
def gT (x : D) (f : List D → Prop) (_ : Mk f := .mk) : Prop := ∃ c, x = .tup c ∧ f c
theorem gT_s {a : List D} {f : List D → Prop} : gT (.tup a) f = f a := propext ⟨fun ⟨r, e, p⟩ => by cases e; exact p, fun p => ⟨a, rfl, p⟩⟩
def gR (x : D) (f : Nat → Prop) (_ : Mk f := .mk) : Prop := ∃ c, x = .ref c ∧ f c
theorem gR_s {a : Nat} {f : Nat → Prop} : gR (.ref a) f = f a := propext ⟨fun ⟨r, e, p⟩ => by cases e; exact p, fun p => ⟨a, rfl, p⟩⟩
def gC (x : List D) (f : D → List D → Prop) (_ : Mk f := .mk) : Prop := ∃ a r, x = a :: r ∧ f a r
theorem gC_s {a : D} {r : List D} {f : D → List D → Prop} : gC (a :: r) f = f a r := propext ⟨fun ⟨x, y, e, p⟩ => by cases e; exact p, fun p => ⟨a, r, rfl, p⟩⟩
def gL (o : Option D) (f : List D → Prop) (_ : Mk f := .mk) : Prop := ∃ xs, o = some (.lst xs) ∧ f xs
theorem gL_s {a : List D} {f : List D → Prop} : gL (some (.lst a)) f = f a := propext ⟨fun ⟨r, e, p⟩ => by cases e; exact p, fun p => ⟨a, rfl, p⟩⟩
/-- one of two ways -/
def iF (c : Bool) (A B : Prop) (_ : Mk A := .mk) (_ : Mk B := .mk) : Prop := if c = true then A else B
theorem iF_t {A B : Prop} : iF true A B = A := if_pos rfl
theorem iF_f {A B : Prop} : iF false A B = B := if_neg Bool.false_ne_true
theorem iF_d {p : Prop} [Decidable p] {A B : Prop} (a : p → A) (b : ¬p → B) : iF (decide p) A B := by
  by_cases h : p
  · rw [decide_eq_true h, iF_t]; exact a h
  · rw [decide_eq_false h, iF_f]; exact b h
theorem iF_b {c : Bool} {A B : Prop} (a : c = true → A) (b : c = false → B) : iF c A B := by
  cases c
  · rw [iF_f]; exact b rfl
  · rw [iF_t]; exact a rfl
def jn (o : Option (Option D)) : Option D := match o with | some (some d) => some d | _ => none
theorem jn_s {d : D} : jn (some (some d)) = some d := rfl
/-- the list that an object is -/
def obL : Option Ob → Option (List D)
  | some (.lst xs) => some xs
  | _ => none
/-- a def's call -/
def cal (sp : Spc) (ds : List D) (h : DH) (Q xq : DQ) (_ : Mk Q := .mk) (_ : Mk xq := .mk) : Prop := sp ds h Q xq
def WE (Φ : Fs) (xq : DQ) (e : E) (σ : DS) (h : DH) (Q : DQ) (_ : Mk Q := .mk) (_ : Mk e := .mk) : Prop := wpE Φ xq e σ h Q
def WEs (Φ : Fs) (xq : DQ) (e : Es) (σ : DS) (h : DH) (Q : List D → DH → Prop) (_ : Mk Q := .mk) (_ : Mk e := .mk) : Prop := wpEs Φ xq e σ h Q
def WCs (Φ : Fs) (xq : DQ) (e : Es) (σ : DS) (h : DH) (Q : DQ) (_ : Mk Q := .mk) (_ : Mk e := .mk) : Prop := wpCs Φ xq e σ h Q
def WIt (Φ : Fs) (xq : DQ) (e : Wk) (σ : DS) (h : DH) (Q : List D → (DH → Prop) → DH → Prop) (_ : Mk Q := .mk) (_ : Mk e := .mk) : Prop := wpIt Φ xq e σ h Q
def WS (Φ : Fs) (xq : DQ) (s : S) (K : DE) (σ : DS) (h : DH) (_ : Mk K := .mk) (_ : Mk s := .mk) : Prop := wpS Φ xq s K σ h
def WSs (Φ : Fs) (xq : DQ) (s : Ss) (K : DE) (σ : DS) (h : DH) (_ : Mk K := .mk) (_ : Mk s := .mk) : Prop := wpSs Φ xq s K σ h
def BT (t : T) (d : D) (σ : DS) (h : DH) (Q : DS → DH → Prop) (_ : Mk Q := .mk) (_ : Mk t := .mk) : Prop := bindT t d σ h Q
def BTs (t : Ts) (d : List D) (σ : DS) (h : DH) (Q : DS → DH → Prop) (_ : Mk Q := .mk) (_ : Mk t := .mk) : Prop := bindTs t d σ h Q
def bW (f : BF) (bx : Bool) (ds : List D) (h : DH) (Q : DQ) (_ : Mk Q := .mk) : Prop := bfW f bx ds h Q
def mW (m : MF) (o : D) (ds : List D) (h : DH) (Q : DQ) (_ : Mk Q := .mk) : Prop := methW m o ds h Q
def sF (h : DH) (bx : Bool) (x : D) (l u : Option Int) (Q : DQ) (_ : Mk Q := .mk) : Prop := sliF h bx x l u Q
def rF (h : DH) (bx : Bool) (x : D) (Q : DQ) (_ : Mk Q := .mk) : Prop := revF h bx x Q
def rpW (bx : Bool) (x y : D) (h : DH) (Q : DQ) (_ : Mk Q := .mk) : Prop := repW bx x y h Q
def lnW (x : D) (h : DH) (Q : DQ) (_ : Mk Q := .mk) : Prop := lensW x h Q
def mL (bx : Bool) (xs : List D) (h : DH) (Q : DQ) (_ : Mk Q := .mk) : Prop := mkL bx xs h Q
def oW (b : Bool) (t : DH → DQ → Prop) (h : DH) (k : Option Int → DH → Prop) (_ : Mk t := .mk) (_ : Mk k := .mk) : Prop := wpO b t h k
def FL (f : D → DE → DS → DH → Prop) (st : DH → Prop) (items : List D) (K : DE) (σ : DS) (h : DH) (_ : Mk f := .mk) (_ : Mk st := .mk) (_ : Mk K := .mk) : Prop := forL f st items K σ h
def CL (f : D → DH → (Option D → DH → Prop) → Prop) (st : DH → Prop) (items acc : List D) (h : DH) (Q : List D → DH → Prop) (_ : Mk f := .mk) (_ : Mk st := .mk) (_ : Mk Q := .mk) : Prop := compL f st items acc h Q
section
variable {Φ : Fs} {xq : DQ} {σ σ' : DS} {h h' : DH}
variable {Q : DQ}
theorem ex_O {α : Type} {o : Option α} {f : α → Prop} : (∃ r, o = some r ∧ f r) = gO o f := rfl
theorem v_var {i : Nat} : WE Φ xq (.var i) σ h Q = gO (jn σ[i]?) fun d => Q d h := by
  show (∃ d, σ[i]? = some (some d) ∧ Q d h) = ∃ d, jn σ[i]? = some d ∧ Q d h
  cases e : σ[i]? with
  | none => simp [jn]
  | some o => cases o <;> simp [jn]
theorem v_glob {x : String} : WE Φ xq (.glob x) σ h Q = Q (Φ.gl x) h := rfl
theorem v_non : WE Φ xq .non σ h Q = Q .non h := rfl
theorem v_bl {b : Bool} : WE Φ xq (.bl b) σ h Q = Q (.bl b) h := rfl
theorem v_int {i : Int} : WE Φ xq (.int i) σ h Q = Q (.int i) h := rfl
theorem v_str {x : Str} : WE Φ xq (.str x) σ h Q = Q (.str x) h := rfl
theorem v_tup {es : Es} : WE Φ xq (.tup es) σ h Q = WEs Φ xq es σ h fun ds h' => ds.length ≤ 16777216 ∧ Q (.tup ds) h' := rfl
theorem v_lst {bx : Bool} {es : Es} : WE Φ xq (.lst bx es) σ h Q = WEs Φ xq es σ h fun ds h' => ds.length ≤ 16777216 ∧ mL bx ds h' Q := rfl
theorem v_bin {o : BinO} {a b : E} : WE Φ xq (.bin o a b) σ h Q = WE Φ xq a σ h fun x h1 => WE Φ xq b σ h1 fun y h2 => gO (binF h2 o x y) fun r => Q r h2 := rfl
theorem v_cat {bx : Bool} {a b : E} : WE Φ xq (.cat bx a b) σ h Q = WE Φ xq a σ h fun x h1 => WE Φ xq b σ h1 fun y h2 => gL (binF h2 .add x y) fun xs => mL bx xs h2 Q := rfl
theorem v_neg {a : E} : WE Φ xq (.neg a) σ h Q = WE Φ xq a σ h fun x h1 => gI x fun i => Q (.int (-i)) h1 := rfl
theorem v_cmp {o : CmpO} {a b : E} : WE Φ xq (.cmp o a b) σ h Q = WE Φ xq a σ h fun x h1 => WE Φ xq b σ h1 fun y h2 => gO (cmpF h2 o x y) fun r => Q (.bl r) h2 := rfl
theorem v_chain {o p : CmpO} {a b c : E} : WE Φ xq (.chain o p a b c) σ h Q = WE Φ xq a σ h fun x h1 => WE Φ xq b σ h1 fun y h2 => gO (cmpF h2 o x y) fun r => iF r (WE Φ xq c σ h2 fun z h3 => gO (cmpF h3 p y z) fun r' => Q (.bl r') h3) (Q (.bl false) h2) := rfl
theorem v_and {a b : E} : WE Φ xq (.and a b) σ h Q = WE Φ xq a σ h fun x h1 => gB x fun c => iF c (WE Φ xq b σ h1 fun y h2 => gB y fun k => Q (.bl k) h2) (Q (.bl false) h1) := rfl
theorem v_or {a b : E} : WE Φ xq (.or a b) σ h Q = WE Φ xq a σ h fun x h1 => gB x fun c => iF c (Q (.bl true) h1) (WE Φ xq b σ h1 fun y h2 => gB y fun k => Q (.bl k) h2) := rfl
theorem v_not {a : E} : WE Φ xq (.not a) σ h Q = WE Φ xq a σ h fun x h1 => gB x fun c => Q (.bl (!c)) h1 := rfl
theorem v_ite {c a b : E} : WE Φ xq (.ite c a b) σ h Q = WE Φ xq c σ h fun x h1 => gB x fun k => iF k (WE Φ xq a σ h1 Q) (WE Φ xq b σ h1 Q) := rfl
theorem v_bf {f : BF} {bx : Bool} {es : Es} : WE Φ xq (.bf f bx es) σ h Q = WEs Φ xq es σ h fun ds h1 => bW f bx ds h1 Q := rfl
theorem v_isi {a : E} {ts : List Ty} : WE Φ xq (.isi a ts) σ h Q = WE Φ xq a σ h fun x h1 => gO (tyOf h1 x) fun t => Q (.bl (ts.any (isTy t))) h1 := rfl
theorem v_call {f : String} {es : Es} : WE Φ xq (.call f es) σ h Q = WEs Φ xq es σ h fun ds h1 => cal (Φ.fn f) ds h1 Q xq := rfl
theorem v_meth {m : MF} {o : E} {es : Es} : WE Φ xq (.meth m o es) σ h Q = WE Φ xq o σ h fun x h1 => methTy m h1 x = true ∧ WEs Φ xq es σ h1 fun ds h2 => mW m x ds h2 Q := rfl
theorem v_idx {a i : E} : WE Φ xq (.idx a i) σ h Q = WE Φ xq a σ h fun x h1 => WE Φ xq i σ h1 fun y h2 => gO (idxF h2 x y) fun r => Q r h2 := rfl
theorem v_sli {bx : Bool} {a lo hi : E} : WE Φ xq (.sli bx a lo hi) σ h Q = WE Φ xq a σ h fun x h1 => oW (isNonE lo) (fun h Q => WE Φ xq lo σ h Q) h1 fun l h2 => oW (isNonE hi) (fun h Q => WE Φ xq hi σ h Q) h2 fun u h3 => sF h3 bx x l u Q := rfl
theorem v_rev {bx : Bool} {a : E} : WE Φ xq (.rev bx a) σ h Q = WE Φ xq a σ h fun x h1 => rF h1 bx x Q := rfl
theorem v_rep {bx : Bool} {a i : E} : WE Φ xq (.rep bx a i) σ h Q = WE Φ xq a σ h fun x h1 => WE Φ xq i σ h1 fun y h2 => rpW bx x y h2 Q := rfl
theorem v_lens {a : E} : WE Φ xq (.lens a) σ h Q = WE Φ xq a σ h fun x h1 => lnW x h1 Q := rfl
theorem v_comp {bx : Bool} {own : List Nat} {tg : T} {it : Wk} {cs : Es} {elt : E} : WE Φ xq (.comp bx own tg it cs elt) σ h Q = WIt Φ xq it σ h fun items st h1 =>
      CL (fun x h2 k => BT tg x (wipeD σ own) h2 fun σ3 h3 => WCs Φ xq cs σ3 h3 fun b h4 => gB b fun t => iF t (WE Φ xq elt σ3 h4 fun y h5 => k (some y) h5) (k none h4))
        st items [] h1 fun ys h2 => mL bx ys h2 Q := rfl
theorem v_srt {bx : Bool} {a : E} {key : String} : WE Φ xq (.srt bx a key) σ h Q = WE Φ xq a σ h fun x h1 => ∃ xs kf, seqOf h1 x = some xs ∧ srtOk (Φ.fn key) xs kf ∧ mL bx (sortK xs kf) h1 Q := rfl
theorem v_cnil : WCs Φ xq .nil σ h Q = Q (.bl true) h := rfl
theorem v_ccons {e : E} {es : Es} : WCs Φ xq (.cons e es) σ h Q = WE Φ xq e σ h Q := rfl
theorem v_enil {Q : List D → DH → Prop} : WEs Φ xq .nil σ h Q = Q [] h := rfl
theorem v_econs {e : E} {es : Es} {Q : List D → DH → Prop} : WEs Φ xq (.cons e es) σ h Q = WE Φ xq e σ h fun x h1 => WEs Φ xq es σ h1 fun xs h2 => Q (x :: xs) h2 := rfl
def seqW (h : DH) (x : D) (Q : List D → (DH → Prop) → DH → Prop) (_ : Mk Q := .mk) : Prop := match x with
  | .str s => s.length ≤ 16777216 ∧ Q (s.cps.toList.map fun c => .str (oneS c)) (fun _ => True) h
  | x => ∃ xs, seqOf h x = some xs ∧ Q xs (fun h2 => seqOf h2 x = some xs) h
variable {R : List D → (DH → Prop) → DH → Prop}
theorem v_wseq {e : E} : WIt Φ xq (.seq e) σ h R = WE Φ xq e σ h fun x h1 => seqW h1 x R := rfl
theorem sq_str {s : Str} : seqW h (.str s) R = (s.length ≤ 16777216 ∧ R (s.cps.toList.map fun c => .str (oneS c)) (fun _ => True) h) := rfl
theorem sq_tup {xs : List D} : seqW h (.tup xs) R = R xs (fun _ => True) h := propext ⟨fun ⟨r, e, p⟩ => by
    cases e
    have : (fun h2 => seqOf h2 (.tup xs) = some xs) = fun _ => True := funext fun _ => eq_true rfl
    rw [← this]; exact p, fun p => ⟨xs, rfl, by
    have : (fun h2 => seqOf h2 (.tup xs) = some xs) = fun _ => True := funext fun _ => eq_true rfl
    rw [this]; exact p⟩⟩
theorem sq_lst {xs : List D} : seqW h (.lst xs) R = R xs (fun _ => True) h := propext ⟨fun ⟨r, e, p⟩ => by
    cases e
    have : (fun h2 => seqOf h2 (.lst xs) = some xs) = fun _ => True := funext fun _ => eq_true rfl
    rw [← this]; exact p, fun p => ⟨xs, rfl, by
    have : (fun h2 => seqOf h2 (.lst xs) = some xs) = fun _ => True := funext fun _ => eq_true rfl
    rw [this]; exact p⟩⟩
theorem sq_scr {xs : List D} : seqW h (.scr xs) R = R xs (fun _ => True) h := propext ⟨fun ⟨r, e, p⟩ => by
    cases e
    have : (fun h2 => seqOf h2 (.scr xs) = some xs) = fun _ => True := funext fun _ => eq_true rfl
    rw [← this]; exact p, fun p => ⟨xs, rfl, by
    have : (fun h2 => seqOf h2 (.scr xs) = some xs) = fun _ => True := funext fun _ => eq_true rfl
    rw [this]; exact p⟩⟩
theorem sq_ref {n : Nat} : seqW h (.ref n) R = gO (seqOf h (.ref n)) fun xs => R xs (fun h2 => seqOf h2 (.ref n) = some xs) h := rfl
theorem v_wrng1 {hi : E} : WIt Φ xq (.rng1 hi) σ h R = WE Φ xq hi σ h fun y h1 => gI y fun j => (-(2 ^ 62) ≤ j ∧ j ≤ 16777216) ∧ R (rngL 0 j.toNat) (fun _ => True) h1 := rfl
theorem v_wrng {lo hi : E} : WIt Φ xq (.rng lo hi) σ h R = WE Φ xq lo σ h fun x h1 => WE Φ xq hi σ h1 fun y h2 => gI x fun i => gI y fun j => (-(2 ^ 62) ≤ i ∧ i < 2 ^ 62 ∧ -(2 ^ 62) ≤ j ∧ j < 2 ^ 62) ∧ j - i ≤ 16777216 ∧ R (rngL i (j - i).toNat) (fun _ => True) h2 := by
  show (WE Φ xq lo σ h fun x h1 => WE Φ xq hi σ h1 fun y h2 => ∃ i j, x = .int i ∧ y = .int j ∧ (-(2 ^ 62) ≤ i ∧ i < 2 ^ 62 ∧ -(2 ^ 62) ≤ j ∧ j < 2 ^ 62) ∧ j - i ≤ 16777216 ∧ R (rngL i (j - i).toNat) (fun _ => True) h2) = _
  unfold WE
  congr 1; funext x h1; congr 1; funext y h2
  exact propext ⟨fun ⟨i, j, a, b, c⟩ => ⟨i, a, j, b, c⟩, fun ⟨i, a, j, b, c⟩ => ⟨i, j, a, b, c⟩⟩
theorem v_wenum {e : E} : WIt Φ xq (.enum e) σ h R = WE Φ xq e σ h fun x h1 => gO (seqOf h1 x) fun xs => R (enumL 0 xs) (fun h2 => seqOf h2 x = some xs) h1 := rfl
theorem v_wzip {a b : E} : WIt Φ xq (.zip a b) σ h R = WE Φ xq a σ h fun x h1 => WE Φ xq b σ h1 fun y h2 => gO (seqOf h2 x) fun xs => gO (seqOf h2 y) fun ys => isTup x = isTup y ∧ R (zipL xs ys) (fun h3 => seqOf h3 x = some xs ∧ seqOf h3 y = some ys) h2 := by
  show (WE Φ xq a σ h fun x h1 => WE Φ xq b σ h1 fun y h2 => ∃ xs ys, seqOf h2 x = some xs ∧ seqOf h2 y = some ys ∧ isTup x = isTup y ∧ R (zipL xs ys) (fun h3 => seqOf h3 x = some xs ∧ seqOf h3 y = some ys) h2) = _
  unfold WE
  congr 1; funext x h1; congr 1; funext y h2
  exact propext ⟨fun ⟨i, j, a, b, c⟩ => ⟨i, a, j, b, c⟩, fun ⟨i, a, j, b, c⟩ => ⟨i, j, a, b, c⟩⟩
variable {B : DS → DH → Prop} {d : D}
theorem v_tname {i : Nat} : BT (.name i) d σ h B = B (σ.set i (some d)) h := rfl
theorem v_ttup {ts : Ts} : BT (.tup ts) d σ h B = gT d fun xs => xs.length = ts.len ∧ BTs ts xs σ h B := rfl
theorem v_tnil : BTs .nil [] σ h B = B σ h := propext ⟨fun ⟨_, p⟩ => p, fun p => ⟨rfl, p⟩⟩
theorem v_tcons {t : T} {ts : Ts} {xs : List D} : BTs (.cons t ts) xs σ h B = gC xs fun x r => BT t x σ h fun σ' h' => BTs ts r σ' h' B := rfl
variable {K : DE}
theorem v_sexpr {e : E} : WS Φ xq (.expr e) K σ h = WE Φ xq e σ h fun _ h1 => K.nx σ h1 := rfl
theorem v_sret {e : E} : WS Φ xq (.ret e) K σ h = WE Φ xq e σ h K.rt := rfl
theorem v_sasg {t : T} {e : E} : WS Φ xq (.asg t e) K σ h = WE Φ xq e σ h fun x h1 => BT t x σ h1 K.nx := rfl
theorem v_sseti {a i e : E} : WS Φ xq (.seti a i e) K σ h = WE Φ xq e σ h fun v h1 => WE Φ xq a σ h1 fun x h2 => WE Φ xq i σ h2 fun y h3 =>
      gR x fun n => gO (obL h3[n]?) fun ys => gI y fun z => gO (ixO ys.length z) fun j => K.nx σ (h3.set n (.lst (ys.set j v))) := by
  show (WE Φ xq e σ h fun v h1 => WE Φ xq a σ h1 fun x h2 => WE Φ xq i σ h2 fun y h3 =>
      ∃ n ys z j, x = .ref n ∧ h3[n]? = some (.lst ys) ∧ y = .int z ∧ ixO ys.length z = some j ∧ K.nx σ (h3.set n (.lst (ys.set j v)))) = _
  unfold WE
  congr 1; funext v h1; congr 1; funext x h2; congr 1; funext y h3
  refine propext ⟨fun ⟨n, ys, z, j, e1, e2, e3, e4, q⟩ => ⟨n, e1, ys, by rw [e2]; rfl, z, e3, j, e4, q⟩, fun ⟨n, e1, ys, e2, z, e3, j, e4, q⟩ => ⟨n, ys, z, j, e1, ?_, e3, e4, q⟩⟩
  unfold obL at e2
  split at e2
  · rename_i q; cases e2; exact q
  · cases e2
theorem v_saug {i : Nat} {e : E} : WS Φ xq (.aug i e) K σ h = gO (jn σ[i]?) fun x => WE Φ xq e σ h fun y h1 => gO (binF h1 .add x y) fun r => flat? r = true ∧ K.nx (σ.set i (some r)) h1 := by
  show (∃ x, σ[i]? = some (some x) ∧ WE Φ xq e σ h fun y h1 => ∃ r, binF h1 .add x y = some r ∧ flat? r = true ∧ K.nx (σ.set i (some r)) h1) = _
  cases e1 : σ[i]? with
  | none => simp [jn, gO]
  | some o => cases o <;> simp [jn, gO]
theorem v_site {c : E} {a b : Ss} : WS Φ xq (.ite c a b) K σ h = WE Φ xq c σ h fun x h1 => gB x fun k => iF k (WSs Φ xq a K σ h1) (WSs Φ xq b K σ h1) := rfl
theorem v_sfor {t : T} {it : Wk} {b : Ss} : WS Φ xq (.for_ t it b) K σ h = WIt Φ xq it σ h fun items st h1 => FL (fun x K' σ' h' => BT t x σ' h' fun σ2 h2 => WSs Φ xq b K' σ2 h2) st items K σ h1 := rfl
theorem v_spass : WS Φ xq .pass K σ h = K.nx σ h := rfl
theorem v_sbrk : WS Φ xq .brk K σ h = K.bk σ h := rfl
theorem v_scont : WS Φ xq .cont K σ h = K.ct σ h := rfl
variable {bx : Bool} {x y : D} {xs : List D}
theorem b_len : bW .len bx [x] h Q = gO (lenF h x) fun n => Q (.int n) h := rfl
theorem b_abs : bW .abs bx [x] h Q = gI x fun i => Q (.int (if i < 0 then -i else i)) h := rfl
theorem b_int {i : Int} : bW .int bx [.int i] h Q = Q (.int i) h := propext ⟨fun q => (by
    rcases q with ⟨j, e, q⟩ | ⟨j, e, q⟩
    · cases e; exact q
    · exact nomatch e), fun q => Or.inl ⟨i, rfl, q⟩⟩
theorem b_intb {i : Bool} : bW .int bx [.bl i] h Q = Q (.int (if i then 1 else 0)) h := propext ⟨fun q => (by
    rcases q with ⟨j, e, q⟩ | ⟨j, e, q⟩
    · exact nomatch e
    · cases e; exact q), fun q => Or.inr ⟨i, rfl, q⟩⟩
theorem b_ord : bW .ord bx [x] h Q = gS x fun s => s.length = 1 ∧ Q (.int (s.cps.getD 0 0 : Nat)) h := rfl
theorem b_str : bW .str bx [x] h Q = gO (strF h x) fun s => Q (.str s) h := rfl
theorem b_list : bW .list bx [x] h Q = gO (seqOf h x) fun ys => mL bx ys h Q := rfl
theorem b_tuple : bW .tuple bx [x] h Q = gO (seqOf h x) fun ys => Q (.tup ys) h := rfl
theorem b_all : bW .all bx [x] h Q = gO (lstOf h x) fun ys => gO (blsOf ys) fun bs => Q (.bl (bs.all id)) h := by
  show (∃ ys bs, lstOf h x = some ys ∧ blsOf ys = some bs ∧ Q (.bl (bs.all id)) h) = _
  exact propext ⟨fun ⟨i, j, a, b, c⟩ => ⟨i, a, j, b, c⟩, fun ⟨i, a, j, b, c⟩ => ⟨i, j, a, b, c⟩⟩
theorem b_any : bW .any bx [x] h Q = gO (lstOf h x) fun ys => gO (blsOf ys) fun bs => Q (.bl (bs.any id)) h := by
  show (∃ ys bs, lstOf h x = some ys ∧ blsOf ys = some bs ∧ Q (.bl (bs.any id)) h) = _
  exact propext ⟨fun ⟨i, j, a, b, c⟩ => ⟨i, a, j, b, c⟩, fun ⟨i, a, j, b, c⟩ => ⟨i, j, a, b, c⟩⟩
theorem b_min {i j : Int} : bW .min bx [.int i, .int j] h Q = Q (.int (if j < i then j else i)) h := propext ⟨fun ⟨a, b, e, f, q⟩ => by cases e; cases f; exact q, fun q => ⟨i, j, rfl, rfl, q⟩⟩
theorem b_max {i j : Int} : bW .max bx [.int i, .int j] h Q = Q (.int (if j > i then j else i)) h := propext ⟨fun ⟨a, b, e, f, q⟩ => by cases e; cases f; exact q, fun q => ⟨i, j, rfl, rfl, q⟩⟩
theorem b_sum : bW .sum bx [x] h Q = gO (lstOf h x) fun ys => gO (intsOf ys) fun is => Q (.int is.sum) h := by
  show (∃ ys bs, lstOf h x = some ys ∧ intsOf ys = some bs ∧ Q (.int bs.sum) h) = _
  exact propext ⟨fun ⟨i, j, a, b, c⟩ => ⟨i, a, j, b, c⟩, fun ⟨i, a, j, b, c⟩ => ⟨i, j, a, b, c⟩⟩
theorem b_lens : lnW x h Q = gO (seqOf h x) fun ys => lsOk ys = true ∧ Q (.int (onceL [] ys).length) h := rfl
theorem mutL_iff {n : Nat} {ys : List D} : obL h[n]? = some ys ↔ h[n]? = some (.lst ys) := by
  unfold obL
  constructor
  · intro e
    split at e
    · rename_i q; cases e; exact q
    · cases e
  · intro e; rw [e]
theorem m_append : mW .append x [y] h Q = gR x fun n => gO (obL h[n]?) fun ys => ys.length < 16777216 ∧ Q .non (h.set n (.lst (ys ++ [y]))) := by
  show (∃ n ys, x = .ref n ∧ h[n]? = some (.lst ys) ∧ ys.length < 16777216 ∧ Q .non (h.set n (.lst (ys ++ [y])))) = _
  exact propext ⟨fun ⟨n, ys, a, b, c⟩ => ⟨n, a, ys, mutL_iff.mpr b, c⟩, fun ⟨n, a, ys, b, c⟩ => ⟨n, ys, a, mutL_iff.mp b, c⟩⟩
theorem m_extend : mW .extend x [y] h Q = gR x fun n => gO (obL h[n]?) fun ys => gO (lstOf h y) fun zs => ys.length + zs.length ≤ 16777216 ∧ Q .non (h.set n (.lst (ys ++ zs))) := by
  show (∃ n ys zs, x = .ref n ∧ h[n]? = some (.lst ys) ∧ lstOf h y = some zs ∧ ys.length + zs.length ≤ 16777216 ∧ Q .non (h.set n (.lst (ys ++ zs)))) = _
  exact propext ⟨fun ⟨n, ys, zs, a, b, c⟩ => ⟨n, a, ys, mutL_iff.mpr b, zs, c⟩, fun ⟨n, a, ys, b, zs, c⟩ => ⟨n, ys, zs, a, mutL_iff.mp b, c⟩⟩
theorem m_pop : mW .pop x [y] h Q = gR x fun n => gO (obL h[n]?) fun ys => gI y fun i => gO (ixO ys.length i) fun j => gO ys[j]? fun z => Q z (h.set n (.lst (ys.eraseIdx j))) := by
  show (∃ n ys i j z, x = .ref n ∧ h[n]? = some (.lst ys) ∧ y = .int i ∧ ixO ys.length i = some j ∧ ys[j]? = some z ∧ Q z (h.set n (.lst (ys.eraseIdx j)))) = _
  exact propext ⟨fun ⟨n, ys, i, j, z, a, b, c, d, e, f⟩ => ⟨n, a, ys, mutL_iff.mpr b, i, c, j, d, z, e, f⟩, fun ⟨n, a, ys, b, i, c, j, d, z, e, f⟩ => ⟨n, ys, i, j, z, a, mutL_iff.mp b, c, d, e, f⟩⟩
theorem m_index : mW .index x [y] h Q = gO (lstOf h x) fun ys => (y.pure && D.pures ys && decide (y.depth ≤ 60) && decide (D.depths ys ≤ 60)) = true ∧ gO (ys.findIdx? fun z => D.eqv z y) fun j => Q (.int j) h := by
  show (∃ ys j, lstOf h x = some ys ∧ (y.pure && D.pures ys && decide (y.depth ≤ 60) && decide (D.depths ys ≤ 60)) = true ∧ (ys.findIdx? fun z => D.eqv z y) = some j ∧ Q (.int j) h) = _
  exact propext ⟨fun ⟨i, j, a, b, c⟩ => ⟨i, a, b, j, c⟩, fun ⟨i, a, b, j, c⟩ => ⟨i, j, a, b, c⟩⟩
theorem m_join : mW .join x [y] h Q = gS x fun s => gO (seqOf h y) fun ys => gO (strsOf ys) fun ss => (ss.map (·.length)).sum + ss.length * s.length ≤ 16777216 ∧ Q (.str (Txt.join s ss)) h := by
  show (∃ s ys ss, x = .str s ∧ seqOf h y = some ys ∧ strsOf ys = some ss ∧ (ss.map (·.length)).sum + ss.length * s.length ≤ 16777216 ∧ Q (.str (Txt.join s ss)) h) = _
  exact propext ⟨fun ⟨s, ys, ss, a, b, c, d⟩ => ⟨s, a, ys, b, ss, c, d⟩, fun ⟨s, a, ys, b, ss, c, d⟩ => ⟨s, ys, ss, a, b, c, d⟩⟩
theorem r_tup {k : Int} : rpW bx (.tup xs) (.int k) h Q = (-1000 ≤ k ∧ k ≤ 1000 ∧ xs ≠ [] ∧ 2 ≤ k ∧ xs.length ≤ 1000 ∧ Q (.tup (repD xs k)) h) := propext ⟨fun ⟨k', e, a, b, c⟩ => by cases e; exact ⟨a, b, c⟩, fun ⟨a, b, c⟩ => ⟨k, rfl, a, b, c⟩⟩
theorem r_lst {k : Int} : rpW bx (.lst xs) (.int k) h Q = (-1000 ≤ k ∧ k ≤ 1000 ∧ xs.length ≤ 1000 ∧ mL bx (repD xs k) h Q) := propext ⟨fun ⟨k', e, a, b, c⟩ => by
    cases e
    obtain ⟨ys, e, c⟩ := c
    cases e
    exact ⟨a, b, c⟩, fun ⟨a, b, c⟩ => ⟨k, rfl, a, b, xs, rfl, c⟩⟩
variable {l u : Option Int}
theorem s_str {s : Str} : sF h bx (.str s) l u Q = (s.length ≤ 16777216 ∧ Q (.str ⟨(cutL s.cps.toList l u).toArray⟩) h) := rfl
theorem s_tup : sF h bx (.tup xs) l u Q = Q (.tup (cutL xs l u)) h := rfl
theorem s_lst : sF h bx (.lst xs) l u Q = mL bx (cutL xs l u) h Q := propext ⟨fun ⟨ys, e, c⟩ => by cases e; exact c, fun c => ⟨xs, rfl, c⟩⟩
theorem s_ref {n : Nat} : sF h bx (.ref n) l u Q = gO (lstOf h (.ref n)) fun xs => mL bx (cutL xs l u) h Q := rfl
theorem rv_tup : rF h bx (.tup xs) Q = Q (.tup xs.reverse) h := rfl
theorem rv_lst : rF h bx (.lst xs) Q = mL bx xs.reverse h Q := propext ⟨fun ⟨ys, e, c⟩ => by cases e; exact c, fun c => ⟨xs, rfl, c⟩⟩
theorem rv_ref {n : Nat} : rF h bx (.ref n) Q = gO (lstOf h (.ref n)) fun xs => mL bx xs.reverse h Q := rfl
theorem k_t : mL true xs h Q = Q (.ref h.length) (h ++ [.lst xs]) := rfl
theorem k_f : mL false xs h Q = Q (.lst xs) h := rfl
variable {t : DH → DQ → Prop} {kk : Option Int → DH → Prop}
theorem o_t : oW true t h kk = kk none h := rfl
theorem o_f : oW false t h kk = t h fun x h1 => gI x fun i => kk (some i) h1 := rfl
end
theorem in_non : isNonE .non = true := rfl
theorem in_var {i : Nat} : isNonE (.var i) = false := rfl
theorem in_int {i : Int} : isNonE (.int i) = false := rfl
theorem in_bin {o : BinO} {a b : E} : isNonE (.bin o a b) = false := rfl
theorem in_call {f : String} {a : Es} : isNonE (.call f a) = false := rfl
theorem in_neg {a : E} : isNonE (.neg a) = false := rfl
theorem in_bf {f : BF} {b : Bool} {a : Es} : isNonE (.bf f b a) = false := rfl
theorem in_idx {a b : E} : isNonE (.idx a b) = false := rfl
theorem in_meth {m : MF} {a : E} {b : Es} : isNonE (.meth m a b) = false := rfl
theorem in_ite {c a b : E} : isNonE (.ite c a b) = false := rfl
theorem c_eq {h : DH} {x y : D} : cmpF h .eq x y = eqF h x y := rfl
theorem c_ne {h : DH} {x y : D} : cmpF h .ne x y = (eqF h x y).map (!·) := rfl
theorem c_lt {h : DH} {x y : D} : cmpF h .lt x y = ltF x y := rfl
theorem c_gt {h : DH} {x y : D} : cmpF h .gt x y = gtF x y := rfl
theorem c_le {h : DH} {x y : D} : cmpF h .le x y = leF x y := rfl
theorem c_ge {h : DH} {x y : D} : cmpF h .ge x y = geF x y := rfl
theorem c_in {h : DH} {x y : D} : cmpF h .isin x y = inF h x y := rfl
theorem c_nin {h : DH} {x y : D} : cmpF h .notin x y = (inF h x y).map (!·) := rfl
theorem c_is {h : DH} {x y : D} : cmpF h .is x y = isF x y := rfl
theorem c_isn {h : DH} {x y : D} : cmpF h .isnot x y = (isF x y).map (!·) := rfl
theorem mt_app {h : DH} {x : D} : methTy .append h x = (lstOf h x).isSome := rfl
theorem mt_ext {h : DH} {x : D} : methTy .extend h x = (lstOf h x).isSome := rfl
theorem mt_pop_ {h : DH} {x : D} : methTy .pop h x = (lstOf h x).isSome := rfl
theorem mt_ind {h : DH} {x : D} : methTy .index h x = (lstOf h x).isSome := rfl
theorem mt_joi {h : DH} {x : Str} : methTy .join h (.str x) = true := rfl
theorem gO_if {α : Type} {p : Prop} [Decidable p] {a : α} {f : α → Prop} : gO (if p then some a else none) f = (p ∧ f a) := propext ⟨fun ⟨r, e, q⟩ => (by
    split at e
    · cases e; exact ⟨by assumption, q⟩
    · exact nomatch e), fun ⟨c, q⟩ => ⟨a, if_pos c, q⟩⟩
/-- one statement -/
theorem soneW {Φ : Fs} {xq : DQ} {s : S} {ss : Ss} {K : DE} {σ : DS} {h : DH} (q : WS Φ xq s { K with nx := fun σ' h' => WSs Φ xq ss K σ' h' } σ h) : wpSs Φ xq (.cons s ss) K σ h := q
theorem un_cons {a : D} {l : List D} {P : D → List D → Prop} : (∃ x r, a :: l = x :: r ∧ P x r) = P a l :=
  propext ⟨fun ⟨x, r, e, p⟩ => by cases e; exact p, fun p => ⟨a, l, rfl, p⟩⟩
/-- all of it, for simp -/
def EVs := And.intro @gO_if <| And.intro @gO_s <| And.intro @gB_s <| And.intro @gI_s <| And.intro @gS_s <| And.intro @gT_s <| And.intro @gR_s <| And.intro @gC_s <| And.intro @gL_s <| And.intro @iF_t <| And.intro @iF_f <| And.intro @jn_s <| And.intro @v_var <| And.intro @v_glob <| And.intro @v_non <| And.intro @v_bl <| And.intro @v_int <| And.intro @v_str <| And.intro @v_tup <| And.intro @v_lst <| And.intro @v_bin <| And.intro @v_cat <| And.intro @v_neg <| And.intro @v_cmp <| And.intro @v_chain <| And.intro @v_and <| And.intro @v_or <| And.intro @v_not <| And.intro @v_ite <| And.intro @v_bf <| And.intro @v_isi <| And.intro @v_call <| And.intro @v_meth <| And.intro @v_idx <| And.intro @v_sli <| And.intro @v_rev <| And.intro @v_rep <| And.intro @v_lens <| And.intro @v_comp <| And.intro @v_srt <| And.intro @v_cnil <| And.intro @v_ccons <| And.intro @v_enil <| And.intro @v_econs <| And.intro @v_wseq <| And.intro @sq_str <| And.intro @sq_tup <| And.intro @sq_lst <| And.intro @sq_scr <| And.intro @sq_ref <| And.intro @v_wrng1 <| And.intro @v_wrng <| And.intro @v_wenum <| And.intro @v_wzip <| And.intro @v_tname <| And.intro @v_ttup <| And.intro @v_tnil <| And.intro @v_tcons <| And.intro @v_sexpr <| And.intro @v_sret <| And.intro @v_sasg <| And.intro @v_sseti <| And.intro @v_saug <| And.intro @v_site <| And.intro @v_sfor <| And.intro @v_spass <| And.intro @v_sbrk <| And.intro @v_scont <| And.intro @b_len <| And.intro @b_abs <| And.intro @b_int <| And.intro @b_intb <| And.intro @b_ord <| And.intro @b_str <| And.intro @b_list <| And.intro @b_tuple <| And.intro @b_all <| And.intro @b_any <| And.intro @b_min <| And.intro @b_max <| And.intro @b_sum <| And.intro @b_lens <| And.intro @m_append <| And.intro @m_extend <| And.intro @m_pop <| And.intro @m_index <| And.intro @m_join <| And.intro @r_tup <| And.intro @r_lst <| And.intro @s_str <| And.intro @s_tup <| And.intro @s_lst <| And.intro @s_ref <| And.intro @rv_tup <| And.intro @rv_lst <| And.intro @rv_ref <| And.intro @k_t <| And.intro @k_f <| And.intro @o_t <| And.intro @o_f <| And.intro @in_non <| And.intro @in_var <| And.intro @in_int <| And.intro @in_bin <| And.intro @in_call <| And.intro @in_neg <| And.intro @in_bf <| And.intro @in_idx <| And.intro @in_meth <| And.intro @in_ite <| And.intro @c_eq <| And.intro @c_ne <| And.intro @c_lt <| And.intro @c_gt <| And.intro @c_le <| And.intro @c_ge <| And.intro @c_in <| And.intro @c_nin <| And.intro @c_is <| And.intro @c_isn <| And.intro @mt_app <| And.intro @mt_ext <| And.intro @mt_pop_ <| And.intro @mt_ind <| And.intro @mt_joi <| And.intro @at0 <| And.intro @at1 <| And.intro @at2 <| And.intro @at3 <| And.intro @at4 <| And.intro @at5 <| And.intro @atm1 <| And.intro @ix0 <| And.intro @ix1 <| And.intro @ix2 <| And.intro @ix3 <| And.intro @ix4 <| And.intro @eq_ii <| And.intro @eq_bb <| And.intro @eq_ss <| And.intro @add_ii <| And.intro @sub_ii <| And.intro @mul_ii <| And.intro @fdiv_ii <| And.intro @mod_ii <| And.intro @pow_10 <| And.intro @add_ss <| And.intro @mul_si <| And.intro @add_tt <| And.intro @add_ll <| And.intro @lstOf_l <| And.intro @lt_ii <| And.intro @lt_ss <| And.intro @le_ii <| And.intro @le_ss <| And.intro @gt_ii <| And.intro @ge_ii <| And.intro @is_bb <| And.intro @is_non <| And.intro @isNon_n <| And.intro @isNon_i <| And.intro @isNon_s <| And.intro @isNon_b <| And.intro @isNon_t <| And.intro @isNon_l <| And.intro @isNon_r <| And.intro @isTup_t <| And.intro @isTup_l <| And.intro @isTup_r <| And.intro @isTup_c <| And.intro @seqOf_t <| And.intro @seqOf_l <| And.intro @seqOf_c <| And.intro @tyOf_i <| And.intro @tyOf_b <| And.intro @tyOf_s <| And.intro @tyOf_t <| And.intro @tyOf_l <| And.intro @tyOf_n <| And.intro @len_s <| And.intro @len_t <| And.intro @len_l <| And.intro @len_c <| And.intro @idx_s <| And.intro @idx_t <| And.intro @idx_l @idx_c
end Pf

namespace Pf
open PySem PySem.Spec PyProof.Rows L2
/-- the i-th place made since -/
def lc (h : DH) (i : Nat) : Nat := h.length + i
/-- h with us in the box at n, behind it L -/
def bx (h : DH) (n : Nat) (us : List D) (L : List Ob) : DH := h.set n (.lst us) ++ L
/-- h, behind it L -/
def vb (h : DH) (L : List Ob) : DH := h ++ L
section
variable {h : DH} {n i : Nat} {us vs : List D} {L : List Ob} {o : Ob}
theorem bx_in (e : h[n]? = some (.lst us)) : h = bx h n us [] := by
  obtain ⟨hl, e⟩ := List.getElem?_eq_some_iff.mp e
  unfold bx
  rw [List.append_nil, ← e]; exact (List.set_getElem_self hl).symm
theorem bx_out : bx h n us [] = h.set n (.lst us) := List.append_nil _
theorem bx_box (hn : n < h.length) : (bx h n us L)[n]? = some (.lst us) := by
  unfold bx
  rw [List.getElem?_append_left (by simpa using hn), List.getElem?_set_self hn]
theorem bx_loc : (bx h n us L)[lc h i]? = L[i]? := by
  unfold bx lc
  rw [List.getElem?_append_right (by simp), List.length_set, Nat.add_sub_cancel_left]
theorem bx_len : (bx h n us L).length = lc h L.length := by simp [bx, lc]
theorem bx_push : bx h n us L ++ [o] = bx h n us (L ++ [o]) := List.append_assoc _ _ _
theorem bx_setb (hn : n < h.length) : (bx h n us L).set n (.lst vs) = bx h n vs L := by
  unfold bx
  rw [List.set_append_left _ _ (by simpa using hn), List.set_set]
theorem bx_setl : (bx h n us L).set (lc h i) o = bx h n us (L.set i o) := by
  unfold bx lc
  rw [List.set_append_right _ _ (by simp), List.length_set, Nat.add_sub_cancel_left]
theorem bx_old (hn : n < h.length) {m : Nat} {p : Ob} (e : h[m]? = some p) (ne : m ≠ n) : (bx h n us L)[m]? = some p := by
  have hm := (List.getElem?_eq_some_iff.mp e).1
  unfold bx
  rw [List.getElem?_append_left (by simpa using hm), List.getElem?_set_ne (Ne.symm ne)]; exact e
theorem vb_in : h = vb h [] := (List.append_nil _).symm
theorem vb_loc : (vb h L)[lc h i]? = L[i]? := by
  unfold vb lc
  rw [List.getElem?_append_right (by simp), Nat.add_sub_cancel_left]
theorem vb_len : (vb h L).length = lc h L.length := by simp [vb, lc]
theorem vb_push : vb h L ++ [o] = vb h (L ++ [o]) := List.append_assoc _ _ _
theorem vb_setl : (vb h L).set (lc h i) o = vb h (L.set i o) := by
  unfold vb lc
  rw [List.set_append_right _ _ (by simp), Nat.add_sub_cancel_left]
theorem vb_old {m : Nat} {p : Ob} (e : h[m]? = some p) : (vb h L)[m]? = some p := by
  unfold vb
  rw [List.getElem?_append_left (List.getElem?_eq_some_iff.mp e).1]; exact e
end
def obT : Option Ob → Option Ty
  | some (.lst _) => some .list
  | _ => none
section
variable {h : DH} {k : Nat} {i : Int} {xs ys : List D} {x : D}
theorem obL_s : obL (some (.lst xs)) = some xs := rfl
theorem obT_s : obT (some (.lst xs)) = some .list := rfl
theorem seqOf_ref : seqOf h (.ref k) = obL h[k]? := by unfold seqOf obL; rfl
theorem lstOf_ref : lstOf h (.ref k) = obL h[k]? := by unfold lstOf obL; rfl
theorem tyOf_ref : tyOf h (.ref k) = obT h[k]? := by unfold tyOf obT; rfl
theorem len_ref : lenF h (.ref k) = (obL h[k]?).map List.length := by
  show (seqOf h (.ref k)).map List.length = _
  rw [seqOf_ref]
theorem idx_ref : idxF h (.ref k) (.int i) = (obL h[k]?).bind fun xs => atO xs i := by
  show (seqOf h (.ref k)).bind (fun xs => atO xs i) = _
  rw [seqOf_ref]
theorem add_refl : binF h .add (.ref k) (.lst ys) = (obL h[k]?).bind fun xs => if xs.length + ys.length ≤ 16777216 then some (.lst (xs ++ ys)) else none := by
  show (match lstOf h (.ref k), lstOf h (.lst ys) with | some xs, some ys => if xs.length + ys.length ≤ 16777216 then some (D.lst (xs ++ ys)) else none | _, _ => none) = _
  rw [lstOf_ref]
  cases obL h[k]? <;> rfl
theorem in_seq {y : D} (e : seqOf h y = some ys) (ny : ∀ s, y ≠ .str s) (p : x.pure = true) (q : D.pures ys = true) (d : x.depth ≤ 60) : inF h x y = some (ys.any fun z => D.eqv z x) := by
  unfold inF
  split
  · exact absurd rfl (ny _)
  · simp only [e, p, q, d, decide_true, Bool.and_self, if_true]
theorem eq_nil {y : D} (e : res h y = .lst ys) (p : D.pures ys = true) : eqF h y (.lst []) = some ys.isEmpty := by
  have e0 : eqF h y (.lst []) = eqF0 h y (.lst []) := by cases y <;> rfl
  rw [e0]
  unfold eqF0
  simp only [e, show res h (.lst []) = .lst [] from rfl, show (D.lst ys).pure = true from p, show (D.lst []).pure = true from rfl, show (D.lst []).depth ≤ 64 from by decide, Bool.and_self, Bool.true_and, decide_true, Bool.or_true, if_true]
  cases ys <;> rfl
theorem eq_nilT {ys : List D} (p : D.pures ys = true) : eqF h (.tup ys) (.tup []) = some ys.isEmpty := by
  have e0 : eqF h (.tup ys) (.tup []) = eqF0 h (.tup ys) (.tup []) := rfl
  rw [e0]
  unfold eqF0
  simp only [show res h (.tup ys) = .tup ys from rfl, show res h (.tup []) = .tup [] from rfl, show (D.tup ys).pure = true from p, show (D.tup []).pure = true from rfl, show (D.tup []).depth ≤ 64 from by decide, Bool.and_self, Bool.true_and, decide_true, Bool.or_true, if_true]
  cases ys <;> rfl
theorem res_ref (e : obL h[k]? = some xs) : res h (.ref k) = .lst xs := by
  unfold obL at e
  unfold res
  simp only
  split at e
  · rename_i q; cases e; first | rw [q] | rfl
  · cases e
end
theorem frs_same {h : DH} {n : Nat} {xs : List D} (p : D.pures xs = true) : Frs h n xs xs := Frs.same p
theorem lows_of_box {B : Int} {us : List D} {m : Nat} (b : BoxOk B us) : D.lows m us = true := by
  obtain ⟨a, b, c, rfl, _⟩ := b
  rfl
section
variable {h : DH} {n : Nat} {us : List D} {L : List Ob} {Q : DQ} {d d' : D} {B : Int}
/-- what was made since is left behind -/
theorem fz_bx (hn : n < h.length) (b : BoxOk B us) (fr : Fr (bx h n us L) h.length d d') (q : Q d' (h.set n (.lst us))) : Fz h Q d (bx h n us L) := by
  refine .inr ⟨d', fr, ⟨by rw [bx_len]; exact Nat.le_add_right _ _, fun m hm => ?_⟩, ?_⟩
  · by_cases e : m = n
    · subst e
      exact .inr ⟨_, bx_box hn, lows_of_box b⟩
    · refine .inl ?_
      unfold bx
      rw [List.getElem?_append_left (by simpa using hm), List.getElem?_set_ne (Ne.symm e)]
  · have e : (bx h n us L).take h.length = h.set n (.lst us) := by
      unfold bx
      rw [List.take_append_of_le_length (by simp), List.take_of_length_le (by simp)]
    rw [e]; exact q
theorem fz_pure (hn : n < h.length) (b : BoxOk B us) (p : d.pure = true) (q : Q d (h.set n (.lst us))) : Fz h Q d (bx h n us L) := fz_bx hn b (Fr.same p) q
theorem fz_list {i : Nat} {xs : List D} (hn : n < h.length) (b : BoxOk B us) (e : L[i]? = some (.lst xs)) (p : D.pures xs = true) (q : Q (.lst xs) (h.set n (.lst us))) : Fz h Q (.ref (lc h i)) (bx h n us L) :=
  fz_bx hn b (.new (Nat.le_add_right _ _) (by rw [bx_loc]; exact e) (Frs.same p)) q
theorem fz_vb (fr : Fr (vb h L) h.length d d') (q : Q d' h) : Fz h Q d (vb h L) := by
  refine .inr ⟨d', fr, ⟨by rw [vb_len]; exact Nat.le_add_right _ _, fun m hm => .inl ?_⟩, ?_⟩
  · unfold vb
    rw [List.getElem?_append_left hm]
  · have e : (vb h L).take h.length = h := by unfold vb; rw [List.take_append_of_le_length (Nat.le_refl _), List.take_of_length_le (Nat.le_refl _)]
    rw [e]; exact q
theorem fz_vpure (p : d.pure = true) (q : Q d h) : Fz h Q d (vb h L) := fz_vb (Fr.same p) q
theorem fz_vlist {i : Nat} {xs : List D} (e : L[i]? = some (.lst xs)) (p : D.pures xs = true) (q : Q (.lst xs) h) : Fz h Q (.ref (lc h i)) (vb h L) :=
  fz_vb (.new (Nat.le_add_right _ _) (by rw [vb_loc]; exact e) (Frs.same p)) q
theorem fz_id (q : Q d h) : Fz h Q d h := .inl q
end
/-- what follows has a name, for ways that meet -/
theorem sjoin {Φ : Fs} {xq : DQ} {s : S} {ss : Ss} {K : DE} {σ : DS} {h : DH} (q : ∀ N : DS → DH → Prop, (N = fun σ' h' => WSs Φ xq ss K σ' h') → WS Φ xq s { K with nx := N } σ h) : wpSs Φ xq (.cons s ss) K σ h := q _ rfl
theorem start_bx {Φ : Fs} {xq : DQ} {ss : Ss} {K : DE} {σ : DS} {h : DH} {n : Nat} {us : List D} (hg : h[n]? = some (.lst us)) (q : wpSs Φ xq ss K σ (bx h n us [])) : wpSs Φ xq ss K σ h := by
  rw [bx_in hg]; exact q
theorem start_vb {Φ : Fs} {xq : DQ} {ss : Ss} {K : DE} {σ : DS} {h : DH} (q : wpSs Φ xq ss K σ (vb h [])) : wpSs Φ xq ss K σ h := by
  rw [vb_in (h := h)]; exact q
theorem take_ok {H : DH} {n : Nat} {xs : List D} {B m : Int} {Q : DQ} (hb : BoxOk B xs) (hg : H[n]? = some (.lst xs)) (h1 : B ≤ 1000000000000) (h2 : 0 < m) (h3 : m ≤ 1000000)
    (k : ∀ r ys, 0 ≤ r → r < m → BoxOk (B + 1) ys → Q (.int r) (H.set n (.lst ys))) : spTake [.ref n, .int m] H Q NX := ⟨n, m, B, xs, rfl, hg, hb, h1, h2, h3, k⟩
/-- a comprehension whose turns ask the box; G tells the heap by the box -/
theorem compL_bx {f : D → DH → (Option D → DH → Prop) → Prop} {st : DH → Prop} (G : List D → DH) (P : D → Prop) {B c : Int} {us0 : List D} {Q : List D → DH → Prop} {items : List D} (hc : 0 ≤ c) (h0 : BoxOk B us0) (hst : ∀ us, st (G us))
    (step : ∀ x, x ∈ items → ∀ C us, BoxOk C us → B ≤ C → C + c ≤ B + items.length * c → ∀ k : Option D → DH → Prop, (∀ y vs, P y → BoxOk (C + c) vs → k (some y) (G vs)) → f x (G us) k)
    (fin : ∀ ys vs, ys.length = items.length → (∀ y ∈ ys, P y) → BoxOk (B + items.length * c) vs → Q ys (G vs)) : compL f st items [] (G us0) Q := by
  refine compL_inv (fun rest acc h' => ∃ us, h' = G us ∧ BoxOk (B + acc.length * c) us ∧ (∀ x ∈ acc, P x) ∧ acc.length + rest.length = items.length ∧ ∀ x ∈ rest, x ∈ items) (fun x rest acc h' ⟨us, e, hb, hp, hl, hm⟩ => ?_) (fun acc h' ⟨us, e, hb, hp, hl, hm⟩ => ?_) _ _ _ ⟨us0, rfl, by simpa using h0, (fun x m => absurd m (by simp)), by simp, fun x m => m⟩
  · subst e
    have l1 : (acc.length : Int) + 1 ≤ items.length := by rw [List.length_cons] at hl; omega
    have l2 := Int.mul_le_mul_of_nonneg_right l1 hc
    have l3 : 0 ≤ (acc.length : Int) * c := Int.mul_nonneg (by omega) hc
    rw [Int.add_mul, Int.one_mul] at l2
    refine ⟨hst us, fun k k1 k2 => step x (hm x (by simp)) _ us hb (by omega) (by omega) k fun y vs py hv => ?_⟩
    refine k1 y _ ⟨vs, rfl, ?_, fun z m => ?_, ?_, fun z m => hm z (by simp [m])⟩
    · rw [List.length_append, show ((acc.length + [y].length : Nat) : Int) = (acc.length : Int) + 1 by simp, Int.add_mul, Int.one_mul, ← Int.add_assoc]
      exact hv
    · rcases List.mem_append.mp m with m | m
      · exact hp z m
      · rw [List.mem_singleton.mp m]; exact py
    · rw [List.length_append]; simp at hl ⊢; omega
  · subst e
    have hl : acc.length = items.length := by simpa using hl
    exact ⟨hst us, fin acc us hl hp (by rw [← hl]; exact hb)⟩
/-- all of it, for simp -/
def HBs := And.intro @bx_loc <| And.intro @bx_len <| And.intro @bx_push <| And.intro @bx_setl <| And.intro @vb_loc <| And.intro @vb_len <| And.intro @vb_push <| And.intro @vb_setl <| And.intro @obL_s <| And.intro @obT_s <| And.intro @seqOf_ref <| And.intro @lstOf_ref <| And.intro @tyOf_ref <| And.intro @len_ref <| And.intro @idx_ref @add_refl
end Pf

namespace Pf
open PySem PySem.Spec PyProof.Rows L2
theorem forL_map {α : Type} (g : α → D) {f : D → DE → DS → DH → Prop} {st : DH → Prop} (I : List α → DS → DH → Prop) {K : DE}
    (step : ∀ x r σ h, I (x :: r) σ h → st h ∧ ∀ K' : DE, K'.rt = K.rt → (∀ σ' h', I r σ' h' → K'.nx σ' h') → (∀ σ' h', I r σ' h' → K'.ct σ' h') → (∀ σ' h', K.nx σ' h' → K'.bk σ' h') → f (g x) K' σ h)
    (fin : ∀ σ h, I [] σ h → st h ∧ K.nx σ h) : ∀ (items : List α) (σ : DS) (h : DH), I items σ h → forL f st (items.map g) K σ h
  | [], σ, h, q => fin σ h q
  | x :: r, σ, h, q => by
    obtain ⟨q1, q2⟩ := step x r σ h q
    exact ⟨q1, q2 _ rfl (fun σ' h' z => forL_map g I step fin r σ' h' z) (fun σ' h' z => forL_map g I step fin r σ' h' z) fun _ _ z => z⟩
theorem compL_invM {α : Type} (g : α → D) {f : D → DH → (Option D → DH → Prop) → Prop} {st : DH → Prop} (I : List α → List D → DH → Prop) {Q : List D → DH → Prop}
    (step : ∀ x r acc h, I (x :: r) acc h → st h ∧ ∀ k : Option D → DH → Prop, (∀ y h', I r (acc ++ [y]) h' → k (some y) h') → (∀ h', I r acc h' → k none h') → f (g x) h k)
    (fin : ∀ acc h, I [] acc h → st h ∧ Q acc h) : ∀ (items : List α) (acc : List D) (h : DH), I items acc h → compL f st (items.map g) acc h Q
  | [], acc, h, q => fin acc h q
  | x :: r, acc, h, q => by
    obtain ⟨q1, q2⟩ := step x r acc h q
    refine ⟨q1, ?_⟩
    refine q2 (fun o h' => match o with | some y => compL f st (r.map g) (acc ++ [y]) h' Q | none => compL f st (r.map g) acc h' Q) (fun y h' z => ?_) fun h' z => ?_
    · exact compL_invM g I step fin r (acc ++ [y]) h' z
    · exact compL_invM g I step fin r acc h' z
/-- each item by a function or left out, the heap as it was -/
theorem compL_fm {α : Type} (g : α → D) (w : α → Option D) {f : D → DH → (Option D → DH → Prop) → Prop} {st : DH → Prop} {h : DH} {Q : List D → DH → Prop} {items : List α} (hst : st h)
    (step : ∀ x, x ∈ items → ∀ k : Option D → DH → Prop, k (w x) h → f (g x) h k) (fin : Q (items.filterMap w) h) : compL f st (items.map g) [] h Q := by
  refine compL_invM g (fun r acc h' => h' = h ∧ ∃ d, items = d ++ r ∧ acc = d.filterMap w) (fun x r acc h' ⟨e, d, e1, e2⟩ => ?_) (fun acc h' ⟨e, d, e1, e2⟩ => ?_) items [] h ⟨rfl, [], rfl, rfl⟩
  · subst e
    refine ⟨hst, fun k k1 k2 => step x (by rw [e1]; simp) k ?_⟩
    cases hw : w x with
    | none => exact k2 _ ⟨rfl, d ++ [x], by rw [e1]; simp, by rw [e2]; simp [hw]⟩
    | some y => exact k1 _ _ ⟨rfl, d ++ [x], by rw [e1]; simp, by rw [e2]; simp [hw]⟩
  · subst e
    refine ⟨hst, ?_⟩
    rw [List.append_nil] at e1
    rw [e2, ← e1]
    exact fin
/-- each item by a function, the heap as it was -/
theorem compL_mp {α : Type} (g : α → D) (w : α → D) {f : D → DH → (Option D → DH → Prop) → Prop} {st : DH → Prop} {h : DH} {Q : List D → DH → Prop} {items : List α} (hst : st h)
    (step : ∀ x, x ∈ items → ∀ k : Option D → DH → Prop, k (some (w x)) h → f (g x) h k) (fin : Q (items.map w) h) : compL f st (items.map g) [] h Q :=
  compL_fm g (fun x => some (w x)) hst step (by rw [List.filterMap_eq_map']; exact fin)
theorem enumL_map {α : Type} (g : α → D) : ∀ (j : Nat) (xs : List α), enumL j (xs.map g) = (xs.zipIdx j).map fun p => .tup [.int (p.2 : Nat), g p.1]
  | j, [] => rfl
  | j, x :: xs => by
    show D.tup [.int j, g x] :: enumL (j + 1) (xs.map g) = _
    rw [enumL_map g (j + 1) xs]; rfl
theorem zipL_map {α β : Type} (f : α → D) (g : β → D) : ∀ (xs : List α) (ys : List β), zipL (xs.map f) (ys.map g) = (xs.zip ys).map fun p => .tup [f p.1, g p.2]
  | [], _ => by cases ‹List β› <;> rfl
  | _ :: _, [] => rfl
  | x :: xs, y :: ys => by
    show D.tup [f x, g y] :: zipL (xs.map f) (ys.map g) = _
    rw [zipL_map f g xs ys]; rfl
theorem erase_perm {α : Type} : ∀ {xs : List α} {i : Nat} (h : i < xs.length), (xs[i] :: xs.eraseIdx i).Perm xs
  | x :: xs, 0, _ => List.Perm.refl _
  | x :: xs, i + 1, h => by
    have hi : i < xs.length := by simpa using h
    have ih := erase_perm (xs := xs) (i := i) hi
    show (xs[i] :: x :: xs.eraseIdx i).Perm (x :: xs)
    exact (List.Perm.swap x xs[i] _).trans (List.Perm.cons x ih)
mutual
theorem eqv_eq : ∀ a b : D, a.pure = true → b.pure = true → a.nobool = true → b.nobool = true → D.eqv a b = true → a = b
  | .non, b, _, hb, _, _, e => by cases b <;> first | rfl | (simp [D.eqv] at e)
  | .int i, b, _, hb, _, nb, e => by
    cases b with
    | int j => simp [D.eqv] at e; rw [e]
    | bl _ => cases nb
    | _ => simp [D.eqv] at e
  | .str i, b, _, hb, _, nb, e => by
    cases b with
    | str j => simp [D.eqv] at e; rw [e]
    | _ => simp [D.eqv] at e
  | .tup xs, b, ha, hb, na, nb, e => by
    cases b with
    | tup ys => rw [eqvs_eq xs ys ha hb na nb (by simpa [D.eqv] using e)]
    | _ => simp [D.eqv] at e
  | .lst xs, b, ha, hb, na, nb, e => by
    cases b with
    | lst ys => rw [eqvs_eq xs ys ha hb na nb (by simpa [D.eqv] using e)]
    | _ => simp [D.eqv] at e
theorem eqvs_eq : ∀ xs ys : List D, D.pures xs = true → D.pures ys = true → D.nobools xs = true → D.nobools ys = true → D.eqvs xs ys = true → xs = ys
  | [], ys, _, _, _, _, e => by cases ys <;> first | rfl | (simp [D.eqvs] at e)
  | x :: xs, ys, ha, hb, na, nb, e => by
    cases ys with
    | nil => simp [D.eqvs] at e
    | cons y ys =>
      have ha : (x.pure && D.pures xs) = true := ha
      have hb : (y.pure && D.pures ys) = true := hb
      have na : (x.nobool && D.nobools xs) = true := na
      have nb : (y.nobool && D.nobools ys) = true := nb
      have e : (D.eqv x y && D.eqvs xs ys) = true := e
      rw [Bool.and_eq_true] at ha hb na nb e
      rw [eqv_eq x y ha.1 hb.1 na.1 nb.1 e.1, eqvs_eq xs ys ha.2 hb.2 na.2 nb.2 e.2]
end
/-- plain data: no list's place within, no truth -/
structure Pl (d : D) : Prop where
  p : d.pure = true
  n : d.nobool = true
theorem Pl.eqv_iff {a b : D} (ha : Pl a) (hb : Pl b) : D.eqv a b = true ↔ a = b :=
  ⟨eqv_eq a b ha.p hb.p ha.n hb.n, fun e => by rw [e]; exact eqv_self b hb.p⟩
theorem pls_of {xs : List D} (h : ∀ x ∈ xs, Pl x) : D.pures xs = true ∧ D.nobools xs = true := by
  refine ⟨pures_of fun x m => (h x m).p, ?_⟩
  induction xs with
  | nil => rfl
  | cons x xs ih =>
    show (x.nobool && D.nobools xs) = true
    rw [(h x (by simp)).n, ih fun y m => h y (by simp [m])]; rfl
theorem Pl.tup {xs : List D} (h : ∀ x ∈ xs, Pl x) : Pl (.tup xs) := ⟨(pls_of h).1, (pls_of h).2⟩
theorem Pl.lst {xs : List D} (h : ∀ x ∈ xs, Pl x) : Pl (.lst xs) := ⟨(pls_of h).1, (pls_of h).2⟩
theorem Val.pl {d : D} (h : Val d) : Pl d := by
  refine ⟨h.pure, ?_⟩
  rcases h.cases with rfl | ⟨i, rfl⟩ | ⟨s, rfl, _, _⟩ <;> rfl
theorem any_eqv {x : D} {ys : List D} (hx : Pl x) (hy : ∀ y ∈ ys, Pl y) : (ys.any fun z => D.eqv z x) = true ↔ x ∈ ys := by
  rw [List.any_eq_true]
  constructor
  · rintro ⟨z, m, e⟩
    rw [← ((hy z m).eqv_iff hx).mp e]; exact m
  · intro m
    exact ⟨x, m, (hx.eqv_iff hx).mpr rfl⟩
theorem val_depth0 {d : D} (h : Val d) : d.depth = 0 := by
  rcases h.cases with rfl | ⟨i, rfl⟩ | ⟨s, rfl, _, _⟩ <;> rfl
theorem depth_tup {xs : List D} {k : Nat} (h : ∀ x ∈ xs, x.depth ≤ k) : (D.tup xs).depth ≤ k + 1 := by
  show D.depths xs + 1 ≤ k + 1
  have := depths_le h
  omega
end Pf

namespace Pf
open PySem PySem.Spec PyProof.Rows L2
def f_law_many : Fn := ⟨4, 4, (.cons (.ite (.cmp .eq (.call "_law_take" (.cons (.var 0) (.cons (.int 8) .nil))) (.int 0)) (.cons (.ret (.bin .add (.int 7) (.call "_law_take" (.cons (.var 0) (.cons (.bin .sub (.var 3) (.int 6)) .nil))))) .nil) .nil) (.cons (.ret (.bin .add (.var 1) (.call "_law_take" (.cons (.var 0) (.cons (.bin .add (.bin .sub (.var 2) (.var 1)) (.int 1)) .nil))))) .nil))⟩
def spMany : Spc := fun ds h Q _ => ∃ (n : Nat) (B a b c : Int) (xs : List D), ds = [.ref n, .int a, .int b, .int c] ∧ h[n]? = some (.lst xs) ∧ BoxOk B xs ∧ B ≤ 980000000000 ∧ (0 ≤ a ∧ a ≤ b ∧ b ≤ 1000 ∧ a ≤ 7 ∧ 7 ≤ c ∧ c ≤ 1000) ∧
  ∀ r ys, a ≤ r → (r ≤ b ∨ r ≤ c) → BoxOk (B + 2) ys → Q (.int r) (h.set n (.lst ys))
theorem many_ok {H : DH} {n : Nat} {xs : List D} {B a b c : Int} {Q : DQ} (hb : BoxOk B xs) (hg : H[n]? = some (.lst xs)) (h1 : B ≤ 980000000000) (h2 : 0 ≤ a ∧ a ≤ b ∧ b ≤ 1000 ∧ a ≤ 7 ∧ 7 ≤ c ∧ c ≤ 1000)
    (k : ∀ r ys, a ≤ r → (r ≤ b ∨ r ≤ c) → BoxOk (B + 2) ys → Q (.int r) (H.set n (.lst ys))) : spMany [.ref n, .int a, .int b, .int c] H Q NX := ⟨n, B, a, b, c, xs, rfl, hg, hb, h1, h2, k⟩
theorem i_many {Φ : Fs} (et : Φ.fn "_law_take" = spTake) : Impl Φ f_law_many spMany := by
  rintro ds h Q ⟨n, B, a, b, c, xs, rfl, hg, hb, hB, hh, q⟩
  have hn : n < h.length := (List.getElem?_eq_some_iff.mp hg).1
  refine ⟨rfl, start_bx hg ?_⟩
  refine soneW ?_; try simp only [EVs, Ts.len, List.getElem?_cons_zero, List.getElem?_cons_succ, List.set_cons_zero, List.set_cons_succ, Option.some.injEq, D.int.injEq, D.bl.injEq, D.str.injEq, D.tup.injEq, D.lst.injEq, D.ref.injEq, exists_eq_left, exists_eq_left', true_and, and_true, if_true, if_false, Bool.false_eq_true, Bool.true_eq_false, reduceCtorEq, List.length_cons, List.length_nil, Option.map_some, List.any_cons, List.any_nil, Bool.or_false, isTy, decide_true, decide_false, Bool.and_true, Bool.and_false, Bool.or_true, Bool.true_or, Bool.false_or, Bool.false_and, Bool.true_and, Bool.not_true, Bool.not_false, startD, List.map_cons, List.map_nil, List.cons_append, List.nil_append, List.replicate_zero, List.replicate_succ, Nat.reduceSub, Nat.reduceAdd, Option.isSome_some, wipeD, false_and, and_false, exists_false, false_or, or_false, gt_iff_lt, ge_iff_le, Option.bind_some, decide_eq_true_eq, Nat.reduceLeDiff, Nat.zero_le, Int.reduceLE, Int.reduceLT, Nat.reducePow, Int.reducePow, Int.reduceNeg, Int.reduceToNat, Int.reduceSub, Int.reduceMul, Int.reduceAdd, or_true, true_or, Nat.reduceLT, and_self, Int.reduceEq, Nat.reduceEqDiff, exists_and_left, HBs, bx_box hn, bx_setb hn, Ob.lst.injEq, f_law_many, et]
  refine take_ok hb (bx_box hn) (by omega) (by omega) (by omega) fun r us r0 r1 hb => ?_
  try simp only [EVs, Ts.len, List.getElem?_cons_zero, List.getElem?_cons_succ, List.set_cons_zero, List.set_cons_succ, Option.some.injEq, D.int.injEq, D.bl.injEq, D.str.injEq, D.tup.injEq, D.lst.injEq, D.ref.injEq, exists_eq_left, exists_eq_left', true_and, and_true, if_true, if_false, Bool.false_eq_true, Bool.true_eq_false, reduceCtorEq, List.length_cons, List.length_nil, Option.map_some, List.any_cons, List.any_nil, Bool.or_false, isTy, decide_true, decide_false, Bool.and_true, Bool.and_false, Bool.or_true, Bool.true_or, Bool.false_or, Bool.false_and, Bool.true_and, Bool.not_true, Bool.not_false, startD, List.map_cons, List.map_nil, List.cons_append, List.nil_append, List.replicate_zero, List.replicate_succ, Nat.reduceSub, Nat.reduceAdd, Option.isSome_some, wipeD, false_and, and_false, exists_false, false_or, or_false, gt_iff_lt, ge_iff_le, Option.bind_some, decide_eq_true_eq, Nat.reduceLeDiff, Nat.zero_le, Int.reduceLE, Int.reduceLT, Nat.reducePow, Int.reducePow, Int.reduceNeg, Int.reduceToNat, Int.reduceSub, Int.reduceMul, Int.reduceAdd, or_true, true_or, Nat.reduceLT, and_self, Int.reduceEq, Nat.reduceEqDiff, exists_and_left, HBs, bx_box hn, bx_setb hn, Ob.lst.injEq]
  refine iF_d (fun hr => ?_) (fun hr => ?_)
  · skip
    refine soneW ?_; try simp only [EVs, Ts.len, List.getElem?_cons_zero, List.getElem?_cons_succ, List.set_cons_zero, List.set_cons_succ, Option.some.injEq, D.int.injEq, D.bl.injEq, D.str.injEq, D.tup.injEq, D.lst.injEq, D.ref.injEq, exists_eq_left, exists_eq_left', true_and, and_true, if_true, if_false, Bool.false_eq_true, Bool.true_eq_false, reduceCtorEq, List.length_cons, List.length_nil, Option.map_some, List.any_cons, List.any_nil, Bool.or_false, isTy, decide_true, decide_false, Bool.and_true, Bool.and_false, Bool.or_true, Bool.true_or, Bool.false_or, Bool.false_and, Bool.true_and, Bool.not_true, Bool.not_false, startD, List.map_cons, List.map_nil, List.cons_append, List.nil_append, List.replicate_zero, List.replicate_succ, Nat.reduceSub, Nat.reduceAdd, Option.isSome_some, wipeD, false_and, and_false, exists_false, false_or, or_false, gt_iff_lt, ge_iff_le, Option.bind_some, decide_eq_true_eq, Nat.reduceLeDiff, Nat.zero_le, Int.reduceLE, Int.reduceLT, Nat.reducePow, Int.reducePow, Int.reduceNeg, Int.reduceToNat, Int.reduceSub, Int.reduceMul, Int.reduceAdd, or_true, true_or, Nat.reduceLT, and_self, Int.reduceEq, Nat.reduceEqDiff, exists_and_left, HBs, bx_box hn, bx_setb hn, Ob.lst.injEq, et]
    refine take_ok hb (bx_box hn) (by omega) (by omega) (by omega) fun r us r0 r1 hb => ?_
    try simp only [EVs, Ts.len, List.getElem?_cons_zero, List.getElem?_cons_succ, List.set_cons_zero, List.set_cons_succ, Option.some.injEq, D.int.injEq, D.bl.injEq, D.str.injEq, D.tup.injEq, D.lst.injEq, D.ref.injEq, exists_eq_left, exists_eq_left', true_and, and_true, if_true, if_false, Bool.false_eq_true, Bool.true_eq_false, reduceCtorEq, List.length_cons, List.length_nil, Option.map_some, List.any_cons, List.any_nil, Bool.or_false, isTy, decide_true, decide_false, Bool.and_true, Bool.and_false, Bool.or_true, Bool.true_or, Bool.false_or, Bool.false_and, Bool.true_and, Bool.not_true, Bool.not_false, startD, List.map_cons, List.map_nil, List.cons_append, List.nil_append, List.replicate_zero, List.replicate_succ, Nat.reduceSub, Nat.reduceAdd, Option.isSome_some, wipeD, false_and, and_false, exists_false, false_or, or_false, gt_iff_lt, ge_iff_le, Option.bind_some, decide_eq_true_eq, Nat.reduceLeDiff, Nat.zero_le, Int.reduceLE, Int.reduceLT, Nat.reducePow, Int.reducePow, Int.reduceNeg, Int.reduceToNat, Int.reduceSub, Int.reduceMul, Int.reduceAdd, or_true, true_or, Nat.reduceLT, and_self, Int.reduceEq, Nat.reduceEqDiff, exists_and_left, HBs, bx_box hn, bx_setb hn, Ob.lst.injEq]
    refine fz_pure hn hb rfl (q _ _ (by omega) (.inr (by omega)) (hb.mono (by omega)))
  · skip
    refine snil ?_
    refine soneW ?_; try simp only [EVs, Ts.len, List.getElem?_cons_zero, List.getElem?_cons_succ, List.set_cons_zero, List.set_cons_succ, Option.some.injEq, D.int.injEq, D.bl.injEq, D.str.injEq, D.tup.injEq, D.lst.injEq, D.ref.injEq, exists_eq_left, exists_eq_left', true_and, and_true, if_true, if_false, Bool.false_eq_true, Bool.true_eq_false, reduceCtorEq, List.length_cons, List.length_nil, Option.map_some, List.any_cons, List.any_nil, Bool.or_false, isTy, decide_true, decide_false, Bool.and_true, Bool.and_false, Bool.or_true, Bool.true_or, Bool.false_or, Bool.false_and, Bool.true_and, Bool.not_true, Bool.not_false, startD, List.map_cons, List.map_nil, List.cons_append, List.nil_append, List.replicate_zero, List.replicate_succ, Nat.reduceSub, Nat.reduceAdd, Option.isSome_some, wipeD, false_and, and_false, exists_false, false_or, or_false, gt_iff_lt, ge_iff_le, Option.bind_some, decide_eq_true_eq, Nat.reduceLeDiff, Nat.zero_le, Int.reduceLE, Int.reduceLT, Nat.reducePow, Int.reducePow, Int.reduceNeg, Int.reduceToNat, Int.reduceSub, Int.reduceMul, Int.reduceAdd, or_true, true_or, Nat.reduceLT, and_self, Int.reduceEq, Nat.reduceEqDiff, exists_and_left, HBs, bx_box hn, bx_setb hn, Ob.lst.injEq, et]
    refine take_ok hb (bx_box hn) (by omega) (by omega) (by omega) fun r us r0 r1 hb => ?_
    try simp only [EVs, Ts.len, List.getElem?_cons_zero, List.getElem?_cons_succ, List.set_cons_zero, List.set_cons_succ, Option.some.injEq, D.int.injEq, D.bl.injEq, D.str.injEq, D.tup.injEq, D.lst.injEq, D.ref.injEq, exists_eq_left, exists_eq_left', true_and, and_true, if_true, if_false, Bool.false_eq_true, Bool.true_eq_false, reduceCtorEq, List.length_cons, List.length_nil, Option.map_some, List.any_cons, List.any_nil, Bool.or_false, isTy, decide_true, decide_false, Bool.and_true, Bool.and_false, Bool.or_true, Bool.true_or, Bool.false_or, Bool.false_and, Bool.true_and, Bool.not_true, Bool.not_false, startD, List.map_cons, List.map_nil, List.cons_append, List.nil_append, List.replicate_zero, List.replicate_succ, Nat.reduceSub, Nat.reduceAdd, Option.isSome_some, wipeD, false_and, and_false, exists_false, false_or, or_false, gt_iff_lt, ge_iff_le, Option.bind_some, decide_eq_true_eq, Nat.reduceLeDiff, Nat.zero_le, Int.reduceLE, Int.reduceLT, Nat.reducePow, Int.reducePow, Int.reduceNeg, Int.reduceToNat, Int.reduceSub, Int.reduceMul, Int.reduceAdd, or_true, true_or, Nat.reduceLT, and_self, Int.reduceEq, Nat.reduceEqDiff, exists_and_left, HBs, bx_box hn, bx_setb hn, Ob.lst.injEq]
    refine fz_pure hn hb rfl (q _ _ (by omega) (.inl (by omega)) (hb.mono (by omega)))
def SV (d : D) : Prop := Val d ∧ (py d).showable = true ∧ shl d ≤ 30
def SVs (xs : List D) : Prop := ∀ x ∈ xs, SV x
def svB (d : D) : Bool := valB d && (py d).showable && decide (shl d ≤ 30)
theorem sv_of {d : D} (h : svB d = true) : SV d := by
  unfold svB at h
  simp only [Bool.and_eq_true, decide_eq_true_eq] at h
  exact ⟨val_of h.1.1, h.1.2, h.2⟩
theorem svs_of {xs : List D} (h : xs.all svB = true) : SVs xs := fun x m => sv_of (List.all_eq_true.mp h x m)
/-- whole numbers in a written stretch -/
theorem sv_rng {lo : Int} {n : Nat} (h : ((List.range n).all fun k => svB (.int (lo + (k : Nat)))) = true) {i : Int} (h1 : lo ≤ i) (h2 : i < lo + n) : SV (.int i) := by
  have := List.all_eq_true.mp h (i - lo).toNat (List.mem_range.mpr (by omega))
  have e : lo + ((i - lo).toNat : Nat) = i := by omega
  rw [e] at this
  exact sv_of this
def spVal : Spc := fun ds h Q _ => ∃ (n : Nat) (B : Int) (xs : List D), ds = [.ref n] ∧ h[n]? = some (.lst xs) ∧ BoxOk B xs ∧ B ≤ 990000000000 ∧ ∀ d ys, SV d → BoxOk (B + 2) ys → Q d (h.set n (.lst ys))
theorem value_ok {H : DH} {n : Nat} {xs : List D} {B : Int} {Q : DQ} (hb : BoxOk B xs) (hg : H[n]? = some (.lst xs)) (h1 : B ≤ 990000000000)
    (k : ∀ d ys, SV d → BoxOk (B + 2) ys → Q d (H.set n (.lst ys))) : spVal [.ref n] H Q NX := ⟨n, B, xs, rfl, hg, hb, h1, k⟩
theorem i_val {Φ : Fs} (et : Φ.fn "_law_take" = spTake) : Impl Φ f_law_value spVal := by
  rintro ds h Q ⟨n, B, xs, rfl, hg, hb, hB, q⟩
  have hn : n < h.length := (List.getElem?_eq_some_iff.mp hg).1
  refine ⟨rfl, start_bx hg ?_⟩
  refine soneW ?_; try simp only [EVs, Ts.len, List.getElem?_cons_zero, List.getElem?_cons_succ, List.set_cons_zero, List.set_cons_succ, Option.some.injEq, D.int.injEq, D.bl.injEq, D.str.injEq, D.tup.injEq, D.lst.injEq, D.ref.injEq, exists_eq_left, exists_eq_left', true_and, and_true, if_true, if_false, Bool.false_eq_true, Bool.true_eq_false, reduceCtorEq, List.length_cons, List.length_nil, Option.map_some, List.any_cons, List.any_nil, Bool.or_false, isTy, decide_true, decide_false, Bool.and_true, Bool.and_false, Bool.or_true, Bool.true_or, Bool.false_or, Bool.false_and, Bool.true_and, Bool.not_true, Bool.not_false, startD, List.map_cons, List.map_nil, List.cons_append, List.nil_append, List.replicate_zero, List.replicate_succ, Nat.reduceSub, Nat.reduceAdd, Option.isSome_some, wipeD, false_and, and_false, exists_false, false_or, or_false, gt_iff_lt, ge_iff_le, Option.bind_some, decide_eq_true_eq, Nat.reduceLeDiff, Nat.zero_le, Int.reduceLE, Int.reduceLT, Nat.reducePow, Int.reducePow, Int.reduceNeg, Int.reduceToNat, Int.reduceSub, Int.reduceMul, Int.reduceAdd, or_true, true_or, Nat.reduceLT, and_self, Int.reduceEq, Nat.reduceEqDiff, exists_and_left, HBs, bx_box hn, bx_setb hn, Ob.lst.injEq, f_law_value, et]
  refine take_ok hb (bx_box hn) (by omega) (by omega) (by omega) fun r us r0 r1 hb => ?_
  try simp only [EVs, Ts.len, List.getElem?_cons_zero, List.getElem?_cons_succ, List.set_cons_zero, List.set_cons_succ, Option.some.injEq, D.int.injEq, D.bl.injEq, D.str.injEq, D.tup.injEq, D.lst.injEq, D.ref.injEq, exists_eq_left, exists_eq_left', true_and, and_true, if_true, if_false, Bool.false_eq_true, Bool.true_eq_false, reduceCtorEq, List.length_cons, List.length_nil, Option.map_some, List.any_cons, List.any_nil, Bool.or_false, isTy, decide_true, decide_false, Bool.and_true, Bool.and_false, Bool.or_true, Bool.true_or, Bool.false_or, Bool.false_and, Bool.true_and, Bool.not_true, Bool.not_false, startD, List.map_cons, List.map_nil, List.cons_append, List.nil_append, List.replicate_zero, List.replicate_succ, Nat.reduceSub, Nat.reduceAdd, Option.isSome_some, wipeD, false_and, and_false, exists_false, false_or, or_false, gt_iff_lt, ge_iff_le, Option.bind_some, decide_eq_true_eq, Nat.reduceLeDiff, Nat.zero_le, Int.reduceLE, Int.reduceLT, Nat.reducePow, Int.reducePow, Int.reduceNeg, Int.reduceToNat, Int.reduceSub, Int.reduceMul, Int.reduceAdd, or_true, true_or, Nat.reduceLT, and_self, Int.reduceEq, Nat.reduceEqDiff, exists_and_left, HBs, bx_box hn, bx_setb hn, Ob.lst.injEq]
  refine soneW ?_; try simp only [EVs, Ts.len, List.getElem?_cons_zero, List.getElem?_cons_succ, List.set_cons_zero, List.set_cons_succ, Option.some.injEq, D.int.injEq, D.bl.injEq, D.str.injEq, D.tup.injEq, D.lst.injEq, D.ref.injEq, exists_eq_left, exists_eq_left', true_and, and_true, if_true, if_false, Bool.false_eq_true, Bool.true_eq_false, reduceCtorEq, List.length_cons, List.length_nil, Option.map_some, List.any_cons, List.any_nil, Bool.or_false, isTy, decide_true, decide_false, Bool.and_true, Bool.and_false, Bool.or_true, Bool.true_or, Bool.false_or, Bool.false_and, Bool.true_and, Bool.not_true, Bool.not_false, startD, List.map_cons, List.map_nil, List.cons_append, List.nil_append, List.replicate_zero, List.replicate_succ, Nat.reduceSub, Nat.reduceAdd, Option.isSome_some, wipeD, false_and, and_false, exists_false, false_or, or_false, gt_iff_lt, ge_iff_le, Option.bind_some, decide_eq_true_eq, Nat.reduceLeDiff, Nat.zero_le, Int.reduceLE, Int.reduceLT, Nat.reducePow, Int.reducePow, Int.reduceNeg, Int.reduceToNat, Int.reduceSub, Int.reduceMul, Int.reduceAdd, or_true, true_or, Nat.reduceLT, and_self, Int.reduceEq, Nat.reduceEqDiff, exists_and_left, HBs, bx_box hn, bx_setb hn, Ob.lst.injEq]
  refine iF_d (fun hr => ?_) (fun hr => ?_)
  · refine soneW ?_; try simp only [EVs, Ts.len, List.getElem?_cons_zero, List.getElem?_cons_succ, List.set_cons_zero, List.set_cons_succ, Option.some.injEq, D.int.injEq, D.bl.injEq, D.str.injEq, D.tup.injEq, D.lst.injEq, D.ref.injEq, exists_eq_left, exists_eq_left', true_and, and_true, if_true, if_false, Bool.false_eq_true, Bool.true_eq_false, reduceCtorEq, List.length_cons, List.length_nil, Option.map_some, List.any_cons, List.any_nil, Bool.or_false, isTy, decide_true, decide_false, Bool.and_true, Bool.and_false, Bool.or_true, Bool.true_or, Bool.false_or, Bool.false_and, Bool.true_and, Bool.not_true, Bool.not_false, startD, List.map_cons, List.map_nil, List.cons_append, List.nil_append, List.replicate_zero, List.replicate_succ, Nat.reduceSub, Nat.reduceAdd, Option.isSome_some, wipeD, false_and, and_false, exists_false, false_or, or_false, gt_iff_lt, ge_iff_le, Option.bind_some, decide_eq_true_eq, Nat.reduceLeDiff, Nat.zero_le, Int.reduceLE, Int.reduceLT, Nat.reducePow, Int.reducePow, Int.reduceNeg, Int.reduceToNat, Int.reduceSub, Int.reduceMul, Int.reduceAdd, or_true, true_or, Nat.reduceLT, and_self, Int.reduceEq, Nat.reduceEqDiff, exists_and_left, HBs, bx_box hn, bx_setb hn, Ob.lst.injEq, et]
    refine take_ok hb (bx_box hn) (by omega) (by omega) (by omega) fun r us r0 r1 hb => ?_
    try simp only [EVs, Ts.len, List.getElem?_cons_zero, List.getElem?_cons_succ, List.set_cons_zero, List.set_cons_succ, Option.some.injEq, D.int.injEq, D.bl.injEq, D.str.injEq, D.tup.injEq, D.lst.injEq, D.ref.injEq, exists_eq_left, exists_eq_left', true_and, and_true, if_true, if_false, Bool.false_eq_true, Bool.true_eq_false, reduceCtorEq, List.length_cons, List.length_nil, Option.map_some, List.any_cons, List.any_nil, Bool.or_false, isTy, decide_true, decide_false, Bool.and_true, Bool.and_false, Bool.or_true, Bool.true_or, Bool.false_or, Bool.false_and, Bool.true_and, Bool.not_true, Bool.not_false, startD, List.map_cons, List.map_nil, List.cons_append, List.nil_append, List.replicate_zero, List.replicate_succ, Nat.reduceSub, Nat.reduceAdd, Option.isSome_some, wipeD, false_and, and_false, exists_false, false_or, or_false, gt_iff_lt, ge_iff_le, Option.bind_some, decide_eq_true_eq, Nat.reduceLeDiff, Nat.zero_le, Int.reduceLE, Int.reduceLT, Nat.reducePow, Int.reducePow, Int.reduceNeg, Int.reduceToNat, Int.reduceSub, Int.reduceMul, Int.reduceAdd, or_true, true_or, Nat.reduceLT, and_self, Int.reduceEq, Nat.reduceEqDiff, exists_and_left, HBs, bx_box hn, bx_setb hn, Ob.lst.injEq]
    exact fz_pure hn hb rfl (q _ _ (sv_rng (lo := -3) (n := 13) (by decide +kernel) (by omega) (by omega)) (hb.mono (by omega)))
  refine snil (Φ := Φ) (xq := NX) ?_
  refine soneW ?_; try simp only [EVs, Ts.len, List.getElem?_cons_zero, List.getElem?_cons_succ, List.set_cons_zero, List.set_cons_succ, Option.some.injEq, D.int.injEq, D.bl.injEq, D.str.injEq, D.tup.injEq, D.lst.injEq, D.ref.injEq, exists_eq_left, exists_eq_left', true_and, and_true, if_true, if_false, Bool.false_eq_true, Bool.true_eq_false, reduceCtorEq, List.length_cons, List.length_nil, Option.map_some, List.any_cons, List.any_nil, Bool.or_false, isTy, decide_true, decide_false, Bool.and_true, Bool.and_false, Bool.or_true, Bool.true_or, Bool.false_or, Bool.false_and, Bool.true_and, Bool.not_true, Bool.not_false, startD, List.map_cons, List.map_nil, List.cons_append, List.nil_append, List.replicate_zero, List.replicate_succ, Nat.reduceSub, Nat.reduceAdd, Option.isSome_some, wipeD, false_and, and_false, exists_false, false_or, or_false, gt_iff_lt, ge_iff_le, Option.bind_some, decide_eq_true_eq, Nat.reduceLeDiff, Nat.zero_le, Int.reduceLE, Int.reduceLT, Nat.reducePow, Int.reducePow, Int.reduceNeg, Int.reduceToNat, Int.reduceSub, Int.reduceMul, Int.reduceAdd, or_true, true_or, Nat.reduceLT, and_self, Int.reduceEq, Nat.reduceEqDiff, exists_and_left, HBs, bx_box hn, bx_setb hn, Ob.lst.injEq]
  refine iF_d (fun hr => ?_) (fun hr => ?_)
  · refine soneW ?_; try simp only [EVs, Ts.len, List.getElem?_cons_zero, List.getElem?_cons_succ, List.set_cons_zero, List.set_cons_succ, Option.some.injEq, D.int.injEq, D.bl.injEq, D.str.injEq, D.tup.injEq, D.lst.injEq, D.ref.injEq, exists_eq_left, exists_eq_left', true_and, and_true, if_true, if_false, Bool.false_eq_true, Bool.true_eq_false, reduceCtorEq, List.length_cons, List.length_nil, Option.map_some, List.any_cons, List.any_nil, Bool.or_false, isTy, decide_true, decide_false, Bool.and_true, Bool.and_false, Bool.or_true, Bool.true_or, Bool.false_or, Bool.false_and, Bool.true_and, Bool.not_true, Bool.not_false, startD, List.map_cons, List.map_nil, List.cons_append, List.nil_append, List.replicate_zero, List.replicate_succ, Nat.reduceSub, Nat.reduceAdd, Option.isSome_some, wipeD, false_and, and_false, exists_false, false_or, or_false, gt_iff_lt, ge_iff_le, Option.bind_some, decide_eq_true_eq, Nat.reduceLeDiff, Nat.zero_le, Int.reduceLE, Int.reduceLT, Nat.reducePow, Int.reducePow, Int.reduceNeg, Int.reduceToNat, Int.reduceSub, Int.reduceMul, Int.reduceAdd, or_true, true_or, Nat.reduceLT, and_self, Int.reduceEq, Nat.reduceEqDiff, exists_and_left, HBs, bx_box hn, bx_setb hn, Ob.lst.injEq, et]
    refine take_ok hb (bx_box hn) (by omega) (by omega) (by omega) fun r us r0 r1 hb => ?_
    try simp only [EVs, Ts.len, List.getElem?_cons_zero, List.getElem?_cons_succ, List.set_cons_zero, List.set_cons_succ, Option.some.injEq, D.int.injEq, D.bl.injEq, D.str.injEq, D.tup.injEq, D.lst.injEq, D.ref.injEq, exists_eq_left, exists_eq_left', true_and, and_true, if_true, if_false, Bool.false_eq_true, Bool.true_eq_false, reduceCtorEq, List.length_cons, List.length_nil, Option.map_some, List.any_cons, List.any_nil, Bool.or_false, isTy, decide_true, decide_false, Bool.and_true, Bool.and_false, Bool.or_true, Bool.true_or, Bool.false_or, Bool.false_and, Bool.true_and, Bool.not_true, Bool.not_false, startD, List.map_cons, List.map_nil, List.cons_append, List.nil_append, List.replicate_zero, List.replicate_succ, Nat.reduceSub, Nat.reduceAdd, Option.isSome_some, wipeD, false_and, and_false, exists_false, false_or, or_false, gt_iff_lt, ge_iff_le, Option.bind_some, decide_eq_true_eq, Nat.reduceLeDiff, Nat.zero_le, Int.reduceLE, Int.reduceLT, Nat.reducePow, Int.reducePow, Int.reduceNeg, Int.reduceToNat, Int.reduceSub, Int.reduceMul, Int.reduceAdd, or_true, true_or, Nat.reduceLT, and_self, Int.reduceEq, Nat.reduceEqDiff, exists_and_left, HBs, bx_box hn, bx_setb hn, Ob.lst.injEq]
    obtain ⟨x, ex, hx⟩ := at_mem (P := SV) (xs := ([.int 999999999999, .int (-100000000000), .int 100, .int 10] : List D)) (i := r) (svs_of (by decide +kernel)) r0 (by simpa using r1)
    try simp only [EVs, Ts.len, List.getElem?_cons_zero, List.getElem?_cons_succ, List.set_cons_zero, List.set_cons_succ, Option.some.injEq, D.int.injEq, D.bl.injEq, D.str.injEq, D.tup.injEq, D.lst.injEq, D.ref.injEq, exists_eq_left, exists_eq_left', true_and, and_true, if_true, if_false, Bool.false_eq_true, Bool.true_eq_false, reduceCtorEq, List.length_cons, List.length_nil, Option.map_some, List.any_cons, List.any_nil, Bool.or_false, isTy, decide_true, decide_false, Bool.and_true, Bool.and_false, Bool.or_true, Bool.true_or, Bool.false_or, Bool.false_and, Bool.true_and, Bool.not_true, Bool.not_false, startD, List.map_cons, List.map_nil, List.cons_append, List.nil_append, List.replicate_zero, List.replicate_succ, Nat.reduceSub, Nat.reduceAdd, Option.isSome_some, wipeD, false_and, and_false, exists_false, false_or, or_false, gt_iff_lt, ge_iff_le, Option.bind_some, decide_eq_true_eq, Nat.reduceLeDiff, Nat.zero_le, Int.reduceLE, Int.reduceLT, Nat.reducePow, Int.reducePow, Int.reduceNeg, Int.reduceToNat, Int.reduceSub, Int.reduceMul, Int.reduceAdd, or_true, true_or, Nat.reduceLT, and_self, Int.reduceEq, Nat.reduceEqDiff, exists_and_left, HBs, bx_box hn, bx_setb hn, Ob.lst.injEq, ex]
    exact fz_pure hn hb hx.1.pure (q _ _ hx (hb.mono (by omega)))
  refine snil (Φ := Φ) (xq := NX) ?_
  refine soneW ?_; try simp only [EVs, Ts.len, List.getElem?_cons_zero, List.getElem?_cons_succ, List.set_cons_zero, List.set_cons_succ, Option.some.injEq, D.int.injEq, D.bl.injEq, D.str.injEq, D.tup.injEq, D.lst.injEq, D.ref.injEq, exists_eq_left, exists_eq_left', true_and, and_true, if_true, if_false, Bool.false_eq_true, Bool.true_eq_false, reduceCtorEq, List.length_cons, List.length_nil, Option.map_some, List.any_cons, List.any_nil, Bool.or_false, isTy, decide_true, decide_false, Bool.and_true, Bool.and_false, Bool.or_true, Bool.true_or, Bool.false_or, Bool.false_and, Bool.true_and, Bool.not_true, Bool.not_false, startD, List.map_cons, List.map_nil, List.cons_append, List.nil_append, List.replicate_zero, List.replicate_succ, Nat.reduceSub, Nat.reduceAdd, Option.isSome_some, wipeD, false_and, and_false, exists_false, false_or, or_false, gt_iff_lt, ge_iff_le, Option.bind_some, decide_eq_true_eq, Nat.reduceLeDiff, Nat.zero_le, Int.reduceLE, Int.reduceLT, Nat.reducePow, Int.reducePow, Int.reduceNeg, Int.reduceToNat, Int.reduceSub, Int.reduceMul, Int.reduceAdd, or_true, true_or, Nat.reduceLT, and_self, Int.reduceEq, Nat.reduceEqDiff, exists_and_left, HBs, bx_box hn, bx_setb hn, Ob.lst.injEq]
  refine iF_d (fun hr => ?_) (fun hr => ?_)
  · refine soneW ?_; try simp only [EVs, Ts.len, List.getElem?_cons_zero, List.getElem?_cons_succ, List.set_cons_zero, List.set_cons_succ, Option.some.injEq, D.int.injEq, D.bl.injEq, D.str.injEq, D.tup.injEq, D.lst.injEq, D.ref.injEq, exists_eq_left, exists_eq_left', true_and, and_true, if_true, if_false, Bool.false_eq_true, Bool.true_eq_false, reduceCtorEq, List.length_cons, List.length_nil, Option.map_some, List.any_cons, List.any_nil, Bool.or_false, isTy, decide_true, decide_false, Bool.and_true, Bool.and_false, Bool.or_true, Bool.true_or, Bool.false_or, Bool.false_and, Bool.true_and, Bool.not_true, Bool.not_false, startD, List.map_cons, List.map_nil, List.cons_append, List.nil_append, List.replicate_zero, List.replicate_succ, Nat.reduceSub, Nat.reduceAdd, Option.isSome_some, wipeD, false_and, and_false, exists_false, false_or, or_false, gt_iff_lt, ge_iff_le, Option.bind_some, decide_eq_true_eq, Nat.reduceLeDiff, Nat.zero_le, Int.reduceLE, Int.reduceLT, Nat.reducePow, Int.reducePow, Int.reduceNeg, Int.reduceToNat, Int.reduceSub, Int.reduceMul, Int.reduceAdd, or_true, true_or, Nat.reduceLT, and_self, Int.reduceEq, Nat.reduceEqDiff, exists_and_left, HBs, bx_box hn, bx_setb hn, Ob.lst.injEq]
    exact fz_pure hn hb rfl (q _ _ (sv_of (by decide +kernel)) (hb.mono (by omega)))
  refine snil (Φ := Φ) (xq := NX) ?_
  refine soneW ?_; try simp only [EVs, Ts.len, List.getElem?_cons_zero, List.getElem?_cons_succ, List.set_cons_zero, List.set_cons_succ, Option.some.injEq, D.int.injEq, D.bl.injEq, D.str.injEq, D.tup.injEq, D.lst.injEq, D.ref.injEq, exists_eq_left, exists_eq_left', true_and, and_true, if_true, if_false, Bool.false_eq_true, Bool.true_eq_false, reduceCtorEq, List.length_cons, List.length_nil, Option.map_some, List.any_cons, List.any_nil, Bool.or_false, isTy, decide_true, decide_false, Bool.and_true, Bool.and_false, Bool.or_true, Bool.true_or, Bool.false_or, Bool.false_and, Bool.true_and, Bool.not_true, Bool.not_false, startD, List.map_cons, List.map_nil, List.cons_append, List.nil_append, List.replicate_zero, List.replicate_succ, Nat.reduceSub, Nat.reduceAdd, Option.isSome_some, wipeD, false_and, and_false, exists_false, false_or, or_false, gt_iff_lt, ge_iff_le, Option.bind_some, decide_eq_true_eq, Nat.reduceLeDiff, Nat.zero_le, Int.reduceLE, Int.reduceLT, Nat.reducePow, Int.reducePow, Int.reduceNeg, Int.reduceToNat, Int.reduceSub, Int.reduceMul, Int.reduceAdd, or_true, true_or, Nat.reduceLT, and_self, Int.reduceEq, Nat.reduceEqDiff, exists_and_left, HBs, bx_box hn, bx_setb hn, Ob.lst.injEq, et]
  refine take_ok hb (bx_box hn) (by omega) (by omega) (by omega) fun r us r0 r1 hb => ?_
  try simp only [EVs, Ts.len, List.getElem?_cons_zero, List.getElem?_cons_succ, List.set_cons_zero, List.set_cons_succ, Option.some.injEq, D.int.injEq, D.bl.injEq, D.str.injEq, D.tup.injEq, D.lst.injEq, D.ref.injEq, exists_eq_left, exists_eq_left', true_and, and_true, if_true, if_false, Bool.false_eq_true, Bool.true_eq_false, reduceCtorEq, List.length_cons, List.length_nil, Option.map_some, List.any_cons, List.any_nil, Bool.or_false, isTy, decide_true, decide_false, Bool.and_true, Bool.and_false, Bool.or_true, Bool.true_or, Bool.false_or, Bool.false_and, Bool.true_and, Bool.not_true, Bool.not_false, startD, List.map_cons, List.map_nil, List.cons_append, List.nil_append, List.replicate_zero, List.replicate_succ, Nat.reduceSub, Nat.reduceAdd, Option.isSome_some, wipeD, false_and, and_false, exists_false, false_or, or_false, gt_iff_lt, ge_iff_le, Option.bind_some, decide_eq_true_eq, Nat.reduceLeDiff, Nat.zero_le, Int.reduceLE, Int.reduceLT, Nat.reducePow, Int.reducePow, Int.reduceNeg, Int.reduceToNat, Int.reduceSub, Int.reduceMul, Int.reduceAdd, or_true, true_or, Nat.reduceLT, and_self, Int.reduceEq, Nat.reduceEqDiff, exists_and_left, HBs, bx_box hn, bx_setb hn, Ob.lst.injEq]
  obtain ⟨x, ex, hx⟩ := at_mem (P := SV) (i := r) (xs := ([.str "", .str "a", .str "b", .str "B", .str "10", .str "9", .str "-", .str "a b", .str "it's", .str "\\", .str "/", .str "_", .str ":", .str "None", .str "ab"] : List D)) (svs_of (by decide +kernel)) r0 (by simpa using r1)
  try simp only [EVs, Ts.len, List.getElem?_cons_zero, List.getElem?_cons_succ, List.set_cons_zero, List.set_cons_succ, Option.some.injEq, D.int.injEq, D.bl.injEq, D.str.injEq, D.tup.injEq, D.lst.injEq, D.ref.injEq, exists_eq_left, exists_eq_left', true_and, and_true, if_true, if_false, Bool.false_eq_true, Bool.true_eq_false, reduceCtorEq, List.length_cons, List.length_nil, Option.map_some, List.any_cons, List.any_nil, Bool.or_false, isTy, decide_true, decide_false, Bool.and_true, Bool.and_false, Bool.or_true, Bool.true_or, Bool.false_or, Bool.false_and, Bool.true_and, Bool.not_true, Bool.not_false, startD, List.map_cons, List.map_nil, List.cons_append, List.nil_append, List.replicate_zero, List.replicate_succ, Nat.reduceSub, Nat.reduceAdd, Option.isSome_some, wipeD, false_and, and_false, exists_false, false_or, or_false, gt_iff_lt, ge_iff_le, Option.bind_some, decide_eq_true_eq, Nat.reduceLeDiff, Nat.zero_le, Int.reduceLE, Int.reduceLT, Nat.reducePow, Int.reducePow, Int.reduceNeg, Int.reduceToNat, Int.reduceSub, Int.reduceMul, Int.reduceAdd, or_true, true_or, Nat.reduceLT, and_self, Int.reduceEq, Nat.reduceEqDiff, exists_and_left, HBs, bx_box hn, bx_setb hn, Ob.lst.injEq, ex]
  exact fz_pure hn hb hx.1.pure (q _ _ hx (hb.mono (by omega)))
def NMs : List Str := ["b", "a", "year", "z", "ab", "month", "aa", "quantity", "c", "town", "zz", "ba"]
def NM : List D := [.str "b", .str "a", .str "year", .str "z", .str "ab", .str "month", .str "aa", .str "quantity", .str "c", .str "town", .str "zz", .str "ba"]
theorem NM_map : NM = NMs.map .str := rfl
theorem NM_nodup : NM.Nodup := by
  rw [NM_map]
  unfold List.Nodup
  rw [List.pairwise_map]
  refine List.Pairwise.imp (R := fun a b => a ≠ b) (fun h e => h (D.str.inj e)) ?_
  exact of_decide_eq_true (by decide +kernel)
def f_law_names : Fn := ⟨2, 4, (.cons (.asg (.name 2) (.lst true (.cons (.str "b") (.cons (.str "a") (.cons (.str "year") (.cons (.str "z") (.cons (.str "ab") (.cons (.str "month") (.cons (.str "aa") (.cons (.str "quantity") (.cons (.str "c") (.cons (.str "town") (.cons (.str "zz") (.cons (.str "ba") .nil)))))))))))))) (.cons (.ret (.comp false [3] (.name 3) (.rng1 (.var 1)) .nil (.meth .pop (.var 2) (.cons (.call "_law_take" (.cons (.var 0) (.cons (.bf .len false (.cons (.var 2) .nil)) .nil))) .nil)))) .nil))⟩
def spNames : Spc := fun ds h Q _ => ∃ (n : Nat) (B m : Int) (xs : List D), ds = [.ref n, .int m] ∧ h[n]? = some (.lst xs) ∧ BoxOk B xs ∧ B ≤ 980000000000 ∧ 0 ≤ m ∧ m ≤ 12 ∧
  ∀ ns ys, (ns.length : Int) = m → ns.Nodup → (∀ x ∈ ns, x ∈ NM) → BoxOk (B + 12) ys → Q (.lst ns) (h.set n (.lst ys))
theorem names_ok {H : DH} {n : Nat} {xs : List D} {B m : Int} {Q : DQ} (hb : BoxOk B xs) (hg : H[n]? = some (.lst xs)) (h1 : B ≤ 980000000000) (h2 : 0 ≤ m) (h3 : m ≤ 12)
    (k : ∀ ns ys, (ns.length : Int) = m → ns.Nodup → (∀ x ∈ ns, x ∈ NM) → BoxOk (B + 12) ys → Q (.lst ns) (H.set n (.lst ys))) : spNames [.ref n, .int m] H Q NX := ⟨n, B, m, xs, rfl, hg, hb, h1, h2, h3, k⟩
theorem rngL_mem {lo : Int} {n : Nat} {x : D} (m : x ∈ rngL lo n) : ∃ i : Int, x = .int i ∧ lo ≤ i ∧ i < lo + n := by
  unfold rngL at m
  obtain ⟨k, hk, rfl⟩ := List.mem_map.mp m
  have := List.mem_range.mp hk
  exact ⟨_, rfl, by omega, by omega⟩
theorem rngL_len {lo : Int} {n : Nat} : (rngL lo n).length = n := by simp [rngL]
theorem i_names {Φ : Fs} (et : Φ.fn "_law_take" = spTake) : Impl Φ f_law_names spNames := by
  rintro ds h Q ⟨n, B, m, xs, rfl, hg, hb, hB, m0, m1, q⟩
  have hn : n < h.length := (List.getElem?_eq_some_iff.mp hg).1
  refine ⟨rfl, start_bx hg ?_⟩
  refine soneW ?_; try simp only [EVs, Ts.len, List.getElem?_cons_zero, List.getElem?_cons_succ, List.set_cons_zero, List.set_cons_succ, Option.some.injEq, D.int.injEq, D.bl.injEq, D.str.injEq, D.tup.injEq, D.lst.injEq, D.ref.injEq, exists_eq_left, exists_eq_left', true_and, and_true, if_true, if_false, Bool.false_eq_true, Bool.true_eq_false, reduceCtorEq, List.length_cons, List.length_nil, Option.map_some, List.any_cons, List.any_nil, Bool.or_false, isTy, decide_true, decide_false, Bool.and_true, Bool.and_false, Bool.or_true, Bool.true_or, Bool.false_or, Bool.false_and, Bool.true_and, Bool.not_true, Bool.not_false, startD, List.map_cons, List.map_nil, List.cons_append, List.nil_append, List.replicate_zero, List.replicate_succ, Nat.reduceSub, Nat.reduceAdd, Option.isSome_some, wipeD, false_and, and_false, exists_false, false_or, or_false, gt_iff_lt, ge_iff_le, Option.bind_some, decide_eq_true_eq, Nat.reduceLeDiff, Nat.zero_le, Int.reduceLE, Int.reduceLT, Nat.reducePow, Int.reducePow, Int.reduceNeg, Int.reduceToNat, Int.reduceSub, Int.reduceMul, Int.reduceAdd, or_true, true_or, Nat.reduceLT, and_self, Int.reduceEq, Nat.reduceEqDiff, exists_and_left, HBs, bx_box hn, bx_setb hn, Ob.lst.injEq, f_law_names]
  refine soneW ?_; try simp only [EVs, Ts.len, List.getElem?_cons_zero, List.getElem?_cons_succ, List.set_cons_zero, List.set_cons_succ, Option.some.injEq, D.int.injEq, D.bl.injEq, D.str.injEq, D.tup.injEq, D.lst.injEq, D.ref.injEq, exists_eq_left, exists_eq_left', true_and, and_true, if_true, if_false, Bool.false_eq_true, Bool.true_eq_false, reduceCtorEq, List.length_cons, List.length_nil, Option.map_some, List.any_cons, List.any_nil, Bool.or_false, isTy, decide_true, decide_false, Bool.and_true, Bool.and_false, Bool.or_true, Bool.true_or, Bool.false_or, Bool.false_and, Bool.true_and, Bool.not_true, Bool.not_false, startD, List.map_cons, List.map_nil, List.cons_append, List.nil_append, List.replicate_zero, List.replicate_succ, Nat.reduceSub, Nat.reduceAdd, Option.isSome_some, wipeD, false_and, and_false, exists_false, false_or, or_false, gt_iff_lt, ge_iff_le, Option.bind_some, decide_eq_true_eq, Nat.reduceLeDiff, Nat.zero_le, Int.reduceLE, Int.reduceLT, Nat.reducePow, Int.reducePow, Int.reduceNeg, Int.reduceToNat, Int.reduceSub, Int.reduceMul, Int.reduceAdd, or_true, true_or, Nat.reduceLT, and_self, Int.reduceEq, Nat.reduceEqDiff, exists_and_left, HBs, bx_box hn, bx_setb hn, Ob.lst.injEq]
  refine ⟨⟨by omega, by omega⟩, ?_⟩
  refine compL_inv (fun rest acc h' => ∃ us zs, h' = bx h n us [.lst zs] ∧ BoxOk (B + acc.length) us ∧ (acc ++ zs).Perm NM ∧ acc.length + rest.length = m.toNat) (fun x rest acc h' => ?_) (fun acc h' => ?_) _ _ _ ⟨xs, NM, rfl, by simpa using hb, List.Perm.refl _, by rw [rngL_len]; simp⟩
  · rintro ⟨us, zs, rfl, hb, hp, hl⟩
    have hpl := hp.length_eq
    have e12 : NM.length = 12 := rfl
    rw [List.length_append, e12] at hpl
    rw [List.length_cons] at hl
    refine ⟨trivial, fun k k1 k2 => ?_⟩
    try simp only [EVs, Ts.len, List.getElem?_cons_zero, List.getElem?_cons_succ, List.set_cons_zero, List.set_cons_succ, Option.some.injEq, D.int.injEq, D.bl.injEq, D.str.injEq, D.tup.injEq, D.lst.injEq, D.ref.injEq, exists_eq_left, exists_eq_left', true_and, and_true, if_true, if_false, Bool.false_eq_true, Bool.true_eq_false, reduceCtorEq, List.length_cons, List.length_nil, Option.map_some, List.any_cons, List.any_nil, Bool.or_false, isTy, decide_true, decide_false, Bool.and_true, Bool.and_false, Bool.or_true, Bool.true_or, Bool.false_or, Bool.false_and, Bool.true_and, Bool.not_true, Bool.not_false, startD, List.map_cons, List.map_nil, List.cons_append, List.nil_append, List.replicate_zero, List.replicate_succ, Nat.reduceSub, Nat.reduceAdd, Option.isSome_some, wipeD, false_and, and_false, exists_false, false_or, or_false, gt_iff_lt, ge_iff_le, Option.bind_some, decide_eq_true_eq, Nat.reduceLeDiff, Nat.zero_le, Int.reduceLE, Int.reduceLT, Nat.reducePow, Int.reducePow, Int.reduceNeg, Int.reduceToNat, Int.reduceSub, Int.reduceMul, Int.reduceAdd, or_true, true_or, Nat.reduceLT, and_self, Int.reduceEq, Nat.reduceEqDiff, exists_and_left, HBs, bx_box hn, bx_setb hn, Ob.lst.injEq, et]
    refine take_ok hb (bx_box hn) (by omega) (by omega) (by omega) fun r us r0 r1 hb => ?_
    try simp only [EVs, Ts.len, List.getElem?_cons_zero, List.getElem?_cons_succ, List.set_cons_zero, List.set_cons_succ, Option.some.injEq, D.int.injEq, D.bl.injEq, D.str.injEq, D.tup.injEq, D.lst.injEq, D.ref.injEq, exists_eq_left, exists_eq_left', true_and, and_true, if_true, if_false, Bool.false_eq_true, Bool.true_eq_false, reduceCtorEq, List.length_cons, List.length_nil, Option.map_some, List.any_cons, List.any_nil, Bool.or_false, isTy, decide_true, decide_false, Bool.and_true, Bool.and_false, Bool.or_true, Bool.true_or, Bool.false_or, Bool.false_and, Bool.true_and, Bool.not_true, Bool.not_false, startD, List.map_cons, List.map_nil, List.cons_append, List.nil_append, List.replicate_zero, List.replicate_succ, Nat.reduceSub, Nat.reduceAdd, Option.isSome_some, wipeD, false_and, and_false, exists_false, false_or, or_false, gt_iff_lt, ge_iff_le, Option.bind_some, decide_eq_true_eq, Nat.reduceLeDiff, Nat.zero_le, Int.reduceLE, Int.reduceLT, Nat.reducePow, Int.reducePow, Int.reduceNeg, Int.reduceToNat, Int.reduceSub, Int.reduceMul, Int.reduceAdd, or_true, true_or, Nat.reduceLT, and_self, Int.reduceEq, Nat.reduceEqDiff, exists_and_left, HBs, bx_box hn, bx_setb hn, Ob.lst.injEq]
    have hr : r.toNat < zs.length := by omega
    refine gO_i (r := r.toNat) (by unfold ixO; rw [if_pos r0, if_pos r1]) (gO_i (List.getElem?_eq_getElem hr) ?_)
    try simp only [EVs, Ts.len, List.getElem?_cons_zero, List.getElem?_cons_succ, List.set_cons_zero, List.set_cons_succ, Option.some.injEq, D.int.injEq, D.bl.injEq, D.str.injEq, D.tup.injEq, D.lst.injEq, D.ref.injEq, exists_eq_left, exists_eq_left', true_and, and_true, if_true, if_false, Bool.false_eq_true, Bool.true_eq_false, reduceCtorEq, List.length_cons, List.length_nil, Option.map_some, List.any_cons, List.any_nil, Bool.or_false, isTy, decide_true, decide_false, Bool.and_true, Bool.and_false, Bool.or_true, Bool.true_or, Bool.false_or, Bool.false_and, Bool.true_and, Bool.not_true, Bool.not_false, startD, List.map_cons, List.map_nil, List.cons_append, List.nil_append, List.replicate_zero, List.replicate_succ, Nat.reduceSub, Nat.reduceAdd, Option.isSome_some, wipeD, false_and, and_false, exists_false, false_or, or_false, gt_iff_lt, ge_iff_le, Option.bind_some, decide_eq_true_eq, Nat.reduceLeDiff, Nat.zero_le, Int.reduceLE, Int.reduceLT, Nat.reducePow, Int.reducePow, Int.reduceNeg, Int.reduceToNat, Int.reduceSub, Int.reduceMul, Int.reduceAdd, or_true, true_or, Nat.reduceLT, and_self, Int.reduceEq, Nat.reduceEqDiff, exists_and_left, HBs, bx_box hn, bx_setb hn, Ob.lst.injEq]
    refine k1 _ _ ⟨us, _, rfl, ?_, ?_, ?_⟩
    · rw [List.length_append]; simp; rw [← Int.add_assoc]; exact hb
    · rw [List.append_assoc]
      exact (List.Perm.append_left acc (erase_perm hr)).trans hp
    · rw [List.length_append]; simp; omega
  · rintro ⟨us, zs, rfl, hb, hp, hl⟩
    refine ⟨trivial, ?_⟩
    have hsub : ∀ x ∈ acc, x ∈ NM := fun x m => hp.mem_iff.mp (List.mem_append_left _ m)
    have hnd : acc.Nodup := (List.nodup_append.mp (hp.nodup_iff.mpr NM_nodup)).1
    simp at hl
    refine fz_pure hn hb ?_ (q _ _ (by omega) hnd hsub (hb.mono (by omega)))
    refine pures_of fun x m => ?_
    have := List.all_eq_true.mp (show NM.all D.pure = true by decide +kernel) x (hsub x m)
    exact this
def f_law_number : Fn := ⟨1, 1, (.cons (.ite (.cmp .eq (.call "_law_take" (.cons (.var 0) (.cons (.int 9) .nil))) (.int 0)) (.cons (.ret (.idx (.lst false (.cons (.bin .sub (.bin .pow (.int 10) (.int 12)) (.int 1)) (.cons (.bin .sub (.int 1) (.bin .pow (.int 10) (.int 12))) (.cons (.bin .pow (.int 10) (.int 11)) (.cons (.int 0) .nil))))) (.call "_law_take" (.cons (.var 0) (.cons (.int 4) .nil))))) .nil) .nil) (.cons (.ret (.bin .sub (.call "_law_take" (.cons (.var 0) (.cons (.int 25) .nil))) (.int 7))) .nil))⟩
def spNumber : Spc := fun ds h Q _ => ∃ (n : Nat) (B : Int) (xs : List D), ds = [.ref n] ∧ h[n]? = some (.lst xs) ∧ BoxOk B xs ∧ B ≤ 980000000000 ∧ ∀ (i : Int) ys, SV (.int i) → BoxOk (B + 2) ys → Q (.int i) (h.set n (.lst ys))
theorem number_ok {H : DH} {n : Nat} {xs : List D} {B : Int} {Q : DQ} (hb : BoxOk B xs) (hg : H[n]? = some (.lst xs)) (h1 : B ≤ 980000000000)
    (k : ∀ (i : Int) ys, SV (.int i) → BoxOk (B + 2) ys → Q (.int i) (H.set n (.lst ys))) : spNumber [.ref n] H Q NX := ⟨n, B, xs, rfl, hg, hb, h1, k⟩
theorem i_number {Φ : Fs} (et : Φ.fn "_law_take" = spTake) : Impl Φ f_law_number spNumber := by
  rintro ds h Q ⟨n, B, xs, rfl, hg, hb, hB, q⟩
  have hn : n < h.length := (List.getElem?_eq_some_iff.mp hg).1
  refine ⟨rfl, start_bx hg ?_⟩
  refine soneW ?_; try simp only [EVs, Ts.len, List.getElem?_cons_zero, List.getElem?_cons_succ, List.set_cons_zero, List.set_cons_succ, Option.some.injEq, D.int.injEq, D.bl.injEq, D.str.injEq, D.tup.injEq, D.lst.injEq, D.ref.injEq, exists_eq_left, exists_eq_left', true_and, and_true, if_true, if_false, Bool.false_eq_true, Bool.true_eq_false, reduceCtorEq, List.length_cons, List.length_nil, Option.map_some, List.any_cons, List.any_nil, Bool.or_false, isTy, decide_true, decide_false, Bool.and_true, Bool.and_false, Bool.or_true, Bool.true_or, Bool.false_or, Bool.false_and, Bool.true_and, Bool.not_true, Bool.not_false, startD, List.map_cons, List.map_nil, List.cons_append, List.nil_append, List.replicate_zero, List.replicate_succ, Nat.reduceSub, Nat.reduceAdd, Option.isSome_some, wipeD, false_and, and_false, exists_false, false_or, or_false, gt_iff_lt, ge_iff_le, Option.bind_some, decide_eq_true_eq, Nat.reduceLeDiff, Nat.zero_le, Int.reduceLE, Int.reduceLT, Nat.reducePow, Int.reducePow, Int.reduceNeg, Int.reduceToNat, Int.reduceSub, Int.reduceMul, Int.reduceAdd, or_true, true_or, Nat.reduceLT, and_self, Int.reduceEq, Nat.reduceEqDiff, exists_and_left, HBs, bx_box hn, bx_setb hn, Ob.lst.injEq, f_law_number, et]
  refine take_ok hb (bx_box hn) (by omega) (by omega) (by omega) fun r us r0 r1 hb => ?_
  try simp only [EVs, Ts.len, List.getElem?_cons_zero, List.getElem?_cons_succ, List.set_cons_zero, List.set_cons_succ, Option.some.injEq, D.int.injEq, D.bl.injEq, D.str.injEq, D.tup.injEq, D.lst.injEq, D.ref.injEq, exists_eq_left, exists_eq_left', true_and, and_true, if_true, if_false, Bool.false_eq_true, Bool.true_eq_false, reduceCtorEq, List.length_cons, List.length_nil, Option.map_some, List.any_cons, List.any_nil, Bool.or_false, isTy, decide_true, decide_false, Bool.and_true, Bool.and_false, Bool.or_true, Bool.true_or, Bool.false_or, Bool.false_and, Bool.true_and, Bool.not_true, Bool.not_false, startD, List.map_cons, List.map_nil, List.cons_append, List.nil_append, List.replicate_zero, List.replicate_succ, Nat.reduceSub, Nat.reduceAdd, Option.isSome_some, wipeD, false_and, and_false, exists_false, false_or, or_false, gt_iff_lt, ge_iff_le, Option.bind_some, decide_eq_true_eq, Nat.reduceLeDiff, Nat.zero_le, Int.reduceLE, Int.reduceLT, Nat.reducePow, Int.reducePow, Int.reduceNeg, Int.reduceToNat, Int.reduceSub, Int.reduceMul, Int.reduceAdd, or_true, true_or, Nat.reduceLT, and_self, Int.reduceEq, Nat.reduceEqDiff, exists_and_left, HBs, bx_box hn, bx_setb hn, Ob.lst.injEq]
  refine iF_d (fun hr => ?_) (fun hr => ?_)
  · skip
    refine soneW ?_; try simp only [EVs, Ts.len, List.getElem?_cons_zero, List.getElem?_cons_succ, List.set_cons_zero, List.set_cons_succ, Option.some.injEq, D.int.injEq, D.bl.injEq, D.str.injEq, D.tup.injEq, D.lst.injEq, D.ref.injEq, exists_eq_left, exists_eq_left', true_and, and_true, if_true, if_false, Bool.false_eq_true, Bool.true_eq_false, reduceCtorEq, List.length_cons, List.length_nil, Option.map_some, List.any_cons, List.any_nil, Bool.or_false, isTy, decide_true, decide_false, Bool.and_true, Bool.and_false, Bool.or_true, Bool.true_or, Bool.false_or, Bool.false_and, Bool.true_and, Bool.not_true, Bool.not_false, startD, List.map_cons, List.map_nil, List.cons_append, List.nil_append, List.replicate_zero, List.replicate_succ, Nat.reduceSub, Nat.reduceAdd, Option.isSome_some, wipeD, false_and, and_false, exists_false, false_or, or_false, gt_iff_lt, ge_iff_le, Option.bind_some, decide_eq_true_eq, Nat.reduceLeDiff, Nat.zero_le, Int.reduceLE, Int.reduceLT, Nat.reducePow, Int.reducePow, Int.reduceNeg, Int.reduceToNat, Int.reduceSub, Int.reduceMul, Int.reduceAdd, or_true, true_or, Nat.reduceLT, and_self, Int.reduceEq, Nat.reduceEqDiff, exists_and_left, HBs, bx_box hn, bx_setb hn, Ob.lst.injEq, et]
    refine take_ok hb (bx_box hn) (by omega) (by omega) (by omega) fun r us r0 r1 hb => ?_
    try simp only [EVs, Ts.len, List.getElem?_cons_zero, List.getElem?_cons_succ, List.set_cons_zero, List.set_cons_succ, Option.some.injEq, D.int.injEq, D.bl.injEq, D.str.injEq, D.tup.injEq, D.lst.injEq, D.ref.injEq, exists_eq_left, exists_eq_left', true_and, and_true, if_true, if_false, Bool.false_eq_true, Bool.true_eq_false, reduceCtorEq, List.length_cons, List.length_nil, Option.map_some, List.any_cons, List.any_nil, Bool.or_false, isTy, decide_true, decide_false, Bool.and_true, Bool.and_false, Bool.or_true, Bool.true_or, Bool.false_or, Bool.false_and, Bool.true_and, Bool.not_true, Bool.not_false, startD, List.map_cons, List.map_nil, List.cons_append, List.nil_append, List.replicate_zero, List.replicate_succ, Nat.reduceSub, Nat.reduceAdd, Option.isSome_some, wipeD, false_and, and_false, exists_false, false_or, or_false, gt_iff_lt, ge_iff_le, Option.bind_some, decide_eq_true_eq, Nat.reduceLeDiff, Nat.zero_le, Int.reduceLE, Int.reduceLT, Nat.reducePow, Int.reducePow, Int.reduceNeg, Int.reduceToNat, Int.reduceSub, Int.reduceMul, Int.reduceAdd, or_true, true_or, Nat.reduceLT, and_self, Int.reduceEq, Nat.reduceEqDiff, exists_and_left, HBs, bx_box hn, bx_setb hn, Ob.lst.injEq]
    obtain ⟨x, ex, hx⟩ := at_mem (P := fun d => SV d ∧ ∃ i : Int, d = .int i) (xs := ([.int 999999999999, .int (-999999999999), .int 100000000000, .int 0] : List D)) (i := r) (fun x m => ⟨svs_of (by decide +kernel) x m, by simp at m; rcases m with rfl | rfl | rfl | rfl <;> exact ⟨_, rfl⟩⟩) r0 (by simpa using r1)
    obtain ⟨hx, i, rfl⟩ := hx
    try simp only [EVs, Ts.len, List.getElem?_cons_zero, List.getElem?_cons_succ, List.set_cons_zero, List.set_cons_succ, Option.some.injEq, D.int.injEq, D.bl.injEq, D.str.injEq, D.tup.injEq, D.lst.injEq, D.ref.injEq, exists_eq_left, exists_eq_left', true_and, and_true, if_true, if_false, Bool.false_eq_true, Bool.true_eq_false, reduceCtorEq, List.length_cons, List.length_nil, Option.map_some, List.any_cons, List.any_nil, Bool.or_false, isTy, decide_true, decide_false, Bool.and_true, Bool.and_false, Bool.or_true, Bool.true_or, Bool.false_or, Bool.false_and, Bool.true_and, Bool.not_true, Bool.not_false, startD, List.map_cons, List.map_nil, List.cons_append, List.nil_append, List.replicate_zero, List.replicate_succ, Nat.reduceSub, Nat.reduceAdd, Option.isSome_some, wipeD, false_and, and_false, exists_false, false_or, or_false, gt_iff_lt, ge_iff_le, Option.bind_some, decide_eq_true_eq, Nat.reduceLeDiff, Nat.zero_le, Int.reduceLE, Int.reduceLT, Nat.reducePow, Int.reducePow, Int.reduceNeg, Int.reduceToNat, Int.reduceSub, Int.reduceMul, Int.reduceAdd, or_true, true_or, Nat.reduceLT, and_self, Int.reduceEq, Nat.reduceEqDiff, exists_and_left, HBs, bx_box hn, bx_setb hn, Ob.lst.injEq, ex]
    exact fz_pure hn hb rfl (q _ _ hx (hb.mono (by omega)))
  · skip
    refine snil ?_
    refine soneW ?_; try simp only [EVs, Ts.len, List.getElem?_cons_zero, List.getElem?_cons_succ, List.set_cons_zero, List.set_cons_succ, Option.some.injEq, D.int.injEq, D.bl.injEq, D.str.injEq, D.tup.injEq, D.lst.injEq, D.ref.injEq, exists_eq_left, exists_eq_left', true_and, and_true, if_true, if_false, Bool.false_eq_true, Bool.true_eq_false, reduceCtorEq, List.length_cons, List.length_nil, Option.map_some, List.any_cons, List.any_nil, Bool.or_false, isTy, decide_true, decide_false, Bool.and_true, Bool.and_false, Bool.or_true, Bool.true_or, Bool.false_or, Bool.false_and, Bool.true_and, Bool.not_true, Bool.not_false, startD, List.map_cons, List.map_nil, List.cons_append, List.nil_append, List.replicate_zero, List.replicate_succ, Nat.reduceSub, Nat.reduceAdd, Option.isSome_some, wipeD, false_and, and_false, exists_false, false_or, or_false, gt_iff_lt, ge_iff_le, Option.bind_some, decide_eq_true_eq, Nat.reduceLeDiff, Nat.zero_le, Int.reduceLE, Int.reduceLT, Nat.reducePow, Int.reducePow, Int.reduceNeg, Int.reduceToNat, Int.reduceSub, Int.reduceMul, Int.reduceAdd, or_true, true_or, Nat.reduceLT, and_self, Int.reduceEq, Nat.reduceEqDiff, exists_and_left, HBs, bx_box hn, bx_setb hn, Ob.lst.injEq, et]
    refine take_ok hb (bx_box hn) (by omega) (by omega) (by omega) fun r us r0 r1 hb => ?_
    try simp only [EVs, Ts.len, List.getElem?_cons_zero, List.getElem?_cons_succ, List.set_cons_zero, List.set_cons_succ, Option.some.injEq, D.int.injEq, D.bl.injEq, D.str.injEq, D.tup.injEq, D.lst.injEq, D.ref.injEq, exists_eq_left, exists_eq_left', true_and, and_true, if_true, if_false, Bool.false_eq_true, Bool.true_eq_false, reduceCtorEq, List.length_cons, List.length_nil, Option.map_some, List.any_cons, List.any_nil, Bool.or_false, isTy, decide_true, decide_false, Bool.and_true, Bool.and_false, Bool.or_true, Bool.true_or, Bool.false_or, Bool.false_and, Bool.true_and, Bool.not_true, Bool.not_false, startD, List.map_cons, List.map_nil, List.cons_append, List.nil_append, List.replicate_zero, List.replicate_succ, Nat.reduceSub, Nat.reduceAdd, Option.isSome_some, wipeD, false_and, and_false, exists_false, false_or, or_false, gt_iff_lt, ge_iff_le, Option.bind_some, decide_eq_true_eq, Nat.reduceLeDiff, Nat.zero_le, Int.reduceLE, Int.reduceLT, Nat.reducePow, Int.reducePow, Int.reduceNeg, Int.reduceToNat, Int.reduceSub, Int.reduceMul, Int.reduceAdd, or_true, true_or, Nat.reduceLT, and_self, Int.reduceEq, Nat.reduceEqDiff, exists_and_left, HBs, bx_box hn, bx_setb hn, Ob.lst.injEq]
    exact fz_pure hn hb rfl (q _ _ (sv_rng (lo := -7) (n := 25) (by decide +kernel) (by omega) (by omega)) (hb.mono (by omega)))
def f_law_pool : Fn := ⟨2, 5, (.cons (.asg (.name 2) (.lst true .nil)) (.cons (.for_ (.name 3) (.rng1 (.var 1)) (.cons (.asg (.name 4) (.call "_law_value" (.cons (.var 0) .nil))) (.cons (.ite (.cmp .notin (.var 4) (.var 2)) (.cons (.expr (.meth .append (.var 2) (.cons (.var 4) .nil))) .nil) .nil) .nil))) (.cons (.ret (.var 2)) .nil)))⟩
def spPool : Spc := fun ds h Q _ => ∃ (n : Nat) (B m : Int) (xs : List D), ds = [.ref n, .int m] ∧ h[n]? = some (.lst xs) ∧ BoxOk B xs ∧ B ≤ 970000000000 ∧ 1 ≤ m ∧ m ≤ 100 ∧
  ∀ vs ys, vs ≠ [] → (vs.length : Int) ≤ m → SVs vs → vs.Nodup → BoxOk (B + 200) ys → Q (.lst vs) (h.set n (.lst ys))
theorem pool_ok {H : DH} {n : Nat} {xs : List D} {B m : Int} {Q : DQ} (hb : BoxOk B xs) (hg : H[n]? = some (.lst xs)) (h1 : B ≤ 970000000000) (h2 : 1 ≤ m) (h3 : m ≤ 100)
    (k : ∀ vs ys, vs ≠ [] → (vs.length : Int) ≤ m → SVs vs → vs.Nodup → BoxOk (B + 200) ys → Q (.lst vs) (H.set n (.lst ys))) : spPool [.ref n, .int m] H Q NX := ⟨n, B, m, xs, rfl, hg, hb, h1, h2, h3, k⟩
theorem i_pool {Φ : Fs} (ev : Φ.fn "_law_value" = spVal) : Impl Φ f_law_pool spPool := by
  rintro ds h Q ⟨n, B, m, xs, rfl, hg, hb, hB, m0, m1, q⟩
  have hn : n < h.length := (List.getElem?_eq_some_iff.mp hg).1
  refine ⟨rfl, start_bx hg ?_⟩
  refine soneW ?_; try simp only [EVs, Ts.len, List.getElem?_cons_zero, List.getElem?_cons_succ, List.set_cons_zero, List.set_cons_succ, Option.some.injEq, D.int.injEq, D.bl.injEq, D.str.injEq, D.tup.injEq, D.lst.injEq, D.ref.injEq, exists_eq_left, exists_eq_left', true_and, and_true, if_true, if_false, Bool.false_eq_true, Bool.true_eq_false, reduceCtorEq, List.length_cons, List.length_nil, Option.map_some, List.any_cons, List.any_nil, Bool.or_false, isTy, decide_true, decide_false, Bool.and_true, Bool.and_false, Bool.or_true, Bool.true_or, Bool.false_or, Bool.false_and, Bool.true_and, Bool.not_true, Bool.not_false, startD, List.map_cons, List.map_nil, List.cons_append, List.nil_append, List.replicate_zero, List.replicate_succ, Nat.reduceSub, Nat.reduceAdd, Option.isSome_some, wipeD, false_and, and_false, exists_false, false_or, or_false, gt_iff_lt, ge_iff_le, Option.bind_some, decide_eq_true_eq, Nat.reduceLeDiff, Nat.zero_le, Int.reduceLE, Int.reduceLT, Nat.reducePow, Int.reducePow, Int.reduceNeg, Int.reduceToNat, Int.reduceSub, Int.reduceMul, Int.reduceAdd, or_true, true_or, Nat.reduceLT, and_self, Int.reduceEq, Nat.reduceEqDiff, exists_and_left, HBs, bx_box hn, bx_setb hn, Ob.lst.injEq, f_law_pool]
  refine soneW ?_; try simp only [EVs, Ts.len, List.getElem?_cons_zero, List.getElem?_cons_succ, List.set_cons_zero, List.set_cons_succ, Option.some.injEq, D.int.injEq, D.bl.injEq, D.str.injEq, D.tup.injEq, D.lst.injEq, D.ref.injEq, exists_eq_left, exists_eq_left', true_and, and_true, if_true, if_false, Bool.false_eq_true, Bool.true_eq_false, reduceCtorEq, List.length_cons, List.length_nil, Option.map_some, List.any_cons, List.any_nil, Bool.or_false, isTy, decide_true, decide_false, Bool.and_true, Bool.and_false, Bool.or_true, Bool.true_or, Bool.false_or, Bool.false_and, Bool.true_and, Bool.not_true, Bool.not_false, startD, List.map_cons, List.map_nil, List.cons_append, List.nil_append, List.replicate_zero, List.replicate_succ, Nat.reduceSub, Nat.reduceAdd, Option.isSome_some, wipeD, false_and, and_false, exists_false, false_or, or_false, gt_iff_lt, ge_iff_le, Option.bind_some, decide_eq_true_eq, Nat.reduceLeDiff, Nat.zero_le, Int.reduceLE, Int.reduceLT, Nat.reducePow, Int.reducePow, Int.reduceNeg, Int.reduceToNat, Int.reduceSub, Int.reduceMul, Int.reduceAdd, or_true, true_or, Nat.reduceLT, and_self, Int.reduceEq, Nat.reduceEqDiff, exists_and_left, HBs, bx_box hn, bx_setb hn, Ob.lst.injEq]
  refine ⟨⟨by omega, by omega⟩, ?_⟩
  refine forL_inv (fun rest σ h' => (∃ z3_0 z3_1 : Option D, σ = [some (.ref n), some (.int m), some (.ref (lc h 0)), z3_0, z3_1]) ∧ ∃ us zs, h' = bx h n us [.lst zs] ∧ BoxOk (B + 2 * (m - rest.length)) us ∧ SVs zs ∧ zs.Nodup ∧ zs.length + rest.length ≤ m ∧ (zs = [] → (rest.length : Int) = m)) (fun x rest σ h' => ?_) (fun σ h' => ?_) _ _ _
    ⟨⟨_, _, rfl⟩, xs, [], rfl, hb.mono (by rw [rngL_len]; omega), (fun x m => nomatch m), List.nodup_nil, by rw [rngL_len]; simp; omega, fun _ => by rw [rngL_len]; omega⟩
  · rintro ⟨⟨_, _, rfl⟩, us, zs, rfl, hb, hv, hnd, hl, hz⟩
    rw [List.length_cons] at hb hl hz
    refine ⟨trivial, fun K krt knx kct kbk => ?_⟩
    try simp only [EVs, Ts.len, List.getElem?_cons_zero, List.getElem?_cons_succ, List.set_cons_zero, List.set_cons_succ, Option.some.injEq, D.int.injEq, D.bl.injEq, D.str.injEq, D.tup.injEq, D.lst.injEq, D.ref.injEq, exists_eq_left, exists_eq_left', true_and, and_true, if_true, if_false, Bool.false_eq_true, Bool.true_eq_false, reduceCtorEq, List.length_cons, List.length_nil, Option.map_some, List.any_cons, List.any_nil, Bool.or_false, isTy, decide_true, decide_false, Bool.and_true, Bool.and_false, Bool.or_true, Bool.true_or, Bool.false_or, Bool.false_and, Bool.true_and, Bool.not_true, Bool.not_false, startD, List.map_cons, List.map_nil, List.cons_append, List.nil_append, List.replicate_zero, List.replicate_succ, Nat.reduceSub, Nat.reduceAdd, Option.isSome_some, wipeD, false_and, and_false, exists_false, false_or, or_false, gt_iff_lt, ge_iff_le, Option.bind_some, decide_eq_true_eq, Nat.reduceLeDiff, Nat.zero_le, Int.reduceLE, Int.reduceLT, Nat.reducePow, Int.reducePow, Int.reduceNeg, Int.reduceToNat, Int.reduceSub, Int.reduceMul, Int.reduceAdd, or_true, true_or, Nat.reduceLT, and_self, Int.reduceEq, Nat.reduceEqDiff, exists_and_left, HBs, bx_box hn, bx_setb hn, Ob.lst.injEq]
    refine soneW ?_; try simp only [EVs, Ts.len, List.getElem?_cons_zero, List.getElem?_cons_succ, List.set_cons_zero, List.set_cons_succ, Option.some.injEq, D.int.injEq, D.bl.injEq, D.str.injEq, D.tup.injEq, D.lst.injEq, D.ref.injEq, exists_eq_left, exists_eq_left', true_and, and_true, if_true, if_false, Bool.false_eq_true, Bool.true_eq_false, reduceCtorEq, List.length_cons, List.length_nil, Option.map_some, List.any_cons, List.any_nil, Bool.or_false, isTy, decide_true, decide_false, Bool.and_true, Bool.and_false, Bool.or_true, Bool.true_or, Bool.false_or, Bool.false_and, Bool.true_and, Bool.not_true, Bool.not_false, startD, List.map_cons, List.map_nil, List.cons_append, List.nil_append, List.replicate_zero, List.replicate_succ, Nat.reduceSub, Nat.reduceAdd, Option.isSome_some, wipeD, false_and, and_false, exists_false, false_or, or_false, gt_iff_lt, ge_iff_le, Option.bind_some, decide_eq_true_eq, Nat.reduceLeDiff, Nat.zero_le, Int.reduceLE, Int.reduceLT, Nat.reducePow, Int.reducePow, Int.reduceNeg, Int.reduceToNat, Int.reduceSub, Int.reduceMul, Int.reduceAdd, or_true, true_or, Nat.reduceLT, and_self, Int.reduceEq, Nat.reduceEqDiff, exists_and_left, HBs, bx_box hn, bx_setb hn, Ob.lst.injEq, ev]
    refine value_ok hb (bx_box hn) (by omega) fun d us vd hb => ?_
    try simp only [EVs, Ts.len, List.getElem?_cons_zero, List.getElem?_cons_succ, List.set_cons_zero, List.set_cons_succ, Option.some.injEq, D.int.injEq, D.bl.injEq, D.str.injEq, D.tup.injEq, D.lst.injEq, D.ref.injEq, exists_eq_left, exists_eq_left', true_and, and_true, if_true, if_false, Bool.false_eq_true, Bool.true_eq_false, reduceCtorEq, List.length_cons, List.length_nil, Option.map_some, List.any_cons, List.any_nil, Bool.or_false, isTy, decide_true, decide_false, Bool.and_true, Bool.and_false, Bool.or_true, Bool.true_or, Bool.false_or, Bool.false_and, Bool.true_and, Bool.not_true, Bool.not_false, startD, List.map_cons, List.map_nil, List.cons_append, List.nil_append, List.replicate_zero, List.replicate_succ, Nat.reduceSub, Nat.reduceAdd, Option.isSome_some, wipeD, false_and, and_false, exists_false, false_or, or_false, gt_iff_lt, ge_iff_le, Option.bind_some, decide_eq_true_eq, Nat.reduceLeDiff, Nat.zero_le, Int.reduceLE, Int.reduceLT, Nat.reducePow, Int.reducePow, Int.reduceNeg, Int.reduceToNat, Int.reduceSub, Int.reduceMul, Int.reduceAdd, or_true, true_or, Nat.reduceLT, and_self, Int.reduceEq, Nat.reduceEqDiff, exists_and_left, HBs, bx_box hn, bx_setb hn, Ob.lst.injEq]
    refine soneW ?_
    have hin : inF (bx h n us [.lst zs]) d (.ref (lc h 0)) = some (zs.any fun z => D.eqv z d) := in_seq (by try simp only [EVs, Ts.len, List.getElem?_cons_zero, List.getElem?_cons_succ, List.set_cons_zero, List.set_cons_succ, Option.some.injEq, D.int.injEq, D.bl.injEq, D.str.injEq, D.tup.injEq, D.lst.injEq, D.ref.injEq, exists_eq_left, exists_eq_left', true_and, and_true, if_true, if_false, Bool.false_eq_true, Bool.true_eq_false, reduceCtorEq, List.length_cons, List.length_nil, Option.map_some, List.any_cons, List.any_nil, Bool.or_false, isTy, decide_true, decide_false, Bool.and_true, Bool.and_false, Bool.or_true, Bool.true_or, Bool.false_or, Bool.false_and, Bool.true_and, Bool.not_true, Bool.not_false, startD, List.map_cons, List.map_nil, List.cons_append, List.nil_append, List.replicate_zero, List.replicate_succ, Nat.reduceSub, Nat.reduceAdd, Option.isSome_some, wipeD, false_and, and_false, exists_false, false_or, or_false, gt_iff_lt, ge_iff_le, Option.bind_some, decide_eq_true_eq, Nat.reduceLeDiff, Nat.zero_le, Int.reduceLE, Int.reduceLT, Nat.reducePow, Int.reducePow, Int.reduceNeg, Int.reduceToNat, Int.reduceSub, Int.reduceMul, Int.reduceAdd, or_true, true_or, Nat.reduceLT, and_self, Int.reduceEq, Nat.reduceEqDiff, exists_and_left, HBs, bx_box hn, bx_setb hn, Ob.lst.injEq]) (fun s => nofun) vd.1.pure (pures_of fun x m => (hv x m).1.pure) (by rw [val_depth0 vd.1]; decide)
    try simp only [EVs, Ts.len, List.getElem?_cons_zero, List.getElem?_cons_succ, List.set_cons_zero, List.set_cons_succ, Option.some.injEq, D.int.injEq, D.bl.injEq, D.str.injEq, D.tup.injEq, D.lst.injEq, D.ref.injEq, exists_eq_left, exists_eq_left', true_and, and_true, if_true, if_false, Bool.false_eq_true, Bool.true_eq_false, reduceCtorEq, List.length_cons, List.length_nil, Option.map_some, List.any_cons, List.any_nil, Bool.or_false, isTy, decide_true, decide_false, Bool.and_true, Bool.and_false, Bool.or_true, Bool.true_or, Bool.false_or, Bool.false_and, Bool.true_and, Bool.not_true, Bool.not_false, startD, List.map_cons, List.map_nil, List.cons_append, List.nil_append, List.replicate_zero, List.replicate_succ, Nat.reduceSub, Nat.reduceAdd, Option.isSome_some, wipeD, false_and, and_false, exists_false, false_or, or_false, gt_iff_lt, ge_iff_le, Option.bind_some, decide_eq_true_eq, Nat.reduceLeDiff, Nat.zero_le, Int.reduceLE, Int.reduceLT, Nat.reducePow, Int.reducePow, Int.reduceNeg, Int.reduceToNat, Int.reduceSub, Int.reduceMul, Int.reduceAdd, or_true, true_or, Nat.reduceLT, and_self, Int.reduceEq, Nat.reduceEqDiff, exists_and_left, HBs, bx_box hn, bx_setb hn, Ob.lst.injEq, hin]
    have hany := any_eqv vd.1.pl fun y m => (hv y m).1.pl
    cases ha : zs.any fun z => D.eqv z d with
    | true =>
      try simp only [EVs, Ts.len, List.getElem?_cons_zero, List.getElem?_cons_succ, List.set_cons_zero, List.set_cons_succ, Option.some.injEq, D.int.injEq, D.bl.injEq, D.str.injEq, D.tup.injEq, D.lst.injEq, D.ref.injEq, exists_eq_left, exists_eq_left', true_and, and_true, if_true, if_false, Bool.false_eq_true, Bool.true_eq_false, reduceCtorEq, List.length_cons, List.length_nil, Option.map_some, List.any_cons, List.any_nil, Bool.or_false, isTy, decide_true, decide_false, Bool.and_true, Bool.and_false, Bool.or_true, Bool.true_or, Bool.false_or, Bool.false_and, Bool.true_and, Bool.not_true, Bool.not_false, startD, List.map_cons, List.map_nil, List.cons_append, List.nil_append, List.replicate_zero, List.replicate_succ, Nat.reduceSub, Nat.reduceAdd, Option.isSome_some, wipeD, false_and, and_false, exists_false, false_or, or_false, gt_iff_lt, ge_iff_le, Option.bind_some, decide_eq_true_eq, Nat.reduceLeDiff, Nat.zero_le, Int.reduceLE, Int.reduceLT, Nat.reducePow, Int.reducePow, Int.reduceNeg, Int.reduceToNat, Int.reduceSub, Int.reduceMul, Int.reduceAdd, or_true, true_or, Nat.reduceLT, and_self, Int.reduceEq, Nat.reduceEqDiff, exists_and_left, HBs, bx_box hn, bx_setb hn, Ob.lst.injEq]
      refine snil (Φ := Φ) (xq := NX) ?_; refine snil (Φ := Φ) (xq := NX) ?_
      refine knx _ _ ⟨⟨_, _, rfl⟩, us, zs, rfl, hb.mono (by omega), hv, hnd, by omega, fun e => ?_⟩
      subst e; simp at ha
    | false =>
      try simp only [EVs, Ts.len, List.getElem?_cons_zero, List.getElem?_cons_succ, List.set_cons_zero, List.set_cons_succ, Option.some.injEq, D.int.injEq, D.bl.injEq, D.str.injEq, D.tup.injEq, D.lst.injEq, D.ref.injEq, exists_eq_left, exists_eq_left', true_and, and_true, if_true, if_false, Bool.false_eq_true, Bool.true_eq_false, reduceCtorEq, List.length_cons, List.length_nil, Option.map_some, List.any_cons, List.any_nil, Bool.or_false, isTy, decide_true, decide_false, Bool.and_true, Bool.and_false, Bool.or_true, Bool.true_or, Bool.false_or, Bool.false_and, Bool.true_and, Bool.not_true, Bool.not_false, startD, List.map_cons, List.map_nil, List.cons_append, List.nil_append, List.replicate_zero, List.replicate_succ, Nat.reduceSub, Nat.reduceAdd, Option.isSome_some, wipeD, false_and, and_false, exists_false, false_or, or_false, gt_iff_lt, ge_iff_le, Option.bind_some, decide_eq_true_eq, Nat.reduceLeDiff, Nat.zero_le, Int.reduceLE, Int.reduceLT, Nat.reducePow, Int.reducePow, Int.reduceNeg, Int.reduceToNat, Int.reduceSub, Int.reduceMul, Int.reduceAdd, or_true, true_or, Nat.reduceLT, and_self, Int.reduceEq, Nat.reduceEqDiff, exists_and_left, HBs, bx_box hn, bx_setb hn, Ob.lst.injEq]
      refine soneW ?_; try simp only [EVs, Ts.len, List.getElem?_cons_zero, List.getElem?_cons_succ, List.set_cons_zero, List.set_cons_succ, Option.some.injEq, D.int.injEq, D.bl.injEq, D.str.injEq, D.tup.injEq, D.lst.injEq, D.ref.injEq, exists_eq_left, exists_eq_left', true_and, and_true, if_true, if_false, Bool.false_eq_true, Bool.true_eq_false, reduceCtorEq, List.length_cons, List.length_nil, Option.map_some, List.any_cons, List.any_nil, Bool.or_false, isTy, decide_true, decide_false, Bool.and_true, Bool.and_false, Bool.or_true, Bool.true_or, Bool.false_or, Bool.false_and, Bool.true_and, Bool.not_true, Bool.not_false, startD, List.map_cons, List.map_nil, List.cons_append, List.nil_append, List.replicate_zero, List.replicate_succ, Nat.reduceSub, Nat.reduceAdd, Option.isSome_some, wipeD, false_and, and_false, exists_false, false_or, or_false, gt_iff_lt, ge_iff_le, Option.bind_some, decide_eq_true_eq, Nat.reduceLeDiff, Nat.zero_le, Int.reduceLE, Int.reduceLT, Nat.reducePow, Int.reducePow, Int.reduceNeg, Int.reduceToNat, Int.reduceSub, Int.reduceMul, Int.reduceAdd, or_true, true_or, Nat.reduceLT, and_self, Int.reduceEq, Nat.reduceEqDiff, exists_and_left, HBs, bx_box hn, bx_setb hn, Ob.lst.injEq]
      refine ⟨by omega, ?_⟩
      refine snil (Φ := Φ) (xq := NX) ?_; refine snil (Φ := Φ) (xq := NX) ?_
      refine knx _ _ ⟨⟨_, _, rfl⟩, us, _, rfl, hb.mono (by omega), fun y my => ?_, ?_, ?_, fun e => ?_⟩
      · rcases List.mem_append.mp my with my | my
        · exact hv y my
        · rw [List.mem_singleton.mp my]; exact vd
      · rw [List.nodup_append]
        refine ⟨hnd, by simp, fun a ma b mb e => ?_⟩
        rw [List.mem_singleton.mp mb] at e
        rw [e] at ma
        rw [hany.mpr ma] at ha
        cases ha
      · rw [List.length_append]; simp; omega
      · simp at e
  · rintro ⟨⟨_, _, rfl⟩, us, zs, rfl, hb, hv, hnd, hl, hz⟩
    refine ⟨trivial, ?_⟩
    refine soneW ?_; try simp only [EVs, Ts.len, List.getElem?_cons_zero, List.getElem?_cons_succ, List.set_cons_zero, List.set_cons_succ, Option.some.injEq, D.int.injEq, D.bl.injEq, D.str.injEq, D.tup.injEq, D.lst.injEq, D.ref.injEq, exists_eq_left, exists_eq_left', true_and, and_true, if_true, if_false, Bool.false_eq_true, Bool.true_eq_false, reduceCtorEq, List.length_cons, List.length_nil, Option.map_some, List.any_cons, List.any_nil, Bool.or_false, isTy, decide_true, decide_false, Bool.and_true, Bool.and_false, Bool.or_true, Bool.true_or, Bool.false_or, Bool.false_and, Bool.true_and, Bool.not_true, Bool.not_false, startD, List.map_cons, List.map_nil, List.cons_append, List.nil_append, List.replicate_zero, List.replicate_succ, Nat.reduceSub, Nat.reduceAdd, Option.isSome_some, wipeD, false_and, and_false, exists_false, false_or, or_false, gt_iff_lt, ge_iff_le, Option.bind_some, decide_eq_true_eq, Nat.reduceLeDiff, Nat.zero_le, Int.reduceLE, Int.reduceLT, Nat.reducePow, Int.reducePow, Int.reduceNeg, Int.reduceToNat, Int.reduceSub, Int.reduceMul, Int.reduceAdd, or_true, true_or, Nat.reduceLT, and_self, Int.reduceEq, Nat.reduceEqDiff, exists_and_left, HBs, bx_box hn, bx_setb hn, Ob.lst.injEq]
    refine fz_list hn hb rfl (pures_of fun x m => (hv x m).1.pure) (q _ _ (fun e => ?_) (by simp at hl; omega) hv hnd (hb.mono (by simp; omega)))
    have := hz e
    simp at this
    omega
end Pf

namespace Pf
open PySem PySem.Spec PyProof.Rows L2
theorem jk_get {α : Type} {L : List α} {o : α} : (L ++ [o])[L.length]? = some o := by simp
theorem jk_set {α : Type} {L : List α} {o p : α} : (L ++ [o]).set L.length p = L ++ [p] := by
  rw [List.set_append_right _ _ (Nat.le_refl _), Nat.sub_self]; rfl
theorem cutI_s {n d : Nat} {v : Int} (h : 0 ≤ v) : cutI n d (some v) = min v.toNat n := if_neg (by omega)
theorem cutI_n {n d : Nat} : cutI n d none = d := rfl
theorem drop_min {α : Type} {xs : List α} {a : Nat} : xs.drop (min a xs.length) = xs.drop a := by
  by_cases q : a ≤ xs.length
  · rw [Nat.min_eq_left q]
  · rw [Nat.min_eq_right (by omega), List.drop_length, List.drop_eq_nil_of_le (by omega)]
theorem cut_to {α : Type} {xs : List α} {a : Int} (h : 0 ≤ a) : cutL xs none (some a) = xs.take a.toNat := by
  unfold cutL
  rw [cutI_s h, cutI_n, List.drop_zero, Nat.sub_zero, List.take_eq_take_iff]; omega
theorem cut_ft {α : Type} {xs : List α} {a b : Int} (h : 0 ≤ a) (h2 : a ≤ b) : cutL xs (some a) (some b) = (xs.drop a.toNat).take (b - a).toNat := by
  unfold cutL
  rw [cutI_s h, cutI_s (by omega), drop_min, List.take_eq_take_iff, List.length_drop]; omega
theorem cut_from {α : Type} {xs : List α} {a : Int} (h : 0 ≤ a) : cutL xs (some a) none = xs.drop a.toNat := by
  unfold cutL
  rw [cutI_s h, cutI_n, drop_min]
  exact List.take_of_length_le (by rw [List.length_drop]; omega)
theorem tup_inj {xs ys : List D} (e : D.tup xs = D.tup ys) : xs = ys := D.tup.inj e
theorem mem_tup {x : List D} {ts : List (List D)} : D.tup x ∈ ts.map D.tup ↔ x ∈ ts := by
  rw [List.mem_map]
  exact ⟨fun ⟨y, m, e⟩ => by rw [← D.tup.inj e]; exact m, fun m => ⟨x, m, rfl⟩⟩
theorem pl_vals {t : List D} (h : SVs t) : Pl (.tup t) := Pl.tup fun x m => (h x m).1.pl
theorem depth_vals {t : List D} (h : SVs t) : (D.tup t).depth ≤ 1 := depth_tup (k := 0) fun x m => by rw [val_depth0 (h x m).1]; exact Nat.le_refl _
theorem nodup_snoc {α : Type} {xs : List α} {x : α} (h : xs.Nodup) (n : x ∉ xs) : (xs ++ [x]).Nodup := by
  rw [List.nodup_append]
  exact ⟨h, by simp, fun a ma b mb e => n (by rw [← List.mem_singleton.mp mb, ← e]; exact ma)⟩
theorem mem_snoc {α : Type} {P : α → Prop} {xs : List α} {x : α} (h : ∀ y ∈ xs, P y) (n : P x) : ∀ y ∈ xs ++ [x], P y := fun y m => by
  rcases List.mem_append.mp m with m | m
  · exact h y m
  · rw [List.mem_singleton.mp m]; exact n
def f_law_tuples : Fn := ⟨3, 8, (.cons (.asg (.name 3) (.call "_law_pool" (.cons (.var 0) (.cons (.int 6) .nil)))) (.cons (.asg (.name 4) (.lst true .nil)) (.cons (.for_ (.name 5) (.rng1 (.var 2)) (.cons (.asg (.name 6) (.bf .tuple false (.cons (.comp false [7] (.name 7) (.rng1 (.var 1)) .nil (.idx (.var 3) (.call "_law_take" (.cons (.var 0) (.cons (.bf .len false (.cons (.var 3) .nil)) .nil))))) .nil))) (.cons (.ite (.cmp .notin (.var 6) (.var 4)) (.cons (.expr (.meth .append (.var 4) (.cons (.var 6) .nil))) .nil) .nil) .nil))) (.cons (.ret (.var 4)) .nil))))⟩
def Tps (w : Nat) (ts : List (List D)) : Prop := ∀ t ∈ ts, t.length = w ∧ SVs t
def spTuples : Spc := fun ds h Q _ => ∃ (n : Nat) (B w m : Int) (xs : List D), ds = [.ref n, .int w, .int m] ∧ h[n]? = some (.lst xs) ∧ BoxOk B xs ∧ B ≤ 960000000000 ∧ 0 ≤ w ∧ w ≤ 10 ∧ 0 ≤ m ∧ m ≤ 100 ∧
  ∀ ts ys, (ts.length : Int) ≤ m → Tps w.toNat ts → ts.Nodup → BoxOk (B + 1200) ys → Q (.lst (ts.map .tup)) (h.set n (.lst ys))
theorem tuples_ok {H : DH} {n : Nat} {xs : List D} {B w m : Int} {Q : DQ} (hb : BoxOk B xs) (hg : H[n]? = some (.lst xs)) (h1 : B ≤ 960000000000) (h2 : 0 ≤ w) (h3 : w ≤ 10) (h4 : 0 ≤ m) (h5 : m ≤ 100)
    (k : ∀ ts ys, (ts.length : Int) ≤ m → Tps w.toNat ts → ts.Nodup → BoxOk (B + 1200) ys → Q (.lst (ts.map .tup)) (H.set n (.lst ys))) : spTuples [.ref n, .int w, .int m] H Q NX := ⟨n, B, w, m, xs, rfl, hg, hb, h1, h2, h3, h4, h5, k⟩
theorem i_tuples {Φ : Fs} (et : Φ.fn "_law_take" = spTake) (ep : Φ.fn "_law_pool" = spPool) : Impl Φ f_law_tuples spTuples := by
  rintro ds h Q ⟨n, B, w, m, xs, rfl, hg, hb, hB, w0, w1, m0, m1, q⟩
  have hn : n < h.length := (List.getElem?_eq_some_iff.mp hg).1
  refine ⟨rfl, start_bx hg ?_⟩
  refine soneW ?_; try simp only [EVs, Ts.len, List.getElem?_cons_zero, List.getElem?_cons_succ, List.set_cons_zero, List.set_cons_succ, Option.some.injEq, D.int.injEq, D.bl.injEq, D.str.injEq, D.tup.injEq, D.lst.injEq, D.ref.injEq, exists_eq_left, exists_eq_left', true_and, and_true, if_true, if_false, Bool.false_eq_true, Bool.true_eq_false, reduceCtorEq, List.length_cons, List.length_nil, Option.map_some, List.any_cons, List.any_nil, Bool.or_false, isTy, decide_true, decide_false, Bool.and_true, Bool.and_false, Bool.or_true, Bool.true_or, Bool.false_or, Bool.false_and, Bool.true_and, Bool.not_true, Bool.not_false, startD, List.map_cons, List.map_nil, List.cons_append, List.nil_append, List.replicate_zero, List.replicate_succ, Nat.reduceSub, Nat.reduceAdd, Option.isSome_some, wipeD, false_and, and_false, exists_false, false_or, or_false, gt_iff_lt, ge_iff_le, Option.bind_some, decide_eq_true_eq, Nat.reduceLeDiff, Nat.zero_le, Int.reduceLE, Int.reduceLT, Nat.reducePow, Int.reducePow, Int.reduceNeg, Int.reduceToNat, Int.reduceSub, Int.reduceMul, Int.reduceAdd, or_true, true_or, Nat.reduceLT, and_self, Int.reduceEq, Nat.reduceEqDiff, exists_and_left, HBs, bx_box hn, bx_setb hn, Ob.lst.injEq, f_law_tuples, ep]
  refine pool_ok hb (bx_box hn) (by omega) (by omega) (by omega) fun vs us vn vl vv vnd hb => ?_
  try simp only [EVs, Ts.len, List.getElem?_cons_zero, List.getElem?_cons_succ, List.set_cons_zero, List.set_cons_succ, Option.some.injEq, D.int.injEq, D.bl.injEq, D.str.injEq, D.tup.injEq, D.lst.injEq, D.ref.injEq, exists_eq_left, exists_eq_left', true_and, and_true, if_true, if_false, Bool.false_eq_true, Bool.true_eq_false, reduceCtorEq, List.length_cons, List.length_nil, Option.map_some, List.any_cons, List.any_nil, Bool.or_false, isTy, decide_true, decide_false, Bool.and_true, Bool.and_false, Bool.or_true, Bool.true_or, Bool.false_or, Bool.false_and, Bool.true_and, Bool.not_true, Bool.not_false, startD, List.map_cons, List.map_nil, List.cons_append, List.nil_append, List.replicate_zero, List.replicate_succ, Nat.reduceSub, Nat.reduceAdd, Option.isSome_some, wipeD, false_and, and_false, exists_false, false_or, or_false, gt_iff_lt, ge_iff_le, Option.bind_some, decide_eq_true_eq, Nat.reduceLeDiff, Nat.zero_le, Int.reduceLE, Int.reduceLT, Nat.reducePow, Int.reducePow, Int.reduceNeg, Int.reduceToNat, Int.reduceSub, Int.reduceMul, Int.reduceAdd, or_true, true_or, Nat.reduceLT, and_self, Int.reduceEq, Nat.reduceEqDiff, exists_and_left, HBs, bx_box hn, bx_setb hn, Ob.lst.injEq]
  refine soneW ?_; try simp only [EVs, Ts.len, List.getElem?_cons_zero, List.getElem?_cons_succ, List.set_cons_zero, List.set_cons_succ, Option.some.injEq, D.int.injEq, D.bl.injEq, D.str.injEq, D.tup.injEq, D.lst.injEq, D.ref.injEq, exists_eq_left, exists_eq_left', true_and, and_true, if_true, if_false, Bool.false_eq_true, Bool.true_eq_false, reduceCtorEq, List.length_cons, List.length_nil, Option.map_some, List.any_cons, List.any_nil, Bool.or_false, isTy, decide_true, decide_false, Bool.and_true, Bool.and_false, Bool.or_true, Bool.true_or, Bool.false_or, Bool.false_and, Bool.true_and, Bool.not_true, Bool.not_false, startD, List.map_cons, List.map_nil, List.cons_append, List.nil_append, List.replicate_zero, List.replicate_succ, Nat.reduceSub, Nat.reduceAdd, Option.isSome_some, wipeD, false_and, and_false, exists_false, false_or, or_false, gt_iff_lt, ge_iff_le, Option.bind_some, decide_eq_true_eq, Nat.reduceLeDiff, Nat.zero_le, Int.reduceLE, Int.reduceLT, Nat.reducePow, Int.reducePow, Int.reduceNeg, Int.reduceToNat, Int.reduceSub, Int.reduceMul, Int.reduceAdd, or_true, true_or, Nat.reduceLT, and_self, Int.reduceEq, Nat.reduceEqDiff, exists_and_left, HBs, bx_box hn, bx_setb hn, Ob.lst.injEq]
  refine soneW ?_; try simp only [EVs, Ts.len, List.getElem?_cons_zero, List.getElem?_cons_succ, List.set_cons_zero, List.set_cons_succ, Option.some.injEq, D.int.injEq, D.bl.injEq, D.str.injEq, D.tup.injEq, D.lst.injEq, D.ref.injEq, exists_eq_left, exists_eq_left', true_and, and_true, if_true, if_false, Bool.false_eq_true, Bool.true_eq_false, reduceCtorEq, List.length_cons, List.length_nil, Option.map_some, List.any_cons, List.any_nil, Bool.or_false, isTy, decide_true, decide_false, Bool.and_true, Bool.and_false, Bool.or_true, Bool.true_or, Bool.false_or, Bool.false_and, Bool.true_and, Bool.not_true, Bool.not_false, startD, List.map_cons, List.map_nil, List.cons_append, List.nil_append, List.replicate_zero, List.replicate_succ, Nat.reduceSub, Nat.reduceAdd, Option.isSome_some, wipeD, false_and, and_false, exists_false, false_or, or_false, gt_iff_lt, ge_iff_le, Option.bind_some, decide_eq_true_eq, Nat.reduceLeDiff, Nat.zero_le, Int.reduceLE, Int.reduceLT, Nat.reducePow, Int.reducePow, Int.reduceNeg, Int.reduceToNat, Int.reduceSub, Int.reduceMul, Int.reduceAdd, or_true, true_or, Nat.reduceLT, and_self, Int.reduceEq, Nat.reduceEqDiff, exists_and_left, HBs, bx_box hn, bx_setb hn, Ob.lst.injEq]
  refine ⟨⟨by omega, by omega⟩, ?_⟩
  refine forL_inv (fun rest σ h' => (∃ z5_0 z5_1 z5_2 : Option D, σ = [some (.ref n), some (.int w), some (.int m), some (.lst vs), some (.ref (lc h 0)), z5_0, z5_1, z5_2]) ∧ ∃ us ts, h' = bx h n us [.lst (ts.map .tup)] ∧ BoxOk (B + 200 + 10 * (m - rest.length)) us ∧ Tps w.toNat ts ∧ ts.Nodup ∧ ts.length + rest.length ≤ m) (fun x rest σ h' => ?_) (fun σ h' => ?_) _ _ _
    ⟨⟨_, _, _, rfl⟩, us, [], rfl, hb.mono (by rw [rngL_len]; omega), (fun x m => nomatch m), List.nodup_nil, by rw [rngL_len]; simp; omega⟩
  · rintro ⟨⟨_, _, _, rfl⟩, us, ts, rfl, hb, hv, hnd, hl⟩
    rw [List.length_cons] at hb hl
    refine ⟨trivial, fun K krt knx kct kbk => ?_⟩
    try simp only [EVs, Ts.len, List.getElem?_cons_zero, List.getElem?_cons_succ, List.set_cons_zero, List.set_cons_succ, Option.some.injEq, D.int.injEq, D.bl.injEq, D.str.injEq, D.tup.injEq, D.lst.injEq, D.ref.injEq, exists_eq_left, exists_eq_left', true_and, and_true, if_true, if_false, Bool.false_eq_true, Bool.true_eq_false, reduceCtorEq, List.length_cons, List.length_nil, Option.map_some, List.any_cons, List.any_nil, Bool.or_false, isTy, decide_true, decide_false, Bool.and_true, Bool.and_false, Bool.or_true, Bool.true_or, Bool.false_or, Bool.false_and, Bool.true_and, Bool.not_true, Bool.not_false, startD, List.map_cons, List.map_nil, List.cons_append, List.nil_append, List.replicate_zero, List.replicate_succ, Nat.reduceSub, Nat.reduceAdd, Option.isSome_some, wipeD, false_and, and_false, exists_false, false_or, or_false, gt_iff_lt, ge_iff_le, Option.bind_some, decide_eq_true_eq, Nat.reduceLeDiff, Nat.zero_le, Int.reduceLE, Int.reduceLT, Nat.reducePow, Int.reducePow, Int.reduceNeg, Int.reduceToNat, Int.reduceSub, Int.reduceMul, Int.reduceAdd, or_true, true_or, Nat.reduceLT, and_self, Int.reduceEq, Nat.reduceEqDiff, exists_and_left, HBs, bx_box hn, bx_setb hn, Ob.lst.injEq]
    refine soneW ?_; try simp only [EVs, Ts.len, List.getElem?_cons_zero, List.getElem?_cons_succ, List.set_cons_zero, List.set_cons_succ, Option.some.injEq, D.int.injEq, D.bl.injEq, D.str.injEq, D.tup.injEq, D.lst.injEq, D.ref.injEq, exists_eq_left, exists_eq_left', true_and, and_true, if_true, if_false, Bool.false_eq_true, Bool.true_eq_false, reduceCtorEq, List.length_cons, List.length_nil, Option.map_some, List.any_cons, List.any_nil, Bool.or_false, isTy, decide_true, decide_false, Bool.and_true, Bool.and_false, Bool.or_true, Bool.true_or, Bool.false_or, Bool.false_and, Bool.true_and, Bool.not_true, Bool.not_false, startD, List.map_cons, List.map_nil, List.cons_append, List.nil_append, List.replicate_zero, List.replicate_succ, Nat.reduceSub, Nat.reduceAdd, Option.isSome_some, wipeD, false_and, and_false, exists_false, false_or, or_false, gt_iff_lt, ge_iff_le, Option.bind_some, decide_eq_true_eq, Nat.reduceLeDiff, Nat.zero_le, Int.reduceLE, Int.reduceLT, Nat.reducePow, Int.reducePow, Int.reduceNeg, Int.reduceToNat, Int.reduceSub, Int.reduceMul, Int.reduceAdd, or_true, true_or, Nat.reduceLT, and_self, Int.reduceEq, Nat.reduceEqDiff, exists_and_left, HBs, bx_box hn, bx_setb hn, Ob.lst.injEq]
    refine ⟨⟨by omega, by omega⟩, ?_⟩
    refine compL_bx (c := 1) (fun us => bx h n us [.lst (ts.map .tup)]) SV (by omega) hb (fun _ => trivial) (fun x m C us hb hC hC2 k hk => ?_) fun ys us yl yp hb => ?_
    · try simp only [EVs, Ts.len, List.getElem?_cons_zero, List.getElem?_cons_succ, List.set_cons_zero, List.set_cons_succ, Option.some.injEq, D.int.injEq, D.bl.injEq, D.str.injEq, D.tup.injEq, D.lst.injEq, D.ref.injEq, exists_eq_left, exists_eq_left', true_and, and_true, if_true, if_false, Bool.false_eq_true, Bool.true_eq_false, reduceCtorEq, List.length_cons, List.length_nil, Option.map_some, List.any_cons, List.any_nil, Bool.or_false, isTy, decide_true, decide_false, Bool.and_true, Bool.and_false, Bool.or_true, Bool.true_or, Bool.false_or, Bool.false_and, Bool.true_and, Bool.not_true, Bool.not_false, startD, List.map_cons, List.map_nil, List.cons_append, List.nil_append, List.replicate_zero, List.replicate_succ, Nat.reduceSub, Nat.reduceAdd, Option.isSome_some, wipeD, false_and, and_false, exists_false, false_or, or_false, gt_iff_lt, ge_iff_le, Option.bind_some, decide_eq_true_eq, Nat.reduceLeDiff, Nat.zero_le, Int.reduceLE, Int.reduceLT, Nat.reducePow, Int.reducePow, Int.reduceNeg, Int.reduceToNat, Int.reduceSub, Int.reduceMul, Int.reduceAdd, or_true, true_or, Nat.reduceLT, and_self, Int.reduceEq, Nat.reduceEqDiff, exists_and_left, HBs, bx_box hn, bx_setb hn, Ob.lst.injEq, et]
      have vpos : 0 < vs.length := List.length_pos_iff.mpr vn
      rw [rngL_len] at hC2
      refine take_ok hb (bx_box hn) (by omega) (by omega) (by omega) fun r us r0 r1 hb => ?_
      obtain ⟨y, ey, vy⟩ := at_mem vv r0 r1
      try simp only [EVs, Ts.len, List.getElem?_cons_zero, List.getElem?_cons_succ, List.set_cons_zero, List.set_cons_succ, Option.some.injEq, D.int.injEq, D.bl.injEq, D.str.injEq, D.tup.injEq, D.lst.injEq, D.ref.injEq, exists_eq_left, exists_eq_left', true_and, and_true, if_true, if_false, Bool.false_eq_true, Bool.true_eq_false, reduceCtorEq, List.length_cons, List.length_nil, Option.map_some, List.any_cons, List.any_nil, Bool.or_false, isTy, decide_true, decide_false, Bool.and_true, Bool.and_false, Bool.or_true, Bool.true_or, Bool.false_or, Bool.false_and, Bool.true_and, Bool.not_true, Bool.not_false, startD, List.map_cons, List.map_nil, List.cons_append, List.nil_append, List.replicate_zero, List.replicate_succ, Nat.reduceSub, Nat.reduceAdd, Option.isSome_some, wipeD, false_and, and_false, exists_false, false_or, or_false, gt_iff_lt, ge_iff_le, Option.bind_some, decide_eq_true_eq, Nat.reduceLeDiff, Nat.zero_le, Int.reduceLE, Int.reduceLT, Nat.reducePow, Int.reducePow, Int.reduceNeg, Int.reduceToNat, Int.reduceSub, Int.reduceMul, Int.reduceAdd, or_true, true_or, Nat.reduceLT, and_self, Int.reduceEq, Nat.reduceEqDiff, exists_and_left, HBs, bx_box hn, bx_setb hn, Ob.lst.injEq, ey]
      exact hk _ _ vy hb
    · rw [rngL_len] at yl hb
      try simp only [EVs, Ts.len, List.getElem?_cons_zero, List.getElem?_cons_succ, List.set_cons_zero, List.set_cons_succ, Option.some.injEq, D.int.injEq, D.bl.injEq, D.str.injEq, D.tup.injEq, D.lst.injEq, D.ref.injEq, exists_eq_left, exists_eq_left', true_and, and_true, if_true, if_false, Bool.false_eq_true, Bool.true_eq_false, reduceCtorEq, List.length_cons, List.length_nil, Option.map_some, List.any_cons, List.any_nil, Bool.or_false, isTy, decide_true, decide_false, Bool.and_true, Bool.and_false, Bool.or_true, Bool.true_or, Bool.false_or, Bool.false_and, Bool.true_and, Bool.not_true, Bool.not_false, startD, List.map_cons, List.map_nil, List.cons_append, List.nil_append, List.replicate_zero, List.replicate_succ, Nat.reduceSub, Nat.reduceAdd, Option.isSome_some, wipeD, false_and, and_false, exists_false, false_or, or_false, gt_iff_lt, ge_iff_le, Option.bind_some, decide_eq_true_eq, Nat.reduceLeDiff, Nat.zero_le, Int.reduceLE, Int.reduceLT, Nat.reducePow, Int.reducePow, Int.reduceNeg, Int.reduceToNat, Int.reduceSub, Int.reduceMul, Int.reduceAdd, or_true, true_or, Nat.reduceLT, and_self, Int.reduceEq, Nat.reduceEqDiff, exists_and_left, HBs, bx_box hn, bx_setb hn, Ob.lst.injEq]
      have vt : SVs ys := yp
      have hin : inF (bx h n us [.lst (ts.map .tup)]) (.tup ys) (.ref (lc h 0)) = some ((ts.map .tup).any fun z => D.eqv z (.tup ys)) := in_seq (by try simp only [EVs, Ts.len, List.getElem?_cons_zero, List.getElem?_cons_succ, List.set_cons_zero, List.set_cons_succ, Option.some.injEq, D.int.injEq, D.bl.injEq, D.str.injEq, D.tup.injEq, D.lst.injEq, D.ref.injEq, exists_eq_left, exists_eq_left', true_and, and_true, if_true, if_false, Bool.false_eq_true, Bool.true_eq_false, reduceCtorEq, List.length_cons, List.length_nil, Option.map_some, List.any_cons, List.any_nil, Bool.or_false, isTy, decide_true, decide_false, Bool.and_true, Bool.and_false, Bool.or_true, Bool.true_or, Bool.false_or, Bool.false_and, Bool.true_and, Bool.not_true, Bool.not_false, startD, List.map_cons, List.map_nil, List.cons_append, List.nil_append, List.replicate_zero, List.replicate_succ, Nat.reduceSub, Nat.reduceAdd, Option.isSome_some, wipeD, false_and, and_false, exists_false, false_or, or_false, gt_iff_lt, ge_iff_le, Option.bind_some, decide_eq_true_eq, Nat.reduceLeDiff, Nat.zero_le, Int.reduceLE, Int.reduceLT, Nat.reducePow, Int.reducePow, Int.reduceNeg, Int.reduceToNat, Int.reduceSub, Int.reduceMul, Int.reduceAdd, or_true, true_or, Nat.reduceLT, and_self, Int.reduceEq, Nat.reduceEqDiff, exists_and_left, HBs, bx_box hn, bx_setb hn, Ob.lst.injEq]) (fun s => nofun) (pl_vals vt).p (pures_of fun x m => by obtain ⟨t, mt, rfl⟩ := List.mem_map.mp m; exact (pl_vals (hv t mt).2).p) (Nat.le_trans (depth_vals vt) (by decide))
      have hany := any_eqv (pl_vals vt) (ys := ts.map .tup) fun y m => by obtain ⟨t, mt, rfl⟩ := List.mem_map.mp m; exact pl_vals (hv t mt).2
      rw [mem_tup] at hany
      refine soneW ?_; try simp only [EVs, Ts.len, List.getElem?_cons_zero, List.getElem?_cons_succ, List.set_cons_zero, List.set_cons_succ, Option.some.injEq, D.int.injEq, D.bl.injEq, D.str.injEq, D.tup.injEq, D.lst.injEq, D.ref.injEq, exists_eq_left, exists_eq_left', true_and, and_true, if_true, if_false, Bool.false_eq_true, Bool.true_eq_false, reduceCtorEq, List.length_cons, List.length_nil, Option.map_some, List.any_cons, List.any_nil, Bool.or_false, isTy, decide_true, decide_false, Bool.and_true, Bool.and_false, Bool.or_true, Bool.true_or, Bool.false_or, Bool.false_and, Bool.true_and, Bool.not_true, Bool.not_false, startD, List.map_cons, List.map_nil, List.cons_append, List.nil_append, List.replicate_zero, List.replicate_succ, Nat.reduceSub, Nat.reduceAdd, Option.isSome_some, wipeD, false_and, and_false, exists_false, false_or, or_false, gt_iff_lt, ge_iff_le, Option.bind_some, decide_eq_true_eq, Nat.reduceLeDiff, Nat.zero_le, Int.reduceLE, Int.reduceLT, Nat.reducePow, Int.reducePow, Int.reduceNeg, Int.reduceToNat, Int.reduceSub, Int.reduceMul, Int.reduceAdd, or_true, true_or, Nat.reduceLT, and_self, Int.reduceEq, Nat.reduceEqDiff, exists_and_left, HBs, bx_box hn, bx_setb hn, Ob.lst.injEq, hin]
      cases ha : (ts.map D.tup).any fun z => D.eqv z (.tup ys) with
      | true =>
        try simp only [EVs, Ts.len, List.getElem?_cons_zero, List.getElem?_cons_succ, List.set_cons_zero, List.set_cons_succ, Option.some.injEq, D.int.injEq, D.bl.injEq, D.str.injEq, D.tup.injEq, D.lst.injEq, D.ref.injEq, exists_eq_left, exists_eq_left', true_and, and_true, if_true, if_false, Bool.false_eq_true, Bool.true_eq_false, reduceCtorEq, List.length_cons, List.length_nil, Option.map_some, List.any_cons, List.any_nil, Bool.or_false, isTy, decide_true, decide_false, Bool.and_true, Bool.and_false, Bool.or_true, Bool.true_or, Bool.false_or, Bool.false_and, Bool.true_and, Bool.not_true, Bool.not_false, startD, List.map_cons, List.map_nil, List.cons_append, List.nil_append, List.replicate_zero, List.replicate_succ, Nat.reduceSub, Nat.reduceAdd, Option.isSome_some, wipeD, false_and, and_false, exists_false, false_or, or_false, gt_iff_lt, ge_iff_le, Option.bind_some, decide_eq_true_eq, Nat.reduceLeDiff, Nat.zero_le, Int.reduceLE, Int.reduceLT, Nat.reducePow, Int.reducePow, Int.reduceNeg, Int.reduceToNat, Int.reduceSub, Int.reduceMul, Int.reduceAdd, or_true, true_or, Nat.reduceLT, and_self, Int.reduceEq, Nat.reduceEqDiff, exists_and_left, HBs, bx_box hn, bx_setb hn, Ob.lst.injEq]
        refine snil (Φ := Φ) (xq := NX) ?_; refine snil (Φ := Φ) (xq := NX) ?_
        exact knx _ _ ⟨⟨_, _, _, rfl⟩, us, ts, rfl, hb.mono (by omega), hv, hnd, by omega⟩
      | false =>
        try simp only [EVs, Ts.len, List.getElem?_cons_zero, List.getElem?_cons_succ, List.set_cons_zero, List.set_cons_succ, Option.some.injEq, D.int.injEq, D.bl.injEq, D.str.injEq, D.tup.injEq, D.lst.injEq, D.ref.injEq, exists_eq_left, exists_eq_left', true_and, and_true, if_true, if_false, Bool.false_eq_true, Bool.true_eq_false, reduceCtorEq, List.length_cons, List.length_nil, Option.map_some, List.any_cons, List.any_nil, Bool.or_false, isTy, decide_true, decide_false, Bool.and_true, Bool.and_false, Bool.or_true, Bool.true_or, Bool.false_or, Bool.false_and, Bool.true_and, Bool.not_true, Bool.not_false, startD, List.map_cons, List.map_nil, List.cons_append, List.nil_append, List.replicate_zero, List.replicate_succ, Nat.reduceSub, Nat.reduceAdd, Option.isSome_some, wipeD, false_and, and_false, exists_false, false_or, or_false, gt_iff_lt, ge_iff_le, Option.bind_some, decide_eq_true_eq, Nat.reduceLeDiff, Nat.zero_le, Int.reduceLE, Int.reduceLT, Nat.reducePow, Int.reducePow, Int.reduceNeg, Int.reduceToNat, Int.reduceSub, Int.reduceMul, Int.reduceAdd, or_true, true_or, Nat.reduceLT, and_self, Int.reduceEq, Nat.reduceEqDiff, exists_and_left, HBs, bx_box hn, bx_setb hn, Ob.lst.injEq]
        refine soneW ?_; try simp only [EVs, Ts.len, List.getElem?_cons_zero, List.getElem?_cons_succ, List.set_cons_zero, List.set_cons_succ, Option.some.injEq, D.int.injEq, D.bl.injEq, D.str.injEq, D.tup.injEq, D.lst.injEq, D.ref.injEq, exists_eq_left, exists_eq_left', true_and, and_true, if_true, if_false, Bool.false_eq_true, Bool.true_eq_false, reduceCtorEq, List.length_cons, List.length_nil, Option.map_some, List.any_cons, List.any_nil, Bool.or_false, isTy, decide_true, decide_false, Bool.and_true, Bool.and_false, Bool.or_true, Bool.true_or, Bool.false_or, Bool.false_and, Bool.true_and, Bool.not_true, Bool.not_false, startD, List.map_cons, List.map_nil, List.cons_append, List.nil_append, List.replicate_zero, List.replicate_succ, Nat.reduceSub, Nat.reduceAdd, Option.isSome_some, wipeD, false_and, and_false, exists_false, false_or, or_false, gt_iff_lt, ge_iff_le, Option.bind_some, decide_eq_true_eq, Nat.reduceLeDiff, Nat.zero_le, Int.reduceLE, Int.reduceLT, Nat.reducePow, Int.reducePow, Int.reduceNeg, Int.reduceToNat, Int.reduceSub, Int.reduceMul, Int.reduceAdd, or_true, true_or, Nat.reduceLT, and_self, Int.reduceEq, Nat.reduceEqDiff, exists_and_left, HBs, bx_box hn, bx_setb hn, Ob.lst.injEq]
        refine ⟨by rw [List.length_map]; omega, ?_⟩
        refine snil (Φ := Φ) (xq := NX) ?_; refine snil (Φ := Φ) (xq := NX) ?_
        refine knx _ _ ⟨⟨_, _, _, rfl⟩, us, ts ++ [ys], by rw [List.map_append]; rfl, hb.mono (by omega), mem_snoc hv ⟨yl, vt⟩, nodup_snoc hnd fun m => ?_, by rw [List.length_append]; simp; omega⟩
        rw [hany.mpr m] at ha; cases ha
  · rintro ⟨⟨_, _, _, rfl⟩, us, ts, rfl, hb, hv, hnd, hl⟩
    refine ⟨trivial, ?_⟩
    refine soneW ?_; try simp only [EVs, Ts.len, List.getElem?_cons_zero, List.getElem?_cons_succ, List.set_cons_zero, List.set_cons_succ, Option.some.injEq, D.int.injEq, D.bl.injEq, D.str.injEq, D.tup.injEq, D.lst.injEq, D.ref.injEq, exists_eq_left, exists_eq_left', true_and, and_true, if_true, if_false, Bool.false_eq_true, Bool.true_eq_false, reduceCtorEq, List.length_cons, List.length_nil, Option.map_some, List.any_cons, List.any_nil, Bool.or_false, isTy, decide_true, decide_false, Bool.and_true, Bool.and_false, Bool.or_true, Bool.true_or, Bool.false_or, Bool.false_and, Bool.true_and, Bool.not_true, Bool.not_false, startD, List.map_cons, List.map_nil, List.cons_append, List.nil_append, List.replicate_zero, List.replicate_succ, Nat.reduceSub, Nat.reduceAdd, Option.isSome_some, wipeD, false_and, and_false, exists_false, false_or, or_false, gt_iff_lt, ge_iff_le, Option.bind_some, decide_eq_true_eq, Nat.reduceLeDiff, Nat.zero_le, Int.reduceLE, Int.reduceLT, Nat.reducePow, Int.reducePow, Int.reduceNeg, Int.reduceToNat, Int.reduceSub, Int.reduceMul, Int.reduceAdd, or_true, true_or, Nat.reduceLT, and_self, Int.reduceEq, Nat.reduceEqDiff, exists_and_left, HBs, bx_box hn, bx_setb hn, Ob.lst.injEq]
    refine fz_list hn hb rfl (pures_of fun x m => ?_) (q ts _ (by simp at hl; omega) hv hnd (hb.mono (by simp; omega)))
    obtain ⟨t, mt, rfl⟩ := List.mem_map.mp m
    exact (pl_vals (hv t mt).2).p
structure WT where
  key : List D
  nam : List D
  val : List D
  heads : List (List D)
  rows : List (List D × List (Option (List D)))
def cellD : Option (List D) → D
  | none => .non
  | some vs => .tup vs
def rowD (p : List D × List (Option (List D))) : D := .tup [.tup p.1, .tup (p.2.map cellD)]
def WT.d (w : WT) : D := .tup [.tup w.key, .tup w.nam, .tup w.val, .tup (w.heads.map .tup), .tup (w.rows.map rowD)]
structure WT.Ok (w : WT) : Prop where
  names : (w.key ++ w.nam ++ w.val).Nodup
  nm : ∀ x ∈ w.key ++ w.nam ++ w.val, x ∈ NM
  val0 : w.val ≠ []
  hd : Tps w.nam.length w.heads
  hnd : w.heads.Nodup
  rw : ∀ r ∈ w.rows, r.1.length = w.key.length ∧ SVs r.1 ∧ r.2.length = w.heads.length ∧ ∀ vs, some vs ∈ r.2 → vs.length = w.val.length ∧ SVs vs
  pnd : (w.rows.map (·.1)).Nodup
  hl : w.heads.length ≤ 12
  rl : w.rows.length ≤ 12
  kl : w.key.length ≤ 2
  nl : w.nam.length ≤ 2
  vl : w.val.length ≤ 5
def WT.Nums (w : WT) : Prop := ∀ r ∈ w.rows, ∀ vs, some vs ∈ r.2 → ∀ v ∈ vs, ∃ i : Int, v = .int i
def f_law_wide : Fn := ⟨2, 17, (.cons (.asg (.name 2) (.call "_law_names" (.cons (.var 0) (.cons (.int 9) .nil)))) (.cons (.asg (.tup (.cons (.name 3) (.cons (.name 4) (.cons (.name 5) .nil)))) (.tup (.cons (.call "_law_take" (.cons (.var 0) (.cons (.int 3) .nil))) (.cons (.call "_law_take" (.cons (.var 0) (.cons (.int 3) .nil))) (.cons (.bin .add (.int 1) (.call "_law_take" (.cons (.var 0) (.cons (.int 2) .nil)))) .nil))))) (.cons (.ite (.cmp .eq (.call "_law_take" (.cons (.var 0) (.cons (.int 8) .nil))) (.int 0)) (.cons (.asg (.name 5) (.bin .add (.int 3) (.call "_law_take" (.cons (.var 0) (.cons (.int 3) .nil))))) .nil) .nil) (.cons (.asg (.tup (.cons (.name 6) (.cons (.name 7) .nil))) (.tup (.cons (.sli false (.var 2) .non (.var 3)) (.cons (.sli false (.var 2) (.var 3) (.bin .add (.var 3) (.var 4))) .nil)))) (.cons (.asg (.name 8) (.sli false (.var 2) (.bin .add (.var 3) (.var 4)) (.bin .add (.bin .add (.var 3) (.var 4)) (.var 5)))) (.cons (.asg (.name 9) (.call "_law_tuples" (.cons (.var 0) (.cons (.var 4) (.cons (.call "_law_many" (.cons (.var 0) (.cons (.int 0) (.cons (.int 5) (.cons (.int 12) .nil))))) .nil))))) (.cons (.asg (.name 10) (.idx (.lst false (.cons (.int 9) (.cons (.int 2) (.cons (.int 3) .nil)))) (.call "_law_take" (.cons (.var 0) (.cons (.int 3) .nil))))) (.cons (.asg (.name 11) (.lst true .nil)) (.cons (.for_ (.name 12) (.seq (.call "_law_tuples" (.cons (.var 0) (.cons (.var 3) (.cons (.call "_law_many" (.cons (.var 0) (.cons (.int 0) (.cons (.int 5) (.cons (.int 12) .nil))))) .nil))))) (.cons (.asg (.name 13) (.lst true .nil)) (.cons (.for_ (.name 14) (.seq (.var 9)) (.cons (.asg (.name 15) (.bf .tuple false (.cons (.comp false [16] (.name 16) (.seq (.var 8)) .nil (.ite (.var 1) (.call "_law_number" (.cons (.var 0) .nil)) (.call "_law_value" (.cons (.var 0) .nil)))) .nil))) (.cons (.expr (.meth .append (.var 13) (.cons (.ite (.cmp .eq (.call "_law_take" (.cons (.var 0) (.cons (.var 10) .nil))) (.int 0)) .non (.var 15)) .nil))) .nil))) (.cons (.expr (.meth .append (.var 11) (.cons (.tup (.cons (.var 12) (.cons (.bf .tuple false (.cons (.var 13) .nil)) .nil))) .nil))) .nil)))) (.cons (.ret (.tup (.cons (.bf .tuple false (.cons (.var 6) .nil)) (.cons (.bf .tuple false (.cons (.var 7) .nil)) (.cons (.bf .tuple false (.cons (.var 8) .nil)) (.cons (.bf .tuple false (.cons (.var 9) .nil)) (.cons (.bf .tuple false (.cons (.var 11) .nil)) .nil))))))) .nil))))))))))⟩
def spWide : Spc := fun ds h Q _ => ∃ (n : Nat) (B : Int) (nb : Bool) (xs : List D), ds = [.ref n, .bl nb] ∧ h[n]? = some (.lst xs) ∧ BoxOk B xs ∧ B ≤ 950000000000 ∧
  ∀ (w : WT) ys, w.Ok → (nb = true → w.Nums) → BoxOk (B + 10000) ys → Q w.d (h.set n (.lst ys))
theorem wide_ok {H : DH} {n : Nat} {xs : List D} {B : Int} {nb : Bool} {Q : DQ} (hb : BoxOk B xs) (hg : H[n]? = some (.lst xs)) (h1 : B ≤ 950000000000)
    (k : ∀ (w : WT) ys, w.Ok → (nb = true → w.Nums) → BoxOk (B + 10000) ys → Q w.d (H.set n (.lst ys))) : spWide [.ref n, .bl nb] H Q NX := ⟨n, B, nb, xs, rfl, hg, hb, h1, k⟩
theorem cell_pl {c : Option (List D)} {k : Nat} (h : ∀ vs, c = some vs → vs.length = k ∧ SVs vs) : Pl (cellD c) := by
  cases c with
  | none => exact ⟨rfl, rfl⟩
  | some vs => exact pl_vals (h vs rfl).2
theorem WT.Ok.pl {w : WT} (o : w.Ok) : Pl w.d := by
  have pn : ∀ x ∈ NM, Pl x := fun x m => by
    rw [NM_map] at m
    obtain ⟨s, ms, rfl⟩ := List.mem_map.mp m
    exact ⟨List.all_eq_true.mp (show (NMs.map D.str).all D.pure = true by decide +kernel) _ m, rfl⟩
  have p3 := fun x m => pn x (o.nm x m)
  refine Pl.tup fun x m => ?_
  simp only [List.mem_cons, List.not_mem_nil, or_false] at m
  rcases m with rfl | rfl | rfl | rfl | rfl
  · exact Pl.tup fun x m => p3 x (by simp [m])
  · exact Pl.tup fun x m => p3 x (by simp [m])
  · exact Pl.tup fun x m => p3 x (by simp [m])
  · refine Pl.tup fun x m => ?_
    obtain ⟨t, mt, rfl⟩ := List.mem_map.mp m
    exact pl_vals (o.hd t mt).2
  · refine Pl.tup fun x m => ?_
    obtain ⟨r, mr, rfl⟩ := List.mem_map.mp m
    obtain ⟨r1, r2, r3, r4⟩ := o.rw r mr
    refine Pl.tup fun x m => ?_
    simp only [List.mem_cons, List.not_mem_nil, or_false] at m
    rcases m with rfl | rfl
    · exact pl_vals r2
    · refine Pl.tup fun x m => ?_
      obtain ⟨c, mc, rfl⟩ := List.mem_map.mp m
      exact cell_pl fun vs e => r4 vs (e ▸ mc)
theorem NM_str {x : D} (m : x ∈ NM) : x.pure = true := by
  rw [NM_map] at m
  exact List.all_eq_true.mp (show (NMs.map D.str).all D.pure = true by decide +kernel) _ m
theorem parts3 {α : Type} (ns : List α) (a b c : Nat) : ns.take a ++ (ns.drop a).take b ++ (ns.drop (a + b)).take c = ns.take (a + b + c) := by
  rw [List.take_add (i := a + b) (j := c), List.take_add (i := a) (j := b)]
/-- what a cell's values are, all numbers or any -/
def Cv (nb : Bool) (v : D) : Prop := SV v ∧ (nb = true → ∃ i : Int, v = .int i)
theorem i_wide {Φ : Fs} (et : Φ.fn "_law_take" = spTake) (en : Φ.fn "_law_names" = spNames) (eu : Φ.fn "_law_tuples" = spTuples) (em : Φ.fn "_law_many" = spMany) (ev : Φ.fn "_law_value" = spVal) (eb : Φ.fn "_law_number" = spNumber) : Impl Φ f_law_wide spWide := by
  rintro ds h Q ⟨n, B, nb, xs, rfl, hg, hb, hB, q⟩
  have hn : n < h.length := (List.getElem?_eq_some_iff.mp hg).1
  refine ⟨rfl, start_bx hg ?_⟩
  refine soneW ?_; try simp only [EVs, Ts.len, List.getElem?_cons_zero, List.getElem?_cons_succ, List.set_cons_zero, List.set_cons_succ, Option.some.injEq, D.int.injEq, D.bl.injEq, D.str.injEq, D.tup.injEq, D.lst.injEq, D.ref.injEq, exists_eq_left, exists_eq_left', true_and, and_true, if_true, if_false, Bool.false_eq_true, Bool.true_eq_false, reduceCtorEq, List.length_cons, List.length_nil, Option.map_some, List.any_cons, List.any_nil, Bool.or_false, isTy, decide_true, decide_false, Bool.and_true, Bool.and_false, Bool.or_true, Bool.true_or, Bool.false_or, Bool.false_and, Bool.true_and, Bool.not_true, Bool.not_false, startD, List.map_cons, List.map_nil, List.cons_append, List.nil_append, List.replicate_zero, List.replicate_succ, Nat.reduceSub, Nat.reduceAdd, Option.isSome_some, wipeD, false_and, and_false, exists_false, false_or, or_false, gt_iff_lt, ge_iff_le, Option.bind_some, decide_eq_true_eq, Nat.reduceLeDiff, Nat.zero_le, Int.reduceLE, Int.reduceLT, Nat.reducePow, Int.reducePow, Int.reduceNeg, Int.reduceToNat, Int.reduceSub, Int.reduceMul, Int.reduceAdd, or_true, true_or, Nat.reduceLT, and_self, Int.reduceEq, Nat.reduceEqDiff, exists_and_left, HBs, bx_box hn, bx_setb hn, Ob.lst.injEq, f_law_wide, en]
  refine names_ok hb (bx_box hn) (by omega) (by omega) (by omega) fun ns us nl nnd nm hb => ?_
  try simp only [EVs, Ts.len, List.getElem?_cons_zero, List.getElem?_cons_succ, List.set_cons_zero, List.set_cons_succ, Option.some.injEq, D.int.injEq, D.bl.injEq, D.str.injEq, D.tup.injEq, D.lst.injEq, D.ref.injEq, exists_eq_left, exists_eq_left', true_and, and_true, if_true, if_false, Bool.false_eq_true, Bool.true_eq_false, reduceCtorEq, List.length_cons, List.length_nil, Option.map_some, List.any_cons, List.any_nil, Bool.or_false, isTy, decide_true, decide_false, Bool.and_true, Bool.and_false, Bool.or_true, Bool.true_or, Bool.false_or, Bool.false_and, Bool.true_and, Bool.not_true, Bool.not_false, startD, List.map_cons, List.map_nil, List.cons_append, List.nil_append, List.replicate_zero, List.replicate_succ, Nat.reduceSub, Nat.reduceAdd, Option.isSome_some, wipeD, false_and, and_false, exists_false, false_or, or_false, gt_iff_lt, ge_iff_le, Option.bind_some, decide_eq_true_eq, Nat.reduceLeDiff, Nat.zero_le, Int.reduceLE, Int.reduceLT, Nat.reducePow, Int.reducePow, Int.reduceNeg, Int.reduceToNat, Int.reduceSub, Int.reduceMul, Int.reduceAdd, or_true, true_or, Nat.reduceLT, and_self, Int.reduceEq, Nat.reduceEqDiff, exists_and_left, HBs, bx_box hn, bx_setb hn, Ob.lst.injEq]
  refine soneW ?_; try simp only [EVs, Ts.len, List.getElem?_cons_zero, List.getElem?_cons_succ, List.set_cons_zero, List.set_cons_succ, Option.some.injEq, D.int.injEq, D.bl.injEq, D.str.injEq, D.tup.injEq, D.lst.injEq, D.ref.injEq, exists_eq_left, exists_eq_left', true_and, and_true, if_true, if_false, Bool.false_eq_true, Bool.true_eq_false, reduceCtorEq, List.length_cons, List.length_nil, Option.map_some, List.any_cons, List.any_nil, Bool.or_false, isTy, decide_true, decide_false, Bool.and_true, Bool.and_false, Bool.or_true, Bool.true_or, Bool.false_or, Bool.false_and, Bool.true_and, Bool.not_true, Bool.not_false, startD, List.map_cons, List.map_nil, List.cons_append, List.nil_append, List.replicate_zero, List.replicate_succ, Nat.reduceSub, Nat.reduceAdd, Option.isSome_some, wipeD, false_and, and_false, exists_false, false_or, or_false, gt_iff_lt, ge_iff_le, Option.bind_some, decide_eq_true_eq, Nat.reduceLeDiff, Nat.zero_le, Int.reduceLE, Int.reduceLT, Nat.reducePow, Int.reducePow, Int.reduceNeg, Int.reduceToNat, Int.reduceSub, Int.reduceMul, Int.reduceAdd, or_true, true_or, Nat.reduceLT, and_self, Int.reduceEq, Nat.reduceEqDiff, exists_and_left, HBs, bx_box hn, bx_setb hn, Ob.lst.injEq, et]
  refine take_ok hb (bx_box hn) (by omega) (by omega) (by omega) fun a us a0 a1 hb => ?_
  try simp only [EVs, Ts.len, List.getElem?_cons_zero, List.getElem?_cons_succ, List.set_cons_zero, List.set_cons_succ, Option.some.injEq, D.int.injEq, D.bl.injEq, D.str.injEq, D.tup.injEq, D.lst.injEq, D.ref.injEq, exists_eq_left, exists_eq_left', true_and, and_true, if_true, if_false, Bool.false_eq_true, Bool.true_eq_false, reduceCtorEq, List.length_cons, List.length_nil, Option.map_some, List.any_cons, List.any_nil, Bool.or_false, isTy, decide_true, decide_false, Bool.and_true, Bool.and_false, Bool.or_true, Bool.true_or, Bool.false_or, Bool.false_and, Bool.true_and, Bool.not_true, Bool.not_false, startD, List.map_cons, List.map_nil, List.cons_append, List.nil_append, List.replicate_zero, List.replicate_succ, Nat.reduceSub, Nat.reduceAdd, Option.isSome_some, wipeD, false_and, and_false, exists_false, false_or, or_false, gt_iff_lt, ge_iff_le, Option.bind_some, decide_eq_true_eq, Nat.reduceLeDiff, Nat.zero_le, Int.reduceLE, Int.reduceLT, Nat.reducePow, Int.reducePow, Int.reduceNeg, Int.reduceToNat, Int.reduceSub, Int.reduceMul, Int.reduceAdd, or_true, true_or, Nat.reduceLT, and_self, Int.reduceEq, Nat.reduceEqDiff, exists_and_left, HBs, bx_box hn, bx_setb hn, Ob.lst.injEq, et]
  refine take_ok hb (bx_box hn) (by omega) (by omega) (by omega) fun b us b0 b1 hb => ?_
  try simp only [EVs, Ts.len, List.getElem?_cons_zero, List.getElem?_cons_succ, List.set_cons_zero, List.set_cons_succ, Option.some.injEq, D.int.injEq, D.bl.injEq, D.str.injEq, D.tup.injEq, D.lst.injEq, D.ref.injEq, exists_eq_left, exists_eq_left', true_and, and_true, if_true, if_false, Bool.false_eq_true, Bool.true_eq_false, reduceCtorEq, List.length_cons, List.length_nil, Option.map_some, List.any_cons, List.any_nil, Bool.or_false, isTy, decide_true, decide_false, Bool.and_true, Bool.and_false, Bool.or_true, Bool.true_or, Bool.false_or, Bool.false_and, Bool.true_and, Bool.not_true, Bool.not_false, startD, List.map_cons, List.map_nil, List.cons_append, List.nil_append, List.replicate_zero, List.replicate_succ, Nat.reduceSub, Nat.reduceAdd, Option.isSome_some, wipeD, false_and, and_false, exists_false, false_or, or_false, gt_iff_lt, ge_iff_le, Option.bind_some, decide_eq_true_eq, Nat.reduceLeDiff, Nat.zero_le, Int.reduceLE, Int.reduceLT, Nat.reducePow, Int.reducePow, Int.reduceNeg, Int.reduceToNat, Int.reduceSub, Int.reduceMul, Int.reduceAdd, or_true, true_or, Nat.reduceLT, and_self, Int.reduceEq, Nat.reduceEqDiff, exists_and_left, HBs, bx_box hn, bx_setb hn, Ob.lst.injEq, et]
  refine take_ok hb (bx_box hn) (by omega) (by omega) (by omega) fun c us c0 c1 hb => ?_
  try simp only [EVs, Ts.len, List.getElem?_cons_zero, List.getElem?_cons_succ, List.set_cons_zero, List.set_cons_succ, Option.some.injEq, D.int.injEq, D.bl.injEq, D.str.injEq, D.tup.injEq, D.lst.injEq, D.ref.injEq, exists_eq_left, exists_eq_left', true_and, and_true, if_true, if_false, Bool.false_eq_true, Bool.true_eq_false, reduceCtorEq, List.length_cons, List.length_nil, Option.map_some, List.any_cons, List.any_nil, Bool.or_false, isTy, decide_true, decide_false, Bool.and_true, Bool.and_false, Bool.or_true, Bool.true_or, Bool.false_or, Bool.false_and, Bool.true_and, Bool.not_true, Bool.not_false, startD, List.map_cons, List.map_nil, List.cons_append, List.nil_append, List.replicate_zero, List.replicate_succ, Nat.reduceSub, Nat.reduceAdd, Option.isSome_some, wipeD, false_and, and_false, exists_false, false_or, or_false, gt_iff_lt, ge_iff_le, Option.bind_some, decide_eq_true_eq, Nat.reduceLeDiff, Nat.zero_le, Int.reduceLE, Int.reduceLT, Nat.reducePow, Int.reducePow, Int.reduceNeg, Int.reduceToNat, Int.reduceSub, Int.reduceMul, Int.reduceAdd, or_true, true_or, Nat.reduceLT, and_self, Int.reduceEq, Nat.reduceEqDiff, exists_and_left, HBs, bx_box hn, bx_setb hn, Ob.lst.injEq]
  refine sjoin fun N hN => ?_; try simp only [EVs, Ts.len, List.getElem?_cons_zero, List.getElem?_cons_succ, List.set_cons_zero, List.set_cons_succ, Option.some.injEq, D.int.injEq, D.bl.injEq, D.str.injEq, D.tup.injEq, D.lst.injEq, D.ref.injEq, exists_eq_left, exists_eq_left', true_and, and_true, if_true, if_false, Bool.false_eq_true, Bool.true_eq_false, reduceCtorEq, List.length_cons, List.length_nil, Option.map_some, List.any_cons, List.any_nil, Bool.or_false, isTy, decide_true, decide_false, Bool.and_true, Bool.and_false, Bool.or_true, Bool.true_or, Bool.false_or, Bool.false_and, Bool.true_and, Bool.not_true, Bool.not_false, startD, List.map_cons, List.map_nil, List.cons_append, List.nil_append, List.replicate_zero, List.replicate_succ, Nat.reduceSub, Nat.reduceAdd, Option.isSome_some, wipeD, false_and, and_false, exists_false, false_or, or_false, gt_iff_lt, ge_iff_le, Option.bind_some, decide_eq_true_eq, Nat.reduceLeDiff, Nat.zero_le, Int.reduceLE, Int.reduceLT, Nat.reducePow, Int.reducePow, Int.reduceNeg, Int.reduceToNat, Int.reduceSub, Int.reduceMul, Int.reduceAdd, or_true, true_or, Nat.reduceLT, and_self, Int.reduceEq, Nat.reduceEqDiff, exists_and_left, HBs, bx_box hn, bx_setb hn, Ob.lst.injEq, et]
  have main : ∀ (us : List D) (c : Int), 1 ≤ c → c ≤ 5 → BoxOk (B + 20) us → N [some (.ref n), some (.bl nb), some (.lst ns), some (.int a), some (.int b), some (.int c), none, none, none, none, none, none, none, none, none, none, none] (bx h n us []) := by
    clear c0 c1 hb
    intro us c c0 c1 hb
    subst hN
    have ca : cutL ns none (some a) = ns.take a.toNat := cut_to a0
    have cb : cutL ns (some a) (some (a + b)) = (ns.drop a.toNat).take b.toNat := by
      rw [cut_ft (a := a) (b := a + b) a0 (by omega), show a + b - a = b by omega]
    have cc : cutL ns (some (a + b)) (some (a + b + c)) = (ns.drop (a.toNat + b.toNat)).take c.toNat := by
      rw [cut_ft (a := a + b) (b := a + b + c) (by omega) (by omega), show a + b + c - (a + b) = c by omega, show (a + b).toNat = a.toNat + b.toNat by omega]
    refine soneW ?_; try simp only [EVs, Ts.len, List.getElem?_cons_zero, List.getElem?_cons_succ, List.set_cons_zero, List.set_cons_succ, Option.some.injEq, D.int.injEq, D.bl.injEq, D.str.injEq, D.tup.injEq, D.lst.injEq, D.ref.injEq, exists_eq_left, exists_eq_left', true_and, and_true, if_true, if_false, Bool.false_eq_true, Bool.true_eq_false, reduceCtorEq, List.length_cons, List.length_nil, Option.map_some, List.any_cons, List.any_nil, Bool.or_false, isTy, decide_true, decide_false, Bool.and_true, Bool.and_false, Bool.or_true, Bool.true_or, Bool.false_or, Bool.false_and, Bool.true_and, Bool.not_true, Bool.not_false, startD, List.map_cons, List.map_nil, List.cons_append, List.nil_append, List.replicate_zero, List.replicate_succ, Nat.reduceSub, Nat.reduceAdd, Option.isSome_some, wipeD, false_and, and_false, exists_false, false_or, or_false, gt_iff_lt, ge_iff_le, Option.bind_some, decide_eq_true_eq, Nat.reduceLeDiff, Nat.zero_le, Int.reduceLE, Int.reduceLT, Nat.reducePow, Int.reducePow, Int.reduceNeg, Int.reduceToNat, Int.reduceSub, Int.reduceMul, Int.reduceAdd, or_true, true_or, Nat.reduceLT, and_self, Int.reduceEq, Nat.reduceEqDiff, exists_and_left, HBs, bx_box hn, bx_setb hn, Ob.lst.injEq, wpO, isNonE, sliF, ca, cb]
    refine soneW ?_; try simp only [EVs, Ts.len, List.getElem?_cons_zero, List.getElem?_cons_succ, List.set_cons_zero, List.set_cons_succ, Option.some.injEq, D.int.injEq, D.bl.injEq, D.str.injEq, D.tup.injEq, D.lst.injEq, D.ref.injEq, exists_eq_left, exists_eq_left', true_and, and_true, if_true, if_false, Bool.false_eq_true, Bool.true_eq_false, reduceCtorEq, List.length_cons, List.length_nil, Option.map_some, List.any_cons, List.any_nil, Bool.or_false, isTy, decide_true, decide_false, Bool.and_true, Bool.and_false, Bool.or_true, Bool.true_or, Bool.false_or, Bool.false_and, Bool.true_and, Bool.not_true, Bool.not_false, startD, List.map_cons, List.map_nil, List.cons_append, List.nil_append, List.replicate_zero, List.replicate_succ, Nat.reduceSub, Nat.reduceAdd, Option.isSome_some, wipeD, false_and, and_false, exists_false, false_or, or_false, gt_iff_lt, ge_iff_le, Option.bind_some, decide_eq_true_eq, Nat.reduceLeDiff, Nat.zero_le, Int.reduceLE, Int.reduceLT, Nat.reducePow, Int.reducePow, Int.reduceNeg, Int.reduceToNat, Int.reduceSub, Int.reduceMul, Int.reduceAdd, or_true, true_or, Nat.reduceLT, and_self, Int.reduceEq, Nat.reduceEqDiff, exists_and_left, HBs, bx_box hn, bx_setb hn, Ob.lst.injEq, wpO, isNonE, sliF, cc]
    have p3 := parts3 ns a.toNat b.toNat c.toNat
    have kl : (ns.take a.toNat).length = a.toNat := by rw [List.length_take]; omega
    have nl' : ((ns.drop a.toNat).take b.toNat).length = b.toNat := by rw [List.length_take, List.length_drop]; omega
    have vl : ((ns.drop (a.toNat + b.toNat)).take c.toNat).length = c.toNat := by rw [List.length_take, List.length_drop]; omega
    generalize ns.take a.toNat = key at p3 kl ⊢
    generalize (ns.drop a.toNat).take b.toNat = nam at p3 nl' ⊢
    generalize (ns.drop (a.toNat + b.toNat)).take c.toNat = vals at p3 vl ⊢
    have h3nd : (key ++ nam ++ vals).Nodup := by rw [p3]; exact nnd.sublist (List.take_sublist _ _)
    have h3nm : ∀ x ∈ key ++ nam ++ vals, x ∈ NM := fun x m => nm x (by rw [p3] at m; exact List.mem_of_mem_take m)
    refine soneW ?_; try simp only [EVs, Ts.len, List.getElem?_cons_zero, List.getElem?_cons_succ, List.set_cons_zero, List.set_cons_succ, Option.some.injEq, D.int.injEq, D.bl.injEq, D.str.injEq, D.tup.injEq, D.lst.injEq, D.ref.injEq, exists_eq_left, exists_eq_left', true_and, and_true, if_true, if_false, Bool.false_eq_true, Bool.true_eq_false, reduceCtorEq, List.length_cons, List.length_nil, Option.map_some, List.any_cons, List.any_nil, Bool.or_false, isTy, decide_true, decide_false, Bool.and_true, Bool.and_false, Bool.or_true, Bool.true_or, Bool.false_or, Bool.false_and, Bool.true_and, Bool.not_true, Bool.not_false, startD, List.map_cons, List.map_nil, List.cons_append, List.nil_append, List.replicate_zero, List.replicate_succ, Nat.reduceSub, Nat.reduceAdd, Option.isSome_some, wipeD, false_and, and_false, exists_false, false_or, or_false, gt_iff_lt, ge_iff_le, Option.bind_some, decide_eq_true_eq, Nat.reduceLeDiff, Nat.zero_le, Int.reduceLE, Int.reduceLT, Nat.reducePow, Int.reducePow, Int.reduceNeg, Int.reduceToNat, Int.reduceSub, Int.reduceMul, Int.reduceAdd, or_true, true_or, Nat.reduceLT, and_self, Int.reduceEq, Nat.reduceEqDiff, exists_and_left, HBs, bx_box hn, bx_setb hn, Ob.lst.injEq, em]
    refine many_ok hb (bx_box hn) (by omega) (by omega) fun m us m0 m1 hb => ?_
    try simp only [EVs, Ts.len, List.getElem?_cons_zero, List.getElem?_cons_succ, List.set_cons_zero, List.set_cons_succ, Option.some.injEq, D.int.injEq, D.bl.injEq, D.str.injEq, D.tup.injEq, D.lst.injEq, D.ref.injEq, exists_eq_left, exists_eq_left', true_and, and_true, if_true, if_false, Bool.false_eq_true, Bool.true_eq_false, reduceCtorEq, List.length_cons, List.length_nil, Option.map_some, List.any_cons, List.any_nil, Bool.or_false, isTy, decide_true, decide_false, Bool.and_true, Bool.and_false, Bool.or_true, Bool.true_or, Bool.false_or, Bool.false_and, Bool.true_and, Bool.not_true, Bool.not_false, startD, List.map_cons, List.map_nil, List.cons_append, List.nil_append, List.replicate_zero, List.replicate_succ, Nat.reduceSub, Nat.reduceAdd, Option.isSome_some, wipeD, false_and, and_false, exists_false, false_or, or_false, gt_iff_lt, ge_iff_le, Option.bind_some, decide_eq_true_eq, Nat.reduceLeDiff, Nat.zero_le, Int.reduceLE, Int.reduceLT, Nat.reducePow, Int.reducePow, Int.reduceNeg, Int.reduceToNat, Int.reduceSub, Int.reduceMul, Int.reduceAdd, or_true, true_or, Nat.reduceLT, and_self, Int.reduceEq, Nat.reduceEqDiff, exists_and_left, HBs, bx_box hn, bx_setb hn, Ob.lst.injEq, eu]
    refine tuples_ok hb (bx_box hn) (by omega) (by omega) (by omega) (by omega) (by omega) fun hs us hsl hst hsnd hb => ?_
    try simp only [EVs, Ts.len, List.getElem?_cons_zero, List.getElem?_cons_succ, List.set_cons_zero, List.set_cons_succ, Option.some.injEq, D.int.injEq, D.bl.injEq, D.str.injEq, D.tup.injEq, D.lst.injEq, D.ref.injEq, exists_eq_left, exists_eq_left', true_and, and_true, if_true, if_false, Bool.false_eq_true, Bool.true_eq_false, reduceCtorEq, List.length_cons, List.length_nil, Option.map_some, List.any_cons, List.any_nil, Bool.or_false, isTy, decide_true, decide_false, Bool.and_true, Bool.and_false, Bool.or_true, Bool.true_or, Bool.false_or, Bool.false_and, Bool.true_and, Bool.not_true, Bool.not_false, startD, List.map_cons, List.map_nil, List.cons_append, List.nil_append, List.replicate_zero, List.replicate_succ, Nat.reduceSub, Nat.reduceAdd, Option.isSome_some, wipeD, false_and, and_false, exists_false, false_or, or_false, gt_iff_lt, ge_iff_le, Option.bind_some, decide_eq_true_eq, Nat.reduceLeDiff, Nat.zero_le, Int.reduceLE, Int.reduceLT, Nat.reducePow, Int.reducePow, Int.reduceNeg, Int.reduceToNat, Int.reduceSub, Int.reduceMul, Int.reduceAdd, or_true, true_or, Nat.reduceLT, and_self, Int.reduceEq, Nat.reduceEqDiff, exists_and_left, HBs, bx_box hn, bx_setb hn, Ob.lst.injEq]
    refine soneW ?_; try simp only [EVs, Ts.len, List.getElem?_cons_zero, List.getElem?_cons_succ, List.set_cons_zero, List.set_cons_succ, Option.some.injEq, D.int.injEq, D.bl.injEq, D.str.injEq, D.tup.injEq, D.lst.injEq, D.ref.injEq, exists_eq_left, exists_eq_left', true_and, and_true, if_true, if_false, Bool.false_eq_true, Bool.true_eq_false, reduceCtorEq, List.length_cons, List.length_nil, Option.map_some, List.any_cons, List.any_nil, Bool.or_false, isTy, decide_true, decide_false, Bool.and_true, Bool.and_false, Bool.or_true, Bool.true_or, Bool.false_or, Bool.false_and, Bool.true_and, Bool.not_true, Bool.not_false, startD, List.map_cons, List.map_nil, List.cons_append, List.nil_append, List.replicate_zero, List.replicate_succ, Nat.reduceSub, Nat.reduceAdd, Option.isSome_some, wipeD, false_and, and_false, exists_false, false_or, or_false, gt_iff_lt, ge_iff_le, Option.bind_some, decide_eq_true_eq, Nat.reduceLeDiff, Nat.zero_le, Int.reduceLE, Int.reduceLT, Nat.reducePow, Int.reducePow, Int.reduceNeg, Int.reduceToNat, Int.reduceSub, Int.reduceMul, Int.reduceAdd, or_true, true_or, Nat.reduceLT, and_self, Int.reduceEq, Nat.reduceEqDiff, exists_and_left, HBs, bx_box hn, bx_setb hn, Ob.lst.injEq, et]
    refine take_ok hb (bx_box hn) (by omega) (by omega) (by omega) fun r us r0 r1 hb => ?_
    try simp only [EVs, Ts.len, List.getElem?_cons_zero, List.getElem?_cons_succ, List.set_cons_zero, List.set_cons_succ, Option.some.injEq, D.int.injEq, D.bl.injEq, D.str.injEq, D.tup.injEq, D.lst.injEq, D.ref.injEq, exists_eq_left, exists_eq_left', true_and, and_true, if_true, if_false, Bool.false_eq_true, Bool.true_eq_false, reduceCtorEq, List.length_cons, List.length_nil, Option.map_some, List.any_cons, List.any_nil, Bool.or_false, isTy, decide_true, decide_false, Bool.and_true, Bool.and_false, Bool.or_true, Bool.true_or, Bool.false_or, Bool.false_and, Bool.true_and, Bool.not_true, Bool.not_false, startD, List.map_cons, List.map_nil, List.cons_append, List.nil_append, List.replicate_zero, List.replicate_succ, Nat.reduceSub, Nat.reduceAdd, Option.isSome_some, wipeD, false_and, and_false, exists_false, false_or, or_false, gt_iff_lt, ge_iff_le, Option.bind_some, decide_eq_true_eq, Nat.reduceLeDiff, Nat.zero_le, Int.reduceLE, Int.reduceLT, Nat.reducePow, Int.reducePow, Int.reduceNeg, Int.reduceToNat, Int.reduceSub, Int.reduceMul, Int.reduceAdd, or_true, true_or, Nat.reduceLT, and_self, Int.reduceEq, Nat.reduceEqDiff, exists_and_left, HBs, bx_box hn, bx_setb hn, Ob.lst.injEq]
    obtain ⟨x, ex, o, rfl, o0, o1⟩ := at_mem (P := fun d => ∃ i : Int, d = .int i ∧ 1 ≤ i ∧ i ≤ 9) (xs := ([.int 9, .int 2, .int 3] : List D)) (i := r) (by simp) r0 (by simpa using r1)
    try simp only [EVs, Ts.len, List.getElem?_cons_zero, List.getElem?_cons_succ, List.set_cons_zero, List.set_cons_succ, Option.some.injEq, D.int.injEq, D.bl.injEq, D.str.injEq, D.tup.injEq, D.lst.injEq, D.ref.injEq, exists_eq_left, exists_eq_left', true_and, and_true, if_true, if_false, Bool.false_eq_true, Bool.true_eq_false, reduceCtorEq, List.length_cons, List.length_nil, Option.map_some, List.any_cons, List.any_nil, Bool.or_false, isTy, decide_true, decide_false, Bool.and_true, Bool.and_false, Bool.or_true, Bool.true_or, Bool.false_or, Bool.false_and, Bool.true_and, Bool.not_true, Bool.not_false, startD, List.map_cons, List.map_nil, List.cons_append, List.nil_append, List.replicate_zero, List.replicate_succ, Nat.reduceSub, Nat.reduceAdd, Option.isSome_some, wipeD, false_and, and_false, exists_false, false_or, or_false, gt_iff_lt, ge_iff_le, Option.bind_some, decide_eq_true_eq, Nat.reduceLeDiff, Nat.zero_le, Int.reduceLE, Int.reduceLT, Nat.reducePow, Int.reducePow, Int.reduceNeg, Int.reduceToNat, Int.reduceSub, Int.reduceMul, Int.reduceAdd, or_true, true_or, Nat.reduceLT, and_self, Int.reduceEq, Nat.reduceEqDiff, exists_and_left, HBs, bx_box hn, bx_setb hn, Ob.lst.injEq, ex]
    refine soneW ?_; try simp only [EVs, Ts.len, List.getElem?_cons_zero, List.getElem?_cons_succ, List.set_cons_zero, List.set_cons_succ, Option.some.injEq, D.int.injEq, D.bl.injEq, D.str.injEq, D.tup.injEq, D.lst.injEq, D.ref.injEq, exists_eq_left, exists_eq_left', true_and, and_true, if_true, if_false, Bool.false_eq_true, Bool.true_eq_false, reduceCtorEq, List.length_cons, List.length_nil, Option.map_some, List.any_cons, List.any_nil, Bool.or_false, isTy, decide_true, decide_false, Bool.and_true, Bool.and_false, Bool.or_true, Bool.true_or, Bool.false_or, Bool.false_and, Bool.true_and, Bool.not_true, Bool.not_false, startD, List.map_cons, List.map_nil, List.cons_append, List.nil_append, List.replicate_zero, List.replicate_succ, Nat.reduceSub, Nat.reduceAdd, Option.isSome_some, wipeD, false_and, and_false, exists_false, false_or, or_false, gt_iff_lt, ge_iff_le, Option.bind_some, decide_eq_true_eq, Nat.reduceLeDiff, Nat.zero_le, Int.reduceLE, Int.reduceLT, Nat.reducePow, Int.reducePow, Int.reduceNeg, Int.reduceToNat, Int.reduceSub, Int.reduceMul, Int.reduceAdd, or_true, true_or, Nat.reduceLT, and_self, Int.reduceEq, Nat.reduceEqDiff, exists_and_left, HBs, bx_box hn, bx_setb hn, Ob.lst.injEq]
    refine soneW ?_; try simp only [EVs, Ts.len, List.getElem?_cons_zero, List.getElem?_cons_succ, List.set_cons_zero, List.set_cons_succ, Option.some.injEq, D.int.injEq, D.bl.injEq, D.str.injEq, D.tup.injEq, D.lst.injEq, D.ref.injEq, exists_eq_left, exists_eq_left', true_and, and_true, if_true, if_false, Bool.false_eq_true, Bool.true_eq_false, reduceCtorEq, List.length_cons, List.length_nil, Option.map_some, List.any_cons, List.any_nil, Bool.or_false, isTy, decide_true, decide_false, Bool.and_true, Bool.and_false, Bool.or_true, Bool.true_or, Bool.false_or, Bool.false_and, Bool.true_and, Bool.not_true, Bool.not_false, startD, List.map_cons, List.map_nil, List.cons_append, List.nil_append, List.replicate_zero, List.replicate_succ, Nat.reduceSub, Nat.reduceAdd, Option.isSome_some, wipeD, false_and, and_false, exists_false, false_or, or_false, gt_iff_lt, ge_iff_le, Option.bind_some, decide_eq_true_eq, Nat.reduceLeDiff, Nat.zero_le, Int.reduceLE, Int.reduceLT, Nat.reducePow, Int.reducePow, Int.reduceNeg, Int.reduceToNat, Int.reduceSub, Int.reduceMul, Int.reduceAdd, or_true, true_or, Nat.reduceLT, and_self, Int.reduceEq, Nat.reduceEqDiff, exists_and_left, HBs, bx_box hn, bx_setb hn, Ob.lst.injEq, em]
    refine many_ok hb (bx_box hn) (by omega) (by omega) fun m us m0 m1 hb => ?_
    try simp only [EVs, Ts.len, List.getElem?_cons_zero, List.getElem?_cons_succ, List.set_cons_zero, List.set_cons_succ, Option.some.injEq, D.int.injEq, D.bl.injEq, D.str.injEq, D.tup.injEq, D.lst.injEq, D.ref.injEq, exists_eq_left, exists_eq_left', true_and, and_true, if_true, if_false, Bool.false_eq_true, Bool.true_eq_false, reduceCtorEq, List.length_cons, List.length_nil, Option.map_some, List.any_cons, List.any_nil, Bool.or_false, isTy, decide_true, decide_false, Bool.and_true, Bool.and_false, Bool.or_true, Bool.true_or, Bool.false_or, Bool.false_and, Bool.true_and, Bool.not_true, Bool.not_false, startD, List.map_cons, List.map_nil, List.cons_append, List.nil_append, List.replicate_zero, List.replicate_succ, Nat.reduceSub, Nat.reduceAdd, Option.isSome_some, wipeD, false_and, and_false, exists_false, false_or, or_false, gt_iff_lt, ge_iff_le, Option.bind_some, decide_eq_true_eq, Nat.reduceLeDiff, Nat.zero_le, Int.reduceLE, Int.reduceLT, Nat.reducePow, Int.reducePow, Int.reduceNeg, Int.reduceToNat, Int.reduceSub, Int.reduceMul, Int.reduceAdd, or_true, true_or, Nat.reduceLT, and_self, Int.reduceEq, Nat.reduceEqDiff, exists_and_left, HBs, bx_box hn, bx_setb hn, Ob.lst.injEq, eu]
    refine tuples_ok hb (bx_box hn) (by omega) (by omega) (by omega) (by omega) (by omega) fun ps us psl pst psnd hb => ?_
    try simp only [EVs, Ts.len, List.getElem?_cons_zero, List.getElem?_cons_succ, List.set_cons_zero, List.set_cons_succ, Option.some.injEq, D.int.injEq, D.bl.injEq, D.str.injEq, D.tup.injEq, D.lst.injEq, D.ref.injEq, exists_eq_left, exists_eq_left', true_and, and_true, if_true, if_false, Bool.false_eq_true, Bool.true_eq_false, reduceCtorEq, List.length_cons, List.length_nil, Option.map_some, List.any_cons, List.any_nil, Bool.or_false, isTy, decide_true, decide_false, Bool.and_true, Bool.and_false, Bool.or_true, Bool.true_or, Bool.false_or, Bool.false_and, Bool.true_and, Bool.not_true, Bool.not_false, startD, List.map_cons, List.map_nil, List.cons_append, List.nil_append, List.replicate_zero, List.replicate_succ, Nat.reduceSub, Nat.reduceAdd, Option.isSome_some, wipeD, false_and, and_false, exists_false, false_or, or_false, gt_iff_lt, ge_iff_le, Option.bind_some, decide_eq_true_eq, Nat.reduceLeDiff, Nat.zero_le, Int.reduceLE, Int.reduceLT, Nat.reducePow, Int.reducePow, Int.reduceNeg, Int.reduceToNat, Int.reduceSub, Int.reduceMul, Int.reduceAdd, or_true, true_or, Nat.reduceLT, and_self, Int.reduceEq, Nat.reduceEqDiff, exists_and_left, HBs, bx_box hn, bx_setb hn, Ob.lst.injEq]
    refine forL_map D.tup (fun rest σ h' => (∃ z12_0 z12_1 z12_2 z12_3 z12_4 : Option D, σ = [some (.ref n), some (.bl nb), some (.lst ns), some (.int a), some (.int b), some (.int c), some (.lst key), some (.lst nam), some (.lst vals), some (.lst (hs.map .tup)), some (.int o), some (.ref (lc h 0)), z12_0, z12_1, z12_2, z12_3, z12_4]) ∧ ∃ us rs junk done, h' = bx h n us (.lst (rs.map rowD) :: junk) ∧ ps = done ++ rest ∧ rs.map (·.1) = done ∧ BoxOk (B + 3000 + 200 * (20 - rest.length)) us ∧
      ∀ r ∈ rs, r.1.length = key.length ∧ SVs r.1 ∧ r.2.length = hs.length ∧ ∀ vs, some vs ∈ r.2 → vs.length = vals.length ∧ ∀ v ∈ vs, Cv nb v) (fun p rest σ h' => ?_) (fun σ h' => ?_) _ _ _
      ⟨⟨_, _, _, _, _, rfl⟩, us, [], [], [], rfl, rfl, rfl, hb.mono (by omega), fun x m => nomatch m⟩
    · rintro ⟨⟨_, _, _, _, _, rfl⟩, us, rs, junk, done, rfl, hd, hrs, hb, hr⟩
      have hpp : p ∈ ps := by rw [hd]; simp
      have hpl : done.length + (p :: rest).length = ps.length := by rw [hd, List.length_append]
      rw [List.length_cons] at hb hpl
      have hrl : rs.length = done.length := by rw [← hrs, List.length_map]
      refine ⟨trivial, fun K krt knx kct kbk => ?_⟩
      try simp only [EVs, Ts.len, List.getElem?_cons_zero, List.getElem?_cons_succ, List.set_cons_zero, List.set_cons_succ, Option.some.injEq, D.int.injEq, D.bl.injEq, D.str.injEq, D.tup.injEq, D.lst.injEq, D.ref.injEq, exists_eq_left, exists_eq_left', true_and, and_true, if_true, if_false, Bool.false_eq_true, Bool.true_eq_false, reduceCtorEq, List.length_cons, List.length_nil, Option.map_some, List.any_cons, List.any_nil, Bool.or_false, isTy, decide_true, decide_false, Bool.and_true, Bool.and_false, Bool.or_true, Bool.true_or, Bool.false_or, Bool.false_and, Bool.true_and, Bool.not_true, Bool.not_false, startD, List.map_cons, List.map_nil, List.cons_append, List.nil_append, List.replicate_zero, List.replicate_succ, Nat.reduceSub, Nat.reduceAdd, Option.isSome_some, wipeD, false_and, and_false, exists_false, false_or, or_false, gt_iff_lt, ge_iff_le, Option.bind_some, decide_eq_true_eq, Nat.reduceLeDiff, Nat.zero_le, Int.reduceLE, Int.reduceLT, Nat.reducePow, Int.reducePow, Int.reduceNeg, Int.reduceToNat, Int.reduceSub, Int.reduceMul, Int.reduceAdd, or_true, true_or, Nat.reduceLT, and_self, Int.reduceEq, Nat.reduceEqDiff, exists_and_left, HBs, bx_box hn, bx_setb hn, Ob.lst.injEq]
      refine soneW ?_; try simp only [EVs, Ts.len, List.getElem?_cons_zero, List.getElem?_cons_succ, List.set_cons_zero, List.set_cons_succ, Option.some.injEq, D.int.injEq, D.bl.injEq, D.str.injEq, D.tup.injEq, D.lst.injEq, D.ref.injEq, exists_eq_left, exists_eq_left', true_and, and_true, if_true, if_false, Bool.false_eq_true, Bool.true_eq_false, reduceCtorEq, List.length_cons, List.length_nil, Option.map_some, List.any_cons, List.any_nil, Bool.or_false, isTy, decide_true, decide_false, Bool.and_true, Bool.and_false, Bool.or_true, Bool.true_or, Bool.false_or, Bool.false_and, Bool.true_and, Bool.not_true, Bool.not_false, startD, List.map_cons, List.map_nil, List.cons_append, List.nil_append, List.replicate_zero, List.replicate_succ, Nat.reduceSub, Nat.reduceAdd, Option.isSome_some, wipeD, false_and, and_false, exists_false, false_or, or_false, gt_iff_lt, ge_iff_le, Option.bind_some, decide_eq_true_eq, Nat.reduceLeDiff, Nat.zero_le, Int.reduceLE, Int.reduceLT, Nat.reducePow, Int.reducePow, Int.reduceNeg, Int.reduceToNat, Int.reduceSub, Int.reduceMul, Int.reduceAdd, or_true, true_or, Nat.reduceLT, and_self, Int.reduceEq, Nat.reduceEqDiff, exists_and_left, HBs, bx_box hn, bx_setb hn, Ob.lst.injEq]
      refine soneW ?_; try simp only [EVs, Ts.len, List.getElem?_cons_zero, List.getElem?_cons_succ, List.set_cons_zero, List.set_cons_succ, Option.some.injEq, D.int.injEq, D.bl.injEq, D.str.injEq, D.tup.injEq, D.lst.injEq, D.ref.injEq, exists_eq_left, exists_eq_left', true_and, and_true, if_true, if_false, Bool.false_eq_true, Bool.true_eq_false, reduceCtorEq, List.length_cons, List.length_nil, Option.map_some, List.any_cons, List.any_nil, Bool.or_false, isTy, decide_true, decide_false, Bool.and_true, Bool.and_false, Bool.or_true, Bool.true_or, Bool.false_or, Bool.false_and, Bool.true_and, Bool.not_true, Bool.not_false, startD, List.map_cons, List.map_nil, List.cons_append, List.nil_append, List.replicate_zero, List.replicate_succ, Nat.reduceSub, Nat.reduceAdd, Option.isSome_some, wipeD, false_and, and_false, exists_false, false_or, or_false, gt_iff_lt, ge_iff_le, Option.bind_some, decide_eq_true_eq, Nat.reduceLeDiff, Nat.zero_le, Int.reduceLE, Int.reduceLT, Nat.reducePow, Int.reducePow, Int.reduceNeg, Int.reduceToNat, Int.reduceSub, Int.reduceMul, Int.reduceAdd, or_true, true_or, Nat.reduceLT, and_self, Int.reduceEq, Nat.reduceEqDiff, exists_and_left, HBs, bx_box hn, bx_setb hn, Ob.lst.injEq]
      refine forL_map D.tup (fun rest2 σ h' => (∃ z14_0 z14_1 z14_2 : Option D, σ = [some (.ref n), some (.bl nb), some (.lst ns), some (.int a), some (.int b), some (.int c), some (.lst key), some (.lst nam), some (.lst vals), some (.lst (hs.map .tup)), some (.int o), some (.ref (lc h 0)), some (.tup p), some (.ref (lc h (junk.length + 1))), z14_0, z14_1, z14_2]) ∧ ∃ us cs, h' = bx h n us (.lst (rs.map rowD) :: (junk ++ [.lst (cs.map cellD)])) ∧ BoxOk (B + 3000 + 200 * (20 - (rest.length + 1)) + 14 * (13 - rest2.length)) us ∧ cs.length + rest2.length = hs.length ∧
        ∀ vs, some vs ∈ cs → vs.length = vals.length ∧ ∀ v ∈ vs, Cv nb v) (fun hd2 rest2 σ h' => ?_) (fun σ h' => ?_) _ _ _
        ⟨⟨_, _, _, rfl⟩, us, [], rfl, hb.mono (by push_cast; omega), by simp, fun vs m => nomatch m⟩
      · rintro ⟨⟨_, _, _, rfl⟩, us, cs, rfl, hb, hcl, hc⟩
        rw [List.length_cons] at hb hcl
        refine ⟨trivial, fun K2 krt2 knx2 kct2 kbk2 => ?_⟩
        try simp only [EVs, Ts.len, List.getElem?_cons_zero, List.getElem?_cons_succ, List.set_cons_zero, List.set_cons_succ, Option.some.injEq, D.int.injEq, D.bl.injEq, D.str.injEq, D.tup.injEq, D.lst.injEq, D.ref.injEq, exists_eq_left, exists_eq_left', true_and, and_true, if_true, if_false, Bool.false_eq_true, Bool.true_eq_false, reduceCtorEq, List.length_cons, List.length_nil, Option.map_some, List.any_cons, List.any_nil, Bool.or_false, isTy, decide_true, decide_false, Bool.and_true, Bool.and_false, Bool.or_true, Bool.true_or, Bool.false_or, Bool.false_and, Bool.true_and, Bool.not_true, Bool.not_false, startD, List.map_cons, List.map_nil, List.cons_append, List.nil_append, List.replicate_zero, List.replicate_succ, Nat.reduceSub, Nat.reduceAdd, Option.isSome_some, wipeD, false_and, and_false, exists_false, false_or, or_false, gt_iff_lt, ge_iff_le, Option.bind_some, decide_eq_true_eq, Nat.reduceLeDiff, Nat.zero_le, Int.reduceLE, Int.reduceLT, Nat.reducePow, Int.reducePow, Int.reduceNeg, Int.reduceToNat, Int.reduceSub, Int.reduceMul, Int.reduceAdd, or_true, true_or, Nat.reduceLT, and_self, Int.reduceEq, Nat.reduceEqDiff, exists_and_left, HBs, bx_box hn, bx_setb hn, Ob.lst.injEq]
        refine soneW ?_; try simp only [EVs, Ts.len, List.getElem?_cons_zero, List.getElem?_cons_succ, List.set_cons_zero, List.set_cons_succ, Option.some.injEq, D.int.injEq, D.bl.injEq, D.str.injEq, D.tup.injEq, D.lst.injEq, D.ref.injEq, exists_eq_left, exists_eq_left', true_and, and_true, if_true, if_false, Bool.false_eq_true, Bool.true_eq_false, reduceCtorEq, List.length_cons, List.length_nil, Option.map_some, List.any_cons, List.any_nil, Bool.or_false, isTy, decide_true, decide_false, Bool.and_true, Bool.and_false, Bool.or_true, Bool.true_or, Bool.false_or, Bool.false_and, Bool.true_and, Bool.not_true, Bool.not_false, startD, List.map_cons, List.map_nil, List.cons_append, List.nil_append, List.replicate_zero, List.replicate_succ, Nat.reduceSub, Nat.reduceAdd, Option.isSome_some, wipeD, false_and, and_false, exists_false, false_or, or_false, gt_iff_lt, ge_iff_le, Option.bind_some, decide_eq_true_eq, Nat.reduceLeDiff, Nat.zero_le, Int.reduceLE, Int.reduceLT, Nat.reducePow, Int.reducePow, Int.reduceNeg, Int.reduceToNat, Int.reduceSub, Int.reduceMul, Int.reduceAdd, or_true, true_or, Nat.reduceLT, and_self, Int.reduceEq, Nat.reduceEqDiff, exists_and_left, HBs, bx_box hn, bx_setb hn, Ob.lst.injEq]
        refine compL_bx (c := 2) (st := fun _ => True) (fun us => bx h n us (.lst (rs.map rowD) :: (junk ++ [.lst (cs.map cellD)]))) (Cv nb) (by omega) hb (fun _ => trivial) (fun x m C us hb hC hC2 k hk => ?_) fun ys us yl yp hb => ?_
        · try simp only [EVs, Ts.len, List.getElem?_cons_zero, List.getElem?_cons_succ, List.set_cons_zero, List.set_cons_succ, Option.some.injEq, D.int.injEq, D.bl.injEq, D.str.injEq, D.tup.injEq, D.lst.injEq, D.ref.injEq, exists_eq_left, exists_eq_left', true_and, and_true, if_true, if_false, Bool.false_eq_true, Bool.true_eq_false, reduceCtorEq, List.length_cons, List.length_nil, Option.map_some, List.any_cons, List.any_nil, Bool.or_false, isTy, decide_true, decide_false, Bool.and_true, Bool.and_false, Bool.or_true, Bool.true_or, Bool.false_or, Bool.false_and, Bool.true_and, Bool.not_true, Bool.not_false, startD, List.map_cons, List.map_nil, List.cons_append, List.nil_append, List.replicate_zero, List.replicate_succ, Nat.reduceSub, Nat.reduceAdd, Option.isSome_some, wipeD, false_and, and_false, exists_false, false_or, or_false, gt_iff_lt, ge_iff_le, Option.bind_some, decide_eq_true_eq, Nat.reduceLeDiff, Nat.zero_le, Int.reduceLE, Int.reduceLT, Nat.reducePow, Int.reducePow, Int.reduceNeg, Int.reduceToNat, Int.reduceSub, Int.reduceMul, Int.reduceAdd, or_true, true_or, Nat.reduceLT, and_self, Int.reduceEq, Nat.reduceEqDiff, exists_and_left, HBs, bx_box hn, bx_setb hn, Ob.lst.injEq]
          cases nb with
          | true =>
            try simp only [EVs, Ts.len, List.getElem?_cons_zero, List.getElem?_cons_succ, List.set_cons_zero, List.set_cons_succ, Option.some.injEq, D.int.injEq, D.bl.injEq, D.str.injEq, D.tup.injEq, D.lst.injEq, D.ref.injEq, exists_eq_left, exists_eq_left', true_and, and_true, if_true, if_false, Bool.false_eq_true, Bool.true_eq_false, reduceCtorEq, List.length_cons, List.length_nil, Option.map_some, List.any_cons, List.any_nil, Bool.or_false, isTy, decide_true, decide_false, Bool.and_true, Bool.and_false, Bool.or_true, Bool.true_or, Bool.false_or, Bool.false_and, Bool.true_and, Bool.not_true, Bool.not_false, startD, List.map_cons, List.map_nil, List.cons_append, List.nil_append, List.replicate_zero, List.replicate_succ, Nat.reduceSub, Nat.reduceAdd, Option.isSome_some, wipeD, false_and, and_false, exists_false, false_or, or_false, gt_iff_lt, ge_iff_le, Option.bind_some, decide_eq_true_eq, Nat.reduceLeDiff, Nat.zero_le, Int.reduceLE, Int.reduceLT, Nat.reducePow, Int.reducePow, Int.reduceNeg, Int.reduceToNat, Int.reduceSub, Int.reduceMul, Int.reduceAdd, or_true, true_or, Nat.reduceLT, and_self, Int.reduceEq, Nat.reduceEqDiff, exists_and_left, HBs, bx_box hn, bx_setb hn, Ob.lst.injEq, eb]
            refine number_ok hb (bx_box hn) (by omega) fun i us vi hb => ?_
            try simp only [EVs, Ts.len, List.getElem?_cons_zero, List.getElem?_cons_succ, List.set_cons_zero, List.set_cons_succ, Option.some.injEq, D.int.injEq, D.bl.injEq, D.str.injEq, D.tup.injEq, D.lst.injEq, D.ref.injEq, exists_eq_left, exists_eq_left', true_and, and_true, if_true, if_false, Bool.false_eq_true, Bool.true_eq_false, reduceCtorEq, List.length_cons, List.length_nil, Option.map_some, List.any_cons, List.any_nil, Bool.or_false, isTy, decide_true, decide_false, Bool.and_true, Bool.and_false, Bool.or_true, Bool.true_or, Bool.false_or, Bool.false_and, Bool.true_and, Bool.not_true, Bool.not_false, startD, List.map_cons, List.map_nil, List.cons_append, List.nil_append, List.replicate_zero, List.replicate_succ, Nat.reduceSub, Nat.reduceAdd, Option.isSome_some, wipeD, false_and, and_false, exists_false, false_or, or_false, gt_iff_lt, ge_iff_le, Option.bind_some, decide_eq_true_eq, Nat.reduceLeDiff, Nat.zero_le, Int.reduceLE, Int.reduceLT, Nat.reducePow, Int.reducePow, Int.reduceNeg, Int.reduceToNat, Int.reduceSub, Int.reduceMul, Int.reduceAdd, or_true, true_or, Nat.reduceLT, and_self, Int.reduceEq, Nat.reduceEqDiff, exists_and_left, HBs, bx_box hn, bx_setb hn, Ob.lst.injEq]
            exact hk _ _ ⟨vi, fun _ => ⟨i, rfl⟩⟩ hb
          | false =>
            try simp only [EVs, Ts.len, List.getElem?_cons_zero, List.getElem?_cons_succ, List.set_cons_zero, List.set_cons_succ, Option.some.injEq, D.int.injEq, D.bl.injEq, D.str.injEq, D.tup.injEq, D.lst.injEq, D.ref.injEq, exists_eq_left, exists_eq_left', true_and, and_true, if_true, if_false, Bool.false_eq_true, Bool.true_eq_false, reduceCtorEq, List.length_cons, List.length_nil, Option.map_some, List.any_cons, List.any_nil, Bool.or_false, isTy, decide_true, decide_false, Bool.and_true, Bool.and_false, Bool.or_true, Bool.true_or, Bool.false_or, Bool.false_and, Bool.true_and, Bool.not_true, Bool.not_false, startD, List.map_cons, List.map_nil, List.cons_append, List.nil_append, List.replicate_zero, List.replicate_succ, Nat.reduceSub, Nat.reduceAdd, Option.isSome_some, wipeD, false_and, and_false, exists_false, false_or, or_false, gt_iff_lt, ge_iff_le, Option.bind_some, decide_eq_true_eq, Nat.reduceLeDiff, Nat.zero_le, Int.reduceLE, Int.reduceLT, Nat.reducePow, Int.reducePow, Int.reduceNeg, Int.reduceToNat, Int.reduceSub, Int.reduceMul, Int.reduceAdd, or_true, true_or, Nat.reduceLT, and_self, Int.reduceEq, Nat.reduceEqDiff, exists_and_left, HBs, bx_box hn, bx_setb hn, Ob.lst.injEq, ev]
            refine value_ok hb (bx_box hn) (by omega) fun d us vd hb => ?_
            try simp only [EVs, Ts.len, List.getElem?_cons_zero, List.getElem?_cons_succ, List.set_cons_zero, List.set_cons_succ, Option.some.injEq, D.int.injEq, D.bl.injEq, D.str.injEq, D.tup.injEq, D.lst.injEq, D.ref.injEq, exists_eq_left, exists_eq_left', true_and, and_true, if_true, if_false, Bool.false_eq_true, Bool.true_eq_false, reduceCtorEq, List.length_cons, List.length_nil, Option.map_some, List.any_cons, List.any_nil, Bool.or_false, isTy, decide_true, decide_false, Bool.and_true, Bool.and_false, Bool.or_true, Bool.true_or, Bool.false_or, Bool.false_and, Bool.true_and, Bool.not_true, Bool.not_false, startD, List.map_cons, List.map_nil, List.cons_append, List.nil_append, List.replicate_zero, List.replicate_succ, Nat.reduceSub, Nat.reduceAdd, Option.isSome_some, wipeD, false_and, and_false, exists_false, false_or, or_false, gt_iff_lt, ge_iff_le, Option.bind_some, decide_eq_true_eq, Nat.reduceLeDiff, Nat.zero_le, Int.reduceLE, Int.reduceLT, Nat.reducePow, Int.reducePow, Int.reduceNeg, Int.reduceToNat, Int.reduceSub, Int.reduceMul, Int.reduceAdd, or_true, true_or, Nat.reduceLT, and_self, Int.reduceEq, Nat.reduceEqDiff, exists_and_left, HBs, bx_box hn, bx_setb hn, Ob.lst.injEq]
            exact hk _ _ ⟨vd, fun e => nomatch e⟩ hb
        · rw [vl] at hb
          try simp only [EVs, Ts.len, List.getElem?_cons_zero, List.getElem?_cons_succ, List.set_cons_zero, List.set_cons_succ, Option.some.injEq, D.int.injEq, D.bl.injEq, D.str.injEq, D.tup.injEq, D.lst.injEq, D.ref.injEq, exists_eq_left, exists_eq_left', true_and, and_true, if_true, if_false, Bool.false_eq_true, Bool.true_eq_false, reduceCtorEq, List.length_cons, List.length_nil, Option.map_some, List.any_cons, List.any_nil, Bool.or_false, isTy, decide_true, decide_false, Bool.and_true, Bool.and_false, Bool.or_true, Bool.true_or, Bool.false_or, Bool.false_and, Bool.true_and, Bool.not_true, Bool.not_false, startD, List.map_cons, List.map_nil, List.cons_append, List.nil_append, List.replicate_zero, List.replicate_succ, Nat.reduceSub, Nat.reduceAdd, Option.isSome_some, wipeD, false_and, and_false, exists_false, false_or, or_false, gt_iff_lt, ge_iff_le, Option.bind_some, decide_eq_true_eq, Nat.reduceLeDiff, Nat.zero_le, Int.reduceLE, Int.reduceLT, Nat.reducePow, Int.reducePow, Int.reduceNeg, Int.reduceToNat, Int.reduceSub, Int.reduceMul, Int.reduceAdd, or_true, true_or, Nat.reduceLT, and_self, Int.reduceEq, Nat.reduceEqDiff, exists_and_left, HBs, bx_box hn, bx_setb hn, Ob.lst.injEq]
          refine soneW ?_; try simp only [EVs, Ts.len, List.getElem?_cons_zero, List.getElem?_cons_succ, List.set_cons_zero, List.set_cons_succ, Option.some.injEq, D.int.injEq, D.bl.injEq, D.str.injEq, D.tup.injEq, D.lst.injEq, D.ref.injEq, exists_eq_left, exists_eq_left', true_and, and_true, if_true, if_false, Bool.false_eq_true, Bool.true_eq_false, reduceCtorEq, List.length_cons, List.length_nil, Option.map_some, List.any_cons, List.any_nil, Bool.or_false, isTy, decide_true, decide_false, Bool.and_true, Bool.and_false, Bool.or_true, Bool.true_or, Bool.false_or, Bool.false_and, Bool.true_and, Bool.not_true, Bool.not_false, startD, List.map_cons, List.map_nil, List.cons_append, List.nil_append, List.replicate_zero, List.replicate_succ, Nat.reduceSub, Nat.reduceAdd, Option.isSome_some, wipeD, false_and, and_false, exists_false, false_or, or_false, gt_iff_lt, ge_iff_le, Option.bind_some, decide_eq_true_eq, Nat.reduceLeDiff, Nat.zero_le, Int.reduceLE, Int.reduceLT, Nat.reducePow, Int.reducePow, Int.reduceNeg, Int.reduceToNat, Int.reduceSub, Int.reduceMul, Int.reduceAdd, or_true, true_or, Nat.reduceLT, and_self, Int.reduceEq, Nat.reduceEqDiff, exists_and_left, HBs, bx_box hn, bx_setb hn, Ob.lst.injEq, et, List.length_map, jk_get, jk_set]
          refine take_ok hb (bx_box hn) (by omega) (by omega) (by omega) fun r us r0 r1 hb => ?_
          try simp only [EVs, Ts.len, List.getElem?_cons_zero, List.getElem?_cons_succ, List.set_cons_zero, List.set_cons_succ, Option.some.injEq, D.int.injEq, D.bl.injEq, D.str.injEq, D.tup.injEq, D.lst.injEq, D.ref.injEq, exists_eq_left, exists_eq_left', true_and, and_true, if_true, if_false, Bool.false_eq_true, Bool.true_eq_false, reduceCtorEq, List.length_cons, List.length_nil, Option.map_some, List.any_cons, List.any_nil, Bool.or_false, isTy, decide_true, decide_false, Bool.and_true, Bool.and_false, Bool.or_true, Bool.true_or, Bool.false_or, Bool.false_and, Bool.true_and, Bool.not_true, Bool.not_false, startD, List.map_cons, List.map_nil, List.cons_append, List.nil_append, List.replicate_zero, List.replicate_succ, Nat.reduceSub, Nat.reduceAdd, Option.isSome_some, wipeD, false_and, and_false, exists_false, false_or, or_false, gt_iff_lt, ge_iff_le, Option.bind_some, decide_eq_true_eq, Nat.reduceLeDiff, Nat.zero_le, Int.reduceLE, Int.reduceLT, Nat.reducePow, Int.reducePow, Int.reduceNeg, Int.reduceToNat, Int.reduceSub, Int.reduceMul, Int.reduceAdd, or_true, true_or, Nat.reduceLT, and_self, Int.reduceEq, Nat.reduceEqDiff, exists_and_left, HBs, bx_box hn, bx_setb hn, Ob.lst.injEq, List.length_map, jk_get, jk_set]
          refine iF_d (fun hr0 => ?_) (fun hr0 => ?_)
          · skip
            try simp only [EVs, Ts.len, List.getElem?_cons_zero, List.getElem?_cons_succ, List.set_cons_zero, List.set_cons_succ, Option.some.injEq, D.int.injEq, D.bl.injEq, D.str.injEq, D.tup.injEq, D.lst.injEq, D.ref.injEq, exists_eq_left, exists_eq_left', true_and, and_true, if_true, if_false, Bool.false_eq_true, Bool.true_eq_false, reduceCtorEq, List.length_cons, List.length_nil, Option.map_some, List.any_cons, List.any_nil, Bool.or_false, isTy, decide_true, decide_false, Bool.and_true, Bool.and_false, Bool.or_true, Bool.true_or, Bool.false_or, Bool.false_and, Bool.true_and, Bool.not_true, Bool.not_false, startD, List.map_cons, List.map_nil, List.cons_append, List.nil_append, List.replicate_zero, List.replicate_succ, Nat.reduceSub, Nat.reduceAdd, Option.isSome_some, wipeD, false_and, and_false, exists_false, false_or, or_false, gt_iff_lt, ge_iff_le, Option.bind_some, decide_eq_true_eq, Nat.reduceLeDiff, Nat.zero_le, Int.reduceLE, Int.reduceLT, Nat.reducePow, Int.reducePow, Int.reduceNeg, Int.reduceToNat, Int.reduceSub, Int.reduceMul, Int.reduceAdd, or_true, true_or, Nat.reduceLT, and_self, Int.reduceEq, Nat.reduceEqDiff, exists_and_left, HBs, bx_box hn, bx_setb hn, Ob.lst.injEq, List.length_map, jk_get, jk_set]
            refine ⟨by omega, ?_⟩
            refine snil (Φ := Φ) (xq := NX) ?_; refine snil (Φ := Φ) (xq := NX) ?_
            refine knx2 _ _ ⟨⟨_, _, _, rfl⟩, us, cs ++ [none], by rw [List.map_append]; rfl, hb.mono (by omega), by rw [List.length_append]; simp; omega, fun vs m => ?_⟩
            rcases List.mem_append.mp m with m | m
            · exact hc vs m
            · simp at m
          · skip
            try simp only [EVs, Ts.len, List.getElem?_cons_zero, List.getElem?_cons_succ, List.set_cons_zero, List.set_cons_succ, Option.some.injEq, D.int.injEq, D.bl.injEq, D.str.injEq, D.tup.injEq, D.lst.injEq, D.ref.injEq, exists_eq_left, exists_eq_left', true_and, and_true, if_true, if_false, Bool.false_eq_true, Bool.true_eq_false, reduceCtorEq, List.length_cons, List.length_nil, Option.map_some, List.any_cons, List.any_nil, Bool.or_false, isTy, decide_true, decide_false, Bool.and_true, Bool.and_false, Bool.or_true, Bool.true_or, Bool.false_or, Bool.false_and, Bool.true_and, Bool.not_true, Bool.not_false, startD, List.map_cons, List.map_nil, List.cons_append, List.nil_append, List.replicate_zero, List.replicate_succ, Nat.reduceSub, Nat.reduceAdd, Option.isSome_some, wipeD, false_and, and_false, exists_false, false_or, or_false, gt_iff_lt, ge_iff_le, Option.bind_some, decide_eq_true_eq, Nat.reduceLeDiff, Nat.zero_le, Int.reduceLE, Int.reduceLT, Nat.reducePow, Int.reducePow, Int.reduceNeg, Int.reduceToNat, Int.reduceSub, Int.reduceMul, Int.reduceAdd, or_true, true_or, Nat.reduceLT, and_self, Int.reduceEq, Nat.reduceEqDiff, exists_and_left, HBs, bx_box hn, bx_setb hn, Ob.lst.injEq, List.length_map, jk_get, jk_set]
            refine ⟨by omega, ?_⟩
            refine snil (Φ := Φ) (xq := NX) ?_; refine snil (Φ := Φ) (xq := NX) ?_
            refine knx2 _ _ ⟨⟨_, _, _, rfl⟩, us, cs ++ [some ys], by rw [List.map_append]; rfl, hb.mono (by omega), by rw [List.length_append]; simp; omega, fun vs m => ?_⟩
            rcases List.mem_append.mp m with m | m
            · exact hc vs m
            · simp at m
              subst m
              exact ⟨yl, yp⟩
      · rintro ⟨⟨_, _, _, rfl⟩, us, cs, rfl, hb, hcl, hc⟩
        simp only [List.length_nil, Nat.add_zero] at hb hcl
        refine ⟨trivial, ?_⟩
        refine soneW ?_; try simp only [EVs, Ts.len, List.getElem?_cons_zero, List.getElem?_cons_succ, List.set_cons_zero, List.set_cons_succ, Option.some.injEq, D.int.injEq, D.bl.injEq, D.str.injEq, D.tup.injEq, D.lst.injEq, D.ref.injEq, exists_eq_left, exists_eq_left', true_and, and_true, if_true, if_false, Bool.false_eq_true, Bool.true_eq_false, reduceCtorEq, List.length_cons, List.length_nil, Option.map_some, List.any_cons, List.any_nil, Bool.or_false, isTy, decide_true, decide_false, Bool.and_true, Bool.and_false, Bool.or_true, Bool.true_or, Bool.false_or, Bool.false_and, Bool.true_and, Bool.not_true, Bool.not_false, startD, List.map_cons, List.map_nil, List.cons_append, List.nil_append, List.replicate_zero, List.replicate_succ, Nat.reduceSub, Nat.reduceAdd, Option.isSome_some, wipeD, false_and, and_false, exists_false, false_or, or_false, gt_iff_lt, ge_iff_le, Option.bind_some, decide_eq_true_eq, Nat.reduceLeDiff, Nat.zero_le, Int.reduceLE, Int.reduceLT, Nat.reducePow, Int.reducePow, Int.reduceNeg, Int.reduceToNat, Int.reduceSub, Int.reduceMul, Int.reduceAdd, or_true, true_or, Nat.reduceLT, and_self, Int.reduceEq, Nat.reduceEqDiff, exists_and_left, HBs, bx_box hn, bx_setb hn, Ob.lst.injEq, List.length_map, jk_get, jk_set]
        refine ⟨by omega, ?_⟩
        refine snil (Φ := Φ) (xq := NX) ?_; refine snil (Φ := Φ) (xq := NX) ?_
        refine knx _ _ ⟨⟨_, _, _, _, _, rfl⟩, us, rs ++ [(p, cs)], junk ++ [.lst (cs.map cellD)], done ++ [p], by rw [List.map_append]; rfl, by rw [hd, List.append_assoc]; rfl, by rw [List.map_append, hrs]; rfl, hb.mono (by push_cast; omega), ?_⟩
        exact mem_snoc hr ⟨by rw [(pst p hpp).1, kl], (pst p hpp).2, hcl, hc⟩
    · rintro ⟨⟨_, _, _, _, _, rfl⟩, us, rs, junk, done, rfl, hd, hrs, hb, hr⟩
      rw [List.append_nil] at hd
      subst hd
      refine ⟨trivial, ?_⟩
      refine soneW ?_; try simp only [EVs, Ts.len, List.getElem?_cons_zero, List.getElem?_cons_succ, List.set_cons_zero, List.set_cons_succ, Option.some.injEq, D.int.injEq, D.bl.injEq, D.str.injEq, D.tup.injEq, D.lst.injEq, D.ref.injEq, exists_eq_left, exists_eq_left', true_and, and_true, if_true, if_false, Bool.false_eq_true, Bool.true_eq_false, reduceCtorEq, List.length_cons, List.length_nil, Option.map_some, List.any_cons, List.any_nil, Bool.or_false, isTy, decide_true, decide_false, Bool.and_true, Bool.and_false, Bool.or_true, Bool.true_or, Bool.false_or, Bool.false_and, Bool.true_and, Bool.not_true, Bool.not_false, startD, List.map_cons, List.map_nil, List.cons_append, List.nil_append, List.replicate_zero, List.replicate_succ, Nat.reduceSub, Nat.reduceAdd, Option.isSome_some, wipeD, false_and, and_false, exists_false, false_or, or_false, gt_iff_lt, ge_iff_le, Option.bind_some, decide_eq_true_eq, Nat.reduceLeDiff, Nat.zero_le, Int.reduceLE, Int.reduceLT, Nat.reducePow, Int.reducePow, Int.reduceNeg, Int.reduceToNat, Int.reduceSub, Int.reduceMul, Int.reduceAdd, or_true, true_or, Nat.reduceLT, and_self, Int.reduceEq, Nat.reduceEqDiff, exists_and_left, HBs, bx_box hn, bx_setb hn, Ob.lst.injEq]
      have hrl : rs.length = ps.length := by rw [← hrs, List.length_map]
      have b1 : hs.length ≤ 12 := by omega
      have b2 : rs.length ≤ 12 := by omega
      have b3 : key.length ≤ 2 := by omega
      have b4 : nam.length ≤ 2 := by omega
      have b5 : vals.length ≤ 5 := by omega
      have b6 : vals ≠ [] := fun e => by
        subst e
        simp at vl; omega
      have ok : (WT.mk key nam vals hs rs).Ok := ⟨h3nd, h3nm, b6, by rw [show (WT.mk key nam vals hs rs).nam.length = b.toNat from nl']; exact hst, hsnd, fun r m => ⟨(hr r m).1, (hr r m).2.1, (hr r m).2.2.1, fun vs m2 => ⟨((hr r m).2.2.2 vs m2).1, fun v mv => (((hr r m).2.2.2 vs m2).2 v mv).1⟩⟩, by rw [show (WT.mk key nam vals hs rs).rows.map (·.1) = ps from hrs]; exact psnd, b1, b2, b3, b4, b5⟩
      exact fz_pure hn hb ok.pl.p (q _ _ ok (fun e r m vs m2 v mv => (((hr r m).2.2.2 vs m2).2 v mv).2 e) (hb.mono (by simp; omega)))
  refine take_ok hb (bx_box hn) (by omega) (by omega) (by omega) fun r us r0 r1 hb => ?_
  try simp only [EVs, Ts.len, List.getElem?_cons_zero, List.getElem?_cons_succ, List.set_cons_zero, List.set_cons_succ, Option.some.injEq, D.int.injEq, D.bl.injEq, D.str.injEq, D.tup.injEq, D.lst.injEq, D.ref.injEq, exists_eq_left, exists_eq_left', true_and, and_true, if_true, if_false, Bool.false_eq_true, Bool.true_eq_false, reduceCtorEq, List.length_cons, List.length_nil, Option.map_some, List.any_cons, List.any_nil, Bool.or_false, isTy, decide_true, decide_false, Bool.and_true, Bool.and_false, Bool.or_true, Bool.true_or, Bool.false_or, Bool.false_and, Bool.true_and, Bool.not_true, Bool.not_false, startD, List.map_cons, List.map_nil, List.cons_append, List.nil_append, List.replicate_zero, List.replicate_succ, Nat.reduceSub, Nat.reduceAdd, Option.isSome_some, wipeD, false_and, and_false, exists_false, false_or, or_false, gt_iff_lt, ge_iff_le, Option.bind_some, decide_eq_true_eq, Nat.reduceLeDiff, Nat.zero_le, Int.reduceLE, Int.reduceLT, Nat.reducePow, Int.reducePow, Int.reduceNeg, Int.reduceToNat, Int.reduceSub, Int.reduceMul, Int.reduceAdd, or_true, true_or, Nat.reduceLT, and_self, Int.reduceEq, Nat.reduceEqDiff, exists_and_left, HBs, bx_box hn, bx_setb hn, Ob.lst.injEq]
  refine iF_d (fun hr0 => ?_) (fun hr0 => ?_)
  · skip
    refine soneW ?_; try simp only [EVs, Ts.len, List.getElem?_cons_zero, List.getElem?_cons_succ, List.set_cons_zero, List.set_cons_succ, Option.some.injEq, D.int.injEq, D.bl.injEq, D.str.injEq, D.tup.injEq, D.lst.injEq, D.ref.injEq, exists_eq_left, exists_eq_left', true_and, and_true, if_true, if_false, Bool.false_eq_true, Bool.true_eq_false, reduceCtorEq, List.length_cons, List.length_nil, Option.map_some, List.any_cons, List.any_nil, Bool.or_false, isTy, decide_true, decide_false, Bool.and_true, Bool.and_false, Bool.or_true, Bool.true_or, Bool.false_or, Bool.false_and, Bool.true_and, Bool.not_true, Bool.not_false, startD, List.map_cons, List.map_nil, List.cons_append, List.nil_append, List.replicate_zero, List.replicate_succ, Nat.reduceSub, Nat.reduceAdd, Option.isSome_some, wipeD, false_and, and_false, exists_false, false_or, or_false, gt_iff_lt, ge_iff_le, Option.bind_some, decide_eq_true_eq, Nat.reduceLeDiff, Nat.zero_le, Int.reduceLE, Int.reduceLT, Nat.reducePow, Int.reducePow, Int.reduceNeg, Int.reduceToNat, Int.reduceSub, Int.reduceMul, Int.reduceAdd, or_true, true_or, Nat.reduceLT, and_self, Int.reduceEq, Nat.reduceEqDiff, exists_and_left, HBs, bx_box hn, bx_setb hn, Ob.lst.injEq, et]
    refine take_ok hb (bx_box hn) (by omega) (by omega) (by omega) fun r us r0 r1 hb => ?_
    try simp only [EVs, Ts.len, List.getElem?_cons_zero, List.getElem?_cons_succ, List.set_cons_zero, List.set_cons_succ, Option.some.injEq, D.int.injEq, D.bl.injEq, D.str.injEq, D.tup.injEq, D.lst.injEq, D.ref.injEq, exists_eq_left, exists_eq_left', true_and, and_true, if_true, if_false, Bool.false_eq_true, Bool.true_eq_false, reduceCtorEq, List.length_cons, List.length_nil, Option.map_some, List.any_cons, List.any_nil, Bool.or_false, isTy, decide_true, decide_false, Bool.and_true, Bool.and_false, Bool.or_true, Bool.true_or, Bool.false_or, Bool.false_and, Bool.true_and, Bool.not_true, Bool.not_false, startD, List.map_cons, List.map_nil, List.cons_append, List.nil_append, List.replicate_zero, List.replicate_succ, Nat.reduceSub, Nat.reduceAdd, Option.isSome_some, wipeD, false_and, and_false, exists_false, false_or, or_false, gt_iff_lt, ge_iff_le, Option.bind_some, decide_eq_true_eq, Nat.reduceLeDiff, Nat.zero_le, Int.reduceLE, Int.reduceLT, Nat.reducePow, Int.reducePow, Int.reduceNeg, Int.reduceToNat, Int.reduceSub, Int.reduceMul, Int.reduceAdd, or_true, true_or, Nat.reduceLT, and_self, Int.reduceEq, Nat.reduceEqDiff, exists_and_left, HBs, bx_box hn, bx_setb hn, Ob.lst.injEq]
    refine snil (Φ := Φ) (xq := NX) ?_
    exact main _ _ (by omega) (by omega) (hb.mono (by omega))
  · skip
    refine snil (Φ := Φ) (xq := NX) ?_
    exact main _ _ (by omega) (by omega) (hb.mono (by omega))
end Pf

namespace Pf
open PySem PySem.Spec PyProof.Rows L2
def Sh (m : Nat) (d : D) : Prop := (py d).showable = true ∧ shl d ≤ m
theorem sh_tup {xs : List D} {m n k : Nat} (h : ∀ x ∈ xs, Sh m x) (hl : xs.length ≤ n) (hk : 3 + n * (m + 2) ≤ k) : Sh k (.tup xs) := by
  refine ⟨show_all fun x m => (h x m).1, ?_⟩
  have l1 := shl_tup fun x m => (h x m).2
  have l2 : xs.length * (m + 2) ≤ n * (m + 2) := Nat.mul_le_mul_right _ hl
  omega
theorem sh_lst {xs : List D} {m n k : Nat} (h : ∀ x ∈ xs, Sh m x) (hl : xs.length ≤ n) (hk : 3 + n * (m + 2) ≤ k) : Sh k (.lst xs) := by
  refine ⟨show_all fun x m => (h x m).1, ?_⟩
  have l1 := shl_lst fun x m => (h x m).2
  have l2 : xs.length * (m + 2) ≤ n * (m + 2) := Nat.mul_le_mul_right _ hl
  omega
theorem Sh.up {d : D} {m k : Nat} (h : Sh m d) (l : m ≤ k) : Sh k d := ⟨h.1, Nat.le_trans h.2 l⟩
theorem str_sh {d : D} {m : Nat} (H : DH) (h : Sh m d) (p : d.pure = true) (l : d.depth ≤ 60) (hm : m ≤ 16777216) (ns : ∀ s, d ≠ .str s) : strF H d = some (py d).shown := by
  have e : res H d = d := by cases d <;> first | rfl | cases p
  have l1 : (py d).shown.length ≤ 16777216 := Nat.le_trans h.2 hm
  have g : (if ((res H d).pure && (py (res H d)).showable && decide ((res H d).depth ≤ 60) && decide ((py (res H d)).shown.length ≤ 16777216)) = true then some (py (res H d)).shown else none) = some (py d).shown := by
    rw [e, p, h.1, decide_eq_true l, decide_eq_true l1]; rfl
  cases d with
  | str s => exact absurd rfl (ns s)
  | _ => exact g
theorem sh_name {x : D} (m : x ∈ NM) : Sh 30 x := by
  rw [NM_map] at m
  have h1 := List.all_eq_true.mp (show (NMs.map D.str).all (fun d => (py d).showable && decide (shl d ≤ 30)) = true by decide +kernel) _ m
  simp only [Bool.and_eq_true, decide_eq_true_eq] at h1
  exact h1
theorem sh_vals {t : List D} {n : Nat} (h : SVs t) (l : t.length ≤ n) : Sh (3 + n * 32) (.tup t) := sh_tup (m := 30) (fun x m => (h x m).2) l (by omega)
theorem sh_cell {c : Option (List D)} (h : ∀ vs, c = some vs → SVs vs ∧ vs.length ≤ 5) : Sh 163 (cellD c) := by
  cases c with
  | none => exact ⟨rfl, by decide +kernel⟩
  | some vs => exact sh_vals (h vs rfl).1 (h vs rfl).2
theorem WT.Ok.sh {w : WT} (o : w.Ok) : Sh 400000 w.d := by
  have nm := fun x m => sh_name (o.nm x m)
  refine sh_tup (m := 60000) (n := 5) (fun x m => ?_) (Nat.le_refl _) (by omega)
  simp only [List.mem_cons, List.not_mem_nil, or_false] at m
  rcases m with rfl | rfl | rfl | rfl | rfl
  · exact sh_tup (m := 30) (n := 5) (fun x m => nm x (by simp [m])) (Nat.le_trans o.kl (by omega)) (by omega)
  · exact sh_tup (m := 30) (n := 5) (fun x m => nm x (by simp [m])) (Nat.le_trans o.nl (by omega)) (by omega)
  · exact sh_tup (m := 30) (n := 5) (fun x m => nm x (by simp [m])) o.vl (by omega)
  · refine sh_tup (m := 67) (n := 12) (fun x m => ?_) (by rw [List.length_map]; exact o.hl) (by omega)
    obtain ⟨t, mt, rfl⟩ := List.mem_map.mp m
    exact sh_vals (n := 2) (o.hd t mt).2 (by rw [(o.hd t mt).1]; exact o.nl)
  · refine sh_tup (m := 4100) (n := 12) (fun x m => ?_) (by rw [List.length_map]; exact o.rl) (by omega)
    obtain ⟨r, mr, rfl⟩ := List.mem_map.mp m
    obtain ⟨r1, r2, r3, r4⟩ := o.rw r mr
    refine sh_tup (m := 2040) (n := 2) (fun x m => ?_) (Nat.le_refl _) (by omega)
    simp only [List.mem_cons, List.not_mem_nil, or_false] at m
    rcases m with rfl | rfl
    · exact (sh_vals (n := 2) r2 (by rw [r1]; exact o.kl)).up (by omega)
    · refine sh_tup (m := 163) (n := 12) (fun x m => ?_) (by rw [List.length_map, r3]; exact o.hl) (by omega)
      obtain ⟨c, mc, rfl⟩ := List.mem_map.mp m
      exact sh_cell fun vs e => ⟨(r4 vs (e ▸ mc)).2, by rw [(r4 vs (e ▸ mc)).1]; exact o.vl⟩
structure WT.Fine (w : WT) : Prop where
  pl : Pl w.d
  k : w.key.length ≤ 100
  n : w.nam.length ≤ 100
  v : w.val.length ≤ 100
  h : w.heads.length ≤ 100
  r : w.rows.length ≤ 100
  hd : ∀ t ∈ w.heads, t.length ≤ 100
  rw : ∀ r ∈ w.rows, r.1.length ≤ 100 ∧ r.2.length = w.heads.length ∧ ∀ vs, some vs ∈ r.2 → vs.length ≤ 100
  dep : w.d.depth ≤ 10
theorem pl_in {xs : List D} (h : Pl (.tup xs)) {x : D} (m : x ∈ xs) : Pl x := by
  refine ⟨pures_mem h.p m, ?_⟩
  have n : D.nobools xs = true := h.n
  clear h
  induction xs with
  | nil => cases m
  | cons y ys ih =>
    have n : (y.nobool && D.nobools ys) = true := n
    rw [Bool.and_eq_true] at n
    rcases List.mem_cons.mp m with rfl | m
    · exact n.1
    · exact ih m n.2
theorem depth_in {xs : List D} {x : D} {k : Nat} (h : (D.tup xs).depth ≤ k + 1) (m : x ∈ xs) : x.depth ≤ k := by
  have h : D.depths xs + 1 ≤ k + 1 := h
  have := depth_mem m
  omega
theorem depth_cell {c : Option (List D)} (h : ∀ vs, c = some vs → SVs vs) : (cellD c).depth ≤ 1 := by
  cases c with
  | none => exact Nat.zero_le _
  | some vs => exact depth_vals (h vs rfl)
theorem WT.Ok.depth {w : WT} (o : w.Ok) : w.d.depth ≤ 5 := by
  have dn : ∀ x ∈ NM, x.depth ≤ 0 := fun x m => by
    rw [NM_map] at m
    obtain ⟨s, _, rfl⟩ := List.mem_map.mp m
    exact Nat.le_refl _
  have d3 := fun x m => dn x (o.nm x m)
  refine depth_tup (k := 4) fun x m => ?_
  simp only [List.mem_cons, List.not_mem_nil, or_false] at m
  rcases m with rfl | rfl | rfl | rfl | rfl
  · exact Nat.le_trans (depth_tup (k := 0) fun x m => d3 x (by simp [m])) (by omega)
  · exact Nat.le_trans (depth_tup (k := 0) fun x m => d3 x (by simp [m])) (by omega)
  · exact Nat.le_trans (depth_tup (k := 0) fun x m => d3 x (by simp [m])) (by omega)
  · refine Nat.le_trans (depth_tup (k := 1) fun x m => ?_) (by omega)
    obtain ⟨t, mt, rfl⟩ := List.mem_map.mp m
    exact depth_vals (o.hd t mt).2
  · refine depth_tup (k := 3) fun x m => ?_
    obtain ⟨r, mr, rfl⟩ := List.mem_map.mp m
    obtain ⟨r1, r2, r3, r4⟩ := o.rw r mr
    refine depth_tup (k := 2) fun x m => ?_
    simp only [List.mem_cons, List.not_mem_nil, or_false] at m
    rcases m with rfl | rfl
    · exact Nat.le_trans (depth_vals r2) (by omega)
    · refine depth_tup (k := 1) fun x m => ?_
      obtain ⟨c, mc, rfl⟩ := List.mem_map.mp m
      exact depth_cell fun vs e => (r4 vs (e ▸ mc)).2
theorem WT.Ok.fine {w : WT} (o : w.Ok) : w.Fine where
  pl := o.pl
  k := Nat.le_trans o.kl (by omega)
  n := Nat.le_trans o.nl (by omega)
  v := Nat.le_trans o.vl (by omega)
  h := Nat.le_trans o.hl (by omega)
  r := Nat.le_trans o.rl (by omega)
  hd := fun t m => by rw [(o.hd t m).1]; exact Nat.le_trans o.nl (by omega)
  rw := fun r m => ⟨by rw [(o.rw r m).1]; exact Nat.le_trans o.kl (by omega), (o.rw r m).2.2.1, fun vs m2 => by rw [((o.rw r m).2.2.2 vs m2).1]; exact Nat.le_trans o.vl (by omega)⟩
  dep := Nat.le_trans o.depth (by omega)
section
variable {w : WT}
theorem WT.Fine.pk (o : w.Fine) : Pl (.tup w.key) := pl_in o.pl (by simp)
theorem WT.Fine.pn (o : w.Fine) : Pl (.tup w.nam) := pl_in o.pl (by simp)
theorem WT.Fine.pv (o : w.Fine) : Pl (.tup w.val) := pl_in o.pl (by simp)
theorem WT.Fine.ph (o : w.Fine) {t : List D} (m : t ∈ w.heads) : Pl (.tup t) := pl_in (pl_in o.pl (x := .tup (w.heads.map .tup)) (by simp)) (List.mem_map.mpr ⟨t, m, rfl⟩)
theorem WT.Fine.pr (o : w.Fine) {r : List D × List (Option (List D))} (m : r ∈ w.rows) : Pl (rowD r) := pl_in (pl_in o.pl (x := .tup (w.rows.map rowD)) (by simp)) (List.mem_map.mpr ⟨r, m, rfl⟩)
theorem WT.Fine.pp (o : w.Fine) {r : List D × List (Option (List D))} (m : r ∈ w.rows) : Pl (.tup r.1) := pl_in (o.pr m) (by simp)
theorem WT.Fine.pc (o : w.Fine) {r : List D × List (Option (List D))} (m : r ∈ w.rows) {c : Option (List D)} (mc : c ∈ r.2) : Pl (cellD c) := pl_in (pl_in (o.pr m) (x := .tup (r.2.map cellD)) (by simp)) (List.mem_map.mpr ⟨c, mc, rfl⟩)
end
theorem pl_app {xs ys : List D} (h : Pl (.tup xs)) (k : Pl (.tup ys)) : Pl (.tup (xs ++ ys)) := Pl.tup fun x m => by
  rcases List.mem_append.mp m with m | m
  · exact pl_in h m
  · exact pl_in k m
/-- the cells' rows -/
def unf1 (hs : List (List D)) (r : List D × List (Option (List D))) : List (List D) := (hs.zip r.2).filterMap fun p => p.2.map fun vs => r.1 ++ p.1 ++ vs
def WT.unf (w : WT) : List (List D) := w.rows.flatMap (unf1 w.heads)
def tabD (cols : List D) (rows : List (List D)) : D := .tup [.tup cols, .tup (rows.map .tup)]
def f_unfolded : Fn := ⟨1, 11, (.cons (.asg (.tup (.cons (.name 1) (.cons (.name 2) (.cons (.name 3) (.cons (.name 4) (.cons (.name 5) .nil)))))) (.var 0)) (.cons (.asg (.name 6) (.lst true .nil)) (.cons (.for_ (.tup (.cons (.name 7) (.cons (.name 8) .nil))) (.seq (.var 5)) (.cons (.expr (.meth .extend (.var 6) (.cons (.comp false [9, 10] (.tup (.cons (.name 9) (.cons (.name 10) .nil))) (.zip (.var 4) (.var 8)) (.cons (.cmp .isnot (.var 10) .non) .nil) (.bin .add (.bin .add (.var 7) (.var 9)) (.var 10))) .nil))) .nil)) (.cons (.ret (.tup (.cons (.bin .add (.bin .add (.var 1) (.var 2)) (.var 3)) (.cons (.bf .tuple false (.cons (.var 6) .nil)) .nil)))) .nil))))⟩
def spUnfolded : Spc := fun ds h Q _ => ∃ w : WT, ds = [w.d] ∧ w.Fine ∧ Q (tabD (w.key ++ w.nam ++ w.val) w.unf) h
theorem unf1_len {hs : List (List D)} {r : List D × List (Option (List D))} : (unf1 hs r).length ≤ hs.length := by
  unfold unf1
  refine Nat.le_trans (List.length_filterMap_le _ _) ?_
  rw [List.length_zip]; exact Nat.min_le_left _ _
theorem unf1_pl {w : WT} (o : w.Fine) {r : List D × List (Option (List D))} (m : r ∈ w.rows) {t : List D} (mt : t ∈ unf1 w.heads r) : Pl (.tup t) := by
  unfold unf1 at mt
  obtain ⟨p, mp, e⟩ := List.mem_filterMap.mp mt
  obtain ⟨m1, m2⟩ := List.of_mem_zip mp
  rw [Option.map_eq_some_iff] at e
  obtain ⟨vs, e1, rfl⟩ := e
  have pc := o.pc m m2
  rw [e1] at pc
  exact pl_app (pl_app (o.pp m) (o.ph m1)) pc
theorem unf_pl {w : WT} (o : w.Fine) {t : List D} (mt : t ∈ w.unf) : Pl (.tup t) := by
  obtain ⟨r, mr, m⟩ := List.mem_flatMap.mp mt
  exact unf1_pl o mr m
theorem tab_pl {cols : List D} {rows : List (List D)} (h : Pl (.tup cols)) (k : ∀ t ∈ rows, Pl (.tup t)) : Pl (tabD cols rows) := Pl.tup fun x m => by
  simp only [List.mem_cons, List.not_mem_nil, or_false] at m
  rcases m with rfl | rfl
  · exact h
  · exact Pl.tup fun x m => by obtain ⟨t, mt, rfl⟩ := List.mem_map.mp m; exact k t mt
theorem i_unfolded {Φ : Fs} : Impl Φ f_unfolded spUnfolded := by
  rintro ds h Q ⟨w, rfl, o, q⟩
  refine ⟨rfl, start_vb ?_⟩
  refine soneW ?_; try simp only [EVs, Ts.len, List.getElem?_cons_zero, List.getElem?_cons_succ, List.set_cons_zero, List.set_cons_succ, Option.some.injEq, D.int.injEq, D.bl.injEq, D.str.injEq, D.tup.injEq, D.lst.injEq, D.ref.injEq, exists_eq_left, exists_eq_left', true_and, and_true, if_true, if_false, Bool.false_eq_true, Bool.true_eq_false, reduceCtorEq, List.length_cons, List.length_nil, Option.map_some, List.any_cons, List.any_nil, Bool.or_false, isTy, decide_true, decide_false, Bool.and_true, Bool.and_false, Bool.or_true, Bool.true_or, Bool.false_or, Bool.false_and, Bool.true_and, Bool.not_true, Bool.not_false, startD, List.map_cons, List.map_nil, List.cons_append, List.nil_append, List.replicate_zero, List.replicate_succ, Nat.reduceSub, Nat.reduceAdd, Option.isSome_some, wipeD, false_and, and_false, exists_false, false_or, or_false, gt_iff_lt, ge_iff_le, Option.bind_some, decide_eq_true_eq, Nat.reduceLeDiff, Nat.zero_le, Int.reduceLE, Int.reduceLT, Nat.reducePow, Int.reducePow, Int.reduceNeg, Int.reduceToNat, Int.reduceSub, Int.reduceMul, Int.reduceAdd, or_true, true_or, Nat.reduceLT, and_self, Int.reduceEq, Nat.reduceEqDiff, exists_and_left, HBs, Ob.lst.injEq, f_unfolded, WT.d]
  refine soneW ?_; try simp only [EVs, Ts.len, List.getElem?_cons_zero, List.getElem?_cons_succ, List.set_cons_zero, List.set_cons_succ, Option.some.injEq, D.int.injEq, D.bl.injEq, D.str.injEq, D.tup.injEq, D.lst.injEq, D.ref.injEq, exists_eq_left, exists_eq_left', true_and, and_true, if_true, if_false, Bool.false_eq_true, Bool.true_eq_false, reduceCtorEq, List.length_cons, List.length_nil, Option.map_some, List.any_cons, List.any_nil, Bool.or_false, isTy, decide_true, decide_false, Bool.and_true, Bool.and_false, Bool.or_true, Bool.true_or, Bool.false_or, Bool.false_and, Bool.true_and, Bool.not_true, Bool.not_false, startD, List.map_cons, List.map_nil, List.cons_append, List.nil_append, List.replicate_zero, List.replicate_succ, Nat.reduceSub, Nat.reduceAdd, Option.isSome_some, wipeD, false_and, and_false, exists_false, false_or, or_false, gt_iff_lt, ge_iff_le, Option.bind_some, decide_eq_true_eq, Nat.reduceLeDiff, Nat.zero_le, Int.reduceLE, Int.reduceLT, Nat.reducePow, Int.reducePow, Int.reduceNeg, Int.reduceToNat, Int.reduceSub, Int.reduceMul, Int.reduceAdd, or_true, true_or, Nat.reduceLT, and_self, Int.reduceEq, Nat.reduceEqDiff, exists_and_left, HBs, Ob.lst.injEq]
  refine soneW ?_; try simp only [EVs, Ts.len, List.getElem?_cons_zero, List.getElem?_cons_succ, List.set_cons_zero, List.set_cons_succ, Option.some.injEq, D.int.injEq, D.bl.injEq, D.str.injEq, D.tup.injEq, D.lst.injEq, D.ref.injEq, exists_eq_left, exists_eq_left', true_and, and_true, if_true, if_false, Bool.false_eq_true, Bool.true_eq_false, reduceCtorEq, List.length_cons, List.length_nil, Option.map_some, List.any_cons, List.any_nil, Bool.or_false, isTy, decide_true, decide_false, Bool.and_true, Bool.and_false, Bool.or_true, Bool.true_or, Bool.false_or, Bool.false_and, Bool.true_and, Bool.not_true, Bool.not_false, startD, List.map_cons, List.map_nil, List.cons_append, List.nil_append, List.replicate_zero, List.replicate_succ, Nat.reduceSub, Nat.reduceAdd, Option.isSome_some, wipeD, false_and, and_false, exists_false, false_or, or_false, gt_iff_lt, ge_iff_le, Option.bind_some, decide_eq_true_eq, Nat.reduceLeDiff, Nat.zero_le, Int.reduceLE, Int.reduceLT, Nat.reducePow, Int.reducePow, Int.reduceNeg, Int.reduceToNat, Int.reduceSub, Int.reduceMul, Int.reduceAdd, or_true, true_or, Nat.reduceLT, and_self, Int.reduceEq, Nat.reduceEqDiff, exists_and_left, HBs, Ob.lst.injEq]
  refine forL_map rowD (fun rest σ h' => (∃ z7_0 z7_1 z7_2 z7_3 : Option D, σ = [some (w.d), some (.tup w.key), some (.tup w.nam), some (.tup w.val), some (.tup (w.heads.map .tup)), some (.tup (w.rows.map rowD)), some (.ref (lc h 0)), z7_0, z7_1, z7_2, z7_3]) ∧ ∃ acc : List (List D), h' = vb h [.lst (acc.map .tup)] ∧ acc ++ rest.flatMap (unf1 w.heads) = w.unf ∧ (∀ r ∈ rest, r ∈ w.rows) ∧ acc.length + 100 * rest.length ≤ 10000) (fun r rest σ h' => ?_) (fun σ h' => ?_) _ _ _
    ⟨⟨_, _, _, _, rfl⟩, [], rfl, rfl, fun r m => m, by have := o.r; simp; omega⟩
  · rintro ⟨⟨_, _, _, _, rfl⟩, acc, rfl, ha, hr, hl⟩
    rw [List.length_cons] at hl
    have mr := hr r List.mem_cons_self
    obtain ⟨r1, r2, r3⟩ := o.rw r mr
    refine ⟨trivial, fun K krt knx kct kbk => ?_⟩
    try simp only [EVs, Ts.len, List.getElem?_cons_zero, List.getElem?_cons_succ, List.set_cons_zero, List.set_cons_succ, Option.some.injEq, D.int.injEq, D.bl.injEq, D.str.injEq, D.tup.injEq, D.lst.injEq, D.ref.injEq, exists_eq_left, exists_eq_left', true_and, and_true, if_true, if_false, Bool.false_eq_true, Bool.true_eq_false, reduceCtorEq, List.length_cons, List.length_nil, Option.map_some, List.any_cons, List.any_nil, Bool.or_false, isTy, decide_true, decide_false, Bool.and_true, Bool.and_false, Bool.or_true, Bool.true_or, Bool.false_or, Bool.false_and, Bool.true_and, Bool.not_true, Bool.not_false, startD, List.map_cons, List.map_nil, List.cons_append, List.nil_append, List.replicate_zero, List.replicate_succ, Nat.reduceSub, Nat.reduceAdd, Option.isSome_some, wipeD, false_and, and_false, exists_false, false_or, or_false, gt_iff_lt, ge_iff_le, Option.bind_some, decide_eq_true_eq, Nat.reduceLeDiff, Nat.zero_le, Int.reduceLE, Int.reduceLT, Nat.reducePow, Int.reducePow, Int.reduceNeg, Int.reduceToNat, Int.reduceSub, Int.reduceMul, Int.reduceAdd, or_true, true_or, Nat.reduceLT, and_self, Int.reduceEq, Nat.reduceEqDiff, exists_and_left, HBs, Ob.lst.injEq, rowD]
    refine soneW ?_; try simp only [EVs, Ts.len, List.getElem?_cons_zero, List.getElem?_cons_succ, List.set_cons_zero, List.set_cons_succ, Option.some.injEq, D.int.injEq, D.bl.injEq, D.str.injEq, D.tup.injEq, D.lst.injEq, D.ref.injEq, exists_eq_left, exists_eq_left', true_and, and_true, if_true, if_false, Bool.false_eq_true, Bool.true_eq_false, reduceCtorEq, List.length_cons, List.length_nil, Option.map_some, List.any_cons, List.any_nil, Bool.or_false, isTy, decide_true, decide_false, Bool.and_true, Bool.and_false, Bool.or_true, Bool.true_or, Bool.false_or, Bool.false_and, Bool.true_and, Bool.not_true, Bool.not_false, startD, List.map_cons, List.map_nil, List.cons_append, List.nil_append, List.replicate_zero, List.replicate_succ, Nat.reduceSub, Nat.reduceAdd, Option.isSome_some, wipeD, false_and, and_false, exists_false, false_or, or_false, gt_iff_lt, ge_iff_le, Option.bind_some, decide_eq_true_eq, Nat.reduceLeDiff, Nat.zero_le, Int.reduceLE, Int.reduceLT, Nat.reducePow, Int.reducePow, Int.reduceNeg, Int.reduceToNat, Int.reduceSub, Int.reduceMul, Int.reduceAdd, or_true, true_or, Nat.reduceLT, and_self, Int.reduceEq, Nat.reduceEqDiff, exists_and_left, HBs, Ob.lst.injEq]
    rw [zipL_map]
    refine compL_fm (fun p : List D × Option (List D) => .tup [.tup p.1, cellD p.2]) (fun p => p.2.map fun vs =>   .tup (r.1 ++ p.1 ++ vs)) ⟨rfl, rfl⟩ (fun p mp k hk => ?_) ?_
    · obtain ⟨m1, m2⟩ := List.of_mem_zip mp
      have l1 := o.hd _ m1
      obtain ⟨hd, c⟩ := p
      cases c with
      | none =>
        try simp only [EVs, Ts.len, List.getElem?_cons_zero, List.getElem?_cons_succ, List.set_cons_zero, List.set_cons_succ, Option.some.injEq, D.int.injEq, D.bl.injEq, D.str.injEq, D.tup.injEq, D.lst.injEq, D.ref.injEq, exists_eq_left, exists_eq_left', true_and, and_true, if_true, if_false, Bool.false_eq_true, Bool.true_eq_false, reduceCtorEq, List.length_cons, List.length_nil, Option.map_some, List.any_cons, List.any_nil, Bool.or_false, isTy, decide_true, decide_false, Bool.and_true, Bool.and_false, Bool.or_true, Bool.true_or, Bool.false_or, Bool.false_and, Bool.true_and, Bool.not_true, Bool.not_false, startD, List.map_cons, List.map_nil, List.cons_append, List.nil_append, List.replicate_zero, List.replicate_succ, Nat.reduceSub, Nat.reduceAdd, Option.isSome_some, wipeD, false_and, and_false, exists_false, false_or, or_false, gt_iff_lt, ge_iff_le, Option.bind_some, decide_eq_true_eq, Nat.reduceLeDiff, Nat.zero_le, Int.reduceLE, Int.reduceLT, Nat.reducePow, Int.reducePow, Int.reduceNeg, Int.reduceToNat, Int.reduceSub, Int.reduceMul, Int.reduceAdd, or_true, true_or, Nat.reduceLT, and_self, Int.reduceEq, Nat.reduceEqDiff, exists_and_left, HBs, Ob.lst.injEq, cellD]
        exact hk
      | some vs =>
        have l2 := r3 _ m2
        have l1 : hd.length ≤ 100 := l1
        try simp only [EVs, Ts.len, List.getElem?_cons_zero, List.getElem?_cons_succ, List.set_cons_zero, List.set_cons_succ, Option.some.injEq, D.int.injEq, D.bl.injEq, D.str.injEq, D.tup.injEq, D.lst.injEq, D.ref.injEq, exists_eq_left, exists_eq_left', true_and, and_true, if_true, if_false, Bool.false_eq_true, Bool.true_eq_false, reduceCtorEq, List.length_cons, List.length_nil, Option.map_some, List.any_cons, List.any_nil, Bool.or_false, isTy, decide_true, decide_false, Bool.and_true, Bool.and_false, Bool.or_true, Bool.true_or, Bool.false_or, Bool.false_and, Bool.true_and, Bool.not_true, Bool.not_false, startD, List.map_cons, List.map_nil, List.cons_append, List.nil_append, List.replicate_zero, List.replicate_succ, Nat.reduceSub, Nat.reduceAdd, Option.isSome_some, wipeD, false_and, and_false, exists_false, false_or, or_false, gt_iff_lt, ge_iff_le, Option.bind_some, decide_eq_true_eq, Nat.reduceLeDiff, Nat.zero_le, Int.reduceLE, Int.reduceLT, Nat.reducePow, Int.reducePow, Int.reduceNeg, Int.reduceToNat, Int.reduceSub, Int.reduceMul, Int.reduceAdd, or_true, true_or, Nat.reduceLT, and_self, Int.reduceEq, Nat.reduceEqDiff, exists_and_left, HBs, Ob.lst.injEq, cellD]
        refine ⟨by omega, ?_⟩
        refine ⟨by rw [List.length_append]; omega, hk⟩
    · have ee : (w.heads.zip r.2).filterMap (fun p => p.2.map fun vs => D.tup (r.1 ++ p.1 ++ vs)) = (unf1 w.heads r).map .tup := by
        unfold unf1
        rw [List.map_filterMap]
        congr 1; funext p
        cases p.2 <;> rfl
      have le := unf1_len (hs := w.heads) (r := r)
      have lh := o.h
      rw [ee]
      try simp only [EVs, Ts.len, List.getElem?_cons_zero, List.getElem?_cons_succ, List.set_cons_zero, List.set_cons_succ, Option.some.injEq, D.int.injEq, D.bl.injEq, D.str.injEq, D.tup.injEq, D.lst.injEq, D.ref.injEq, exists_eq_left, exists_eq_left', true_and, and_true, if_true, if_false, Bool.false_eq_true, Bool.true_eq_false, reduceCtorEq, List.length_cons, List.length_nil, Option.map_some, List.any_cons, List.any_nil, Bool.or_false, isTy, decide_true, decide_false, Bool.and_true, Bool.and_false, Bool.or_true, Bool.true_or, Bool.false_or, Bool.false_and, Bool.true_and, Bool.not_true, Bool.not_false, startD, List.map_cons, List.map_nil, List.cons_append, List.nil_append, List.replicate_zero, List.replicate_succ, Nat.reduceSub, Nat.reduceAdd, Option.isSome_some, wipeD, false_and, and_false, exists_false, false_or, or_false, gt_iff_lt, ge_iff_le, Option.bind_some, decide_eq_true_eq, Nat.reduceLeDiff, Nat.zero_le, Int.reduceLE, Int.reduceLT, Nat.reducePow, Int.reducePow, Int.reduceNeg, Int.reduceToNat, Int.reduceSub, Int.reduceMul, Int.reduceAdd, or_true, true_or, Nat.reduceLT, and_self, Int.reduceEq, Nat.reduceEqDiff, exists_and_left, HBs, Ob.lst.injEq]
      refine ⟨by rw [List.length_map, List.length_map]; omega, ?_⟩
      refine snil (Φ := Φ) (xq := NX) ?_
      refine knx _ _ ⟨⟨_, _, _, _, rfl⟩, acc ++ unf1 w.heads r, by rw [List.map_append], ?_, fun r m => hr r (List.mem_cons_of_mem _ m), by rw [List.length_append]; omega⟩
      rw [← ha, List.flatMap_cons, List.append_assoc]
  · rintro ⟨⟨_, _, _, _, rfl⟩, acc, rfl, ha, hr, hl⟩
    rw [List.flatMap_nil, List.append_nil] at ha
    refine ⟨trivial, ?_⟩
    have lk := o.k
    have ln := o.n
    have lv := o.v
    refine soneW ?_; try simp only [EVs, Ts.len, List.getElem?_cons_zero, List.getElem?_cons_succ, List.set_cons_zero, List.set_cons_succ, Option.some.injEq, D.int.injEq, D.bl.injEq, D.str.injEq, D.tup.injEq, D.lst.injEq, D.ref.injEq, exists_eq_left, exists_eq_left', true_and, and_true, if_true, if_false, Bool.false_eq_true, Bool.true_eq_false, reduceCtorEq, List.length_cons, List.length_nil, Option.map_some, List.any_cons, List.any_nil, Bool.or_false, isTy, decide_true, decide_false, Bool.and_true, Bool.and_false, Bool.or_true, Bool.true_or, Bool.false_or, Bool.false_and, Bool.true_and, Bool.not_true, Bool.not_false, startD, List.map_cons, List.map_nil, List.cons_append, List.nil_append, List.replicate_zero, List.replicate_succ, Nat.reduceSub, Nat.reduceAdd, Option.isSome_some, wipeD, false_and, and_false, exists_false, false_or, or_false, gt_iff_lt, ge_iff_le, Option.bind_some, decide_eq_true_eq, Nat.reduceLeDiff, Nat.zero_le, Int.reduceLE, Int.reduceLT, Nat.reducePow, Int.reducePow, Int.reduceNeg, Int.reduceToNat, Int.reduceSub, Int.reduceMul, Int.reduceAdd, or_true, true_or, Nat.reduceLT, and_self, Int.reduceEq, Nat.reduceEqDiff, exists_and_left, HBs, Ob.lst.injEq]
    refine ⟨by omega, by rw [List.length_append]; omega, ?_⟩
    have pt := tab_pl (pl_app (pl_app o.pk o.pn) o.pv) fun t m => unf_pl o m
    subst ha
    exact fz_vpure pt.p q
end Pf

namespace Pf
open PySem PySem.Spec PyProof.Rows L2
theorem box_ok {H : DH} {ns : List Int} {k : Int} {Q : DQ} (h0 : 0 ≤ k) (h1 : k ≤ 1000000) (q : ∀ xs, BoxOk 0 xs → Q (.ref H.length) (H ++ [.lst xs])) : spBox [.scr (ns.map .int), .int k] H Q NX := ⟨ns, k, rfl, h0, h1, q⟩
theorem same_ok {H : DH} {x y d : D} {Q : DQ} (h1 : res H x = d) (h2 : res H y = d) (p : d.pure = true) (l : d.depth ≤ 59) (q : Q (.bl true) H) : spSame 60 [x, y] H Q NX := ⟨x, y, d, rfl, h1, h2, p, l, by decide, q⟩
theorem res_p {H : DH} {d : D} (p : d.pure = true) : res H d = d := by cases d <;> first | rfl | cases p
theorem eq_same {H : DH} {d : D} (p : d.pure = true) (l : d.depth ≤ 64) : eqF H d d = some true := by rw [eq_pure p p l, eqv_self _ p]
theorem cut5_4 {a b c d e : D} : cutL [a, b, c, d, e] none (some 4) = [a, b, c, d] := rfl
theorem cut5_3 {a b c d e : D} : cutL [a, b, c, d, e] none (some 3) = [a, b, c] := rfl
theorem tab_depth {cols : List D} {rows : List (List D)} {k : Nat} (h : (D.tup cols).depth ≤ k + 1) (g : ∀ t ∈ rows, (D.tup t).depth ≤ k) : (tabD cols rows).depth ≤ k + 2 := depth_tup (k := k + 1) fun x m => by
  simp only [List.mem_cons, List.not_mem_nil, or_false] at m
  rcases m with rfl | rfl
  · exact h
  · exact depth_tup (k := k) fun x m => by obtain ⟨t, mt, rfl⟩ := List.mem_map.mp m; exact g t mt
theorem sub_depth {w : WT} {x : D} (o : w.Fine) (m : x ∈ [D.tup w.key, .tup w.nam, .tup w.val, .tup (w.heads.map .tup), .tup (w.rows.map rowD)]) : x.depth ≤ 9 := depth_in o.dep m
theorem app_depth {xs ys : List D} {k : Nat} (h : (D.tup xs).depth ≤ k) (g : (D.tup ys).depth ≤ k) : (D.tup (xs ++ ys)).depth ≤ k := by
  cases k with
  | zero => have h : D.depths xs + 1 ≤ 0 := h; omega
  | succ k =>
    refine depth_tup fun x m => ?_
    rcases List.mem_append.mp m with m | m
    · exact depth_in h m
    · exact depth_in g m
theorem depth_in0 {xs : List D} {x : D} {k : Nat} (h : (D.tup xs).depth ≤ k) (m : x ∈ xs) : x.depth ≤ k := by
  have h : D.depths xs + 1 ≤ k := h
  have := depth_mem m
  omega
theorem unf_depth {w : WT} (o : w.Fine) {t : List D} (mt : t ∈ w.unf) : (D.tup t).depth ≤ 9 := by
  obtain ⟨r, mr, m⟩ := List.mem_flatMap.mp mt
  unfold unf1 at m
  obtain ⟨p, mp, e⟩ := List.mem_filterMap.mp m
  obtain ⟨m1, m2⟩ := List.of_mem_zip mp
  rw [Option.map_eq_some_iff] at e
  obtain ⟨vs, e1, rfl⟩ := e
  have d1 : (D.tup (w.rows.map rowD)).depth ≤ 9 := sub_depth o (by simp)
  have d2 : (D.tup (w.heads.map .tup)).depth ≤ 9 := sub_depth o (by simp)
  have dr : (rowD r).depth ≤ 9 := depth_in0 d1 (List.mem_map.mpr ⟨r, mr, rfl⟩)
  have dh : (D.tup p.1).depth ≤ 9 := depth_in0 d2 (List.mem_map.mpr ⟨p.1, m1, rfl⟩)
  have dp : (D.tup r.1).depth ≤ 9 := depth_in0 dr (by simp)
  have dc : (cellD p.2).depth ≤ 9 := depth_in0 (depth_in0 dr (x := .tup (r.2.map cellD)) (by simp)) (List.mem_map.mpr ⟨p.2, m2, rfl⟩)
  rw [e1] at dc
  exact app_depth (app_depth dp dh) dc
theorem unfD_pl {w : WT} (o : w.Fine) : Pl (tabD (w.key ++ w.nam ++ w.val) w.unf) := tab_pl (pl_app (pl_app o.pk o.pn) o.pv) fun t m => unf_pl o m
theorem unfD_depth {w : WT} (o : w.Fine) : (tabD (w.key ++ w.nam ++ w.val) w.unf).depth ≤ 11 :=
  tab_depth (Nat.le_trans (app_depth (app_depth (sub_depth o (by simp)) (sub_depth o (by simp))) (sub_depth o (by simp))) (by omega)) fun t m => unf_depth o m
theorem fine_rows {w : WT} (o : w.Fine) : ({ w with rows := [] } : WT).Fine where
  pl := Pl.tup fun x m => by
    simp only [List.mem_cons, List.not_mem_nil, or_false, List.map_nil] at m
    rcases m with rfl | rfl | rfl | rfl | rfl
    · exact o.pk
    · exact o.pn
    · exact o.pv
    · exact pl_in o.pl (by simp)
    · exact ⟨rfl, rfl⟩
  k := o.k
  n := o.n
  v := o.v
  h := o.h
  r := by simp
  hd := o.hd
  rw := fun r m => nomatch m
  dep := depth_tup (k := 9) fun x m => by
    simp only [List.mem_cons, List.not_mem_nil, or_false, List.map_nil] at m
    rcases m with rfl | rfl | rfl | rfl | rfl
    · exact sub_depth o (by simp)
    · exact sub_depth o (by simp)
    · exact sub_depth o (by simp)
    · exact sub_depth o (by simp)
    · decide
theorem fine_heads {w : WT} (o : w.Fine) : ({ w with heads := [], rows := w.rows.map fun r => (r.1, []) } : WT).Fine where
  pl := Pl.tup fun x m => by
    simp only [List.mem_cons, List.not_mem_nil, or_false, List.map_nil, List.map_map] at m
    rcases m with rfl | rfl | rfl | rfl | rfl
    · exact o.pk
    · exact o.pn
    · exact o.pv
    · exact ⟨rfl, rfl⟩
    · refine Pl.tup fun x m => ?_
      obtain ⟨r, mr, rfl⟩ := List.mem_map.mp m
      refine Pl.tup fun x m => ?_
      simp only [List.mem_cons, List.not_mem_nil, or_false, List.map_nil] at m
      rcases m with rfl | rfl
      · exact o.pp mr
      · exact ⟨rfl, rfl⟩
  k := o.k
  n := o.n
  v := o.v
  h := by simp
  r := by rw [List.length_map]; exact o.r
  hd := fun t m => nomatch m
  rw := fun r m => by
    obtain ⟨r, mr, rfl⟩ := List.mem_map.mp m
    exact ⟨(o.rw r mr).1, rfl, fun vs m => nomatch m⟩
  dep := depth_tup (k := 9) fun x m => by
    simp only [List.mem_cons, List.not_mem_nil, or_false, List.map_nil, List.map_map] at m
    rcases m with rfl | rfl | rfl | rfl | rfl
    · exact sub_depth o (by simp)
    · exact sub_depth o (by simp)
    · exact sub_depth o (by simp)
    · decide
    · have d1 : (D.tup (w.rows.map rowD)).depth ≤ 9 := sub_depth o (by simp)
      refine depth_tup (k := 8) fun x m => ?_
      obtain ⟨r, mr, rfl⟩ := List.mem_map.mp m
      have dr : (rowD r).depth ≤ 8 := depth_in d1 (List.mem_map.mpr ⟨r, mr, rfl⟩)
      refine depth_tup (k := 7) fun x m => ?_
      simp only [List.mem_cons, List.not_mem_nil, or_false, List.map_nil] at m
      rcases m with rfl | rfl
      · exact depth_in dr (by simp)
      · decide
theorem WT.Ok.str {w : WT} (o : w.Ok) (H : DH) : strF H w.d = some (py w.d).shown := str_sh H o.sh o.pl.p (Nat.le_trans o.depth (by omega)) (by omega) fun s e => by cases e
def spSame1 (k : Nat) : Spc := spSame (k + 1)
end Pf

namespace Pf
open PySem PySem.Spec PyProof.Rows L2
def f_law_due : Fn := ⟨1, 6, (.cons (.asg (.name 1) (.lst true .nil)) (.cons (.for_ (.tup (.cons (.name 2) (.cons (.name 3) .nil))) (.seq (.idx (.var 0) (.int 4))) (.cons (.for_ (.tup (.cons (.name 4) (.cons (.name 5) .nil))) (.enum (.idx (.var 0) (.int 3))) (.cons (.ite (.cmp .isnot (.idx (.var 3) (.var 4)) .non) (.cons (.expr (.meth .append (.var 1) (.cons (.bf .tuple false (.cons (.bin .add (.bin .add (.bf .list false (.cons (.var 2) .nil)) (.bf .list false (.cons (.var 5) .nil))) (.bf .list false (.cons (.idx (.var 3) (.var 4)) .nil))) .nil)) .nil))) .nil) .nil) .nil)) .nil)) (.cons (.ret (.tup (.cons (.bin .add (.bin .add (.idx (.var 0) (.int 0)) (.idx (.var 0) (.int 1))) (.idx (.var 0) (.int 2))) (.cons (.bf .tuple false (.cons (.var 1) .nil)) .nil)))) .nil)))⟩
/-- a row's cells from the j-th on -/
def unfE (cs : List (Option (List D))) (part : List D) (ps : List (List D × Nat)) : List (List D) := ps.filterMap fun p => (cs[p.2]?).join.map fun vs => part ++ p.1 ++ vs
theorem unfE_eq (cs : List (Option (List D))) (part : List D) : ∀ (hs : List (List D)) (j : Nat), unfE cs part (hs.zipIdx j) = (hs.zip (cs.drop j)).filterMap fun p => p.2.map fun vs => part ++ p.1 ++ vs
  | [], j => rfl
  | hd :: hs, j => by
    unfold unfE
    rw [List.zipIdx_cons, List.filterMap_cons]
    have ih := unfE_eq cs part hs (j + 1)
    unfold unfE at ih
    rw [ih]
    by_cases hj : j < cs.length
    · rw [List.drop_eq_getElem_cons hj, List.zip_cons_cons, List.filterMap_cons]
      simp only [List.getElem?_eq_getElem hj, Option.join_some]
    · rw [List.drop_eq_nil_of_le (by omega), List.drop_eq_nil_of_le (by omega)]
      simp only [List.getElem?_eq_none (by omega : cs.length ≤ j), Option.join_none, Option.map_none]
      simp
theorem i_due12 {Φ : Fs} : Impl Φ f_law_due spUnfolded := by
  rintro ds h Q ⟨w, rfl, o, q⟩
  refine ⟨rfl, start_vb ?_⟩
  refine soneW ?_; try simp only [EVs, Ts.len, List.getElem?_cons_zero, List.getElem?_cons_succ, List.set_cons_zero, List.set_cons_succ, Option.some.injEq, D.int.injEq, D.bl.injEq, D.str.injEq, D.tup.injEq, D.lst.injEq, D.ref.injEq, exists_eq_left, exists_eq_left', true_and, and_true, if_true, if_false, Bool.false_eq_true, Bool.true_eq_false, reduceCtorEq, List.length_cons, List.length_nil, Option.map_some, List.any_cons, List.any_nil, Bool.or_false, isTy, decide_true, decide_false, Bool.and_true, Bool.and_false, Bool.or_true, Bool.true_or, Bool.false_or, Bool.false_and, Bool.true_and, Bool.not_true, Bool.not_false, startD, List.map_cons, List.map_nil, List.cons_append, List.nil_append, List.replicate_zero, List.replicate_succ, Nat.reduceSub, Nat.reduceAdd, Option.isSome_some, wipeD, false_and, and_false, exists_false, false_or, or_false, gt_iff_lt, ge_iff_le, Option.bind_some, decide_eq_true_eq, Nat.reduceLeDiff, Nat.zero_le, Int.reduceLE, Int.reduceLT, Nat.reducePow, Int.reducePow, Int.reduceNeg, Int.reduceToNat, Int.reduceSub, Int.reduceMul, Int.reduceAdd, or_true, true_or, Nat.reduceLT, and_self, Int.reduceEq, Nat.reduceEqDiff, exists_and_left, HBs, Ob.lst.injEq, f_law_due, WT.d]
  refine soneW ?_; try simp only [EVs, Ts.len, List.getElem?_cons_zero, List.getElem?_cons_succ, List.set_cons_zero, List.set_cons_succ, Option.some.injEq, D.int.injEq, D.bl.injEq, D.str.injEq, D.tup.injEq, D.lst.injEq, D.ref.injEq, exists_eq_left, exists_eq_left', true_and, and_true, if_true, if_false, Bool.false_eq_true, Bool.true_eq_false, reduceCtorEq, List.length_cons, List.length_nil, Option.map_some, List.any_cons, List.any_nil, Bool.or_false, isTy, decide_true, decide_false, Bool.and_true, Bool.and_false, Bool.or_true, Bool.true_or, Bool.false_or, Bool.false_and, Bool.true_and, Bool.not_true, Bool.not_false, startD, List.map_cons, List.map_nil, List.cons_append, List.nil_append, List.replicate_zero, List.replicate_succ, Nat.reduceSub, Nat.reduceAdd, Option.isSome_some, wipeD, false_and, and_false, exists_false, false_or, or_false, gt_iff_lt, ge_iff_le, Option.bind_some, decide_eq_true_eq, Nat.reduceLeDiff, Nat.zero_le, Int.reduceLE, Int.reduceLT, Nat.reducePow, Int.reducePow, Int.reduceNeg, Int.reduceToNat, Int.reduceSub, Int.reduceMul, Int.reduceAdd, or_true, true_or, Nat.reduceLT, and_self, Int.reduceEq, Nat.reduceEqDiff, exists_and_left, HBs, Ob.lst.injEq]
  refine forL_map rowD (fun rest σ h' => (∃ z2_0 z2_1 z2_2 z2_3 : Option D, σ = [some (w.d), some (.ref (lc h 0)), z2_0, z2_1, z2_2, z2_3]) ∧ ∃ acc : List (List D), h' = vb h [.lst (acc.map .tup)] ∧ acc ++ rest.flatMap (unf1 w.heads) = w.unf ∧ (∀ r ∈ rest, r ∈ w.rows) ∧ acc.length + 100 * rest.length ≤ 10000) (fun r rest σ h' => ?_) (fun σ h' => ?_) _ _ _
    ⟨⟨_, _, _, _, rfl⟩, [], rfl, rfl, fun r m => m, by have := o.r; simp; omega⟩
  · rintro ⟨⟨_, _, _, _, rfl⟩, acc, rfl, ha, hr, hl⟩
    rw [List.length_cons] at hl
    have mr := hr r List.mem_cons_self
    obtain ⟨r1, r2, r3⟩ := o.rw r mr
    have lh := o.h
    refine ⟨trivial, fun K krt knx kct kbk => ?_⟩
    try simp only [EVs, Ts.len, List.getElem?_cons_zero, List.getElem?_cons_succ, List.set_cons_zero, List.set_cons_succ, Option.some.injEq, D.int.injEq, D.bl.injEq, D.str.injEq, D.tup.injEq, D.lst.injEq, D.ref.injEq, exists_eq_left, exists_eq_left', true_and, and_true, if_true, if_false, Bool.false_eq_true, Bool.true_eq_false, reduceCtorEq, List.length_cons, List.length_nil, Option.map_some, List.any_cons, List.any_nil, Bool.or_false, isTy, decide_true, decide_false, Bool.and_true, Bool.and_false, Bool.or_true, Bool.true_or, Bool.false_or, Bool.false_and, Bool.true_and, Bool.not_true, Bool.not_false, startD, List.map_cons, List.map_nil, List.cons_append, List.nil_append, List.replicate_zero, List.replicate_succ, Nat.reduceSub, Nat.reduceAdd, Option.isSome_some, wipeD, false_and, and_false, exists_false, false_or, or_false, gt_iff_lt, ge_iff_le, Option.bind_some, decide_eq_true_eq, Nat.reduceLeDiff, Nat.zero_le, Int.reduceLE, Int.reduceLT, Nat.reducePow, Int.reducePow, Int.reduceNeg, Int.reduceToNat, Int.reduceSub, Int.reduceMul, Int.reduceAdd, or_true, true_or, Nat.reduceLT, and_self, Int.reduceEq, Nat.reduceEqDiff, exists_and_left, HBs, Ob.lst.injEq, rowD]
    refine soneW ?_; try simp only [EVs, Ts.len, List.getElem?_cons_zero, List.getElem?_cons_succ, List.set_cons_zero, List.set_cons_succ, Option.some.injEq, D.int.injEq, D.bl.injEq, D.str.injEq, D.tup.injEq, D.lst.injEq, D.ref.injEq, exists_eq_left, exists_eq_left', true_and, and_true, if_true, if_false, Bool.false_eq_true, Bool.true_eq_false, reduceCtorEq, List.length_cons, List.length_nil, Option.map_some, List.any_cons, List.any_nil, Bool.or_false, isTy, decide_true, decide_false, Bool.and_true, Bool.and_false, Bool.or_true, Bool.true_or, Bool.false_or, Bool.false_and, Bool.true_and, Bool.not_true, Bool.not_false, startD, List.map_cons, List.map_nil, List.cons_append, List.nil_append, List.replicate_zero, List.replicate_succ, Nat.reduceSub, Nat.reduceAdd, Option.isSome_some, wipeD, false_and, and_false, exists_false, false_or, or_false, gt_iff_lt, ge_iff_le, Option.bind_some, decide_eq_true_eq, Nat.reduceLeDiff, Nat.zero_le, Int.reduceLE, Int.reduceLT, Nat.reducePow, Int.reducePow, Int.reduceNeg, Int.reduceToNat, Int.reduceSub, Int.reduceMul, Int.reduceAdd, or_true, true_or, Nat.reduceLT, and_self, Int.reduceEq, Nat.reduceEqDiff, exists_and_left, HBs, Ob.lst.injEq, WT.d]
    rw [enumL_map]
    refine forL_map (fun p : List D × Nat => .tup [.int (p.2 : Nat), .tup p.1]) (fun rest2 σ h' => (∃ z4_0 z4_1 : Option D, σ = [some (w.d), some (.ref (lc h 0)), some (.tup r.1), some (.tup (r.2.map cellD)), z4_0, z4_1]) ∧ ∃ acc2 : List (List D), h' = vb h [.lst (acc2.map .tup)] ∧ acc2 ++ unfE r.2 r.1 rest2 = acc ++ unf1 w.heads r ∧ (∀ p ∈ rest2, p.2 < r.2.length ∧ p.1.length ≤ 100) ∧ acc2.length + rest2.length ≤ acc.length + w.heads.length) (fun p rest2 σ h' => ?_) (fun σ h' => ?_) _ _ _
      ⟨⟨_, _, rfl⟩, acc, rfl, by rw [unfE_eq]; rfl, fun p m => ?_, by rw [List.length_zipIdx]; omega⟩
    · rintro ⟨⟨_, _, rfl⟩, acc2, rfl, hb, hp, hl2⟩
      rw [List.length_cons] at hl2
      obtain ⟨hp1, hp2⟩ := hp p List.mem_cons_self
      refine ⟨rfl, fun K2 krt2 knx2 kct2 kbk2 => ?_⟩
      obtain ⟨hd, k⟩ := p
      have hk : k < r.2.length := hp1
      have ec : atO (r.2.map cellD) (k : Int) = some (cellD r.2[k]) := by
        rw [atO_nat (by omega) (by rw [List.length_map]; omega)]
        simp
      try simp only [EVs, Ts.len, List.getElem?_cons_zero, List.getElem?_cons_succ, List.set_cons_zero, List.set_cons_succ, Option.some.injEq, D.int.injEq, D.bl.injEq, D.str.injEq, D.tup.injEq, D.lst.injEq, D.ref.injEq, exists_eq_left, exists_eq_left', true_and, and_true, if_true, if_false, Bool.false_eq_true, Bool.true_eq_false, reduceCtorEq, List.length_cons, List.length_nil, Option.map_some, List.any_cons, List.any_nil, Bool.or_false, isTy, decide_true, decide_false, Bool.and_true, Bool.and_false, Bool.or_true, Bool.true_or, Bool.false_or, Bool.false_and, Bool.true_and, Bool.not_true, Bool.not_false, startD, List.map_cons, List.map_nil, List.cons_append, List.nil_append, List.replicate_zero, List.replicate_succ, Nat.reduceSub, Nat.reduceAdd, Option.isSome_some, wipeD, false_and, and_false, exists_false, false_or, or_false, gt_iff_lt, ge_iff_le, Option.bind_some, decide_eq_true_eq, Nat.reduceLeDiff, Nat.zero_le, Int.reduceLE, Int.reduceLT, Nat.reducePow, Int.reducePow, Int.reduceNeg, Int.reduceToNat, Int.reduceSub, Int.reduceMul, Int.reduceAdd, or_true, true_or, Nat.reduceLT, and_self, Int.reduceEq, Nat.reduceEqDiff, exists_and_left, HBs, Ob.lst.injEq]
      refine soneW ?_; try simp only [EVs, Ts.len, List.getElem?_cons_zero, List.getElem?_cons_succ, List.set_cons_zero, List.set_cons_succ, Option.some.injEq, D.int.injEq, D.bl.injEq, D.str.injEq, D.tup.injEq, D.lst.injEq, D.ref.injEq, exists_eq_left, exists_eq_left', true_and, and_true, if_true, if_false, Bool.false_eq_true, Bool.true_eq_false, reduceCtorEq, List.length_cons, List.length_nil, Option.map_some, List.any_cons, List.any_nil, Bool.or_false, isTy, decide_true, decide_false, Bool.and_true, Bool.and_false, Bool.or_true, Bool.true_or, Bool.false_or, Bool.false_and, Bool.true_and, Bool.not_true, Bool.not_false, startD, List.map_cons, List.map_nil, List.cons_append, List.nil_append, List.replicate_zero, List.replicate_succ, Nat.reduceSub, Nat.reduceAdd, Option.isSome_some, wipeD, false_and, and_false, exists_false, false_or, or_false, gt_iff_lt, ge_iff_le, Option.bind_some, decide_eq_true_eq, Nat.reduceLeDiff, Nat.zero_le, Int.reduceLE, Int.reduceLT, Nat.reducePow, Int.reducePow, Int.reduceNeg, Int.reduceToNat, Int.reduceSub, Int.reduceMul, Int.reduceAdd, or_true, true_or, Nat.reduceLT, and_self, Int.reduceEq, Nat.reduceEqDiff, exists_and_left, HBs, Ob.lst.injEq, ec]
      have hrest : ∀ p ∈ rest2, p.2 < r.2.length ∧ p.1.length ≤ 100 := fun p m => hp p (List.mem_cons_of_mem _ m)
      have hcell := List.getElem_mem hk
      have hjn : (r.2[k]?).join = r.2[k] := by rw [List.getElem?_eq_getElem hk]; rfl
      unfold unfE at hb
      rw [List.filterMap_cons] at hb
      simp only [hjn] at hb
      cases hc : r.2[k] with
      | none =>
        rw [hc] at hb
        try simp only [EVs, Ts.len, List.getElem?_cons_zero, List.getElem?_cons_succ, List.set_cons_zero, List.set_cons_succ, Option.some.injEq, D.int.injEq, D.bl.injEq, D.str.injEq, D.tup.injEq, D.lst.injEq, D.ref.injEq, exists_eq_left, exists_eq_left', true_and, and_true, if_true, if_false, Bool.false_eq_true, Bool.true_eq_false, reduceCtorEq, List.length_cons, List.length_nil, Option.map_some, List.any_cons, List.any_nil, Bool.or_false, isTy, decide_true, decide_false, Bool.and_true, Bool.and_false, Bool.or_true, Bool.true_or, Bool.false_or, Bool.false_and, Bool.true_and, Bool.not_true, Bool.not_false, startD, List.map_cons, List.map_nil, List.cons_append, List.nil_append, List.replicate_zero, List.replicate_succ, Nat.reduceSub, Nat.reduceAdd, Option.isSome_some, wipeD, false_and, and_false, exists_false, false_or, or_false, gt_iff_lt, ge_iff_le, Option.bind_some, decide_eq_true_eq, Nat.reduceLeDiff, Nat.zero_le, Int.reduceLE, Int.reduceLT, Nat.reducePow, Int.reducePow, Int.reduceNeg, Int.reduceToNat, Int.reduceSub, Int.reduceMul, Int.reduceAdd, or_true, true_or, Nat.reduceLT, and_self, Int.reduceEq, Nat.reduceEqDiff, exists_and_left, HBs, Ob.lst.injEq, cellD]
        refine snil (Φ := Φ) (xq := NX) ?_; refine snil (Φ := Φ) (xq := NX) ?_
        exact knx2 _ _ ⟨⟨_, _, rfl⟩, acc2, rfl, hb, hrest, by omega⟩
      | some vs =>
        rw [hc] at hb hcell
        have l2 := r3 _ hcell
        have l1 : hd.length ≤ 100 := hp2
        try simp only [EVs, Ts.len, List.getElem?_cons_zero, List.getElem?_cons_succ, List.set_cons_zero, List.set_cons_succ, Option.some.injEq, D.int.injEq, D.bl.injEq, D.str.injEq, D.tup.injEq, D.lst.injEq, D.ref.injEq, exists_eq_left, exists_eq_left', true_and, and_true, if_true, if_false, Bool.false_eq_true, Bool.true_eq_false, reduceCtorEq, List.length_cons, List.length_nil, Option.map_some, List.any_cons, List.any_nil, Bool.or_false, isTy, decide_true, decide_false, Bool.and_true, Bool.and_false, Bool.or_true, Bool.true_or, Bool.false_or, Bool.false_and, Bool.true_and, Bool.not_true, Bool.not_false, startD, List.map_cons, List.map_nil, List.cons_append, List.nil_append, List.replicate_zero, List.replicate_succ, Nat.reduceSub, Nat.reduceAdd, Option.isSome_some, wipeD, false_and, and_false, exists_false, false_or, or_false, gt_iff_lt, ge_iff_le, Option.bind_some, decide_eq_true_eq, Nat.reduceLeDiff, Nat.zero_le, Int.reduceLE, Int.reduceLT, Nat.reducePow, Int.reducePow, Int.reduceNeg, Int.reduceToNat, Int.reduceSub, Int.reduceMul, Int.reduceAdd, or_true, true_or, Nat.reduceLT, and_self, Int.reduceEq, Nat.reduceEqDiff, exists_and_left, HBs, Ob.lst.injEq, cellD]
        refine soneW ?_; try simp only [EVs, Ts.len, List.getElem?_cons_zero, List.getElem?_cons_succ, List.set_cons_zero, List.set_cons_succ, Option.some.injEq, D.int.injEq, D.bl.injEq, D.str.injEq, D.tup.injEq, D.lst.injEq, D.ref.injEq, exists_eq_left, exists_eq_left', true_and, and_true, if_true, if_false, Bool.false_eq_true, Bool.true_eq_false, reduceCtorEq, List.length_cons, List.length_nil, Option.map_some, List.any_cons, List.any_nil, Bool.or_false, isTy, decide_true, decide_false, Bool.and_true, Bool.and_false, Bool.or_true, Bool.true_or, Bool.false_or, Bool.false_and, Bool.true_and, Bool.not_true, Bool.not_false, startD, List.map_cons, List.map_nil, List.cons_append, List.nil_append, List.replicate_zero, List.replicate_succ, Nat.reduceSub, Nat.reduceAdd, Option.isSome_some, wipeD, false_and, and_false, exists_false, false_or, or_false, gt_iff_lt, ge_iff_le, Option.bind_some, decide_eq_true_eq, Nat.reduceLeDiff, Nat.zero_le, Int.reduceLE, Int.reduceLT, Nat.reducePow, Int.reducePow, Int.reduceNeg, Int.reduceToNat, Int.reduceSub, Int.reduceMul, Int.reduceAdd, or_true, true_or, Nat.reduceLT, and_self, Int.reduceEq, Nat.reduceEqDiff, exists_and_left, HBs, Ob.lst.injEq, ec, hc, cellD]
        refine ⟨by omega, by rw [List.length_append]; omega, by rw [List.length_map]; omega, ?_⟩
        refine snil (Φ := Φ) (xq := NX) ?_; refine snil (Φ := Φ) (xq := NX) ?_
        refine knx2 _ _ ⟨⟨_, _, rfl⟩, acc2 ++ [r.1 ++ hd ++ vs], by rw [List.map_append]; rfl, ?_, hrest, by rw [List.length_append]; simp; omega⟩
        rw [List.append_assoc]; exact hb
    · rintro ⟨⟨_, _, rfl⟩, acc2, rfl, hb, hp, hl2⟩
      have hb : acc2 ++ [] = acc ++ unf1 w.heads r := hb
      rw [List.append_nil] at hb
      refine ⟨rfl, ?_⟩
      refine snil (Φ := Φ) (xq := NX) ?_
      refine knx _ _ ⟨⟨_, _, _, _, rfl⟩, acc2, rfl, ?_, fun r m => hr r (List.mem_cons_of_mem _ m), by simp at hl2; omega⟩
      rw [hb, ← ha, List.flatMap_cons, List.append_assoc]
    · obtain ⟨i, hi⟩ := List.mem_iff_getElem?.mp m
      obtain ⟨a, b, c⟩ := List.mem_zipIdx m
      refine ⟨by rw [r2]; omega, ?_⟩
      rw [c]
      exact o.hd _ (List.getElem_mem _)
  · rintro ⟨⟨_, _, _, _, rfl⟩, acc, rfl, ha, hr, hl⟩
    rw [List.flatMap_nil, List.append_nil] at ha
    refine ⟨trivial, ?_⟩
    have lk := o.k
    have ln := o.n
    have lv := o.v
    refine soneW ?_; try simp only [EVs, Ts.len, List.getElem?_cons_zero, List.getElem?_cons_succ, List.set_cons_zero, List.set_cons_succ, Option.some.injEq, D.int.injEq, D.bl.injEq, D.str.injEq, D.tup.injEq, D.lst.injEq, D.ref.injEq, exists_eq_left, exists_eq_left', true_and, and_true, if_true, if_false, Bool.false_eq_true, Bool.true_eq_false, reduceCtorEq, List.length_cons, List.length_nil, Option.map_some, List.any_cons, List.any_nil, Bool.or_false, isTy, decide_true, decide_false, Bool.and_true, Bool.and_false, Bool.or_true, Bool.true_or, Bool.false_or, Bool.false_and, Bool.true_and, Bool.not_true, Bool.not_false, startD, List.map_cons, List.map_nil, List.cons_append, List.nil_append, List.replicate_zero, List.replicate_succ, Nat.reduceSub, Nat.reduceAdd, Option.isSome_some, wipeD, false_and, and_false, exists_false, false_or, or_false, gt_iff_lt, ge_iff_le, Option.bind_some, decide_eq_true_eq, Nat.reduceLeDiff, Nat.zero_le, Int.reduceLE, Int.reduceLT, Nat.reducePow, Int.reducePow, Int.reduceNeg, Int.reduceToNat, Int.reduceSub, Int.reduceMul, Int.reduceAdd, or_true, true_or, Nat.reduceLT, and_self, Int.reduceEq, Nat.reduceEqDiff, exists_and_left, HBs, Ob.lst.injEq, WT.d]
    refine ⟨by omega, by rw [List.length_append]; omega, ?_⟩
    have pt := tab_pl (pl_app (pl_app o.pk o.pn) o.pv) fun t m => unf_pl o m
    subst ha
    exact fz_vpure pt.p q
def f_law : Fn := ⟨1, 8, (.cons (.for_ (.name 1) (.rng1 (.int 7)) (.cons (.asg (.name 2) (.call "_law_wide" (.cons (.call "_law_box" (.cons (.var 0) (.cons (.var 1) .nil))) (.cons (.bl false) .nil)))) (.cons (.asg (.name 3) (.bf .str false (.cons (.var 2) .nil))) (.cons (.for_ (.name 4) (.seq (.tup (.cons (.var 2) (.cons (.bin .add (.sli false (.var 2) .non (.int 4)) (.tup (.cons (.tup .nil) .nil))) (.cons (.bin .add (.sli false (.var 2) .non (.int 3)) (.tup (.cons (.tup .nil) (.cons (.bf .tuple false (.cons (.comp false [6, 7] (.tup (.cons (.name 6) (.cons (.name 7) .nil))) (.seq (.idx (.var 2) (.int 4))) .nil (.tup (.cons (.var 6) (.cons (.tup .nil) .nil)))) .nil)) .nil)))) .nil))))) (.cons (.asg (.name 5) (.call "_law_due" (.cons (.var 4) .nil))) (.cons (.ite (.or (.not (.call "_law_same" (.cons (.call "unfolded" (.cons (.var 4) .nil)) (.cons (.var 5) .nil)))) (.or (.cmp .ne (.call "unfolded" (.cons (.var 4) .nil)) (.var 5)) (.cmp .ne (.bf .str false (.cons (.var 2) .nil)) (.var 3)))) (.cons (.ret (.bl false)) .nil) .nil) .nil))) .nil)))) (.cons (.ret (.bl true)) .nil))⟩
theorem i_law12 {Φ : Fs} (eb : Φ.fn "_law_box" = spBox) (ew : Φ.fn "_law_wide" = spWide) (ed : Φ.fn "_law_due" = spUnfolded) (eu : Φ.fn "unfolded" = spUnfolded) (es : Φ.fn "_law_same" = spSame 60) : Impl Φ f_law spLaw := by
  rintro ds h Q ⟨ns, rfl, rfl, hl, q⟩
  refine ⟨rfl, ?_⟩
  refine soneW ?_; try simp only [EVs, Ts.len, List.getElem?_cons_zero, List.getElem?_cons_succ, List.set_cons_zero, List.set_cons_succ, Option.some.injEq, D.int.injEq, D.bl.injEq, D.str.injEq, D.tup.injEq, D.lst.injEq, D.ref.injEq, exists_eq_left, exists_eq_left', true_and, and_true, if_true, if_false, Bool.false_eq_true, Bool.true_eq_false, reduceCtorEq, List.length_cons, List.length_nil, Option.map_some, List.any_cons, List.any_nil, Bool.or_false, isTy, decide_true, decide_false, Bool.and_true, Bool.and_false, Bool.or_true, Bool.true_or, Bool.false_or, Bool.false_and, Bool.true_and, Bool.not_true, Bool.not_false, startD, List.map_cons, List.map_nil, List.cons_append, List.nil_append, List.replicate_zero, List.replicate_succ, Nat.reduceSub, Nat.reduceAdd, Option.isSome_some, wipeD, false_and, and_false, exists_false, false_or, or_false, gt_iff_lt, ge_iff_le, Option.bind_some, decide_eq_true_eq, Nat.reduceLeDiff, Nat.zero_le, Int.reduceLE, Int.reduceLT, Nat.reducePow, Int.reducePow, Int.reduceNeg, Int.reduceToNat, Int.reduceSub, Int.reduceMul, Int.reduceAdd, or_true, true_or, Nat.reduceLT, and_self, Int.reduceEq, Nat.reduceEqDiff, exists_and_left, HBs, Ob.lst.injEq, f_law]
  refine forL_inv (fun rest σ h' => (∃ z1_0 z1_1 z1_2 z1_3 z1_4 z1_5 z1_6 : Option D, σ = [some (.scr (ns.map .int)), z1_0, z1_1, z1_2, z1_3, z1_4, z1_5, z1_6]) ∧ ∀ x ∈ rest, ∃ i : Int, x = .int i ∧ 0 ≤ i ∧ i ≤ 1000000) (fun x rest σ h' => ?_) (fun σ h' => ?_) _ _ _ ⟨⟨_, _, _, _, _, _, _, rfl⟩, fun x m => ?_⟩
  · rintro ⟨⟨_, _, _, _, _, _, _, rfl⟩, hx⟩
    refine ⟨trivial, fun K krt knx _ _ => ?_⟩
    obtain ⟨i, rfl, i0, i1⟩ := hx x List.mem_cons_self
    rw [vb_in (h := h')]
    try simp only [EVs, Ts.len, List.getElem?_cons_zero, List.getElem?_cons_succ, List.set_cons_zero, List.set_cons_succ, Option.some.injEq, D.int.injEq, D.bl.injEq, D.str.injEq, D.tup.injEq, D.lst.injEq, D.ref.injEq, exists_eq_left, exists_eq_left', true_and, and_true, if_true, if_false, Bool.false_eq_true, Bool.true_eq_false, reduceCtorEq, List.length_cons, List.length_nil, Option.map_some, List.any_cons, List.any_nil, Bool.or_false, isTy, decide_true, decide_false, Bool.and_true, Bool.and_false, Bool.or_true, Bool.true_or, Bool.false_or, Bool.false_and, Bool.true_and, Bool.not_true, Bool.not_false, startD, List.map_cons, List.map_nil, List.cons_append, List.nil_append, List.replicate_zero, List.replicate_succ, Nat.reduceSub, Nat.reduceAdd, Option.isSome_some, wipeD, false_and, and_false, exists_false, false_or, or_false, gt_iff_lt, ge_iff_le, Option.bind_some, decide_eq_true_eq, Nat.reduceLeDiff, Nat.zero_le, Int.reduceLE, Int.reduceLT, Nat.reducePow, Int.reducePow, Int.reduceNeg, Int.reduceToNat, Int.reduceSub, Int.reduceMul, Int.reduceAdd, or_true, true_or, Nat.reduceLT, and_self, Int.reduceEq, Nat.reduceEqDiff, exists_and_left, HBs, Ob.lst.injEq]
    refine soneW ?_; try simp only [EVs, Ts.len, List.getElem?_cons_zero, List.getElem?_cons_succ, List.set_cons_zero, List.set_cons_succ, Option.some.injEq, D.int.injEq, D.bl.injEq, D.str.injEq, D.tup.injEq, D.lst.injEq, D.ref.injEq, exists_eq_left, exists_eq_left', true_and, and_true, if_true, if_false, Bool.false_eq_true, Bool.true_eq_false, reduceCtorEq, List.length_cons, List.length_nil, Option.map_some, List.any_cons, List.any_nil, Bool.or_false, isTy, decide_true, decide_false, Bool.and_true, Bool.and_false, Bool.or_true, Bool.true_or, Bool.false_or, Bool.false_and, Bool.true_and, Bool.not_true, Bool.not_false, startD, List.map_cons, List.map_nil, List.cons_append, List.nil_append, List.replicate_zero, List.replicate_succ, Nat.reduceSub, Nat.reduceAdd, Option.isSome_some, wipeD, false_and, and_false, exists_false, false_or, or_false, gt_iff_lt, ge_iff_le, Option.bind_some, decide_eq_true_eq, Nat.reduceLeDiff, Nat.zero_le, Int.reduceLE, Int.reduceLT, Nat.reducePow, Int.reducePow, Int.reduceNeg, Int.reduceToNat, Int.reduceSub, Int.reduceMul, Int.reduceAdd, or_true, true_or, Nat.reduceLT, and_self, Int.reduceEq, Nat.reduceEqDiff, exists_and_left, HBs, Ob.lst.injEq, eb]
    refine box_ok i0 i1 fun xs hb => ?_
    try simp only [EVs, Ts.len, List.getElem?_cons_zero, List.getElem?_cons_succ, List.set_cons_zero, List.set_cons_succ, Option.some.injEq, D.int.injEq, D.bl.injEq, D.str.injEq, D.tup.injEq, D.lst.injEq, D.ref.injEq, exists_eq_left, exists_eq_left', true_and, and_true, if_true, if_false, Bool.false_eq_true, Bool.true_eq_false, reduceCtorEq, List.length_cons, List.length_nil, Option.map_some, List.any_cons, List.any_nil, Bool.or_false, isTy, decide_true, decide_false, Bool.and_true, Bool.and_false, Bool.or_true, Bool.true_or, Bool.false_or, Bool.false_and, Bool.true_and, Bool.not_true, Bool.not_false, startD, List.map_cons, List.map_nil, List.cons_append, List.nil_append, List.replicate_zero, List.replicate_succ, Nat.reduceSub, Nat.reduceAdd, Option.isSome_some, wipeD, false_and, and_false, exists_false, false_or, or_false, gt_iff_lt, ge_iff_le, Option.bind_some, decide_eq_true_eq, Nat.reduceLeDiff, Nat.zero_le, Int.reduceLE, Int.reduceLT, Nat.reducePow, Int.reducePow, Int.reduceNeg, Int.reduceToNat, Int.reduceSub, Int.reduceMul, Int.reduceAdd, or_true, true_or, Nat.reduceLT, and_self, Int.reduceEq, Nat.reduceEqDiff, exists_and_left, HBs, Ob.lst.injEq, ew]
    refine wide_ok hb (by try simp only [EVs, Ts.len, List.getElem?_cons_zero, List.getElem?_cons_succ, List.set_cons_zero, List.set_cons_succ, Option.some.injEq, D.int.injEq, D.bl.injEq, D.str.injEq, D.tup.injEq, D.lst.injEq, D.ref.injEq, exists_eq_left, exists_eq_left', true_and, and_true, if_true, if_false, Bool.false_eq_true, Bool.true_eq_false, reduceCtorEq, List.length_cons, List.length_nil, Option.map_some, List.any_cons, List.any_nil, Bool.or_false, isTy, decide_true, decide_false, Bool.and_true, Bool.and_false, Bool.or_true, Bool.true_or, Bool.false_or, Bool.false_and, Bool.true_and, Bool.not_true, Bool.not_false, startD, List.map_cons, List.map_nil, List.cons_append, List.nil_append, List.replicate_zero, List.replicate_succ, Nat.reduceSub, Nat.reduceAdd, Option.isSome_some, wipeD, false_and, and_false, exists_false, false_or, or_false, gt_iff_lt, ge_iff_le, Option.bind_some, decide_eq_true_eq, Nat.reduceLeDiff, Nat.zero_le, Int.reduceLE, Int.reduceLT, Nat.reducePow, Int.reducePow, Int.reduceNeg, Int.reduceToNat, Int.reduceSub, Int.reduceMul, Int.reduceAdd, or_true, true_or, Nat.reduceLT, and_self, Int.reduceEq, Nat.reduceEqDiff, exists_and_left, HBs, Ob.lst.injEq]) (by omega) fun w us o _ hb => ?_
    have hs := o.str
    have of := o.fine
    try simp only [EVs, Ts.len, List.getElem?_cons_zero, List.getElem?_cons_succ, List.set_cons_zero, List.set_cons_succ, Option.some.injEq, D.int.injEq, D.bl.injEq, D.str.injEq, D.tup.injEq, D.lst.injEq, D.ref.injEq, exists_eq_left, exists_eq_left', true_and, and_true, if_true, if_false, Bool.false_eq_true, Bool.true_eq_false, reduceCtorEq, List.length_cons, List.length_nil, Option.map_some, List.any_cons, List.any_nil, Bool.or_false, isTy, decide_true, decide_false, Bool.and_true, Bool.and_false, Bool.or_true, Bool.true_or, Bool.false_or, Bool.false_and, Bool.true_and, Bool.not_true, Bool.not_false, startD, List.map_cons, List.map_nil, List.cons_append, List.nil_append, List.replicate_zero, List.replicate_succ, Nat.reduceSub, Nat.reduceAdd, Option.isSome_some, wipeD, false_and, and_false, exists_false, false_or, or_false, gt_iff_lt, ge_iff_le, Option.bind_some, decide_eq_true_eq, Nat.reduceLeDiff, Nat.zero_le, Int.reduceLE, Int.reduceLT, Nat.reducePow, Int.reducePow, Int.reduceNeg, Int.reduceToNat, Int.reduceSub, Int.reduceMul, Int.reduceAdd, or_true, true_or, Nat.reduceLT, and_self, Int.reduceEq, Nat.reduceEqDiff, exists_and_left, HBs, Ob.lst.injEq]
    refine soneW ?_; try simp only [EVs, Ts.len, List.getElem?_cons_zero, List.getElem?_cons_succ, List.set_cons_zero, List.set_cons_succ, Option.some.injEq, D.int.injEq, D.bl.injEq, D.str.injEq, D.tup.injEq, D.lst.injEq, D.ref.injEq, exists_eq_left, exists_eq_left', true_and, and_true, if_true, if_false, Bool.false_eq_true, Bool.true_eq_false, reduceCtorEq, List.length_cons, List.length_nil, Option.map_some, List.any_cons, List.any_nil, Bool.or_false, isTy, decide_true, decide_false, Bool.and_true, Bool.and_false, Bool.or_true, Bool.true_or, Bool.false_or, Bool.false_and, Bool.true_and, Bool.not_true, Bool.not_false, startD, List.map_cons, List.map_nil, List.cons_append, List.nil_append, List.replicate_zero, List.replicate_succ, Nat.reduceSub, Nat.reduceAdd, Option.isSome_some, wipeD, false_and, and_false, exists_false, false_or, or_false, gt_iff_lt, ge_iff_le, Option.bind_some, decide_eq_true_eq, Nat.reduceLeDiff, Nat.zero_le, Int.reduceLE, Int.reduceLT, Nat.reducePow, Int.reducePow, Int.reduceNeg, Int.reduceToNat, Int.reduceSub, Int.reduceMul, Int.reduceAdd, or_true, true_or, Nat.reduceLT, and_self, Int.reduceEq, Nat.reduceEqDiff, exists_and_left, HBs, Ob.lst.injEq, hs]
    refine soneW ?_; try simp only [EVs, Ts.len, List.getElem?_cons_zero, List.getElem?_cons_succ, List.set_cons_zero, List.set_cons_succ, Option.some.injEq, D.int.injEq, D.bl.injEq, D.str.injEq, D.tup.injEq, D.lst.injEq, D.ref.injEq, exists_eq_left, exists_eq_left', true_and, and_true, if_true, if_false, Bool.false_eq_true, Bool.true_eq_false, reduceCtorEq, List.length_cons, List.length_nil, Option.map_some, List.any_cons, List.any_nil, Bool.or_false, isTy, decide_true, decide_false, Bool.and_true, Bool.and_false, Bool.or_true, Bool.true_or, Bool.false_or, Bool.false_and, Bool.true_and, Bool.not_true, Bool.not_false, startD, List.map_cons, List.map_nil, List.cons_append, List.nil_append, List.replicate_zero, List.replicate_succ, Nat.reduceSub, Nat.reduceAdd, Option.isSome_some, wipeD, false_and, and_false, exists_false, false_or, or_false, gt_iff_lt, ge_iff_le, Option.bind_some, decide_eq_true_eq, Nat.reduceLeDiff, Nat.zero_le, Int.reduceLE, Int.reduceLT, Nat.reducePow, Int.reducePow, Int.reduceNeg, Int.reduceToNat, Int.reduceSub, Int.reduceMul, Int.reduceAdd, or_true, true_or, Nat.reduceLT, and_self, Int.reduceEq, Nat.reduceEqDiff, exists_and_left, HBs, Ob.lst.injEq, WT.d, cut5_4, cut5_3]
    refine compL_mp rowD (fun r => rowD (r.1, [])) (st := fun _ => True) trivial (fun r m k hk => ?_) ?_
    · try simp only [EVs, Ts.len, List.getElem?_cons_zero, List.getElem?_cons_succ, List.set_cons_zero, List.set_cons_succ, Option.some.injEq, D.int.injEq, D.bl.injEq, D.str.injEq, D.tup.injEq, D.lst.injEq, D.ref.injEq, exists_eq_left, exists_eq_left', true_and, and_true, if_true, if_false, Bool.false_eq_true, Bool.true_eq_false, reduceCtorEq, List.length_cons, List.length_nil, Option.map_some, List.any_cons, List.any_nil, Bool.or_false, isTy, decide_true, decide_false, Bool.and_true, Bool.and_false, Bool.or_true, Bool.true_or, Bool.false_or, Bool.false_and, Bool.true_and, Bool.not_true, Bool.not_false, startD, List.map_cons, List.map_nil, List.cons_append, List.nil_append, List.replicate_zero, List.replicate_succ, Nat.reduceSub, Nat.reduceAdd, Option.isSome_some, wipeD, false_and, and_false, exists_false, false_or, or_false, gt_iff_lt, ge_iff_le, Option.bind_some, decide_eq_true_eq, Nat.reduceLeDiff, Nat.zero_le, Int.reduceLE, Int.reduceLT, Nat.reducePow, Int.reducePow, Int.reduceNeg, Int.reduceToNat, Int.reduceSub, Int.reduceMul, Int.reduceAdd, or_true, true_or, Nat.reduceLT, and_self, Int.reduceEq, Nat.reduceEqDiff, exists_and_left, HBs, Ob.lst.injEq, rowD]
      exact hk
    have hm : (w.rows.map fun r => rowD (r.1, [])) = (w.rows.map fun r => (r.1, ([] : List (Option (List D))))).map rowD := by rw [List.map_map]; rfl
    rw [hm]
    try simp only [EVs, Ts.len, List.getElem?_cons_zero, List.getElem?_cons_succ, List.set_cons_zero, List.set_cons_succ, Option.some.injEq, D.int.injEq, D.bl.injEq, D.str.injEq, D.tup.injEq, D.lst.injEq, D.ref.injEq, exists_eq_left, exists_eq_left', true_and, and_true, if_true, if_false, Bool.false_eq_true, Bool.true_eq_false, reduceCtorEq, List.length_cons, List.length_nil, Option.map_some, List.any_cons, List.any_nil, Bool.or_false, isTy, decide_true, decide_false, Bool.and_true, Bool.and_false, Bool.or_true, Bool.true_or, Bool.false_or, Bool.false_and, Bool.true_and, Bool.not_true, Bool.not_false, startD, List.map_cons, List.map_nil, List.cons_append, List.nil_append, List.replicate_zero, List.replicate_succ, Nat.reduceSub, Nat.reduceAdd, Option.isSome_some, wipeD, false_and, and_false, exists_false, false_or, or_false, gt_iff_lt, ge_iff_le, Option.bind_some, decide_eq_true_eq, Nat.reduceLeDiff, Nat.zero_le, Int.reduceLE, Int.reduceLT, Nat.reducePow, Int.reducePow, Int.reduceNeg, Int.reduceToNat, Int.reduceSub, Int.reduceMul, Int.reduceAdd, or_true, true_or, Nat.reduceLT, and_self, Int.reduceEq, Nat.reduceEqDiff, exists_and_left, HBs, Ob.lst.injEq]
    refine forL_map WT.d (items := [w, { w with rows := [] }, { w with heads := [], rows := w.rows.map fun r => (r.1, []) }]) (fun rest2 σ h2 => (∃ z4_0 z4_1 z4_2 z4_3 : Option D, σ = [some (.scr (ns.map .int)), some (.int i), some (w.d), some (.str (py w.d).shown), z4_0, z4_1, z4_2, z4_3]) ∧ h2 = vb h' [.lst us] ∧ ∀ v ∈ rest2, v.Fine) (fun v rest2 σ h2 => ?_) (fun σ h2 => ?_) _ _ ⟨⟨_, _, _, _, rfl⟩, rfl, fun v m => ?_⟩
    · rintro ⟨⟨_, _, _, _, rfl⟩, rfl, hv⟩
      have ov := hv v List.mem_cons_self
      refine ⟨trivial, fun K2 _ knx2 _ _ => ?_⟩
      have pd := unfD_pl ov
      have dd := unfD_depth ov
      have eq : ∀ H : DH, eqF H (tabD (v.key ++ v.nam ++ v.val) v.unf) (tabD (v.key ++ v.nam ++ v.val) v.unf) = some true := fun H => eq_same pd.p (by omega)
      try simp only [EVs, Ts.len, List.getElem?_cons_zero, List.getElem?_cons_succ, List.set_cons_zero, List.set_cons_succ, Option.some.injEq, D.int.injEq, D.bl.injEq, D.str.injEq, D.tup.injEq, D.lst.injEq, D.ref.injEq, exists_eq_left, exists_eq_left', true_and, and_true, if_true, if_false, Bool.false_eq_true, Bool.true_eq_false, reduceCtorEq, List.length_cons, List.length_nil, Option.map_some, List.any_cons, List.any_nil, Bool.or_false, isTy, decide_true, decide_false, Bool.and_true, Bool.and_false, Bool.or_true, Bool.true_or, Bool.false_or, Bool.false_and, Bool.true_and, Bool.not_true, Bool.not_false, startD, List.map_cons, List.map_nil, List.cons_append, List.nil_append, List.replicate_zero, List.replicate_succ, Nat.reduceSub, Nat.reduceAdd, Option.isSome_some, wipeD, false_and, and_false, exists_false, false_or, or_false, gt_iff_lt, ge_iff_le, Option.bind_some, decide_eq_true_eq, Nat.reduceLeDiff, Nat.zero_le, Int.reduceLE, Int.reduceLT, Nat.reducePow, Int.reducePow, Int.reduceNeg, Int.reduceToNat, Int.reduceSub, Int.reduceMul, Int.reduceAdd, or_true, true_or, Nat.reduceLT, and_self, Int.reduceEq, Nat.reduceEqDiff, exists_and_left, HBs, Ob.lst.injEq]
      refine soneW ?_; try simp only [EVs, Ts.len, List.getElem?_cons_zero, List.getElem?_cons_succ, List.set_cons_zero, List.set_cons_succ, Option.some.injEq, D.int.injEq, D.bl.injEq, D.str.injEq, D.tup.injEq, D.lst.injEq, D.ref.injEq, exists_eq_left, exists_eq_left', true_and, and_true, if_true, if_false, Bool.false_eq_true, Bool.true_eq_false, reduceCtorEq, List.length_cons, List.length_nil, Option.map_some, List.any_cons, List.any_nil, Bool.or_false, isTy, decide_true, decide_false, Bool.and_true, Bool.and_false, Bool.or_true, Bool.true_or, Bool.false_or, Bool.false_and, Bool.true_and, Bool.not_true, Bool.not_false, startD, List.map_cons, List.map_nil, List.cons_append, List.nil_append, List.replicate_zero, List.replicate_succ, Nat.reduceSub, Nat.reduceAdd, Option.isSome_some, wipeD, false_and, and_false, exists_false, false_or, or_false, gt_iff_lt, ge_iff_le, Option.bind_some, decide_eq_true_eq, Nat.reduceLeDiff, Nat.zero_le, Int.reduceLE, Int.reduceLT, Nat.reducePow, Int.reducePow, Int.reduceNeg, Int.reduceToNat, Int.reduceSub, Int.reduceMul, Int.reduceAdd, or_true, true_or, Nat.reduceLT, and_self, Int.reduceEq, Nat.reduceEqDiff, exists_and_left, HBs, Ob.lst.injEq, ed]
      refine ⟨v, rfl, ov, ?_⟩
      try simp only [EVs, Ts.len, List.getElem?_cons_zero, List.getElem?_cons_succ, List.set_cons_zero, List.set_cons_succ, Option.some.injEq, D.int.injEq, D.bl.injEq, D.str.injEq, D.tup.injEq, D.lst.injEq, D.ref.injEq, exists_eq_left, exists_eq_left', true_and, and_true, if_true, if_false, Bool.false_eq_true, Bool.true_eq_false, reduceCtorEq, List.length_cons, List.length_nil, Option.map_some, List.any_cons, List.any_nil, Bool.or_false, isTy, decide_true, decide_false, Bool.and_true, Bool.and_false, Bool.or_true, Bool.true_or, Bool.false_or, Bool.false_and, Bool.true_and, Bool.not_true, Bool.not_false, startD, List.map_cons, List.map_nil, List.cons_append, List.nil_append, List.replicate_zero, List.replicate_succ, Nat.reduceSub, Nat.reduceAdd, Option.isSome_some, wipeD, false_and, and_false, exists_false, false_or, or_false, gt_iff_lt, ge_iff_le, Option.bind_some, decide_eq_true_eq, Nat.reduceLeDiff, Nat.zero_le, Int.reduceLE, Int.reduceLT, Nat.reducePow, Int.reducePow, Int.reduceNeg, Int.reduceToNat, Int.reduceSub, Int.reduceMul, Int.reduceAdd, or_true, true_or, Nat.reduceLT, and_self, Int.reduceEq, Nat.reduceEqDiff, exists_and_left, HBs, Ob.lst.injEq]
      refine soneW ?_; try simp only [EVs, Ts.len, List.getElem?_cons_zero, List.getElem?_cons_succ, List.set_cons_zero, List.set_cons_succ, Option.some.injEq, D.int.injEq, D.bl.injEq, D.str.injEq, D.tup.injEq, D.lst.injEq, D.ref.injEq, exists_eq_left, exists_eq_left', true_and, and_true, if_true, if_false, Bool.false_eq_true, Bool.true_eq_false, reduceCtorEq, List.length_cons, List.length_nil, Option.map_some, List.any_cons, List.any_nil, Bool.or_false, isTy, decide_true, decide_false, Bool.and_true, Bool.and_false, Bool.or_true, Bool.true_or, Bool.false_or, Bool.false_and, Bool.true_and, Bool.not_true, Bool.not_false, startD, List.map_cons, List.map_nil, List.cons_append, List.nil_append, List.replicate_zero, List.replicate_succ, Nat.reduceSub, Nat.reduceAdd, Option.isSome_some, wipeD, false_and, and_false, exists_false, false_or, or_false, gt_iff_lt, ge_iff_le, Option.bind_some, decide_eq_true_eq, Nat.reduceLeDiff, Nat.zero_le, Int.reduceLE, Int.reduceLT, Nat.reducePow, Int.reducePow, Int.reduceNeg, Int.reduceToNat, Int.reduceSub, Int.reduceMul, Int.reduceAdd, or_true, true_or, Nat.reduceLT, and_self, Int.reduceEq, Nat.reduceEqDiff, exists_and_left, HBs, Ob.lst.injEq, eu]
      refine ⟨v, rfl, ov, ?_⟩
      try simp only [EVs, Ts.len, List.getElem?_cons_zero, List.getElem?_cons_succ, List.set_cons_zero, List.set_cons_succ, Option.some.injEq, D.int.injEq, D.bl.injEq, D.str.injEq, D.tup.injEq, D.lst.injEq, D.ref.injEq, exists_eq_left, exists_eq_left', true_and, and_true, if_true, if_false, Bool.false_eq_true, Bool.true_eq_false, reduceCtorEq, List.length_cons, List.length_nil, Option.map_some, List.any_cons, List.any_nil, Bool.or_false, isTy, decide_true, decide_false, Bool.and_true, Bool.and_false, Bool.or_true, Bool.true_or, Bool.false_or, Bool.false_and, Bool.true_and, Bool.not_true, Bool.not_false, startD, List.map_cons, List.map_nil, List.cons_append, List.nil_append, List.replicate_zero, List.replicate_succ, Nat.reduceSub, Nat.reduceAdd, Option.isSome_some, wipeD, false_and, and_false, exists_false, false_or, or_false, gt_iff_lt, ge_iff_le, Option.bind_some, decide_eq_true_eq, Nat.reduceLeDiff, Nat.zero_le, Int.reduceLE, Int.reduceLT, Nat.reducePow, Int.reducePow, Int.reduceNeg, Int.reduceToNat, Int.reduceSub, Int.reduceMul, Int.reduceAdd, or_true, true_or, Nat.reduceLT, and_self, Int.reduceEq, Nat.reduceEqDiff, exists_and_left, HBs, Ob.lst.injEq, es]
      refine same_ok (res_p pd.p) (res_p pd.p) pd.p (by omega) ?_
      try simp only [EVs, Ts.len, List.getElem?_cons_zero, List.getElem?_cons_succ, List.set_cons_zero, List.set_cons_succ, Option.some.injEq, D.int.injEq, D.bl.injEq, D.str.injEq, D.tup.injEq, D.lst.injEq, D.ref.injEq, exists_eq_left, exists_eq_left', true_and, and_true, if_true, if_false, Bool.false_eq_true, Bool.true_eq_false, reduceCtorEq, List.length_cons, List.length_nil, Option.map_some, List.any_cons, List.any_nil, Bool.or_false, isTy, decide_true, decide_false, Bool.and_true, Bool.and_false, Bool.or_true, Bool.true_or, Bool.false_or, Bool.false_and, Bool.true_and, Bool.not_true, Bool.not_false, startD, List.map_cons, List.map_nil, List.cons_append, List.nil_append, List.replicate_zero, List.replicate_succ, Nat.reduceSub, Nat.reduceAdd, Option.isSome_some, wipeD, false_and, and_false, exists_false, false_or, or_false, gt_iff_lt, ge_iff_le, Option.bind_some, decide_eq_true_eq, Nat.reduceLeDiff, Nat.zero_le, Int.reduceLE, Int.reduceLT, Nat.reducePow, Int.reducePow, Int.reduceNeg, Int.reduceToNat, Int.reduceSub, Int.reduceMul, Int.reduceAdd, or_true, true_or, Nat.reduceLT, and_self, Int.reduceEq, Nat.reduceEqDiff, exists_and_left, HBs, Ob.lst.injEq, eu]
      refine ⟨v, rfl, ov, ?_⟩
      try simp only [EVs, Ts.len, List.getElem?_cons_zero, List.getElem?_cons_succ, List.set_cons_zero, List.set_cons_succ, Option.some.injEq, D.int.injEq, D.bl.injEq, D.str.injEq, D.tup.injEq, D.lst.injEq, D.ref.injEq, exists_eq_left, exists_eq_left', true_and, and_true, if_true, if_false, Bool.false_eq_true, Bool.true_eq_false, reduceCtorEq, List.length_cons, List.length_nil, Option.map_some, List.any_cons, List.any_nil, Bool.or_false, isTy, decide_true, decide_false, Bool.and_true, Bool.and_false, Bool.or_true, Bool.true_or, Bool.false_or, Bool.false_and, Bool.true_and, Bool.not_true, Bool.not_false, startD, List.map_cons, List.map_nil, List.cons_append, List.nil_append, List.replicate_zero, List.replicate_succ, Nat.reduceSub, Nat.reduceAdd, Option.isSome_some, wipeD, false_and, and_false, exists_false, false_or, or_false, gt_iff_lt, ge_iff_le, Option.bind_some, decide_eq_true_eq, Nat.reduceLeDiff, Nat.zero_le, Int.reduceLE, Int.reduceLT, Nat.reducePow, Int.reducePow, Int.reduceNeg, Int.reduceToNat, Int.reduceSub, Int.reduceMul, Int.reduceAdd, or_true, true_or, Nat.reduceLT, and_self, Int.reduceEq, Nat.reduceEqDiff, exists_and_left, HBs, Ob.lst.injEq, eq, hs, beq_self_eq_true]
      refine snil (Φ := Φ) (xq := NX) ?_; refine snil (Φ := Φ) (xq := NX) ?_
      exact knx2 _ _ ⟨⟨_, _, _, _, rfl⟩, rfl, fun v m => hv v (List.mem_cons_of_mem _ m)⟩
    · rintro ⟨⟨_, _, _, _, rfl⟩, rfl, _⟩
      refine ⟨trivial, ?_⟩
      refine snil (Φ := Φ) (xq := NX) ?_
      exact knx _ _ ⟨⟨_, _, _, _, _, _, _, rfl⟩, fun x m => hx x (List.mem_cons_of_mem _ m)⟩
    · simp only [List.mem_cons, List.not_mem_nil, or_false] at m
      rcases m with rfl | rfl | rfl
      · exact of
      · exact fine_rows of
      · exact fine_heads of
  · rintro ⟨⟨_, _, _, _, _, _, _, rfl⟩, _⟩
    refine ⟨trivial, ?_⟩
    refine soneW ?_; try simp only [EVs, Ts.len, List.getElem?_cons_zero, List.getElem?_cons_succ, List.set_cons_zero, List.set_cons_succ, Option.some.injEq, D.int.injEq, D.bl.injEq, D.str.injEq, D.tup.injEq, D.lst.injEq, D.ref.injEq, exists_eq_left, exists_eq_left', true_and, and_true, if_true, if_false, Bool.false_eq_true, Bool.true_eq_false, reduceCtorEq, List.length_cons, List.length_nil, Option.map_some, List.any_cons, List.any_nil, Bool.or_false, isTy, decide_true, decide_false, Bool.and_true, Bool.and_false, Bool.or_true, Bool.true_or, Bool.false_or, Bool.false_and, Bool.true_and, Bool.not_true, Bool.not_false, startD, List.map_cons, List.map_nil, List.cons_append, List.nil_append, List.replicate_zero, List.replicate_succ, Nat.reduceSub, Nat.reduceAdd, Option.isSome_some, wipeD, false_and, and_false, exists_false, false_or, or_false, gt_iff_lt, ge_iff_le, Option.bind_some, decide_eq_true_eq, Nat.reduceLeDiff, Nat.zero_le, Int.reduceLE, Int.reduceLT, Nat.reducePow, Int.reducePow, Int.reduceNeg, Int.reduceToNat, Int.reduceSub, Int.reduceMul, Int.reduceAdd, or_true, true_or, Nat.reduceLT, and_self, Int.reduceEq, Nat.reduceEqDiff, exists_and_left, HBs, Ob.lst.injEq]
    exact .inl (q _)
  · obtain ⟨i, rfl, i0, i1⟩ := rngL_mem m
    exact ⟨i, rfl, by omega, by omega⟩
end Pf

namespace Pf
open PySem PySem.Spec PyProof.Rows L2
abbrev d_unfolded : Stmt := PySem.Challenge.pw_pivotfold_k12_unfolded.main.body.getD 1 (.Pass ⟨0, 0, 0, 0⟩)
theorem sc_unfolded : FnScope ["wide", "key", "names", "values", "heads", "rows", "found", "part", "cells", "head", "told"] ["wide"] (defScope d_unfolded) := ⟨rfl, rfl, rfl, by decide +kernel, rfl, by decide +kernel, by decide +kernel⟩
theorem ck_unfolded : chkSs ⟨["wide", "key", "names", "values", "heads", "rows", "found", "part", "cells", "head", "told"], defScope d_unfolded, fun _ => true, ["tuple", "zip"], [], []⟩ f_unfolded.body (defBody d_unfolded) = true := by decide +kernel
abbrev d_law_cell_at : Stmt := PySem.Challenge.pw_pivotfold_k12_unfolded.main.body.getD 3 (.Pass ⟨0, 0, 0, 0⟩)
theorem sc_law_cell_at : FnScope ["_law_script", "_law_k"] ["_law_script", "_law_k"] (defScope d_law_cell_at) := ⟨rfl, rfl, rfl, by decide +kernel, rfl, by decide +kernel, by decide +kernel⟩
theorem ck_law_cell_at : chkSs ⟨["_law_script", "_law_k"], defScope d_law_cell_at, fun _ => true, ["len"], [], []⟩ f_law_cell_at.body (defBody d_law_cell_at) = true := by decide +kernel
abbrev d_law_box : Stmt := PySem.Challenge.pw_pivotfold_k12_unfolded.main.body.getD 4 (.Pass ⟨0, 0, 0, 0⟩)
theorem sc_law_box : FnScope ["_law_script", "_law_k", "_law_number_here"] ["_law_script", "_law_k"] (defScope d_law_box) := ⟨rfl, rfl, rfl, by decide +kernel, rfl, by decide +kernel, by decide +kernel⟩
theorem ck_law_box : chkSs ⟨["_law_script", "_law_k", "_law_number_here"], defScope d_law_box, fun _ => true, ["abs", "int"], ["_law_cell_at"], []⟩ f_law_box.body (defBody d_law_box) = true := by decide +kernel
abbrev d_law_take : Stmt := PySem.Challenge.pw_pivotfold_k12_unfolded.main.body.getD 5 (.Pass ⟨0, 0, 0, 0⟩)
theorem sc_law_take : FnScope ["_law_box_here", "_law_many_here", "_law_found", "_law_once", "_law_twice"] ["_law_box_here", "_law_many_here"] (defScope d_law_take) := ⟨rfl, rfl, rfl, by decide +kernel, rfl, by decide +kernel, by decide +kernel⟩
theorem ck_law_take : chkSs ⟨["_law_box_here", "_law_many_here", "_law_found", "_law_once", "_law_twice"], defScope d_law_take, fun _ => true, [], [], []⟩ f_law_take.body (defBody d_law_take) = true := by decide +kernel
abbrev d_law_many : Stmt := PySem.Challenge.pw_pivotfold_k12_unfolded.main.body.getD 6 (.Pass ⟨0, 0, 0, 0⟩)
theorem sc_law_many : FnScope ["_law_box_here", "_law_least", "_law_few", "_law_most"] ["_law_box_here", "_law_least", "_law_few", "_law_most"] (defScope d_law_many) := ⟨rfl, rfl, rfl, by decide +kernel, rfl, by decide +kernel, by decide +kernel⟩
theorem ck_law_many : chkSs ⟨["_law_box_here", "_law_least", "_law_few", "_law_most"], defScope d_law_many, fun _ => true, [], ["_law_take"], []⟩ f_law_many.body (defBody d_law_many) = true := by decide +kernel
abbrev d_law_names : Stmt := PySem.Challenge.pw_pivotfold_k12_unfolded.main.body.getD 7 (.Pass ⟨0, 0, 0, 0⟩)
theorem sc_law_names : FnScope ["_law_box_here", "_law_many_here", "_law_some", "_law_turn"] ["_law_box_here", "_law_many_here"] (defScope d_law_names) := ⟨rfl, rfl, rfl, by decide +kernel, rfl, by decide +kernel, by decide +kernel⟩
theorem ck_law_names : chkSs ⟨["_law_box_here", "_law_many_here", "_law_some", "_law_turn"], defScope d_law_names, fun _ => true, ["len", "range"], ["_law_take"], []⟩ f_law_names.body (defBody d_law_names) = true := by decide +kernel
abbrev d_law_value : Stmt := PySem.Challenge.pw_pivotfold_k12_unfolded.main.body.getD 8 (.Pass ⟨0, 0, 0, 0⟩)
theorem sc_law_value : FnScope ["_law_box_here", "_law_way"] ["_law_box_here"] (defScope d_law_value) := ⟨rfl, rfl, rfl, by decide +kernel, rfl, by decide +kernel, by decide +kernel⟩
theorem ck_law_value : chkSs ⟨["_law_box_here", "_law_way"], defScope d_law_value, fun _ => true, [], ["_law_take"], []⟩ f_law_value.body (defBody d_law_value) = true := by decide +kernel
abbrev d_law_number : Stmt := PySem.Challenge.pw_pivotfold_k12_unfolded.main.body.getD 9 (.Pass ⟨0, 0, 0, 0⟩)
theorem sc_law_number : FnScope ["_law_box_here"] ["_law_box_here"] (defScope d_law_number) := ⟨rfl, rfl, rfl, by decide +kernel, rfl, by decide +kernel, by decide +kernel⟩
theorem ck_law_number : chkSs ⟨["_law_box_here"], defScope d_law_number, fun _ => true, [], ["_law_take"], []⟩ f_law_number.body (defBody d_law_number) = true := by decide +kernel
abbrev d_law_pool : Stmt := PySem.Challenge.pw_pivotfold_k12_unfolded.main.body.getD 10 (.Pass ⟨0, 0, 0, 0⟩)
theorem sc_law_pool : FnScope ["_law_box_here", "_law_many_here", "_law_found", "_law_turn", "_law_value_here"] ["_law_box_here", "_law_many_here"] (defScope d_law_pool) := ⟨rfl, rfl, rfl, by decide +kernel, rfl, by decide +kernel, by decide +kernel⟩
theorem ck_law_pool : chkSs ⟨["_law_box_here", "_law_many_here", "_law_found", "_law_turn", "_law_value_here"], defScope d_law_pool, fun _ => true, ["range"], ["_law_value"], []⟩ f_law_pool.body (defBody d_law_pool) = true := by decide +kernel
abbrev d_law_tuples : Stmt := PySem.Challenge.pw_pivotfold_k12_unfolded.main.body.getD 11 (.Pass ⟨0, 0, 0, 0⟩)
theorem sc_law_tuples : FnScope ["_law_box_here", "_law_wide_here", "_law_many_here", "_law_pool_here", "_law_found", "_law_turn", "_law_one", "_law_k"] ["_law_box_here", "_law_wide_here", "_law_many_here"] (defScope d_law_tuples) := ⟨rfl, rfl, rfl, by decide +kernel, rfl, by decide +kernel, by decide +kernel⟩
theorem ck_law_tuples : chkSs ⟨["_law_box_here", "_law_wide_here", "_law_many_here", "_law_pool_here", "_law_found", "_law_turn", "_law_one", "_law_k"], defScope d_law_tuples, fun _ => true, ["len", "range", "tuple"], ["_law_take", "_law_pool"], []⟩ f_law_tuples.body (defBody d_law_tuples) = true := by decide +kernel
abbrev d_law_wide : Stmt := PySem.Challenge.pw_pivotfold_k12_unfolded.main.body.getD 12 (.Pass ⟨0, 0, 0, 0⟩)
theorem sc_law_wide : FnScope ["_law_box_here", "_law_numbers", "_law_names_here", "_law_a", "_law_b", "_law_c", "_law_stem", "_law_over", "_law_values", "_law_heads", "_law_often", "_law_rows", "_law_part", "_law_cells", "_law_head", "_law_one", "_law_name"] ["_law_box_here", "_law_numbers"] (defScope d_law_wide) := ⟨rfl, rfl, rfl, by decide +kernel, rfl, by decide +kernel, by decide +kernel⟩
theorem ck_law_wide : chkSs ⟨["_law_box_here", "_law_numbers", "_law_names_here", "_law_a", "_law_b", "_law_c", "_law_stem", "_law_over", "_law_values", "_law_heads", "_law_often", "_law_rows", "_law_part", "_law_cells", "_law_head", "_law_one", "_law_name"], defScope d_law_wide, fun _ => true, ["tuple"], ["_law_tuples", "_law_many", "_law_take", "_law_number", "_law_value", "_law_names"], []⟩ f_law_wide.body (defBody d_law_wide) = true := by decide +kernel
abbrev d_law_same : Stmt := PySem.Challenge.pw_pivotfold_k12_unfolded.main.body.getD 13 (.Pass ⟨0, 0, 0, 0⟩)
theorem sc_law_same : FnScope ["_law_found", "_law_due_here", "_law_one", "_law_other"] ["_law_found", "_law_due_here"] (defScope d_law_same) := ⟨rfl, rfl, rfl, by decide +kernel, rfl, by decide +kernel, by decide +kernel⟩
theorem ck_law_same : chkSs ⟨["_law_found", "_law_due_here", "_law_one", "_law_other"], defScope d_law_same, fun _ => true, ["all", "bool", "int", "isinstance", "len", "list", "str", "tuple", "zip"], ["_law_same"], []⟩ f_law_same.body (defBody d_law_same) = true := by decide +kernel
abbrev d_law_due : Stmt := PySem.Challenge.pw_pivotfold_k12_unfolded.main.body.getD 14 (.Pass ⟨0, 0, 0, 0⟩)
theorem sc_law_due : FnScope ["_law_wide_here", "_law_rows", "_law_part", "_law_cells", "_law_k", "_law_head"] ["_law_wide_here"] (defScope d_law_due) := ⟨rfl, rfl, rfl, by decide +kernel, rfl, by decide +kernel, by decide +kernel⟩
theorem ck_law_due : chkSs ⟨["_law_wide_here", "_law_rows", "_law_part", "_law_cells", "_law_k", "_law_head"], defScope d_law_due, fun _ => true, ["enumerate", "list", "tuple"], [], []⟩ f_law_due.body (defBody d_law_due) = true := by decide +kernel
abbrev d_law : Stmt := PySem.Challenge.pw_pivotfold_k12_unfolded.main.body.getD 15 (.Pass ⟨0, 0, 0, 0⟩)
theorem sc_law : FnScope ["_law_script", "_law_k", "_law_wide_here", "_law_before", "_law_some", "_law_due_here", "_law_part", "_law_cells"] ["_law_script"] (defScope d_law) := ⟨rfl, rfl, rfl, by decide +kernel, rfl, by decide +kernel, by decide +kernel⟩
theorem ck_law : chkSs ⟨["_law_script", "_law_k", "_law_wide_here", "_law_before", "_law_some", "_law_due_here", "_law_part", "_law_cells"], defScope d_law, fun _ => true, ["range", "str", "tuple"], ["_law_same", "unfolded", "_law_due", "_law_wide", "_law_box"], []⟩ f_law.body (defBody d_law) = true := by decide +kernel
theorem all_mk {l : PySem.W.OpenLaw} {w : World} {K : PySem.W.Frag} {h : Heap} {mg : Str → Option Value} {fa f1 f2 f3 f4 f5 f6 f7 f8 f9 f10 f11 f12 f13 f14 : Addr} (X : K.In h) (G : h.Ns mainGlobals mg) (hfa : mg "law" = some (.ref fa))
    {od1 an1 : Option Addr} {sl1 : Array (Option Value)} {oc1 kV1 dc1 pm1 cd1 ct1 : Value}
    (a1 : PySem.W.nsIn K mainGlobals "unfolded" = some (some (.ref f1))) (l1 : K.lookup f1 = some ⟨oc1, od1, .func (PySem.W.fnOf "unfolded" "unfolded" (defArgs d_unfolded) (defBody d_unfolded) (defScope d_unfolded) .none kV1 dc1 pm1 an1 cd1 ct1), sl1⟩)
    (c1 : PySem.W.codeIn K cd1 "unfolded" = true) (k1 : PySem.W.keepIn K (.ref f1) = true)
    {od2 an2 : Option Addr} {sl2 : Array (Option Value)} {oc2 kV2 dc2 pm2 cd2 ct2 : Value}
    (a2 : PySem.W.nsIn K mainGlobals "_law_cell_at" = some (some (.ref f2))) (l2 : K.lookup f2 = some ⟨oc2, od2, .func (PySem.W.fnOf "_law_cell_at" "_law_cell_at" (defArgs d_law_cell_at) (defBody d_law_cell_at) (defScope d_law_cell_at) .none kV2 dc2 pm2 an2 cd2 ct2), sl2⟩)
    (c2 : PySem.W.codeIn K cd2 "_law_cell_at" = true) (k2 : PySem.W.keepIn K (.ref f2) = true)
    {od3 an3 : Option Addr} {sl3 : Array (Option Value)} {oc3 kV3 dc3 pm3 cd3 ct3 : Value}
    (a3 : PySem.W.nsIn K mainGlobals "_law_box" = some (some (.ref f3))) (l3 : K.lookup f3 = some ⟨oc3, od3, .func (PySem.W.fnOf "_law_box" "_law_box" (defArgs d_law_box) (defBody d_law_box) (defScope d_law_box) .none kV3 dc3 pm3 an3 cd3 ct3), sl3⟩)
    (c3 : PySem.W.codeIn K cd3 "_law_box" = true) (k3 : PySem.W.keepIn K (.ref f3) = true)
    {od4 an4 : Option Addr} {sl4 : Array (Option Value)} {oc4 kV4 dc4 pm4 cd4 ct4 : Value}
    (a4 : PySem.W.nsIn K mainGlobals "_law_take" = some (some (.ref f4))) (l4 : K.lookup f4 = some ⟨oc4, od4, .func (PySem.W.fnOf "_law_take" "_law_take" (defArgs d_law_take) (defBody d_law_take) (defScope d_law_take) .none kV4 dc4 pm4 an4 cd4 ct4), sl4⟩)
    (c4 : PySem.W.codeIn K cd4 "_law_take" = true) (k4 : PySem.W.keepIn K (.ref f4) = true)
    {od5 an5 : Option Addr} {sl5 : Array (Option Value)} {oc5 kV5 dc5 pm5 cd5 ct5 : Value}
    (a5 : PySem.W.nsIn K mainGlobals "_law_many" = some (some (.ref f5))) (l5 : K.lookup f5 = some ⟨oc5, od5, .func (PySem.W.fnOf "_law_many" "_law_many" (defArgs d_law_many) (defBody d_law_many) (defScope d_law_many) .none kV5 dc5 pm5 an5 cd5 ct5), sl5⟩)
    (c5 : PySem.W.codeIn K cd5 "_law_many" = true) (k5 : PySem.W.keepIn K (.ref f5) = true)
    {od6 an6 : Option Addr} {sl6 : Array (Option Value)} {oc6 kV6 dc6 pm6 cd6 ct6 : Value}
    (a6 : PySem.W.nsIn K mainGlobals "_law_names" = some (some (.ref f6))) (l6 : K.lookup f6 = some ⟨oc6, od6, .func (PySem.W.fnOf "_law_names" "_law_names" (defArgs d_law_names) (defBody d_law_names) (defScope d_law_names) .none kV6 dc6 pm6 an6 cd6 ct6), sl6⟩)
    (c6 : PySem.W.codeIn K cd6 "_law_names" = true) (k6 : PySem.W.keepIn K (.ref f6) = true)
    {od7 an7 : Option Addr} {sl7 : Array (Option Value)} {oc7 kV7 dc7 pm7 cd7 ct7 : Value}
    (a7 : PySem.W.nsIn K mainGlobals "_law_value" = some (some (.ref f7))) (l7 : K.lookup f7 = some ⟨oc7, od7, .func (PySem.W.fnOf "_law_value" "_law_value" (defArgs d_law_value) (defBody d_law_value) (defScope d_law_value) .none kV7 dc7 pm7 an7 cd7 ct7), sl7⟩)
    (c7 : PySem.W.codeIn K cd7 "_law_value" = true) (k7 : PySem.W.keepIn K (.ref f7) = true)
    {od8 an8 : Option Addr} {sl8 : Array (Option Value)} {oc8 kV8 dc8 pm8 cd8 ct8 : Value}
    (a8 : PySem.W.nsIn K mainGlobals "_law_number" = some (some (.ref f8))) (l8 : K.lookup f8 = some ⟨oc8, od8, .func (PySem.W.fnOf "_law_number" "_law_number" (defArgs d_law_number) (defBody d_law_number) (defScope d_law_number) .none kV8 dc8 pm8 an8 cd8 ct8), sl8⟩)
    (c8 : PySem.W.codeIn K cd8 "_law_number" = true) (k8 : PySem.W.keepIn K (.ref f8) = true)
    {od9 an9 : Option Addr} {sl9 : Array (Option Value)} {oc9 kV9 dc9 pm9 cd9 ct9 : Value}
    (a9 : PySem.W.nsIn K mainGlobals "_law_pool" = some (some (.ref f9))) (l9 : K.lookup f9 = some ⟨oc9, od9, .func (PySem.W.fnOf "_law_pool" "_law_pool" (defArgs d_law_pool) (defBody d_law_pool) (defScope d_law_pool) .none kV9 dc9 pm9 an9 cd9 ct9), sl9⟩)
    (c9 : PySem.W.codeIn K cd9 "_law_pool" = true) (k9 : PySem.W.keepIn K (.ref f9) = true)
    {od10 an10 : Option Addr} {sl10 : Array (Option Value)} {oc10 kV10 dc10 pm10 cd10 ct10 : Value}
    (a10 : PySem.W.nsIn K mainGlobals "_law_tuples" = some (some (.ref f10))) (l10 : K.lookup f10 = some ⟨oc10, od10, .func (PySem.W.fnOf "_law_tuples" "_law_tuples" (defArgs d_law_tuples) (defBody d_law_tuples) (defScope d_law_tuples) .none kV10 dc10 pm10 an10 cd10 ct10), sl10⟩)
    (c10 : PySem.W.codeIn K cd10 "_law_tuples" = true) (k10 : PySem.W.keepIn K (.ref f10) = true)
    {od11 an11 : Option Addr} {sl11 : Array (Option Value)} {oc11 kV11 dc11 pm11 cd11 ct11 : Value}
    (a11 : PySem.W.nsIn K mainGlobals "_law_wide" = some (some (.ref f11))) (l11 : K.lookup f11 = some ⟨oc11, od11, .func (PySem.W.fnOf "_law_wide" "_law_wide" (defArgs d_law_wide) (defBody d_law_wide) (defScope d_law_wide) .none kV11 dc11 pm11 an11 cd11 ct11), sl11⟩)
    (c11 : PySem.W.codeIn K cd11 "_law_wide" = true) (k11 : PySem.W.keepIn K (.ref f11) = true)
    {od12 an12 : Option Addr} {sl12 : Array (Option Value)} {oc12 kV12 dc12 pm12 cd12 ct12 : Value}
    (a12 : PySem.W.nsIn K mainGlobals "_law_same" = some (some (.ref f12))) (l12 : K.lookup f12 = some ⟨oc12, od12, .func (PySem.W.fnOf "_law_same" "_law_same" (defArgs d_law_same) (defBody d_law_same) (defScope d_law_same) .none kV12 dc12 pm12 an12 cd12 ct12), sl12⟩)
    (c12 : PySem.W.codeIn K cd12 "_law_same" = true) (k12 : PySem.W.keepIn K (.ref f12) = true)
    {od13 an13 : Option Addr} {sl13 : Array (Option Value)} {oc13 kV13 dc13 pm13 cd13 ct13 : Value}
    (a13 : PySem.W.nsIn K mainGlobals "_law_due" = some (some (.ref f13))) (l13 : K.lookup f13 = some ⟨oc13, od13, .func (PySem.W.fnOf "_law_due" "_law_due" (defArgs d_law_due) (defBody d_law_due) (defScope d_law_due) .none kV13 dc13 pm13 an13 cd13 ct13), sl13⟩)
    (c13 : PySem.W.codeIn K cd13 "_law_due" = true) (k13 : PySem.W.keepIn K (.ref f13) = true)
    {od14 an14 : Option Addr} {sl14 : Array (Option Value)} {oc14 kV14 dc14 pm14 cd14 ct14 : Value}
    (a14 : PySem.W.nsIn K mainGlobals "law" = some (some (.ref f14))) (l14 : K.lookup f14 = some ⟨oc14, od14, .func (PySem.W.fnOf "law" "law" (defArgs d_law) (defBody d_law) (defScope d_law) .none kV14 dc14 pm14 an14 cd14 ct14), sl14⟩)
    (c14 : PySem.W.codeIn K cd14 "law" = true) (k14 : PySem.W.keepIn K (.ref f14) = true)
    (z1 : PySem.W.nsIn K mainGlobals "abs" = some none)
    (z2 : PySem.W.nsIn K mainGlobals "all" = some none)
    (z3 : PySem.W.nsIn K mainGlobals "bool" = some none)
    (z4 : PySem.W.nsIn K mainGlobals "enumerate" = some none)
    (z5 : PySem.W.nsIn K mainGlobals "int" = some none)
    (z6 : PySem.W.nsIn K mainGlobals "isinstance" = some none)
    (z7 : PySem.W.nsIn K mainGlobals "len" = some none)
    (z8 : PySem.W.nsIn K mainGlobals "list" = some none)
    (z9 : PySem.W.nsIn K mainGlobals "range" = some none)
    (z10 : PySem.W.nsIn K mainGlobals "str" = some none)
    (z11 : PySem.W.nsIn K mainGlobals "tuple" = some none)
    (z12 : PySem.W.nsIn K mainGlobals "zip" = some none)
    : ∃ fd : FuncData, (∀ (s : Shared) (v : Value), BindsTo s fd ⟨[v], []⟩ [("_law_script", v)]) ∧ ∀ base : Heap, K.In base → base.Ns mainGlobals mg → FnG l.prog w K mg base 123 fa fd ["_law_script"] (liftP K spLaw) := by
  have e := hfa.symm.trans (PySem.W.mg_of X G a14)
  cases e
  have F1 := fun_mk (st := d_unfolded) l1 c1 k1
  have b1 := F1.binds (ps := ["wide"]) fun _ _ _ _ _ _ us hl => match us, hl with | [_], _ => rfl
  have m1 := PySem.W.mg_of X G a1
  have F2 := fun_mk (st := d_law_cell_at) l2 c2 k2
  have b2 := F2.binds (ps := ["_law_script", "_law_k"]) fun _ _ _ _ _ _ us hl => match us, hl with | [_, _], _ => rfl
  have m2 := PySem.W.mg_of X G a2
  have F3 := fun_mk (st := d_law_box) l3 c3 k3
  have b3 := F3.binds (ps := ["_law_script", "_law_k"]) fun _ _ _ _ _ _ us hl => match us, hl with | [_, _], _ => rfl
  have m3 := PySem.W.mg_of X G a3
  have F4 := fun_mk (st := d_law_take) l4 c4 k4
  have b4 := F4.binds (ps := ["_law_box_here", "_law_many_here"]) fun _ _ _ _ _ _ us hl => match us, hl with | [_, _], _ => rfl
  have m4 := PySem.W.mg_of X G a4
  have F5 := fun_mk (st := d_law_many) l5 c5 k5
  have b5 := F5.binds (ps := ["_law_box_here", "_law_least", "_law_few", "_law_most"]) fun _ _ _ _ _ _ us hl => match us, hl with | [_, _, _, _], _ => rfl
  have m5 := PySem.W.mg_of X G a5
  have F6 := fun_mk (st := d_law_names) l6 c6 k6
  have b6 := F6.binds (ps := ["_law_box_here", "_law_many_here"]) fun _ _ _ _ _ _ us hl => match us, hl with | [_, _], _ => rfl
  have m6 := PySem.W.mg_of X G a6
  have F7 := fun_mk (st := d_law_value) l7 c7 k7
  have b7 := F7.binds (ps := ["_law_box_here"]) fun _ _ _ _ _ _ us hl => match us, hl with | [_], _ => rfl
  have m7 := PySem.W.mg_of X G a7
  have F8 := fun_mk (st := d_law_number) l8 c8 k8
  have b8 := F8.binds (ps := ["_law_box_here"]) fun _ _ _ _ _ _ us hl => match us, hl with | [_], _ => rfl
  have m8 := PySem.W.mg_of X G a8
  have F9 := fun_mk (st := d_law_pool) l9 c9 k9
  have b9 := F9.binds (ps := ["_law_box_here", "_law_many_here"]) fun _ _ _ _ _ _ us hl => match us, hl with | [_, _], _ => rfl
  have m9 := PySem.W.mg_of X G a9
  have F10 := fun_mk (st := d_law_tuples) l10 c10 k10
  have b10 := F10.binds (ps := ["_law_box_here", "_law_wide_here", "_law_many_here"]) fun _ _ _ _ _ _ us hl => match us, hl with | [_, _, _], _ => rfl
  have m10 := PySem.W.mg_of X G a10
  have F11 := fun_mk (st := d_law_wide) l11 c11 k11
  have b11 := F11.binds (ps := ["_law_box_here", "_law_numbers"]) fun _ _ _ _ _ _ us hl => match us, hl with | [_, _], _ => rfl
  have m11 := PySem.W.mg_of X G a11
  have F12 := fun_mk (st := d_law_same) l12 c12 k12
  have b12 := F12.binds (ps := ["_law_found", "_law_due_here"]) fun _ _ _ _ _ _ us hl => match us, hl with | [_, _], _ => rfl
  have m12 := PySem.W.mg_of X G a12
  have F13 := fun_mk (st := d_law_due) l13 c13 k13
  have b13 := F13.binds (ps := ["_law_wide_here"]) fun _ _ _ _ _ _ us hl => match us, hl with | [_], _ => rfl
  have m13 := PySem.W.mg_of X G a13
  have F14 := fun_mk (st := d_law) l14 c14 k14
  have b14 := F14.binds (ps := ["_law_script"]) fun _ _ _ _ _ _ us hl => match us, hl with | [_], _ => rfl
  have m14 := PySem.W.mg_of X G a14
  have y1 := PySem.W.mg_none_of X G z1
  have y2 := PySem.W.mg_none_of X G z2
  have y3 := PySem.W.mg_none_of X G z3
  have y4 := PySem.W.mg_none_of X G z4
  have y5 := PySem.W.mg_none_of X G z5
  have y6 := PySem.W.mg_none_of X G z6
  have y7 := PySem.W.mg_none_of X G z7
  have y8 := PySem.W.mg_none_of X G z8
  have y9 := PySem.W.mg_none_of X G z9
  have y10 := PySem.W.mg_none_of X G z10
  have y11 := PySem.W.mg_none_of X G z11
  have y12 := PySem.W.mg_none_of X G z12
  refine ⟨PySem.W.fnOf "law" "law" (defArgs d_law) (defBody d_law) (defScope d_law) .none kV14 dc14 pm14 an14 cd14 ct14, fun s v => .of_eq rfl, fun base _ _ => ?_⟩
  have g1 : FnG l.prog w K mg base 2 f1 _ _ (liftP K spUnfolded) := fn_D (Φ := (mkF [])) (k := 1) (c := f_unfolded) F1 sc_unfolded rfl rfl ck_unfolded (blt_cons y11 (blt_cons y12 blt_nil)) gl_nil fns_nil (i_unfolded)
  have g2 : FnG l.prog w K mg base 2 f2 _ _ (liftP K spCellAt) := fn_D (Φ := (mkF [])) (k := 1) (c := f_law_cell_at) F2 sc_law_cell_at rfl rfl ck_law_cell_at (blt_cons y7 blt_nil) gl_nil fns_nil (i_cell_at)
  have g3 : FnG l.prog w K mg base 4 f3 _ _ (liftP K spBox) := fn_D (Φ := (mkF [("_law_cell_at", spCellAt)])) (k := 3) (c := f_law_box) F3 sc_law_box rfl rfl ck_law_box (blt_cons y1 (blt_cons y5 blt_nil)) gl_nil (fns_cons ⟨f2, _, _, 2, by decide, m2, k2, b2, g2⟩ fns_nil) (i_box rfl)
  have g4 : FnG l.prog w K mg base 2 f4 _ _ (liftP K spTake) := fn_D (Φ := (mkF [])) (k := 1) (c := f_law_take) F4 sc_law_take rfl rfl ck_law_take blt_nil gl_nil fns_nil (i_take)
  have g5 : FnG l.prog w K mg base 4 f5 _ _ (liftP K spMany) := fn_D (Φ := (mkF [("_law_take", spTake)])) (k := 3) (c := f_law_many) F5 sc_law_many rfl rfl ck_law_many blt_nil gl_nil (fns_cons ⟨f4, _, _, 2, by decide, m4, k4, b4, g4⟩ fns_nil) (i_many rfl)
  have g6 : FnG l.prog w K mg base 4 f6 _ _ (liftP K spNames) := fn_D (Φ := (mkF [("_law_take", spTake)])) (k := 3) (c := f_law_names) F6 sc_law_names rfl rfl ck_law_names (blt_cons y7 (blt_cons y9 blt_nil)) gl_nil (fns_cons ⟨f4, _, _, 2, by decide, m4, k4, b4, g4⟩ fns_nil) (i_names rfl)
  have g7 : FnG l.prog w K mg base 4 f7 _ _ (liftP K spVal) := fn_D (Φ := (mkF [("_law_take", spTake)])) (k := 3) (c := f_law_value) F7 sc_law_value rfl rfl ck_law_value blt_nil gl_nil (fns_cons ⟨f4, _, _, 2, by decide, m4, k4, b4, g4⟩ fns_nil) (i_val rfl)
  have g8 : FnG l.prog w K mg base 4 f8 _ _ (liftP K spNumber) := fn_D (Φ := (mkF [("_law_take", spTake)])) (k := 3) (c := f_law_number) F8 sc_law_number rfl rfl ck_law_number blt_nil gl_nil (fns_cons ⟨f4, _, _, 2, by decide, m4, k4, b4, g4⟩ fns_nil) (i_number rfl)
  have g9 : FnG l.prog w K mg base 6 f9 _ _ (liftP K spPool) := fn_D (Φ := (mkF [("_law_value", spVal)])) (k := 5) (c := f_law_pool) F9 sc_law_pool rfl rfl ck_law_pool (blt_cons y9 blt_nil) gl_nil (fns_cons ⟨f7, _, _, 4, by decide, m7, k7, b7, g7⟩ fns_nil) (i_pool rfl)
  have g10 : FnG l.prog w K mg base 8 f10 _ _ (liftP K spTuples) := fn_D (Φ := (mkF [("_law_take", spTake), ("_law_pool", spPool)])) (k := 7) (c := f_law_tuples) F10 sc_law_tuples rfl rfl ck_law_tuples (blt_cons y7 (blt_cons y9 (blt_cons y11 blt_nil))) gl_nil (fns_cons ⟨f4, _, _, 2, by decide, m4, k4, b4, g4⟩ (fns_cons ⟨f9, _, _, 6, by decide, m9, k9, b9, g9⟩ fns_nil)) (i_tuples rfl rfl)
  have g11 : FnG l.prog w K mg base 10 f11 _ _ (liftP K spWide) := fn_D (Φ := (mkF [("_law_tuples", spTuples), ("_law_many", spMany), ("_law_take", spTake), ("_law_number", spNumber), ("_law_value", spVal), ("_law_names", spNames)])) (k := 9) (c := f_law_wide) F11 sc_law_wide rfl rfl ck_law_wide (blt_cons y11 blt_nil) gl_nil (fns_cons ⟨f10, _, _, 8, by decide, m10, k10, b10, g10⟩ (fns_cons ⟨f5, _, _, 4, by decide, m5, k5, b5, g5⟩ (fns_cons ⟨f4, _, _, 2, by decide, m4, k4, b4, g4⟩ (fns_cons ⟨f8, _, _, 4, by decide, m8, k8, b8, g8⟩ (fns_cons ⟨f7, _, _, 4, by decide, m7, k7, b7, g7⟩ (fns_cons ⟨f6, _, _, 4, by decide, m6, k6, b6, g6⟩ fns_nil)))))) (i_wide rfl rfl rfl rfl rfl rfl)
  have r12 : ∀ j : Nat, FnG l.prog w K mg base (1 + 2 * j) f12 (PySem.W.fnOf "_law_same" "_law_same" (defArgs d_law_same) (defBody d_law_same) (defScope d_law_same) .none kV12 dc12 pm12 an12 cd12 ct12) ["_law_found", "_law_due_here"] (liftP K (famP spSame1 j)) := by
    intro j
    induction j with
    | zero => exact fnG_false
    | succ j ih => exact fn_D (Φ := (mkF [("_law_same", famP spSame1 j)])) (k := 1 + 2 * j + 1) (c := f_law_same) F12 sc_law_same rfl rfl ck_law_same (blt_cons y2 (blt_cons y3 (blt_cons y5 (blt_cons y6 (blt_cons y7 (blt_cons y8 (blt_cons y10 (blt_cons y11 (blt_cons y12 blt_nil))))))))) gl_nil (fns_cons ⟨f12, _, _, 1 + 2 * j, by omega, m12, k12, b12, ih⟩ fns_nil) (i_same (by cases j <;> rfl))
  have g12 : FnG l.prog w K mg base 121 f12 _ _ (liftP K (spSame 60)) := r12 60
  have g13 : FnG l.prog w K mg base 2 f13 _ _ (liftP K spUnfolded) := fn_D (Φ := (mkF [])) (k := 1) (c := f_law_due) F13 sc_law_due rfl rfl ck_law_due (blt_cons y4 (blt_cons y8 (blt_cons y11 blt_nil))) gl_nil fns_nil (i_due12)
  have g14 : FnG l.prog w K mg base 123 fa _ _ (liftP K spLaw) := fn_D (Φ := (mkF [("_law_same", (spSame 60)), ("unfolded", spUnfolded), ("_law_due", spUnfolded), ("_law_wide", spWide), ("_law_box", spBox)])) (k := 122) (c := f_law) F14 sc_law rfl rfl ck_law (blt_cons y9 (blt_cons y10 (blt_cons y11 blt_nil))) gl_nil (fns_cons ⟨f12, _, _, 121, by decide, m12, k12, b12, g12⟩ (fns_cons ⟨f1, _, _, 2, by decide, m1, k1, b1, g1⟩ (fns_cons ⟨f13, _, _, 2, by decide, m13, k13, b13, g13⟩ (fns_cons ⟨f11, _, _, 10, by decide, m11, k11, b11, g11⟩ (fns_cons ⟨f3, _, _, 4, by decide, m3, k3, b3, g3⟩ fns_nil))))) (i_law12 rfl rfl rfl rfl rfl)
  exact g14
end Pf
open PySem PySem.W PyProof.Rows
set_option maxHeartbeats 0 in
theorem PySem.Challenge.cw_pivotfold_k12_unfolded_holds : PySem.Challenge.rw_pivotfold_k12_unfolded.Holds := by
  w_on; o_law; k_head; (case hw => w_witness2)
  k_fill
  refine Pf.walk_G (l := PySem.Challenge.rw_pivotfold_k12_unfolded) (k := 123) (x := "_law_script") rfl rfl ⟨⟨rfl, by decide, by decide⟩, rfl⟩ (fun w h Y => PySem.W.kIn_of Y) ?F
  case F =>
    intro w mg fa h KX G hmg
    refine' Pf.all_mk KX G hmg ?a1 ?l1 ?c1 ?k1 ?a2 ?l2 ?c2 ?k2 ?a3 ?l3 ?c3 ?k3 ?a4 ?l4 ?c4 ?k4 ?a5 ?l5 ?c5 ?k5 ?a6 ?l6 ?c6 ?k6 ?a7 ?l7 ?c7 ?k7 ?a8 ?l8 ?c8 ?k8 ?a9 ?l9 ?c9 ?k9 ?a10 ?l10 ?c10 ?k10 ?a11 ?l11 ?c11 ?k11 ?a12 ?l12 ?c12 ?k12 ?a13 ?l13 ?c13 ?k13 ?a14 ?l14 ?c14 ?k14 ?z1 ?z2 ?z3 ?z4 ?z5 ?z6 ?z7 ?z8 ?z9 ?z10 ?z11 ?z12
    (case a1 => k_is); (case l1 => k_is); (case c1 => k_is); (case k1 => k_is); (case a2 => k_is); (case l2 => k_is); (case c2 => k_is); (case k2 => k_is); (case a3 => k_is); (case l3 => k_is); (case c3 => k_is); (case k3 => k_is); (case a4 => k_is); (case l4 => k_is); (case c4 => k_is); (case k4 => k_is); (case a5 => k_is); (case l5 => k_is); (case c5 => k_is); (case k5 => k_is); (case a6 => k_is); (case l6 => k_is); (case c6 => k_is); (case k6 => k_is); (case a7 => k_is); (case l7 => k_is); (case c7 => k_is); (case k7 => k_is); (case a8 => k_is); (case l8 => k_is); (case c8 => k_is); (case k8 => k_is); (case a9 => k_is); (case l9 => k_is); (case c9 => k_is); (case k9 => k_is); (case a10 => k_is); (case l10 => k_is); (case c10 => k_is); (case k10 => k_is); (case a11 => k_is); (case l11 => k_is); (case c11 => k_is); (case k11 => k_is); (case a12 => k_is); (case l12 => k_is); (case c12 => k_is); (case k12 => k_is); (case a13 => k_is); (case l13 => k_is); (case c13 => k_is); (case k13 => k_is); (case a14 => k_is); (case l14 => k_is); (case c14 => k_is); (case k14 => k_is); (case z1 => k_is); (case z2 => k_is); (case z3 => k_is); (case z4 => k_is); (case z5 => k_is); (case z6 => k_is); (case z7 => k_is); (case z8 => k_is); (case z9 => k_is); (case z10 => k_is); (case z11 => k_is); (case z12 => k_is)
