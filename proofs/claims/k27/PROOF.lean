import PyProof.Rows.All
import Wide.All
import OpenK.AllK
import Wide.FinOn
import KE.KStateDown
import HandS.ForMost
import HandS.ForExc
import KE.SortData
import HandS.TupMul
import HandS.TupAny
import HandS.Style
import HandS.Deep
import HandS.TupLe
import HandS.More
import HandS.Small
import KE.KeyNested
import HandS.StrMore
import KE.DataMinMax
import HandS.HeadWalk
import HandS.Rev
import HandS.Dict
import KE.KDictDisplayH
import HandS.ExcField
import HandS.IsInst
import KE.KExcIs
import HandS.ExcInit
import KE.KExcSuper
import HandS.ExcIs
import HandS.TryMany
import HandS.HotCalls
import HandS.CallSlots
import HandS.Ends
import HandS.Defaults
import HandS.ExcInitHot
import HandS.HeadHook1
import HandS.HeadHook2
import HandS.HeadHook3
import HandS.HeadHook4
import HandS.HeadEnd
import HandS.Head0
import HandS.Head1
import HandS.Head2
import PySem.Challenge.RW_shellbrook_k27_transducers_and_pipes
set_option Elab.async false
set_option linter.all false
set_option maxRecDepth 100000
set_option maxHeartbeats 0
/-! Dk1: a small language over plain data: its terms, its data, its store, what a term gives. -/
namespace Dk
open PySem

/-- a text: its code points -/
abbrev S := List Nat
/-- a datum; a loc is a place of the store; fn a def of the text; scr the law's script, which nobody writes -/
inductive D where
  | non | bl (b : Bool) | int (i : Int) | str (s : S) | tup (ds : List D) | loc (n : Nat) | fn (i : Nat) | scr (ns : List Int)
/-- what stands at a place: a list, a dict (t: its keys are tuples), an instance of a class, a caught error -/
inductive C where
  | lst (ds : List D) | dct (t : Bool) (kvs : List (D × D)) | ins (c : Nat) (fs : List (Nat × D)) | exn (c : Nat) (fs : List (Nat × D))
abbrev Store := List C
abbrev Env := List (Option D)
instance : Inhabited D := ⟨.non⟩

/-! ### equality of data, letter by letter -/
mutual
def D.beq : D → D → Bool
  | .non, .non => true
  | .bl a, .bl b => a == b
  | .int a, .int b => decide (a = b)
  | .str a, .str b => decide (a = b)
  | .tup a, .tup b => D.beqL a b
  | .loc a, .loc b => decide (a = b)
  | .fn a, .fn b => decide (a = b)
  | .scr a, .scr b => decide (a = b)
  | _, _ => false
def D.beqL : List D → List D → Bool
  | [], [] => true
  | a :: r, b :: s => D.beq a b && D.beqL r s
  | _, _ => false
end
mutual
theorem D.beq_eq : ∀ (a b : D), D.beq a b = true → a = b
  | .non, b, h => by cases b <;> first | rfl | (simp [D.beq] at h; done)
  | .bl a, b, h => by cases b <;> first | (simp [D.beq] at h; done) | (simp only [D.beq] at h; rw [beq_iff_eq.mp h])
  | .int a, b, h => by cases b <;> first | (simp [D.beq] at h; done) | (simp only [D.beq] at h; rw [of_decide_eq_true h])
  | .str a, b, h => by cases b <;> first | (simp [D.beq] at h; done) | (simp only [D.beq] at h; rw [of_decide_eq_true h])
  | .tup a, b, h => by
    cases b with
    | tup b =>
      simp only [D.beq] at h
      rw [D.beqL_eq a b h]
    | _ => simp [D.beq] at h
  | .loc a, b, h => by cases b <;> first | (simp [D.beq] at h; done) | (simp only [D.beq] at h; rw [of_decide_eq_true h])
  | .fn a, b, h => by cases b <;> first | (simp [D.beq] at h; done) | (simp only [D.beq] at h; rw [of_decide_eq_true h])
  | .scr a, b, h => by cases b <;> first | (simp [D.beq] at h; done) | (simp only [D.beq] at h; rw [of_decide_eq_true h])
theorem D.beqL_eq : ∀ (a b : List D), D.beqL a b = true → a = b
  | [], [], _ => rfl
  | a :: r, b :: s, h => by
    have e : D.beq a b = true ∧ D.beqL r s = true := by simpa [D.beqL] using h
    rw [D.beq_eq a b e.1, D.beqL_eq r s e.2]
  | [], _ :: _, h => by simp [D.beqL] at h
  | _ :: _, [], h => by simp [D.beqL] at h
end

/-! ### places below n -/
mutual
def D.bel (n : Nat) : D → Bool
  | .tup ds => D.belL n ds
  | .loc k => decide (k < n)
  | _ => true
def D.belL (n : Nat) : List D → Bool
  | [] => true
  | d :: r => D.bel n d && D.belL n r
end
def C.bel (n : Nat) : C → Bool
  | .lst ds => D.belL n ds
  | .dct _ kvs => kvs.all fun p => p.1.bel n && p.2.bel n
  | .ins _ fs => fs.all fun p => p.2.bel n
  | .exn _ fs => fs.all fun p => p.2.bel n
/-- pure data: no place in it -/
abbrev D.pure (d : D) : Bool := D.bel 0 d

mutual
/-- as the library reads such data -/
def D.py : D → PyData
  | .non => .none
  | .bl b => .bool b
  | .int i => .int i
  | .str s => .str ⟨s.toArray⟩
  | .tup ds => .tuple (D.pyL ds)
  | .loc _ => .none
  | .fn _ => .none
  | .scr _ => .none
def D.pyL : List D → List PyData
  | [] => []
  | d :: r => D.py d :: D.pyL r
end
/-! ### == of Python on pure data, how deep a datum is -/
mutual
def D.eqv : D → D → Bool
  | .non, .non => true
  | .bl a, .bl b => a == b
  | .bl a, .int j => decide ((if a then (1 : Int) else 0) = j)
  | .int i, .bl b => decide (i = (if b then (1 : Int) else 0))
  | .int a, .int b => decide (a = b)
  | .str a, .str b => decide (a = b)
  | .tup a, .tup b => D.eqvL a b
  | _, _ => false
def D.eqvL : List D → List D → Bool
  | [], [] => true
  | a :: r, b :: s => D.eqv a b && D.eqvL r s
  | _, _ => false
end
mutual
def D.depth : D → Nat
  | .tup ds => D.depthL ds + 1
  | _ => 0
def D.depthL : List D → Nat
  | [] => 0
  | d :: r => max (D.depth d) (D.depthL r)
end
mutual
/-- no def in it -/
def D.dat : D → Bool
  | .fn _ => false
  | .scr _ => false
  | .loc _ => false
  | .tup ds => D.datL ds
  | _ => true
def D.datL : List D → Bool
  | [] => true
  | d :: r => D.dat d && D.datL r
end

/-! ### what comes of a term -/
inductive R (α : Type) where
  | ok (a : α) (st : Store)
  | exc (c : Nat) (fs : List (Nat × D)) (st : Store)
  | stuck
def R.bind {α β : Type} (r : R α) (f : α → Store → R β) : R β := match r with
  | .ok a st => f a st
  | .exc c fs st => .exc c fs st
  | .stuck => .stuck
/-- an option's value, or nothing -/
def R.of {α : Type} (o : Option α) (st : Store) : R α := match o with
  | some a => .ok a st
  | none => .stuck
@[simp] theorem R.bind_ok {α β : Type} (a : α) (st : Store) (f : α → Store → R β) : (R.ok a st).bind f = f a st := (rfl)
@[simp] theorem R.bind_exc {α β : Type} (c : Nat) (fs : List (Nat × D)) (st : Store) (f : α → Store → R β) : (R.exc c fs st).bind f = .exc c fs st := (rfl)
@[simp] theorem R.bind_stuck {α β : Type} (f : α → Store → R β) : (R.stuck : R α).bind f = .stuck := (rfl)
/-- no error comes out of a comprehension here -/
def R.nox {α : Type} (r : R α) : R α := match r with
  | .exc _ _ _ => .stuck
  | r => r
@[simp] theorem R.nox_ok {α : Type} (a : α) (st : Store) : (R.ok a st).nox = .ok a st := (rfl)
@[simp] theorem R.nox_stuck {α : Type} : (R.stuck : R α).nox = .stuck := (rfl)
@[simp] theorem R.of_some {α : Type} (a : α) (st : Store) : R.of (some a) st = .ok a st := (rfl)
@[simp] theorem R.of_none {α : Type} (st : Store) : R.of (none : Option α) st = .stuck := (rfl)

/-! ### letting go of places that nothing names -/
/-- the old cells stand, or name old places alone -/
def keepOk (n : Nat) : Store → Store → Prop
  | [], _ => True
  | c :: r, c' :: r' => (c' = c ∨ c'.bel n = true) ∧ keepOk n r r'
  | _ :: _, [] => False
open Classical in
/-- the store behind st, as far as it is named: by the old cells, by ds -/
noncomputable def cut (st : Store) (ds : List D) (st' : Store) : Store := if keepOk st.length st st' ∧ D.belL st.length ds = true then st'.take st.length else st'
noncomputable def gc (st : Store) (r : R D) : R D := match r with
  | .ok d st' => .ok d (cut st [d] st')
  | r => r
/-- a new list -/
noncomputable def newL (st : Store) (xs : List D) (st' : Store) : R D :=
  if xs.length ≤ sizeLine then .ok (.loc (cut st xs st').length) (cut st xs st' ++ [.lst xs]) else .stuck

/-! ### operators, comparisons -/
inductive Op where
  | add | sub | mul | fdiv | mod | pow
  deriving DecidableEq
def getL (st : Store) (n : Nat) : Option (List D) := match st[n]? with
  | some (.lst xs) => some xs
  | _ => none
def rep {α : Type} (k : Nat) (xs : List α) : List α := (List.replicate k xs).flatten
noncomputable def binD (st : Store) (o : Op) (x y : D) (st' : Store) : R D := match o, x, y with
  | .add, .int i, .int j => .ok (.int (i + j)) st'
  | .add, .str a, .str b => if a.length + b.length ≤ sizeLine then .ok (.str (a ++ b)) st' else .stuck
  | .add, .tup a, .tup b => if a.length + b.length ≤ sizeLine then .ok (.tup (a ++ b)) st' else .stuck
  | .add, .loc m, .loc n => match getL st' m, getL st' n with
    | some xs, some ys => newL st (xs ++ ys) st'
    | _, _ => .stuck
  | .sub, .int i, .int j => .ok (.int (i - j)) st'
  | .mul, .int i, .int j => if i.natAbs < 2 ^ 64 ∨ j.natAbs < 2 ^ 64 then .ok (.int (i * j)) st' else .stuck
  | .mul, .str a, .int k => if a.length * k.toNat ≤ sizeLine ∧ k < 2 ^ 30 ∧ -(2 ^ 30) < k then .ok (.str (rep k.toNat a)) st' else .stuck
  | .mul, .tup a, .int k => if a ≠ [] ∧ 2 ≤ k ∧ k ≤ 5000 ∧ a.length ≤ 3000 then .ok (.tup (rep k.toNat a)) st' else .stuck
  | .mul, .loc m, .int k => match getL st' m with
    | some xs => if xs.length * k.toNat ≤ sizeLine ∧ k < 2 ^ 30 ∧ -(2 ^ 30) < k then newL st (rep k.toNat xs) st' else .stuck
    | none => .stuck
  | .fdiv, .int i, .int j => if 0 < j ∧ j < 1073741824 then .ok (.int (i / j)) st' else .stuck
  | .mod, .int i, .int j => if 0 < j then .ok (.int (i % j)) st' else .stuck
  | .pow, .int i, .int j => if 0 ≤ j ∧ j ≤ 1000000 ∧ i.natAbs < 2 ^ 64 then .ok (.int (i ^ j.toNat)) st' else .stuck
  | _, _, _ => .stuck
/-- x == y -/
def eqD (st : Store) : D → D → Option Bool
  | .loc m, .loc n => match getL st m, getL st n with
    | some xs, some ys => if D.datL xs = true ∧ D.datL ys = true ∧ min (D.depthL xs) (D.depthL ys) < 64 then some (D.eqvL xs ys) else none
    | _, _ => none
  | x, y => if D.dat x = true ∧ D.dat y = true ∧ min (D.depth x) (D.depth y) ≤ 64 then some (D.eqv x y) else none
/-! ### dicts: keys are ints and texts, or tuples of them -/
def isK : D → Bool
  | .int _ | .str _ => true
  | _ => false
def keyB (t : Bool) (d : D) : Bool := match t, d with
  | false, d => isK d
  | true, .tup ds => ds.all isK
  | true, _ => false
def mGet (kvs : List (D × D)) (k : D) : Option D := (kvs.find? fun p => D.beq p.1 k).map (·.2)
/-- in its place, or at the end -/
def mPut (kvs : List (D × D)) (k v : D) : List (D × D) := if (kvs.any fun p => D.beq p.1 k) = true then kvs.map (fun p => if D.beq p.1 k = true then (p.1, v) else p) else kvs ++ [(k, v)]
def getM (st : Store) (n : Nat) : Option (Bool × List (D × D)) := match st[n]? with
  | some (.dct t kvs) => some (t, kvs)
  | _ => none
def D.isNon : D → Bool
  | .non => true
  | _ => false
/-- x in a dict -/
def inM (st : Store) (n : Nat) (x : D) : Option Bool := match getM st n with
  | some p => if keyB p.1 x = true then some (mGet p.2 x).isSome else if p.1 = true ∧ x.isNon = true then some false else none
  | none => none
/-- d[y] -/
def idxM (st : Store) (n : Nat) (y : D) : Option D := match getM st n with
  | some p => if keyB p.1 y = true then mGet p.2 y else none
  | none => none
/-- d[y] = v -/
def setM (st : Store) (n : Nat) (y v : D) : Option Store := match getM st n with
  | some p => if keyB p.1 y = true ∧ p.2.length < sizeLine then some (st.set n (.dct p.1 (mPut p.2 y v))) else none
  | none => none
/-- a flat datum -/
def D.flat : D → Bool
  | .non | .bl _ | .int _ | .str _ => true
  | _ => false
/-- x in y -/
def inD (st : Store) (x : D) : D → Option Bool
  | .str z => match x with
    | .str [c] => some (decide (c ∈ z))
    | _ => none
  | .tup ys => if x.flat = true ∧ ys.all D.flat = true then some (ys.any fun y => D.eqv y x) else none
  | .loc n => match getL st n with
    | some ys => if x.flat = true ∧ ys.all D.flat = true then some (ys.any fun y => D.eqv y x)
      else if D.dat x = true ∧ D.datL ys = true ∧ D.depth x ≤ 62 ∧ D.depthL ys ≤ 62 then some (ys.any fun y => D.eqv y x) else none
    | none => inM st n x
  | _ => none
def cmpD (o : CmpOp) (x y : D) (st : Store) : Option Bool := match o with
  | .Eq => eqD st x y
  | .NotEq => (eqD st x y).map (!·)
  | .Lt => match x, y with
    | .int i, .int j => some (decide (i < j))
    | .str a, .str b => some (decide (a < b))
    | _, _ => none
  | .LtE => match x, y with
    | .int i, .int j => some (decide (i ≤ j))
    | .str a, .str b => some (!decide (b < a))
    | _, _ => none
  | .Gt => match x, y with
    | .int i, .int j => some (decide (j < i))
    | .str a, .str b => some (decide (b < a))
    | _, _ => none
  | .GtE => match x, y with
    | .int i, .int j => some (decide (j ≤ i))
    | .str a, .str b => some (!decide (a < b))
    | _, _ => none
  | .Is => match x, y with
    | x, .non => some x.isNon
    | .bl a, .bl b => some (a == b)
    | _, _ => none
  | .IsNot => match x, y with
    | x, .non => some (!x.isNon)
    | .bl a, .bl b => some (!(a == b))
    | _, _ => none
  | .In => inD st x y
  | .NotIn => (inD st x y).map (!·)

/-! ### subscripts, slices -/
def ixN (n : Nat) (i : Int) : Option Nat := L2.ixN n i
def atI {α : Type} (xs : List α) (i : Int) : Option α := (ixN xs.length i).bind fun j => xs[j]?
def idxD (st : Store) : D → D → Option D
  | .tup xs, .int i => atI xs i
  | .str s, .int i => (atI s i).map fun c => .str [c]
  | .scr ns, .int i => (atI ns i).map .int
  | .loc n, y => match getL st n with
    | some xs => (match y with
      | .int i => atI xs i
      | _ => none)
    | none => idxM st n y
  | _, _ => none
/-- of a list or a dict alone -/
def idxL (st : Store) (x y : D) : Option D := match x with
  | .loc n => match getL st n with
    | some xs => (match y with
      | .int i => atI xs i
      | _ => none)
    | none => idxM st n y
  | _ => none
def cutL {α : Type} (xs : List α) (lo hi : Option Int) : List α := (xs.drop (HT.sIx xs.length 0 lo)).take (HT.sIx xs.length xs.length hi - HT.sIx xs.length 0 lo)
noncomputable def slcD (st : Store) (x : D) (lo hi : Option Int) (st' : Store) : R D := match x with
  | .tup xs => .ok (.tup (cutL xs lo hi)) st'
  | .str s => .ok (.str (cutL s lo hi)) st'
  | .loc n => match getL st' n with
    | some xs => newL st (cutL xs lo hi) st'
    | none => .stuck
  | _ => .stuck

/-! ### built-ins -/
inductive Blt where
  | len | abs | int | max | min | tuple | list | sum | sorted
  deriving DecidableEq
def iterD (st : Store) : D → Option (List D)
  | .tup xs => some xs
  | .str s => some (s.map fun c => .str [c])
  | .loc n => getL st n
  | _ => none
def intsOf : List D → Option (List Int)
  | [] => some []
  | .int i :: r => (intsOf r).map (i :: ·)
  | _ :: _ => none
def maxI : Int → List Int → Int
  | m, [] => m
  | m, i :: r => maxI (if i > m then i else m) r
def minI : Int → List Int → Int
  | m, [] => m
  | m, i :: r => minI (if i < m then i else m) r
def lenD (st : Store) : D → Option Nat
  | .tup xs => some xs.length
  | .str s => some s.length
  | .scr ns => some ns.length
  | .loc n => match st[n]? with
    | some (.lst xs) => some xs.length
    | _ => none
  | _ => none
/-- the order that sorted uses: ints, texts, pairs of them by the first -/
def D.lt : D → D → Bool
  | .int i, .int j => decide (i < j)
  | .str a, .str b => decide (a < b)
  | _, _ => false
def insertD {α : Type} (lt : α → α → Bool) (x : α) : List α → List α
  | [] => [x]
  | y :: r => if lt x y then x :: y :: r else y :: insertD lt x r
/-- what can be sorted: alike data -/
def isTup : D → Bool
  | .tup _ => true
  | _ => false
def isTup1 : D → Bool
  | .tup (_ :: _) => true
  | _ => false
def sortOk (xs : List D) : Bool := D.datL xs && (xs.all fun a => xs.all fun b => PySem.W.alike a.py b.py) && (xs.all isTup1 || xs.all fun a => !isTup a && !decide (a.depth ≠ 0) && (match a with
  | .non => false
  | _ => true)) && decide (D.depthL xs ≤ 40)
noncomputable def bltD (st : Store) (b : Blt) (xs : List D) (st' : Store) : R D := match b, xs with
  | .len, [x] => R.of ((lenD st' x).map fun n => .int n) (cut st [] st')
  | .abs, [.int i] => .ok (.int (if i < 0 then -i else i)) st'
  | .int, [.int i] => .ok (.int i) st'
  | .int, [.bl k] => .ok (.int (if k then 1 else 0)) st'
  | .max, [.int i, .int j] => .ok (.int (if j > i then j else i)) st'
  | .min, [.int i, .int j] => .ok (.int (if j < i then j else i)) st'
  | .max, [.loc n] => match (getL st' n).bind intsOf with
    | some (i :: r) => .ok (.int (maxI i r)) (cut st [] st')
    | _ => .stuck
  | .min, [.loc n] => match (getL st' n).bind intsOf with
    | some (i :: r) => .ok (.int (minI i r)) (cut st [] st')
    | _ => .stuck
  | .sum, [.loc n] => match (getL st' n).bind intsOf with
    | some ns => .ok (.int ns.sum) (cut st [] st')
    | none => .stuck
  | .sorted, [.loc n] => match getL st' n with
    | some xs => if sortOk xs = true then newL st (xs.mergeSort (PySem.W.dataLe false D.py)) st' else .stuck
    | none => .stuck
  | .max, [.tup ds] => match intsOf ds with
    | some (i :: r) => .ok (.int (maxI i r)) (cut st [] st')
    | _ => .stuck
  | .min, [.tup ds] => match intsOf ds with
    | some (i :: r) => .ok (.int (minI i r)) (cut st [] st')
    | _ => .stuck
  | .tuple, [.tup ds] => .ok (.tup ds) st'
  | .tuple, [.loc n] => match getL st' n with
    | some ds => .ok (.tup ds) (cut st ds st')
    | none => .stuck
  | .list, [x] => match x with
    | .tup ds => newL st ds st'
    | .loc n => match getL st' n with
      | some ds => newL st ds st'
      | none => .stuck
    | _ => .stuck
  | _, _ => .stuck

/-! ### methods of built-in types -/
inductive Mth where
  | append | join | split | count | index | find | insert | extend
  deriving DecidableEq
def strsOf : List D → Option (List S)
  | [] => some []
  | .str s :: r => (strsOf r).map (s :: ·)
  | _ :: _ => none
def joinS (sep : S) : List S → S
  | [] => []
  | [p] => p
  | p :: q :: r => p ++ (sep ++ joinS sep (q :: r))
/-- cut at each sign c -/
def splitS (c : Nat) : S → S → List S
  | acc, [] => [acc]
  | acc, x :: r => if x = c then acc :: splitS c [] r else splitS c (acc ++ [x]) r
/-- a text of one sign -/
def one1 : D → Option Nat
  | .str [c] => some c
  | _ => none
theorem one1_eq {y : D} {c : Nat} (h : one1 y = some c) : y = .str [c] := by
  unfold one1 at h
  split at h
  · cases h; rfl
  · cases h
def isStr : D → Bool
  | .str _ => true
  | _ => false
noncomputable def mth1 (st : Store) (m : Mth) (x : D) (ys : List D) (st' : Store) : R D := match ys with
  | [y] => match m, x with
    | .append, .loc n => match getL st' n with
      | some xs => if xs.length < sizeLine then .ok .non (st'.set n (.lst (xs ++ [y]))) else .stuck
      | none => .stuck
    | .join, .str s => if isStr y = true then .stuck else match (iterD st' y).bind strsOf with
      | some ps => if (ps.map List.length).sum + ps.length * s.length ≤ sizeLine then .ok (.str (joinS s ps)) (cut st [] st') else .stuck
      | none => .stuck
    | .split, .str s => match one1 y with
      | some c => if s.length + 2 ≤ sizeLine ∧ c < 256 then newL st ((splitS c [] s).map .str) st' else .stuck
      | none => .stuck
    | .count, .str s => R.of ((one1 y).map fun c => .int (s.count c)) st'
    | .index, .str s => R.of ((one1 y).bind fun c => (s.findIdx? fun z => z == c).map fun k => .int (k : Nat)) st'
    | .find, .str s => R.of ((one1 y).map fun c => match s.findIdx? fun z => z == c with
      | some k => .int (k : Nat)
      | none => .int (-1)) st'
    | .index, .loc n => match getL st' n with
      | some xs => if y.flat = true ∧ xs.all D.flat = true then R.of ((xs.findIdx? fun z => D.eqv z y).map fun k => .int (k : Nat)) (cut st [] st')
        else if D.dat y = true ∧ D.datL xs = true ∧ D.depth y ≤ 62 ∧ D.depthL xs ≤ 62 then R.of ((xs.findIdx? fun z => D.eqv z y).map fun k => .int (k : Nat)) (cut st [] st') else .stuck
      | none => .stuck
    | .count, .loc n => match getL st' n with
      | some xs => if y.flat = true ∧ xs.all D.flat = true then .ok (.int (xs.countP fun z => D.eqv z y : Nat)) (cut st [] st') else .stuck
      | none => .stuck
    | _, _ => .stuck
  | _ => .stuck

/-- xs.insert(i, y) -/
def insD (x : D) (ys : List D) (st' : Store) : R D := match x, ys with
  | .loc n, [.int i, y] => match getL st' n with
    | some xs => if xs.length < sizeLine ∧ 0 ≤ i ∧ i < 2 ^ 63 then .ok .non (st'.set n (.lst (xs.take i.toNat ++ [y] ++ xs.drop i.toNat))) else .stuck
    | none => .stuck
  | _, _ => .stuck
/-- xs.extend(y) -/
def extD (x : D) (ys : List D) (st' : Store) : R D := match x, ys with
  | .loc n, [.tup zs] => match getL st' n with
    | some xs => if xs.length + zs.length ≤ sizeLine then .ok .non (st'.set n (.lst (xs ++ zs))) else .stuck
    | none => .stuck
  | .loc n, [.loc k] => match getL st' n, getL st' k with
    | some xs, some zs => if xs.length + zs.length ≤ sizeLine then .ok .non (st'.set n (.lst (xs ++ zs))) else .stuck
    | _, _ => .stuck
  | _, _ => .stuck
noncomputable def mthD (st : Store) (m : Mth) (x : D) (ys : List D) (st' : Store) : R D := match m with
  | .insert => insD x ys st'
  | .extend => extD x ys st'
  | m => mth1 st m x ys st'
/-- the receiver of a method is a list -/
def isLst (st : Store) : D → Bool
  | .loc n => (getL st n).isSome
  | _ => false
def mthK (st : Store) (x : D) : Mth → Bool
  | .append | .insert | .extend => isLst st x
  | .join | .split | .find => isStr x
  | .count | .index => isStr x || isLst st x

/-! ### terms -/
inductive Ty where
  | bool | int | str | tuple | list | cls (c : Nat) | valueError
  deriving DecidableEq
inductive T where
  | nil | cons (a r : T)
  | var (i : Nat) | con (d : D)
  | bin (o : Op) (a b : T) | neg (a : T) | not (a : T) | and (a b : T) | or (a b : T)
  | cmp (o : CmpOp) (a b : T) | chn (o p : CmpOp) (a b c : T)
  | call (f : Nat) (as : T) | blt (b : Blt) (as : T) | isi (a : T) (t : Ty)
  | mth (m : Mth) (o as : T) | omt (m : Nat) (o as : T) | new (c : Nat) (as : T)
  | att (o : T) (f : Nat) | idx (a b : T) | slc (a lo hi : T)
  | tup (as : T) | lst (as : T) | ite (c a b : T)
  | lc (own : List Nat) (tg it c elt : T)
  | dct (t : Bool) | dct1 (t : Bool) (k v : T) | sel (kvs : List (S × S)) (a : T)
  | lc2 (own vs : List Nat) (tg it tg1 it1 elt : T) | ink (neg : Bool) (a : T) (xs : List S)
  | rng (as : T) | rev (a : T)
  | asg (tg e : T) | aug (o : Op) (tg e : T) | exp (e : T) | ret (e : T) | retn | pas | brk
  | iff (c a b : T) | for (tg it b : T) | whl (c b : T)
  | rse (c : Nat) (as : T) | try (b hs : T) | hdl (c : Nat) (n : Option Nat) (b : T)
/-- the defs as functions of data; a class's methods and __init__; below which class a class stands -/
structure Cf where
  fn : Nat → List D → Store → R D
  mt : Nat → Nat → Option Nat
  ini : Nat → Option Nat
  sub : Nat → Nat → Bool

/-- a built-in type of a test -/
def Ty.plain : Ty → Bool
  | .cls _ | .valueError => false
  | _ => true
def isTy (cf : Cf) (st : Store) (t : Ty) : D → Option Bool
  | .non => if t.plain = true then some false else none
  | .bl _ => if t.plain = true then some (decide (t = .bool) || decide (t = .int)) else none
  | .int _ => if t.plain = true then some (decide (t = .int)) else none
  | .str _ => if t.plain = true then some (decide (t = .str)) else none
  | .tup _ => if t.plain = true then some (decide (t = .tuple)) else none
  | .loc n => match st[n]? with
    | some (.lst _) => if t.plain = true then some (decide (t = .list)) else none
    | some (.exn c _) => match t with
      | .cls k => some (cf.sub c k)
      | .valueError => some true
      | _ => none
    | _ => none
  | .fn _ => none
  | .scr _ => none
def lookF (f : Nat) : List (Nat × D) → Option D
  | [] => none
  | p :: r => if p.1 = f then some p.2 else lookF f r
def setF (f : Nat) (d : D) : List (Nat × D) → List (Nat × D)
  | [] => [(f, d)]
  | p :: r => if p.1 = f then (f, d) :: r else p :: setF f d r
def attD (st : Store) (f : Nat) : D → Option D
  | .loc n => match st[n]? with
    | some (.ins _ fs) => lookF f fs
    | some (.exn _ fs) => lookF f fs
    | _ => none
  | _ => none
/-- a slot's value, a slot forgotten -/
def Env.get (env : Env) (i : Nat) : Option D := (env[i]?).join
def wipe (env : Env) : List Nat → Env
  | [] => env
  | v :: vs => (wipe env vs).set v none
/-- names bound to a datum: one name, or names in a row -/
def bindV : T → D → Env → Option Env
  | .var i, d, env => if i < env.length then some (env.set i (some d)) else none
  | .tup ts, .tup ds, env => bindVs ts ds env
  | _, _, _ => none
where bindVs : T → List D → Env → Option Env
  | .nil, [], env => some env
  | .cons (.var i) r, d :: ds, env => if i < env.length then bindVs r ds (env.set i (some d)) else none
  | _, _, _ => none
/-- the source of a walk stands -/
def srcOk (src : Option (Nat × List D)) (st : Store) : Prop := match src with
  | some p => st[p.1]? = some (.lst p.2)
  | none => True
open Classical in
/-- a comprehension's turns -/
noncomputable def lcL (src : Option (Nat × List D)) (f : D → Store → R (Option D)) : List D → List D → Store → R (List D)
  | [], acc, st => if srcOk src st then .ok acc st else .stuck
  | x :: r, acc, st => if srcOk src st then (f x st).bind fun o st' => match o with
      | some d => if acc.length < sizeLine then lcL src f r (acc ++ [d]) st' else .stuck
      | none => lcL src f r acc st'
    else .stuck
theorem lcL_nil {src : Option (Nat × List D)} {f : D → Store → R (Option D)} {acc : List D} {st : Store} (ok : srcOk src st) : lcL src f [] acc st = .ok acc st := by
  unfold lcL; rw [if_pos ok]
theorem lcL_cons {src : Option (Nat × List D)} {f : D → Store → R (Option D)} {x : D} {r acc : List D} {st : Store} (ok : srcOk src st) : lcL src f (x :: r) acc st = (f x st).bind fun o st' => match o with
      | some d => if acc.length < sizeLine then lcL src f r (acc ++ [d]) st' else .stuck
      | none => lcL src f r acc st' := by
  conv => lhs; unfold lcL
  rw [if_pos ok]
theorem lcL_no {src : Option (Nat × List D)} {f : D → Store → R (Option D)} {xs acc : List D} {st : Store} (ok : ¬ srcOk src st) : lcL src f xs acc st = .stuck := by
  cases xs with
  | nil => unfold lcL; rw [if_neg ok]
  | cons x r => unfold lcL; rw [if_neg ok]
open Classical in
/-- the turns of a comprehension's first clause: what is made so far is handed on -/
noncomputable def lcL2 (src : Option (Nat × List D)) (f : D → List D → Store → R (List D)) : List D → List D → Store → R (List D)
  | [], acc, st => if srcOk src st then .ok acc st else .stuck
  | x :: r, acc, st => if srcOk src st then (f x acc st).bind fun acc' st' => lcL2 src f r acc' st' else .stuck
theorem lcL2_nil {src : Option (Nat × List D)} {f : D → List D → Store → R (List D)} {acc : List D} {st : Store} (ok : srcOk src st) : lcL2 src f [] acc st = .ok acc st := by
  unfold lcL2; rw [if_pos ok]
theorem lcL2_cons {src : Option (Nat × List D)} {f : D → List D → Store → R (List D)} {x : D} {r acc : List D} {st : Store} (ok : srcOk src st) : lcL2 src f (x :: r) acc st = (f x acc st).bind fun acc' st' => lcL2 src f r acc' st' := by
  conv => lhs; unfold lcL2
  rw [if_pos ok]
theorem lcL2_no {src : Option (Nat × List D)} {f : D → List D → Store → R (List D)} {xs acc : List D} {st : Store} (ok : ¬ srcOk src st) : lcL2 src f xs acc st = .stuck := by
  cases xs with
  | nil => unfold lcL2; rw [if_neg ok]
  | cons x r => unfold lcL2; rw [if_neg ok]
noncomputable def argI (d : D) : Option Int := match d with
  | .int i => if -(2 ^ 62) ≤ i ∧ i < 2 ^ 62 then some i else none
  | _ => none
def rangeD (lo : Int) (n : Nat) : List D := (List.range n).map fun (k : Nat) => D.int (lo + (k : Int))

mutual
noncomputable def ev (cf : Cf) : T → Env → Store → R D
  | .var i, env, st => R.of (env.get i) st
  | .con d, _, st => .ok d st
  | .bin o a b, env, st => (ev cf a env st).bind fun x st1 => (ev cf b env st1).bind fun y st2 => binD st o x y st2
  | .neg a, env, st => (ev cf a env st).bind fun x st1 => match x with
    | .int i => .ok (.int (-i)) st1
    | _ => .stuck
  | .not a, env, st => (ev cf a env st).bind fun x st1 => match x with
    | .bl c => .ok (.bl (!c)) st1
    | _ => .stuck
  | .and a b, env, st => (ev cf a env st).bind fun x st1 => match x with
    | .bl true => ev cf b env st1
    | .bl false => .ok (.bl false) st1
    | _ => .stuck
  | .or a b, env, st => (ev cf a env st).bind fun x st1 => match x with
    | .bl false => ev cf b env st1
    | .bl true => .ok (.bl true) st1
    | _ => .stuck
  | .cmp o a b, env, st => (ev cf a env st).bind fun x st1 => (ev cf b env st1).bind fun y st2 => R.of ((cmpD o x y st2).map .bl) (cut st [] st2)
  | .chn o p a b c, env, st => (ev cf a env st).bind fun x st1 => (ev cf b env st1).bind fun y st2 => match cmpD o x y st2 with
    | some true => (ev cf c env st2).bind fun z st3 => R.of ((cmpD p y z st3).map .bl) (cut st [] st3)
    | some false => .ok (.bl false) (cut st [] st2)
    | none => .stuck
  | .call f as, env, st => (evs cf as env st).bind fun ds st1 => cf.fn f ds st1
  | .blt b as, env, st => (evs cf as env st).bind fun ds st1 => bltD st b ds st1
  | .isi a t, env, st => (ev cf a env st).bind fun x st1 => R.of ((isTy cf st1 t x).map .bl) st1
  | .mth m o as, env, st => (ev cf o env st).bind fun x st1 => if mthK st1 x m = true then (evs cf as env st1).bind fun ds st2 => mthD st m x ds st2 else .stuck
  | .omt m o as, env, st => (ev cf o env st).bind fun x st1 => match x with
    | .loc n => match st1[n]? with
      | some (.ins c fs) => match cf.mt c m with
        | some f => (evs cf as env st1).bind fun ds st2 => cf.fn f (.loc n :: ds) st2
        | none => .stuck
      | _ => .stuck
    | _ => .stuck
  | .new c as, env, st => (evs cf as env st).bind fun ds st1 => match cf.ini c with
    | some f => (cf.fn f (.loc st1.length :: ds) (st1 ++ [.ins c []])).bind fun d st2 => match d with
      | .non => .ok (.loc st1.length) st2
      | _ => .stuck
    | none => .stuck
  | .att o f, env, st => (ev cf o env st).bind fun x st1 => R.of (attD st1 f x) st1
  | .idx a b, env, st => (ev cf a env st).bind fun x st1 => (ev cf b env st1).bind fun y st2 => gc st (R.of (idxD st2 x y) st2)
  | .slc a lo hi, env, st => (ev cf a env st).bind fun x st1 => (evp cf lo env st1).bind fun l st2 => (evp cf hi env st2).bind fun h st3 => slcD st x l h st3
  | .tup as, env, st => (evs cf as env st).bind fun ds st1 => if ds.length ≤ sizeLine then .ok (.tup ds) st1 else .stuck
  | .lst as, env, st => (evs cf as env st).bind fun ds st1 => newL st ds st1
  | .ite c a b, env, st => (ev cf c env st).bind fun x st1 => match x with
    | .bl true => ev cf a env st1
    | .bl false => ev cf b env st1
    | _ => .stuck
  | .lc own tg it c elt, env, st => (evi cf it env st).bind fun w st1 =>
      (lcL w.2 (fun x st2 => match bindV tg x (wipe env own) with
        | some env2 => ((evc cf c env2 st2).bind fun k st3 => if k = true then (ev cf elt env2 st3).bind fun d st4 => .ok (some d) st4 else .ok none st3).nox
        | none => .stuck) w.1 [] st1).bind fun xs st2 => newL st xs st2
  | .lc2 own vs tg it tg1 it1 elt, env, st => (evi cf it env st).bind fun w st1 =>
      (lcL2 w.2 (fun x acc st2 => match bindV tg x (wipe env own) with
        | some env2 => ((evt cf it1 env2 st2).bind fun ys st3 => lcL none (fun y st4 => match bindV tg1 y (wipe env2 vs) with
          | some env3 => ((ev cf elt env3 st4).bind fun d st5 => .ok (some d) st5).nox
          | none => .stuck) ys acc st3).nox
        | none => .stuck) w.1 [] st1).bind fun xs st2 => newL st xs st2
  | .ink neg a xs, env, st => (ev cf a env st).bind fun x st1 => match x with
    | .str z => .ok (.bl (xor neg (xs.contains z))) st1
    | _ => .stuck
  | .dct t, _, st => .ok (.loc st.length) (st ++ [.dct t []])
  | .dct1 t k v, env, st => (ev cf k env st).bind fun x st1 => (ev cf v env st1).bind fun y st2 => if keyB t x = true then .ok (.loc (cut st [x, y] st2).length) (cut st [x, y] st2 ++ [.dct t [(x, y)]]) else .stuck
  | .sel kvs a, env, st => (ev cf a env st).bind fun x st1 => match x with
    | .str z => R.of ((kvs.find? fun p => decide (p.1 = z)).map fun p => .str p.2) st1
    | _ => .stuck
  | .nil, _, _ | .cons .., _, _ | .rng .., _, _ | .rev .., _, _ | .asg .., _, _ | .aug .., _, _ | .exp .., _, _ | .ret .., _, _ | .retn, _, _ | .pas, _, _ | .brk, _, _
  | .iff .., _, _ | .for .., _, _ | .whl .., _, _ | .rse .., _, _ | .try .., _, _ | .hdl .., _, _ => .stuck
/-- a row of expressions -/
noncomputable def evs (cf : Cf) : T → Env → Store → R (List D)
  | .nil, _, st => .ok [] st
  | .cons a r, env, st => (ev cf a env st).bind fun x st1 => (evs cf r env st1).bind fun xs st2 => .ok (x :: xs) st2
  | _, _, _ => .stuck
/-- a slice's part -/
noncomputable def evp (cf : Cf) : T → Env → Store → R (Option Int)
  | .nil, _, st => .ok none st
  | .cons a _, env, st => (ev cf a env st).bind fun x st1 => match x with
    | .int i => .ok (some i) st1
    | _ => .stuck
  | _, _, _ => .stuck
/-- a comprehension's test -/
noncomputable def evc (cf : Cf) : T → Env → Store → R Bool
  | .nil, _, st => .ok true st
  | .cons a _, env, st => (ev cf a env st).bind fun x st1 => match x with
    | .bl k => .ok k st1
    | _ => .stuck
  | _, _, _ => .stuck
/-- what a second clause walks: a tuple, a range -/
noncomputable def evt (cf : Cf) : T → Env → Store → R (List D)
  | .rng as, env, st => (evs cf as env st).bind fun ds st1 => match ds with
    | [d] => R.of ((argI d).map fun j => rangeD 0 j.toNat) st1
    | [d, e] => R.of ((argI d).bind fun i => (argI e).map fun j => rangeD i (j - i).toNat) st1
    | _ => .stuck
  | .cons a _, env, st => (ev cf a env st).bind fun x st1 => match x with
    | .tup xs => .ok xs st1
    | _ => .stuck
  | _, _, _ => .stuck
/-- what is walked: its items; the place of the list that stands, what stands there -/
noncomputable def evi (cf : Cf) : T → Env → Store → R (List D × Option (Nat × List D))
  | .rng as, env, st => (evs cf as env st).bind fun ds st1 => match ds with
    | [d] => R.of ((argI d).map fun j => (rangeD 0 j.toNat, none)) st1
    | [d, e] => R.of ((argI d).bind fun i => (argI e).map fun j => (rangeD i (j - i).toNat, none)) st1
    | _ => .stuck
  | .rev a, env, st => (ev cf a env st).bind fun x st1 => match x with
    | .tup xs => .ok (xs.reverse, none) st1
    | .loc n => match getL st1 n with
      | some xs => if n < (cut st xs st1).length then .ok (xs.reverse, some (n, xs)) (cut st xs st1) else .ok (xs.reverse, none) (cut st xs st1)
      | none => .stuck
    | _ => .stuck
  | .cons a _, env, st => (ev cf a env st).bind fun x st1 => match x with
    | .tup xs => .ok (xs, none) st1
    | .str s => .ok (s.map fun c => .str [c], none) st1
    | .loc n => match getL st1 n with
      | some xs => if n < (cut st xs st1).length then .ok (xs, some (n, xs)) (cut st xs st1) else .ok (xs, none) (cut st xs st1)
      | none => .stuck
    | _ => .stuck
  | _, _, _ => .stuck
end

/-! ### statements -/
inductive O where
  | nx (env : Env) | rt (d : D) | bk (env : Env)
inductive RS where
  | ok (o : O) (st : Store)
  | exc (c : Nat) (fs : List (Nat × D)) (env : Env) (st : Store)
  | stuck
/-- an expression, then a statement's rest -/
def R.go {α : Type} (r : R α) (env : Env) (f : α → Store → RS) : RS := match r with
  | .ok a st => f a st
  | .exc c fs st => .exc c fs env st
  | .stuck => .stuck
@[simp] theorem R.go_ok {α : Type} (a : α) (st : Store) (env : Env) (f : α → Store → RS) : (R.ok a st).go env f = f a st := (rfl)
@[simp] theorem R.go_exc {α : Type} (c : Nat) (fs : List (Nat × D)) (st : Store) (env : Env) (f : α → Store → RS) : (R.exc c fs st : R α).go env f = .exc c fs env st := (rfl)
@[simp] theorem R.go_stuck {α : Type} (env : Env) (f : α → Store → RS) : (R.stuck : R α).go env f = .stuck := (rfl)
/-- what follows a statement that ends by itself -/
def RS.seq (r : RS) (f : Env → Store → RS) : RS := match r with
  | .ok (.nx env) st => f env st
  | r => r
@[simp] theorem RS.seq_nx (env : Env) (st : Store) (f : Env → Store → RS) : (RS.ok (.nx env) st).seq f = f env st := (rfl)
@[simp] theorem RS.seq_rt (d : D) (st : Store) (f : Env → Store → RS) : (RS.ok (.rt d) st).seq f = .ok (.rt d) st := (rfl)
@[simp] theorem RS.seq_bk (env : Env) (st : Store) (f : Env → Store → RS) : (RS.ok (.bk env) st).seq f = .ok (.bk env) st := (rfl)
@[simp] theorem RS.seq_exc (c : Nat) (fs : List (Nat × D)) (env : Env) (st : Store) (f : Env → Store → RS) : (RS.exc c fs env st).seq f = .exc c fs env st := (rfl)
@[simp] theorem RS.seq_stuck (f : Env → Store → RS) : RS.stuck.seq f = .stuck := (rfl)
/-- o[i] = v, by values -/
def setI (x y v : D) (st : Store) : Option Store := match x with
  | .loc n => match getL st n with
    | some xs => (match y with
      | .int i => (ixN xs.length i).map fun j => st.set n (.lst (xs.set j v))
      | _ => none)
    | none => setM st n y v
  | _ => none
def setA (x : D) (f : Nat) (v : D) (st : Store) : Option Store := match x with
  | .loc n => match st[n]? with
    | some (.ins c fs) => if fs.length < 900 then some (st.set n (.ins c (setF f v fs))) else none
    | _ => none
  | _ => none
/-- the class of an instance -/
def insC (st : Store) (x : D) : Option Nat := match x with
  | .loc n => match st[n]? with
    | some (.ins c _) => some c
    | _ => none
  | _ => none
def RS.ofS (o : Option Store) (env : Env) : RS := match o with
  | some st => .ok (.nx env) st
  | none => .stuck
/-- one target -/
noncomputable def asg1 (cf : Cf) : T → D → Env → Store → RS
  | .var i, d, env, st => if i < env.length then .ok (.nx (env.set i (some d))) st else .stuck
  | .idx a b, d, env, st => (ev cf a env st).go env fun x st1 => (ev cf b env st1).go env fun y st2 => RS.ofS (setI x y d st2) env
  | .att o f, d, env, st => (ev cf o env st).go env fun x st1 => RS.ofS (setA x f d st1) env
  | _, _, _, _ => .stuck
noncomputable def asgs (cf : Cf) : T → List D → Env → Store → RS
  | .nil, [], env, st => .ok (.nx env) st
  | .cons t r, d :: ds, env, st => (asg1 cf t d env st).seq fun env1 st1 => asgs cf r ds env1 st1
  | _, _, _, _ => .stuck
def lenT : T → Nat
  | .cons _ r => lenT r + 1
  | _ => 0
noncomputable def asgT (cf : Cf) : T → D → Env → Store → RS
  | .tup ts, d, env, st => match d with
    | .tup ds => if ds.length = lenT ts then asgs cf ts ds env st else .stuck
    | .loc n => match getL st n with
      | some ds => if ds.length = lenT ts then asgs cf ts ds env st else .stuck
      | none => .stuck
    | _ => .stuck
  | t, d, env, st => asg1 cf t d env st
open Classical in
/-- a for's turns -/
noncomputable def forL (src : Option (Nat × List D)) (bind : D → Env → Option Env) (body : Env → Store → RS) : List D → Env → Store → RS
  | [], env, st => if srcOk src st then .ok (.nx env) st else .stuck
  | x :: r, env, st => if srcOk src st then (match bind x env with
      | some env1 => match body env1 st with
        | .ok (.nx env2) st2 => forL src bind body r env2 st2
        | .ok (.bk env2) st2 => .ok (.nx env2) st2
        | o => o
      | none => .stuck)
    else .stuck
/-- a while's turns, at most k -/
noncomputable def whlL (test : Env → Store → R D) (body : Env → Store → RS) : Nat → Env → Store → RS
  | 0, _, _ => .stuck
  | k + 1, env, st => (test env st).go env fun x st1 => match x with
    | .bl true => (match body env st1 with
      | .ok (.nx env2) st2 => whlL test body k env2 st2
      | .ok (.bk env2) st2 => .ok (.nx env2) st2
      | o => o)
    | .bl false => .ok (.nx env) st1
    | _ => .stuck
/-- so many turns a while may take -/
def fuel : Nat := 1000000000
/-- x op= y, by values: ints, texts -/
def augD (o : Op) (x y : D) : Option D := match o, x, y with
  | .add, .int i, .int j => some (.int (i + j))
  | .sub, .int i, .int j => some (.int (i - j))
  | .add, .str a, .str b => if a.length + b.length ≤ sizeLine then some (.str (a ++ b)) else none
  | _, _, _ => none
/-- target op= y -/
noncomputable def augT (cf : Cf) (o : Op) : T → (Env → Store → R D) → Env → Store → RS
  | .var i, e, env, st => match env.get i with
    | some x => (e env st).go env fun y st1 => match augD o x y with
      | some d => if i < env.length then .ok (.nx (env.set i (some d))) st1 else .stuck
      | none => .stuck
    | none => .stuck
  | .att a f, e, env, st => (ev cf a env st).go env fun x st1 => match insC st1 x, attD st1 f x with
    | some c, some old => (e env st1).go env fun y st2 => if insC st2 x = some c then (match augD o old y with
      | some d => RS.ofS (setA x f d st2) env
      | none => .stuck) else .stuck
    | _, _ => .stuck
  | .idx a b, e, env, st => (ev cf a env st).go env fun x st1 => (ev cf b env st1).go env fun i st2 => match idxL st2 x i with
    | some old => (e env st2).go env fun y st3 => match augD o old y with
      | some d => RS.ofS (setI x i d st3) env
      | none => .stuck
    | none => .stuck
  | _, _, _, _ => .stuck
def zipF : List Nat → List D → Option (List (Nat × D))
  | [], [] => some []
  | f :: r, d :: ds => (zipF r ds).map ((f, d) :: ·)
  | _, _ => none
mutual
/-- a statement; a row of statements -/
noncomputable def ex (cf : Cf) (xf : Nat → Option (List Nat)) : T → Env → Store → RS
  | .nil, env, st => .ok (.nx env) st
  | .cons a r, env, st => (ex cf xf a env st).seq fun env1 st1 => ex cf xf r env1 st1
  | .asg t e, env, st => (ev cf e env st).go env fun d st1 => asgT cf t d env st1
  | .aug o t e, env, st => augT cf o t (ev cf e) env st
  | .exp e, env, st => (ev cf e env st).go env fun _ st1 => .ok (.nx env) st1
  | .ret e, env, st => (ev cf e env st).go env fun d st1 => .ok (.rt d) st1
  | .retn, _, st => .ok (.rt .non) st
  | .pas, env, st => .ok (.nx env) st
  | .brk, env, st => .ok (.bk env) st
  | .iff c a b, env, st => (ev cf c env st).go env fun x st1 => match x with
    | .bl true => ex cf xf a env st1
    | .bl false => ex cf xf b env st1
    | _ => .stuck
  | .for tg it b, env, st => (evi cf it env st).go env fun w st1 => forL w.2 (bindV tg) (ex cf xf b) w.1 env st1
  | .whl c b, env, st => whlL (ev cf c) (ex cf xf b) fuel env st
  | .rse c as, env, st => (evs cf as env st).go env fun ds st1 => match (xf c).bind fun l => zipF l ds with
    | some fs => .exc c fs env st1
    | none => .stuck
  | .try b hs, env, st => match ex cf xf b env st with
    | .exc c fs env1 st1 => if (xf c).isSome = true then exh cf xf hs c fs env1 st1 else .stuck
    | o => o
  | .var _, _, _ | .con _, _, _ | .bin .., _, _ | .neg _, _, _ | .not _, _, _ | .and .., _, _ | .or .., _, _ | .cmp .., _, _ | .chn .., _, _ | .call .., _, _ | .blt .., _, _ | .isi .., _, _
  | .mth .., _, _ | .omt .., _, _ | .new .., _, _ | .att .., _, _ | .idx .., _, _ | .slc .., _, _ | .tup _, _, _ | .lst _, _, _ | .ite .., _, _ | .lc .., _, _ | .rng .., _, _ | .rev .., _, _ | .hdl .., _, _ | .dct _, _, _ | .dct1 .., _, _ | .sel .., _, _ | .lc2 .., _, _ | .ink .., _, _ => .stuck
/-- the clauses of a try -/
noncomputable def exh (cf : Cf) (xf : Nat → Option (List Nat)) : T → Nat → List (Nat × D) → Env → Store → RS
  | .cons (.hdl k n b) r, c, fs, env, st => if cf.sub c k = true then (match n with
      | some i => if i < env.length then (match ex cf xf b (env.set i (some (.loc st.length))) (st ++ [.exn c fs]) with
          | .ok (.nx env2) st2 => .ok (.nx (env2.set i none)) st2
          | .ok (.bk env2) st2 => .ok (.bk (env2.set i none)) st2
          | .ok (.rt d) st2 => .ok (.rt d) st2
          | _ => .stuck)
        else .stuck
      | none => match ex cf xf b env st with
          | .ok o st2 => .ok o st2
          | _ => .stuck)
    else exh cf xf r c fs env st
  | .nil, c, fs, env, st => .exc c fs env st
  | _, _, _, _, _ => .stuck
end

/-- a def: how many parameters, how many slots, its body -/
structure FD where
  pars : Nat
  slots : Nat
  body : T
structure Prog where
  defs : List FD
  mt : Nat → Nat → Option Nat
  ini : Nat → Option Nat
  sub : Nat → Nat → Bool
  xf : Nat → Option (List Nat)
def Prog.cf (P : Prog) (fn : Nat → List D → Store → R D) : Cf := ⟨fn, P.mt, P.ini, P.sub⟩
/-- a body's end as a call's -/
noncomputable def RS.back (st : Store) (r : RS) : R D := match r with
  | .ok (.rt d) st' => .ok d (cut st [d] st')
  | .ok (.nx _) st' => .ok .non (cut st [] st')
  | .exc c fs _ st' => .exc c fs (cut st (fs.map (·.2)) st')
  | _ => .stuck
noncomputable def run (P : Prog) (fn : Nat → List D → Store → R D) (fd : FD) (ds : List D) (st : Store) : R D :=
  if ds.length = fd.pars then (ex (P.cf fn) P.xf fd.body (ds.map some ++ List.replicate (fd.slots - fd.pars) none) st).back st else .stuck
/-- the defs, as far as k calls, one in another, go -/
noncomputable def callF (P : Prog) : Nat → Nat → List D → Store → R D
  | 0, _, _, _ => .stuck
  | k + 1, f, ds, st => match P.defs[f]? with
    | some fd => run P (callF P k) fd ds st
    | none => .stuck
end Dk
/-! Dk2: how data stand for values, a store for the abstract heap; readings told by the little language. -/
namespace Dk
open PySem PySem.Spec PyProof.Rows L2

abbrev St := L2.St
/-- names: where the defs and classes stand, what fields and methods are called -/
structure Nm where
  fnA : Nat → Addr
  clA : Nat → Addr
  fld : Nat → Str
  isIns : Nat → Bool
  isExn : Nat → Bool
def mkS (s : S) : Str := ⟨s.toArray⟩
@[simp] theorem mkS_list (s : S) : (mkS s).cps.toList = s := by simp [mkS]
@[simp] theorem mkS_length (s : S) : (mkS s).length = s.length := by simp [mkS, Str.length]
theorem mkS_of (x : Str) : mkS x.cps.toList = x := by cases x; simp [mkS]
theorem mkS_inj {a b : S} (h : mkS a = mkS b) : a = b := by rw [← mkS_list a, h, mkS_list]
/-- a text of the model -/
structure TxtOk (s : S) : Prop where
  len : s.length ≤ sizeLine
  cp : ∀ c ∈ s, c < 0x110000

/-- a list that nobody writes -/
def SqF (K : PySem.W.Frag) (H : Hp) (a : Addr) (xs : List V) : Prop :=
  (∃ o, H a = some (.frz o (.lst xs))) ∨ ∃ (o : Obj) (its : Array Value) (n : Nat), K.lookup a = some o ∧ o.cls = .type "list" ∧ o.dict = none ∧ o.data = .seq its n ∧ its.size ≤ sizeLine ∧ Vals xs its.toList
theorem SqF.sq {K : PySem.W.Frag} {H : Hp} {a : Addr} {xs : List V} (h : SqF K H a xs) : SqL K H a xs := h.elim (fun ⟨o, z⟩ => .inl (.inr ⟨o, z⟩)) .inr
section
variable (K : PySem.W.Frag) (N : Nm)
mutual
def RD (m : List Addr) (H : Hp) : D → V → Prop
  | .non, v => v = .non
  | .bl b, v => v = .bl b
  | .int i, v => v = .int i
  | .str s, v => v = .str (mkS s) ∧ TxtOk s
  | .tup ds, v => ∃ a vs, v = .ref a ∧ H a = some (.tup vs) ∧ RDs m H ds vs
  | .loc n, v => ∃ a, v = .ref a ∧ m[n]? = some a
  | .fn i, v => v = .ref (N.fnA i)
  | .scr ns, v => ∃ a, v = .ref a ∧ SqF K H a (ns.map V.int)
def RDs (m : List Addr) (H : Hp) : List D → List V → Prop
  | [], vs => vs = []
  | d :: ds, vs => ∃ v r, vs = v :: r ∧ RD m H d v ∧ RDs m H ds r
end
/-- a key: an int, a text -/
def keyK : D → Option Key
  | .int i => some (.inl i)
  | .str s => some (.inr (mkS s))
  | _ => none
def keysK : List D → Option (List Key)
  | [] => some []
  | d :: r => match keyK d, keysK r with
    | some k, some ks => some (k :: ks)
    | _, _ => none
def RK (m : List Addr) (H : Hp) : List (D × D) → List (Key × V) → Prop := Paired fun p q => keyK p.1 = some q.1 ∧ TxtK p.1 ∧ RD K N m H p.2 q.2
where TxtK : D → Prop
  | .str s => TxtOk s
  | _ => True
def RT (m : List Addr) (H : Hp) : List (D × D) → List (List Key × V) → Prop := Paired fun p q => (∃ ds, p.1 = .tup ds ∧ keysK ds = some q.1 ∧ ∀ d ∈ ds, RK.TxtK d) ∧ RD K N m H p.2 q.2
/-- a dict -/
def RM (m : List Addr) (H : Hp) (t : Bool) (kvs : List (D × D)) (a : Addr) : Prop := (t = false ∧ ∃ xs, H a = some (.dK xs) ∧ RK K N m H kvs xs) ∨ (t = true ∧ ∃ xs, H a = some (.dT xs) ∧ RT K N m H kvs xs)
def RF (m : List Addr) (H : Hp) : List (Nat × D) → List (Str × V) → Prop := Paired fun p q => q.1 = N.fld p.1 ∧ RD K N m H p.2 q.2
/-- the object of a caught error -/
def ExO (oe : Obj) (a : Addr) : HO := .ext fun h => h.get? a = some oe
/-- what stands at a place -/
def RC (m : List Addr) (H : Hp) : C → Addr → Prop
  | .lst ds, a => ∃ vs, H a = some (.lst vs) ∧ RDs K N m H ds vs
  | .dct t kvs, a => RM K N m H t kvs a
  | .ins c fs, a => N.isIns c = true ∧ ∃ dx vs, H a = some (.ins (N.clA c) dx vs) ∧ RF K N m H fs vs
  | .exn c fs, a => N.isExn c = true ∧ ∃ oe d vs fv, H a = some (ExO oe a) ∧ oe.cls = .ref (N.clA c) ∧ oe.dict = some d ∧ oe.data = .fields fv ∧ H d = some (.xd vs) ∧ d ∉ m ∧ RF K N m H fs vs
structure HR (m : List Addr) (H : Hp) (st : Store) : Prop where
  len : m.length = st.length
  nd : m.Nodup
  at_ : ∀ (i : Nat) c a, st[i]? = some c → m[i]? = some a → RC K N m H c a
/-- m grows, what is not named by m stands -/
structure Ext (m : List Addr) (H : Hp) (m' : List Addr) (H' : Hp) : Prop where
  pre : ∃ t, m' = m ++ t
  keep : ∀ a o, H a = some o → a ∉ m → H' a = some o ∧ a ∉ m'
def ER (m : List Addr) (H : Hp) (σ : St) (env : Env) : Prop := σ.length = env.length ∧ ∀ i d, env.get i = some d → ∃ v, σ[i]? = some (some v) ∧ RD K N m H d v
/-- an error's own dict -/
def XD (m : List Addr) (H : Hp) (dd : Addr) (fs : List (Nat × D)) : Prop := ∃ vs, H dd = some (.xd vs) ∧ dd ∉ m ∧ RF K N m H fs vs
/-- what is wanted behind a term -/
def Pst {α β : Type} (rel : List Addr → Hp → α → β → Prop) (m : List Addr) (H : Hp) (r : R α) (Q : β → Hp → Prop) (W : XK) : Prop := match r with
  | .ok a st' => ∀ b H' m', Ext m H m' H' → HR K N m' H' st' → rel m' H' a b → Q b H'
  | .exc c fs st' => ∀ dd H' m', Ext m H m' H' → HR K N m' H' st' → XD K N m' H' dd fs → W (.ref (N.clA c)) (some dd) H'
  | .stuck => False
/-- the reading that a function of data tells -/
def LE (f : Env → Store → R D) (W : WX) : TE := fun σ H Q => ∃ m env st, HR K N m H st ∧ ER K N m H σ env ∧ Pst K N (RD K N) m H (f env st) Q fun c d H' => W c d σ H'
def LA (f : Env → Store → R (List D)) (W : WX) : TA := fun σ H Q => ∃ m env st, HR K N m H st ∧ ER K N m H σ env ∧ Pst K N (RDs K N) m H (f env st) Q fun c d H' => W c d σ H'
end

section
variable {K : PySem.W.Frag} {N : Nm} {m m' m1 m2 : List Addr} {H H' H1 H2 : Hp} {st st' : Store} {σ : St} {env : Env}
/-! ### Ext -/
theorem Ext.refl : Ext m H m H := ⟨⟨[], by simp⟩, fun _ _ e n => ⟨e, n⟩⟩
theorem Ext.trans (a : Ext m H m1 H1) (b : Ext m1 H1 m2 H2) : Ext m H m2 H2 := by
  obtain ⟨t, e⟩ := a.pre
  obtain ⟨u, e'⟩ := b.pre
  exact ⟨⟨t ++ u, by rw [e', e, List.append_assoc]⟩, fun x o hx n => (a.keep x o hx n).elim fun p q => b.keep x o p q⟩
theorem Ext.get (a : Ext m H m1 H1) {i : Nat} {x : Addr} (h : m[i]? = some x) : m1[i]? = some x := by
  obtain ⟨t, e⟩ := a.pre
  rw [e, List.getElem?_append_left (List.getElem?_eq_some_iff.mp h).1]
  exact h
theorem Ext.len (a : Ext m H m1 H1) : m.length ≤ m1.length := by
  obtain ⟨t, e⟩ := a.pre
  rw [e, List.length_append]; omega
theorem Ext.mem (a : Ext m H m1 H1) {x : Addr} (h : x ∈ m) : x ∈ m1 := by
  obtain ⟨t, e⟩ := a.pre
  rw [e]; exact List.mem_append_left _ h
theorem Ext.take (a : Ext m H m1 H1) : m1.take m.length = m := by
  obtain ⟨t, e⟩ := a.pre
  rw [e]; simp

/-! ### what is at a place is no tuple -/
def NT (m : List Addr) (H : Hp) : Prop := ∀ a ∈ m, ∃ o, H a = some o ∧ (∀ xs, o ≠ .tup xs) ∧ (∀ ob u, o ≠ .frz ob u) ∧ ∀ ps, o ≠ .xd ps
theorem RC.nt {c : C} {a : Addr} (h : RC K N m H c a) : ∃ o, H a = some o ∧ (∀ xs, o ≠ .tup xs) ∧ (∀ ob u, o ≠ .frz ob u) ∧ ∀ ps, o ≠ .xd ps := by
  cases c with
  | lst ds => obtain ⟨vs, e, _⟩ := h; exact ⟨_, e, (fun _ z => nomatch z), (fun _ _ z => nomatch z), (fun _ z => nomatch z)⟩
  | dct t kvs =>
    rcases h with ⟨_, xs, e, _⟩ | ⟨_, xs, e, _⟩
    · exact ⟨_, e, (fun _ z => nomatch z), (fun _ _ z => nomatch z), (fun _ z => nomatch z)⟩
    · exact ⟨_, e, (fun _ z => nomatch z), (fun _ _ z => nomatch z), (fun _ z => nomatch z)⟩
  | ins c fs => obtain ⟨_, dx, vs, e, _⟩ := h; exact ⟨_, e, (fun _ z => nomatch z), (fun _ _ z => nomatch z), (fun _ z => nomatch z)⟩
  | exn c fs => obtain ⟨_, oe, d, vs, fv, e, _⟩ := h; exact ⟨_, e, (fun _ z => nomatch z), (fun _ _ z => nomatch z), (fun _ z => nomatch z)⟩
theorem HR.cell (h : HR K N m H st) {a : Addr} (ha : a ∈ m) : ∃ (i : Nat) (c : C), st[i]? = some c ∧ m[i]? = some a ∧ RC K N m H c a := by
  obtain ⟨i, hi, e⟩ := List.mem_iff_getElem.mp ha
  have hl : i < st.length := by rw [← h.len]; exact hi
  have e1 : m[i]? = some a := by rw [List.getElem?_eq_getElem hi, e]
  exact ⟨i, st[i], by rw [List.getElem?_eq_getElem hl], e1, h.at_ i _ a (by rw [List.getElem?_eq_getElem hl]) e1⟩
theorem HR.nt (h : HR K N m H st) : NT m H := fun a ha => by
  obtain ⟨i, c, _, _, r⟩ := h.cell ha
  exact r.nt
theorem NT.tup (h : NT m H) {a : Addr} {xs : List V} (r : Rd H a (.tup xs)) : a ∉ m := fun hm => by
  obtain ⟨o, e, h1, h2, _⟩ := h a hm
  rcases r with r | ⟨ob, r⟩
  · rw [e] at r; cases r; exact h1 _ rfl
  · rw [e] at r; cases r; exact h2 _ _ rfl
theorem Ext.sqT (e : Ext m H m1 H1) (nt : NT m H) {a : Addr} {xs : List V} (h : SqT K H a xs) : SqT K H1 a xs := by
  rcases h with h | h
  · have na := nt.tup h
    rcases h with h | ⟨ob, h⟩
    · exact .inl (.inl (e.keep a _ h na).1)
    · exact .inl (.inr ⟨ob, (e.keep a _ h na).1⟩)
  · exact .inr h
theorem NT.frz (h : NT m H) {a : Addr} {ob : Obj} {u : HO} (r : H a = some (.frz ob u)) : a ∉ m := fun hm => by
  obtain ⟨o, e, _, h2, _⟩ := h a hm
  rw [e] at r; cases r; exact h2 _ _ rfl
theorem Ext.sqF (e : Ext m H m1 H1) (nt : NT m H) {a : Addr} {xs : List V} (h : SqF K H a xs) : SqF K H1 a xs := h.elim (fun ⟨o, z⟩ => .inl ⟨o, (e.keep a _ z (nt.frz z)).1⟩) .inr
mutual
theorem RD.mono (e : Ext m H m1 H1) (nt : NT m H) : ∀ (d : D) (v : V), RD K N m H d v → RD K N m1 H1 d v
  | .non, v, h => h
  | .bl _, v, h => h
  | .int _, v, h => h
  | .str _, v, h => h
  | .tup ds, v, h => by
    obtain ⟨a, vs, e1, s, r⟩ := h
    exact ⟨a, vs, e1, (e.keep a _ s (nt.tup (.inl s))).1, RDs.mono e nt ds vs r⟩
  | .loc n, v, h => by
    obtain ⟨a, e1, g⟩ := h
    exact ⟨a, e1, e.get g⟩
  | .fn _, v, h => h
  | .scr ns, v, h => by
    obtain ⟨a, e1, s⟩ := h
    exact ⟨a, e1, e.sqF nt s⟩
theorem RDs.mono (e : Ext m H m1 H1) (nt : NT m H) : ∀ (ds : List D) (vs : List V), RDs K N m H ds vs → RDs K N m1 H1 ds vs
  | [], vs, h => h
  | d :: ds, vs, h => by
    obtain ⟨v, r, e1, h1, h2⟩ := h
    exact ⟨v, r, e1, RD.mono e nt d v h1, RDs.mono e nt ds r h2⟩
end
theorem RF.mono (e : Ext m H m1 H1) (nt : NT m H) {fs : List (Nat × D)} {vs : List (Str × V)} (h : RF K N m H fs vs) : RF K N m1 H1 fs vs := Paired.mapP h fun _ _ ⟨a, b⟩ => ⟨a, RD.mono e nt _ _ b⟩
theorem ER.mono (e : Ext m H m1 H1) (nt : NT m H) (h : ER K N m H σ env) : ER K N m1 H1 σ env := ⟨h.1, fun i d g => by
  obtain ⟨v, a, b⟩ := h.2 i d g
  exact ⟨v, a, RD.mono e nt d v b⟩⟩
theorem XD.mono (e : Ext m H m1 H1) (nt : NT m H) {dd : Addr} {fs : List (Nat × D)} (h : XD K N m H dd fs) : XD K N m1 H1 dd fs := by
  obtain ⟨vs, a, n, r⟩ := h
  obtain ⟨a1, n1⟩ := e.keep dd _ a n
  exact ⟨vs, a1, n1, r.mono e nt⟩

/-! ### lists of data -/
theorem RDs.len : ∀ {ds : List D} {vs : List V}, RDs K N m H ds vs → ds.length = vs.length
  | [], vs, h => by
    have e : vs = [] := h
    subst e
    rfl
  | d :: ds, vs, h => by
    obtain ⟨v, r, rfl, _, h2⟩ := h
    simp [RDs.len h2]
theorem RDs.get : ∀ {ds : List D} {vs : List V} {i : Nat} {d : D}, RDs K N m H ds vs → ds[i]? = some d → ∃ v, vs[i]? = some v ∧ RD K N m H d v
  | [], vs, i, d, h, e => by simp at e
  | d0 :: ds, vs, 0, d, h, e => by
    obtain ⟨v, r, rfl, h1, h2⟩ := h
    simp at e; subst e
    exact ⟨v, by simp, h1⟩
  | d0 :: ds, vs, i + 1, d, h, e => by
    obtain ⟨v, r, rfl, h1, h2⟩ := h
    obtain ⟨w, hw, rw_⟩ := RDs.get (i := i) (d := d) h2 (by simpa using e)
    exact ⟨w, by simpa using hw, rw_⟩
theorem RDs.getV : ∀ {ds : List D} {vs : List V} {i : Nat} {v : V}, RDs K N m H ds vs → vs[i]? = some v → ∃ d, ds[i]? = some d ∧ RD K N m H d v
  | [], vs, i, v, h, e => by rw [show vs = [] from h] at e; simp at e
  | d0 :: ds, vs, 0, v, h, e => by
    obtain ⟨v0, r, rfl, h1, h2⟩ := h
    simp at e; subst e
    exact ⟨d0, by simp, h1⟩
  | d0 :: ds, vs, i + 1, v, h, e => by
    obtain ⟨v0, r, rfl, h1, h2⟩ := h
    obtain ⟨w, hw, rw_⟩ := RDs.getV (i := i) (v := v) h2 (by simpa using e)
    exact ⟨w, by simpa using hw, rw_⟩
theorem RDs.append : ∀ {ds es : List D} {vs ws : List V}, RDs K N m H ds vs → RDs K N m H es ws → RDs K N m H (ds ++ es) (vs ++ ws)
  | [], es, vs, ws, h, h' => by rw [show vs = [] from h]; exact h'
  | d :: ds, es, vs, ws, h, h' => by
    obtain ⟨v, r, rfl, h1, h2⟩ := h
    exact ⟨v, r ++ ws, rfl, h1, RDs.append h2 h'⟩
theorem RDs.one {d : D} {v : V} (h : RD K N m H d v) : RDs K N m H [d] [v] := ⟨v, [], rfl, h, rfl⟩
theorem RDs.drop : ∀ {ds : List D} {vs : List V} (n : Nat), RDs K N m H ds vs → RDs K N m H (ds.drop n) (vs.drop n)
  | ds, vs, 0, h => by simpa using h
  | [], vs, n + 1, h => by rw [show vs = [] from h]; rfl
  | d :: ds, vs, n + 1, h => by
    obtain ⟨v, r, rfl, h1, h2⟩ := h
    simpa using RDs.drop n h2
theorem RDs.take : ∀ {ds : List D} {vs : List V} (n : Nat), RDs K N m H ds vs → RDs K N m H (ds.take n) (vs.take n)
  | ds, vs, 0, h => by simp [RDs]
  | [], vs, n + 1, h => by rw [show vs = [] from h]; rfl
  | d :: ds, vs, n + 1, h => by
    obtain ⟨v, r, rfl, h1, h2⟩ := h
    exact ⟨v, r.take n, by simp, h1, RDs.take n h2⟩
theorem RDs.set {d : D} {v : V} (hd : RD K N m H d v) : ∀ {ds : List D} {vs : List V} (n : Nat), RDs K N m H ds vs → RDs K N m H (ds.set n d) (vs.set n v)
  | [], vs, n, h => by rw [show vs = [] from h]; simp [RDs]
  | d0 :: ds, vs, 0, h => by
    obtain ⟨v0, r, rfl, h1, h2⟩ := h
    exact ⟨v, r, by simp, hd, h2⟩
  | d0 :: ds, vs, n + 1, h => by
    obtain ⟨v0, r, rfl, h1, h2⟩ := h
    exact ⟨v0, r.set n v, by simp, h1, RDs.set hd n h2⟩
theorem RDs.dropLast {ds : List D} {vs : List V} (h : RDs K N m H ds vs) : RDs K N m H ds.dropLast vs.dropLast := by
  rw [List.dropLast_eq_take, List.dropLast_eq_take, ← h.len]
  exact h.take _

/-! ### places named below n -/
mutual
theorem RD.bel : ∀ (d : D) (v : V), RD K N m H d v → D.bel m.length d = true
  | .non, v, h => rfl
  | .bl _, v, h => rfl
  | .int _, v, h => rfl
  | .str _, v, h => rfl
  | .tup ds, v, h => by
    obtain ⟨a, vs, e1, s, r⟩ := h
    show D.belL m.length ds = true
    exact RDs.bel ds vs r
  | .loc n, v, h => by
    obtain ⟨a, e1, g⟩ := h
    exact decide_eq_true (List.getElem?_eq_some_iff.mp g).1
  | .fn _, v, h => rfl
  | .scr _, v, h => rfl
theorem RDs.bel : ∀ (ds : List D) (vs : List V), RDs K N m H ds vs → D.belL m.length ds = true
  | [], vs, h => rfl
  | d :: ds, vs, h => by
    obtain ⟨v, r, e1, h1, h2⟩ := h
    show (D.bel m.length d && D.belL m.length ds) = true
    rw [RD.bel d v h1, RDs.bel ds r h2]; rfl
end
mutual
theorem RD.low {n : Nat} : ∀ (d : D) (v : V), RD K N m H d v → D.bel n d = true → RD K N (m.take n) H d v
  | .non, v, h, _ => h
  | .bl _, v, h, _ => h
  | .int _, v, h, _ => h
  | .str _, v, h, _ => h
  | .tup ds, v, h, b => by
    obtain ⟨a, vs, e1, s, r⟩ := h
    exact ⟨a, vs, e1, s, RDs.low ds vs r b⟩
  | .loc k, v, h, b => by
    obtain ⟨a, e1, g⟩ := h
    have hk : k < n := of_decide_eq_true b
    exact ⟨a, e1, by rw [List.getElem?_take_of_lt hk]; exact g⟩
  | .fn _, v, h, _ => h
  | .scr _, v, h, _ => h
theorem RDs.low {n : Nat} : ∀ (ds : List D) (vs : List V), RDs K N m H ds vs → D.belL n ds = true → RDs K N (m.take n) H ds vs
  | [], vs, h, _ => h
  | d :: ds, vs, h, b => by
    obtain ⟨v, r, e1, h1, h2⟩ := h
    obtain ⟨b1, b2⟩ := Bool.and_eq_true_iff.mp (show (D.bel n d && D.belL n ds) = true from b)
    exact ⟨v, r, e1, RD.low d v h1 b1, RDs.low ds r h2 b2⟩
end
theorem RF.bel : ∀ {fs : List (Nat × D)} {vs : List (Str × V)}, RF K N m H fs vs → (fs.all fun p => p.2.bel m.length) = true
  | _, _, .nil => rfl
  | _, _, .cons ⟨_, r⟩ t => by
    rw [List.all_cons, RD.bel _ _ r, RF.bel t]; rfl
theorem RF.low {n : Nat} : ∀ {fs : List (Nat × D)} {vs : List (Str × V)}, RF K N m H fs vs → (fs.all fun p => p.2.bel n) = true → RF K N (m.take n) H fs vs
  | _, _, .nil, _ => .nil
  | _, _, .cons ⟨e, r⟩ t, h => by
    rw [List.all_cons] at h
    obtain ⟨b1, b2⟩ := Bool.and_eq_true_iff.mp h
    exact .cons ⟨e, RD.low _ _ r b1⟩ (RF.low t b2)
theorem key_bel {d : D} {k : Key} (h : keyK d = some k) (n : Nat) : D.bel n d = true := by
  cases d <;> first | rfl | (cases h; done)
theorem keys_bel : ∀ {ds : List D} {ks : List Key}, keysK ds = some ks → ∀ n, D.belL n ds = true
  | [], _, _, n => rfl
  | d :: r, ks, h, n => by
    unfold keysK at h
    split at h
    · rename_i k ks' e1 e2
      show (D.bel n d && D.belL n r) = true
      rw [key_bel e1, keys_bel e2]; rfl
    · cases h
theorem RK.bel : ∀ {kvs : List (D × D)} {xs : List (Key × V)}, RK K N m H kvs xs → (kvs.all fun p => p.1.bel m.length && p.2.bel m.length) = true
  | _, _, .nil => rfl
  | _, _, .cons ⟨e, _, r⟩ t => by
    rw [List.all_cons, key_bel e, RD.bel _ _ r, RK.bel t]; rfl
theorem RT.bel : ∀ {kvs : List (D × D)} {xs : List (List Key × V)}, RT K N m H kvs xs → (kvs.all fun p => p.1.bel m.length && p.2.bel m.length) = true
  | _, _, .nil => rfl
  | _, _, .cons ⟨⟨ds, e0, e, _⟩, r⟩ t => by
    rw [List.all_cons, RD.bel _ _ r, RT.bel t, e0]
    show ((D.belL m.length ds && true) && true) = true
    rw [keys_bel e]; rfl
theorem RK.low {n : Nat} : ∀ {kvs : List (D × D)} {xs : List (Key × V)}, RK K N m H kvs xs → (kvs.all fun p => p.1.bel n && p.2.bel n) = true → RK K N (m.take n) H kvs xs
  | _, _, .nil, _ => .nil
  | _, _, .cons ⟨e, t0, r⟩ t, h => by
    rw [List.all_cons] at h
    obtain ⟨b1, b2⟩ := Bool.and_eq_true_iff.mp h
    exact .cons ⟨e, t0, RD.low _ _ r (Bool.and_eq_true_iff.mp b1).2⟩ (RK.low t b2)
theorem RT.low {n : Nat} : ∀ {kvs : List (D × D)} {xs : List (List Key × V)}, RT K N m H kvs xs → (kvs.all fun p => p.1.bel n && p.2.bel n) = true → RT K N (m.take n) H kvs xs
  | _, _, .nil, _ => .nil
  | _, _, .cons ⟨e, r⟩ t, h => by
    rw [List.all_cons] at h
    obtain ⟨b1, b2⟩ := Bool.and_eq_true_iff.mp h
    exact .cons ⟨e, RD.low _ _ r (Bool.and_eq_true_iff.mp b1).2⟩ (RT.low t b2)
theorem RC.bel {c : C} {a : Addr} (h : RC K N m H c a) : c.bel m.length = true := by
  cases c with
  | lst ds => obtain ⟨vs, _, r⟩ := h; exact RDs.bel ds vs r
  | dct t kvs =>
    rcases h with ⟨_, xs, _, r⟩ | ⟨_, xs, _, r⟩
    · exact r.bel
    · exact r.bel
  | ins c fs => obtain ⟨_, dx, vs, _, r⟩ := h; exact RF.bel r
  | exn c fs => obtain ⟨_, oe, d, vs, fv, _, _, _, _, _, _, r⟩ := h; exact RF.bel r
theorem RC.low {n : Nat} {c : C} {a : Addr} (h : RC K N m H c a) (b : c.bel n = true) : RC K N (m.take n) H c a := by
  cases c with
  | lst ds => obtain ⟨vs, e, r⟩ := h; exact ⟨vs, e, RDs.low ds vs r b⟩
  | dct t kvs =>
    rcases h with ⟨z, xs, e, r⟩ | ⟨z, xs, e, r⟩
    · exact .inl ⟨z, xs, e, r.low b⟩
    · exact .inr ⟨z, xs, e, r.low b⟩
  | ins c fs => obtain ⟨z, dx, vs, e, r⟩ := h; exact ⟨z, dx, vs, e, RF.low r b⟩
  | exn c fs => obtain ⟨z, oe, d, vs, fv, e, e1, e2, e3, e5, nd, r⟩ := h; exact ⟨z, oe, d, vs, fv, e, e1, e2, e3, e5, fun z => nd (List.mem_of_mem_take z), RF.low r b⟩
theorem keepOk_at {n : Nat} : ∀ {a b : Store}, keepOk n a b → ∀ (i : Nat) c', i < a.length → b[i]? = some c' → a[i]? = some c' ∨ c'.bel n = true
  | [], _, _, i, _, hi, _ => by simp at hi
  | c :: r, c' :: r', h, 0, d, _, e => by
    simp at e; subst e
    rcases h.1 with z | z
    · exact .inl (by simp [z])
    · exact .inr z
  | c :: r, c' :: r', h, i + 1, d, hi, e => by
    have := keepOk_at h.2 i d (by simpa using hi) (by simpa using e)
    simpa using this
  | _ :: _, [], h, _, _, _, _ => h.elim
theorem keepOk_len {n : Nat} : ∀ {a b : Store}, keepOk n a b → a.length ≤ b.length
  | [], _, _ => by simp
  | c :: r, c' :: r', h => by have := keepOk_len h.2; simp; omega
  | _ :: _, [], h => h.elim
/-- what is no longer named may be let go -/
theorem HR.cut (h : HR K N m H st) (e : Ext m H m' H') (h' : HR K N m' H' st') {ds : List D} {vs : List V} (r : RDs K N m' H' ds vs) :
    ∃ m2, Ext m H m2 H' ∧ HR K N m2 H' (cut st ds st') ∧ RDs K N m2 H' ds vs ∧ m2.length = (cut st ds st').length ∧ ∃ t, m' = m2 ++ t := by
  suffices h9 : ∃ m2, Ext m H m2 H' ∧ HR K N m2 H' (Dk.cut st ds st') ∧ RDs K N m2 H' ds vs ∧ ∃ t, m' = m2 ++ t by
    obtain ⟨m2, a1, a2, a3, a4⟩ := h9
    exact ⟨m2, a1, a2, a3, a2.len, a4⟩
  unfold Dk.cut
  split
  · rename_i c
    obtain ⟨c1, c2⟩ := c
    have em : m'.take m.length = m := e.take
    have el : st.length = m.length := h.len.symm
    rw [el] at c1 c2 ⊢
    refine ⟨m, ⟨⟨[], by simp⟩, fun a o ha na => ⟨(e.keep a o ha na).1, na⟩⟩, ⟨?_, h.nd, fun i c a hc ha => ?_⟩, ?_, e.pre⟩
    · rw [List.length_take]
      have := e.len
      have := h'.len
      omega
    · have hi : i < m.length := (List.getElem?_eq_some_iff.mp ha).1
      rw [List.getElem?_take_of_lt hi] at hc
      have rc := h'.at_ i c a hc (e.get ha)
      have b : c.bel m.length = true := by
        rcases keepOk_at c1 i c (by omega) hc with z | z
        · exact (h.at_ i c a z ha).bel
        · exact z
      have := rc.low b
      rw [em] at this
      exact this
    · have := RDs.low ds vs r c2
      rw [em] at this
      exact this
  · exact ⟨m', e, h', r, [], by simp⟩

/-! ### the heap changes -/
theorem RK.mono (e : Ext m H m1 H1) (nt : NT m H) {kvs : List (D × D)} {xs : List (Key × V)} (h : RK K N m H kvs xs) : RK K N m1 H1 kvs xs := Paired.mapP h fun _ _ ⟨a, t, b⟩ => ⟨a, t, RD.mono e nt _ _ b⟩
theorem RT.mono (e : Ext m H m1 H1) (nt : NT m H) {kvs : List (D × D)} {xs : List (List Key × V)} (h : RT K N m H kvs xs) : RT K N m1 H1 kvs xs := Paired.mapP h fun _ _ ⟨a, b⟩ => ⟨a, RD.mono e nt _ _ b⟩
theorem RC.mono {c : C} {a : Addr} (e : Ext m H m1 H1) (nt : NT m H) (h : RC K N m H c a) (ha : H1 a = H a) : RC K N m1 H1 c a := by
  cases c with
  | lst ds => obtain ⟨vs, e1, r⟩ := h; exact ⟨vs, ha.trans e1, RDs.mono e nt ds vs r⟩
  | dct t kvs =>
    rcases h with ⟨z, xs, e1, r⟩ | ⟨z, xs, e1, r⟩
    · exact .inl ⟨z, xs, ha.trans e1, r.mono e nt⟩
    · exact .inr ⟨z, xs, ha.trans e1, r.mono e nt⟩
  | ins c fs => obtain ⟨z, dx, vs, e1, r⟩ := h; exact ⟨z, dx, vs, ha.trans e1, r.mono e nt⟩
  | exn c fs =>
    obtain ⟨z, oe, d, vs, fv, e1, e2, e3, e4, e6, nd, r⟩ := h
    obtain ⟨k1, k2⟩ := e.keep d _ e6 nd
    exact ⟨z, oe, d, vs, fv, ha.trans e1, e2, e3, e4, k1, k2, r.mono e nt⟩
/-- a new object that is not named -/
theorem Ext.fresh {p : Addr} {o : HO} (hp : H p = none) : Ext m H m (upd H p o) :=
  ⟨⟨[], by simp⟩, fun a ob ha na => ⟨by rw [upd_ne (ne_of_none ha hp)]; exact ha, na⟩⟩
theorem NT.ne (nt : NT m H) {p a : Addr} (hp : H p = none) (ha : a ∈ m) : a ≠ p := by
  obtain ⟨o, e, _⟩ := nt a ha
  exact ne_of_none e hp
theorem HR.fresh (h : HR K N m H st) {p : Addr} {o : HO} (hp : H p = none) : HR K N m (upd H p o) st :=
  ⟨h.len, h.nd, fun i c a hc ha => (h.at_ i c a hc ha).mono (Ext.fresh hp) h.nt (upd_ne (h.nt.ne hp (List.mem_of_getElem? ha)))⟩
/-- a new object, named last -/
theorem Ext.push {p : Addr} {o : HO} (hp : H p = none) : Ext m H (m ++ [p]) (upd H p o) :=
  ⟨⟨[p], rfl⟩, fun a ob ha na => by
    have ne := ne_of_none ha hp
    exact ⟨by rw [upd_ne ne]; exact ha, by simp [na, ne]⟩⟩
theorem HR.push (h : HR K N m H st) {p : Addr} {o : HO} {c : C} (hp : H p = none) (hc : RC K N (m ++ [p]) (upd H p o) c p) : HR K N (m ++ [p]) (upd H p o) (st ++ [c]) := by
  have e := Ext.push (m := m) (o := o) hp
  refine ⟨by simp [h.len], List.nodup_append.mpr ⟨h.nd, by simp, fun a ha b hb => ?_⟩, fun i c' a h1 h2 => ?_⟩
  · have eb : b = p := by simpa using hb
    subst eb
    exact h.nt.ne hp ha
  · by_cases hi : i < m.length
    · rw [List.getElem?_append_left hi] at h2
      rw [List.getElem?_append_left (by rw [← h.len]; exact hi)] at h1
      exact (h.at_ i c' a h1 h2).mono e h.nt (upd_ne (h.nt.ne hp (List.mem_of_getElem? h2)))
    · have hi2 : i = m.length := by
        have := (List.getElem?_eq_some_iff.mp h2).1
        simp at this; omega
      subst hi2
      have ea : a = p := by
        rw [List.getElem?_append_right (Nat.le_refl _)] at h2
        simpa using h2.symm
      have ec : c' = c := by
        rw [h.len, List.getElem?_append_right (Nat.le_refl _)] at h1
        simpa using h1.symm
      subst ea; subst ec
      exact hc
/-- what is named is written -/
theorem Ext.write {a : Addr} {o : HO} (ha : a ∈ m) : Ext m H m (upd H a o) :=
  ⟨⟨[], by simp⟩, fun b ob hb nb => ⟨by rw [upd_ne (fun z : b = a => nb (by rw [z]; exact ha))]; exact hb, nb⟩⟩
theorem HR.write (h : HR K N m H st) {n : Nat} {a : Addr} {o : HO} {c : C} (ha : m[n]? = some a) (hc : RC K N m (upd H a o) c a) : HR K N m (upd H a o) (st.set n c) := by
  have ham := List.mem_of_getElem? ha
  refine ⟨by simp [h.len], h.nd, fun i c' b h1 h2 => ?_⟩
  by_cases hi : i = n
  · subst hi
    rw [ha] at h2; cases h2
    have hl : i < st.length := by rw [← h.len]; exact (List.getElem?_eq_some_iff.mp ha).1
    rw [List.getElem?_set_self hl] at h1; cases h1
    exact hc
  · rw [List.getElem?_set_ne (Ne.symm hi)] at h1
    have hb : b ≠ a := fun z => by
      subst z
      obtain ⟨l1, e1⟩ := List.getElem?_eq_some_iff.mp h2
      obtain ⟨l2, e2⟩ := List.getElem?_eq_some_iff.mp ha
      exact hi ((List.getElem_inj h.nd).mp (e1.trans e2.symm))
    exact (h.at_ i c' b h1 h2).mono (Ext.write ham) h.nt (upd_ne hb)

/-! ### readings -/
variable {α β γ δ : Type} {rel : List Addr → Hp → α → β → Prop} {rel' : List Addr → Hp → γ → δ → Prop} {W W' : XK}
theorem Pst.ext {r : R α} {Q : β → Hp → Prop} (e : Ext m H m1 H1) (h : Pst K N rel m H r Q W) : Pst K N rel m1 H1 r Q W := by
  cases r with
  | ok a st' => exact fun b H' m' e' hr rl => h b H' m' (e.trans e') hr rl
  | exc c fs st' => exact fun dd H' m' e' hr x => h dd H' m' (e.trans e') hr x
  | stuck => exact h
theorem Pst.bind {m0 : List Addr} {H0 : Hp} {r : R α} {f : α → Store → R γ} {Q : δ → Hp → Prop} {Q' : β → Hp → Prop} (h : Pst K N rel' m0 H0 (r.bind f) Q W) (e0 : Ext m0 H0 m H)
    (k : ∀ a st' b H' m', r = .ok a st' → Ext m H m' H' → HR K N m' H' st' → rel m' H' a b → Pst K N rel' m0 H0 (f a st') Q W → Q' b H') : Pst K N rel m H r Q' W := by
  cases r with
  | ok a st' => exact fun b H' m' e' hr rl => k a st' b H' m' rfl e' hr rl h
  | exc c fs st' => exact fun dd H' m' e' hr x => h dd H' m' (e0.trans e') hr x
  | stuck => exact h
theorem Pst.of {o : Option α} {Q : β → Hp → Prop} {st1 : Store} (h : Pst K N rel m H (R.of o st1) Q W) : ∃ a, o = some a ∧ Pst K N rel m H (.ok a st1) Q W := by
  cases o with
  | none => exact h.elim
  | some a => exact ⟨a, rfl, h⟩
/-- an end with what it left let go -/
theorem Pst.cut {m0 : List Addr} {H0 : Hp} {st0 st1 : Store} {ds : List D} {vs : List V} {Q : VK} {d : D} {v : V} (h : Pst K N (RD K N) m0 H0 (.ok d (Dk.cut st0 ds st1)) Q W) (h0 : HR K N m0 H0 st0) (e : Ext m0 H0 m H) (hr : HR K N m H st1) (rs : RDs K N m H ds vs)
    (rd : ∀ m2, RDs K N m2 H ds vs → RD K N m2 H d v) : Q v H := by
  obtain ⟨m2, e2, hr2, r2, _⟩ := h0.cut e hr rs
  exact h v H m2 e2 hr2 (rd m2 r2)
/-- a new list -/
theorem Pst.newL {m0 : List Addr} {H0 : Hp} {st0 st1 : Store} {xs : List D} {vs : List V} {Q : VK} (h : Pst K N (RD K N) m0 H0 (Dk.newL st0 xs st1) Q W) (h0 : HR K N m0 H0 st0) (e : Ext m0 H0 m H) (hr : HR K N m H st1) (rs : RDs K N m H xs vs) :
    vs.length ≤ sizeLine ∧ ∀ p, H p = none → Q (.ref p) (upd H p (.lst vs)) := by
  unfold Dk.newL at h
  split at h
  · rename_i hz
    refine ⟨by rw [← rs.len]; exact hz, fun p hp => ?_⟩
    obtain ⟨m2, e2, hr2, r2, _⟩ := h0.cut e hr rs
    have e3 := Ext.push (m := m2) (o := .lst vs) hp
    refine h (.ref p) (upd H p (.lst vs)) (m2 ++ [p]) (e2.trans e3) (hr2.push hp ⟨vs, upd_same, RDs.mono e3 hr2.nt _ _ r2⟩) ⟨p, rfl, ?_⟩
    rw [← hr2.len]; simp
  · exact h.elim
end
end Dk
/-! Dk3: the operators of the little language are those of the model. -/
namespace Dk
open PySem PySem.Spec PyProof.Rows L2
section
variable {K : PySem.W.Frag} {N : Nm}
/-! ### lists of the store -/
theorem HR.lst {m : List Addr} {H : Hp} {st : Store} (h : HR K N m H st) {n : Nat} {xs : List D} (e : getL st n = some xs) {v : V} (r : RD K N m H (.loc n) v) : ∃ a vs, v = .ref a ∧ m[n]? = some a ∧ H a = some (.lst vs) ∧ RDs K N m H xs vs := by
  obtain ⟨a, e1, g⟩ := r
  unfold getL at e
  split at e
  · rename_i ys hc
    cases e
    obtain ⟨vs, e2, r2⟩ := h.at_ n _ a hc g
    exact ⟨a, vs, e1, g, e2, r2⟩
  · cases e
theorem getL_at {st : Store} {n : Nat} {xs : List D} (e : getL st n = some xs) : st[n]? = some (.lst xs) := by
  unfold getL at e
  split at e
  · rename_i ys hc
    cases e
    exact hc
  · cases e
theorem getL_of {st : Store} {n : Nat} {xs : List D} (e : st[n]? = some (.lst xs)) : getL st n = some xs := by
  unfold getL; rw [e]
/-! ### == -/
mutual
theorem RD.dp {m : List Addr} {H : Hp} : ∀ (d : D) (v : V), RD K N m H d v → D.dat d = true → Dp K H v (D.py d)
  | .non, v, h, _ => by have e : v = .non := h
                        rw [e]; exact .non
  | .bl b, v, h, _ => by have e : v = .bl b := h
                         rw [e]; exact .bl b
  | .int i, v, h, _ => by have e : v = .int i := h
                          rw [e]; exact .int i
  | .str s, v, h, _ => by rw [h.1]; exact .str _
  | .tup ds, v, h, b => by
    obtain ⟨a, vs, e, s, r⟩ := h
    rw [e]; exact .tup (SqT.of s) (RDs.dp ds vs r b)
  | .loc _, _, _, b => by cases b
  | .fn _, _, _, b => by cases b
  | .scr _, _, _, b => by cases b
theorem RDs.dp {m : List Addr} {H : Hp} : ∀ (ds : List D) (vs : List V), RDs K N m H ds vs → D.datL ds = true → DpAll K H vs (D.pyL ds)
  | [], vs, h, _ => by have e : vs = [] := h
                       rw [e]; exact .nil
  | d :: ds, vs, h, b => by
    obtain ⟨v, r, e, h1, h2⟩ := h
    obtain ⟨b1, b2⟩ := Bool.and_eq_true_iff.mp (show (D.dat d && D.datL ds) = true from b)
    rw [e]; exact .cons (RD.dp d v h1 b1) (RDs.dp ds r h2 b2)
end
theorem strOk_mkS {s : S} (h : TxtOk s) : PyData.strOk (mkS s) = true := by
  unfold PyData.strOk mkS
  rw [Array.all_eq_true']
  intro c hc
  exact decide_eq_true (h.cp c (by simpa using hc))
mutual
theorem RD.can {m : List Addr} {H : Hp} : ∀ (d : D) (v : V), RD K N m H d v → D.dat d = true → (D.py d).canLay0 = true
  | .non, _, _, _ => by simp [D.py, PyData.canLay0]
  | .bl b, _, _, _ => by simp [D.py, PyData.canLay0]
  | .int i, _, _, _ => by simp [D.py, PyData.canLay0]
  | .str s, v, h, _ => by
    show PyData.canLay0 (.str (mkS s)) = true
    simpa [PyData.canLay0] using strOk_mkS h.2
  | .tup ds, v, h, b => by
    obtain ⟨a, vs, e, s, r⟩ := h
    simpa [D.py, PyData.canLay0] using RDs.can ds vs r b
  | .loc _, _, _, b => by cases b
  | .fn _, _, _, b => by cases b
  | .scr _, _, _, b => by cases b
theorem RDs.can {m : List Addr} {H : Hp} : ∀ (ds : List D) (vs : List V), RDs K N m H ds vs → D.datL ds = true → PyData.canLayAll0 (D.pyL ds) = true
  | [], _, _, _ => by simp [D.pyL, PyData.canLayAll0]
  | d :: ds, vs, h, b => by
    obtain ⟨v, r, e, h1, h2⟩ := h
    obtain ⟨b1, b2⟩ := Bool.and_eq_true_iff.mp (show (D.dat d && D.datL ds) = true from b)
    simp [D.pyL, PyData.canLayAll0, RD.can d v h1 b1, RDs.can ds r h2 b2]
end
mutual
theorem D.py_depth : ∀ (d : D), (D.py d).depth = D.depth d
  | .non | .bl _ | .int _ | .str _ | .loc _ | .fn _ | .scr _ => by simp [D.py, PyData.depth, D.depth]
  | .tup ds => by simp [D.py, PyData.depth, D.depth, D.pyL_depth ds]
theorem D.pyL_depth : ∀ (ds : List D), PyData.depthAll (D.pyL ds) = D.depthL ds
  | [] => by simp [D.pyL, PyData.depthAll, D.depthL]
  | d :: ds => by simp [D.pyL, PyData.depthAll, D.depthL, D.py_depth d, D.pyL_depth ds]
end
theorem mkS_beq (a b : S) : (mkS a == mkS b) = decide (a = b) := by
  by_cases h : a = b
  · subst h; simp
  · rw [decide_eq_false h]
    exact beq_eq_false_iff_ne.mpr fun z => h (mkS_inj z)
mutual
theorem D.py_eqv : ∀ (a b : D), D.dat a = true → D.dat b = true → PyData.eqv (D.py a) (D.py b) = D.eqv a b
  | .non, b, _, h => by cases b <;> first | (cases h; done) | simp [D.py, PyData.eqv, D.eqv]
  | .bl x, b, _, h => by cases b <;> first | (cases h; done) | simp [D.py, PyData.eqv, D.eqv, Bool.beq_eq_decide_eq]
  | .int x, b, _, h => by cases b <;> first | (cases h; done) | simp [D.py, PyData.eqv, D.eqv, Bool.beq_eq_decide_eq]
  | .str x, .str y, _, _ => by
    show (mkS x == mkS y) = decide (x = y)
    exact mkS_beq x y
  | .str x, .loc _, _, h | .str x, .fn _, _, h | .str x, .scr _, _, h => by cases h
  | .str x, .non, _, h | .str x, .bl _, _, h | .str x, .int _, _, h | .str x, .tup _, _, h => by simp [D.py, PyData.eqv, D.eqv]
  | .tup xs, b, ha, h => by
    cases b with
    | tup ys => simpa [D.py, PyData.eqv, D.eqv] using D.pyL_eqv xs ys ha h
    | loc _ => cases h
    | fn _ => cases h
    | _ => simp [D.py, PyData.eqv, D.eqv]
  | .loc _, _, h, _ => by cases h
  | .fn _, _, h, _ => by cases h
  | .scr _, _, h, _ => by cases h
theorem D.pyL_eqv : ∀ (a b : List D), D.datL a = true → D.datL b = true → PyData.eqvAll (D.pyL a) (D.pyL b) = D.eqvL a b
  | [], [], _, _ => by simp [D.pyL, PyData.eqvAll, D.eqvL]
  | [], _ :: _, _, _ => by simp [D.pyL, PyData.eqvAll, D.eqvL]
  | _ :: _, [], _, _ => by simp [D.pyL, PyData.eqvAll, D.eqvL]
  | x :: xs, y :: ys, ha, hb => by
    obtain ⟨a1, a2⟩ := Bool.and_eq_true_iff.mp (show (D.dat x && D.datL xs) = true from ha)
    obtain ⟨b1, b2⟩ := Bool.and_eq_true_iff.mp (show (D.dat y && D.datL ys) = true from hb)
    simp [D.pyL, PyData.eqvAll, D.eqvL, D.py_eqv x y a1 b1, D.pyL_eqv xs ys a2 b2]
end

variable {X : Cx} {m0 m : List Addr} {H0 H : Hp} {st0 st : Store} {W : XK}
/-- what an operator by values asks -/
def rBin (K : PySem.W.Frag) (N : Nm) (o : Op) : R2 := fun x y H Q => ∃ (W : XK), ∃ m0 H0 st0 m st dx dy, HR K N m0 H0 st0 ∧ Ext m0 H0 m H ∧ HR K N m H st ∧ RD K N m H dx x ∧ RD K N m H dy y ∧ Pst K N (RD K N) m0 H0 (binD st0 o dx dy st) Q W
def opOf : Op → Operator
  | .add => .Add
  | .sub => .Sub
  | .mul => .Mult
  | .fdiv => .FloorDiv
  | .mod => .Mod
  | .pow => .Pow
theorem TxtOk.append {a b : S} (ha : TxtOk a) (hb : TxtOk b) (h : a.length + b.length ≤ sizeLine) : TxtOk (a ++ b) :=
  ⟨by simpa using h, fun c hc => (List.mem_append.mp hc).elim (ha.cp c) (hb.cp c)⟩
theorem mem_rep {α : Type} {k : Nat} {xs : List α} {c : α} (h : c ∈ rep k xs) : c ∈ xs := by
  unfold rep at h
  obtain ⟨l, hl, hc⟩ := List.mem_flatten.mp h
  rw [(List.mem_replicate.mp hl).2] at hc
  exact hc
theorem length_rep {α : Type} (k : Nat) (xs : List α) : (rep k xs).length = xs.length * k := by
  unfold rep
  induction k with
  | zero => simp
  | succ k ih => rw [List.replicate_succ, List.flatten_cons, List.length_append, ih, Nat.mul_succ]; omega
theorem TxtOk.rep {a : S} {k : Nat} (ha : TxtOk a) (h : a.length * k ≤ sizeLine) : TxtOk (rep k a) :=
  ⟨by rw [length_rep]; exact h, fun c hc => ha.cp c (mem_rep hc)⟩
theorem RDs.rep {xs : List D} {vs : List V} (k : Nat) (h : RDs K N m H xs vs) : RDs K N m H (rep k xs) (rep k vs) := by
  unfold Dk.rep
  induction k with
  | zero => exact rfl
  | succ k ih =>
    rw [List.replicate_succ, List.replicate_succ, List.flatten_cons, List.flatten_cons]
    exact RDs.append h ih
theorem mkS_append (a b : S) : mkS a ++ mkS b = mkS (a ++ b) := by
  show Str.append _ _ = _
  simp [Str.append, mkS]

theorem foldl_cat : ∀ (l : List (Array Nat)) (acc : Array Nat), l.foldl (· ++ ·) acc = acc ++ (l.map Array.toList).flatten.toArray
  | [], acc => by simp
  | a :: r, acc => by
    rw [List.foldl_cons, foldl_cat r]
    apply Array.ext'
    simp
theorem mul_mkS (a : S) (k : Int) : Txt.mul (mkS a) k = mkS (rep k.toNat a) := by
  unfold Txt.mul
  split
  · rename_i h
    have e : k.toNat = 0 := by omega
    rw [e]; rfl
  · split
    · rename_i h1 h2
      simp only [Bool.or_eq_true, beq_iff_eq, mkS_length] at h2
      rcases h2 with h2 | h2
      · subst h2
        show _ = mkS (rep 1 a)
        simp [rep]
      · have e : a = [] := List.length_eq_zero_iff.mp h2
        subst e
        have : rep k.toNat ([] : S) = [] := by
          apply List.length_eq_zero_iff.mp
          rw [length_rep]; simp
        rw [this]
    · rw [foldl_cat]
      simp [mkS, rep]
/-- a tuple some times over -/
theorem rep_size (vs : List Value) (m : Nat) : (List.replicate m vs.toArray).foldl (fun a b => a ++ b) #[] = (rep m vs).toArray := size_rep vs m
theorem rep_len2 {α : Type} (m : Nat) (vs : List α) : (rep m vs).length = m * vs.length := by
  unfold rep
  rw [PyProof.Rows.lm_len_rep_flat]
theorem tup_rep {X : Cx} {pins : List (Addr × Obj)} {s : Shared} {σ : L2.St} {H : Hp} {a : Addr} {k : Int} {vs : List V} {v u : Value} {Q : VK} (I : Inv X pins σ H s) (rv : RelV (.ref a) v) (ru : RelV (.int k) u) (sq : SqT X.K H a vs) (h0 : vs ≠ []) (h2 : 2 ≤ k) (h5 : k ≤ 5000) (h3 : vs.length ≤ 3000)
    (q : ∀ p, H p = none → Q (.ref p) (upd H p (.tup (rep k.toNat vs)))) : wpAny (model X.prog X.w) X.A (binaryOp .Mult v u) (EP X pins σ Q) X.xe s := by
  obtain rfl : v = Value.ref a := rv
  obtain ⟨tk, eu⟩ := ru
  subst eu
  obtain ⟨us, vu, ⟨⟨c, dx, da, slots⟩, lk, ec, m, ed⟩, _⟩ := I.tuple sq
  simp only at ec ed
  subst ec
  subst ed
  have len := vu.length
  have pos : 0 < us.length := by
    rw [← len]
    exact List.length_pos_iff.mpr h0
  have emp : us.toArray.isEmpty = false := by
    cases us with
    | nil => simp at pos
    | cons _ _ => rfl
  have size : us.toArray.size = vs.length := by simp [len]
  have mulN : k.toNat * vs.length ≤ 5000 * 3000 := Nat.mul_le_mul (by omega) h3
  have mulI : (us.toArray.size : Int) * k = ((k.toNat * vs.length : Nat) : Int) := by
    rw [size, Int.natCast_mul, Int.mul_comm, Int.toNat_of_nonneg (by omega)]
  have ls := sizeLine_eq
  have len2 : (rep k.toNat us).length ≤ sizeLine := by rw [rep_len2, ← len]; omega
  have b0 : (decide (k < -(2 ^ 63)) || decide (2 ^ 63 ≤ k)) = false := by simp; omega
  have b1 : (us.toArray.isEmpty || k == 1) = false := by rw [emp]; simp; omega
  have b2 : (decide (k ≤ 0) || us.toArray.isEmpty) = false := by rw [emp]; simp; omega
  have b4 : Builtin.Tuple.tupleTooMany ((us.toArray.size : Int) * k) = false := by
    unfold Builtin.Tuple.tupleTooMany
    rw [mulI]
    exact decide_eq_false (by omega)
  have W := tuple_mulW a us.toArray m dx slots k tk b0 b1 b2 (by rw [mulI]; omega) b4 (by rw [rep_size]; simpa using len2)
  rw [rep_size] at W
  have fin : EP X pins σ Q (.ref s.heap.objs.size) { s with heap := s.heap.push { cls := Value.type "tuple", data := Data.seq (rep k.toNat us).toArray }, toks := s.toks } := by
    refine ⟨.ref s.heap.objs.size, _, I.laid (t' := s.toks) (o := .tup (rep k.toNat vs)) (fun _ _ z => Heap.get?_push_of_some _ z) (Nat.le_refl _) ?_, rfl, q _ (I.hok.fresh (Nat.le_refl _))⟩
    exact ⟨by rw [rep_len2]; omega, _, vu.rep k.toNat, IsTup.new _ _⟩
  exact wpAny_binaryOp_repeat_ref (T := "tuple") (U := "int") (by decide) ⟨_, lk, rfl⟩ (fun z => typeIs_int z k tk) noFill_tuple_mul PySem.F.fills_int_mul PySem.F.slot_int_rmul repeat_tuple PySem.F.slot_int_index.lookup
    (call_meets PySem.F.slot_int_rmul (typeIs_int s k tk) PySem.F.entry_int_rmul (PySem.F.args_int_rmul_2 _ _) (int_rmul_tuple k tk a us.toArray m dx slots)
      ⟨lk, rfl, ⟨_, lk, rfl⟩, call_meets PySem.F.slot_tuple_mul ⟨_, lk, rfl⟩ PySem.F.entry_tuple_mul (PySem.F.args_tuple_mul_2 _ _) W ⟨lk, fin⟩⟩)
theorem bin_ok (o : Op) : OpR X (binaryOp (opOf o)) (rBin X.K N o) := by
  intro pins s σ H x y v u Q I rx ry ⟨W, m0, H0, st0, m, st, dx, dy, h0, e, hr, r1, r2, h⟩
  cases o with
  | add =>
    cases dx with
    | int i =>
      cases dy with
      | int j =>
        have e1 : x = .int i := r1
        have e2 : y = .int j := r2
        exact op_add pins s σ H x y v u Q I rx ry ⟨i, j, e1, e2, h _ H m e hr rfl⟩
      | _ => exact h.elim
    | str a =>
      cases dy with
      | str b =>
        have h : Pst X.K N (RD X.K N) m0 H0 (if a.length + b.length ≤ sizeLine then .ok (.str (a ++ b)) st else .stuck) Q W := h
        split at h
        · rename_i hz
          exact op_add_str pins s σ H x y v u Q I rx ry ⟨_, _, r1.1, r2.1, by simpa using hz, h _ H m e hr ⟨by rw [mkS_append], r1.2.append r2.2 hz⟩⟩
        · exact h.elim
      | _ => exact h.elim
    | tup a =>
      cases dy with
      | tup b =>
        have h : Pst X.K N (RD X.K N) m0 H0 (if a.length + b.length ≤ sizeLine then .ok (.tup (a ++ b)) st else .stuck) Q W := h
        split at h
        · rename_i hz
          obtain ⟨p, xs, e1, s1, q1⟩ := r1
          obtain ⟨q, ys, e2, s2, q2⟩ := r2
          refine op_catA pins s σ H x y v u Q I rx ry ⟨p, q, xs, ys, e1, e2, SqT.of s1, SqT.of s2, by rw [← q1.len, ← q2.len]; exact hz, fun z => ?_, fun z z2 => ?_, fun z z2 t ht => ?_⟩
          · exact h _ H m e hr ⟨q, ys, rfl, s2, by
              have := q1.append q2
              rw [z] at this; exact this⟩
          · exact h _ H m e hr ⟨p, xs, rfl, s1, by
              have := q1.append q2
              rw [z2, List.append_nil] at this; exact this⟩
          · have e3 := Ext.fresh (m := m) (o := .tup (xs ++ ys)) ht
            exact h _ _ m (e.trans e3) (hr.fresh ht) ⟨t, xs ++ ys, rfl, upd_same, RDs.mono e3 hr.nt _ _ (q1.append q2)⟩
        · exact h.elim
      | _ => exact h.elim
    | loc a =>
      cases dy with
      | loc b =>
        have h : Pst X.K N (RD X.K N) m0 H0 (match getL st a, getL st b with
          | some xs, some ys => newL st0 (xs ++ ys) st
          | _, _ => .stuck) Q W := h
        split at h
        · rename_i xs ys g1 g2
          obtain ⟨p, vs, e1, _, s1, q1⟩ := hr.lst g1 r1
          obtain ⟨q, ws, e2, _, s2, q2⟩ := hr.lst g2 r2
          obtain ⟨z1, z2⟩ := h.newL h0 e hr (q1.append q2)
          exact op_cat pins s σ H x y v u Q I rx ry ⟨p, q, vs, ws, e1, e2, s1, s2, by simpa using z1, z2⟩
        · exact h.elim
      | _ => exact h.elim
    | _ => exact h.elim
  | sub =>
    cases dx with
    | int i =>
      cases dy with
      | int j =>
        have e1 : x = .int i := r1
        have e2 : y = .int j := r2
        exact op_sub pins s σ H x y v u Q I rx ry ⟨i, j, e1, e2, h _ H m e hr rfl⟩
      | _ => exact h.elim
    | _ => exact h.elim
  | mul =>
    cases dx with
    | int i =>
      cases dy with
      | int j =>
        have e1 : x = .int i := r1
        have e2 : y = .int j := r2
        have h : Pst X.K N (RD X.K N) m0 H0 (if i.natAbs < 2 ^ 64 ∨ j.natAbs < 2 ^ 64 then .ok (.int (i * j)) st else .stuck) Q W := h
        split at h
        · rename_i hz
          refine op_mul pins s σ H x y v u Q I rx ry ⟨i, j, e1, e2, ?_, h _ H m e hr rfl⟩
          unfold CMul
          omega
        · exact h.elim
      | _ => exact h.elim
    | str a =>
      cases dy with
      | int k =>
        have e2 : y = .int k := r2
        have h : Pst X.K N (RD X.K N) m0 H0 (if a.length * k.toNat ≤ sizeLine ∧ k < 2 ^ 30 ∧ -(2 ^ 30) < k then .ok (.str (rep k.toNat a)) st else .stuck) Q W := h
        split at h
        · rename_i hz
          obtain ⟨hz1, hz2, hz3⟩ := hz
          have e1 := r1.1
          subst e1; subst e2
          obtain ⟨t, rfl⟩ := rx
          obtain ⟨t', rfl⟩ := ry
          refine SB.mul (x := mkS a) (n := k) ⟨?_, fun _ _ => ?_, fun h1 _ => ?_⟩ fun t2 tk => ?_
          · simp; omega
          · have hl := r1.2.len
            have hk : (2 ^ 33 : Int) ≤ (2 ^ 63 - 1) / k := by
              rw [Int.le_ediv_iff_mul_le (by omega)]
              omega
            rw [sizeLine_eq] at hl
            simp only [mkS_length]
            omega
          · simp only [mkS_length]
            exact decide_eq_false (by omega)
          · have hq := h (.str (mkS (rep k.toNat a))) H m e hr ⟨rfl, r1.2.rep hz1⟩
            refine ⟨.str (mkS (rep k.toNat a)), H, I.tok _, ⟨t2, ?_⟩, hq⟩
            rw [mul_mkS]
        · exact h.elim
      | _ => exact h.elim
    | tup a =>
      cases dy with
      | int k =>
        have e2 : y = .int k := r2
        have h : Pst X.K N (RD X.K N) m0 H0 (if a ≠ [] ∧ 2 ≤ k ∧ k ≤ 5000 ∧ a.length ≤ 3000 then .ok (.tup (rep k.toNat a)) st else .stuck) Q W := h
        split at h
        · rename_i hz
          obtain ⟨hz1, hz2, hz3, hz4⟩ := hz
          obtain ⟨p, vs, e1, s1, q1⟩ := r1
          subst e1
          subst e2
          refine tup_rep I rx ry (SqT.of s1) (fun z => ?_) hz2 hz3 (by rw [← q1.len]; exact hz4) fun p hp => ?_
          · subst z
            have := q1.len
            exact hz1 (List.length_eq_zero_iff.mp (by simpa using this))
          · have e3 := Ext.fresh (m := m) (o := .tup (rep k.toNat vs)) hp
            exact h _ _ m (e.trans e3) (hr.fresh hp) ⟨p, _, rfl, upd_same, RDs.mono e3 hr.nt _ _ (q1.rep k.toNat)⟩
        · exact h.elim
      | _ => exact h.elim
    | loc a =>
      cases dy with
      | int k =>
        have e2 : y = .int k := r2
        have h : Pst X.K N (RD X.K N) m0 H0 (match getL st a with
          | some xs => if xs.length * k.toNat ≤ sizeLine ∧ k < 2 ^ 30 ∧ -(2 ^ 30) < k then newL st0 (rep k.toNat xs) st else .stuck
          | none => .stuck) Q W := h
        split at h
        · rename_i xs g1
          split at h
          · rename_i hz
            obtain ⟨p, vs, e1, _, s1, q1⟩ := hr.lst g1 r1
            obtain ⟨z1, z2⟩ := h.newL h0 e hr (q1.rep k.toNat)
            exact op_rep pins s σ H x y v u Q I rx ry ⟨p, k, vs, e1, e2, s1, by omega, by omega, by rw [← q1.len]; exact hz.1, z2⟩
          · exact h.elim
        · exact h.elim
      | _ => exact h.elim
    | _ => exact h.elim
  | fdiv =>
    cases dx with
    | int i =>
      cases dy with
      | int j =>
        have e1 : x = .int i := r1
        have e2 : y = .int j := r2
        have h : Pst X.K N (RD X.K N) m0 H0 (if 0 < j ∧ j < 1073741824 then .ok (.int (i / j)) st else .stuck) Q W := h
        split at h
        · rename_i hz
          exact op_fdiv pins s σ H x y v u Q I rx ry ⟨i, j, e1, e2, hz, h _ H m e hr rfl⟩
        · exact h.elim
      | _ => exact h.elim
    | _ => exact h.elim
  | mod =>
    cases dx with
    | int i =>
      cases dy with
      | int j =>
        have e1 : x = .int i := r1
        have e2 : y = .int j := r2
        have h : Pst X.K N (RD X.K N) m0 H0 (if 0 < j then .ok (.int (i % j)) st else .stuck) Q W := h
        split at h
        · rename_i hz
          exact op_mod pins s σ H x y v u Q I rx ry ⟨i, j, e1, e2, hz, h _ H m e hr rfl⟩
        · exact h.elim
      | _ => exact h.elim
    | _ => exact h.elim
  | pow =>
    cases dx with
    | int i =>
      cases dy with
      | int j =>
        have e1 : x = .int i := r1
        have e2 : y = .int j := r2
        have h : Pst X.K N (RD X.K N) m0 H0 (if 0 ≤ j ∧ j ≤ 1000000 ∧ i.natAbs < 2 ^ 64 then .ok (.int (i ^ j.toNat)) st else .stuck) Q W := h
        split at h
        · rename_i hz
          exact op_pow pins s σ H x y v u Q I rx ry ⟨i, j, e1, e2, hz, h _ H m e hr rfl⟩
        · exact h.elim
      | _ => exact h.elim
    | _ => exact h.elim
end
end Dk
/-! Dk4: comparisons, subscripts, slices. -/
namespace Dk
open PySem PySem.Spec PyProof.Rows L2
section
variable {K : PySem.W.Frag} {N : Nm} {X : Cx} {m : List Addr} {H : Hp} {st : Store}
theorem bl_of {m : List Addr} {H : Hp} {b : Bool} {v : V} (h : RD K N m H (.bl b) v) : v = .bl b := h
theorem int_of {m : List Addr} {H : Hp} {i : Int} {v : V} (h : RD K N m H (.int i) v) : v = .int i := h

/-- == over data, as the model has it -/
theorem eqData {x y : V} {v u : Value} {pins : List (Addr × Obj)} {σ : St} {s : Shared} {E : Value → Shared → Prop} {Q : Value → Shared → Prop} (I : Inv X pins σ H s) (rx : RelV x v) (ry : RelV y u) {da db : PyData} (hx : Dp X.K H x da) (hy : Dp X.K H y db)
    (ca : da.canLay0 = true) (cb : db.canLay0 = true) (hu : X.A.units + min da.depth db.depth < cLine) (h : Q (.bool (PyData.eqv da db)) s) : wpAny (model X.prog X.w) X.A (compareOp .Eq v u) Q E s := by
  obtain ⟨as, r1⟩ := Dp.reads I da x v hx rx
  obtain ⟨bs, r2⟩ := Dp.reads I db y u hy ry
  exact SeqAt.compareEq_reads r1 r2 ca cb hu h
theorem neData {x y : V} {v u : Value} {pins : List (Addr × Obj)} {σ : St} {s : Shared} {E : Value → Shared → Prop} {Q : Value → Shared → Prop} (I : Inv X pins σ H s) (rx : RelV x v) (ry : RelV y u) {da db : PyData} (hx : Dp X.K H x da) (hy : Dp X.K H y db)
    (ca : da.canLay0 = true) (cb : db.canLay0 = true) (hu : X.A.units + min da.depth db.depth < cLine) (h : Q (.bool (!PyData.eqv da db)) s) : wpAny (model X.prog X.w) X.A (compareOp .NotEq v u) Q E s := by
  obtain ⟨as, r1⟩ := Dp.reads I da x v hx rx
  obtain ⟨bs, r2⟩ := Dp.reads I db y u hy ry
  exact SeqAt.compareNe_reads r1 r2 ca cb hu h
/-- what eqD tells of two data: plain Python data for both -/
theorem eqD_data (hr : HR K N m H st) {dx dy : D} {x y : V} {k : Bool} (r1 : RD K N m H dx x) (r2 : RD K N m H dy y) (h : eqD st dx dy = some k) :
    ∃ da db, Dp K H x da ∧ Dp K H y db ∧ da.canLay0 = true ∧ db.canLay0 = true ∧ min da.depth db.depth ≤ 64 ∧ PyData.eqv da db = k := by
  unfold eqD at h
  split at h
  · rename_i a b
    split at h
    · rename_i xs ys g1 g2
      split at h
      · rename_i c
        obtain ⟨c1, c2, c3⟩ := c
        cases h
        obtain ⟨p, vs, rfl, _, s1, q1⟩ := hr.lst g1 r1
        obtain ⟨q, ws, rfl, _, s2, q2⟩ := hr.lst g2 r2
        refine ⟨.list (D.pyL xs), .list (D.pyL ys), .lst (SqL.of s1) (RDs.dp xs vs q1 c1), .lst (SqL.of s2) (RDs.dp ys ws q2 c2), by simpa [PyData.canLay0] using RDs.can xs vs q1 c1, by simpa [PyData.canLay0] using RDs.can ys ws q2 c2, ?_, ?_⟩
        · simp only [PyData.depth, D.pyL_depth]; omega
        · simpa [PyData.eqv] using D.pyL_eqv xs ys c1 c2
      · cases h
    · cases h
  · split at h
    · rename_i c
      obtain ⟨c1, c2, c3⟩ := c
      cases h
      exact ⟨D.py dx, D.py dy, RD.dp dx x r1 c1, RD.dp dy y r2 c2, RD.can dx x r1 c1, RD.can dy y r2 c2, by rw [D.py_depth, D.py_depth]; exact c3, D.py_eqv dx dy c1 c2⟩
    · cases h
theorem RD.flatV {d : D} {v : V} (h : RD K N m H d v) (f : d.flat = true) : flatV v = true := by
  cases d with
  | non => rw [show v = .non from h]; rfl
  | bl b => rw [show v = .bl b from h]; rfl
  | int i => rw [show v = .int i from h]; rfl
  | str s => rw [h.1]; rfl
  | _ => cases f
theorem RDs.flatVs : ∀ {ds : List D} {vs : List V}, RDs K N m H ds vs → ds.all D.flat = true → vs.all L2.flatV = true
  | [], vs, h, _ => by rw [show vs = [] from h]; rfl
  | d :: ds, vs, h, f => by
    obtain ⟨v, r, rfl, h1, h2⟩ := h
    rw [List.all_cons] at f ⊢
    obtain ⟨f1, f2⟩ := Bool.and_eq_true_iff.mp f
    rw [RD.flatV h1 f1, RDs.flatVs h2 f2]; rfl
theorem RD.eqV {d e : D} {v w : V} (h : RD K N m H d v) (h' : RD K N m H e w) (f : d.flat = true) (f' : e.flat = true) : eqV v w = D.eqv d e := by
  cases d with
  | non => rw [show v = .non from h]; cases e with
    | non => rw [show w = .non from h']; rfl
    | bl b => rw [show w = .bl b from h']; rfl
    | int i => rw [show w = .int i from h']; rfl
    | str s => rw [h'.1]; rfl
    | _ => cases f'
  | bl a => rw [show v = .bl a from h]; cases e with
    | non => rw [show w = .non from h']; rfl
    | bl b => rw [show w = .bl b from h']; rfl
    | int i => rw [show w = .int i from h']; simp [L2.eqV, D.eqv, Bool.beq_eq_decide_eq]
    | str s => rw [h'.1]; rfl
    | _ => cases f'
  | int a => rw [show v = .int a from h]; cases e with
    | non => rw [show w = .non from h']; rfl
    | bl b => rw [show w = .bl b from h']; simp [L2.eqV, D.eqv, Bool.beq_eq_decide_eq]
    | int i => rw [show w = .int i from h']; simp [L2.eqV, D.eqv, Bool.beq_eq_decide_eq]
    | str s => rw [h'.1]; rfl
    | _ => cases f'
  | str a => rw [h.1]; cases e with
    | non => rw [show w = .non from h']; rfl
    | bl b => rw [show w = .bl b from h']; rfl
    | int i => rw [show w = .int i from h']; rfl
    | str s => rw [h'.1]; simp [L2.eqV, D.eqv, mkS_beq]
    | _ => cases f'
  | _ => cases f
theorem RDs.inV : ∀ {ds : List D} {vs : List V} {d : D} {v : V}, RDs K N m H ds vs → RD K N m H d v → ds.all D.flat = true → d.flat = true → inV v vs = ds.any fun y => D.eqv y d
  | [], vs, d, v, h, _, _, _ => by rw [show vs = [] from h]; rfl
  | e :: ds, vs, d, v, h, hd, f, fd => by
    obtain ⟨w, r, rfl, h1, h2⟩ := h
    rw [List.all_cons] at f
    obtain ⟨f1, f2⟩ := Bool.and_eq_true_iff.mp f
    have ih := RDs.inV h2 hd f2 fd
    unfold L2.inV at ih ⊢
    rw [List.any_cons, List.any_cons, ih, RD.eqV h1 hd f1 fd]
theorem pyL_any (d : D) (hd : D.dat d = true) : ∀ (ds : List D), D.datL ds = true → ((D.pyL ds).any fun z => PyData.eqv z (D.py d)) = ds.any fun y => D.eqv y d
  | [], _ => rfl
  | e :: ds, h => by
    obtain ⟨b1, b2⟩ := Bool.and_eq_true_iff.mp (show (D.dat e && D.datL ds) = true from h)
    show (PyData.eqv (D.py e) (D.py d) || _) = _
    rw [List.any_cons, D.py_eqv e d b1 hd]
    congr 1
    exact pyL_any d hd ds b2

/-! ### dicts -/
theorem keyK_inj {d e : D} {k : Key} (h : keyK d = some k) (h' : keyK e = some k) : d = e := by
  cases d <;> cases e <;> first | (cases h; done) | (cases h'; done) | skip
  · cases h; cases h'; rfl
  · cases h; cases h'
  · cases h; cases h'
  · rename_i a b
    have e1 : (Sum.inr (mkS a) : Key) = k := Option.some.inj h
    have e2 : (Sum.inr (mkS b) : Key) = k := Option.some.inj h'
    rw [mkS_inj (Sum.inr.inj (e1.trans e2.symm))]
theorem keysK_inj : ∀ {ds es : List D} {ks : List Key}, keysK ds = some ks → keysK es = some ks → ds = es
  | [], [], _, _, _ => rfl
  | [], e :: es, ks, h, h' => by
    cases h
    unfold keysK at h'
    split at h' <;> cases h'
  | d :: ds, [], ks, h, h' => by
    cases h'
    unfold keysK at h
    split at h <;> cases h
  | d :: ds, e :: es, ks, h, h' => by
    unfold keysK at h h'
    split at h
    · rename_i k1 r1 a1 a2
      split at h'
      · rename_i k2 r2 b1 b2
        cases h
        cases h'
        rw [keyK_inj a1 b1, keysK_inj a2 b2]
      · cases h'
    · cases h
theorem key_beq {d : D} {k : Key} (h : keyK d = some k) : D.beq d d = true := by
  cases d <;> first | (cases h; done) | simp [D.beq]
theorem keys_beq : ∀ {ds : List D} {ks : List Key}, keysK ds = some ks → D.beqL ds ds = true
  | [], _, _ => by simp [D.beqL]
  | d :: ds, ks, h => by
    unfold keysK at h
    split at h
    · rename_i k1 r1 a1 a2
      simp [D.beqL, key_beq a1, keys_beq a2]
    · cases h
theorem isK_key {d : D} (h : isK d = true) : ∃ k, keyK d = some k := by
  cases d <;> first | (cases h; done) | exact ⟨_, rfl⟩
theorem isK_keys : ∀ {ds : List D}, ds.all isK = true → ∃ ks, keysK ds = some ks
  | [], _ => ⟨[], rfl⟩
  | d :: ds, h => by
    rw [List.all_cons] at h
    obtain ⟨h1, h2⟩ := Bool.and_eq_true_iff.mp h
    obtain ⟨k, e1⟩ := isK_key h1
    obtain ⟨ks, e2⟩ := isK_keys h2
    exact ⟨k :: ks, by unfold keysK; rw [e1, e2]⟩
theorem key_V {d : D} {v : V} {k : Key} (r : RD K N m H d v) (h : keyK d = some k) : v = kV k ∧ RK.TxtK d := by
  cases d <;> first | (cases h; done) | skip
  · cases h; exact ⟨r, trivial⟩
  · cases h; exact ⟨r.1, r.2⟩
theorem keys_V : ∀ {ds : List D} {vs : List V} {ks : List Key}, RDs K N m H ds vs → keysK ds = some ks → vs = ks.map kV ∧ ∀ d ∈ ds, RK.TxtK d
  | [], vs, ks, r, h => by cases h; exact ⟨r, fun _ h => nomatch h⟩
  | d :: ds, vs, ks, r, h => by
    obtain ⟨v, r', rfl, h1, h2⟩ := r
    unfold keysK at h
    split at h
    · rename_i k1 r1 a1 a2
      cases h
      obtain ⟨b1, b2⟩ := key_V h1 a1
      obtain ⟨c1, c2⟩ := keys_V h2 a2
      refine ⟨by rw [b1, c1]; rfl, fun e he => ?_⟩
      rcases List.mem_cons.mp he with rfl | he
      · exact b2
      · exact c2 e he
    · cases h
/-- what is got: a datum for a value, or neither -/
def GetR (K : PySem.W.Frag) (N : Nm) (m : List Addr) (H : Hp) (e : Option D) (o : Option V) : Prop := match e with
  | some d => ∃ v, o = some v ∧ RD K N m H d v
  | none => o = none
theorem RK.get {d : D} {k : Key} (hk : keyK d = some k) : ∀ {kvs : List (D × D)} {xs : List (Key × V)}, RK K N m H kvs xs → GetR K N m H (mGet kvs d) (valV xs k)
  | _, _, .nil => rfl
  | p :: r, q :: t, .cons ⟨e, _, rd⟩ rest => by
    by_cases h : q.1 = k
    · have ep : p.1 = d := keyK_inj (by rw [e, h]) hk
      have e1 : mGet (p :: r) d = some p.2 := by
        unfold mGet
        rw [List.find?_cons, ep, key_beq hk]; rfl
      rw [e1, valV_pos h]
      exact ⟨_, rfl, rd⟩
    · have ep : D.beq p.1 d = false := by
        rw [← Bool.not_eq_true]
        intro z
        have := D.beq_eq _ _ z
        rw [this, hk] at e
        exact h (Option.some.inj e).symm
      have e1 : mGet (p :: r) d = mGet r d := by
        unfold mGet
        rw [List.find?_cons, ep]
      rw [e1, valV_neg h]
      exact RK.get hk rest
theorem RT.get {ds : List D} {ks : List Key} (hk : keysK ds = some ks) : ∀ {kvs : List (D × D)} {xs : List (List Key × V)}, RT K N m H kvs xs → GetR K N m H (mGet kvs (.tup ds)) (valV xs ks)
  | _, _, .nil => rfl
  | p :: r, q :: t, .cons ⟨⟨es, e0, e, _⟩, rd⟩ rest => by
    by_cases h : q.1 = ks
    · have ep : es = ds := keysK_inj (by rw [e, h]) hk
      have e1 : mGet (p :: r) (.tup ds) = some p.2 := by
        unfold mGet
        rw [List.find?_cons, e0, ep]
        have : D.beq (.tup ds) (.tup ds) = true := by simp only [D.beq]; exact keys_beq hk
        rw [this]; rfl
      rw [e1, valV_pos h]
      exact ⟨_, rfl, rd⟩
    · have ep : D.beq p.1 (.tup ds) = false := by
        rw [← Bool.not_eq_true]
        intro z
        have := D.beq_eq _ _ z
        rw [e0] at this
        cases this
        rw [hk] at e
        exact h (Option.some.inj e).symm
      have e1 : mGet (p :: r) (.tup ds) = mGet r (.tup ds) := by
        unfold mGet
        rw [List.find?_cons, ep]
      rw [e1, valV_neg h]
      exact RT.get hk rest
/-- the key, as the dict asks it -/
theorem RM.get {t : Bool} {kvs : List (D × D)} {a : Addr} {dy : D} {y : V} (h : RM K N m H t kvs a) (kb : keyB t dy = true) (ry : RD K N m H dy y) : ∃ o, DGet H a y o ∧ GetR K N m H (mGet kvs dy) o := by
  rcases h with ⟨rfl, xs, e, r⟩ | ⟨rfl, xs, e, r⟩
  · obtain ⟨k, hk⟩ := isK_key (show isK dy = true from kb)
    rw [(key_V ry hk).1]
    exact ⟨_, DGet.k e, r.get hk⟩
  · cases dy with
    | tup ds =>
      obtain ⟨ks, hk⟩ := isK_keys (show ds.all isK = true from kb)
      obtain ⟨b, vs, rfl, hb, rs⟩ := ry
      rw [(keys_V rs hk).1] at hb
      exact ⟨_, DGet.t e hb, r.get hk⟩
    | _ => cases kb
theorem HR.mget (hr : HR K N m H st) {n : Nat} {p : Bool × List (D × D)} (g : getM st n = some p) {x : V} (r : RD K N m H (.loc n) x) : ∃ a, x = .ref a ∧ m[n]? = some a ∧ RM K N m H p.1 p.2 a := by
  obtain ⟨a, ea, ga⟩ := r
  unfold getM at g
  split at g
  · rename_i t kvs q
    cases g
    exact ⟨a, ea, ga, hr.at_ n _ a q ga⟩
  · cases g
theorem RM.dT {t : Bool} {kvs : List (D × D)} {a : Addr} (h : RM K N m H t kvs a) (e : t = true) : ∃ xs, H a = some (.dT xs) := by
  rcases h with ⟨z, _⟩ | ⟨_, xs, e1, _⟩
  · rw [z] at e; cases e
  · exact ⟨xs, e1⟩
theorem GetR.isSome {e : Option D} {o : Option V} (h : GetR K N m H e o) : o.isSome = e.isSome := by
  cases e with
  | none => rw [show o = none from h]; rfl
  | some d => obtain ⟨v, ev, _⟩ := h; rw [ev]; rfl
end
/-! ### None is no key of a dict of tuples -/
section
variable {prog : Program} {w : World} {A : Around} {E : Value → Shared → Prop} {s : Shared}
theorem mayTell_none {κ : Type} [DecidableEq κ] {knd : HeapKind prog w κ} {stored : List Value} {Q : Bool → Shared → Prop}
    (hst : ∀ v ∈ stored, ∃ k' b, v = .ref b ∧ knd.is s.heap k' b) (h : Q false s) : wpAny (model prog w) A (tableMayTell .none stored) Q E s := by
  unfold tableMayTell
  split
  · exact wpAny_pure h
  · refine wpAny_bind ((QuietAt.byValue (prog := prog) (w := w) (n := 8) (s := s) (v := .none) rfl) A E _ ?_)
    simp only [Bool.not_true, Bool.false_eq_true, if_false]
    refine wpAny_bind ?_
    refine wpAny_forIn_list _ (fun rest r s' => s' = s ∧ r = (none, ()) ∧ ∀ v ∈ rest, ∃ k' b, v = .ref b ∧ knd.is s.heap k' b) _ ?_ ?_ _ _ ⟨rfl, rfl, hst⟩
    · rintro x rest r s' ⟨rfl, rfl, hr⟩
      obtain ⟨k', b, rfl, hb⟩ := hr x List.mem_cons_self
      refine wpAny_bind (knd.quiet hb ?_)
      simp only [Bool.not_true, Bool.false_eq_true, if_false]
      exact wpAny_pure ⟨rfl, rfl, fun v hv => hr v (List.mem_cons_of_mem _ hv)⟩
    · rintro r s' ⟨rfl, rfl, _⟩
      exact wpAny_pure h
theorem find_none {κ : Type} [DecidableEq κ] {knd : KeyKind prog w κ} {d : Addr} {o : Obj} {es : Array DictEntry} {ep : Nat} {xs : List (List κ × Addr × Value)} {h : Int} {Q : Option Nat → Shared → Prop} (hu : A.units < cLine)
    (ho : s.heap.get? d = some o) (hd : o.data = .dict es ep) (he : es.toList = xs.map (entryOfKey (tupleKind knd))) (his : ∀ x ∈ xs, (tupleKind knd).is s.heap x.1 x.2.1) (hQ : Q none s) :
    wpAny (model prog w) A (dictFind d .none h) Q E s := by
  have hmem : ∀ (i : Nat) e, es[i]? = some e → ∃ k' b v', e = ⟨(tupleKind knd).hash k', .ref b, v'⟩ ∧ (tupleKind knd).is s.heap k' b := by
    intro i e hin
    have : e ∈ xs.map (entryOfKey (tupleKind knd)) := he ▸ Array.mem_toList_iff.mpr (Array.mem_of_getElem? hin)
    obtain ⟨x, hx, rfl⟩ := List.mem_map.mp this
    exact ⟨x.1, x.2.1, x.2.2, rfl, his x hx⟩
  have hst : ∀ v ∈ (placesWithHash es.size (fun i => es[i]?.map (·.hash)) h).filterMap (fun i => es[i]?.map (·.key)), ∃ k' b, v = .ref b ∧ (tupleKind knd).is s.heap k' b := by
    intro v hv
    obtain ⟨i, _, hi⟩ := List.mem_filterMap.mp hv
    cases hei : es[i]? with
    | none => rw [hei] at hi; cases hi
    | some e =>
      rw [hei] at hi
      obtain rfl : e.key = v := by simpa using hi
      obtain ⟨k', b, v', rfl, hb⟩ := hmem i e hei
      exact ⟨k', b, rfl, hb⟩
  have noteq : ∀ {k' : List κ} {b : Addr} {Q : Bool → Shared → Prop}, (tupleKind knd).is s.heap k' b → Q false s → wpAny (model prog w) A (eqBool (.ref b) .none) Q E s := fun {k' b Q} hb hq => by
    obtain ⟨o, items, n, h1, h2, h3, _⟩ := hb
    exact SeqAt.EqAt.tuple_none ⟨_, h1, h2, _, h3⟩ hu prog w E Q hq
  unfold dictFind
  try with_reducible refine wpAny_holding ?_
  refine wpAny_bind (wpAny_dictEntries ho hd ?_)
  let places := placesWithHash es.size (fun i => es[i]?.map (·.hash)) h
  let stored := places.filterMap fun i => es[i]?.map (·.key)
  show wpAny _ _ (if (Value.none :: stored).all carriedByValue = true then dictWalkPlain d .none h es places else _) _ _ _
  by_cases hall : (Value.none :: stored).all carriedByValue = true
  · rw [if_pos hall]
    unfold dictWalkPlain
    refine wpAny_bind ?_
    refine wpAny_forIn_list _ (fun rest b s' => s' = s ∧ b = (none, ())) _ ?_ ?_ _ _ ⟨rfl, rfl⟩
    · rintro x rest b s' ⟨rfl, rfl⟩
      cases hx : es[x]? with
      | none => exact wpAny_pure ⟨rfl, rfl⟩
      | some e =>
        obtain ⟨k', b, v', rfl, hb⟩ := hmem x e hx
        dsimp only
        split
        · refine wpAny_bind (wpAny_dictEpoch ho hd (wpAny_bind (noteq hb (wpAny_bind (wpAny_dictEpoch ho hd ?_)))))
          show wpAny _ _ (if (ep != ep) = true then _ else _) _ E _
          rw [if_neg (by simp)]
          simp only [Bool.false_eq_true, if_false]
          refine wpAny_bind (wpAny_rule ?_)
          first
            | exact wpAny_pure ⟨rfl, rfl⟩
            | exact wpAny_bind (wpAny_pure (wpAny_pure ⟨rfl, rfl⟩))
        · exact wpAny_pure ⟨rfl, rfl⟩
    · rintro b s' ⟨rfl, rfl⟩
      exact wpAny_pure hQ
  · rw [if_neg hall]
    have hs1 : ¬ (stored == [Value.none]) = true := fun z => by
      have e := eq_of_beq z
      obtain ⟨k', b, e2, _⟩ := hst .none (by show Value.none ∈ stored; rw [e]; exact List.mem_singleton.mpr rfl)
      cases e2
    show wpAny _ _ (if (stored == [Value.none]) = true then _ else _) _ _ _
    rw [if_neg hs1]
    refine wpAny_bind (mayTell_none hst ?_)
    show wpAny _ _ (if (false && decide (stored.length ≥ 2)) = true then _ else _) _ _ _
    rw [if_neg (by simp)]
    refine wpAny_bind ?_
    refine wpAny_forIn_list _ (fun rest b s' => s' = s ∧ b = (none, none)) _ ?_ ?_ _ _ ⟨rfl, rfl⟩
    · rintro x rest b s' ⟨rfl, rfl⟩
      cases hx : es[x]? with
      | none => exact wpAny_pure ⟨rfl, rfl⟩
      | some e =>
        obtain ⟨k', b, v', rfl, hb⟩ := hmem x e hx
        dsimp only
        split
        · refine wpAny_bind (wpAny_dictEpoch ho hd (wpAny_bind (noteq hb (wpAny_bind (wpAny_dictEpoch ho hd ?_)))))
          show wpAny _ _ (if (ep != ep) = true then _ else _) _ E _
          rw [if_neg (by simp)]
          simp only [Bool.false_eq_true, if_false]
          refine wpAny_bind (wpAny_rule ?_)
          first
            | exact wpAny_pure ⟨rfl, rfl⟩
            | exact wpAny_bind (wpAny_pure (wpAny_pure ⟨rfl, rfl⟩))
            | (rw [if_neg (by simp)]; exact wpAny_pure ⟨rfl, rfl⟩)
        · exact wpAny_pure ⟨rfl, rfl⟩
    · rintro b s' ⟨rfl, rfl⟩
      exact wpAny_pure hQ
theorem get_none {κ : Type} [DecidableEq κ] {knd : KeyKind prog w κ} {d : Addr} {xs : List (List κ × Addr × Value)} {Q : Option Value → Shared → Prop} (hu : A.units < cLine) (hm : s.heap.DictOfH (tupleKind knd) d xs)
    (h : ∀ t, Q none { s with toks := t }) : wpAny (model prog w) A (dictGet d .none) Q E s := by
  obtain ⟨o, es, ep, ho, _, hd, he, his, hn⟩ := hm
  unfold dictGet
  try with_reducible refine wpAny_holding ?_
  refine wpAny_bind (pyHash_key .none _ A s _ .none (by simpa [NestedKey.depth] using hu) (wpAny_bind (find_none (s := { s with toks := s.toks + NestedKey.draws .none }) (knd := knd) (xs := xs) hu ho hd he his ?_)))
  exact wpAny_pure (h _)
theorem contains_none {κ : Type} [DecidableEq κ] {knd : KeyKind prog w κ} {d : Addr} {xs : List (List κ × Addr × Value)} {Q : Bool → Shared → Prop} (hu : A.units + 1 < cLine) (hd : (d == sysModules) = false) (hm : s.heap.DictOfH (tupleKind knd) d xs)
    (h : ∀ t, Q false { s with toks := t }) : wpAny (model prog w) A (contains (.ref d) .none) Q E s := by
  unfold contains
  try with_reducible refine wpAny_holding ?_
  refine wpAny_bind (wpAny_specialOf hm.typeIs slot_dict_contains.lookup ?_)
  show wpAny _ _ (if (some (Value.builtin "dict.__contains__") == some Value.none) = true then _ else _) _ E s
  rw [if_neg (by rw [beq_builtin_none]; exact Bool.false_ne_true)]
  refine wpAny_bind (wpAny_callSpecialUnlessNone?_slot (name := Str.ofString "__contains__") hm.typeIs slot_dict_contains
    (wpAny_call_entry slot_dict_contains hm.typeIs entry_dict_contains ?_ (args_dict_contains _ _)))
  show wpAny _ _ (dictGet d .none >>= _) _ _ s
  refine wpAny_bind (get_none (by rw [Around.in1_units]; omega) hm fun t => ?_)
  show wpAny _ _ (Builtin.Dict.pendingKey? d .none >>= _) _ _ _
  exact wpAny_bind (wpAny_pendingKey_other hd (wpAny_pure ⟨_, rfl, wpAny_truthy_bool (h _)⟩))
theorem in_none {κ : Type} [DecidableEq κ] {knd : KeyKind prog w κ} {d : Addr} {xs : List (List κ × Addr × Value)} {Q : Value → Shared → Prop} (hu : A.units + 1 < cLine) (hd : (d == sysModules) = false) (hm : s.heap.DictOfH (tupleKind knd) d xs)
    (h : ∀ t, Q (.bool false) { s with toks := t }) : wpAny (model prog w) A (compareOp .In .none (.ref d)) Q E s := by
  show wpAny _ _ (do return .bool (← contains (.ref d) .none)) Q E s
  exact wpAny_bind (contains_none hu hd hm fun t => wpAny_pure (h t))
theorem notIn_none {κ : Type} [DecidableEq κ] {knd : KeyKind prog w κ} {d : Addr} {xs : List (List κ × Addr × Value)} {Q : Value → Shared → Prop} (hu : A.units + 1 < cLine) (hd : (d == sysModules) = false) (hm : s.heap.DictOfH (tupleKind knd) d xs)
    (h : ∀ t, Q (.bool true) { s with toks := t }) : wpAny (model prog w) A (compareOp .NotIn .none (.ref d)) Q E s := by
  show wpAny _ _ (do return .bool (!(← contains (.ref d) .none))) Q E s
  exact wpAny_bind (contains_none hu hd hm fun t => wpAny_pure (h t))
end
section
variable {K : PySem.W.Frag} {N : Nm} {X : Cx} {m : List Addr} {H : Hp} {st : Store}
/-- what a comparison by values asks -/
def rCmp (K : PySem.W.Frag) (N : Nm) (o : CmpOp) : R2 := fun x y H Q => ∃ m st dx dy k, HR K N m H st ∧ RD K N m H dx x ∧ RD K N m H dy y ∧ cmpD o dx dy st = some k ∧ Q (.bl k) H
theorem str1 {c : Nat} : mkS [c] = ⟨#[c]⟩ := rfl
theorem units_ok {A : Around} (hu : A.units + 100 < cLine) {a b : Nat} (h : min a b ≤ 64) : A.units + min a b < cLine := by omega
theorem in_ok (hu : X.A.units + 100 < cLine) : OpR X (compareOp .In) (rCmp X.K N .In) := by
  intro pins s σ H x y v u Q I rx ry ⟨m, st, dx, dy, k, hr, r1, r2, h, q⟩
  change inD st dx dy = some k at h
  unfold inD at h
  split at h
  · rename_i z
    split at h
    · rename_i c
      cases h
      refine op_in_sign pins s σ H x y v u Q I rx ry ⟨c, mkS z, r1.1, r2.1, ?_⟩
      rw [mkS_list]; exact q
    · cases h
  · rename_i ys
    obtain ⟨p, vs, e2, s2, q2⟩ := r2
    split at h
    · rename_i c
      cases h
      refine op_in_seq pins s σ H x y v u Q I rx ry ⟨p, vs, e2, .inr (SqT.of s2), RD.flatV r1 c.1, RDs.flatVs q2 c.2, ?_⟩
      rw [if_neg Bool.false_ne_true, RDs.inV q2 r1 c.2 c.1]
      exact q
    · cases h
  · rename_i n
    split at h
    · rename_i ys g
      obtain ⟨p, vs, e2, _, s2, q2⟩ := hr.lst g r2
      split at h
      · rename_i c
        cases h
        refine op_in_seq pins s σ H x y v u Q I rx ry ⟨p, vs, e2, .inl (SqL.of s2), RD.flatV r1 c.1, RDs.flatVs q2 c.2, ?_⟩
        rw [if_neg Bool.false_ne_true, RDs.inV q2 r1 c.2 c.1]
        exact q
      · split at h
        · rename_i c
          obtain ⟨c1, c2, c3, c4⟩ := c
          cases h
          refine op_inD (by omega) pins s σ H x y v u Q I rx ry ⟨D.py dx, D.pyL ys, RD.dp dx x r1 c1, by rw [e2]; exact .lst (SqL.of s2) (RDs.dp ys vs q2 c2), ?_, ?_, ?_⟩
          · unfold SeqAt.shaped
            rw [RD.can dx x r1 c1, D.py_depth]; simp; omega
          · unfold SeqAt.shaped
            simp only [PyData.canLay0, PyData.depth, RDs.can ys vs q2 c2, D.pyL_depth]; simp; omega
          · rw [pyL_any dx c1 ys c2]; exact q
        · cases h
    · unfold inM at h
      split at h
      · rename_i p g
        split at h
        · rename_i kb
          cases h
          obtain ⟨a, rfl, _, rm⟩ := hr.mget g r2
          obtain ⟨o, dg, gr⟩ := rm.get kb r1
          cases (show u = Value.ref a from ry)
          refine d_in (by omega) I dg rx fun s' I' => ⟨.bl o.isSome, H, I', rfl, ?_⟩
          rw [gr.isSome]; exact q
        · split at h
          · rename_i kn
            cases h
            obtain ⟨a, rfl, _, rm⟩ := hr.mget g r2
            cases (show u = Value.ref a from ry)
            cases dx with
            | non =>
              obtain rfl : x = .non := r1
              cases (show v = Value.none from rx)
              obtain ⟨xs, e1⟩ := rm.dT kn.1
              obtain ⟨_, hd, ys, _, dd⟩ := dt_of I.hok e1
              exact in_none (by omega) hd dd fun t => ⟨.bl false, H, I.tok _, rfl, q⟩
            | _ => cases kn.2
          · cases h
      · cases h
  · cases h
theorem notIn_ok (hu : X.A.units + 100 < cLine) : OpR X (compareOp .NotIn) (rCmp X.K N .NotIn) := by
  intro pins s σ H x y v u Q I rx ry ⟨m, st, dx, dy, k, hr, r1, r2, h, q⟩
  change (inD st dx dy).map (!·) = some k at h
  unfold inD at h
  split at h
  · rename_i z
    split at h
    · rename_i c
      cases h
      refine op_notIn_sign pins s σ H x y v u Q I rx ry ⟨c, mkS z, r1.1, r2.1, ?_⟩
      rw [mkS_list]; exact q
    · cases h
  · rename_i ys
    obtain ⟨p, vs, e2, s2, q2⟩ := r2
    split at h
    · rename_i c
      cases h
      refine op_notIn_seq pins s σ H x y v u Q I rx ry ⟨p, vs, e2, .inr (SqT.of s2), RD.flatV r1 c.1, RDs.flatVs q2 c.2, ?_⟩
      rw [if_pos rfl, RDs.inV q2 r1 c.2 c.1]
      exact q
    · cases h
  · rename_i n
    split at h
    · rename_i ys g
      obtain ⟨p, vs, e2, _, s2, q2⟩ := hr.lst g r2
      split at h
      · rename_i c
        cases h
        refine op_notIn_seq pins s σ H x y v u Q I rx ry ⟨p, vs, e2, .inl (SqL.of s2), RD.flatV r1 c.1, RDs.flatVs q2 c.2, ?_⟩
        rw [if_pos rfl, RDs.inV q2 r1 c.2 c.1]
        exact q
      · split at h
        · rename_i c
          obtain ⟨c1, c2, c3, c4⟩ := c
          cases h
          refine op_notInD (by omega) pins s σ H x y v u Q I rx ry ⟨D.py dx, D.pyL ys, RD.dp dx x r1 c1, by rw [e2]; exact .lst (SqL.of s2) (RDs.dp ys vs q2 c2), ?_, ?_, ?_⟩
          · unfold SeqAt.shaped
            rw [RD.can dx x r1 c1, D.py_depth]; simp; omega
          · unfold SeqAt.shaped
            simp only [PyData.canLay0, PyData.depth, RDs.can ys vs q2 c2, D.pyL_depth]; simp; omega
          · rw [pyL_any dx c1 ys c2]; exact q
        · cases h
    · cases hk : inM st n dx with
      | none => rw [hk] at h; cases h
      | some b =>
        rw [hk] at h
        cases h
        unfold inM at hk
        split at hk
        · rename_i p g
          split at hk
          · rename_i kb
            cases hk
            obtain ⟨a, rfl, _, rm⟩ := hr.mget g r2
            obtain ⟨o, dg, gr⟩ := rm.get kb r1
            cases (show u = Value.ref a from ry)
            refine d_notIn (by omega) I dg rx fun s' I' => ⟨.bl (!o.isSome), H, I', rfl, ?_⟩
            rw [gr.isSome]; exact q
          · split at hk
            · rename_i kn
              cases hk
              obtain ⟨a, rfl, _, rm⟩ := hr.mget g r2
              cases (show u = Value.ref a from ry)
              cases dx with
              | non =>
                obtain rfl : x = .non := r1
                cases (show v = Value.none from rx)
                obtain ⟨xs, e1⟩ := rm.dT kn.1
                obtain ⟨_, hd, ys, _, dd⟩ := dt_of I.hok e1
                exact notIn_none (by omega) hd dd fun t => ⟨.bl true, H, I.tok _, rfl, q⟩
              | _ => cases kn.2
            · cases hk
        · cases hk
  · cases h
theorem isNon_of {d : D} {x : V} (r : RD K N m H d x) : decide (x = .non) = d.isNon := by
  cases d with
  | non => rw [show x = .non from r]; rfl
  | bl b => rw [show x = .bl b from r]; rfl
  | int i => rw [show x = .int i from r]; rfl
  | str s => rw [r.1]; rfl
  | tup ds => obtain ⟨a, vs, e, _⟩ := r; rw [e]; rfl
  | loc n => obtain ⟨a, e, _⟩ := r; rw [e]; rfl
  | fn i => rw [show x = .ref (N.fnA i) from r]; rfl
  | scr ns => obtain ⟨a, e, _⟩ := r; rw [e]; rfl
theorem cmp_ok (hu : X.A.units + 100 < cLine) (o : CmpOp) : OpR X (compareOp o) (rCmp X.K N o) := by
  intro pins s σ H x y v u Q I rx ry h
  cases o with
  | In => exact in_ok hu pins s σ H x y v u Q I rx ry h
  | NotIn => exact notIn_ok hu pins s σ H x y v u Q I rx ry h
  | Eq =>
    obtain ⟨m, st, dx, dy, k, hr, r1, r2, h, q⟩ := h
    obtain ⟨da, db, p1, p2, c1, c2, hm, e⟩ := eqD_data hr r1 r2 h
    exact eqData I rx ry p1 p2 c1 c2 (units_ok hu hm) ⟨.bl k, H, I, by rw [e]; rfl, q⟩
  | NotEq =>
    obtain ⟨m, st, dx, dy, k, hr, r1, r2, h, q⟩ := h
    have h : (eqD st dx dy).map (!·) = some k := h
    cases e0 : eqD st dx dy with
    | none => rw [e0] at h; cases h
    | some b =>
      rw [e0] at h
      cases h
      obtain ⟨da, db, p1, p2, c1, c2, hm, e⟩ := eqD_data hr r1 r2 e0
      exact neData I rx ry p1 p2 c1 c2 (units_ok hu hm) ⟨.bl (!b), H, I, by rw [e]; rfl, q⟩
  | Lt =>
    obtain ⟨m, st, dx, dy, k, hr, r1, r2, h, q⟩ := h
    unfold cmpD at h
    simp only at h
    split at h
    · rename_i i j
      cases h
      exact op_lt pins s σ H x y v u Q I rx ry ⟨i, j, r1, r2, q⟩
    · rename_i a b
      cases h
      exact op_lt_str pins s σ H x y v u Q I rx ry ⟨mkS a, mkS b, r1.1, r2.1, by rw [mkS_list, mkS_list]; exact q⟩
    · cases h
  | LtE =>
    obtain ⟨m, st, dx, dy, k, hr, r1, r2, h, q⟩ := h
    unfold cmpD at h
    simp only at h
    split at h
    · rename_i i j
      cases h
      exact op_le pins s σ H x y v u Q I rx ry ⟨i, j, r1, r2, q⟩
    · rename_i a b
      cases h
      exact op_le_str pins s σ H x y v u Q I rx ry ⟨mkS a, mkS b, r1.1, r2.1, by rw [mkS_list, mkS_list]; exact q⟩
    · cases h
  | Gt =>
    obtain ⟨m, st, dx, dy, k, hr, r1, r2, h, q⟩ := h
    unfold cmpD at h
    simp only at h
    split at h
    · rename_i i j
      cases h
      exact op_gt pins s σ H x y v u Q I rx ry ⟨i, j, r1, r2, q⟩
    · rename_i a b
      cases h
      exact op_gt_str pins s σ H x y v u Q I rx ry ⟨mkS a, mkS b, r1.1, r2.1, by rw [mkS_list, mkS_list]; exact q⟩
    · cases h
  | GtE =>
    obtain ⟨m, st, dx, dy, k, hr, r1, r2, h, q⟩ := h
    unfold cmpD at h
    simp only at h
    split at h
    · rename_i i j
      cases h
      exact op_ge pins s σ H x y v u Q I rx ry ⟨i, j, r1, r2, q⟩
    · rename_i a b
      cases h
      exact op_ge_str pins s σ H x y v u Q I rx ry ⟨mkS a, mkS b, r1.1, r2.1, by rw [mkS_list, mkS_list]; exact q⟩
    · cases h
  | Is =>
    obtain ⟨m, st, dx, dy, k, hr, r1, r2, h, q⟩ := h
    unfold cmpD at h
    simp only at h
    split at h
    · cases h
      exact op_isN pins s σ H x y v u Q I rx ry ⟨r2, by rw [isNon_of r1]; exact q⟩
    · rename_i a b
      cases h
      exact op_isBl pins s σ H x y v u Q I rx ry ⟨a, b, r1, r2, by rw [← Bool.beq_eq_decide_eq]; exact q⟩
    · cases h
  | IsNot =>
    obtain ⟨m, st, dx, dy, k, hr, r1, r2, h, q⟩ := h
    unfold cmpD at h
    simp only at h
    split at h
    · cases h
      exact op_notN pins s σ H x y v u Q I rx ry ⟨r2, by rw [isNon_of r1]; exact q⟩
    · rename_i a b
      cases h
      exact op_notBl pins s σ H x y v u Q I rx ry ⟨a, b, r1, r2, by rw [← Bool.beq_eq_decide_eq]; exact q⟩
    · cases h

/-! ### subscripts -/
def rIdx (K : PySem.W.Frag) (N : Nm) : R2 := fun x y H Q => ∃ m st dx dy d, HR K N m H st ∧ RD K N m H dx x ∧ RD K N m H dy y ∧ idxD st dx dy = some d ∧ ∀ v, RD K N m H d v → Q v H
theorem atI_RD {ds : List D} {vs : List V} {i : Int} {d : D} (r : RDs K N m H ds vs) (h : Dk.atI ds i = some d) : ∃ v, L2.atI vs i = some v ∧ RD K N m H d v := by
  have e : L2.atI ds i = some d := h
  obtain ⟨j, h1, h2, _⟩ := L2.atI_get e
  obtain ⟨v, hv, rv⟩ := r.get h2
  refine ⟨v, ?_, rv⟩
  unfold L2.atI at e ⊢
  rw [← r.len]
  cases q : L2.ixN ds.length i with
  | none => rw [q] at e; cases e
  | some j' =>
    rw [q] at e
    have e2 : ds[j']? = some d := e
    obtain ⟨v', hv', rv'⟩ := r.get e2
    have : j' = j := by
      have := (L2.ixN_seq q).1
      rw [h1] at this; cases this; rfl
    subst this
    show vs[j']? = some v
    exact hv
theorem ix_ok (hu : X.A.units + 100 < cLine) : IxR X (rIdx X.K N) := by
  intro value slice pins s σ H x y v u Q I rx ry ⟨m, st, dx, dy, d, hr, r1, r2, h, q⟩ hs
  unfold idxD at h
  split at h
  · rename_i xs i
    obtain ⟨p, vs, e1, s1, q1⟩ := r1
    obtain ⟨w, hw, rw_⟩ := atI_RD q1 h
    exact ix_tup value slice pins s σ H x y v u Q I rx ry ⟨p, vs, i, w, e1, r2, SqT.of s1, hw, q w rw_⟩ hs
  · rename_i z i
    cases e : Dk.atI z i with
    | none => rw [e] at h; cases h
    | some c =>
      rw [e] at h
      cases h
      have hc : c ∈ z := by
        obtain ⟨j, _, h2, _⟩ := L2.atI_get (show L2.atI z i = some c from e)
        exact List.mem_of_getElem? h2
      refine ix_str value slice pins s σ H x y v u Q I rx ry ⟨mkS z, i, c, r1.1, r2, by simpa using r1.2.len, by rw [mkS_list]; exact e, q _ ⟨rfl, ?_, ?_⟩⟩ hs
      · rw [sizeLine_eq]; show 1 ≤ 16777216; decide
      · intro c' hc'
        have : c' = c := by simpa using hc'
        rw [this]; exact r1.2.cp c hc
  · rename_i ns i
    obtain ⟨p, e1, s1⟩ := r1
    cases e : Dk.atI ns i with
    | none => rw [e] at h; cases h
    | some c =>
      rw [e] at h
      cases h
      refine ix_list value slice pins s σ H x y v u Q I rx ry ⟨p, _, i, .int c, e1, r2, s1.sq, ?_, q _ rfl⟩ hs
      have z : L2.atI ns i = some c := e
      unfold L2.atI at z ⊢
      rw [List.length_map]
      cases w : L2.ixN ns.length i with
      | none => rw [w] at z; cases z
      | some j =>
        rw [w] at z
        replace z : ns[j]? = some c := z
        show (ns.map V.int)[j]? = some (.int c)
        rw [List.getElem?_map, z]; rfl
  · rename_i n
    split at h
    · rename_i xs g
      split at h
      · rename_i i
        obtain ⟨p, vs, e1, _, s1, q1⟩ := hr.lst g r1
        obtain ⟨w, hw, rw_⟩ := atI_RD q1 h
        exact ix_list value slice pins s σ H x y v u Q I rx ry ⟨p, vs, i, w, e1, r2, SqL.of s1, hw, q w rw_⟩ hs
      · cases h
    · unfold idxM at h
      split at h
      · rename_i p g
        split at h
        · rename_i kb
          obtain ⟨a, rfl, _, rm⟩ := hr.mget g r1
          obtain ⟨o, dg, gr⟩ := rm.get kb r2
          rw [h] at gr
          obtain ⟨w, rfl, rw_⟩ := gr
          cases (show v = Value.ref a from rx)
          exact tail_any (dict_typeIs I dg) PySem.F.slot_dict_getitem.lookup (d_getItem (by omega) I dg ry fun w' s' I' rw' => ⟨w, H, I', rw', q w rw_⟩) hs
        · cases h
      · cases h
  · cases h

/-! ### slices -/
def rSlc (K : PySem.W.Frag) (N : Nm) : V → Option Int → Option Int → Hp → VK → Prop := fun x lo hi H Q => ∃ (W : XK), ∃ m0 H0 st0 m st dx, HR K N m0 H0 st0 ∧ Ext m0 H0 m H ∧ HR K N m H st ∧ RD K N m H dx x ∧ Pst K N (RD K N) m0 H0 (slcD st0 dx lo hi st) Q W
theorem cutL_length {α : Type} (xs : List α) (lo hi : Option Int) : (cutL xs lo hi).length ≤ xs.length := by
  unfold cutL
  rw [List.length_take, List.length_drop]; omega
theorem RDs.cutL {ds : List D} {vs : List V} (r : RDs K N m H ds vs) (lo hi : Option Int) : RDs K N m H (cutL ds lo hi) (cutV vs lo hi) := by
  unfold Dk.cutL cutV
  rw [r.len]
  exact (r.drop _).take _
theorem mem_cutL {α : Type} {xs : List α} {lo hi : Option Int} {c : α} (h : c ∈ cutL xs lo hi) : c ∈ xs := List.mem_of_mem_drop (List.mem_of_mem_take h)
theorem slc_ok : SlR X (rSlc X.K N) := by
  intro pins s σ H x v vl vu lo hi sl Q I rx hs pl pu ⟨W, m0, H0, st0, m, st, dx, h0, e, hr, r1, h⟩
  cases dx with
  | tup xs =>
    obtain ⟨p, vs, e1, s1, q1⟩ := r1
    have q2 := q1.cutL lo hi
    refine sl_tupA pins s σ H x v vl vu lo hi sl Q I rx hs pl pu ⟨p, vs, e1, SqT.of s1, fun z => ?_, fun z t ht => ?_⟩
    · refine h _ H m e hr ⟨p, vs, rfl, s1, ?_⟩
      have ec : cutV vs lo hi = vs := by
        unfold cutV
        rw [z.1, z.2]; simp
      rw [ec] at q2
      exact q2
    · have e3 := Ext.fresh (m := m) (o := .tup (cutV vs lo hi)) ht
      exact h _ _ m (e.trans e3) (hr.fresh ht) ⟨t, _, rfl, upd_same, RDs.mono e3 hr.nt _ _ q2⟩
  | str z =>
    refine sl_str pins s σ H x v vl vu lo hi sl Q I rx hs pl pu ⟨mkS z, r1.1, by simpa using r1.2.len, ?_⟩
    refine h _ H m e hr ⟨?_, ?_, fun c hc => r1.2.cp c (mem_cutL hc)⟩
    · unfold cutS
      simp [cutL, mkS, Str.length]
    · exact Nat.le_trans (cutL_length z lo hi) r1.2.len
  | loc n =>
    have h : Pst X.K N (RD X.K N) m0 H0 (match getL st n with
      | some xs => newL st0 (Dk.cutL xs lo hi) st
      | none => .stuck) Q W := h
    split at h
    · rename_i xs g
      obtain ⟨p, vs, e1, _, s1, q1⟩ := hr.lst g r1
      obtain ⟨z1, z2⟩ := h.newL h0 e hr (q1.cutL lo hi)
      exact sl_list pins s σ H x v vl vu lo hi sl Q I rx hs pl pu ⟨p, vs, e1, SqL.of s1, z2⟩
    · exact h.elim
  | _ => exact h.elim
end
end Dk
/-! Dk5: built-ins and methods of built-in types. -/
namespace Dk
open PySem PySem.Spec PyProof.Rows L2
/-! ### one sign in a text -/
open PySem.StrLaws PySem.Builtin.Str in
theorem occ_one_run (x : Str) (c lim : Nat) : ∀ (n a : Nat) (acc : Array Nat) (f : Nat), f ≤ a → acc.size ≤ lim →
    (forIn (List.range' a n) (acc, f) (occBody x ⟨#[c]⟩ x.length lim)).run.fst.toList = acc.toList ++ ((List.range' a n).filter fun i => decide (x.cps.toList[i]? = some c)).take (lim - acc.size)
  | 0, a, acc, f, _, _ => by simp
  | n + 1, a, acc, f, hf, hl => by
    rw [List.range'_succ, List.forIn_cons]
    have key := subAt_one x c a
    unfold occBody
    by_cases h1 : x.cps.toList[a]? = some c
    · obtain ⟨k1, k2⟩ := key.mpr h1
      by_cases h2 : acc.size < lim
      · rw [if_pos ⟨⟨⟨h2, hf⟩, k1⟩, k2⟩]
        have ih := occ_one_run x c lim n (a + 1) (acc.push a) (a + (⟨#[c]⟩ : Str).length) (Nat.le_refl _) (by simp; omega)
        refine ih.trans ?_
        rw [List.filter_cons, if_pos (decide_eq_true h1)]
        have e : lim - acc.size = (lim - (acc.push a).size) + 1 := by simp; omega
        rw [e, List.take_succ_cons]
        simp
      · rw [if_neg (fun z => h2 z.1.1.1)]
        have ih := occ_one_run x c lim n (a + 1) acc f (by omega) hl
        refine ih.trans ?_
        have e : lim - acc.size = 0 := by omega
        rw [e]; simp
    · rw [if_neg (fun z => h1 (key.mp ⟨z.1.2, z.2⟩))]
      have ih := occ_one_run x c lim n (a + 1) acc f (by omega) hl
      refine ih.trans ?_
      rw [List.filter_cons, if_neg (by simpa using h1)]
open PySem.StrLaws PySem.Builtin.Str in
theorem occ_one (s : S) (c lim : Nat) : occurrences (mkS s) ⟨#[c]⟩ 0 (mkS s).length lim = ((List.range' 0 (s.length + 1)).filter fun i => decide (s[i]? = some c)).take lim := by
  rw [occ_eq, occ_one_run (mkS s) c lim _ 0 #[] 0 (Nat.le_refl _) (by simp)]
  simp
theorem filter_count (c : Nat) : ∀ (s : S) (k : Nat), ((List.range' k (s.length + 1)).filter fun i => decide (s[i - k]? = some c)).length = s.count c
  | [], k => by simp [List.range'_succ]
  | x :: r, k => by
    have ih := filter_count c r (k + 1)
    rw [List.length_cons, List.range'_succ, List.filter_cons]
    have e : ((List.range' (k + 1) (r.length + 1)).filter fun i => decide ((x :: r)[i - k]? = some c)) = (List.range' (k + 1) (r.length + 1)).filter fun i => decide (r[i - (k + 1)]? = some c) := by
      apply List.filter_congr
      intro i hi
      have hk : k + 1 ≤ i := (List.mem_range'_1.mp hi).1
      have : i - k = (i - (k + 1)) + 1 := by omega
      rw [this, List.getElem?_cons_succ]
    rw [e]
    by_cases h : x = c
    · rw [if_pos (by simp [h]), List.length_cons, ih, List.count_cons, if_pos (by simp [h])]
    · rw [if_neg (by simp [h]), ih, List.count_cons, if_neg (by simp [h])]; omega
theorem filter_first (c : Nat) : ∀ (s : S) (k : Nat), ((List.range' k (s.length + 1)).filter fun i => decide (s[i - k]? = some c)).head? = (s.findIdx? fun z => z == c).map (· + k)
  | [], k => by simp [List.range'_succ]
  | x :: r, k => by
    have ih := filter_first c r (k + 1)
    rw [List.length_cons, List.range'_succ, List.filter_cons]
    have e : ((List.range' (k + 1) (r.length + 1)).filter fun i => decide ((x :: r)[i - k]? = some c)) = (List.range' (k + 1) (r.length + 1)).filter fun i => decide (r[i - (k + 1)]? = some c) := by
      apply List.filter_congr
      intro i hi
      have hk : k + 1 ≤ i := (List.mem_range'_1.mp hi).1
      have : i - k = (i - (k + 1)) + 1 := by omega
      rw [this, List.getElem?_cons_succ]
    rw [e, List.findIdx?_cons]
    by_cases h : x = c
    · rw [if_pos (by simp [h]), if_pos (by simp [h])]; simp
    · rw [if_neg (by simp [h]), if_neg (by simp [h]), ih, Option.map_map]
      congr 1
      funext i
      show i + (k + 1) = (i + 1) + k
      omega
section
variable {K : PySem.W.Frag} {N : Nm} {X : Cx} {m : List Addr} {H : Hp} {st : Store} {W : XK}
/-! ### built-ins -/
def bltV : Blt → Value
  | .len => .builtin "len"
  | .abs => .builtin "abs"
  | .int => .type "int"
  | .max => .builtin "max"
  | .min => .builtin "min"
  | .tuple => .type "tuple"
  | .list => .type "list"
  | .sum => .builtin "sum"
  | .sorted => .builtin "sorted"
def bltN : Blt → Str
  | .len => "len"
  | .abs => "abs"
  | .int => "int"
  | .max => "max"
  | .min => "min"
  | .tuple => "tuple"
  | .list => "list"
  | .sum => "sum"
  | .sorted => "sorted"
theorem blt_boot (b : Blt) : bootBuiltins (bltN b) = some (bltV b) := by cases b <;> decide +kernel
theorem bltN_ok (b : Blt) : bltN b ≠ "__name__" ∧ (bltN b == ("__debug__" : Str)) = false := by cases b <;> decide +kernel
def rBlt (K : PySem.W.Frag) (N : Nm) (b : Blt) : List V → Hp → VK → Prop := fun xs H Q => ∃ (W : XK), ∃ m0 H0 st0 m st ds, HR K N m0 H0 st0 ∧ Ext m0 H0 m H ∧ HR K N m H st ∧ RDs K N m H ds xs ∧ Pst K N (RD K N) m0 H0 (bltD st0 b ds st) Q W
theorem RDs.ints : ∀ {ds : List D} {vs : List V} {ns : List Int}, RDs K N m H ds vs → intsOf ds = some ns → vs = ns.map V.int
  | [], vs, ns, h, e => by
    cases e
    exact h
  | d :: ds, vs, ns, h, e => by
    obtain ⟨v, r, rfl, h1, h2⟩ := h
    cases d with
    | int i =>
      have e : (intsOf ds).map (i :: ·) = some ns := e
      cases q : intsOf ds with
      | none => rw [q] at e; cases e
      | some ks =>
        rw [q] at e; cases e
        rw [show v = .int i from h1, RDs.ints h2 q]; rfl
    | _ => cases e
theorem reads_ints {h : Heap} : ∀ {ns : List Int} {us : List Value}, Vals (ns.map V.int) us → ∃ as, ReadsAll h us (ns.map PyData.int) as
  | [], _, r => by cases r; exact ⟨_, .nil⟩
  | n :: ns, us, r => by
    cases r with
    | @cons a b as bs h1 h2 =>
      obtain ⟨t, rfl⟩ := h1
      obtain ⟨as', r'⟩ := reads_ints h2
      exact ⟨_, .cons (.int _ _) r'⟩
theorem alike_ints (ns : List Int) : PySem.W.AlikeAll (ns.map PyData.int) := ⟨fun x hx y hy => by
  obtain ⟨a, _, rfl⟩ := List.mem_map.mp hx
  obtain ⟨b, _, rfl⟩ := List.mem_map.mp hy
  simp [PySem.W.alike], fun x hx => by
  obtain ⟨a, _, rfl⟩ := List.mem_map.mp hx
  exact fun z => nomatch z⟩
theorem depth_ints : ∀ ns : List Int, PyData.depthAll (ns.map PyData.int) = 0
  | [] => rfl
  | n :: ns => by
    have := depth_ints ns
    simp [PyData.depthAll, PyData.depth, this]
theorem maxI_fold : ∀ (t : List Int) (i : Int), t.foldl max i = maxI i t
  | [], i => rfl
  | j :: t, i => by
    rw [List.foldl_cons, maxI_fold t]
    show maxI (max i j) t = maxI (if j > i then j else i) t
    congr 1; split <;> omega
theorem minI_fold : ∀ (t : List Int) (i : Int), t.foldl min i = minI i t
  | [], i => rfl
  | j :: t, i => by
    rw [List.foldl_cons, minI_fold t]
    show minI (min i j) t = minI (if j < i then j else i) t
    congr 1; split <;> omega
theorem cr_maxT (hu : X.A.units + 2 < cLine) (hc : X.calm = true) : CallR X (.builtin "max") (fun vs H Q => ∃ (a : Addr) (i : Int) (t : List Int), vs = [V.ref a] ∧ SqT X.K H a ((i :: t).map V.int) ∧ Q (.int (maxI i t)) H) := by
  intro pins s σ H vs us Q I r h
  obtain ⟨a, i, t, rfl, hs, q⟩ := h
  obtain ⟨its, rv, pl, hz⟩ := I.tuple hs
  rw [Vals.ref1 r]
  obtain ⟨as, hr⟩ := reads_ints (h := s.heap) rv
  refine PySem.W.max_tuple_data (x := .int i) (xs := t.map PyData.int) (as := as) (I.ok.hd hc) pl (by simpa using hr) (alike_ints (i :: t)) (by have := depth_ints (i :: t); simp only [List.map_cons] at this; rw [this]; omega) fun k v h' tk bs _ rd hk => ?_
  rw [PySem.W.maxD_ints, maxI_fold] at rd
  cases rd
  exact ⟨.int _, H, I.kept hk, ⟨_, rfl⟩, q⟩
theorem cr_minT (hu : X.A.units + 2 < cLine) (hc : X.calm = true) : CallR X (.builtin "min") (fun vs H Q => ∃ (a : Addr) (i : Int) (t : List Int), vs = [V.ref a] ∧ SqT X.K H a ((i :: t).map V.int) ∧ Q (.int (minI i t)) H) := by
  intro pins s σ H vs us Q I r h
  obtain ⟨a, i, t, rfl, hs, q⟩ := h
  obtain ⟨its, rv, pl, hz⟩ := I.tuple hs
  rw [Vals.ref1 r]
  obtain ⟨as, hr⟩ := reads_ints (h := s.heap) rv
  refine PySem.W.min_tuple_data (x := .int i) (xs := t.map PyData.int) (as := as) (I.ok.hd hc) pl (by simpa using hr) (alike_ints (i :: t)) (by have := depth_ints (i :: t); simp only [List.map_cons] at this; rw [this]; omega) fun k v h' tk bs _ rd hk => ?_
  rw [PySem.W.minD_ints, minI_fold] at rd
  cases rd
  exact ⟨.int _, H, I.kept hk, ⟨_, rfl⟩, q⟩
theorem maxI_max : ∀ (r : List Int) (m : Int), (maxI m r = m ∨ maxI m r ∈ r) ∧ m ≤ maxI m r ∧ ∀ y ∈ r, y ≤ maxI m r
  | [], m => ⟨.inl rfl, Int.le_refl _, fun y hy => by cases hy⟩
  | i :: r, m => by
    obtain ⟨h1, h2, h3⟩ := maxI_max r (if i > m then i else m)
    have e : maxI m (i :: r) = maxI (if i > m then i else m) r := rfl
    rw [e]
    by_cases c : i > m
    · rw [if_pos c] at h1 h2 h3 ⊢
      refine ⟨.inr ?_, by omega, fun y hy => ?_⟩
      · rcases h1 with z | z
        · rw [z]; exact List.mem_cons_self
        · exact List.mem_cons_of_mem _ z
      · rcases List.mem_cons.mp hy with z | z
        · rw [z]; exact h2
        · exact h3 y z
    · rw [if_neg c] at h1 h2 h3 ⊢
      refine ⟨?_, h2, fun y hy => ?_⟩
      · rcases h1 with z | z
        · exact .inl z
        · exact .inr (List.mem_cons_of_mem _ z)
      · rcases List.mem_cons.mp hy with z | z
        · rw [z]; omega
        · exact h3 y z
theorem minI_min : ∀ (r : List Int) (m : Int), (minI m r = m ∨ minI m r ∈ r) ∧ minI m r ≤ m ∧ ∀ y ∈ r, minI m r ≤ y
  | [], m => ⟨.inl rfl, Int.le_refl _, fun y hy => by cases hy⟩
  | i :: r, m => by
    obtain ⟨h1, h2, h3⟩ := minI_min r (if i < m then i else m)
    have e : minI m (i :: r) = minI (if i < m then i else m) r := rfl
    rw [e]
    by_cases c : i < m
    · rw [if_pos c] at h1 h2 h3 ⊢
      refine ⟨.inr ?_, by omega, fun y hy => ?_⟩
      · rcases h1 with z | z
        · rw [z]; exact List.mem_cons_self
        · exact List.mem_cons_of_mem _ z
      · rcases List.mem_cons.mp hy with z | z
        · rw [z]; exact h2
        · exact h3 y z
    · rw [if_neg c] at h1 h2 h3 ⊢
      refine ⟨?_, h2, fun y hy => ?_⟩
      · rcases h1 with z | z
        · exact .inl z
        · exact .inr (List.mem_cons_of_mem _ z)
      · rcases List.mem_cons.mp hy with z | z
        · rw [z]; omega
        · exact h3 y z
theorem RDs.nil_of {vs : List V} (h : RDs K N m H [] vs) : vs = [] := h
theorem RDs.one_of {d : D} {vs : List V} (h : RDs K N m H [d] vs) : ∃ v, vs = [v] ∧ RD K N m H d v := by
  obtain ⟨v, r, rfl, h1, h2⟩ := h
  exact ⟨v, by rw [show r = [] from h2], h1⟩
theorem RDs.two_of {d e : D} {vs : List V} (h : RDs K N m H [d, e] vs) : ∃ v w, vs = [v, w] ∧ RD K N m H d v ∧ RD K N m H e w := by
  obtain ⟨v, r, rfl, h1, h2⟩ := h
  obtain ⟨w, rfl, h3⟩ := RDs.one_of h2
  exact ⟨v, w, rfl, h1, h3⟩
/-- what may be called while an error is handled -/
def bltHot : Blt → Bool
  | .max | .min | .sum | .sorted => false
  | _ => true
/-- the values as sorted wants them, and back -/
theorem RDs.each {pins : List (Addr × Obj)} {σ : L2.St} {s : Shared} (I : Inv X pins σ H s) : ∀ {ds : List D} {vs : List V} {us : List Value}, RDs X.K N m H ds vs → Vals vs us → D.datL ds = true →
    PySem.W.EachIs (fun u d => (∃ x, RelV x u ∧ RD X.K N m H d x) ∧ ∃ as, Reads s.heap u (D.py d) as) us ds
  | [], vs, us, h, hv, _ => by
    have e : vs = [] := h
    subst e
    cases hv
    exact .nil
  | d :: ds, vs, us, h, hv, b => by
    obtain ⟨v, r, rfl, h1, h2⟩ := h
    cases hv with
    | cons r1 r2 =>
      obtain ⟨b1, b2⟩ := Bool.and_eq_true_iff.mp (show (D.dat d && D.datL ds) = true from b)
      exact .cons ⟨⟨v, r1, h1⟩, Dp.reads I _ _ _ (RD.dp d v h1 b1) r1⟩ (RDs.each I h2 r2 b2)
theorem RDs.of_each {R : Value → D → Prop} (k : ∀ u d, R u d → ∃ x, RelV x u ∧ RD K N m H d x) : ∀ {us : List Value} {ds : List D}, PySem.W.EachIs R us ds → ∃ vs, Vals vs us ∧ RDs K N m H ds vs
  | _, _, .nil => ⟨[], .nil, rfl⟩
  | _, _, .cons r t => by
    obtain ⟨vs, h1, h2⟩ := RDs.of_each k t
    obtain ⟨x, h3, h4⟩ := k _ _ r
    exact ⟨x :: vs, .cons h3 h1, x, vs, rfl, h4, h2⟩
theorem D.depth_mem : ∀ {ds : List D} {d : D}, d ∈ ds → D.depth d ≤ D.depthL ds
  | e :: ds, d, h => by
    have q : D.depthL (e :: ds) = max (D.depth e) (D.depthL ds) := by simp [D.depthL]
    rcases List.mem_cons.mp h with z | z
    · rw [q, z]; omega
    · have := D.depth_mem z
      rw [q]; omega
theorem D.datL_mem : ∀ {ds : List D} {d : D}, D.datL ds = true → d ∈ ds → D.dat d = true
  | e :: ds, d, b, h => by
    obtain ⟨b1, b2⟩ := Bool.and_eq_true_iff.mp (show (D.dat e && D.datL ds) = true from b)
    rcases List.mem_cons.mp h with z | z
    · rw [z]; exact b1
    · exact D.datL_mem b2 z
theorem sortOk_of {xs : List D} (h : sortOk xs = true) : D.datL xs = true ∧ PySem.W.AllAlike (xs.map D.py) ∧ PySem.W.Sortable (xs.map D.py) ∧ D.depthL xs ≤ 40 := by
  unfold sortOk at h
  obtain ⟨h, h4⟩ := Bool.and_eq_true_iff.mp h
  obtain ⟨h, h3⟩ := Bool.and_eq_true_iff.mp h
  obtain ⟨h1, h2⟩ := Bool.and_eq_true_iff.mp h
  refine ⟨h1, ?_, ?_, of_decide_eq_true h4⟩
  · intro d hd d' hd'
    obtain ⟨a, ha, rfl⟩ := List.mem_map.mp hd
    obtain ⟨b, hb, rfl⟩ := List.mem_map.mp hd'
    exact List.all_eq_true.mp (List.all_eq_true.mp h2 a ha) b hb
  · rcases Bool.or_eq_true_iff.mp h3 with z | z
    · refine .inl fun d hd => ?_
      obtain ⟨a, ha, rfl⟩ := List.mem_map.mp hd
      have q := List.all_eq_true.mp z a ha
      cases a with
      | tup xs =>
        cases xs with
        | nil => cases q
        | cons x r => exact ⟨D.py x, D.pyL r, rfl⟩
      | _ => cases q
    · refine .inr fun d hd => ?_
      obtain ⟨a, ha, rfl⟩ := List.mem_map.mp hd
      have q := List.all_eq_true.mp z a ha
      cases a with
      | non => simp at q
      | tup xs => simp [isTup] at q
      | bl b => exact ⟨(fun w => nomatch w), fun xs w => nomatch w⟩
      | int b => exact ⟨(fun w => nomatch w), fun xs w => nomatch w⟩
      | str b => exact ⟨(fun w => nomatch w), fun xs w => nomatch w⟩
      | _ => cases D.datL_mem h1 ha
theorem blt_ok (hu : X.A.units + 100 < cLine) (b : Blt) (hc : bltHot b = true ∨ X.calm = true) : CallR X (bltV b) (rBlt X.K N b) := by
  intro pins s σ H xs us Q I r ⟨W, m0, H0, st0, m, st, ds, h0, e, hr, rs, h⟩
  unfold bltD at h
  split at h
  -- len
  · rename_i x
    obtain ⟨v, rfl, rv⟩ := rs.one_of
    obtain ⟨d, ed, h⟩ := h.of
    cases el : lenD st x with
    | none => rw [el] at ed; cases ed
    | some n =>
      rw [el] at ed; cases ed
      have q : Q (.int (n : Int)) H := h.cut h0 e hr (ds := []) (vs := []) rfl fun _ _ => rfl
      refine call_len pins s σ H [v] us Q I r ⟨v, n, rfl, ?_, q⟩
      cases x with
      | tup ds =>
        cases el
        obtain ⟨a, vs, rfl, s1, q1⟩ := rv
        exact .inr ⟨vs, SqT.of s1, q1.len.symm ▸ rfl⟩
      | str z =>
        cases el
        rw [rv.1]
        exact ⟨by simpa using rv.2.len, by simp⟩
      | scr ns =>
        cases el
        obtain ⟨a, rfl, s1⟩ := rv
        exact .inl ⟨_, s1.sq, by simp⟩
      | loc k =>
        have el : (match st[k]? with
          | some (.lst xs) => some xs.length
          | _ => none) = some n := el
        split at el
        · rename_i xs g
          cases el
          obtain ⟨a, vs, rfl, _, s1, q1⟩ := hr.lst (getL_of g) rv
          exact .inl ⟨vs, SqL.of s1, q1.len.symm ▸ rfl⟩
        · cases el
      | _ => cases el
  -- abs
  · rename_i i
    obtain ⟨v, rfl, rv⟩ := rs.one_of
    exact call_abs pins s σ H [v] us Q I r ⟨i, by rw [show v = .int i from rv], h _ H m e hr rfl⟩
  -- int
  · rename_i i
    obtain ⟨v, rfl, rv⟩ := rs.one_of
    exact call_int1 pins s σ H [v] us Q I r (.inl ⟨i, by rw [show v = .int i from rv], h _ H m e hr rfl⟩)
  · rename_i k
    obtain ⟨v, rfl, rv⟩ := rs.one_of
    exact call_int1 pins s σ H [v] us Q I r (.inr ⟨k, by rw [show v = .bl k from rv], h _ H m e hr rfl⟩)
  -- max, min of two
  · rename_i i j
    obtain ⟨v, w, rfl, rv, rw_⟩ := rs.two_of
    exact call_max2 (hc.elim (fun z => absurd z (by decide)) id) pins s σ H [v, w] us Q I r ⟨i, j, by rw [show v = .int i from rv, show w = .int j from rw_], h _ H m e hr rfl⟩
  · rename_i i j
    obtain ⟨v, w, rfl, rv, rw_⟩ := rs.two_of
    exact call_min2 (hc.elim (fun z => absurd z (by decide)) id) pins s σ H [v, w] us Q I r ⟨i, j, by rw [show v = .int i from rv, show w = .int j from rw_], h _ H m e hr rfl⟩
  -- of a list
  · rename_i n
    obtain ⟨v, rfl, rv⟩ := rs.one_of
    split at h
    · rename_i i t g
      cases gl : getL st n with
      | none => rw [gl] at g; cases g
      | some zs =>
        rw [gl] at g
        obtain ⟨a, vs, rfl, _, s1, q1⟩ := hr.lst gl rv
        have ev := q1.ints g
        subst ev
        obtain ⟨m1, m2, m3⟩ := maxI_max t i
        refine cr_max (hc.elim (fun z => absurd z (by decide)) id) pins s σ H _ us Q I r ⟨a, i :: t, rfl, SqL.of s1, by simp, fun k hk hle => ?_⟩
        have : k = maxI i t := by
          refine Int.le_antisymm ?_ ?_
          · rcases List.mem_cons.mp hk with z | z
            · rw [z]; exact m2
            · exact m3 k z
          · refine hle _ ?_
            rcases m1 with z | z
            · rw [z]; exact List.mem_cons_self
            · exact List.mem_cons_of_mem _ z
        rw [this]
        exact h.cut h0 e hr (ds := []) (vs := []) rfl fun _ _ => rfl
    · exact h.elim
  · rename_i n
    obtain ⟨v, rfl, rv⟩ := rs.one_of
    split at h
    · rename_i i t g
      cases gl : getL st n with
      | none => rw [gl] at g; cases g
      | some zs =>
        rw [gl] at g
        obtain ⟨a, vs, rfl, _, s1, q1⟩ := hr.lst gl rv
        have ev := q1.ints g
        subst ev
        obtain ⟨m1, m2, m3⟩ := minI_min t i
        refine cr_min (hc.elim (fun z => absurd z (by decide)) id) pins s σ H _ us Q I r ⟨a, i :: t, rfl, SqL.of s1, by simp, fun k hk hle => ?_⟩
        have : k = minI i t := by
          refine Int.le_antisymm ?_ ?_
          · refine hle _ ?_
            rcases m1 with z | z
            · rw [z]; exact List.mem_cons_self
            · exact List.mem_cons_of_mem _ z
          · rcases List.mem_cons.mp hk with z | z
            · rw [z]; exact m2
            · exact m3 k z
        rw [this]
        exact h.cut h0 e hr (ds := []) (vs := []) rfl fun _ _ => rfl
    · exact h.elim
  · rename_i n
    obtain ⟨v, rfl, rv⟩ := rs.one_of
    split at h
    · rename_i ns g
      cases gl : getL st n with
      | none => rw [gl] at g; cases g
      | some zs =>
        rw [gl] at g
        obtain ⟨a, vs, rfl, _, s1, q1⟩ := hr.lst gl rv
        have ev := q1.ints g
        subst ev
        exact cr_sum (hc.elim (fun z => absurd z (by decide)) id) pins s σ H _ us Q I r ⟨a, ns, rfl, SqL.of s1, h.cut h0 e hr (ds := []) (vs := []) rfl fun _ _ => rfl⟩
    · exact h.elim
  -- sorted
  · rename_i n
    obtain ⟨v, rfl, rv⟩ := rs.one_of
    split at h
    · rename_i zs gl
      split at h
      · rename_i hk
        obtain ⟨k1, k2, k3, k4⟩ := sortOk_of hk
        obtain ⟨a, vs, rfl, _, s1, q1⟩ := hr.lst gl rv
        obtain ⟨its, rv1, hl, hz⟩ := I.list (SqL.of s1)
        rw [Vals.ref1 r]
        have he := RDs.each I q1 rv1 k1
        refine PySem.W.sorted_data (enc := D.py) hl.isList (he.mono fun _ _ z => z.1) (he.mono fun _ _ z => z.2) k2 k3 (by rw [q1.len]; exact hz) (fun d hd => ?_) fun out ho h1 => ?_
        · have := D.depth_mem hd
          rw [D.py_depth]; omega
        · obtain ⟨ep, he'⟩ := PyProof.Rows.sortedAll_at s.heap its out.toArray
          obtain ⟨ws, w1, w2⟩ := RDs.of_each (fun _ _ z => z) h1
          obtain ⟨z1, z2⟩ := h.newL h0 e hr w2
          exact ⟨.ref _, upd H (s.heap.objs.size + 1) (.lst ws), I.laid (t' := s.toks) (fun _ _ => PyProof.Rows.sortedAll_old) (Nat.le_succ _) ⟨z1, out, ep, w1, he'⟩, rfl, z2 _ (I.hok.fresh (Nat.le_succ _))⟩
      · exact h.elim
    · exact h.elim
  -- max, min of a tuple
  · rename_i zs
    obtain ⟨v, rfl, rv⟩ := rs.one_of
    split at h
    · rename_i i t g
      obtain ⟨a, vs, rfl, s1, q1⟩ := rv
      have ev := q1.ints g
      subst ev
      exact cr_maxT (by omega) (hc.elim (fun z => absurd z (by decide)) id) pins s σ H _ us Q I r ⟨a, i, t, rfl, SqT.of s1, h.cut h0 e hr (ds := []) (vs := []) rfl fun _ _ => rfl⟩
    · exact h.elim
  · rename_i zs
    obtain ⟨v, rfl, rv⟩ := rs.one_of
    split at h
    · rename_i i t g
      obtain ⟨a, vs, rfl, s1, q1⟩ := rv
      have ev := q1.ints g
      subst ev
      exact cr_minT (by omega) (hc.elim (fun z => absurd z (by decide)) id) pins s σ H _ us Q I r ⟨a, i, t, rfl, SqT.of s1, h.cut h0 e hr (ds := []) (vs := []) rfl fun _ _ => rfl⟩
    · exact h.elim
  -- tuple
  · rename_i zs
    obtain ⟨v, rfl, rv⟩ := rs.one_of
    obtain ⟨a, vs, e1, s1, q1⟩ := id rv
    exact call_tuple_of pins s σ H _ us Q I r ⟨a, vs, by rw [e1], .inr ⟨SqT.of s1, h _ H m e hr ⟨a, vs, rfl, s1, q1⟩⟩⟩
  · rename_i n
    obtain ⟨v, rfl, rv⟩ := rs.one_of
    split at h
    · rename_i zs gl
      obtain ⟨a, vs, rfl, _, s1, q1⟩ := hr.lst gl rv
      refine call_tuple_of pins s σ H _ us Q I r ⟨a, vs, rfl, .inl ⟨SqL.of s1, fun p hp => ?_⟩⟩
      obtain ⟨m2, e2, hr2, r2, _⟩ := h0.cut e hr q1
      have e3 := Ext.fresh (m := m2) (o := .tup vs) hp
      exact h _ _ m2 (e2.trans e3) (hr2.fresh hp) ⟨p, vs, rfl, upd_same, RDs.mono e3 hr2.nt _ _ r2⟩
    · exact h.elim
  -- list
  · rename_i x
    obtain ⟨v, rfl, rv⟩ := rs.one_of
    split at h
    · rename_i zs
      obtain ⟨a, vs, rfl, s1, q1⟩ := rv
      obtain ⟨z1, z2⟩ := h.newL h0 e hr q1
      exact call_list_of pins s σ H _ us Q I r ⟨a, vs, rfl, .inr (SqT.of s1), z2⟩
    · rename_i n
      split at h
      · rename_i zs gl
        obtain ⟨a, vs, rfl, _, s1, q1⟩ := hr.lst gl rv
        obtain ⟨z1, z2⟩ := h.newL h0 e hr q1
        exact call_list_of pins s σ H _ us Q I r ⟨a, vs, rfl, .inl (SqL.of s1), z2⟩
      · exact h.elim
    · exact h.elim
  · exact h.elim
end
end Dk
/-! Dk6: methods of built-in types. -/
namespace Dk
open PySem PySem.Spec PyProof.Rows L2
section
variable {K : PySem.W.Frag} {N : Nm} {X : Cx} {m : List Addr} {H : Hp} {st : Store} {W : XK}
/-- a method of a built-in type, by values -/
structure MtOk (X : Cx) (T : String) (name : Str) (id : String) (r : V → List V → Hp → VK → Prop) : Prop where
  pa : PlainAttrs T
  slot : Slot T name id
  ty : typeOf (.builtin id) = pure (.type "method_descriptor")
  rule : MtR X id r
def tMt (X : Cx) (name : Str) (to : TE) (t : TA) : TE := fun σ H Q => to σ H fun x H1 => ∃ T id r, MtOk X T name id r ∧ tyV X.K T x H1 ∧ t σ H1 fun xs H2 => r x xs H2 Q
theorem pe_mt {o e : Expr} {es : List Expr} {to : TE} {t : TA} {name : Str} {apos cpos : Pos} (ho : PE X o to) (ha : PA X (e :: es) t)
    (hbase : attributeBase o name X.env (eval o X.env) = eval o X.env)
    (hfew : ((backTo cpos (starEach (e :: es) X.env)).all (fun x => !x.1) && (backToKw cpos (keywordEach [] X.env)).all (fun x => x.1.isSome)
      && decide ((e :: es).length + ([] : List Keyword).length + (if ([] : List Keyword).isEmpty then 0 else 1) < 30)) = true)
    (hline : (apos.endLine == cpos.line) = true) (hs : starEach (e :: es) X.env = (false, eval e X.env) :: starEach es X.env) (hplain : (backTo cpos (starEach es X.env)).any (·.1) = false) :
    PE X (.Call (.Attribute o name apos) (e :: es) [] cpos) (tMt X name to t) := by
  refine ⟨fun pins s σ H Q I h => ?_⟩
  refine wpAny_Call_method_late hbase hfew hline rfl (thn (ho.run pins s σ H _ I h) fun v s1 ⟨x, H1, I1, r1, q0⟩ => ?_)
  obtain ⟨T, id, r, M, ty, q1⟩ := q0
  obtain ⟨h1, h2⟩ := tyV_is I1 r1 ty
  refine ⟨T, id, M.pa, M.slot, M.ty, h1, h2, ?_⟩
  have hA := ha.run cpos pins s1 σ H1 _ I1 q1
  rw [hs] at hA ⊢
  refine Calls.callWith_builtin (by show (false || (backTo cpos (starEach es X.env)).any (·.1)) = false; rw [hplain] <;> rfl) (Calls.evalArgs_plain ?_)
  exact thn hA fun us s2 ⟨vs, H2, I2, r2, q2⟩ => M.rule pins s2 σ H2 x vs v us Q I2 r1 r2 q2
def mthN : Mth → Str
  | .append => "append"
  | .join => "join"
  | .split => "split"
  | .count => "count"
  | .index => "index"
  | .find => "find"
  | .insert => "insert"
  | .extend => "extend"
/-- what a method asks: the receiver a text (k), a list -/
def rMth (K : PySem.W.Frag) (N : Nm) (k : Bool) (mt : Mth) : V → List V → Hp → VK → Prop := fun x xs H Q => ∃ (W : XK), ∃ m0 H0 st0 m st dx ds, HR K N m0 H0 st0 ∧ Ext m0 H0 m H ∧ HR K N m H st ∧ RD K N m H dx x ∧ RDs K N m H ds xs ∧ isStr dx = k ∧ Pst K N (RD K N) m0 H0 (mthD st0 mt dx ds st) Q W
theorem RDs.strs : ∀ {ds : List D} {vs : List V} {ps : List S}, RDs K N m H ds vs → strsOf ds = some ps → vs = (ps.map mkS).map V.str ∧ ∀ p ∈ ps, TxtOk p
  | [], vs, ps, h, e => by
    cases e
    exact ⟨h, fun p hp => by cases hp⟩
  | d :: ds, vs, ps, h, e => by
    obtain ⟨v, r, rfl, h1, h2⟩ := h
    cases d with
    | str z =>
      have e : (strsOf ds).map (z :: ·) = some ps := e
      cases q : strsOf ds with
      | none => rw [q] at e; cases e
      | some ks =>
        rw [q] at e; cases e
        obtain ⟨a1, a2⟩ := RDs.strs h2 q
        refine ⟨by rw [h1.1, a1]; rfl, fun p hp => ?_⟩
        rcases List.mem_cons.mp hp with z | z
        · rw [z]; exact h1.2
        · exact a2 p z
    | _ => cases e
theorem strs_RDs : ∀ {ps : List S}, (∀ p ∈ ps, TxtOk p) → RDs K N m H (ps.map .str) ((ps.map mkS).map V.str)
  | [], _ => rfl
  | p :: r, h => ⟨_, _, rfl, ⟨rfl, h p List.mem_cons_self⟩, strs_RDs fun q hq => h q (List.mem_cons_of_mem _ hq)⟩
theorem joinS_eq (sep : S) : ∀ ps : List S, TL.joinL sep ps = joinS sep ps
  | [] => rfl
  | [_] => rfl
  | p :: q :: r => by
    show p ++ (sep ++ TL.joinL sep (q :: r)) = p ++ (sep ++ joinS sep (q :: r))
    rw [joinS_eq sep (q :: r)]
theorem join_mkS (sep : S) (ps : List S) : Txt.join (mkS sep) (ps.map mkS) = mkS (joinS sep ps) := by
  have e := TL.tl_join (mkS sep) (ps.map mkS)
  rw [TL.join_eq, ← mkS_of (Str.join (mkS sep) (ps.map mkS))]
  congr 1
  have e2 : (ps.map mkS).map TL.tl = ps := by
    rw [List.map_map]
    exact List.map_id'' (fun p => mkS_list p) ps
  have e3 : TL.tl (mkS sep) = sep := mkS_list sep
  rw [e2, e3, joinS_eq] at e
  exact e
theorem joinS_length (sep : S) : ∀ ps : List S, (joinS sep ps).length ≤ (ps.map List.length).sum + ps.length * sep.length
  | [] => by simp [joinS]
  | [p] => by simp [joinS]
  | p :: q :: r => by
    have ih := joinS_length sep (q :: r)
    simp only [joinS, List.length_append, List.map_cons, List.sum_cons, List.length_cons, Nat.succ_mul] at ih ⊢
    omega
theorem mem_joinS {sep : S} {c : Nat} : ∀ {ps : List S}, c ∈ joinS sep ps → c ∈ sep ∨ ∃ p ∈ ps, c ∈ p
  | [], h => by cases h
  | [p], h => .inr ⟨p, List.mem_singleton.mpr rfl, h⟩
  | p :: q :: r, h => by
    rcases List.mem_append.mp (show c ∈ p ++ (sep ++ joinS sep (q :: r)) from h) with h | h
    · exact .inr ⟨p, List.mem_cons_self, h⟩
    · rcases List.mem_append.mp h with h | h
      · exact .inl h
      · rcases mem_joinS h with z | ⟨w, hw, z⟩
        · exact .inl z
        · exact .inr ⟨w, List.mem_cons_of_mem _ hw, z⟩
theorem pre_one (c x : Nat) (r : List Nat) : TL.pre [c] (x :: r) = decide (x = c) := by
  unfold TL.pre
  by_cases h : x = c
  · simp [h]
  · simp [h]
theorem spl_one (c : Nat) : ∀ (s acc : S), TL.spl [c] 0 acc s = splitS c acc s
  | [], acc => by rw [TL.spl_nil]; rfl
  | x :: r, acc => by
    by_cases h : x = c
    · rw [TL.spl_hit (by rw [pre_one]; exact decide_eq_true h)]
      show acc :: TL.spl [c] 0 [] r = if x = c then acc :: splitS c [] r else _
      rw [if_pos h, spl_one c r []]
    · rw [TL.spl_miss (by rw [pre_one]; exact decide_eq_false h)]
      show _ = if x = c then _ else splitS c (acc ++ [x]) r
      rw [if_neg h, spl_one c r (acc ++ [x])]
theorem splitS_mem {c : Nat} : ∀ {s acc p : S}, p ∈ splitS c acc s → (∀ z ∈ p, z ∈ acc ∨ z ∈ s) ∧ p.length ≤ acc.length + s.length
  | [], acc, p, h => by
    have e : p = acc := List.mem_singleton.mp h
    subst e
    exact ⟨fun z hz => .inl hz, by simp⟩
  | x :: r, acc, p, h => by
    have h : p ∈ (if x = c then acc :: splitS c [] r else splitS c (acc ++ [x]) r) := h
    split at h
    · rcases List.mem_cons.mp h with e | h
      · subst e
        exact ⟨fun z hz => .inl hz, by simp⟩
      · obtain ⟨h1, h2⟩ := splitS_mem h
        refine ⟨fun z hz => ?_, by simp at h2 ⊢; omega⟩
        rcases h1 z hz with w | w
        · cases w
        · exact .inr (List.mem_cons_of_mem _ w)
    · obtain ⟨h1, h2⟩ := splitS_mem h
      refine ⟨fun z hz => ?_, by simp at h2 ⊢; omega⟩
      rcases h1 z hz with w | w
      · rcases List.mem_append.mp w with w | w
        · exact .inl w
        · exact .inr (by rw [List.mem_singleton.mp w]; exact List.mem_cons_self)
      · exact .inr (List.mem_cons_of_mem _ w)
theorem map_mkS_inj : ∀ {a : List Str} {b : List S}, a.map TL.tl = b → a = b.map mkS
  | [], _, h => by rw [← h]; rfl
  | x :: r, _, h => by
    rw [← h]
    show x :: r = mkS (TL.tl x) :: (r.map TL.tl).map mkS
    rw [← map_mkS_inj (a := r) rfl]
    congr 1
theorem split_mkS (s : S) {c : Nat} (hc : c < 256) : Txt.split (mkS s) (mkS [c]) = (splitS c [] s).map mkS := by
  have e3 : ∀ z : S, TL.tl (mkS z) = z := fun z => mkS_list z
  refine map_mkS_inj ?_
  rw [TL.split_spl _ _ (by rw [e3]; simp) (TL.kind_ok (by simp [mkS, hc])), e3, e3, spl_one]
theorem count_mkS (s : S) (c : Nat) : Txt.count (mkS s) (mkS [c]) = (s.count c : Nat) := by
  unfold Txt.count
  rw [str1, occ_one s c, List.take_of_length_le]
  · congr 1
    simpa using filter_count c s 0
  · have := filter_count c s 0
    simp only [Nat.sub_zero] at this
    rw [this]
    have := List.count_le_length (a := c) (l := s)
    simp; omega
theorem index_mkS {s : S} {c k : Nat} (h : (s.findIdx? fun z => z == c) = some k) : ∃ rest, Builtin.Str.occurrences (mkS s) (mkS [c]) 0 (mkS s).length 1 = k :: rest := by
  rw [str1, occ_one s c]
  have e := filter_first c s 0
  simp only [Nat.sub_zero] at e
  rw [h] at e
  simp only [Option.map_some, Nat.add_zero] at e
  cases q : (List.range' 0 (s.length + 1)).filter fun i => decide (s[i]? = some c) with
  | nil => rw [q] at e; cases e
  | cons a r =>
    rw [q] at e
    have ea : a = k := by simpa using e
    rw [ea]
    exact ⟨[], by simp⟩
theorem lst_index : ∀ {ds : List D} {vs : List V} {d : D} {v : V} {k : Nat}, RDs K N m H ds vs → RD K N m H d v → ds.all D.flat = true → d.flat = true → (ds.findIdx? fun z => D.eqv z d) = some k →
    ∃ z, vs[k]? = some z ∧ L2.eqV z v = true ∧ ∀ (j : Nat) z', j < k → vs[j]? = some z' → L2.eqV z' v = false
  | [], _, _, _, _, _, _, _, _, e => by simp at e
  | d0 :: ds, vs, d, v, k, h, hd, f, fd, e => by
    obtain ⟨w, r, rfl, h1, h2⟩ := h
    rw [List.all_cons] at f
    obtain ⟨f1, f2⟩ := Bool.and_eq_true_iff.mp f
    rw [List.findIdx?_cons] at e
    split at e
    · rename_i hz
      cases e
      exact ⟨w, by simp, by rw [RD.eqV h1 hd f1 fd]; exact hz, fun j z' hj _ => absurd hj (by omega)⟩
    · rename_i hz
      cases q : ds.findIdx? fun z => D.eqv z d with
      | none => rw [q] at e; cases e
      | some k' =>
        rw [q] at e
        cases e
        obtain ⟨z, z1, z2, z3⟩ := lst_index h2 hd f2 fd q
        refine ⟨z, by simpa using z1, z2, fun j z' hj hj' => ?_⟩
        cases j with
        | zero =>
          have : z' = w := by simpa using hj'.symm
          rw [this, RD.eqV h1 hd f1 fd]
          simpa using hz
        | succ j => exact z3 j z' (by have : j + 1 < k' + 1 := hj; omega) (by simpa using hj')
theorem lst_count : ∀ {ds : List D} {vs : List V} {us : List Value} {d : D} {v : V}, RDs K N m H ds vs → Vals vs us → RD K N m H d v → ds.all D.flat = true → d.flat = true → us.countP (L2.eqU v) = ds.countP fun z => D.eqv z d
  | [], vs, us, d, v, h, hv, _, _, _ => by
    have e : vs = [] := h
    subst e
    cases hv
    rfl
  | d0 :: ds, vs, us, d, v, h, hv, hd, f, fd => by
    obtain ⟨w, r, rfl, h1, h2⟩ := h
    cases hv with
    | cons r1 r2 =>
      rw [List.all_cons] at f
      obtain ⟨f1, f2⟩ := Bool.and_eq_true_iff.mp f
      rw [List.countP_cons, List.countP_cons, lst_count h2 r2 hd f2 fd, L2.eqU_of r1 (RD.flatV h1 f1), RD.eqV h1 hd f1 fd]
theorem mt_append_ok : MtR X "list.append" (rMth X.K N false .append) := by
  intro pins s σ H x xs v us Q I rx rs ⟨W, m0, H0, st0, m, st, dx, ds, h0, e, hr, r1, r2, hk, h⟩
  cases dx with
  | loc n =>
    match ds, r2, h with
    | [y], r2, h =>
      obtain ⟨w, rfl, rw_⟩ := r2.one_of
      replace h : Pst X.K N (RD X.K N) m0 H0 (match getL st n with
        | some xs => if xs.length < sizeLine then .ok .non (st.set n (.lst (xs ++ [y]))) else .stuck
        | none => .stuck) Q W := h
      split at h
      · rename_i zs gl
        split at h
        · rename_i hz
          obtain ⟨a, vs, rfl, ga, s1, q1⟩ := hr.lst gl r1
          have ham := List.mem_of_getElem? ga
          have e3 := Ext.write (m := m) (H := H) (o := .lst (vs ++ [w])) ham
          refine mt_append pins s σ H _ _ v us Q I rx rs ⟨a, vs, w, rfl, rfl, s1, by rw [← q1.len]; exact hz, ?_⟩
          exact h .non _ m (e.trans e3) (hr.write ga ⟨_, upd_same, RDs.mono e3 hr.nt _ _ (q1.append (RDs.one rw_))⟩) rfl
        · exact h.elim
      · exact h.elim
    | [], _, h => exact h.elim
    | _ :: _ :: _, _, h => exact h.elim
  | _ => first | (cases hk; done) | (match ds, h with | [_], h => exact h.elim | [], h => exact h.elim | _ :: _ :: _, h => exact h.elim)
theorem mt_insert_ok : MtR X "list.insert" (rMth X.K N false .insert) := by
  intro pins s σ H x xs v us Q I rx rs ⟨W, m0, H0, st0, m, st, dx, ds, h0, e, hr, r1, r2, hk, h⟩
  replace h : Pst X.K N (RD X.K N) m0 H0 (insD dx ds st) Q W := h
  unfold insD at h
  split at h
  · rename_i n i y
    obtain ⟨w1, w, rfl, ri, rw_⟩ := r2.two_of
    split at h
    · rename_i zs gl
      split at h
      · rename_i hz
        obtain ⟨a, vs, rfl, ga, s1, q1⟩ := hr.lst gl r1
        have ham := List.mem_of_getElem? ga
        have e3 := Ext.write (m := m) (H := H) (o := .lst (vs.take i.toNat ++ [w] ++ vs.drop i.toNat)) ham
        refine mt_insert pins s σ H _ _ v us Q I rx rs ⟨a, vs, i, w, rfl, by rw [show w1 = .int i from ri], s1, by rw [← q1.len]; exact hz.1, hz.2.1, hz.2.2, ?_⟩
        exact h .non _ m (e.trans e3) (hr.write ga ⟨_, upd_same, RDs.mono e3 hr.nt _ _ (((q1.take i.toNat).append (RDs.one rw_)).append (q1.drop i.toNat))⟩) rfl
      · exact h.elim
    · exact h.elim
  · exact h.elim
def rExtT (K : PySem.W.Frag) : V → List V → Hp → VK → Prop := fun x vs H Q => ∃ l b xs zs, x = .ref l ∧ vs = [.ref b] ∧ H l = some (.lst xs) ∧ SqT K H b zs ∧ xs.length + zs.length ≤ sizeLine ∧ Q .non (upd H l (.lst (xs ++ zs)))
theorem notLongT {n : Nat} (h : n ≤ sizeLine) : Builtin.List.listTooLong n = false := by
  have e := sizeLine_eq
  unfold Builtin.List.listTooLong
  exact decide_eq_false (by omega)
/-- xs.extend(t), t any tuple's object -/
theorem extend_tupW (l : Addr) (items : Array Value) (n : Nat) (b : Addr) (items2 : Array Value) (n2 : Nat) (dd : Option Addr) (sl : Array (Option Value)) (hs0 : ¬(!items.isEmpty && Builtin.List.listTooLong (items.size + items2.size)) = true) (hs1 : items.size ≤ sizeLine) (hs2 : items.size + items2.size ≤ sizeLine + 1) :
    Meets (Builtin.«list.extend» ⟨[.ref l, .ref b], []⟩) (fun _ R s => s.heap.get? l = some { cls := .type "list", dict := none, data := .seq items n, slots := #[] } ∧ s.heap.get? b = some { cls := .type "tuple", dict := dd, data := .seq items2 n2, slots := sl } ∧
      R (.ok (.ret Value.none)) { s with heap := s.heap.update l (Obj.mapSeq fun x => x ++ items2), toks := s.toks }) :=
  .of_wp fun prog w A R s h => by
    obtain ⟨hp, g, d, tk, os⟩ := s; obtain ⟨hl, hb, h⟩ := h; have f1 := PySem.AutoSeq1.idx_int; have f2 := PySem.AutoSeq1.sub_tuple_tuple; have f3 := PySem.AutoSeq1.sub_list_list; have f4 := PySem.AutoSeq1.sub_tuple_list; have f5 := PySem.AutoSeq1.sub_list_tuple
    have hz' : (items ++ items2).size ≤ sizeLine + 1 := by rw [Array.size_append]; exact hs2
    wp_walk using (wpAny_updateSeq hl rfl (hz := hs1) (_hz' := hz')), PySem.AutoSeq1.wpAny_loadPart' hl, PySem.AutoSeq1.wpAny_loadPart' hb
    exact ⟨_, rfl, h⟩
theorem mt_extT : MtR X "list.extend" (rExtT X.K) := by
  intro pins s σ H x vs v us Q I rx rv h
  obtain ⟨l, b, xs, zs, rfl, rfl, hH, hB, hz, q⟩ := h
  cases rx
  obtain ⟨u, rfl, ru⟩ := rv.one
  cases ru
  obtain ⟨z, its, n, r, hl, e⟩ := I.lstM hH
  obtain ⟨its2, r2, pl2, hz2⟩ := I.tuple hB
  obtain ⟨⟨cls, dd, data, sl⟩, ho2, hc2, n2, hd2⟩ := pl2
  simp only at hc2 hd2
  subst hc2 hd2
  have l1 := r.length
  have l2 := r2.length
  have hsz : its.toArray.size + its2.toArray.size ≤ sizeLine := by rw [List.size_toArray, List.size_toArray]; omega
  have hlong : ¬ (!its.toArray.isEmpty && Builtin.List.listTooLong (its.toArray.size + its2.toArray.size)) = true := by
    rw [notLongT hsz, Bool.and_false]
    exact Bool.false_ne_true
  refine call_meets PySem.F.slot_list_extend ⟨_, e, rfl⟩ PySem.F.entry_list_extend (PySem.F.args_list_extend_2 _ _)
    (extend_tupW l its.toArray n b its2.toArray n2 dd sl hlong (by rw [List.size_toArray]; omega) (by omega)) ⟨e, ho2, ?_⟩
  refine ⟨.non, _, I.lset (its' := its ++ its2) hH e (by simp) (r.append r2) ?_, rfl, q⟩
  rw [List.length_append]
  omega
theorem mt_extend_ok : MtR X "list.extend" (rMth X.K N false .extend) := by
  intro pins s σ H x xs v us Q I rx rs ⟨W, m0, H0, st0, m, st, dx, ds, h0, e, hr, r1, r2, hk, h⟩
  replace h : Pst X.K N (RD X.K N) m0 H0 (extD dx ds st) Q W := h
  unfold extD at h
  split at h
  · rename_i n zs
    obtain ⟨w, rfl, rw_⟩ := r2.one_of
    obtain ⟨b, ws, rfl, hb, q2⟩ := rw_
    split at h
    · rename_i ys gl
      split at h
      · rename_i hz
        obtain ⟨a, vs, rfl, ga, s1, q1⟩ := hr.lst gl r1
        have e3 := Ext.write (m := m) (H := H) (o := .lst (vs ++ ws)) (List.mem_of_getElem? ga)
        refine mt_extT pins s σ H _ _ v us Q I rx rs ⟨a, b, vs, ws, rfl, rfl, s1, SqT.of hb, by rw [← q1.len, ← q2.len]; exact hz, ?_⟩
        exact h .non _ m (e.trans e3) (hr.write ga ⟨_, upd_same, RDs.mono e3 hr.nt _ _ (q1.append q2)⟩) rfl
      · exact h.elim
    · exact h.elim
  · rename_i n k
    obtain ⟨w, rfl, rw_⟩ := r2.one_of
    split at h
    · rename_i ys zs gl gk
      split at h
      · rename_i hz
        obtain ⟨a, vs, rfl, ga, s1, q1⟩ := hr.lst gl r1
        obtain ⟨b, ws, rfl, gb, s2, q2⟩ := hr.lst gk rw_
        have e3 := Ext.write (m := m) (H := H) (o := .lst (vs ++ ws)) (List.mem_of_getElem? ga)
        refine mt_extend pins s σ H _ _ v us Q I rx rs ⟨a, b, vs, ws, rfl, rfl, s1, s2, by rw [← q1.len, ← q2.len]; exact hz, ?_⟩
        exact h .non _ m (e.trans e3) (hr.write ga ⟨_, upd_same, RDs.mono e3 hr.nt _ _ (q1.append q2)⟩) rfl
      · exact h.elim
    · exact h.elim
  · exact h.elim
theorem mt_join_ok : MtR X "str.join" (rMth X.K N true .join) := by
  intro pins s σ H x xs v us Q I rx rs ⟨W, m0, H0, st0, m, st, dx, ds, h0, e, hr, r1, r2, hk, h⟩
  cases dx with
  | str sep =>
    match ds, r2, h with
    | [y], r2, h =>
      obtain ⟨w, rfl, rw_⟩ := r2.one_of
      replace h : Pst X.K N (RD X.K N) m0 H0 (if isStr y = true then .stuck else match (iterD st y).bind strsOf with
        | some ps => if (ps.map List.length).sum + ps.length * sep.length ≤ sizeLine then .ok (.str (joinS sep ps)) (cut st0 [] st) else .stuck
        | none => .stuck) Q W := h
      split at h
      · exact h.elim
      rename_i hns
      split at h
      · rename_i ps g
        have fin : ∀ (p : Addr) (vs : List V) (zs : List D), w = .ref p → (SqL X.K H p vs ∨ SqT X.K H p vs) → RDs X.K N m H zs vs → strsOf zs = some ps →
            Pst X.K N (RD X.K N) m0 H0 (if (ps.map List.length).sum + ps.length * sep.length ≤ sizeLine then .ok (.str (joinS sep ps)) (cut st0 [] st) else .stuck) Q W → wpAny (model X.prog X.w) X.A (call (.builtin "str.join") (v :: us)) (EP X pins σ Q) X.xe s := by
          intro p vs zs e1 hs q1 g h
          split at h
          · rename_i hz
            obtain ⟨ev, ht⟩ := q1.strs g
            subst ev
            refine mt_join pins s σ H x _ v us Q I rx rs ⟨mkS sep, p, ps.map mkS, r1.1, by rw [e1], hs, ?_, ?_⟩
            · rw [List.map_map, List.length_map]
              have e5 : (ps.map (Str.length ∘ mkS)) = ps.map List.length := List.map_congr_left fun q _ => mkS_length q
              rw [e5, mkS_length]
              rw [sizeLine_eq] at hz; exact hz
            · rw [join_mkS]
              have ok : TxtOk (joinS sep ps) := ⟨Nat.le_trans (joinS_length sep ps) hz, fun c hc => by
                rcases mem_joinS hc with z | ⟨q, hq, z⟩
                · exact r1.2.cp c z
                · exact (ht q hq).cp c z⟩
              exact h.cut h0 e hr (ds := []) (vs := []) rfl fun _ _ => ⟨rfl, ok⟩
          · exact h.elim
        cases y with
        | tup zs =>
          obtain ⟨p, vs, e1, s1, q1⟩ := rw_
          exact fin p vs zs e1 (.inr (SqT.of s1)) q1 g h
        | loc n =>
          cases gl : getL st n with
          | none =>
            have g : (getL st n).bind strsOf = some ps := g
            rw [gl] at g; cases g
          | some zs =>
            have g : (getL st n).bind strsOf = some ps := g
            rw [gl] at g
            obtain ⟨p, vs, e1, _, s1, q1⟩ := hr.lst gl rw_
            exact fin p vs zs e1 (.inl (SqL.of s1)) q1 g h
        | str z => exact absurd rfl hns
        | _ => cases g
      · exact h.elim
    | [], _, h => exact h.elim
    | _ :: _ :: _, _, h => exact h.elim
  | _ => first | (cases hk; done) | (match ds, h with | [_], h => exact h.elim | [], h => exact h.elim | _ :: _ :: _, h => exact h.elim)
theorem mt_split_ok : MtR X "str.split" (rMth X.K N true .split) := by
  intro pins s σ H x xs v us Q I rx rs ⟨W, m0, H0, st0, m, st, dx, ds, h0, e, hr, r1, r2, hk, h⟩
  cases dx with
  | str z =>
    match ds, r2, h with
    | [y], r2, h =>
      obtain ⟨w, rfl, rw_⟩ := r2.one_of
      replace h : Pst X.K N (RD X.K N) m0 H0 (match one1 y with
        | some c => if z.length + 2 ≤ sizeLine ∧ c < 256 then newL st0 ((splitS c [] z).map .str) st else .stuck
        | none => .stuck) Q W := h
      split at h
      case h_2 => exact h.elim
      rename_i c hy
      have hy := one1_eq hy
      subst hy
      split at h
      · rename_i hz
        have ok : ∀ p ∈ splitS c [] z, TxtOk p := fun p hp => by
          obtain ⟨h1, h2⟩ := splitS_mem hp
          refine ⟨Nat.le_trans h2 (by have := r1.2.len; simp; omega), fun d hd => ?_⟩
          rcases h1 d hd with w | w
          · cases w
          · exact r1.2.cp d w
        obtain ⟨z1, z2⟩ := h.newL h0 e hr (strs_RDs ok)
        refine mt_split pins s σ H x _ v us Q I rx rs ⟨mkS z, mkS [c], r1.1, by rw [rw_.1], by simp, by simpa using hz.1, ?_⟩
        rw [split_mkS z hz.2]
        exact z2
      · exact h.elim
    | [], _, h => exact h.elim
    | _ :: _ :: _, _, h => exact h.elim
  | _ => first | (cases hk; done) | (match ds, h with | [_], h => exact h.elim | [], h => exact h.elim | _ :: _ :: _, h => exact h.elim)
theorem mt_count_ok : MtR X "str.count" (rMth X.K N true .count) := by
  intro pins s σ H x xs v us Q I rx rs ⟨W, m0, H0, st0, m, st, dx, ds, h0, e, hr, r1, r2, hk, h⟩
  cases dx with
  | str z =>
    match ds, r2, h with
    | [y], r2, h =>
      obtain ⟨d, ed, h⟩ := Pst.of (o := (one1 y).map fun c => D.int (z.count c)) h
      cases hy : one1 y with
      | none => rw [hy] at ed; cases ed
      | some c =>
      rw [hy] at ed; cases ed
      have hy := one1_eq hy
      subst hy
      obtain ⟨w, rfl, rw_⟩ := r2.one_of
      refine mt_count pins s σ H x _ v us Q I rx rs ⟨mkS z, mkS [c], r1.1, by rw [rw_.1], ?_⟩
      rw [count_mkS]
      exact h _ H m e hr rfl
    | [], _, h => exact h.elim
    | _ :: _ :: _, _, h => exact h.elim
  | _ => first | (cases hk; done) | (match ds, h with | [_], h => exact h.elim | [], h => exact h.elim | _ :: _ :: _, h => exact h.elim)
theorem mt_index_ok : MtR X "str.index" (rMth X.K N true .index) := by
  intro pins s σ H x xs v us Q I rx rs ⟨W, m0, H0, st0, m, st, dx, ds, h0, e, hr, r1, r2, hk, h⟩
  cases dx with
  | str z =>
    match ds, r2, h with
    | [y], r2, h =>
      obtain ⟨w, rfl, rw_⟩ := r2.one_of
      obtain ⟨d, ed, h⟩ := Pst.of (o := (one1 y).bind fun c => (z.findIdx? fun z => z == c).map fun k => D.int (k : Nat)) h
      cases hy : one1 y with
      | none => rw [hy] at ed; cases ed
      | some c =>
      rw [hy] at ed
      replace ed : ((z.findIdx? fun z => z == c).map fun k => D.int (k : Nat)) = some d := ed
      have hy := one1_eq hy
      subst hy
      cases q : z.findIdx? fun z => z == c with
      | none => rw [q] at ed; cases ed
      | some k =>
        rw [q] at ed; cases ed
        obtain ⟨rest, hq⟩ := index_mkS q
        have hw := rw_.1
        have hv := r1.1
        subst hw; subst hv
        obtain ⟨t, rfl⟩ := rx
        obtain ⟨u, rfl, ru⟩ := rs.one
        obtain ⟨t', rfl⟩ := ru
        exact PySem.SC.index hq ⟨.int (k : Nat), H, I.tok _, ⟨_, rfl⟩, h _ H m e hr rfl⟩
    | [], _, h => exact h.elim
    | _ :: _ :: _, _, h => exact h.elim
  | _ => first | (cases hk; done) | (match ds, h with | [_], h => exact h.elim | [], h => exact h.elim | _ :: _ :: _, h => exact h.elim)
theorem find_mkS (s : S) (c : Nat) : Txt.find (mkS s) (mkS [c]) = match s.findIdx? fun z => z == c with
    | some k => (k : Int)
    | none => -1 := by
  unfold Txt.find
  cases q : s.findIdx? fun z => z == c with
  | some k =>
    obtain ⟨rest, h⟩ := index_mkS q
    rw [h]
  | none =>
    rw [str1, occ_one s c]
    have e := filter_first c s 0
    simp only [Nat.sub_zero] at e
    rw [q] at e
    rw [List.head?_eq_none_iff.mp e]; rfl
theorem mt_find_ok : MtR X "str.find" (rMth X.K N true .find) := by
  intro pins s σ H x xs v us Q I rx rs ⟨W, m0, H0, st0, m, st, dx, ds, h0, e, hr, r1, r2, hk, h⟩
  cases dx with
  | str z =>
    match ds, r2, h with
    | [y], r2, h =>
      obtain ⟨d, ed, h⟩ := Pst.of (o := (one1 y).map fun c => match z.findIdx? fun z => z == c with
        | some k => D.int (k : Nat)
        | none => D.int (-1)) h
      cases hy : one1 y with
      | none => rw [hy] at ed; cases ed
      | some c =>
      rw [hy] at ed
      have hy := one1_eq hy
      subst hy
      obtain ⟨w, rfl, rw_⟩ := r2.one_of
      refine mt_find pins s σ H x _ v us Q I rx rs ⟨mkS z, mkS [c], r1.1, by rw [rw_.1], ?_⟩
      rw [find_mkS]
      cases q : z.findIdx? fun z => z == c with
      | some k => 
        simp only [Option.map_some, q] at ed; cases ed
        exact h _ H m e hr rfl
      | none => 
        simp only [Option.map_some, q] at ed; cases ed
        exact h _ H m e hr rfl
    | [], _, h => exact h.elim
    | _ :: _ :: _, _, h => exact h.elim
  | _ => first | (cases hk; done) | (match ds, h with | [_], h => exact h.elim | [], h => exact h.elim | _ :: _ :: _, h => exact h.elim)
theorem pyL_index {y : D} (cy : D.dat y = true) : ∀ {zs : List D} {k : Nat}, D.datL zs = true → (zs.findIdx? fun z => D.eqv z y) = some k →
    ∃ z, (D.pyL zs)[k]? = some z ∧ PyData.eqv z (D.py y) = true ∧ ∀ (j : Nat) z', j < k → (D.pyL zs)[j]? = some z' → PyData.eqv z' (D.py y) = false
  | [], _, _, e => by simp at e
  | d0 :: ds, k, c, e => by
    obtain ⟨c1, c2⟩ := Bool.and_eq_true_iff.mp (show (D.dat d0 && D.datL ds) = true from c)
    rw [List.findIdx?_cons] at e
    split at e
    · rename_i hz
      cases e
      exact ⟨D.py d0, rfl, by rw [D.py_eqv _ _ c1 cy]; exact hz, fun j z' hj _ => absurd hj (by omega)⟩
    · rename_i hz
      cases q : ds.findIdx? fun z => D.eqv z y with
      | none => rw [q] at e; cases e
      | some k' =>
        rw [q] at e
        cases e
        obtain ⟨z, z1, z2, z3⟩ := pyL_index cy c2 q
        refine ⟨z, z1, z2, fun j z' hj hj' => ?_⟩
        cases j with
        | zero =>
          have : D.py d0 = z' := Option.some.inj hj'
          rw [← this, D.py_eqv _ _ c1 cy]
          simpa using hz
        | succ j => exact z3 j z' (by have : j + 1 < k' + 1 := hj; omega) hj'
theorem mt_lindex_ok (hu : X.A.units + 100 < cLine) : MtR X "list.index" (rMth X.K N false .index) := by
  intro pins s σ H x xs v us Q I rx rs ⟨W, m0, H0, st0, m, st, dx, ds, h0, e, hr, r1, r2, hk, h⟩
  cases dx with
  | loc n =>
    match ds, r2, h with
    | [y], r2, h =>
      obtain ⟨w, rfl, rw_⟩ := r2.one_of
      replace h : Pst X.K N (RD X.K N) m0 H0 (match getL st n with
        | some xs => if y.flat = true ∧ xs.all D.flat = true then R.of ((xs.findIdx? fun z => D.eqv z y).map fun k => D.int (k : Nat)) (cut st0 [] st)
          else if D.dat y = true ∧ D.datL xs = true ∧ D.depth y ≤ 62 ∧ D.depthL xs ≤ 62 then R.of ((xs.findIdx? fun z => D.eqv z y).map fun k => D.int (k : Nat)) (cut st0 [] st) else .stuck
        | none => .stuck) Q W := h
      split at h
      · rename_i zs gl
        split at h
        · rename_i hf
          obtain ⟨d, ed, h⟩ := h.of
          cases q : zs.findIdx? fun z => D.eqv z y with
          | none => rw [q] at ed; cases ed
          | some k =>
            rw [q] at ed; cases ed
            obtain ⟨a, vs, rfl, ga, s1, q1⟩ := hr.lst gl r1
            obtain ⟨z, z1, z2, z3⟩ := lst_index q1 rw_ hf.2 hf.1 q
            exact mt_index pins s σ H _ _ v us Q I rx rs ⟨a, vs, w, k, z, rfl, rfl, SqL.of s1, RD.flatV rw_ hf.1, RDs.flatVs q1 hf.2, z1, z2, z3, h.cut h0 e hr (ds := []) (vs := []) rfl fun _ _ => rfl⟩
        · split at h
          · rename_i hf
            obtain ⟨f1, f2, f3, f4⟩ := hf
            obtain ⟨d, ed, h⟩ := h.of
            cases q : zs.findIdx? fun z => D.eqv z y with
            | none => rw [q] at ed; cases ed
            | some k =>
              rw [q] at ed; cases ed
              obtain ⟨a, vs, rfl, ga, s1, q1⟩ := hr.lst gl r1
              obtain ⟨z, z1, z2, z3⟩ := pyL_index f1 f2 q
              refine mt_indexD (by omega) pins s σ H _ _ v us Q I rx rs ⟨a, w, D.py y, D.pyL zs, k, z, rfl, rfl, .lst (SqL.of s1) (RDs.dp zs vs q1 f2), RD.dp y w rw_ f1, ?_, ?_, z1, z2, z3, h.cut h0 e hr (ds := []) (vs := []) rfl fun _ _ => rfl⟩
              · unfold SeqAt.shaped
                simp only [PyData.canLay0, PyData.depth, RDs.can zs vs q1 f2, D.pyL_depth]; simp; omega
              · unfold SeqAt.shaped
                rw [RD.can y w rw_ f1, D.py_depth]; simp; omega
          · exact h.elim
      · exact h.elim
    | [], _, h => exact h.elim
    | _ :: _ :: _, _, h => exact h.elim
  | _ => first | (cases hk; done) | (match ds, h with | [_], h => exact h.elim | [], h => exact h.elim | _ :: _ :: _, h => exact h.elim)
theorem mt_lcount_ok : MtR X "list.count" (rMth X.K N false .count) := by
  intro pins s σ H x xs v us Q I rx rs ⟨W, m0, H0, st0, m, st, dx, ds, h0, e, hr, r1, r2, hk, h⟩
  cases dx with
  | loc n =>
    match ds, r2, h with
    | [y], r2, h =>
      obtain ⟨w, rfl, rw_⟩ := r2.one_of
      replace h : Pst X.K N (RD X.K N) m0 H0 (match getL st n with
        | some xs => if y.flat = true ∧ xs.all D.flat = true then .ok (.int (xs.countP fun z => D.eqv z y : Nat)) (cut st0 [] st) else .stuck
        | none => .stuck) Q W := h
      split at h
      · rename_i zs gl
        split at h
        · rename_i hf
          obtain ⟨a, vs, rfl, ga, s1, q1⟩ := hr.lst gl r1
          cases rx
          obtain ⟨u, rfl, ru⟩ := rs.one
          obtain ⟨its, rv, ⟨⟨cls, dd, data, sl⟩, n', ho, hc, hdn, hd⟩, hlen⟩ := I.list (SqL.of s1)
          simp only at hc hd
          subst hc hd
          refine call_meets PySem.F.slot_list_count ⟨_, ho, rfl⟩ PySem.F.entry_list_count (PySem.F.args_list_count_2 _ _)
            (SeqAt.list_countAt a its.toArray n' dd sl u (L2.eqU w)) ⟨ho, fun y' hy => L2.mem_eqAt ru (RD.flatV rw_ hf.1) rv (RDs.flatVs q1 hf.2) y' (by simpa using hy), ?_⟩
          refine ⟨.int (zs.countP fun z => D.eqv z y : Nat), H, I.tok _, ⟨s.toks, ?_⟩, h.cut h0 e hr (ds := []) (vs := []) rfl fun _ _ => rfl⟩
          rw [lst_count q1 rv rw_ hf.2 hf.1]
        · exact h.elim
      · exact h.elim
    | [], _, h => exact h.elim
    | _ :: _ :: _, _, h => exact h.elim
  | _ => first | (cases hk; done) | (match ds, h with | [_], h => exact h.elim | [], h => exact h.elim | _ :: _ :: _, h => exact h.elim)
/-- the receiver is fit for the method: its type, its rule -/
theorem mth_ok (hu : X.A.units + 100 < cLine) (mt : Mth) {dx : D} {x : V} (hr : HR X.K N m H st) (r : RD X.K N m H dx x) (hk : mthK st dx mt = true) : ∃ T id, MtOk X T (mthN mt) id (rMth X.K N (isStr dx) mt) ∧ tyV X.K T x H := by
  have hs : isStr dx = true → tyV X.K "str" x H := fun z => by
    cases dx with
    | str s => rw [r.1]; rfl
    | _ => cases z
  have hl : isLst st dx = true → isStr dx = false ∧ tyV X.K "list" x H := fun z => by
    cases dx with
    | loc n =>
      have z : (getL st n).isSome = true := z
      cases gl : getL st n with
      | none => rw [gl] at z; cases z
      | some zs =>
        obtain ⟨a, vs, rfl, _, s1, q1⟩ := hr.lst gl r
        exact ⟨rfl, .inl ⟨rfl, _, SqL.of s1⟩⟩
    | _ => cases z
  cases mt with
  | append =>
    obtain ⟨h1, h2⟩ := hl hk
    rw [h1]
    exact ⟨"list", "list.append", ⟨PySem.F.plainAttrs_list, PySem.F.slot_list_append, PySem.F.type_list_append, mt_append_ok⟩, h2⟩
  | insert =>
    obtain ⟨h1, h2⟩ := hl hk
    rw [h1]
    exact ⟨"list", "list.insert", ⟨PySem.F.plainAttrs_list, PySem.F.slot_list_insert, PySem.F.type_list_insert, mt_insert_ok⟩, h2⟩
  | extend =>
    obtain ⟨h1, h2⟩ := hl hk
    rw [h1]
    exact ⟨"list", "list.extend", ⟨PySem.F.plainAttrs_list, PySem.F.slot_list_extend, PySem.F.type_list_extend, mt_extend_ok⟩, h2⟩
  | join =>
    have hk : isStr dx = true := hk
    rw [hk]
    exact ⟨"str", "str.join", ⟨PySem.F.plainAttrs_str, PySem.F.slot_str_join, PySem.F.type_str_join, mt_join_ok⟩, hs hk⟩
  | split =>
    have hk : isStr dx = true := hk
    rw [hk]
    exact ⟨"str", "str.split", ⟨PySem.F.plainAttrs_str, PySem.F.slot_str_split, PySem.F.type_str_split, mt_split_ok⟩, hs hk⟩
  | count =>
    rcases Bool.or_eq_true_iff.mp (show (isStr dx || isLst st dx) = true from hk) with hk | hk
    · rw [hk]
      exact ⟨"str", "str.count", ⟨PySem.F.plainAttrs_str, PySem.F.slot_str_count, PySem.F.type_str_count, mt_count_ok⟩, hs hk⟩
    · obtain ⟨h1, h2⟩ := hl hk
      rw [h1]
      exact ⟨"list", "list.count", ⟨PySem.F.plainAttrs_list, PySem.F.slot_list_count, PySem.F.type_list_count, mt_lcount_ok⟩, h2⟩
  | index =>
    rcases Bool.or_eq_true_iff.mp (show (isStr dx || isLst st dx) = true from hk) with hk | hk
    · rw [hk]
      exact ⟨"str", "str.index", ⟨PySem.F.plainAttrs_str, PySem.F.slot_str_index, PySem.F.type_str_index, mt_index_ok⟩, hs hk⟩
    · obtain ⟨h1, h2⟩ := hl hk
      rw [h1]
      exact ⟨"list", "list.index", ⟨PySem.F.plainAttrs_list, PySem.F.slot_list_index, PySem.F.type_list_index, mt_lindex_ok hu⟩, h2⟩
  | find =>
    have hk : isStr dx = true := hk
    rw [hk]
    exact ⟨"str", "str.find", ⟨PySem.F.plainAttrs_str, PySem.F.slot_str_find, PySem.F.type_str_find, mt_find_ok⟩, hs hk⟩
end
end Dk
/-! Dk7: expressions, one construct at a time. -/
namespace Dk
open PySem PySem.Spec PyProof.Rows L2
/-! ### shapes of expressions -/
def noStar : Expr → Bool
  | .Starred .. => false
  | _ => true
theorem star_eq {e : Expr} (h : noStar e = true) (es : List Expr) (env : PySem.Env) : starEach (e :: es) env = (false, eval e env) :: starEach es env := by
  cases e <;> first | rfl | (cases h; done)
theorem star_none : ∀ {es : List Expr} (env : PySem.Env) (pos : Pos), es.all noStar = true → (backTo pos (starEach es env)).any (·.1) = false
  | [], _, _, _ => rfl
  | e :: es, env, pos, h => by
    rw [List.all_cons] at h
    obtain ⟨h1, h2⟩ := Bool.and_eq_true_iff.mp h
    rw [star_eq h1]
    show (false || (backTo pos (starEach es env)).any (·.1)) = false
    rw [star_none env pos h2]; rfl
theorem star_len : ∀ {es : List Expr} (env : PySem.Env), es.all noStar = true → (starEach es env).length = es.length
  | [], _, _ => rfl
  | e :: es, env, h => by
    rw [List.all_cons] at h
    obtain ⟨h1, h2⟩ := Bool.and_eq_true_iff.mp h
    rw [star_eq h1, List.length_cons, star_len env h2]; rfl
theorem star_all : ∀ {es : List Expr} (env : PySem.Env) (pos : Pos), es.all noStar = true → (backTo pos (starEach es env)).all (fun x => !x.1) = true
  | [], _, _, _ => rfl
  | e :: es, env, pos, h => by
    rw [List.all_cons] at h
    obtain ⟨h1, h2⟩ := Bool.and_eq_true_iff.mp h
    rw [star_eq h1]
    show (true && (backTo pos (starEach es env)).all (fun x => !x.1)) = true
    rw [star_all env pos h2]; rfl
def noSuper : Expr → Bool
  | .Call (.Name id _) [] [] _ => id != "super"
  | _ => true
theorem base_eq {o : Expr} (h : noSuper o = true) (attr : Str) (env : PySem.Env) (whole : Sem Value) : attributeBase o attr env whole = whole := by
  unfold attributeBase
  split
  · rename_i id p pos
    have h : (id != ("super" : Str)) = true := h
    rw [h]
    rfl
  · rfl
def noSlice : Expr → Bool
  | .Slice .. => false
  | _ => true
theorem plainIx_of {e : Expr} (h : noSlice e = true) : PlainIx e := by
  intro o i
  cases e <;> first | rfl | (cases h; done)
/-- a test that is looked at by its value -/
def plainTest : Expr → Bool
  | .UnaryOp .Not _ _ => false
  | .BoolOp .. => false
  | .IfExp .. => false
  | .Compare .. => false
  | _ => true
theorem isTrue_val {e : Expr} (h : plainTest e = true) (env : PySem.Env) : ∀ whole, isTrue e env whole = (do let v ← whole; standAt e.pos; holding [v] (truthy v)) := by
  intro whole
  cases e with
  | UnaryOp op a p => cases op <;> first | rfl | (cases h; done)
  | BoolOp op a p => cases h
  | IfExp _ _ _ _ => cases h
  | Compare _ _ _ _ => cases h
  | _ => rfl
def noSet : Expr → Bool
  | .Set .. => false
  | _ => true
theorem noSet_marks {e : Expr} (h : noSet e = true) (op : CmpOp) : behindInMarks op e = false := by
  cases e <;> first | rfl | (cases h; done)
theorem noSet_folded {e : Expr} (h : noSet e = true) (env : PySem.Env) (x : Value) : foldedSetIterable e env x = pure x := by
  cases e <;> first | rfl | (cases h; done)
def noComp : Expr → Bool
  | .ListComp .. => false
  | .SetComp .. => false
  | .DictComp .. => false
  | _ => true
theorem noComp_swap {e : Expr} (h : noComp e = true) (t : Option Expr) (l : Nat) (env : PySem.Env) : swapsWith e t l env = pure false := by
  cases e <;> first | rfl | (cases h; done)

section
variable {K : PySem.W.Frag} {N : Nm} {X : Cx} {W : WX}
theorem PE.imp {e : Expr} {t t' : TE} (h : PE X e t) (k : ∀ σ H Q, t' σ H Q → t σ H Q) : PE X e t' := ⟨fun pins s σ H Q I q => h.run pins s σ H Q I (k σ H Q q)⟩
theorem PA.imp {e : List Expr} {t t' : TA} (h : PA X e t) (k : ∀ σ H Q, t' σ H Q → t σ H Q) : PA X e t' := ⟨fun pos pins s σ H Q I q => h.run pos pins s σ H Q I (k σ H Q q)⟩
theorem PT.imp {e : Expr} {t t' : TT} (h : PT X e t) (k : ∀ σ H Q, t' σ H Q → t σ H Q) : PT X e t' := ⟨fun pins s σ H Q I q => h.run pins s σ H Q I (k σ H Q q)⟩
theorem PW.imp {e : Expr} {t t' : TT} (h : PW X e t) (k : ∀ σ H Q, t' σ H Q → t σ H Q) : PW X e t' := ⟨fun wh pins s σ H Q I q => h.run wh pins s σ H Q I (k σ H Q q)⟩
abbrev F := Env → Store → R D
abbrev FA := Env → Store → R (List D)
/-- a reading that tells data: how it is used -/
theorem LE.open {f : F} {σ : St} {H : Hp} {Q : VK} (h : LE K N f W σ H Q) : ∃ m env st, HR K N m H st ∧ ER K N m H σ env ∧ Pst K N (RD K N) m H (f env st) Q fun c d H' => W c d σ H' := h

theorem le_var {i : Nat} {x : Str} {pos : Pos} (hN : X.N[i]? = some x) (hv : Vis X.env.scope x) (hd : (x == ("__debug__" : Str)) = false) (hcd : (x == ("__classdict__" : Str)) = false) : PE X (.Name x pos) (LE X.K N (fun env st => R.of (env.get i) st) W) :=
  PE.imp (pe_var hN hv hd hcd) fun σ H Q ⟨m, env, st, hr, er, h⟩ => by
    obtain ⟨d, e, h⟩ := h.of
    obtain ⟨v, hv, rd⟩ := er.2 i d e
    exact ⟨v, hv, h v H m Ext.refl hr rd⟩
theorem le_con {e : Expr} {d : D} {v : V} (h : PE X e (tC v)) (rd : ∀ m H, RD X.K N m H d v) : PE X e (LE X.K N (fun _ st => .ok d st) W) :=
  PE.imp h fun σ H Q ⟨m, env, st, hr, er, h⟩ => h v H m Ext.refl hr (rd m H)
/-- two terms in a row, then an operator by values -/
theorem le_two {e : Expr} {r : R2} {ta tb : TE} {fa fb : F} {g : D → D → Store → Env → Store → R D} (h : PE X e (tOp r (LE X.K N fa W) (LE X.K N fb W)))
    (k : ∀ m0 H0 st0 env m1 H1 st1 m H st (dx dy : D) (x y : V) (Q : VK) (σ : St), HR X.K N m0 H0 st0 → Ext m0 H0 m1 H1 → HR X.K N m1 H1 st1 → RD X.K N m1 H1 dx x → Ext m1 H1 m H → HR X.K N m H st → RD X.K N m H dx x → RD X.K N m H dy y →
      Pst X.K N (RD X.K N) m0 H0 (g dx dy st0 env st) Q (fun c d H' => W c d σ H') → r x y H Q) :
    PE X e (LE X.K N (fun env st0 => (fa env st0).bind fun x st1 => (fb env st1).bind fun y st2 => g x y st0 env st2) W) :=
  PE.imp h fun σ H Q ⟨m, env, st, hr, er, h⟩ => ⟨m, env, st, hr, er, h.bind Ext.refl fun dx st1 x H1 m1 _ e1 hr1 rx h1 =>
    ⟨m1, env, st1, hr1, er.mono e1 hr.nt, h1.bind e1 fun dy st2 y H2 m2 _ e2 hr2 ry h2 =>
      k m H st env m1 H1 st1 m2 H2 st2 dx dy x y Q σ hr e1 hr1 rx e2 hr2 (RD.mono e2 hr1.nt _ _ rx) ry h2⟩⟩
theorem le_bin {a b : Expr} {fa fb : F} {pos : Pos} (o : Op) (ha : PE X a (LE X.K N fa W)) (hb : PE X b (LE X.K N fb W)) :
    PE X (.BinOp a (opOf o) b pos) (LE X.K N (fun env st => (fa env st).bind fun x st1 => (fb env st1).bind fun y st2 => binD st o x y st2) W) :=
  le_two (ta := LE X.K N fa W) (tb := LE X.K N fb W) (g := fun x y st0 _ st2 => binD st0 o x y st2) (pe_op (bin_ok (N := N) o) ha hb)
    fun m0 H0 st0 env m1 H1 st1 m H st dx dy x y Q σ h0 e1 _ _ e2 hr rx ry h => ⟨_, m0, H0, st0, m, st, dx, dy, h0, e1.trans e2, hr, rx, ry, h⟩
theorem cmp_end {m0 m : List Addr} {H0 H : Hp} {st0 st : Store} {o : CmpOp} {dx dy : D} {x y : V} {Q : VK} {W : XK} (h0 : HR K N m0 H0 st0) (e : Ext m0 H0 m H) (hr : HR K N m H st) (rx : RD K N m H dx x) (ry : RD K N m H dy y)
    (h : Pst K N (RD K N) m0 H0 (R.of ((cmpD o dx dy st).map .bl) (cut st0 [] st)) Q W) : rCmp K N o x y H Q := by
  obtain ⟨d, ed, h⟩ := h.of
  cases q : cmpD o dx dy st with
  | none => rw [q] at ed; cases ed
  | some k =>
    rw [q] at ed; cases ed
    exact ⟨m, st, dx, dy, k, hr, rx, ry, q, h.cut h0 e hr (ds := []) (vs := []) rfl fun _ _ => rfl⟩
theorem le_cmp {a b : Expr} {fa fb : F} {pos : Pos} (hu : X.A.units + 100 < cLine) (o : CmpOp) (ha : PE X a (LE X.K N fa W)) (hb : PE X b (LE X.K N fb W)) (hm : behindInMarks o b = false) :
    PE X (.Compare a [o] [b] pos) (LE X.K N (fun env st => (fa env st).bind fun x st1 => (fb env st1).bind fun y st2 => R.of ((cmpD o x y st2).map .bl) (cut st [] st2)) W) :=
  le_two (ta := LE X.K N fa W) (tb := LE X.K N fb W) (g := fun x y st0 _ st2 => R.of ((cmpD o x y st2).map .bl) (cut st0 [] st2)) (pe_cmpR (cmp_ok (N := N) hu o) ha hb hm)
    fun m0 H0 st0 env m1 H1 st1 m H st dx dy x y Q σ h0 e1 _ _ e2 hr rx ry h => cmp_end h0 (e1.trans e2) hr rx ry h
theorem le_idx {a b : Expr} {fa fb : F} {pos : Pos} (hu : X.A.units + 100 < cLine) (ha : PE X a (LE X.K N fa W)) (hb : PE X b (LE X.K N fb W)) (hs : PlainIx b) :
    PE X (.Subscript a b pos) (LE X.K N (fun env st => (fa env st).bind fun x st1 => (fb env st1).bind fun y st2 => gc st (R.of (idxD st2 x y) st2)) W) :=
  le_two (ta := LE X.K N fa W) (tb := LE X.K N fb W) (g := fun x y st0 _ st2 => gc st0 (R.of (idxD st2 x y) st2)) (pe_ix (ix_ok (N := N) hu) ha hb hs)
    fun m0 H0 st0 env m1 H1 st1 m H st dx dy x y Q σ h0 e1 _ _ e2 hr rx ry h => by
      cases q : idxD st dx dy with
      | none => rw [q] at h; exact h.elim
      | some d =>
        rw [q] at h
        have h : Pst X.K N (RD X.K N) m0 H0 (.ok d (cut st0 [d] st)) Q _ := h
        exact ⟨m, st, dx, dy, d, hr, rx, ry, q, fun v rv => h.cut h0 (e1.trans e2) hr (RDs.one rv) fun m2 r2 => by
          obtain ⟨w, ew, rw_⟩ := RDs.one_of r2
          cases ew
          exact rw_⟩
theorem le_neg {a : Expr} {fa : F} {pos : Pos} (ha : PE X a (LE X.K N fa W)) :
    PE X (.UnaryOp .USub a pos) (LE X.K N (fun env st => (fa env st).bind fun x st1 => match x with
      | .int i => .ok (.int (-i)) st1
      | _ => .stuck) W) :=
  PE.imp (pe_un un_neg ha) fun σ H Q ⟨m, env, st, hr, er, h⟩ => ⟨m, env, st, hr, er, h.bind Ext.refl fun dx st1 x H1 m1 _ e1 hr1 rx h1 => by
    cases dx with
    | int i => exact ⟨i, rx, h1 _ H1 m1 e1 hr1 rfl⟩
    | _ => exact h1.elim⟩
theorem le_not {a : Expr} {fa : F} {pos : Pos} (ha : PE X a (LE X.K N fa W)) :
    PE X (.UnaryOp .Not a pos) (LE X.K N (fun env st => (fa env st).bind fun x st1 => match x with
      | .bl c => .ok (.bl (!c)) st1
      | _ => .stuck) W) :=
  PE.imp (pe_not ha) fun σ H Q ⟨m, env, st, hr, er, h⟩ => ⟨m, env, st, hr, er, h.bind Ext.refl fun dx st1 x H1 m1 _ e1 hr1 rx h1 => by
    cases dx with
    | bl c => exact ⟨c, rx, h1 _ H1 m1 e1 hr1 rfl⟩
    | _ => exact h1.elim⟩
theorem le_and {a b : Expr} {rest : List Expr} {fa fb : F} {pos : Pos} (ha : PE X a (LE X.K N fa W)) (hb : PE X (.BoolOp .And (b :: rest) pos) (LE X.K N fb W)) :
    PE X (.BoolOp .And (a :: b :: rest) pos) (LE X.K N (fun env st => (fa env st).bind fun x st1 => match x with
      | .bl true => fb env st1
      | .bl false => .ok (.bl false) st1
      | _ => .stuck) W) :=
  PE.imp (pe_and ha hb) fun σ H Q ⟨m, env, st, hr, er, h⟩ => ⟨m, env, st, hr, er, h.bind Ext.refl fun dx st1 x H1 m1 _ e1 hr1 rx h1 => by
    cases dx with
    | bl c =>
      cases c with
      | true => exact ⟨true, rx, iteT ⟨m1, env, st1, hr1, er.mono e1 hr.nt, h1.ext e1⟩⟩
      | false => exact ⟨false, rx, iteF (h1 _ H1 m1 e1 hr1 rfl)⟩
    | _ => exact h1.elim⟩
theorem le_or {a b : Expr} {rest : List Expr} {fa fb : F} {pos : Pos} (ha : PE X a (LE X.K N fa W)) (hb : PE X (.BoolOp .Or (b :: rest) pos) (LE X.K N fb W)) :
    PE X (.BoolOp .Or (a :: b :: rest) pos) (LE X.K N (fun env st => (fa env st).bind fun x st1 => match x with
      | .bl false => fb env st1
      | .bl true => .ok (.bl true) st1
      | _ => .stuck) W) :=
  PE.imp (pe_or ha hb) fun σ H Q ⟨m, env, st, hr, er, h⟩ => ⟨m, env, st, hr, er, h.bind Ext.refl fun dx st1 x H1 m1 _ e1 hr1 rx h1 => by
    cases dx with
    | bl c =>
      cases c with
      | false => exact ⟨false, rx, iteF ⟨m1, env, st1, hr1, er.mono e1 hr.nt, h1.ext e1⟩⟩
      | true => exact ⟨true, rx, iteT (h1 _ H1 m1 e1 hr1 rfl)⟩
    | _ => exact h1.elim⟩
theorem le_ite {c a b : Expr} {fc fa fb : F} {pos : Pos} (hc : PT X c (tB (LE X.K N fc W))) (ha : PE X a (LE X.K N fa W)) (hb : PE X b (LE X.K N fb W)) :
    PE X (.IfExp c a b pos) (LE X.K N (fun env st => (fc env st).bind fun x st1 => match x with
      | .bl true => fa env st1
      | .bl false => fb env st1
      | _ => .stuck) W) :=
  PE.imp (pe_ifExp hc ha hb) fun σ H Q ⟨m, env, st, hr, er, h⟩ => ⟨m, env, st, hr, er, h.bind Ext.refl fun dx st1 x H1 m1 _ e1 hr1 rx h1 => by
    cases dx with
    | bl c =>
      cases c with
      | false => exact ⟨false, rx, iteF ⟨m1, env, st1, hr1, er.mono e1 hr.nt, h1.ext e1⟩⟩
      | true => exact ⟨true, rx, iteT ⟨m1, env, st1, hr1, er.mono e1 hr.nt, h1.ext e1⟩⟩
    | _ => exact h1.elim⟩
/-- a < b < c -/
theorem le_chn {a b c : Expr} {fa fb fc : F} {pos : Pos} (hu : X.A.units + 100 < cLine) (o p : CmpOp) (ha : PE X a (LE X.K N fa W)) (hb : PE X b (LE X.K N fb W)) (hc : PE X c (LE X.K N fc W))
    (hP : ∀ {r r' : R2}, OpR X (compareOp o) r → OpR X (compareOp p) r' → PE X (.Compare a [o, p] [b, c] pos) (tChain r r' (LE X.K N fa W) (LE X.K N fb W) (LE X.K N fc W))) :
    PE X (.Compare a [o, p] [b, c] pos) (LE X.K N (fun env st => (fa env st).bind fun x st1 => (fb env st1).bind fun y st2 => match cmpD o x y st2 with
      | some true => (fc env st2).bind fun z st3 => R.of ((cmpD p y z st3).map .bl) (cut st [] st3)
      | some false => .ok (.bl false) (cut st [] st2)
      | none => .stuck) W) :=
  PE.imp (hP (cmp_ok (N := N) hu o) (cmp_ok (N := N) hu p)) fun σ H Q ⟨m, env, st, hr, er, h⟩ => ⟨m, env, st, hr, er, h.bind Ext.refl fun dx st1 x H1 m1 _ e1 hr1 rx h1 =>
    ⟨m1, env, st1, hr1, er.mono e1 hr.nt, h1.bind e1 fun dy st2 y H2 m2 _ e2 hr2 ry h2 => by
      cases q : cmpD o dx dy st2 with
      | none => rw [q] at h2; exact h2.elim
      | some k =>
        rw [q] at h2
        refine ⟨m2, st2, dx, dy, k, hr2, RD.mono e2 hr1.nt _ _ rx, ry, q, k, rfl, ?_⟩
        cases k with
        | true =>
          refine iteT ⟨m2, env, st2, hr2, er.mono (e1.trans e2) hr.nt, Pst.bind (h := h2) (e0 := e1.trans e2) fun dz st3 z H3 m3 _ e3 hr3 rz h3 => ?_⟩
          exact cmp_end hr ((e1.trans e2).trans e3) hr3 (RD.mono e3 hr2.nt _ _ ry) rz h3
        | false => exact iteF (h2.cut hr (e1.trans e2) hr2 (ds := []) (vs := []) rfl fun _ _ => rfl)⟩⟩

/-! ### rows of expressions -/
theorem la_nil : PA X [] (LA X.K N (fun _ st => .ok [] st) W) := PA.imp pa_nil fun σ H Q ⟨m, env, st, hr, er, h⟩ => h [] H m Ext.refl hr rfl
theorem la_cons {e : Expr} {es : List Expr} {fa : F} {fr : FA} (hs : noStar e = true) (ha : PE X e (LE X.K N fa W)) (hr : PA X es (LA X.K N fr W)) :
    PA X (e :: es) (LA X.K N (fun env st => (fa env st).bind fun x st1 => (fr env st1).bind fun xs st2 => .ok (x :: xs) st2) W) :=
  PA.imp (pa_cons ha hr (star_eq hs es X.env)) fun σ H Q ⟨m, env, st, hr, er, h⟩ => ⟨m, env, st, hr, er, h.bind Ext.refl fun dx st1 x H1 m1 _ e1 hr1 rx h1 =>
    ⟨m1, env, st1, hr1, er.mono e1 hr.nt, h1.bind e1 fun ds st2 vs H2 m2 _ e2 hr2 rs h2 => h2 (x :: vs) H2 m2 (e1.trans e2) hr2 ⟨x, vs, rfl, RD.mono e2 hr1.nt _ _ rx, rs⟩⟩⟩
theorem le_tup {es : List Expr} {fa : FA} {pos : Pos} {k : Nat} (ha : PA X es (LA X.K N fa W)) :
    PE X (.Tuple es k pos) (LE X.K N (fun env st => (fa env st).bind fun ds st1 => if ds.length ≤ sizeLine then .ok (.tup ds) st1 else .stuck) W) :=
  PE.imp (pe_tup ha) fun σ H Q ⟨m, env, st, hr, er, h⟩ => ⟨m, env, st, hr, er, h.bind Ext.refl fun ds st1 vs H1 m1 _ e1 hr1 rs h1 => by
    split at h1
    · rename_i hz
      refine ⟨by rw [← rs.len]; exact hz, fun p hp => ?_⟩
      have e3 := Ext.fresh (m := m1) (o := .tup vs) hp
      exact h1 _ _ m1 (e1.trans e3) (hr1.fresh hp) ⟨p, vs, rfl, upd_same, RDs.mono e3 hr1.nt _ _ rs⟩
    · exact h1.elim⟩
theorem le_lst {es : List Expr} {fa : FA} {pos : Pos} (ha : PA X es (LA X.K N fa W)) :
    PE X (.List es pos) (LE X.K N (fun env st => (fa env st).bind fun ds st1 => newL st ds st1) W) :=
  PE.imp (pe_lst ha) fun σ H Q ⟨m, env, st, hr, er, h⟩ => ⟨m, env, st, hr, er, h.bind Ext.refl fun ds st1 vs H1 m1 _ e1 hr1 rs h1 => h1.newL hr e1 hr1 rs⟩

/-! ### slices -/
def LP (f : Env → Store → R (Option Int)) (W : WX) (K : PySem.W.Frag) (N : Nm) : TO := fun σ H Q => ∃ m env st, HR K N m H st ∧ ER K N m H σ env ∧ Pst K N (fun _ _ (a b : Option Int) => a = b) m H (f env st) Q fun c d H' => W c d σ H'
theorem PO.imp {e : Option Expr} {t t' : TO} (h : PO X e t) (k : ∀ σ H Q, t' σ H Q → t σ H Q) : PO X e t' := ⟨fun pins s σ H Q I q => h.run pins s σ H Q I (k σ H Q q)⟩
theorem lp_none : PO X none (LP (fun _ st => .ok none st) W X.K N) := PO.imp po_none fun σ H Q ⟨m, env, st, hr, er, h⟩ => h none H m Ext.refl hr rfl
theorem lp_some {e : Expr} {fa : F} (ha : PE X e (LE X.K N fa W)) : PO X (some e) (LP (fun env st => (fa env st).bind fun x st1 => match x with
      | .int i => .ok (some i) st1
      | _ => .stuck) W X.K N) :=
  PO.imp (po_some ha) fun σ H Q ⟨m, env, st, hr, er, h⟩ => ⟨m, env, st, hr, er, h.bind Ext.refl fun dx st1 x H1 m1 _ e1 hr1 rx h1 => by
    cases dx with
    | int i => exact ⟨i, rx, h1 (some i) H1 m1 e1 hr1 rfl⟩
    | _ => exact h1.elim⟩
theorem le_slc {a : Expr} {lo hi : Option Expr} {fa : F} {fl fh : Env → Store → R (Option Int)} {p2 pos : Pos} (ha : PE X a (LE X.K N fa W)) (hl : PO X lo (LP fl W X.K N)) (hh : PO X hi (LP fh W X.K N)) :
    PE X (.Subscript a (.Slice lo hi none p2) pos) (LE X.K N (fun env st => (fa env st).bind fun x st1 => (fl env st1).bind fun l st2 => (fh env st2).bind fun h st3 => slcD st x l h st3) W) :=
  PE.imp (pe_slice (slc_ok (N := N)) ha hl hh) fun σ H Q ⟨m, env, st, hr, er, h⟩ => ⟨m, env, st, hr, er, h.bind Ext.refl fun dx st1 x H1 m1 _ e1 hr1 rx h1 =>
    ⟨m1, env, st1, hr1, er.mono e1 hr.nt, h1.bind e1 fun l st2 l' H2 m2 _ e2 hr2 rl h2 =>
      ⟨m2, env, st2, hr2, er.mono (e1.trans e2) hr.nt, h2.bind (e1.trans e2) fun u st3 u' H3 m3 _ e3 hr3 ru h3 => by
        subst rl; subst ru
        exact ⟨_, m, H, st, m3, st3, dx, hr, (e1.trans e2).trans e3, hr3, RD.mono (e2.trans e3) hr1.nt _ _ rx, h3⟩⟩⟩⟩

/-! ### calls -/
/-- what a def asks of its caller -/
def SpR (K : PySem.W.Frag) (N : Nm) (f : List D → Store → R D) (W : XK) (vs : List V) (H : Hp) (Q : VK) : Prop := ∃ m ds st, HR K N m H st ∧ RDs K N m H ds vs ∧ Pst K N (RD K N) m H (f ds st) Q W
/-- the def at a, called here -/
def CallP (N : Nm) (f : List D → Store → R D) (X : Cx) (W : WX) (a : Addr) : Prop := ∀ (pins : List (Addr × Obj)) (s : Shared) (σ : St) (H : Hp) (Q : VK) (us : List Value) (vs : List V),
  Inv X pins σ H s → Vals vs us → SpR X.K N f (fun c d H' => W c d σ H') vs H Q → wpAny (model X.prog X.w) X.A (call (.ref a) us) (EP X pins σ Q) X.xe s
theorem le_call {x : Str} {p pos : Pos} {e : Expr} {es : List Expr} {fa : FA} {f : List D → Store → R D} {a : Addr} (hg : Gl X x) (hdb : (x == ("__debug__" : Str)) = false) (hm : X.mg x = some (.ref a)) (hk : PySem.W.keepIn X.K (.ref a) = true)
    (hc : CallP N f X W a) (hes : (e :: es).all noStar = true) (ha : PA X (e :: es) (LA X.K N fa W)) :
    PE X (.Call (.Name x p) (e :: es) [] pos) (LE X.K N (fun env st => (fa env st).bind fun ds st1 => f ds st1) W) := by
  refine ⟨fun pins s σ H Q I h => ?_⟩
  obtain ⟨m, env, st, hr, er, h⟩ := h
  refine wpAny_Call_Name_kw (ld_glob I hg hm ?_ hdb)
  have hA : LA X.K N fa W σ H (fun vs H1 => SpR X.K N f (fun c d H' => W c d σ H') vs H1 Q) := ⟨m, env, st, hr, er, h.bind Ext.refl fun ds st1 vs H1 m1 _ e1 hr1 rs h1 => ⟨m1, ds, st1, hr1, rs, h1.ext e1⟩⟩
  rw [List.all_cons] at hes
  obtain ⟨h1, h2⟩ := Bool.and_eq_true_iff.mp hes
  exact PySem.W.callWith_K (h₀ := X.base) I.ok.mod.kin hk (thn (ha.run pos pins s σ H _ I hA) fun us s1 ⟨vs, H1, I1, r, q⟩ => ⟨I1.kIn, hc pins s1 σ H1 Q us vs I1 r q⟩) (star_eq h1 es X.env) (star_none X.env pos h2)
theorem le_call0 {x : Str} {p pos : Pos} {f : List D → Store → R D} {a : Addr} (hg : Gl X x) (hdb : (x == ("__debug__" : Str)) = false) (hm : X.mg x = some (.ref a)) (hk : PySem.W.keepIn X.K (.ref a) = true)
    (hc : CallP N f X W a) : PE X (.Call (.Name x p) [] [] pos) (LE X.K N (fun env st => ((R.ok [] st : R (List D))).bind fun ds st1 => f ds st1) W) := by
  refine ⟨fun pins s σ H Q I h => ?_⟩
  obtain ⟨m, env, st, hr, er, h⟩ := h
  refine wpAny_Call_Name_kw (ld_glob I hg hm ?_ hdb)
  exact PySem.W.callWith_K0 I.kIn hk (hc pins s σ H Q [] [] I .nil ⟨m, [], st, hr, rfl, h⟩)
/-! ### built-ins by their names -/
theorem le_blt {b : Blt} {p pos : Pos} {e : Expr} {es : List Expr} {fa : FA} (hc : CallR X (bltV b) (rBlt X.K N b)) (hg : Gl X (bltN b)) (hm : X.mg (bltN b) = none) (hes : (e :: es).all noStar = true) (ha : PA X (e :: es) (LA X.K N fa W)) :
    PE X (.Call (.Name (bltN b) p) (e :: es) [] pos) (LE X.K N (fun env st => (fa env st).bind fun ds st1 => bltD st b ds st1) W) := by
  rw [List.all_cons] at hes
  obtain ⟨h1, h2⟩ := Bool.and_eq_true_iff.mp hes
  obtain ⟨n1, n2⟩ := bltN_ok b
  have hv := blt_boot b
  have P : PE X (.Call (.Name (bltN b) p) (e :: es) [] pos) (tCB (rBlt X.K N b) (LA X.K N fa W)) := by
    cases b
    case len => exact pe_callB hc hg hm hv ha n1 n2 (star_eq h1 es X.env) (star_none X.env pos h2)
    case abs => exact pe_callB hc hg hm hv ha n1 n2 (star_eq h1 es X.env) (star_none X.env pos h2)
    case int => exact pe_callTy hc hg hm hv ha n1 n2 (star_eq h1 es X.env) (star_none X.env pos h2)
    case max => exact pe_callB hc hg hm hv ha n1 n2 (star_eq h1 es X.env) (star_none X.env pos h2)
    case min => exact pe_callB hc hg hm hv ha n1 n2 (star_eq h1 es X.env) (star_none X.env pos h2)
    case tuple => exact pe_callTy hc hg hm hv ha n1 n2 (star_eq h1 es X.env) (star_none X.env pos h2)
    case list => exact pe_callTy hc hg hm hv ha n1 n2 (star_eq h1 es X.env) (star_none X.env pos h2)
    case sum => exact pe_callB hc hg hm hv ha n1 n2 (star_eq h1 es X.env) (star_none X.env pos h2)
    case sorted => exact pe_callB hc hg hm hv ha n1 n2 (star_eq h1 es X.env) (star_none X.env pos h2)
  exact PE.imp P fun σ H Q ⟨m, env, st, hr, er, h⟩ => ⟨m, env, st, hr, er, h.bind Ext.refl fun ds st1 vs H1 m1 _ e1 hr1 rs h1 => ⟨_, m, H, st, m1, st1, ds, hr, e1, hr1, rs, h1⟩⟩
/-! ### methods of built-in types -/
theorem le_mth (hu : X.A.units + 100 < cLine) {mt : Mth} {o e : Expr} {es : List Expr} {fo : F} {fa : FA} {apos pos : Pos} (ho : PE X o (LE X.K N fo W)) (ha : PA X (e :: es) (LA X.K N fa W)) (hb : noSuper o = true) (hes : (e :: es).all noStar = true) (hlen : (e :: es).length < 30) (hline : (apos.endLine == pos.line) = true) :
    PE X (.Call (.Attribute o (mthN mt) apos) (e :: es) [] pos) (LE X.K N (fun env st => (fo env st).bind fun x st1 => if mthK st1 x mt = true then (fa env st1).bind fun ds st2 => mthD st mt x ds st2 else .stuck) W) := by
  have hall := star_all X.env pos hes
  rw [List.all_cons] at hes
  obtain ⟨h1, h2⟩ := Bool.and_eq_true_iff.mp hes
  refine PE.imp (pe_mt ho ha (base_eq hb _ _ _) ?_ hline (star_eq h1 es X.env) (star_none X.env pos h2)) fun σ H Q ⟨m, env, st, hr, er, h⟩ => ⟨m, env, st, hr, er, h.bind Ext.refl fun dx st1 x H1 m1 _ e1 hr1 rx h1 => ?_⟩
  · rw [hall]
    show (true && true && decide ((e :: es).length + 0 + 0 < 30)) = true
    rw [decide_eq_true (by simpa using hlen)]; rfl
  · split at h1
    · rename_i hk
      obtain ⟨T, id, M, ty⟩ := mth_ok (X := X) (N := N) hu mt hr1 rx hk
      exact ⟨T, id, _, M, ty, m1, env, st1, hr1, er.mono e1 hr.nt, h1.bind e1 fun ds st2 vs H2 m2 _ e2 hr2 rs h2 => ⟨_, m, H, st, m2, st2, dx, ds, hr, e1.trans e2, hr2, RD.mono e2 hr1.nt _ _ rx, rs, rfl, h2⟩⟩
    · exact h1.elim
end
end Dk
/-! Dk8: what is walked; comprehensions; attributes, methods, new instances. -/
namespace Dk
open PySem PySem.Spec PyProof.Rows L2
section
variable {K : PySem.W.Frag} {N : Nm} {X : Cx} {W : WX}
/-! ### an untracked list or dict is changed -/
/-- neither a tuple nor frozen nor an error's dict -/
def NTo (o : HO) : Prop := (∀ xs, o ≠ .tup xs) ∧ (∀ ob u, o ≠ .frz ob u) ∧ ∀ ps, o ≠ .xd ps
theorem NTo.lst {vs : List V} : NTo (.lst vs) := ⟨(fun _ z => nomatch z), (fun _ _ z => nomatch z), (fun _ z => nomatch z)⟩
theorem NTo.dK {vs : List (Key × V)} : NTo (.dK vs) := ⟨(fun _ z => nomatch z), (fun _ _ z => nomatch z), (fun _ z => nomatch z)⟩
theorem NTo.dT {vs : List (List Key × V)} : NTo (.dT vs) := ⟨(fun _ z => nomatch z), (fun _ _ z => nomatch z), (fun _ z => nomatch z)⟩
mutual
theorem RD.sideO {m : List Addr} {H : Hp} {D : Addr} {o o0 : HO} (hD : H D = some o0) (ho : NTo o0) : ∀ (d : Dk.D) (v : V), RD K N m H d v → RD K N m (upd H D o) d v
  | .non, v, h => h
  | .bl _, v, h => h
  | .int _, v, h => h
  | .str _, v, h => h
  | .tup ds, v, h => by
    obtain ⟨a, ws, e1, s, r⟩ := h
    refine ⟨a, ws, e1, ?_, RDs.sideO hD ho ds ws r⟩
    rw [upd_ne fun q => by rw [q, hD] at s; cases s; exact ho.1 _ rfl]
    exact s
  | .loc n, v, h => h
  | .fn _, v, h => h
  | .scr ns, v, h => by
    obtain ⟨a, e1, s⟩ := h
    refine ⟨a, e1, s.elim (fun ⟨ob, z⟩ => .inl ⟨ob, ?_⟩) .inr⟩
    rw [upd_ne fun q => by rw [q, hD] at z; cases z; exact ho.2.1 _ _ rfl]
    exact z
theorem RDs.sideO {m : List Addr} {H : Hp} {D : Addr} {o o0 : HO} (hD : H D = some o0) (ho : NTo o0) : ∀ (ds : List Dk.D) (ws : List V), RDs K N m H ds ws → RDs K N m (upd H D o) ds ws
  | [], ws, h => h
  | d :: ds, ws, h => by
    obtain ⟨v, r, e1, h1, h2⟩ := h
    exact ⟨v, r, e1, RD.sideO hD ho d v h1, RDs.sideO hD ho ds r h2⟩
end
theorem RD.side {m : List Addr} {H : Hp} {D : Addr} {o : HO} {vs : List V} (hD : H D = some (.lst vs)) (d : Dk.D) (v : V) (h : RD K N m H d v) : RD K N m (upd H D o) d v := RD.sideO hD .lst d v h
theorem RDs.side {m : List Addr} {H : Hp} {D : Addr} {o : HO} {vs : List V} (hD : H D = some (.lst vs)) (ds : List Dk.D) (ws : List V) (h : RDs K N m H ds ws) : RDs K N m (upd H D o) ds ws := RDs.sideO hD .lst ds ws h
theorem HR.sideO {m : List Addr} {H : Hp} {st : Store} {D : Addr} {o o0 : HO} (h : HR K N m H st) (hD : H D = some o0) (ho : NTo o0) (nD : D ∉ m) : HR K N m (upd H D o) st := by
  refine ⟨h.len, h.nd, fun i c a hc ha => ?_⟩
  have ne : a ≠ D := fun z => nD (z ▸ List.mem_of_getElem? ha)
  have rc := h.at_ i c a hc ha
  have rf : ∀ {fs : List (Nat × Dk.D)} {ws : List (Str × V)}, RF K N m H fs ws → RF K N m (upd H D o) fs ws := fun r => Paired.mapP r fun _ _ ⟨x, y⟩ => ⟨x, RD.sideO hD ho _ _ y⟩
  cases c with
  | lst ds => obtain ⟨ws, e1, r⟩ := rc; exact ⟨ws, by rw [upd_ne ne]; exact e1, RDs.sideO hD ho _ _ r⟩
  | dct t kvs =>
    rcases rc with ⟨z, xs, e1, r⟩ | ⟨z, xs, e1, r⟩
    · exact .inl ⟨z, xs, by rw [upd_ne ne]; exact e1, Paired.mapP r fun _ _ ⟨x, x2, y⟩ => ⟨x, x2, RD.sideO hD ho _ _ y⟩⟩
    · exact .inr ⟨z, xs, by rw [upd_ne ne]; exact e1, Paired.mapP r fun _ _ ⟨x, y⟩ => ⟨x, RD.sideO hD ho _ _ y⟩⟩
  | ins c fs => obtain ⟨z, dx, ws, e1, r⟩ := rc; exact ⟨z, dx, ws, by rw [upd_ne ne]; exact e1, rf r⟩
  | exn c fs =>
    obtain ⟨z, oe, d, ws, fv, e1, e2, e3, e4, e6, nd, r⟩ := rc
    have nd' : d ≠ D := fun q => by
      rw [q, hD] at e6; cases e6; exact ho.2.2 _ rfl
    exact ⟨z, oe, d, ws, fv, by rw [upd_ne ne]; exact e1, e2, e3, e4, by rw [upd_ne nd']; exact e6, nd, rf r⟩
theorem HR.side {m : List Addr} {H : Hp} {st : Store} {D : Addr} {o : HO} {vs : List V} (h : HR K N m H st) (hD : H D = some (.lst vs)) (nD : D ∉ m) : HR K N m (upd H D o) st := h.sideO hD .lst nD
/-- naming more places keeps what data stand for -/
theorem up_app {m : List Addr} {H : Hp} {t : List Addr} : (∀ (d : Dk.D) (v : V), RD K N m H d v → RD K N (m ++ t) H d v) ∧ ∀ (ds : List Dk.D) (vs : List V), RDs K N m H ds vs → RDs K N (m ++ t) H ds vs := by
    have key : ∀ (n : Nat), (∀ (d : Dk.D) (v : V), sizeOf d ≤ n → RD K N m H d v → RD K N (m ++ t) H d v) ∧ ∀ (ds : List Dk.D) (vs : List V), sizeOf ds ≤ n → RDs K N m H ds vs → RDs K N (m ++ t) H ds vs := by
      intro n
      induction n with
      | zero =>
        refine ⟨fun d v hz _ => ?_, fun ds vs hz _ => ?_⟩
        · cases d <;> simp at hz
        · cases ds <;> simp at hz
      | succ n ih =>
        refine ⟨fun d v hz h => ?_, fun ds vs hz h => ?_⟩
        · cases d with
          | tup ds =>
            obtain ⟨a, ws, e1, s, r⟩ := h
            exact ⟨a, ws, e1, s, ih.2 ds ws (by simp at hz; omega) r⟩
          | loc k =>
            obtain ⟨a, e1, g⟩ := h
            exact ⟨a, e1, by rw [List.getElem?_append_left (List.getElem?_eq_some_iff.mp g).1]; exact g⟩
          | _ => exact h
        · cases ds with
          | nil => exact h
          | cons d ds =>
            obtain ⟨v, r, e1, h1, h2⟩ := h
            simp at hz
            exact ⟨v, r, e1, ih.1 d v (by omega) h1, ih.2 ds r (by omega) h2⟩
    exact ⟨fun d v => (key (sizeOf d)).1 d v (Nat.le_refl _), fun ds vs => (key (sizeOf ds)).2 ds vs (Nat.le_refl _)⟩
/-- a list or dict that stands untracked is named last -/
theorem HR.adoptO {m : List Addr} {H : Hp} {st : Store} {D : Addr} {c : C} {o : HO} (h : HR K N m H st) (hD : H D = some o) (ho : NTo o) (nD : D ∉ m) (rD : RC K N (m ++ [D]) H c D) : HR K N (m ++ [D]) H (st ++ [c]) := by
  have up := up_app (K := K) (N := N) (m := m) (H := H) (t := [D])
  have upF : ∀ {fs : List (Nat × Dk.D)} {ws : List (Str × V)}, RF K N m H fs ws → RF K N (m ++ [D]) H fs ws := fun r => Paired.mapP r fun _ _ ⟨x, y⟩ => ⟨x, up.1 _ _ y⟩
  refine ⟨by simp [h.len], List.nodup_append.mpr ⟨h.nd, by simp, fun a ha b hb => ?_⟩, fun i c' a h1 h2 => ?_⟩
  · have eb : b = D := by simpa using hb
    subst eb
    exact fun z => nD (z ▸ ha)
  · by_cases hi : i < m.length
    · rw [List.getElem?_append_left hi] at h2
      rw [List.getElem?_append_left (by rw [← h.len]; exact hi)] at h1
      have rc := h.at_ i c' a h1 h2
      cases c' with
      | lst ds => obtain ⟨ws, e1, r⟩ := rc; exact ⟨ws, e1, up.2 _ _ r⟩
      | dct t kvs =>
        rcases rc with ⟨z, xs, e1, r⟩ | ⟨z, xs, e1, r⟩
        · exact .inl ⟨z, xs, e1, Paired.mapP r fun _ _ ⟨x, x2, y⟩ => ⟨x, x2, up.1 _ _ y⟩⟩
        · exact .inr ⟨z, xs, e1, Paired.mapP r fun _ _ ⟨x, y⟩ => ⟨x, up.1 _ _ y⟩⟩
      | ins c fs => obtain ⟨z, dx, ws, e1, r⟩ := rc; exact ⟨z, dx, ws, e1, upF r⟩
      | exn c fs =>
        obtain ⟨z, oe, d, ws, fv, e1, e2, e3, e4, e6, nd, r⟩ := rc
        have nd' : d ≠ D := fun q => by
          rw [q, hD] at e6; cases e6; exact ho.2.2 _ rfl
        exact ⟨z, oe, d, ws, fv, e1, e2, e3, e4, e6, by simp [nd, nd'], upF r⟩
    · have hi2 : i = m.length := by
        have := (List.getElem?_eq_some_iff.mp h2).1
        simp at this; omega
      subst hi2
      have ea : a = D := by
        rw [List.getElem?_append_right (Nat.le_refl _)] at h2
        simpa using h2.symm
      have ec : c' = c := by
        rw [h.len, List.getElem?_append_right (Nat.le_refl _)] at h1
        simpa using h1.symm
      subst ea; subst ec
      exact rD
theorem HR.adopt {m : List Addr} {H : Hp} {st : Store} {D : Addr} {ds : List Dk.D} {vs : List V} (h : HR K N m H st) (hD : H D = some (.lst vs)) (nD : D ∉ m) (r : RDs K N m H ds vs) :
    HR K N (m ++ [D]) H (st ++ [.lst ds]) ∧ RDs K N (m ++ [D]) H ds vs :=
  ⟨h.adoptO hD .lst nD ⟨vs, hD, up_app.2 _ _ r⟩, up_app.2 _ _ r⟩

/-! ### what is walked -/
/-- the iterator J gives xs, as long as the source stands -/
structure WalkJ (K : PySem.W.Frag) (N : Nm) (m : List Addr) (H : Hp) (w : List D × Option (Nat × List D)) (J : It) : Prop where
  go : ∀ m' H' st' i d, Ext m H m' H' → HR K N m' H' st' → srcOk w.2 st' → w.1[i]? = some d → J.go i H' ∧ ∀ x H'', J.yld i H' x H'' → H'' = H' ∧ RD K N m' H' d x
  stop : ∀ m' H' st', Ext m H m' H' → HR K N m' H' st' → srcOk w.2 st' → J.stop w.1.length H'
def LI (K : PySem.W.Frag) (N : Nm) (f : Env → Store → R (List D × Option (Nat × List D))) (W : WX) : TI := fun σ H Q => ∃ m env st, HR K N m H st ∧ ER K N m H σ env ∧ Pst K N (WalkJ K N) m H (f env st) Q fun c d H' => W c d σ H'
theorem PI.imp {tg e : Expr} {t t' : TI} (h : PI X tg e t) (k : ∀ σ H Q, t' σ H Q → t σ H Q) : PI X tg e t' := ⟨fun pins s σ H Q I q => h.run pins s σ H Q I (k σ H Q q)⟩
theorem walk_list {m : List Addr} {H : Hp} {a : Addr} {xs : List D} {src : Option (Nat × List D)} (hs : ∀ m' H' st', Ext m H m' H' → HR K N m' H' st' → srcOk src st' → ∃ vs, SqL K H' a vs ∧ RDs K N m' H' xs vs) : WalkJ K N m H (xs, src) (Itl K a) where
  go := fun m' H' st' i d e hr ok hd => by
    obtain ⟨vs, s, r⟩ := hs m' H' st' e hr ok
    obtain ⟨v, hv, rv⟩ := r.get hd
    exact ⟨⟨vs, v, s, hv⟩, fun x H'' ⟨e1, e2⟩ => ⟨e1, by
      have := e2 vs s
      rw [hv] at this; cases this
      exact rv⟩⟩
  stop := fun m' H' st' e hr ok => by
    obtain ⟨vs, s, r⟩ := hs m' H' st' e hr ok
    exact ⟨vs, s, Nat.le_of_eq r.len.symm⟩
theorem get_rev {α : Type} {xs : List α} {i : Nat} {d : α} (h : xs.reverse[i]? = some d) : i < xs.length ∧ xs[xs.length - 1 - i]? = some d := by
  have hi : i < xs.length := by
    have := (List.getElem?_eq_some_iff.mp h).1
    simpa using this
  rw [List.getElem?_reverse hi] at h
  exact ⟨hi, h⟩
theorem walk_listR {m : List Addr} {H : Hp} {a : Addr} {xs : List D} {n : Nat} {src : Option (Nat × List D)} (hn : n = xs.length) (hs : ∀ m' H' st', Ext m H m' H' → HR K N m' H' st' → srcOk src st' → ∃ vs, SqL K H' a vs ∧ RDs K N m' H' xs vs) : WalkJ K N m H (xs.reverse, src) (Itv K a n) where
  go := fun m' H' st' i d e hr ok hd => by
    obtain ⟨vs, s, r⟩ := hs m' H' st' e hr ok
    obtain ⟨hi, hd⟩ := get_rev hd
    obtain ⟨v, hv, rv⟩ := r.get hd
    subst hn
    exact ⟨⟨hi, vs, v, s, hv⟩, fun x H'' ⟨e1, e2⟩ => ⟨e1, by
      have := e2 vs s
      rw [hv] at this; cases this
      exact rv⟩⟩
  stop := fun m' H' st' e hr ok => by
    subst hn
    show xs.length ≤ xs.reverse.length
    simp
theorem walk_tup {m : List Addr} {H : Hp} {a : Addr} {xs : List D} {vs : List V} (nt : NT m H) (s : SqT K H a vs) (r : RDs K N m H xs vs) : WalkJ K N m H (xs, none) (Itt K a) where
  go := fun m' H' st' i d e hr ok hd => by
    obtain ⟨v, hv, rv⟩ := (RDs.mono e nt _ _ r).get hd
    have s' := e.sqT nt s
    exact ⟨⟨vs, v, s', hv⟩, fun x H'' ⟨e1, e2⟩ => ⟨e1, by
      have := e2 vs s'
      rw [hv] at this; cases this
      exact rv⟩⟩
  stop := fun m' H' st' e hr ok => ⟨vs, e.sqT nt s, Nat.le_of_eq r.len.symm⟩
theorem walk_tupR {m : List Addr} {H : Hp} {a : Addr} {xs : List D} {vs : List V} {n : Nat} (hn : n = xs.length) (nt : NT m H) (s : SqT K H a vs) (r : RDs K N m H xs vs) : WalkJ K N m H (xs.reverse, none) (RT.ItvT K a n) where
  go := fun m' H' st' i d e hr ok hd => by
    obtain ⟨hi, hd⟩ := get_rev hd
    obtain ⟨v, hv, rv⟩ := (RDs.mono e nt _ _ r).get hd
    have s' := e.sqT nt s
    subst hn
    exact ⟨⟨hi, vs, v, s', hv⟩, fun x H'' ⟨e1, e2⟩ => ⟨e1, by
      have := e2 vs s'
      rw [hv] at this; cases this
      exact rv⟩⟩
  stop := fun m' H' st' e hr ok => by
    subst hn
    show xs.length ≤ xs.reverse.length
    simp
theorem walk_str {m : List Addr} {H : Hp} {z : S} (ok : TxtOk z) : WalkJ K N m H (z.map (fun c => D.str [c]), none) (Its (mkS z)) where
  go := fun m' H' st' i d e hr _ hd => by
    rw [List.getElem?_map] at hd
    cases q : z[i]? with
    | none => rw [q] at hd; cases hd
    | some c =>
      rw [q] at hd
      cases hd
      have hi := (List.getElem?_eq_some_iff.mp q).1
      refine ⟨by show i < (mkS z).cps.size; simpa [mkS] using hi, fun x H'' ⟨e1, c', e2, e3⟩ => ⟨e1, ?_⟩⟩
      have : c' = c := by
        have e4 : (mkS z).cps[i]? = z[i]? := by simp [mkS]
        rw [e4, q] at e2; cases e2; rfl
      subst this
      refine ⟨e3, ?_, fun x hx => ?_⟩
      · rw [sizeLine_eq]; show 1 ≤ 16777216; decide
      · rw [List.mem_singleton.mp hx]; exact ok.cp _ (List.mem_of_getElem? q)
  stop := fun m' H' st' e hr _ => by
    show (mkS z).cps.size ≤ (z.map fun c => D.str [c]).length
    simp [mkS]
theorem walk_rng {m : List Addr} {H : Hp} (lo : Int) (n : Nat) : WalkJ K N m H (rangeD lo n, none) (Itr lo n) where
  go := fun m' H' st' i d e hr _ hd => by
    unfold rangeD at hd
    rw [List.getElem?_map] at hd
    have hi : i < n := by
      cases q : (List.range n)[i]? with
      | none => rw [q] at hd; cases hd
      | some c => simpa using (List.getElem?_eq_some_iff.mp q).1
    rw [List.getElem?_range hi] at hd
    cases hd
    exact ⟨hi, fun x H'' ⟨e1, e2⟩ => ⟨e1, e2⟩⟩
  stop := fun m' H' st' e hr _ => by
    show n ≤ (rangeD lo n).length
    simp [rangeD]
/-- the list that is walked: named still, or not -/
theorem list_src {m0 : List Addr} {H0 H : Hp} {st0 st : Store} {m : List Addr} {n : Nat} {xs : List D} {a : Addr} {vs : List V} (h0 : HR K N m0 H0 st0) (e : Ext m0 H0 m H) (hr : HR K N m H st) (ga : m[n]? = some a) (s1 : H a = some (.lst vs)) (q1 : RDs K N m H xs vs) :
    ∃ m2, Ext m0 H0 m2 H ∧ HR K N m2 H (cut st0 xs st) ∧ ∀ m' H' st', Ext m2 H m' H' → HR K N m' H' st' → srcOk (if n < (cut st0 xs st).length then some (n, xs) else none) st' → ∃ ws, SqL K H' a ws ∧ RDs K N m' H' xs ws := by
  obtain ⟨m2, e2, hr2, r2, hl, t, ht⟩ := h0.cut e hr q1
  refine ⟨m2, e2, hr2, fun m' H' st' e' hr' ok => ?_⟩
  by_cases c : n < (cut st0 xs st).length
  · rw [if_pos c] at ok
    have g2 : m2[n]? = some a := by
      rw [ht, List.getElem?_append_left (by rw [hl]; exact c)] at ga
      exact ga
    obtain ⟨ws, w1, w2⟩ := hr'.at_ n _ a ok (e'.get g2)
    exact ⟨ws, SqL.of w1, w2⟩
  · have na : a ∉ m2 := fun hm => by
      obtain ⟨i, hi, ei⟩ := List.mem_iff_getElem.mp hm
      have g1 : m[i]? = some a := by rw [ht, List.getElem?_append_left hi, List.getElem?_eq_getElem hi, ei]
      obtain ⟨l1, e1⟩ := List.getElem?_eq_some_iff.mp g1
      obtain ⟨l3, e3⟩ := List.getElem?_eq_some_iff.mp ga
      have : i = n := (List.getElem_inj hr.nd).mp (e1.trans e3.symm)
      omega
    exact ⟨vs, SqL.of (e'.keep a _ s1 na).1, RDs.mono e' hr2.nt _ _ r2⟩
theorem pi_any {tg e : Expr} {fa : F} (ha : PE X e (LE X.K N fa W)) : PI X tg e (LI X.K N (fun env st => (fa env st).bind fun x st1 => match x with
    | .tup xs => .ok (xs, none) st1
    | .str s => .ok (s.map fun c => .str [c], none) st1
    | .loc n => match getL st1 n with
      | some xs => if n < (cut st xs st1).length then .ok (xs, some (n, xs)) (cut st xs st1) else .ok (xs, none) (cut st xs st1)
      | none => .stuck
    | _ => .stuck) W) := by
  refine ⟨fun pins s σ H R I ⟨m, env, st, hr, er, h⟩ => ?_⟩
  dsimp only at h
  cases hf : fa env st with
  | stuck => rw [hf] at h; exact h.elim
  | exc c fs st1 =>
    rw [hf] at h
    refine (pi_list ha).run pins s σ H R I ⟨m, env, st, hr, er, ?_⟩
    rw [hf]; exact h
  | ok d st1 =>
    rw [hf] at h
    cases d with
    | tup xs =>
      refine (pi_tup ha).run pins s σ H R I ⟨m, env, st, hr, er, ?_⟩
      rw [hf]
      intro v H1 m1 e1 hr1 ⟨a, vs, ev, s0, q1⟩
      have s1 : SqT X.K H1 a vs := SqT.of s0
      exact ⟨a, ev, ⟨vs, s1⟩, h _ H1 m1 e1 hr1 (walk_tup hr1.nt s1 q1)⟩
    | str z =>
      refine (pi_str ha).run pins s σ H R I ⟨m, env, st, hr, er, ?_⟩
      rw [hf]
      intro v H1 m1 e1 hr1 r1
      exact ⟨mkS z, r1.1, h _ H1 m1 e1 hr1 (walk_str r1.2)⟩
    | loc n =>
      refine (pi_list ha).run pins s σ H R I ⟨m, env, st, hr, er, ?_⟩
      rw [hf]
      intro v H1 m1 e1 hr1 r1
      replace h : Pst X.K N (WalkJ X.K N) m H (match getL st1 n with
        | some xs => if n < (cut st xs st1).length then .ok (xs, some (n, xs)) (cut st xs st1) else .ok (xs, none) (cut st xs st1)
        | none => .stuck) (fun J H1 => R J H1) _ := h
      split at h
      · rename_i xs gl
        obtain ⟨a, vs, ev, ga, s1, q1⟩ := hr1.lst gl r1
        obtain ⟨m2, e2, hr2, hs⟩ := list_src hr e1 hr1 ga s1 q1
        refine ⟨a, ev, ⟨vs, SqL.of s1⟩, ?_⟩
        split at h
        · rename_i c
          rw [if_pos c] at hs
          exact h _ H1 m2 e2 hr2 (walk_list hs)
        · rename_i c
          rw [if_neg c] at hs
          exact h _ H1 m2 e2 hr2 (walk_list hs)
      · exact h.elim
    | _ => exact h.elim
theorem pi_rev {tg e : Expr} {fa : F} {p pos : Pos} (hg : Gl X "reversed") (hm : X.mg "reversed" = none) (hs : noStar e = true) (ha : PE X e (LE X.K N fa W)) : PI X tg (.Call (.Name "reversed" p) [e] [] pos) (LI X.K N (fun env st => (fa env st).bind fun x st1 => match x with
    | .tup xs => .ok (xs.reverse, none) st1
    | .loc n => match getL st1 n with
      | some xs => if n < (cut st xs st1).length then .ok (xs.reverse, some (n, xs)) (cut st xs st1) else .ok (xs.reverse, none) (cut st xs st1)
      | none => .stuck
    | _ => .stuck) W) :=
  PI.imp (RT.pi_revA hg hm ha (star_eq hs [] X.env)) fun σ H R ⟨m, env, st, hr, er, h⟩ => ⟨m, env, st, hr, er, h.bind Ext.refl fun d st1 v H1 m1 _ e1 hr1 r1 h => by
    cases d with
    | tup xs =>
      obtain ⟨a, vs, ev, s0, q1⟩ := r1
      have s1 : SqT X.K H1 a vs := SqT.of s0
      exact ⟨a, vs, ev, .inr ⟨s1, h _ H1 m1 e1 hr1 (walk_tupR q1.len.symm hr1.nt s1 q1)⟩⟩
    | loc n =>
      replace h : Pst X.K N (WalkJ X.K N) m H (match getL st1 n with
        | some xs => if n < (cut st xs st1).length then .ok (xs.reverse, some (n, xs)) (cut st xs st1) else .ok (xs.reverse, none) (cut st xs st1)
        | none => .stuck) (fun J H1 => R J H1) _ := h
      split at h
      · rename_i xs gl
        obtain ⟨a, vs, ev, ga, s1, q1⟩ := hr1.lst gl r1
        obtain ⟨m2, e2, hr2, hs⟩ := list_src hr e1 hr1 ga s1 q1
        refine ⟨a, vs, ev, .inl ⟨SqL.of s1, ?_⟩⟩
        split at h
        · rename_i c
          rw [if_pos c] at hs
          exact h _ H1 m2 e2 hr2 (walk_listR q1.len.symm hs)
        · rename_i c
          rw [if_neg c] at hs
          exact h _ H1 m2 e2 hr2 (walk_listR q1.len.symm hs)
      · exact h.elim
    | _ => exact h.elim⟩
theorem argI_of {d : D} {j : Int} (h : argI d = some j) : d = .int j ∧ -(2 ^ 62) ≤ j ∧ j < 2 ^ 62 := by
  unfold argI at h
  split at h
  · split at h
    · rename_i c
      cases h; exact ⟨rfl, c⟩
    · cases h
  · cases h
theorem pi_rng1 {tg a : Expr} {fa : F} {f : Env → Store → R (List D × Option (Nat × List D))} {p pos : Pos} (hg : Gl X "range") (hm : X.mg "range" = none) (hs : noStar a = true) (ha : PE X a (LE X.K N fa W))
    (hf : ∀ env st, f env st = (fa env st).bind fun d st1 => R.of ((argI d).map fun j => (rangeD 0 j.toNat, none)) st1) : PI X tg (.Call (.Name "range" p) [a] [] pos) (LI X.K N f W) :=
  PI.imp (pi_range1 hg hm (pa_cons ha pa_nil (star_eq hs [] X.env)) (star_eq hs [] X.env)) fun σ H R ⟨m, env, st, hr, er, h⟩ => ⟨m, env, st, hr, er, by
    rw [hf] at h
    exact h.bind Ext.refl fun d st1 v H1 m1 _ e1 hr1 r1 h => by
      obtain ⟨w, ew, h'⟩ := h.of
      cases q : argI d with
      | none => rw [q] at ew; cases ew
      | some j =>
        rw [q] at ew; cases ew
        obtain ⟨ed, q1, q2⟩ := argI_of q
        subst ed
        exact ⟨j, by rw [show v = .int j from r1], q1, q2, h' _ H1 m1 e1 hr1 (walk_rng 0 j.toNat)⟩⟩
theorem pi_rng2 {tg a b : Expr} {fa fb : F} {f : Env → Store → R (List D × Option (Nat × List D))} {p pos : Pos} (hg : Gl X "range") (hm : X.mg "range" = none) (hs : noStar a = true) (hs2 : noStar b = true) (ha : PE X a (LE X.K N fa W)) (hb : PE X b (LE X.K N fb W))
    (hf : ∀ env st, f env st = (fa env st).bind fun d st1 => (fb env st1).bind fun d2 st2 => R.of ((argI d).bind fun i => (argI d2).map fun j => (rangeD i (j - i).toNat, none)) st2) : PI X tg (.Call (.Name "range" p) [a, b] [] pos) (LI X.K N f W) :=
  PI.imp (pi_range2 hg hm (pa_cons ha (pa_cons hb pa_nil (star_eq hs2 [] X.env)) (star_eq hs [b] X.env)) (by rw [star_eq hs, star_eq hs2]; rfl) (by rw [star_eq hs2]; rfl)) fun σ H R ⟨m, env, st, hr, er, h⟩ => ⟨m, env, st, hr, er, by
    rw [hf] at h
    exact h.bind Ext.refl fun d st1 v H1 m1 _ e1 hr1 r1 h => ⟨m1, env, st1, hr1, er.mono e1 hr.nt, h.bind e1 fun d2 st2 v2 H2 m2 _ e2 hr2 r2 h => by
      obtain ⟨w, ew, h'⟩ := h.of
      cases q : argI d with
      | none => rw [q] at ew; cases ew
      | some i =>
        cases q' : argI d2 with
        | none => rw [q, q'] at ew; cases ew
        | some j =>
          rw [q, q'] at ew; cases ew
          obtain ⟨ed, q1, q2⟩ := argI_of q
          obtain ⟨ed', q3, q4⟩ := argI_of q'
          subst ed; subst ed'
          exact ⟨i, j, by rw [show v = .int i from r1, show v2 = .int j from r2], ⟨q1, q2, q3, q4⟩, h' _ H2 m2 (e1.trans e2) hr2 (walk_rng i (j - i).toNat)⟩⟩⟩

/-! ### dicts -/
theorem le_dct {t : Bool} {pos : Pos} : PE X (.Dict [] [] pos) (LE X.K N (fun _ st => .ok (.loc st.length) (st ++ [.dct t []])) W) := by
  cases t with
  | false =>
    exact PE.imp pe_dnewK fun σ H Q ⟨m, env, st, hr, er, h⟩ p hp => by
      have e3 := Ext.push (m := m) (o := .dK []) hp
      refine h (.ref p) (upd H p (.dK [])) (m ++ [p]) e3 (hr.push hp (.inl ⟨rfl, [], upd_same, .nil⟩)) ⟨p, rfl, ?_⟩
      rw [← hr.len]; simp
  | true =>
    exact PE.imp pe_dnewT fun σ H Q ⟨m, env, st, hr, er, h⟩ p hp => by
      have e3 := Ext.push (m := m) (o := .dT []) hp
      refine h (.ref p) (upd H p (.dT [])) (m ++ [p]) e3 (hr.push hp (.inr ⟨rfl, [], upd_same, .nil⟩)) ⟨p, rfl, ?_⟩
      rw [← hr.len]; simp
theorem keyK_of {m : List Addr} {H : Hp} {d : D} {v : V} (kb : keyB false d = true) (r : RD K N m H d v) : ∃ k, keyK d = some k ∧ RK.TxtK d ∧ v = kV k := by
  obtain ⟨k, e⟩ := isK_key (show isK d = true from kb)
  obtain ⟨a, b⟩ := key_V r e
  exact ⟨k, e, b, a⟩
theorem keyT_of {m : List Addr} {H : Hp} {d : D} {v : V} (kb : keyB true d = true) (r : RD K N m H d v) : ∃ ds ks b, d = .tup ds ∧ keysK ds = some ks ∧ (∀ d ∈ ds, RK.TxtK d) ∧ v = .ref b ∧ H b = some (.tup (ks.map kV)) := by
  cases d with
  | tup ds =>
    obtain ⟨ks, hk⟩ := isK_keys (show ds.all isK = true from kb)
    obtain ⟨b, vs, rfl, hb, rs⟩ := r
    obtain ⟨a1, a2⟩ := keys_V rs hk
    rw [a1] at hb
    exact ⟨ds, ks, b, rfl, hk, a2, rfl, hb⟩
  | _ => cases kb
/-- {k: v} with a tuple's key -/
def tDisp1T (tk tv : TE) : TE := fun σ H Q => ∀ p, H p = none → tk σ (upd H p (.dT [])) fun x H1 => tv σ H1 fun y H2 => H2 p = some (.dT []) ∧ ∃ b ks, x = .ref b ∧ H2 b = some (.tup (ks.map kV)) ∧ Q (.ref p) (upd H2 p (.dT [(ks, y)]))
theorem pe_disp1T {k v : Expr} {tk tv : TE} {pos : Pos} (hu : X.A.units + 1 < cLine) (hk : PE X k tk) (hv : PE X v tv) : PE X (.Dict [some k] [v] pos) (tDisp1T tk tv) := by
  refine ⟨fun pins s σ H Q I q => ?_⟩
  have hn := I.hok.fresh (Nat.le_refl s.heap.objs.size)
  have I1 := I.laid (a := s.heap.objs.size) (o := .dT []) (h' := s.heap.push { cls := .type "dict", data := .dict #[] }) (t' := s.toks) (fun _ _ q => Heap.get?_push_of_some _ q) (Nat.le_refl _) (dt_empty s.heap I.big)
  rw [arm_eval_Dict, zip_pairTrees [some k] [v] X.env pos rfl rfl, dictDisplay_pairs (pairTrees [some k] [v] X.env pos) (by intro z; cases z) (by simp [pairTrees])]
  refine wpAny_bind (wpAny_standAt (wpAny_bind (wpAny_subDictH (knd := tupleKind (mixKind X.prog X.w)) (Q := fun d s' => wpAny (model X.prog X.w) X.A (pure (Value.ref d)) _ _ s') (show X.A.units < cLine by omega) (by show 1 ≤ 15; decide) ?_)))
  refine pairTrees_cons_walk (thn (hk.run pins _ σ _ _ I1 (q _ hn)) fun u s1 ⟨x, H1, I2, rx, q1⟩ => thn (hv.run pins s1 σ H1 _ I2 q1) fun w2 s2 ⟨y, H2, I3, ry, hp2, b, ks, ex, eb, q2⟩ => ?_)
  refine pairTrees_nil_walk ?_
  subst ex
  obtain rfl : u = Value.ref b := rx
  obtain ⟨z, hd, xs, r0, dd⟩ := dt_of I3.hok hp2
  cases r0
  refine ⟨[(ks, b, w2)], ⟨rfl, rfl, key_of I3.hok eb, trivial⟩, dd, fun h' tk dd' hs => wpAny_pure ⟨.ref s.heap.objs.size, _, ?_, rfl, q2⟩⟩
  obtain ⟨qo, es, ep, hq, h2, h3, h4, _, h5⟩ := dd'
  refine d_write I3 (by rw [hp2]; exact True.intro) hs ⟨qo, hq⟩ ⟨by rw [sizeLine_eq]; show 1 ≤ 16777216; decide, hd, [(ks, b, w2)], .cons ⟨rfl, ?_, ry⟩ .nil, qo, es, ep, hq, h2, h3, h4, h5⟩
  rw [upd_ne (ne_of eb hp2 (fun z => nomatch z))]
  exact eb
theorem le_dct1 {t : Bool} {k v : Expr} {fk fv : F} {pos : Pos} (hu : X.A.units + 100 < cLine) (hk : PE X k (LE X.K N fk W)) (hv : PE X v (LE X.K N fv W)) :
    PE X (.Dict [some k] [v] pos) (LE X.K N (fun env st => (fk env st).bind fun x st1 => (fv env st1).bind fun y st2 => if keyB t x = true then .ok (.loc (cut st [x, y] st2).length) (cut st [x, y] st2 ++ [.dct t [(x, y)]]) else .stuck) W) := by
  cases t with
  | false =>
    exact PE.imp (pe_disp (pps_cons hk hv pps_nil) rfl rfl (by simp) (by show 1 ≤ 15; decide)) fun σ H Q ⟨m, env, st, hr, er, h⟩ p hp => by
      have e0 := Ext.fresh (m := m) (o := .dK []) hp
      have hr0 := hr.fresh (o := .dK []) hp
      have np : p ∉ m := fun z => hr.nt.ne hp z rfl
      refine ⟨m, env, st, hr0, er.mono e0 hr.nt, h.bind e0 fun dx st1 x H1 m1 _ e1 hr1 rx h1 => ⟨m1, env, st1, hr1, (er.mono e0 hr.nt).mono e1 hr0.nt, h1.bind (e0.trans e1) fun dy st2 y H2 m2 _ e2 hr2 ry h2 => ?_⟩⟩
      obtain ⟨k1, n1⟩ := (e1.trans e2).keep p _ upd_same np
      split at h2
      · rename_i kb
        obtain ⟨kx, ek, tx, ex⟩ := keyK_of kb (RD.mono e2 hr1.nt _ _ rx)
        refine ⟨k1, [(kx, y)], by subst ex; rfl, by show 1 ≤ 15; decide, ?_⟩
        obtain ⟨m3, e3, hr3, r3, hl3, u, hu3⟩ := hr.cut ((e0.trans e1).trans e2) hr2 (ds := [dx, dy]) (vs := [x, y]) ⟨x, [y], rfl, RD.mono e2 hr1.nt _ _ rx, y, [], rfl, ry, rfl⟩
        have n3 : p ∉ m3 := fun z => n1 (by rw [hu3]; exact List.mem_append_left _ z)
        have hr4 := hr3.sideO (o := .dK [(kx, y)]) k1 .dK n3
        obtain ⟨x', _, e4, rx3, y', _, e5, ry3, e6⟩ := r3
        cases e4; cases e5
        have hr5 := hr4.adoptO (D := p) (c := .dct false [(dx, dy)]) (o := .dK [(kx, y)]) upd_same .dK n3 (.inl ⟨rfl, [(kx, y)], upd_same, .cons ⟨ek, tx, up_app.1 _ _ (RD.sideO k1 .dK _ _ ry3)⟩ .nil⟩)
        refine h2 (.ref p) _ (m3 ++ [p]) ⟨?_, fun a o ha na => ?_⟩ hr5 ⟨p, rfl, ?_⟩
        · obtain ⟨t, et⟩ := e3.pre
          exact ⟨t ++ [p], by rw [et, List.append_assoc]⟩
        · have ne : a ≠ p := fun z => by rw [z, hp] at ha; cases ha
          obtain ⟨a1, a2⟩ := e3.keep a o ha na
          exact ⟨by rw [upd_ne ne]; exact a1, by simp [a2, ne]⟩
        · rw [← hl3]; simp
      · exact h2.elim
  | true =>
    exact PE.imp (pe_disp1T (by omega) hk hv) fun σ H Q ⟨m, env, st, hr, er, h⟩ p hp => by
      have e0 := Ext.fresh (m := m) (o := .dT []) hp
      have hr0 := hr.fresh (o := .dT []) hp
      have np : p ∉ m := fun z => hr.nt.ne hp z rfl
      refine ⟨m, env, st, hr0, er.mono e0 hr.nt, h.bind e0 fun dx st1 x H1 m1 _ e1 hr1 rx h1 => ⟨m1, env, st1, hr1, (er.mono e0 hr.nt).mono e1 hr0.nt, h1.bind (e0.trans e1) fun dy st2 y H2 m2 _ e2 hr2 ry h2 => ?_⟩⟩
      obtain ⟨k1, n1⟩ := (e1.trans e2).keep p _ upd_same np
      split at h2
      · rename_i kb
        obtain ⟨ds, ks, b, e7, ek, tx, ex, eb⟩ := keyT_of kb (RD.mono e2 hr1.nt _ _ rx)
        refine ⟨k1, b, ks, ex, eb, ?_⟩
        obtain ⟨m3, e3, hr3, r3, hl3, u, hu3⟩ := hr.cut ((e0.trans e1).trans e2) hr2 (ds := [dx, dy]) (vs := [x, y]) ⟨x, [y], rfl, RD.mono e2 hr1.nt _ _ rx, y, [], rfl, ry, rfl⟩
        have n3 : p ∉ m3 := fun z => n1 (by rw [hu3]; exact List.mem_append_left _ z)
        have hr4 := hr3.sideO (o := .dT [(ks, y)]) k1 .dT n3
        obtain ⟨x', _, e4, rx3, y', _, e5, ry3, e6⟩ := r3
        cases e4; cases e5
        have hr5 := hr4.adoptO (D := p) (c := .dct true [(dx, dy)]) (o := .dT [(ks, y)]) upd_same .dT n3 (.inr ⟨rfl, [(ks, y)], upd_same, .cons ⟨⟨ds, e7, ek, tx⟩, up_app.1 _ _ (RD.sideO k1 .dT _ _ ry3)⟩ .nil⟩)
        refine h2 (.ref p) _ (m3 ++ [p]) ⟨?_, fun a o ha na => ?_⟩ hr5 ⟨p, rfl, ?_⟩
        · obtain ⟨t, et⟩ := e3.pre
          exact ⟨t ++ [p], by rw [et, List.append_assoc]⟩
        · have ne : a ≠ p := fun z => by rw [z, hp] at ha; cases ha
          obtain ⟨a1, a2⟩ := e3.keep a o ha na
          exact ⟨by rw [upd_ne ne]; exact a1, by simp [a2, ne]⟩
        · rw [← hl3]; simp
      · exact h2.elim
/-- {'a': 'b', ..}[e] -/
def selT (kvs : List (S × S)) : List (TE × TE) := kvs.map fun p => (tC (.str (mkS p.1)), tC (.str (mkS p.2)))
theorem selT_run {σ : St} {H : Hp} {Q : List (V × V) → Hp → Prop} : ∀ {kvs : List (S × S)}, Q (kvs.map fun p => (.str (mkS p.1), .str (mkS p.2))) H → tPairs (selT kvs) σ H Q
  | [], h => h
  | p :: r, h => selT_run (kvs := r) h
theorem merge_nodup : ∀ {more acc : List (Key × V)}, (acc ++ more).Pairwise (fun a b => a.1 ≠ b.1) → mergeK acc more = acc ++ more
  | [], acc, _ => by simp [mergeK]
  | p :: r, acc, h => by
    have e : putK acc p.1 p.2 = acc ++ [p] := putK_new _ (by
      cases q : valV acc p.1 with
      | none => rfl
      | some v =>
        have q2 := valV_any p.1 acc
        rw [q] at q2
        obtain ⟨z, hz, e⟩ := List.any_eq_true.mp q2
        exact ((List.pairwise_append.mp h).2.2 z hz p (by simp) (of_decide_eq_true e)).elim)
    show mergeK (putK acc p.1 p.2) r = _
    rw [e, merge_nodup (by simpa using h)]
    simp
theorem val_sel {z : S} : ∀ {kvs : List (S × S)}, valV (kvs.map fun p => ((Sum.inr (mkS p.1) : Key), V.str (mkS p.2))) (.inr (mkS z)) = ((kvs.find? fun p => decide (p.1 = z)).map fun p => V.str (mkS p.2))
  | [] => rfl
  | p :: r => by
    rw [List.map_cons, List.find?_cons]
    by_cases c : p.1 = z
    · rw [valV_pos (by rw [c]), decide_eq_true c]; rfl
    · rw [valV_neg (fun q => c (mkS_inj (Sum.inr.inj q))), decide_eq_false c]
      exact val_sel
theorem le_sel {keys : List (Option Expr)} {values : List Expr} {kvs : List (S × S)} {a : Expr} {fa : F} {pos pos2 : Pos} (hu : X.A.units + 100 < cLine) (hP : PPs X pos keys values (selT kvs)) (hall : keys.all (·.isSome) = true) (hl : keys.length = values.length) (h0 : keys ≠ []) (h15 : keys.length ≤ 15) (hk : kvs.length ≤ 15)
    (hn : (kvs.map (·.1)).Nodup) (ht : ∀ p ∈ kvs, TxtOk p.2) (ha : PE X a (LE X.K N fa W)) (hs : PlainIx a) :
    PE X (.Subscript (.Dict keys values pos) a pos2) (LE X.K N (fun env st => (fa env st).bind fun x st1 => match x with
      | .str z => R.of ((kvs.find? fun p => decide (p.1 = z)).map fun p => .str p.2) st1
      | _ => .stuck) W) :=
  PE.imp (pe_dget (by omega) (pe_disp hP hall hl h0 h15) ha hs) fun σ H Q ⟨m, env, st, hr, er, h⟩ p hp => by
    refine selT_run ⟨upd_same, kvs.map fun p => (Sum.inr (mkS p.1), V.str (mkS p.2)), by rw [List.map_map]; rfl, by rw [List.length_map]; exact hk, ?_⟩
    have up2 : upd (upd H p (.dK [])) p (.dK (mergeK [] (kvs.map fun p => (Sum.inr (mkS p.1), V.str (mkS p.2))))) = upd H p (.dK (kvs.map fun p => (Sum.inr (mkS p.1), V.str (mkS p.2)))) := by
      rw [merge_nodup (by
        rw [List.nil_append, List.pairwise_map]
        exact (List.pairwise_map.mp hn).imp fun ne q => ne (mkS_inj (Sum.inr.inj q))), List.nil_append]
      funext b
      unfold upd
      split <;> rfl
    rw [up2]
    have e0 := Ext.fresh (m := m) (o := .dK (kvs.map fun p => (Sum.inr (mkS p.1), V.str (mkS p.2)))) hp
    have hr0 := hr.fresh (o := .dK (kvs.map fun p => (Sum.inr (mkS p.1), V.str (mkS p.2)))) hp
    have np : p ∉ m := fun z => hr.nt.ne hp z rfl
    refine ⟨m, env, st, hr0, er.mono e0 hr.nt, h.bind e0 fun dx st1 x H1 m1 _ e1 hr1 rx h1 => ?_⟩
    obtain ⟨k1, n1⟩ := e1.keep p _ upd_same np
    cases dx with
    | str z =>
      obtain ⟨d, ed, h2⟩ := Pst.of h1
      obtain ⟨q, eq, e9⟩ := Option.map_eq_some_iff.mp ed
      subst e9
      refine ⟨p, .str (mkS q.2), rfl, ?_, h2 _ H1 m1 (e0.trans e1) hr1 ⟨rfl, ht q (List.mem_of_find?_eq_some eq)⟩⟩
      have g := DGet.k (k := Sum.inr (mkS z)) k1
      rw [val_sel, eq] at g
      rw [rx.1]
      exact g
    | _ => exact h1.elim
end
end Dk
/-! Dk9: targets, comprehensions, attributes, methods, new instances. -/
namespace Dk
open PySem PySem.Spec PyProof.Rows L2
section
variable {K : PySem.W.Frag} {N : Nm} {X : Cx} {W : WX}
/-! ### targets: names, names in a row -/
def gTs : T → TGs
  | .nil => gNil
  | .cons (.var i) r => gCons (gName i) (gTs r)
  | _ => fun _ _ _ _ => False
def gT (K : PySem.W.Frag) : T → TG
  | .var i => gName i
  | .tup ts => gTup K (lenT ts) (gTs ts)
  | _ => fun _ _ _ _ => False
def slotsTs : T → List Nat
  | .cons (.var i) r => i :: slotsTs r
  | _ => []
def slotsT : T → List Nat
  | .var i => [i]
  | .tup ts => slotsTs ts
  | _ => []
theorem Env.get_set_eq {env : Env} {i : Nat} {d : D} (h : i < env.length) : Env.get (env.set i (some d)) i = some d := by
  unfold Env.get
  rw [List.getElem?_set_self h]; rfl
theorem Env.get_set_ne {env : Env} {i j : Nat} {o : Option D} (h : i ≠ j) : Env.get (env.set i o) j = env.get j := by
  unfold Env.get
  rw [List.getElem?_set_ne h]
theorem ER.set {m : List Addr} {H : Hp} {σ : St} {env : Env} {d : D} {v : V} {i : Nat} (h : ER K N m H σ env) (hi : i < env.length) (r : RD K N m H d v) : ER K N m H (σ.set i (some v)) (env.set i (some d)) := by
  refine ⟨by simp [h.1], fun j e g => ?_⟩
  by_cases hj : i = j
  · subst hj
    rw [Env.get_set_eq hi] at g
    cases g
    exact ⟨v, by rw [List.getElem?_set_self (by rw [h.1]; exact hi)], r⟩
  · rw [Env.get_set_ne hj] at g
    obtain ⟨w, a, b⟩ := h.2 j e g
    exact ⟨w, by rw [List.getElem?_set_ne hj]; exact a, b⟩
theorem ER.unset {m : List Addr} {H : Hp} {σ : St} {env : Env} {i : Nat} (h : ER K N m H σ env) : ER K N m H (σ.set i none) (env.set i none) := by
  refine ⟨by simp [h.1], fun j e g => ?_⟩
  by_cases hj : i = j
  · subst hj
    unfold Env.get at g
    by_cases hi : i < env.length
    · rw [List.getElem?_set_self hi] at g; cases g
    · rw [List.getElem?_eq_none (by simpa using hi)] at g; cases g
  · rw [Env.get_set_ne hj] at g
    obtain ⟨w, a, b⟩ := h.2 j e g
    exact ⟨w, by rw [List.getElem?_set_ne hj]; exact a, b⟩
theorem ER.wipe {m : List Addr} {H : Hp} {σ : St} {env : Env} (h : ER K N m H σ env) : ∀ vs : List Nat, ER K N m H (L2.wipe σ vs) (Dk.wipe env vs)
  | [] => h
  | v :: vs => (ER.wipe h vs).unset
theorem wipe_set {σ : St} {i : Nat} {x : Option V} : ∀ {vs : List Nat}, i ∈ vs → L2.wipe (σ.set i x) vs = L2.wipe σ vs
  | v :: vs, h => by
    unfold L2.wipe
    by_cases e : i ∈ vs
    · rw [wipe_set e]
    · have ev : i = v := by
        rcases List.mem_cons.mp h with z | z
        · exact z
        · exact absurd z e
      subst ev
      have out : ∀ {vs : List Nat}, i ∉ vs → L2.wipe (σ.set i x) vs = (L2.wipe σ vs).set i x := by
        intro vs
        induction vs with
        | nil => intro _; rfl
        | cons w vs ih =>
          intro hn
          unfold L2.wipe
          rw [ih (fun z => hn (List.mem_cons_of_mem _ z)), List.set_comm _ _ (fun z => hn (by rw [z]; exact List.mem_cons_self))]
      rw [out e, List.set_set]
theorem wipe_wipe {σ : St} : ∀ {vs ws : List Nat}, (∀ i ∈ vs, i ∈ ws) → L2.wipe (L2.wipe σ vs) ws = L2.wipe σ ws
  | [], ws, _ => rfl
  | v :: vs, ws, h => by
    show L2.wipe ((L2.wipe σ vs).set v none) ws = _
    rw [wipe_set (h v List.mem_cons_self), wipe_wipe fun i hi => h i (List.mem_cons_of_mem _ hi)]
theorem gTs_ok {m : List Addr} {H : Hp} {st : Store} : ∀ {ts : T} {ds : List D} {env env' : Env} {σ : St} {vs : List V} {Q : St → Hp → Prop}, bindV.bindVs ts ds env = some env' → RDs K N m H ds vs → ER K N m H σ env →
    (∀ σ', ER K N m H σ' env' → (∀ ws, (∀ i ∈ slotsTs ts, i ∈ ws) → L2.wipe σ' ws = L2.wipe σ ws) → Q σ' H) → gTs ts vs σ H Q
  | .nil, [], env, env', σ, vs, Q, h, r, er, k => by
    have h : some env = some env' := h
    cases h
    exact ⟨r, k σ er fun _ _ => rfl⟩
  | .cons (.var i) t, d :: ds, env, env', σ, vs, Q, h, r, er, k => by
    obtain ⟨v, vr, rfl, r1, r2⟩ := r
    have h : (if i < env.length then bindV.bindVs t ds (env.set i (some d)) else none) = some env' := h
    split at h
    · rename_i hi
      refine ⟨v, vr, rfl, ?_⟩
      show gTs t vr (σ.set i (some v)) H Q
      exact gTs_ok (st := st) h r2 (er.set hi r1) fun σ' er' kw => k σ' er' fun ws hw => by
        rw [kw ws fun j hj => hw j (List.mem_cons_of_mem _ hj), wipe_set (hw i List.mem_cons_self)]
    · cases h
  | .nil, _ :: _, _, _, _, _, _, h, _, _, _ => by cases h
  | .cons a t, [], _, _, _, _, _, h, _, _, _ => by cases a <;> cases h
  | .cons (.nil) _, _ :: _, _, _, _, _, _, h, _, _, _ | .cons (.cons ..) _, _ :: _, _, _, _, _, _, h, _, _, _ | .cons (.con ..) _, _ :: _, _, _, _, _, _, h, _, _, _ | .cons (.bin ..) _, _ :: _, _, _, _, _, _, h, _, _, _
  | .cons (.neg ..) _, _ :: _, _, _, _, _, _, h, _, _, _ | .cons (.not ..) _, _ :: _, _, _, _, _, _, h, _, _, _ | .cons (.and ..) _, _ :: _, _, _, _, _, _, h, _, _, _ | .cons (.or ..) _, _ :: _, _, _, _, _, _, h, _, _, _
  | .cons (.cmp ..) _, _ :: _, _, _, _, _, _, h, _, _, _ | .cons (.chn ..) _, _ :: _, _, _, _, _, _, h, _, _, _ | .cons (.call ..) _, _ :: _, _, _, _, _, _, h, _, _, _ | .cons (.blt ..) _, _ :: _, _, _, _, _, _, h, _, _, _
  | .cons (.isi ..) _, _ :: _, _, _, _, _, _, h, _, _, _ | .cons (.mth ..) _, _ :: _, _, _, _, _, _, h, _, _, _ | .cons (.omt ..) _, _ :: _, _, _, _, _, _, h, _, _, _ | .cons (.new ..) _, _ :: _, _, _, _, _, _, h, _, _, _
  | .cons (.att ..) _, _ :: _, _, _, _, _, _, h, _, _, _ | .cons (.idx ..) _, _ :: _, _, _, _, _, _, h, _, _, _ | .cons (.slc ..) _, _ :: _, _, _, _, _, _, h, _, _, _ | .cons (.tup ..) _, _ :: _, _, _, _, _, _, h, _, _, _
  | .cons (.lst ..) _, _ :: _, _, _, _, _, _, h, _, _, _ | .cons (.ite ..) _, _ :: _, _, _, _, _, _, h, _, _, _ | .cons (.lc ..) _, _ :: _, _, _, _, _, _, h, _, _, _ | .cons (.rng ..) _, _ :: _, _, _, _, _, _, h, _, _, _
  | .cons (.rev ..) _, _ :: _, _, _, _, _, _, h, _, _, _ | .cons (.asg ..) _, _ :: _, _, _, _, _, _, h, _, _, _ | .cons (.aug ..) _, _ :: _, _, _, _, _, _, h, _, _, _ | .cons (.exp ..) _, _ :: _, _, _, _, _, _, h, _, _, _
  | .cons (.ret ..) _, _ :: _, _, _, _, _, _, h, _, _, _ | .cons .retn _, _ :: _, _, _, _, _, _, h, _, _, _ | .cons .pas _, _ :: _, _, _, _, _, _, h, _, _, _ | .cons .brk _, _ :: _, _, _, _, _, _, h, _, _, _
  | .cons (.iff ..) _, _ :: _, _, _, _, _, _, h, _, _, _ | .cons (.for ..) _, _ :: _, _, _, _, _, _, h, _, _, _ | .cons (.whl ..) _, _ :: _, _, _, _, _, _, h, _, _, _ | .cons (.rse ..) _, _ :: _, _, _, _, _, _, h, _, _, _
  | .cons (.try ..) _, _ :: _, _, _, _, _, _, h, _, _, _ | .cons (.hdl ..) _, _ :: _, _, _, _, _, _, h, _, _, _ => by cases h
  | .var _, _, _, _, _, _, _, h, _, _, _ | .con _, _, _, _, _, _, _, h, _, _, _ | .bin .., _, _, _, _, _, _, h, _, _, _ | .neg _, _, _, _, _, _, _, h, _, _, _ | .not _, _, _, _, _, _, _, h, _, _, _ | .and .., _, _, _, _, _, _, h, _, _, _ | .or .., _, _, _, _, _, _, h, _, _, _
  | .cmp .., _, _, _, _, _, _, h, _, _, _ | .chn .., _, _, _, _, _, _, h, _, _, _ | .call .., _, _, _, _, _, _, h, _, _, _ | .blt .., _, _, _, _, _, _, h, _, _, _ | .isi .., _, _, _, _, _, _, h, _, _, _ | .mth .., _, _, _, _, _, _, h, _, _, _ | .omt .., _, _, _, _, _, _, h, _, _, _
  | .new .., _, _, _, _, _, _, h, _, _, _ | .att .., _, _, _, _, _, _, h, _, _, _ | .idx .., _, _, _, _, _, _, h, _, _, _ | .slc .., _, _, _, _, _, _, h, _, _, _ | .tup _, _, _, _, _, _, _, h, _, _, _ | .lst _, _, _, _, _, _, _, h, _, _, _ | .ite .., _, _, _, _, _, _, h, _, _, _
  | .lc .., _, _, _, _, _, _, h, _, _, _ | .rng .., _, _, _, _, _, _, h, _, _, _ | .rev .., _, _, _, _, _, _, h, _, _, _ | .asg .., _, _, _, _, _, _, h, _, _, _ | .aug .., _, _, _, _, _, _, h, _, _, _ | .exp .., _, _, _, _, _, _, h, _, _, _ | .ret .., _, _, _, _, _, _, h, _, _, _
  | .retn, _, _, _, _, _, _, h, _, _, _ | .pas, _, _, _, _, _, _, h, _, _, _ | .brk, _, _, _, _, _, _, h, _, _, _ | .iff .., _, _, _, _, _, _, h, _, _, _ | .for .., _, _, _, _, _, _, h, _, _, _ | .whl .., _, _, _, _, _, _, h, _, _, _ | .rse .., _, _, _, _, _, _, h, _, _, _
  | .try .., _, _, _, _, _, _, h, _, _, _ | .hdl .., _, _, _, _, _, _, h, _, _, _ => by cases h
theorem bindVs_len : ∀ {ts : T} {ds : List D} {env env' : Env}, bindV.bindVs ts ds env = some env' → ds.length = lenT ts := by
  intro ts
  induction ts with
  | nil => intro ds env env' h; cases ds with
    | nil => rfl
    | cons _ _ => cases h
  | cons a r _ ih =>
    intro ds env env' h
    cases ds with
    | nil => cases a <;> cases h
    | cons d ds =>
      cases a with
      | var i =>
        have h : (if i < env.length then bindV.bindVs r ds (env.set i (some d)) else none) = some env' := h
        split at h
        · rw [List.length_cons, ih h]; rfl
        · cases h
      | _ => cases h
  | _ => intro ds env env' h; cases h
theorem gT_ok {m : List Addr} {H : Hp} {st : Store} {t : T} {d : D} {env env' : Env} {σ : St} {v : V} {Q : St → Hp → Prop} (h : bindV t d env = some env') (r : RD K N m H d v) (er : ER K N m H σ env)
    (k : ∀ σ', ER K N m H σ' env' → (∀ ws, (∀ i ∈ slotsT t, i ∈ ws) → L2.wipe σ' ws = L2.wipe σ ws) → Q σ' H) : gT K t v σ H Q := by
  cases t with
  | var i =>
    have h : (if i < env.length then some (env.set i (some d)) else none) = some env' := h
    split at h
    · rename_i hi
      cases h
      exact k _ (er.set hi r) fun ws hw => wipe_set (hw i (List.mem_singleton.mpr rfl))
    · cases h
  | tup ts =>
    cases d with
    | tup ds =>
      have h : bindV.bindVs ts ds env = some env' := h
      obtain ⟨a, vs, ev, s1, q1⟩ := r
      exact ⟨a, vs, ev, SqT.of s1, by rw [← q1.len]; exact bindVs_len h, gTs_ok (st := st) h q1 er k⟩
    | _ => cases h
  | _ => cases h
end
end Dk
/-! Dk10: comprehensions. -/
namespace Dk
open PySem PySem.Spec PyProof.Rows L2
section
variable {K : PySem.W.Frag} {N : Nm} {X : Cx} {W : WX}
/-- no error -/
abbrev W0 : WX := fun _ _ _ _ => False
/-- a comprehension's test -/
def LTt (K : PySem.W.Frag) (N : Nm) (f : Env → Store → R Bool) : TT := fun σ H Q => ∃ m env st, HR K N m H st ∧ ER K N m H σ env ∧ Pst K N (fun _ _ (a b : Bool) => a = b) m H (f env st) Q fun _ _ _ => False
/-- one turn -/
noncomputable def lcF (own : List Nat) (tg : T) (fc : Env → Store → R Bool) (fe : F) (env : Env) (x : D) (st2 : Store) : R (Option D) := match bindV tg x (wipe env own) with
  | some env2 => ((fc env2 st2).bind fun k st3 => if k = true then (fe env2 st3).bind fun d st4 => .ok (some d) st4 else .ok none st3).nox
  | none => .stuck
noncomputable def lcE (own : List Nat) (tg : T) (fi : Env → Store → R (List D × Option (Nat × List D))) (fc : Env → Store → R Bool) (fe : F) : F := fun env st =>
  (fi env st).bind fun w st1 => (lcL w.2 (lcF own tg fc fe env) w.1 [] st1).bind fun xs st2 => newL st xs st2
theorem lc_read {own : List Nat} {tg : T} {fi : Env → Store → R (List D × Option (Nat × List D))} {fc : Env → Store → R Bool} {fe : F} (hown : ∀ i ∈ slotsT tg, i ∈ own) {σ : St} {H : Hp} {Q : VK} (h : LE K N (lcE own tg fi fc fe) W σ H Q) :
    tLc (LI K N fi W) (gT K tg) (LTt K N fc) (LE K N fe W0) own σ H Q := by
  obtain ⟨m0, env, st0, hr0, er0, h⟩ := h
  refine ⟨m0, env, st0, hr0, er0, h.bind Ext.refl fun w st1 J H1 m1 _ e1 hr1 wj h1 => ?_⟩
  intro D hD
  have nD1 : D ∉ m1 := fun z => by
    obtain ⟨o, q, _⟩ := hr1.nt D z
    rw [hD] at q; cases q
  have er1 := er0.mono e1 hr0.nt
  -- the state between the turns
  refine ⟨fun i k H' => k = w.1.length - i ∧ i ≤ w.1.length ∧ ∃ m st acc accV, Ext m1 H1 m H' ∧ HR K N m H' st ∧ H' D = some (.lst accV) ∧ D ∉ m ∧ RDs K N m H' acc accV ∧
    Pst K N (RD K N) m0 H ((lcL w.2 (lcF own tg fc fe env) (w.1.drop i) acc st).bind fun xs st2 => newL st0 xs st2) Q (fun c d H' => W c d σ H'), ⟨w.1.length, rfl, Nat.zero_le _, m1, st1, [], [], Ext.fresh hD, hr1.fresh hD, upd_same, nD1, rfl, by simpa using h1⟩, ?_⟩
  rintro i k H' ⟨rfl, hi, m, st, acc, accV, e, hr, hDl, nD, rs, hp⟩
  by_cases hlt : i < w.1.length
  · -- a turn
    refine .inr ?_
    have hx : w.1[i]? = some w.1[i] := List.getElem?_eq_getElem hlt
    rw [List.drop_eq_getElem_cons hlt] at hp
    by_cases ok : srcOk w.2 st
    · rw [lcL_cons ok] at hp
      obtain ⟨g1, g2⟩ := wj.go m H' st i _ e hr ok hx
      refine ⟨g1, fun H'' => ∃ k', k' < w.1.length - i ∧ (fun i k H' => k = w.1.length - i ∧ i ≤ w.1.length ∧ ∃ m st acc accV, Ext m1 H1 m H' ∧ HR K N m H' st ∧ H' D = some (.lst accV) ∧ D ∉ m ∧ RDs K N m H' acc accV ∧
        Pst K N (RD K N) m0 H ((lcL w.2 (lcF own tg fc fe env) (w.1.drop i) acc st).bind fun xs st2 => newL st0 xs st2) Q (fun c d H' => W c d σ H')) (i + 1) k' H'', fun _ z => z, fun x Hx y => ?_⟩
      obtain ⟨ex, rx⟩ := g2 x Hx y
      subst ex
      cases hb : bindV tg w.1[i] (wipe env own) with
      | none =>
        have hn : lcF own tg fc fe env w.1[i] st = .stuck := by unfold lcF; rw [hb]
        rw [hn] at hp
        exact hp.elim
      | some env2 =>
        have hF : lcF own tg fc fe env w.1[i] st = ((fc env2 st).bind fun k st3 => if k = true then (fe env2 st3).bind fun d st4 => .ok (some d) st4 else .ok none st3).nox := by unfold lcF; rw [hb]
        rw [hF] at hp
        refine gT_ok (st := st) hb rx ((er1.mono e hr1.nt).wipe own) fun σ2 er2 kw => ⟨?_, ?_⟩
        · rw [kw own hown, wipe_wipe fun _ z => z]
        · refine ⟨m, env2, st, hr, er2, ?_⟩
          cases hc : fc env2 st with
          | stuck => rw [hc] at hp; exact hp.elim
          | exc c fs st3 => rw [hc] at hp; exact hp.elim
          | ok k st3 =>
            rw [hc] at hp
            intro b H3 m3 e3 hr3 eb
            subst eb
            have D3 := e3.keep D _ hDl nD
            cases k with
            | true =>
              rw [if_pos rfl]
              refine ⟨m3, env2, st3, hr3, er2.mono e3 hr.nt, ?_⟩
              cases he : fe env2 st3 with
              | stuck => simp only [R.bind_ok, if_true, he] at hp; exact hp.elim
              | exc c fs st4 => simp only [R.bind_ok, if_true, he] at hp; exact hp.elim
              | ok d st4 =>
                intro v H4 m4 e4 hr4 rv
                have D4 := e4.keep D _ D3.1 D3.2
                have hp2 : Pst K N (RD K N) m0 H (((if acc.length < sizeLine then lcL w.2 (lcF own tg fc fe env) (w.1.drop (i + 1)) (acc ++ [d]) st4 else .stuck)).bind fun xs st2 => newL st0 xs st2) Q (fun c d H' => W c d σ H') := by
                  simp only [R.bind_ok, if_true, he, R.nox_ok] at hp
                  exact hp
                split at hp2
                · rename_i hz
                  have r4 := RDs.mono e4 hr3.nt _ _ (RDs.mono e3 hr.nt _ _ rs)
                  refine ⟨accV, D4.1, by rw [← rs.len]; exact hz, w.1.length - (i + 1), by omega, rfl, hlt, m4, st4, acc ++ [d], accV ++ [v], ?_, hr4.side D4.1 D4.2, upd_same, D4.2, RDs.side D4.1 _ _ (r4.append (RDs.one rv)), hp2⟩
                  have e5 := (e.trans e3).trans e4
                  exact ⟨e5.pre, fun a o ha na => by
                    have := e5.keep a o ha na
                    refine ⟨?_, this.2⟩
                    rw [upd_ne (fun z => by rw [z, hD] at ha; cases ha)]
                    exact this.1⟩
                · exact hp2.elim
            | false =>
              rw [if_neg Bool.false_ne_true]
              simp only [R.bind_ok, if_false, Bool.false_eq_true, R.nox_ok] at hp
              exact ⟨w.1.length - (i + 1), by omega, rfl, hlt, m3, st3, acc, accV, e.trans e3, hr3, D3.1, D3.2, RDs.mono e3 hr.nt _ _ rs, hp⟩
    · rw [lcL_no ok] at hp
      exact hp.elim
  · -- the end
    have hi2 : i = w.1.length := by omega
    subst hi2
    refine .inl ?_
    rw [List.drop_length] at hp
    by_cases ok : srcOk w.2 st
    · rw [lcL_nil ok] at hp
      refine ⟨wj.stop m H' st e hr ok, ?_⟩
      have hp : Pst K N (RD K N) m0 H (newL st0 acc st) Q _ := hp
      unfold newL at hp
      split at hp
      · have e0 : Ext m0 H m H' := e1.trans e
        obtain ⟨m2, e2, hr2, r2, hl, t, ht⟩ := hr0.cut e0 hr rs
        have nD2 : D ∉ m2 := fun z => nD (by rw [ht]; exact List.mem_append_left _ z)
        obtain ⟨a1, a2⟩ := hr2.adopt hDl nD2 r2
        refine hp (.ref D) H' (m2 ++ [D]) ⟨?_, fun a o ha na => ?_⟩ a1 ⟨D, rfl, ?_⟩
        · obtain ⟨u, hu⟩ := e2.pre
          exact ⟨u ++ [D], by rw [hu, List.append_assoc]⟩
        · obtain ⟨k1, k2⟩ := e2.keep a o ha na
          refine ⟨k1, ?_⟩
          have : a ≠ D := fun z => by
            have := (e1.keep a o ha na).1
            rw [z, hD] at this; cases this
          simp [k2, this]
        · rw [← hr2.len]; simp
      · exact hp.elim
    · rw [lcL_no ok] at hp
      exact hp.elim
/-! ### two clauses -/
/-- m grows, what is not named by m stands, but lists -/
structure ExtL (m : List Addr) (H : Hp) (m' : List Addr) (H' : Hp) : Prop where
  pre : ∃ t, m' = m ++ t
  keep : ∀ a o, H a = some o → a ∉ m → (∀ xs, o ≠ .lst xs) → H' a = some o ∧ a ∉ m'
variable {m m' m1 m2 : List Addr} {H H' H1 H2 : Hp}
theorem ExtL.refl : ExtL m H m H := ⟨⟨[], by simp⟩, fun _ _ e n _ => ⟨e, n⟩⟩
theorem ExtL.then (a : ExtL m H m1 H1) (b : Ext m1 H1 m2 H2) : ExtL m H m2 H2 := by
  obtain ⟨t, e⟩ := a.pre
  obtain ⟨u, e'⟩ := b.pre
  exact ⟨⟨t ++ u, by rw [e', e, List.append_assoc]⟩, fun x o hx n l => (a.keep x o hx n l).elim fun p q => b.keep x o p q⟩
theorem ExtL.get (a : ExtL m H m1 H1) {i : Nat} {x : Addr} (h : m[i]? = some x) : m1[i]? = some x := by
  obtain ⟨t, e⟩ := a.pre
  rw [e, List.getElem?_append_left (List.getElem?_eq_some_iff.mp h).1]
  exact h
mutual
theorem RD.monoL (e : ExtL m H m1 H1) (nt : NT m H) : ∀ (d : D) (v : V), RD K N m H d v → RD K N m1 H1 d v
  | .non, v, h => h
  | .bl _, v, h => h
  | .int _, v, h => h
  | .str _, v, h => h
  | .tup ds, v, h => by
    obtain ⟨a, vs, e1, s, r⟩ := h
    exact ⟨a, vs, e1, (e.keep a _ s (nt.tup (.inl s)) (fun _ z => nomatch z)).1, RDs.monoL e nt ds vs r⟩
  | .loc n, v, h => by
    obtain ⟨a, e1, g⟩ := h
    exact ⟨a, e1, e.get g⟩
  | .fn _, v, h => h
  | .scr ns, v, h => by
    obtain ⟨a, e1, s⟩ := h
    exact ⟨a, e1, s.elim (fun ⟨o, z⟩ => .inl ⟨o, (e.keep a _ z (nt.frz z) (fun _ z => nomatch z)).1⟩) .inr⟩
theorem RDs.monoL (e : ExtL m H m1 H1) (nt : NT m H) : ∀ (ds : List D) (vs : List V), RDs K N m H ds vs → RDs K N m1 H1 ds vs
  | [], vs, h => h
  | d :: ds, vs, h => by
    obtain ⟨v, r, e1, h1, h2⟩ := h
    exact ⟨v, r, e1, RD.monoL e nt d v h1, RDs.monoL e nt ds r h2⟩
end
theorem ER.monoL {σ : St} {env : Env} (e : ExtL m H m1 H1) (nt : NT m H) (h : ER K N m H σ env) : ER K N m1 H1 σ env := ⟨h.1, fun i d g => by
  obtain ⟨v, a, b⟩ := h.2 i d g
  exact ⟨v, a, RD.monoL e nt d v b⟩⟩
/-- the iterator J gives xs, whatever lists change -/
structure WalkT (K : PySem.W.Frag) (N : Nm) (m : List Addr) (H : Hp) (xs : List D) (J : It) : Prop where
  go : ∀ m' H' i d, ExtL m H m' H' → xs[i]? = some d → J.go i H' ∧ ∀ x H'', J.yld i H' x H'' → H'' = H' ∧ RD K N m' H' d x
  stop : ∀ m' H', ExtL m H m' H' → J.stop xs.length H'
def LT (K : PySem.W.Frag) (N : Nm) (f : Env → Store → R (List D)) : TI := fun σ H Q => ∃ m env st, HR K N m H st ∧ ER K N m H σ env ∧ Pst K N (WalkT K N) m H (f env st) Q fun _ _ _ => False
noncomputable def lcF1 (vs : List Nat) (tg1 : T) (fe : F) (env2 : Env) (y : D) (st4 : Store) : R (Option D) := match bindV tg1 y (wipe env2 vs) with
  | some env3 => ((fe env3 st4).bind fun d st5 => .ok (some d) st5).nox
  | none => .stuck
noncomputable def lcF2 (own vs : List Nat) (tg tg1 : T) (ft : Env → Store → R (List D)) (fe : F) (env : Env) (x : D) (acc : List D) (st2 : Store) : R (List D) := match bindV tg x (wipe env own) with
  | some env2 => ((ft env2 st2).bind fun ys st3 => lcL none (lcF1 vs tg1 fe env2) ys acc st3).nox
  | none => .stuck
noncomputable def lcE2 (own vs : List Nat) (tg tg1 : T) (fi : Env → Store → R (List D × Option (Nat × List D))) (ft : Env → Store → R (List D)) (fe : F) : F := fun env st =>
  (fi env st).bind fun w st1 => (lcL2 w.2 (lcF2 own vs tg tg1 ft fe env) w.1 [] st1).bind fun xs st2 => newL st xs st2
theorem lc2_read {own vs : List Nat} {tg tg1 : T} {fi : Env → Store → R (List D × Option (Nat × List D))} {ft : Env → Store → R (List D)} {fe : F} (hown : ∀ i ∈ slotsT tg, i ∈ own) (hown1 : ∀ i ∈ slotsT tg1, i ∈ vs) {σ : St} {H : Hp} {Q : VK} (h : LE K N (lcE2 own vs tg tg1 fi ft fe) W σ H Q) :
    tLc2 (LI K N fi W) (gT K tg) (LTt K N fun _ st => .ok true st) (LT K N ft) (gT K tg1) (LTt K N fun _ st => .ok true st) (LE K N fe W0) own vs σ H Q := by
  obtain ⟨m0, env, st0, hr0, er0, h⟩ := h
  refine ⟨m0, env, st0, hr0, er0, h.bind Ext.refl fun w st1 J H1 m1 _ e1 hr1 wj h1 => ?_⟩
  intro D hD
  have nD1 : D ∉ m1 := fun z => by
    obtain ⟨o, q, _⟩ := hr1.nt D z
    rw [hD] at q; cases q
  have er1 := er0.mono e1 hr0.nt
  refine ⟨fun i k H' => k = w.1.length - i ∧ i ≤ w.1.length ∧ ∃ m st acc accV, Ext m1 H1 m H' ∧ HR K N m H' st ∧ H' D = some (.lst accV) ∧ D ∉ m ∧ RDs K N m H' acc accV ∧
    Pst K N (RD K N) m0 H ((lcL2 w.2 (lcF2 own vs tg tg1 ft fe env) (w.1.drop i) acc st).bind fun xs st2 => newL st0 xs st2) Q (fun c d H' => W c d σ H'), ⟨w.1.length, rfl, Nat.zero_le _, m1, st1, [], [], Ext.fresh hD, hr1.fresh hD, upd_same, nD1, rfl, by simpa using h1⟩, ?_⟩
  rintro i k H' ⟨rfl, hi, m, st, acc, accV, e, hr, hDl, nD, rs, hp⟩
  by_cases hlt : i < w.1.length
  · refine .inr ?_
    have hx : w.1[i]? = some w.1[i] := List.getElem?_eq_getElem hlt
    rw [List.drop_eq_getElem_cons hlt] at hp
    by_cases ok : srcOk w.2 st
    · rw [lcL2_cons ok] at hp
      obtain ⟨g1, g2⟩ := wj.go m H' st i _ e hr ok hx
      refine ⟨g1, fun H'' => ∃ k', k' < w.1.length - i ∧ (fun i k H' => k = w.1.length - i ∧ i ≤ w.1.length ∧ ∃ m st acc accV, Ext m1 H1 m H' ∧ HR K N m H' st ∧ H' D = some (.lst accV) ∧ D ∉ m ∧ RDs K N m H' acc accV ∧
        Pst K N (RD K N) m0 H ((lcL2 w.2 (lcF2 own vs tg tg1 ft fe env) (w.1.drop i) acc st).bind fun xs st2 => newL st0 xs st2) Q (fun c d H' => W c d σ H')) (i + 1) k' H'', fun _ z => z, fun x Hx y => ?_⟩
      obtain ⟨ex, rx⟩ := g2 x Hx y
      subst ex
      cases hb : bindV tg w.1[i] (wipe env own) with
      | none =>
        have hn : lcF2 own vs tg tg1 ft fe env w.1[i] acc st = .stuck := by unfold lcF2; rw [hb]
        rw [hn] at hp
        exact hp.elim
      | some env2 =>
        have hF : lcF2 own vs tg tg1 ft fe env w.1[i] acc st = ((ft env2 st).bind fun ys st3 => lcL none (lcF1 vs tg1 fe env2) ys acc st3).nox := by unfold lcF2; rw [hb]
        rw [hF] at hp
        refine gT_ok (st := st) hb rx ((er1.mono e hr1.nt).wipe own) fun σ2 er2 kw => ⟨?_, ?_⟩
        · rw [kw own hown, wipe_wipe fun _ z => z]
        · refine ⟨m, env2, st, hr, er2, ?_⟩
          intro b H3 m3 e3 hr3 eb
          subst eb
          rw [if_pos rfl]
          have D3 := e3.keep D _ hDl nD
          refine ⟨m3, env2, st, hr3, er2.mono e3 hr.nt, ?_⟩
          cases ht : ft env2 st with
          | stuck => rw [ht] at hp; exact hp.elim
          | exc c fs st3 => rw [ht] at hp; exact hp.elim
          | ok ys st3 =>
            rw [ht] at hp
            intro J1 H4 m4 e4 hr4 wt
            have D4 := e4.keep D _ D3.1 D3.2
            have er4 := (er2.mono e3 hr.nt).mono e4 hr3.nt
            have rs4 := RDs.mono e4 hr3.nt _ _ (RDs.mono e3 hr.nt _ _ rs)
            replace hp : Pst K N (RD K N) m0 H (((lcL none (lcF1 vs tg1 fe env2) ys acc st3).nox.bind fun acc' st' => lcL2 w.2 (lcF2 own vs tg tg1 ft fe env) (w.1.drop (i + 1)) acc' st').bind fun xs st2 => newL st0 xs st2) Q (fun c d H' => W c d σ H') := hp
            refine ⟨fun j k H' => k = ys.length - j ∧ j ≤ ys.length ∧ ∃ m st acc accV, ExtL m4 H4 m H' ∧ Ext m1 H1 m H' ∧ HR K N m H' st ∧ H' D = some (.lst accV) ∧ D ∉ m ∧ RDs K N m H' acc accV ∧
              Pst K N (RD K N) m0 H (((lcL none (lcF1 vs tg1 fe env2) (ys.drop j) acc st).nox.bind fun acc' st' => lcL2 w.2 (lcF2 own vs tg tg1 ft fe env) (w.1.drop (i + 1)) acc' st').bind fun xs st2 => newL st0 xs st2) Q (fun c d H' => W c d σ H'),
              ⟨ys.length, rfl, Nat.zero_le _, m4, st3, acc, accV, ExtL.refl, (e.trans e3).trans e4, hr4, D4.1, D4.2, rs4, by simpa using hp⟩, ?_⟩
            rintro j k H5 ⟨rfl, hj, m5, st5, acc5, accV5, el, e5, hr5, hD5, nD5, rs5, hp5⟩
            by_cases hjl : j < ys.length
            · refine .inr ?_
              have hy : ys[j]? = some ys[j] := List.getElem?_eq_getElem hjl
              rw [List.drop_eq_getElem_cons hjl, lcL_cons (src := none) trivial] at hp5
              obtain ⟨g3, g4⟩ := wt.go m5 H5 j _ el hy
              refine ⟨g3, fun H'' => ∃ k', k' < ys.length - j ∧ (fun j k H' => k = ys.length - j ∧ j ≤ ys.length ∧ ∃ m st acc accV, ExtL m4 H4 m H' ∧ Ext m1 H1 m H' ∧ HR K N m H' st ∧ H' D = some (.lst accV) ∧ D ∉ m ∧ RDs K N m H' acc accV ∧
                Pst K N (RD K N) m0 H (((lcL none (lcF1 vs tg1 fe env2) (ys.drop j) acc st).nox.bind fun acc' st' => lcL2 w.2 (lcF2 own vs tg tg1 ft fe env) (w.1.drop (i + 1)) acc' st').bind fun xs st2 => newL st0 xs st2) Q (fun c d H' => W c d σ H')) (j + 1) k' H'', fun _ z => z, fun y Hy yy => ?_⟩
              obtain ⟨ey, ry⟩ := g4 y Hy yy
              subst ey
              cases hb1 : bindV tg1 ys[j] (wipe env2 vs) with
              | none =>
                have hn : lcF1 vs tg1 fe env2 ys[j] st5 = .stuck := by unfold lcF1; rw [hb1]
                rw [hn] at hp5
                exact hp5.elim
              | some env3 =>
                have hF1 : lcF1 vs tg1 fe env2 ys[j] st5 = ((fe env3 st5).bind fun d st5 => .ok (some d) st5).nox := by unfold lcF1; rw [hb1]
                rw [hF1] at hp5
                refine gT_ok (st := st5) hb1 ry ((er4.monoL el hr4.nt).wipe vs) fun σ3 er3 kw3 => ⟨?_, ?_⟩
                · rw [kw3 vs hown1, wipe_wipe fun _ z => z]
                · refine ⟨m5, env3, st5, hr5, er3, ?_⟩
                  intro b H6 m6 e6 hr6 eb
                  subst eb
                  rw [if_pos rfl]
                  have D6 := e6.keep D _ hD5 nD5
                  refine ⟨m6, env3, st5, hr6, er3.mono e6 hr5.nt, ?_⟩
                  cases he : fe env3 st5 with
                  | stuck => rw [he] at hp5; exact hp5.elim
                  | exc c fs st7 => rw [he] at hp5; exact hp5.elim
                  | ok d st7 =>
                    rw [he] at hp5
                    intro v H7 m7 e7 hr7 rv
                    have D7 := e7.keep D _ D6.1 D6.2
                    replace hp5 : Pst K N (RD K N) m0 H (((if acc5.length < sizeLine then lcL none (lcF1 vs tg1 fe env2) (ys.drop (j + 1)) (acc5 ++ [d]) st7 else .stuck : R (List Dk.D)).nox.bind fun acc' st' => lcL2 w.2 (lcF2 own vs tg tg1 ft fe env) (w.1.drop (i + 1)) acc' st').bind fun xs st2 => newL st0 xs st2) Q (fun c d H' => W c d σ H') := hp5
                    split at hp5
                    · rename_i hz
                      have r7 := RDs.mono e7 hr6.nt _ _ (RDs.mono e6 hr5.nt _ _ rs5)
                      have e8 := (e5.trans e6).trans e7
                      have el8 := (el.then e6).then e7
                      refine ⟨accV5, D7.1, by rw [← rs5.len]; exact hz, ys.length - (j + 1), by omega, rfl, hjl, m7, st7, acc5 ++ [d], accV5 ++ [v], ?_, ?_, hr7.side D7.1 D7.2, upd_same, D7.2, RDs.side D7.1 _ _ (r7.append (RDs.one rv)), hp5⟩
                      · exact ⟨el8.pre, fun a o ha na l => by
                          have := el8.keep a o ha na l
                          refine ⟨?_, this.2⟩
                          rw [upd_ne (fun z => by rw [z, D4.1] at ha; cases ha; exact l _ rfl)]
                          exact this.1⟩
                      · exact ⟨e8.pre, fun a o ha na => by
                          have := e8.keep a o ha na
                          refine ⟨?_, this.2⟩
                          rw [upd_ne (fun z => by rw [z, hD] at ha; cases ha)]
                          exact this.1⟩
                    · exact hp5.elim
            · have hj2 : j = ys.length := by omega
              subst hj2
              refine .inl ⟨wt.stop m5 H5 el, ?_⟩
              rw [List.drop_length, lcL_nil (src := none) trivial] at hp5
              exact ⟨w.1.length - (i + 1), by omega, rfl, hlt, m5, st5, acc5, accV5, e5, hr5, hD5, nD5, rs5, hp5⟩
    · rw [lcL2_no ok] at hp
      exact hp.elim
  · have hi2 : i = w.1.length := by omega
    subst hi2
    refine .inl ?_
    rw [List.drop_length] at hp
    by_cases ok : srcOk w.2 st
    · rw [lcL2_nil ok] at hp
      refine ⟨wj.stop m H' st e hr ok, ?_⟩
      have hp : Pst K N (RD K N) m0 H (newL st0 acc st) Q _ := hp
      unfold newL at hp
      split at hp
      · have e0 : Ext m0 H m H' := e1.trans e
        obtain ⟨m2, e2, hr2, r2, hl, t, ht⟩ := hr0.cut e0 hr rs
        have nD2 : D ∉ m2 := fun z => nD (by rw [ht]; exact List.mem_append_left _ z)
        obtain ⟨a1, a2⟩ := hr2.adopt hDl nD2 r2
        refine hp (.ref D) H' (m2 ++ [D]) ⟨?_, fun a o ha na => ?_⟩ a1 ⟨D, rfl, ?_⟩
        · obtain ⟨u, hu⟩ := e2.pre
          exact ⟨u ++ [D], by rw [hu, List.append_assoc]⟩
        · obtain ⟨k1, k2⟩ := e2.keep a o ha na
          refine ⟨k1, ?_⟩
          have : a ≠ D := fun z => by
            have := (e1.keep a o ha na).1
            rw [z, hD] at this; cases this
          simp [k2, this]
        · rw [← hr2.len]; simp
      · exact hp.elim
    · rw [lcL2_no ok] at hp
      exact hp.elim
/-! what a second clause walks -/
theorem pit_tup {tg e : Expr} {fa : F} (ha : PE X e (LE X.K N fa W0)) : PI X tg e (LT X.K N (fun env st => (fa env st).bind fun x st1 => match x with
    | .tup xs => .ok xs st1
    | _ => .stuck)) :=
  PI.imp (pi_tup ha) fun σ H R ⟨m, env, st, hr, er, h⟩ => ⟨m, env, st, hr, er, h.bind Ext.refl fun dx st1 v H1 m1 _ e1 hr1 r1 h => by
    cases dx with
    | tup xs =>
      obtain ⟨a, vs, ev, s0, q1⟩ := r1
      refine ⟨a, ev, ⟨vs, SqT.of s0⟩, h _ H1 m1 e1 hr1 ⟨fun m' H' i d e hd => ?_, fun m' H' e => ?_⟩⟩
      · have s2 : SqT X.K H' a vs := SqT.of (e.keep a _ s0 (hr1.nt.tup (.inl s0)) (fun _ z => nomatch z)).1
        obtain ⟨w, hw, rw_⟩ := (RDs.monoL e hr1.nt _ _ q1).get hd
        exact ⟨⟨vs, w, s2, hw⟩, fun x H'' ⟨e1, e2⟩ => ⟨e1, by
          have := e2 vs s2
          rw [hw] at this; cases this
          exact rw_⟩⟩
      · have s2 : SqT X.K H' a vs := SqT.of (e.keep a _ s0 (hr1.nt.tup (.inl s0)) (fun _ z => nomatch z)).1
        exact ⟨vs, s2, Nat.le_of_eq q1.len.symm⟩
    | _ => exact h.elim⟩
theorem walkT_rng {m : List Addr} {H : Hp} (lo : Int) (n : Nat) : WalkT K N m H (rangeD lo n) (Itr lo n) where
  go := fun m' H' i d e hd => by
    unfold rangeD at hd
    rw [List.getElem?_map] at hd
    have hi : i < n := by
      cases q : (List.range n)[i]? with
      | none => rw [q] at hd; cases hd
      | some c => simpa using (List.getElem?_eq_some_iff.mp q).1
    rw [List.getElem?_range hi] at hd
    cases hd
    exact ⟨hi, fun x H'' ⟨e1, e2⟩ => ⟨e1, e2⟩⟩
  stop := fun m' H' e => by
    show n ≤ (rangeD lo n).length
    simp [rangeD]
theorem pit_rng1 {tg a : Expr} {fa : F} {f : Env → Store → R (List D)} {p pos : Pos} (hg : Gl X "range") (hm : X.mg "range" = none) (hs : noStar a = true) (ha : PE X a (LE X.K N fa W0))
    (hf : ∀ env st, f env st = (fa env st).bind fun d st1 => R.of ((argI d).map fun j => rangeD 0 j.toNat) st1) : PI X tg (.Call (.Name "range" p) [a] [] pos) (LT X.K N f) :=
  PI.imp (pi_range1 hg hm (pa_cons ha pa_nil (star_eq hs [] X.env)) (star_eq hs [] X.env)) fun σ H R ⟨m, env, st, hr, er, h⟩ => ⟨m, env, st, hr, er, by
    rw [hf] at h
    exact h.bind Ext.refl fun d st1 v H1 m1 _ e1 hr1 r1 h => by
      obtain ⟨w, ew, h'⟩ := h.of
      cases q : argI d with
      | none => rw [q] at ew; cases ew
      | some j =>
        rw [q] at ew; cases ew
        obtain ⟨ed, q1, q2⟩ := argI_of q
        subst ed
        exact ⟨j, by rw [show v = .int j from r1], q1, q2, h' _ H1 m1 e1 hr1 (walkT_rng 0 j.toNat)⟩⟩
theorem pit_rng2 {tg a b : Expr} {fa fb : F} {f : Env → Store → R (List D)} {p pos : Pos} (hg : Gl X "range") (hm : X.mg "range" = none) (hs : noStar a = true) (hs2 : noStar b = true) (ha : PE X a (LE X.K N fa W0)) (hb : PE X b (LE X.K N fb W0))
    (hf : ∀ env st, f env st = (fa env st).bind fun d st1 => (fb env st1).bind fun d2 st2 => R.of ((argI d).bind fun i => (argI d2).map fun j => rangeD i (j - i).toNat) st2) : PI X tg (.Call (.Name "range" p) [a, b] [] pos) (LT X.K N f) :=
  PI.imp (pi_range2 hg hm (pa_cons ha (pa_cons hb pa_nil (star_eq hs2 [] X.env)) (star_eq hs [b] X.env)) (by rw [star_eq hs, star_eq hs2]; rfl) (by rw [star_eq hs2]; rfl)) fun σ H R ⟨m, env, st, hr, er, h⟩ => ⟨m, env, st, hr, er, by
    rw [hf] at h
    exact h.bind Ext.refl fun d st1 v H1 m1 _ e1 hr1 r1 h => ⟨m1, env, st1, hr1, er.mono e1 hr.nt, h.bind e1 fun d2 st2 v2 H2 m2 _ e2 hr2 r2 h => by
      obtain ⟨w, ew, h'⟩ := h.of
      cases q : argI d with
      | none => rw [q] at ew; cases ew
      | some i =>
        cases q' : argI d2 with
        | none => rw [q, q'] at ew; cases ew
        | some j =>
          rw [q, q'] at ew; cases ew
          obtain ⟨ed, q1, q2⟩ := argI_of q
          obtain ⟨ed', q3, q4⟩ := argI_of q'
          subst ed; subst ed'
          exact ⟨i, j, by rw [show v = .int i from r1, show v2 = .int j from r2], ⟨q1, q2, q3, q4⟩, h' _ H2 m2 (e1.trans e2) hr2 (walkT_rng i (j - i).toNat)⟩⟩⟩
end
end Dk
/-! Dk11: attributes, isinstance. -/
namespace Dk
open PySem PySem.Spec PyProof.Rows L2
/-- what the written part says of the classes; nf: how many field names -/
structure NmF (K : PySem.W.Frag) (N : Nm) (nf : Nat) (sub : Nat → Nat → Bool) : Prop where
  inj : ∀ i j, N.fld i = N.fld j → i = j
  xf : ∀ c, N.isExn c = true → XfC K (N.clA c)
  xc : ∀ c, N.isExn c = true → PySem.W.findIn K (.ref (N.clA c)) "__class__" = some (some (.builtin "object.__class__"))
  xm : ∀ c, N.isExn c = true → PySem.W.mroIn K (N.clA c) (.type "object") = some true
  xn : ∀ c f, N.isExn c = true → f < nf → PySem.W.findIn K (.ref (N.clA c)) (N.fld f) = some none
  xs : ∀ c k, N.isExn c = true → N.isExn k = true → PySem.W.kitOne K (.ref (N.clA c)) (.ref (N.clA k)) = some (sub c k)
  xt : ∀ c, N.isExn c = true → PySem.W.typeIn K (.ref (N.clA c)) = some (.type "type")
  xq : ∀ c k, N.isExn c = true → N.isExn k = true → PySem.W.subIn K (.ref (N.clA c)) (.ref (N.clA k)) = some (sub c k)
  xv : ∀ c, N.isExn c = true → PySem.W.kitOne K (.ref (N.clA c)) (.type "ValueError") = some true
  ic : ∀ c, N.isIns c = true → Cls K (N.clA c)
  ia : ∀ c f, N.isIns c = true → f < nf → NoAttr K (N.clA c) (N.fld f)
  gs : PySem.W.specialIn K (.builtin "object.__class__") "__get__" = some (some (.builtin "getset_descriptor.__get__"))
  gt : PySem.W.takesIn K (.builtin "object.__class__") = some true
section
variable {K : PySem.W.Frag} {N : Nm} {X : Cx} {W : WX} {nf : Nat} {sub : Nat → Nat → Bool}
theorem lookF_lookup {m : List Addr} {H : Hp} (inj : ∀ i j, N.fld i = N.fld j → i = j) {f : Nat} {d : D} : ∀ {fs : List (Nat × D)} {vs : List (Str × V)}, RF K N m H fs vs → lookF f fs = some d → ∃ v, vs.lookup (N.fld f) = some v ∧ RD K N m H d v
  | _, _, .nil, h => by cases h
  | _, _, .cons (a := p) (b := q) ⟨e, r⟩ t, h => by
    obtain ⟨qs, qv⟩ := q
    dsimp only at e r
    unfold lookF at h
    split at h
    · rename_i c
      cases h
      exact ⟨qv, by rw [e, c]; simp, r⟩
    · rename_i c
      obtain ⟨v, a, b⟩ := lookF_lookup inj t h
      refine ⟨v, ?_, b⟩
      rw [List.lookup_cons, show (N.fld f == qs) = false from by
        rw [e]
        exact beq_false_of_ne fun z => c (inj _ _ z).symm]
      exact a
theorem le_att {e : Expr} {fe : F} {f : Nat} {pos : Pos} (F : NmF X.K N nf sub) (hf : f < nf) (he : PE X e (LE X.K N fe W)) (hb : noSuper e = true) :
    PE X (.Attribute e (N.fld f) pos) (LE X.K N (fun env st => (fe env st).bind fun x st1 => R.of (attD st1 f x) st1) W) := by
  refine ⟨fun pins s σ H Q I ⟨m, env, st, hr, er, h⟩ => ?_⟩
  refine attr_of (base_eq hb _ _ _) (thn (he.run pins s σ H (fun x H1 => ∃ m1 st1 d dv, Ext m H m1 H1 ∧ HR X.K N m1 H1 st1 ∧ RD X.K N m1 H1 d x ∧ attD st1 f d = some dv ∧ Pst X.K N (RD X.K N) m1 H1 (.ok dv st1) Q fun c d H' => W c d σ H') I
    ⟨m, env, st, hr, er, h.bind Ext.refl fun dx st1 x H1 m1 _ e1 hr1 rx h1 => ?_⟩) fun u s1 ⟨x, H1, I1, rx, m1, st1, d, dv, e1, hr1, rd, ha, q⟩ => ?_)
  · obtain ⟨d, ed, h1⟩ := h1.of
    exact ⟨m1, st1, dx, d, e1, hr1, rx, ed, h1.ext e1⟩
  · cases d with
    | loc n =>
      obtain ⟨a, ev, ga⟩ := rd
      subst ev
      obtain rfl : u = Value.ref a := rx
      unfold attD at ha
      dsimp only at ha
      cases hc : st1[n]? with
      | none => rw [hc] at ha; cases ha
      | some c =>
        rw [hc] at ha
        have rc := hr1.at_ n c a hc ga
        cases c with
        | lst _ => cases ha
        | dct _ _ => cases ha
        | ins c fs =>
          obtain ⟨z, dx, vs, hH, rf⟩ := rc
          obtain ⟨v, lv, rv⟩ := lookF_lookup F.inj rf (show lookF f fs = some dv from ha)
          exact getattr_ok I1 hH (F.ic c z) (F.ia c f z hf) lv fun u s' I' ru => ⟨v, H1, I', ru, q v H1 m1 Ext.refl hr1 rv⟩
        | exn c fs =>
          obtain ⟨z, oe, dd, vs, fv, hH, hcl, hdi, hda, hxd, nd, rf⟩ := rc
          obtain ⟨v, lv, rv⟩ := lookF_lookup F.inj rf (show lookF f fs = some dv from ha)
          have T := F.xf c z
          have hx : ObjOk X.prog X.w H1 s1.heap dd (.xd vs) := I1.hok dd _ hxd
          obtain ⟨mA, hns, hrel⟩ := hx
          obtain ⟨od, ho, hl⟩ := lookIn_ns hns
          obtain ⟨u, hu, ru⟩ := RelO.some_of (v := v) (o := mA (N.fld f)) (by rw [← lv]; exact hrel (N.fld f))
          have hE : ObjOk X.prog X.w H1 s1.heap a (ExO oe a) := I1.hok a _ hH
          have J : PySem.W.InstAt s1.heap a oe (N.clA c) (some od) := ⟨hE.1, hcl, by unfold PySem.W.notCls; rw [hda] <;> rfl, by rw [hdi]; exact ho⟩
          exact HandSPX.exc_get I1.kIn J T.ga T.gg T.exC (PySem.W.findObj_own T.hdC (F.xn c f z hf) rfl (by rw [hl, hu])) (handed_of ru) ⟨v, H1, I1.tok _, ru, q v H1 m1 Ext.refl hr1 rv⟩
    | _ => cases ha

/-! ### methods of own classes, instances made -/
/-- a call of a method, whatever the receiver is made of -/
theorem own_late {prog : Program} {w : World} {A : Around} {E : Value → Shared → Prop} {s : Shared} {env : PySem.Env} {o : Expr} {nm : Str} {ap cp : Pos} {xs : List Expr} {R : Value → Shared → Prop}
    (hA : attributeBase o nm env (eval o env) = eval o env) (hF : methodCallForm (xs.length + ([] : List Keyword).length) (backTo cp (starEach xs env)) (backToKw cp (keywordEach [] env)) = true) (hL : (ap.endLine == cp.line) = true)
    (q : wpAny (model prog w) A (eval o env) (fun ov s₁ => ∀ pl, wpAny (model prog w) A (getMethod ov nm pl) (fun fx s₂ => wpAny (model prog w) A (callWith cp fx.1 fx.2 (backTo cp (starEach xs env)) (backToKw cp (keywordEach [] env))) R E s₂) E s₁) E s) :
    wpAny (model prog w) A (eval (.Call (.Attribute o nm ap) xs [] cp) env) R E s := by
  rw [arm_eval_Call, hA]
  have at_ : methodCallPos true o env ap cp = pure cp := by
    unfold methodCallPos
    simp [hL]
  refine wpAny_bind (wpAny_mono q (fun _ _ q1 => wpAny_bind (wpAny_standAt ?_)) fun _ _ z => z)
  unfold methodCall
  rw [hF]
  exact wpAny_bind (wpAny_holding (wpAny_mono (q1 _) (fun _ _ q2 => wpAny_bind (wpAny_of_eq at_ q2)) fun _ _ z => z))
/-- what the written part says of methods -/
structure OmtF (K : PySem.W.Frag) (N : Nm) (mtN : Nat → Str) (nm : Nat) (mt : Nat → Nat → Option Nat) : Prop where
  fn : ∀ m i, m < nm → N.fld i ≠ mtN m
  at_ : ∀ c m f, m < nm → N.isIns c = true → mt c m = some f → Meth K (N.clA c) (mtN m) (N.fnA f)
theorem RF.no {m : List Addr} {H : Hp} {x : Str} (hx : ∀ i, N.fld i ≠ x) : ∀ {fs : List (Nat × D)} {vs : List (Str × V)}, RF K N m H fs vs → vs.lookup x = none
  | _, _, .nil => rfl
  | _, _, .cons (a := p) (b := q) ⟨e, _⟩ t => by
    obtain ⟨qs, qv⟩ := q
    dsimp only at e
    rw [List.lookup_cons, show (x == qs) = false from by
      rw [e]
      exact beq_false_of_ne fun z => hx _ z.symm]
    exact RF.no hx t
/-- o.m(..) of data -/
noncomputable def omtF (mt : Nat → Nat → Option Nat) (fn : Nat → List D → Store → R D) (m : Nat) (fo : F) (fa : FA) : F := fun env st => (fo env st).bind fun x st1 => match x with
    | .loc n => match st1[n]? with
      | some (.ins c fs) => match mt c m with
        | some f => (fa env st1).bind fun ds st2 => fn f (.loc n :: ds) st2
        | none => .stuck
      | _ => .stuck
    | _ => .stuck
theorem omt_open {mt : Nat → Nat → Option Nat} {fn : Nat → List D → Store → R D} {mm : Nat} {fo : F} {fa : FA} {σ : St} {H : Hp} {Q : VK} {m : List Addr} {env : Env} {st : Store} (hr : HR X.K N m H st) (er : ER X.K N m H σ env)
    (h : Pst X.K N (RD X.K N) m H (omtF mt fn mm fo fa env st) Q fun c d H' => W c d σ H') :
    LE X.K N fo W σ H fun x H1 => ∃ m1 st1 n c fs f, Ext m H m1 H1 ∧ HR X.K N m1 H1 st1 ∧ RD X.K N m1 H1 (.loc n) x ∧ st1[n]? = some (.ins c fs) ∧ mt c mm = some f ∧ Pst X.K N (RD X.K N) m1 H1 ((fa env st1).bind fun ds st2 => fn f (.loc n :: ds) st2) Q fun c d H' => W c d σ H' := by
  refine ⟨m, env, st, hr, er, h.bind Ext.refl fun dx st1 x H1 m1 _ e1 hr1 rx h1 => ?_⟩
  cases dx with
  | loc n =>
    dsimp only at h1
    split at h1
    · rename_i c fs hc
      split at h1
      · rename_i f hf
        exact ⟨m1, st1, n, c, fs, f, e1, hr1, rx, hc, hf, h1.ext e1⟩
      · exact h1.elim
    · exact h1.elim
  | _ => exact h1.elim
theorem le_omt {nm : Nat} {mtN : Nat → Str} {mt : Nat → Nat → Option Nat} {fn : Nat → List D → Store → R D} {o e : Expr} {es : List Expr} {fo : F} {fa : FA} {apos pos : Pos} {mm : Nat} (F : NmF X.K N nf sub) (O : OmtF X.K N mtN nm mt) (hm : mm < nm) (ho : PE X o (LE X.K N fo W)) (ha : PA X (e :: es) (LA X.K N fa W))
    (hc : ∀ f, CallP N (fn f) X W (N.fnA f)) (hb : noSuper o = true) (hes : (e :: es).all noStar = true) (hlen : (e :: es).length < 30) (hline : (apos.endLine == pos.line) = true) :
    PE X (.Call (.Attribute o (mtN mm) apos) (e :: es) [] pos) (LE X.K N (omtF mt fn mm fo fa) W) := by
  have hall := star_all X.env pos hes
  rw [List.all_cons] at hes
  obtain ⟨h1, h2⟩ := Bool.and_eq_true_iff.mp hes
  refine ⟨fun pins s σ H Q I ⟨m, env, st, hr, er, h⟩ => ?_⟩
  refine own_late (base_eq hb _ _ _) ?_ hline (thn (ho.run pins s σ H _ I (omt_open hr er h)) fun u s1 ⟨x, H1, I1, rx, m1, st1, n, c, fs, f, e1, hr1, rd, hc1, hmt, q⟩ pl => ?_)
  · have z : ((backTo pos (starEach (e :: es) X.env)).all (fun x => !x.1) && true && decide ((e :: es).length + 0 + 0 < 30)) = true := by
      rw [hall, decide_eq_true (by simpa using hlen)]; rfl
    exact z
  · obtain ⟨a, ev, ga⟩ := rd
    subst ev
    obtain rfl : u = Value.ref a := rx
    obtain ⟨z, dx, vs, hH, rf⟩ := hr1.at_ n _ a hc1 ga
    have M := O.at_ c mm f hm z hmt
    refine getmeth_ok I1 hH (F.ic c z) M (RF.no (fun i => O.fn mm i hm) rf) ?_
    refine PySem.W.callWith_K (first := [.ref a]) (h₀ := X.base) I1.ok.mod.kin M.kp (thn (ha.run pos pins s1 σ H1 (fun vs H2 => SpR X.K N (fn f) (fun c d H' => W c d σ H') (.ref a :: vs) H2 Q) I1 ⟨m1, env, st1, hr1, er.mono e1 hr.nt, q.bind Ext.refl fun ds st2 vs H2 m2 _ e2 hr2 rs h2 => ⟨m2, .loc n :: ds, st2, hr2, ⟨.ref a, vs, rfl, ⟨a, rfl, e2.get ga⟩, rs⟩, h2.ext e2⟩⟩) fun us s2 ⟨vs, H2, I2, r, q2⟩ => ⟨I2.kIn, ?_⟩) (star_eq h1 es X.env) (star_none X.env pos h2)
    exact hc f pins s2 σ H2 Q (.ref a :: us) (.ref a :: vs) I2 (.cons rfl r) q2
theorem le_omt0 {nm : Nat} {mtN : Nat → Str} {mt : Nat → Nat → Option Nat} {fn : Nat → List D → Store → R D} {o : Expr} {fo : F} {apos pos : Pos} {mm : Nat} (F : NmF X.K N nf sub) (O : OmtF X.K N mtN nm mt) (hm : mm < nm) (ho : PE X o (LE X.K N fo W))
    (hc : ∀ f, CallP N (fn f) X W (N.fnA f)) (hb : noSuper o = true) (hline : (apos.endLine == pos.line) = true) :
    PE X (.Call (.Attribute o (mtN mm) apos) [] [] pos) (LE X.K N (omtF mt fn mm fo (fun _ st => .ok [] st)) W) := by
  refine ⟨fun pins s σ H Q I ⟨m, env, st, hr, er, h⟩ => ?_⟩
  refine own_late (base_eq hb _ _ _) rfl hline (thn (ho.run pins s σ H _ I (omt_open hr er h)) fun u s1 ⟨x, H1, I1, rx, m1, st1, n, c, fs, f, e1, hr1, rd, hc1, hmt, q⟩ pl => ?_)
  obtain ⟨a, ev, ga⟩ := rd
  subst ev
  obtain rfl : u = Value.ref a := rx
  obtain ⟨z, dx, vs, hH, rf⟩ := hr1.at_ n _ a hc1 ga
  have M := O.at_ c mm f hm z hmt
  refine getmeth_ok I1 hH (F.ic c z) M (RF.no (fun i => O.fn mm i hm) rf) ?_
  exact PySem.W.callWith_K0 (first := [.ref a]) I1.kIn M.kp (hc f pins s1 σ H1 Q [.ref a] [.ref a] I1 (.cons rfl .nil) ⟨m1, [.loc n], st1, hr1, ⟨.ref a, [], rfl, ⟨a, rfl, ga⟩, rfl⟩, q⟩)
/-- an instance made of data -/
noncomputable def newF (c : Nat) (g : List D → Store → R D) (ds : List D) (st : Store) : R D := (g (.loc st.length :: ds) (st ++ [.ins c []])).bind fun d st2 => match d with
    | .non => .ok (.loc st.length) st2
    | _ => .stuck
/-- the class c, called here -/
def MakP (N : Nm) (c : Nat) (g : List D → Store → R D) (X : Cx) (W : WX) : Prop := ∀ (pins : List (Addr × Obj)) (s : Shared) (σ : St) (H : Hp) (Q : VK) (us : List Value) (vs : List V),
  Inv X pins σ H s → Vals vs us → SpR X.K N (newF c g) (fun c d H' => W c d σ H') vs H Q → wpAny (model X.prog X.w) X.A (call (.ref (N.clA c)) us) (EP X pins σ Q) X.xe s
theorem le_new {x : Str} {p pos : Pos} {e : Expr} {es : List Expr} {fa : FA} {c : Nat} {g : List D → Store → R D} (hg : Gl X x) (hdb : (x == ("__debug__" : Str)) = false) (hm : X.mg x = some (.ref (N.clA c))) (hk : PySem.W.keepIn X.K (.ref (N.clA c)) = true)
    (hc : MakP N c g X W) (hes : (e :: es).all noStar = true) (ha : PA X (e :: es) (LA X.K N fa W)) :
    PE X (.Call (.Name x p) (e :: es) [] pos) (LE X.K N (fun env st => (fa env st).bind fun ds st1 => newF c g ds st1) W) := by
  refine ⟨fun pins s σ H Q I h => ?_⟩
  obtain ⟨m, env, st, hr, er, h⟩ := h
  refine wpAny_Call_Name_kw (ld_glob I hg hm ?_ hdb)
  have hA : LA X.K N fa W σ H (fun vs H1 => SpR X.K N (newF c g) (fun c d H' => W c d σ H') vs H1 Q) := ⟨m, env, st, hr, er, h.bind Ext.refl fun ds st1 vs H1 m1 _ e1 hr1 rs h1 => ⟨m1, ds, st1, hr1, rs, h1.ext e1⟩⟩
  rw [List.all_cons] at hes
  obtain ⟨h1, h2⟩ := Bool.and_eq_true_iff.mp hes
  exact PySem.W.callWith_K (h₀ := X.base) I.ok.mod.kin hk (thn (ha.run pos pins s σ H _ I hA) fun us s1 ⟨vs, H1, I1, r, q⟩ => ⟨I1.kIn, hc pins s1 σ H1 Q us vs I1 r q⟩) (star_eq h1 es X.env) (star_none X.env pos h2)
theorem le_new0 {x : Str} {p pos : Pos} {c : Nat} {g : List D → Store → R D} (hg : Gl X x) (hdb : (x == ("__debug__" : Str)) = false) (hm : X.mg x = some (.ref (N.clA c))) (hk : PySem.W.keepIn X.K (.ref (N.clA c)) = true)
    (hc : MakP N c g X W) : PE X (.Call (.Name x p) [] [] pos) (LE X.K N (fun env st => ((R.ok [] st : R (List D))).bind fun ds st1 => newF c g ds st1) W) := by
  refine ⟨fun pins s σ H Q I h => ?_⟩
  obtain ⟨m, env, st, hr, er, h⟩ := h
  refine wpAny_Call_Name_kw (ld_glob I hg hm ?_ hdb)
  exact PySem.W.callWith_K0 I.kIn hk (hc pins s σ H Q [] [] I .nil ⟨m, [], st, hr, rfl, h⟩)

/-! ### isinstance -/
def tyN : Ty → Option String
  | .bool => some "bool"
  | .int => some "int"
  | .str => some "str"
  | .tuple => some "tuple"
  | .list => some "list"
  | .valueError => some "ValueError"
  | .cls _ => none
/-- the class that a test names -/
def tyV (N : Nm) : Ty → Value
  | .cls c => .ref (N.clA c)
  | t => .type ((tyN t).getD "")
def tyW (N : Nm) : Ty → V
  | .cls c => .ref (N.clA c)
  | t => .ty ((tyN t).getD "")
def tyOk (N : Nm) : Ty → Bool
  | .cls c => N.isExn c
  | _ => true
theorem tyR {N : Nm} (t : Ty) : RelV (tyW N t) (tyV N t) := by cases t <;> rfl
theorem tyE {N : Nm} (t : Ty) : ClsV (tyW N t) (tyV N t) := by
  cases t <;> first | exact ClsV.ty _ | exact ClsV.own _
/-- isinstance(x, c) -/
def rIsD (K : PySem.W.Frag) (N : Nm) (cf : Cf) (t : Ty) : List V → Hp → VK → Prop := fun xs H Q => ∃ m st d x b, HR K N m H st ∧ RD K N m H d x ∧ xs = [x, tyW N t] ∧ isTy cf st t d = some b ∧ Q (.bl b) H
theorem isd_ok {cf : Cf} {t : Ty} (F : NmF X.K N nf cf.sub) (ht : tyOk N t = true) : CallR X (.builtin "isinstance") (rIsD X.K N cf t) := by
  intro pins s σ H xs us Q I r ⟨m, st, d, x, b, hr, rd, exs, hb, q⟩
  subst exs
  have base : ∀ {tv : Value}, TyX X.K H x tv → PySem.W.kitOne X.K tv (tyV N t) = some b → wpAny (model X.prog X.w) X.A (call (.builtin "isinstance") us) (EP X pins σ Q) X.xe s := fun {tv} ty hk =>
    call_isi pins s σ H _ us Q I r ⟨x, tyW N t, tv, tyV N t, b, rfl, tyE t, ty, hk, q⟩
  have seq : ∀ {a : Addr} {vs : List V}, SqT X.K H a vs → TyX X.K H (.ref a) (.type "tuple") := fun {a vs} sq => by
    rcases sq with (sq | ⟨o, sq⟩) | ⟨o, its, n, h1, h2, h3⟩
    · exact .base (.tup sq)
    · exact .fTuple sq
    · exact .kTuple h1 h2
  cases d with
  | non =>
    obtain rfl : x = .non := rd
    refine base (.base .non) ?_
    cases t <;> first | (cases hb; exact kit_ty (by decide +kernel)) | cases hb
  | bl k =>
    obtain rfl : x = .bl k := rd
    refine base (.base (.bl k)) ?_
    cases t <;> first | (cases hb; exact kit_ty (by decide +kernel)) | cases hb
  | int i =>
    obtain rfl : x = .int i := rd
    refine base (.base (.int i)) ?_
    cases t <;> first | (cases hb; exact kit_ty (by decide +kernel)) | cases hb
  | str z =>
    obtain rfl : x = .str (mkS z) := rd.1
    refine base (.base (.str _)) ?_
    cases t <;> first | (cases hb; exact kit_ty (by decide +kernel)) | cases hb
  | tup ds =>
    obtain ⟨a, vs, e1, sq, _⟩ := rd
    subst e1
    refine base (seq (SqT.of sq)) ?_
    cases t <;> first | (cases hb; exact kit_ty (by decide +kernel)) | cases hb
  | fn i => cases hb
  | scr _ => cases hb
  | loc n =>
    obtain ⟨a, ev, ga⟩ := rd
    subst ev
    unfold isTy at hb
    dsimp only at hb
    cases hc : st[n]? with
    | none => rw [hc] at hb; cases hb
    | some c =>
      rw [hc] at hb
      have rc := hr.at_ n c a hc ga
      cases c with
      | lst ds =>
        obtain ⟨vs, hH, _⟩ := rc
        refine base (.base (.lst hH)) ?_
        cases t <;> first | (cases hb; exact kit_ty (by decide +kernel)) | cases hb
      | dct _ _ => cases hb
      | ins _ _ => cases hb
      | exn c fs =>
        obtain ⟨z, oe, dd, vs, fv, hH, hcl, hdi, hda, hxd, nd, rf⟩ := rc
        have T := F.xf c z
        have hk : PySem.W.kitOne X.K (.ref (N.clA c)) (tyV N t) = some b := by
          cases t with
          | cls k => cases hb; exact F.xs c k z ht
          | valueError => cases hb; exact F.xv c z
          | _ => cases hb
        obtain ⟨u1, u2, eu, r1, r2⟩ := vals2 r
        subst eu
        obtain rfl : u1 = Value.ref a := r1
        have e2 := (tyE (N := N) t).eq r2
        subst e2
        have hx : ObjOk X.prog X.w H s.heap dd (.xd vs) := I.hok dd _ hxd
        obtain ⟨mA, hns, hrel⟩ := hx
        obtain ⟨od, ho, hl⟩ := lookIn_ns hns
        have hE : ObjOk X.prog X.w H s.heap a (ExO oe a) := I.hok a _ hH
        have J : PySem.W.InstAt s.heap a oe (N.clA c) (some od) := ⟨hE.1, hcl, by unfold PySem.W.notCls; rw [hda] <;> rfl, by rw [hdi]; exact ho⟩
        have hcs : (PySem.W.clsIn X.K (N.clA c)).isSome = true := by
          obtain ⟨cd, e, _⟩ := PySem.W.any_some T.hdC
          rw [e]; rfl
        exact PySem.W.kia_one (PySem.W.kitx_exc hcs T.ga T.gg T.exC (F.xc c z) F.gs F.gt (F.xm c z)) I.kIn J hk (fun z => nomatch z) fun tk => ⟨.bl b, H, I.tok tk, rfl, q⟩
/-- the class as an expression -/
theorem pe_ty {t : Ty} {e : Expr} (h : PE X e (tC (tyW N t))) {a : Expr} {fa : F} {cf : Cf} {p pos : Pos} (F : NmF X.K N nf cf.sub) (ht : tyOk N t = true) (ha : PE X a (LE X.K N fa W)) (h1 : noStar a = true) (h2 : noStar e = true) (hg : Gl X "isinstance") (hm : X.mg "isinstance" = none) :
    PE X (.Call (.Name "isinstance" p) [a, e] [] pos) (LE X.K N (fun env st => (fa env st).bind fun x st1 => R.of ((isTy cf st1 t x).map .bl) st1) W) := by
  have P := pe_callB (pos := pos) (p := p) (isd_ok (X := X) F ht) hg hm PyProof.Rows.Boot.«isinstance» (pa_cons ha (pa_cons h pa_nil (star_eq h2 [] X.env)) (star_eq h1 [e] X.env)) (by decide) (by decide) (star_eq h1 [e] X.env) (by rw [star_eq h2]; rfl)
  exact PE.imp P fun σ H Q ⟨m, env, st, hr, er, h⟩ => ⟨m, env, st, hr, er, h.bind Ext.refl fun dx st1 x H1 m1 _ e1 hr1 rx h1 => by
    obtain ⟨d, ed, h1⟩ := h1.of
    cases q : isTy cf st1 t dx with
    | none => rw [q] at ed; cases ed
    | some b =>
      rw [q] at ed; cases ed
      exact ⟨m1, st1, dx, x, b, hr1, rx, rfl, q, h1 _ H1 m1 e1 hr1 rfl⟩⟩
end
end Dk
/-! Dk12: statements, one construct at a time. -/
namespace Dk
open PySem PySem.Spec PyProof.Rows L2
/-- what is wanted behind a statement -/
def SPst (K : PySem.W.Frag) (N : Nm) (m : List Addr) (H : Hp) (r : RS) (D : Ends) (W : WX) : Prop := match r with
  | .ok (.nx env) st' => ∀ σ' H' m', Ext m H m' H' → HR K N m' H' st' → ER K N m' H' σ' env → D.nx σ' H'
  | .ok (.rt d) st' => ∀ v H' m', Ext m H m' H' → HR K N m' H' st' → RD K N m' H' d v → D.rt v H'
  | .ok (.bk env) st' => ∀ σ' H' m', Ext m H m' H' → HR K N m' H' st' → ER K N m' H' σ' env → D.bk σ' H'
  | .exc c fs env st' => ∀ dd σ' H' m', Ext m H m' H' → HR K N m' H' st' → ER K N m' H' σ' env → XD K N m' H' dd fs → W (.ref (N.clA c)) (some dd) σ' H'
  | .stuck => False
abbrev FS := Env → Store → RS
/-- the reading of a statement that tells data -/
def LS (K : PySem.W.Frag) (N : Nm) (f : FS) (W : WX) : TS := fun D σ H => ∃ m env st, HR K N m H st ∧ ER K N m H σ env ∧ SPst K N m H (f env st) D W
/-- the reading of a target -/
def LG (K : PySem.W.Frag) (N : Nm) (f : D → FS) (W : WX) : TG := fun v σ H Q => ∃ m env st d, HR K N m H st ∧ ER K N m H σ env ∧ RD K N m H d v ∧ SPst K N m H (f d env st) { nx := Q, rt := fun _ _ => True, bk := fun _ _ => True } W
def LGs (K : PySem.W.Frag) (N : Nm) (f : List D → FS) (W : WX) : TGs := fun vs σ H Q => ∃ m env st ds, HR K N m H st ∧ ER K N m H σ env ∧ RDs K N m H ds vs ∧ SPst K N m H (f ds env st) { nx := Q, rt := fun _ _ => True, bk := fun _ _ => True } W
section
variable {K : PySem.W.Frag} {N : Nm} {X : Cx} {W : WX} {m m0 m1 : List Addr} {H H0 H1 : Hp} {σ : St} {D : Ends} {st st0 : Store} {env : Env}
theorem SPst.ext {r : RS} (e : Ext m0 H0 m H) (h : SPst K N m0 H0 r D W) : SPst K N m H r D W := by
  cases r with
  | ok o st' =>
    cases o with
    | nx env' => exact fun σ' H' m' e' hr er => h σ' H' m' (e.trans e') hr er
    | rt d => exact fun v H' m' e' hr rd => h v H' m' (e.trans e') hr rd
    | bk env' => exact fun σ' H' m' e' hr er => h σ' H' m' (e.trans e') hr er
  | exc c fs env' st' => exact fun dd σ' H' m' e' hr er x => h dd σ' H' m' (e.trans e') hr er x
  | stuck => exact h
/-- an expression ahead of a statement's rest -/
theorem SPst.go {α β : Type} {rel : List Addr → Hp → α → β → Prop} {r : R α} {k : α → Store → RS} {Q : β → Hp → Prop} (h : SPst K N m0 H0 (r.go env k) D W) (e0 : Ext m0 H0 m H) (nt : NT m H) (er : ER K N m H σ env)
    (hk : ∀ a st' b H' m', r = .ok a st' → Ext m H m' H' → HR K N m' H' st' → rel m' H' a b → SPst K N m0 H0 (k a st') D W → Q b H') : Pst K N rel m H r Q (fun c d H' => W c d σ H') := by
  cases r with
  | ok a st' => exact fun b H' m' e' hr rl => hk a st' b H' m' rfl e' hr rl h
  | exc c fs st' => exact fun dd H' m' e' hr x => h dd σ H' m' (e0.trans e') hr (er.mono e' nt) x
  | stuck => exact h
theorem PS.imp {e : Stmt} {t t' : TS} (h : PS X e t) (k : ∀ D σ H, t' D σ H → t D σ H) : PS X e t' := ⟨fun pins s σ H D I q => h.run pins s σ H D I (k D σ H q)⟩
theorem PSs.imp {e : List Stmt} {t t' : TS} (h : PSs X e t) (k : ∀ D σ H, t' D σ H → t D σ H) : PSs X e t' := ⟨fun pins s σ H D I q => h.run pins s σ H D I (k D σ H q)⟩
theorem PG.imp {e : Expr} {t t' : TG} (h : PG X e t) (k : ∀ v σ H Q, t' v σ H Q → t v σ H Q) : PG X e t' := ⟨fun pins s σ H v u Q I r q => h.run pins s σ H v u Q I r (k v σ H Q q)⟩
theorem PGs.imp {e : List Expr} {t t' : TGs} (h : PGs X e t) (k : ∀ v σ H Q, t' v σ H Q → t v σ H Q) : PGs X e t' := ⟨fun pins s σ H v u Q I r q => h.run pins s σ H v u Q I r (k v σ H Q q)⟩
theorem PG.or {e : Expr} {t t' : TG} (h : PG X e t) (h' : PG X e t') : PG X e (fun v σ H Q => t v σ H Q ∨ t' v σ H Q) := ⟨fun pins s σ H v u Q I r q => q.elim (fun q => h.run pins s σ H v u Q I r q) fun q => h'.run pins s σ H v u Q I r q⟩

/-! ### rows of statements -/
theorem ls_nil : PSs X [] (LS X.K N (fun env st => .ok (.nx env) st) W) := PSs.imp pss_nil fun D σ H ⟨m, env, st, hr, er, h⟩ => h σ H m Ext.refl hr er
theorem ls_cons {s : Stmt} {ss : List Stmt} {fa fr : FS} (ha : PS X s (LS X.K N fa W)) (hr : PSs X ss (LS X.K N fr W)) : PSs X (s :: ss) (LS X.K N (fun env st => (fa env st).seq fr) W) :=
  PSs.imp (pss_cons ha hr) fun D σ H ⟨m, env, st, hr, er, h⟩ => ⟨m, env, st, hr, er, by
    dsimp only at h
    cases q : fa env st with
    | ok o st' =>
      rw [q] at h
      cases o with
      | nx env' => exact fun σ' H' m' e' hr' er' => ⟨m', env', st', hr', er', SPst.ext e' h⟩
      | rt d => exact h
      | bk env' => exact h
    | exc c fs env' st' => rw [q] at h; exact h
    | stuck => rw [q] at h; exact h⟩
theorem ls_pas {pos : Pos} : PS X (.Pass pos) (LS X.K N (fun env st => .ok (.nx env) st) W) := PS.imp ps_pass fun D σ H ⟨m, env, st, hr, er, h⟩ => h σ H m Ext.refl hr er
theorem ls_brk {pos : Pos} : PS X (.Break pos) (LS X.K N (fun env st => .ok (.bk env) st) W) := PS.imp ps_break fun D σ H ⟨m, env, st, hr, er, h⟩ => h σ H m Ext.refl hr er
theorem ls_doc {x : Str} {j pos pos'} : PS X (.Expr (.Constant (.str x) j pos) pos') (LS X.K N (fun env st => .ok (.nx env) st) W) := PS.imp ps_doc fun D σ H ⟨m, env, st, hr, er, h⟩ => h σ H m Ext.refl hr er
theorem ls_exp {e : Expr} {fe : F} {pos : Pos} (he : PE X e (LE X.K N fe W)) (hs : noComp e = true) : PS X (.Expr e pos) (LS X.K N (fun env st => (fe env st).go env fun _ st1 => .ok (.nx env) st1) W) :=
  PS.imp (ps_expr he (noComp_swap hs _ _ _)) fun D σ H ⟨m, env, st, hr, er, h⟩ => ⟨m, env, st, hr, er, h.go Ext.refl hr.nt er fun d st1 v H1 m1 _ e1 hr1 rv h1 => h1 σ H1 m1 e1 hr1 (er.mono e1 hr.nt)⟩
theorem ls_ret {e : Expr} {fe : F} {pos : Pos} (he : PE X e (LE X.K N fe W)) : PS X (.Return (some e) pos) (LS X.K N (fun env st => (fe env st).go env fun d st1 => .ok (.rt d) st1) W) :=
  PS.imp (ps_ret he) fun D σ H ⟨m, env, st, hr, er, h⟩ => ⟨m, env, st, hr, er, h.go Ext.refl hr.nt er fun d st1 v H1 m1 _ e1 hr1 rv h1 => h1 v H1 m1 e1 hr1 rv⟩
theorem ls_retn {pos : Pos} : PS X (.Return none pos) (LS X.K N (fun _ st => .ok (.rt .non) st) W) := PS.imp ps_retN fun D σ H ⟨m, env, st, hr, er, h⟩ => h .non H m Ext.refl hr rfl
theorem ls_iff {c : Expr} {a b : List Stmt} {fc : F} {fa fb : FS} {pos : Pos} (hc : PT X c (tB (LE X.K N fc W))) (ha : PSs X a (LS X.K N fa W)) (hb : PSs X b (LS X.K N fb W)) :
    PS X (.If c a b pos) (LS X.K N (fun env st => (fc env st).go env fun x st1 => match x with
      | .bl true => fa env st1
      | .bl false => fb env st1
      | _ => .stuck) W) :=
  PS.imp (ps_if hc ha hb) fun D σ H ⟨m, env, st, hr, er, h⟩ => ⟨m, env, st, hr, er, h.go Ext.refl hr.nt er fun d st1 v H1 m1 _ e1 hr1 rv h1 => by
    cases d with
    | bl c =>
      cases c with
      | true => exact ⟨true, rv, iteT ⟨m1, env, st1, hr1, er.mono e1 hr.nt, h1.ext e1⟩⟩
      | false => exact ⟨false, rv, iteF ⟨m1, env, st1, hr1, er.mono e1 hr.nt, h1.ext e1⟩⟩
    | _ => exact h1.elim⟩

/-! ### targets -/
theorem lg_var {i : Nat} {x : Str} {pos : Pos} (hN : X.N.Nodup) (hi : X.N[i]? = some x) (hx : Loc X.env.scope x) (hf : X.fn x = true ∨ X.env.scope.names.lookup x = some .local) :
    PG X (.Name x pos) (LG X.K N (fun d env st => if i < env.length then .ok (.nx (env.set i (some d))) st else .stuck) W) :=
  PG.imp (pg_name hN hi hx hf) fun v σ H Q ⟨m, env, st, d, hr, er, rd, h⟩ => by
    dsimp only at h
    split at h
    · rename_i hl
      exact h _ H m Ext.refl hr (er.set hl rd)
    · exact h.elim
theorem plainIx_store {e : Expr} (h : noSlice e = true) {o : Expr} {pos : Pos} (env : PySem.Env) (v : Value) : assign (.Subscript o e pos) env v = (do
      let ov ← holding [v] (eval o env)
      let iv ← holding [v, ov] (eval e env)
      standAt pos
      holding [v, ov, iv] (setItem ov iv v)
      release [v, ov, iv] []) := by
  cases e <;> first | rfl | (cases h; done)
theorem mput_gen {κ : Type} [DecidableEq κ] {R : Dk.D × Dk.D → κ × V → Prop} {d e : Dk.D} {k : κ} {v : V} (hb : ∀ p q, R p q → Dk.D.beq p.1 d = decide (q.1 = k)) (hn : R (d, e) (k, v)) (hr : ∀ p q, R p q → q.1 = k → R (p.1, e) (q.1, v)) :
    ∀ {kvs : List (Dk.D × Dk.D)} {xs : List (κ × V)}, Paired R kvs xs → Paired R (mPut kvs d e) (putK xs k v) := by
  intro kvs xs h
  have ea : (kvs.any fun p => Dk.D.beq p.1 d) = xs.any fun kv => decide (kv.1 = k) := by
    induction h with
    | nil => rfl
    | cons r t ih => rw [List.any_cons, List.any_cons, hb _ _ r, ih]
  unfold mPut putK
  rw [ea]
  split
  · clear ea
    rename_i c
    clear c
    induction h with
    | nil => exact .nil
    | @cons p q ps qs r t ih =>
      rw [List.map_cons, List.map_cons]
      refine .cons ?_ ih
      rw [hb _ _ r]
      by_cases c : q.1 = k
      · rw [if_pos c, if_pos (decide_eq_true c)]; exact hr _ _ r c
      · rw [if_neg c, if_neg (by rw [decide_eq_false c]; exact fun z => nomatch z)]; exact r
  · exact Paired.snoc h hn
theorem key_beqK {d e : Dk.D} {k k' : Key} (h : keyK d = some k) (h' : keyK e = some k') : Dk.D.beq d e = decide (k = k') := by
  by_cases c : k = k'
  · subst c
    rw [keyK_inj h h', key_beq h', decide_eq_true rfl]
  · rw [decide_eq_false c, ← Bool.not_eq_true]
    intro z
    rw [Dk.D.beq_eq _ _ z, h'] at h
    exact c (Option.some.inj h).symm
theorem key_beqT {ds es : List Dk.D} {k k' : List Key} (h : keysK ds = some k) (h' : keysK es = some k') : Dk.D.beq (.tup ds) (.tup es) = decide (k = k') := by
  by_cases c : k = k'
  · subst c
    rw [keysK_inj h h', decide_eq_true rfl]
    simp [Dk.D.beq, keys_beq h']
  · rw [decide_eq_false c, ← Bool.not_eq_true]
    intro z
    have e := Dk.D.beq_eq _ _ z
    injection e with e
    rw [e, h'] at h
    exact c (Option.some.inj h).symm
/-- a dict is written -/
theorem RM.put {m : List Addr} {H : Hp} {t : Bool} {kvs : List (Dk.D × Dk.D)} {a : Addr} {dy d : Dk.D} {y v : V} (h : RM K N m H t kvs a) (kb : keyB t dy = true) (ry : RD K N m H dy y) (rv : RD K N m H d v) (hl : kvs.length < sizeLine) :
    ∃ o, DPut H a y v (upd H a o) ∧ (Ext m H m (upd H a o) → NT m H → RM K N m (upd H a o) t (mPut kvs dy d) a) := by
  rcases h with ⟨rfl, xs, e, r⟩ | ⟨rfl, xs, e, r⟩
  · obtain ⟨k, hk, tk, rfl⟩ := keyK_of kb ry
    refine ⟨.dK (putK xs k v), DPut.k e (by rw [← Paired.length r]; exact hl), fun ex nt => .inl ⟨rfl, _, upd_same, ?_⟩⟩
    refine RK.mono ex nt ?_
    exact mput_gen (R := fun p q => keyK p.1 = some q.1 ∧ RK.TxtK p.1 ∧ RD K N m H p.2 q.2) (fun p q z => key_beqK z.1 hk) ⟨hk, tk, rv⟩ (fun p q z _ => ⟨z.1, z.2.1, rv⟩) r
  · obtain ⟨ds, ks, b, rfl, hk, tk, rfl, hb⟩ := keyT_of kb ry
    refine ⟨.dT (putK xs ks v), DPut.t e hb (by rw [← Paired.length r]; exact hl), fun ex nt => .inr ⟨rfl, _, upd_same, ?_⟩⟩
    refine RT.mono ex nt ?_
    exact mput_gen (R := fun p q => (∃ ds, p.1 = .tup ds ∧ keysK ds = some q.1 ∧ ∀ d ∈ ds, RK.TxtK d) ∧ RD K N m H p.2 q.2) (fun p q z => by
      obtain ⟨⟨es, e1, e2, _⟩, _⟩ := z
      rw [e1]
      exact key_beqT e2 hk) ⟨⟨ds, rfl, hk, tk⟩, rv⟩ (fun p q z _ => ⟨z.1, rv⟩) r
/-- o[i] = v, by values, of a list or a dict -/
def rSetI (K : PySem.W.Frag) (N : Nm) : TSet := fun o i v H Q => ∃ m st dx dy d st', HR K N m H st ∧ RD K N m H dx o ∧ RD K N m H dy i ∧ RD K N m H d v ∧ setI dx dy d st = some st' ∧ ∀ H', Ext m H m H' → HR K N m H' st' → Q H'
theorem setI_ok (hu : X.A.units + 100 < cLine) : PSet X (rSetI X.K N) := by
  intro pins s σ H o i v ov iv u Q I ro ri rv ⟨m, st, dx, dy, d, st', hr, rx, ry, rd, h, q⟩
  unfold setI at h
  split at h
  · rename_i n
    split at h
    · rename_i xs g
      split at h
      · rename_i k
        obtain ⟨j, hj, e9⟩ := Option.map_eq_some_iff.mp h
        subst e9
        obtain ⟨a, vs, ea, ga, hH, rs⟩ := hr.lst g rx
        have e3 := Ext.write (m := m) (H := H) (o := .lst (vs.set j v)) (List.mem_of_getElem? ga)
        exact set_list pins s σ H o i v ov iv u Q I ro ri rv ⟨a, vs, k, j, ea, ry, hH, by rw [← rs.len]; exact hj,
          q _ e3 (hr.write ga ⟨_, upd_same, RDs.mono e3 hr.nt _ _ (RDs.set rd j rs)⟩)⟩
      · cases h
    · unfold setM at h
      split at h
      · rename_i p g
        split at h
        · rename_i kb
          cases h
          obtain ⟨a, ea, ga, rm⟩ := hr.mget g rx
          obtain ⟨ob, dp, rm2⟩ := RM.put rm kb.1 ry rd kb.2
          have e3 := Ext.write (m := m) (H := H) (o := ob) (List.mem_of_getElem? ga)
          exact L2.set_dict (by omega) pins s σ H o i v ov iv u Q I ro ri rv ⟨a, _, ea, dp, q _ e3 (hr.write ga (rm2 e3 hr.nt))⟩
        · cases h
      · cases h
  · cases h
theorem lg_idx {o i : Expr} {fo fi : F} {pos : Pos} (hu : X.A.units + 100 < cLine) (ho : PE X o (LE X.K N fo W)) (hi : PE X i (LE X.K N fi W)) (hs : noSlice i = true) :
    PG X (.Subscript o i pos) (LG X.K N (fun d env st => (fo env st).go env fun x st1 => (fi env st1).go env fun y st2 => RS.ofS (setI x y d st2) env) W) :=
  PG.imp (pg_sub ho hi (setI_ok (N := N) hu) (plainIx_store hs X.env)) fun v σ H Q ⟨m, env, st, d, hr, er, rd, h⟩ => ⟨m, env, st, hr, er, h.go Ext.refl hr.nt er fun dx st1 x H1 m1 _ e1 hr1 rx h1 =>
    ⟨m1, env, st1, hr1, er.mono e1 hr.nt, h1.go e1 hr1.nt (er.mono e1 hr.nt) fun dy st2 y H2 m2 _ e2 hr2 ry h2 => by
      cases hq : setI dx dy d st2 with
      | none => rw [hq] at h2; exact h2.elim
      | some st' =>
        rw [hq] at h2
        exact ⟨m2, st2, dx, dy, d, st', hr2, RD.mono e2 hr1.nt _ _ rx, ry, RD.mono (e1.trans e2) hr.nt _ _ rd, hq, fun H' e3 hr3 => h2 σ H' m2 ((e1.trans e2).trans e3) hr3 ((er.mono (e1.trans e2) hr.nt).mono e3 hr2.nt)⟩⟩⟩
/-! ### attributes are set -/
theorem RF.putF {mm : List Addr} {HH : Hp} (inj : ∀ i j, N.fld i = N.fld j → i = j) {f : Nat} {d : Dk.D} {v : V} (rd : RD K N mm HH d v) : ∀ {fs : List (Nat × Dk.D)} {vs : List (Str × V)}, RF K N mm HH fs vs → RF K N mm HH (setF f d fs) (L2.putF (N.fld f) v vs)
  | _, _, .nil => .cons ⟨rfl, rd⟩ .nil
  | _, _, .cons (a := p) (b := q) ⟨e, r⟩ t => by
    obtain ⟨p1, p2⟩ := p
    obtain ⟨q1, q2⟩ := q
    dsimp only at e r
    show RF K N mm HH (if p1 = f then _ else _) (if _ then _ else _)
    subst e
    by_cases c : p1 = f
    · subst c
      simp only [if_true, beq_self_eq_true]
      exact .cons ⟨rfl, rd⟩ t
    · have c' : ¬ N.fld p1 = N.fld f := fun z => c (inj _ _ z)
      have c2 : ¬ N.fld f = N.fld p1 := fun z => c' z.symm
      simp only [c, c', c2, if_false, beq_iff_eq]
      exact .cons ⟨rfl, r⟩ (RF.putF inj rd t)
theorem RF.len {mm : List Addr} {HH : Hp} : ∀ {fs : List (Nat × Dk.D)} {vs : List (Str × V)}, RF K N mm HH fs vs → fs.length = vs.length
  | _, _, .nil => rfl
  | _, _, .cons _ t => by simp [RF.len t]
/-- what setA writes stands for what is written -/
theorem setA_ok {nf : Nat} {sub : Nat → Nat → Bool} (F : NmF K N nf sub) {x d : Dk.D} {f : Nat} {v xv : V} {st' : Store} (hf : f < nf) (hr : HR K N m H st) (rx : RD K N m H x xv) (rd : RD K N m H d v) (h : setA x f d st = some st') :
    ∃ a C dx vs, xv = .ref a ∧ H a = some (.ins C dx vs) ∧ Cls K C ∧ NoAttr K C (N.fld f) ∧ vs.length < 1000 ∧ Ext m H m (upd H a (.ins C dx (L2.putF (N.fld f) v vs))) ∧ HR K N m (upd H a (.ins C dx (L2.putF (N.fld f) v vs))) st' := by
  cases x with
  | loc n =>
    unfold setA at h
    dsimp only at h
    cases hc : st[n]? with
    | none => rw [hc] at h; cases h
    | some c =>
      rw [hc] at h
      cases c with
      | ins c fs =>
        dsimp only at h
        split at h
        · rename_i hl
          cases h
          obtain ⟨a, ea, ga⟩ := rx
          obtain ⟨z, dx, vs, hH, rf⟩ := hr.at_ n _ a hc ga
          have e3 := Ext.write (m := m) (H := H) (o := .ins (N.clA c) dx (L2.putF (N.fld f) v vs)) (List.mem_of_getElem? ga)
          refine ⟨a, N.clA c, dx, vs, ea, hH, F.ic c z, F.ia c f z hf, by rw [← rf.len]; omega, e3, hr.write ga ⟨z, dx, _, upd_same, ?_⟩⟩
          exact (RF.putF F.inj rd rf).mono e3 hr.nt
        · cases h
      | _ => cases h
  | _ => cases h
theorem pg_att {o : Expr} {f : Str} {to : TE} {pos : Pos} (ho : PE X o to) : PG X (.Attribute o f pos) (fun v σ H Q => to σ H fun x H2 => ∃ a C dx fs, x = .ref a ∧ H2 a = some (.ins C dx fs) ∧ Cls X.K C ∧ NoAttr X.K C f ∧ fs.length < 1000 ∧ Q σ (upd H2 a (.ins C dx (L2.putF f v fs)))) := by
  refine ⟨fun pins s σ H v u Q I r h => ?_⟩
  show wpAny _ _ (do
    let ov ← holding [u] (eval o X.env)
    standAt pos.atName
    holding [u, ov] (setAttr ov f u)
    release [u, ov] []) _ _ _
  refine wpAny_bind (wpAny_holding (thn (ho.run pins s σ H _ I h) fun ov s1 ⟨x, H1, I1, r1, a, C, dx, fs, ex, ea, c, n, l, q⟩ => ?_))
  subst ex
  obtain rfl : ov = Value.ref a := r1
  refine wpAny_bind (wpAny_standAt (wpAny_bind (wpAny_holding (setattr_ok I1 ea c n l r fun s3 I3 => ?_))))
  exact wpAny_release ⟨σ, _, I3, q⟩
theorem lg_att {nf : Nat} {sub : Nat → Nat → Bool} {o : Expr} {fo : F} {f : Nat} {pos : Pos} (F : NmF X.K N nf sub) (hf : f < nf) (ho : PE X o (LE X.K N fo W)) :
    PG X (.Attribute o (N.fld f) pos) (LG X.K N (fun d env st => (fo env st).go env fun x st1 => RS.ofS (setA x f d st1) env) W) :=
  PG.imp (pg_att ho) fun v σ H Q ⟨m, env, st, d, hr, er, rd, h⟩ => ⟨m, env, st, hr, er, h.go Ext.refl hr.nt er fun dx st1 x H1 m1 _ e1 hr1 rx h1 => by
    cases q : setA dx f d st1 with
    | none => rw [q] at h1; exact h1.elim
    | some st' =>
      rw [q] at h1
      obtain ⟨a, C, dd, vs, ev, ha, c, n, l, e3, hr3⟩ := setA_ok F hf hr1 rx (RD.mono e1 hr.nt _ _ rd) q
      exact ⟨a, C, dd, vs, ev, ha, c, n, l, h1 σ _ m1 (e1.trans e3) hr3 ((er.mono e1 hr.nt).mono e3 hr1.nt)⟩⟩
/-! ### several targets -/
theorem each_eq {e : Expr} (h : noStar e = true) (es : List Expr) (env : PySem.Env) : assignEach (e :: es) env = (false, assign e env) :: assignEach es env := by
  cases e <;> first | rfl | (cases h; done)
theorem each_len : ∀ {es : List Expr} (env : PySem.Env), es.all noStar = true → (assignEach es env).length = es.length
  | [], _, _ => rfl
  | e :: es, env, h => by
    rw [List.all_cons] at h
    obtain ⟨h1, h2⟩ := Bool.and_eq_true_iff.mp h
    rw [each_eq h1, List.length_cons, each_len env h2]; rfl
theorem each_find : ∀ {es : List Expr} (env : PySem.Env), es.all noStar = true → (assignEach es env).findIdx? (·.1) = none
  | [], _, _ => rfl
  | e :: es, env, h => by
    rw [List.all_cons] at h
    obtain ⟨h1, h2⟩ := Bool.and_eq_true_iff.mp h
    rw [each_eq h1, List.findIdx?_cons, each_find env h2]; rfl
theorem lgs_nil : PGs X [] (LGs X.K N (fun ds env st => match ds with
    | [] => .ok (.nx env) st
    | _ :: _ => .stuck) W) :=
  PGs.imp pgs_nil fun vs σ H Q ⟨m, env, st, ds, hr, er, rs, h⟩ => by
    cases ds with
    | nil => exact ⟨rs, h σ H m Ext.refl hr er⟩
    | cons _ _ => exact h.elim
theorem lgs_cons {e : Expr} {es : List Expr} {fa : Dk.D → FS} {fr : List Dk.D → FS} (hs : noStar e = true) (ha : PG X e (LG X.K N fa W)) (hr : PGs X es (LGs X.K N fr W)) : PGs X (e :: es) (LGs X.K N (fun ds env st => match ds with
    | [] => .stuck
    | d :: ds => (fa d env st).seq (fr ds)) W) :=
  PGs.imp (pgs_cons ha hr (by rw [each_eq hs]; rfl)) fun vs σ H Q ⟨m, env, st, ds, hr, er, rs, h⟩ => by
    cases ds with
    | nil => exact h.elim
    | cons d ds =>
      obtain ⟨v, r, ev, rd, rs⟩ := rs
      refine ⟨v, r, ev, m, env, st, d, hr, er, rd, ?_⟩
      dsimp only at h
      cases q : fa d env st with
      | ok o st' =>
        rw [q] at h
        cases o with
        | nx env' => exact fun σ' H' m' e' hr' er' => ⟨m', env', st', ds, hr', er', RDs.mono e' hr.nt _ _ rs, SPst.ext e' h⟩
        | rt d => exact fun _ _ _ _ _ _ => trivial
        | bk env' => exact fun _ _ _ _ _ _ => trivial
      | exc c fs env' st' => rw [q] at h; exact h
      | stuck => rw [q] at h; exact h
theorem lg_tup {es : List Expr} {fa : List Dk.D → FS} {k n : Nat} {pos : Pos} (hc : X.calm = true) (hs : es.all noStar = true) (hl : es.length = n) (ha : PGs X es (LGs X.K N fa W)) :
    PG X (.Tuple es k pos) (LG X.K N (fun d env st => match d with
    | .tup ds => if ds.length = n then fa ds env st else .stuck
    | .loc i => match getL st i with
      | some ds => if ds.length = n then fa ds env st else .stuck
      | none => .stuck
    | _ => .stuck) W) := by
  have hn := each_len X.env hs
  have hf := each_find X.env hs
  subst hl
  refine PG.imp (PG.or (pg_tup (n := es.length) hc ha hn hf) (pg_lst (n := es.length) hc ha hn hf)) fun v σ H Q ⟨m, env, st, d, hr, er, rd, h⟩ => ?_
  cases d with
  | tup ds =>
    dsimp only at h
    obtain ⟨a, vs, ev, sq, rs⟩ := rd
    split at h
    · rename_i hd
      exact .inl ⟨a, vs, ev, SqT.of sq, by rw [← rs.len]; exact hd, m, env, st, ds, hr, er, rs, h⟩
    · exact h.elim
  | loc i =>
    dsimp only at h
    cases q : getL st i with
    | none => rw [q] at h; exact h.elim
    | some ds =>
      rw [q] at h
      obtain ⟨a, vs, ev, ga, s1, q1⟩ := hr.lst q rd
      dsimp only at h
      split at h
      · rename_i hd
        exact .inr ⟨a, vs, ev, SqL.of s1, by rw [← q1.len]; exact hd, m, env, st, ds, hr, er, q1, h⟩
      · exact h.elim
  | _ => exact h.elim
/-- target = value -/
theorem ls_asg {tg e : Expr} {fe : F} {ft : Dk.D → FS} {pos : Pos} (he : PE X e (LE X.K N fe W)) (hg : PG X tg (LG X.K N ft W)) (hs : swapsWith e (some tg) pos.line X.env = pure false) (hw : swappedStores [tg] e X.env = pure none) (h1 : noStar tg = true) :
    PS X (.Assign [tg] e pos) (LS X.K N (fun env st => (fe env st).go env fun d st1 => ft d env st1) W) :=
  PS.imp (ps_asg he hg hs hw (by rw [each_eq h1]; rfl)) fun D σ H ⟨m, env, st, hr, er, h⟩ => ⟨m, env, st, hr, er, h.go Ext.refl hr.nt er fun d st1 v H1 m1 _ e1 hr1 rv h1 => ⟨m1, env, st1, d, hr1, er.mono e1 hr.nt, rv, by
    have h2 := h1.ext e1
    cases q : ft d env st1 with
    | ok o st' =>
      rw [q] at h2
      cases o with
      | nx env' => exact h2
      | rt d => exact fun _ _ _ _ _ _ => trivial
      | bk env' => exact fun _ _ _ _ _ _ => trivial
    | exc c fs env' st' => rw [q] at h2; exact h2
    | stuck => rw [q] at h2; exact h2⟩⟩
end
end Dk
/-! Dk13: op=, while, for. -/
namespace Dk
open PySem PySem.Spec PyProof.Rows L2
section
variable {K : PySem.W.Frag} {N : Nm} {X : Cx} {W : WX} {m m0 m1 : List Addr} {H H0 H1 : Hp} {σ : St} {D : Ends} {st st0 : Store} {env : Env}
/-! ### op= by values -/
def tIp (K : PySem.W.Frag) (N : Nm) (o : Op) : TIp := fun x y H Q => ∃ m st dx dy d, HR K N m H st ∧ RD K N m H dx x ∧ RD K N m H dy y ∧ augD o dx dy = some d ∧ ∀ v, RD K N m H d v → Q v H
theorem ip_ok : PIp X .Add (tIp X.K N .add) := by
  intro pins s σ H x y v u Q I r1 r2 ⟨m, st, dx, dy, d, hr, rx, ry, hd, q⟩
  cases dx with
  | int i =>
    cases dy with
    | int j =>
      cases hd
      exact ip_add pins s σ H x y v u Q I r1 r2 ⟨i, j, rx, ry, q _ rfl⟩
    | _ => cases hd
  | str a =>
    cases dy with
    | str b =>
      unfold augD at hd
      dsimp only at hd
      split at hd
      · rename_i hz
        cases hd
        have hab : mkS a ++ mkS b = mkS (a ++ b) := mkS_append a b
        exact iop_add_str pins s σ H x y v u Q I r1 r2 ⟨mkS a, mkS b, rx.1, ry.1, by rw [mkS_length, mkS_length]; exact hz, by
          rw [hab]
          exact q _ ⟨rfl, by rw [List.length_append]; exact hz, fun c hc => (List.mem_append.mp hc).elim (rx.2.cp c) (ry.2.cp c)⟩⟩
      · cases hd
    | _ => cases hd
  | _ => cases hd
theorem ls_augV {i : Nat} {x : Str} {e : Expr} {fe : F} {pos' pos : Pos} (hN : X.N.Nodup) (hi : X.N[i]? = some x) (hx : Loc X.env.scope x) (hf : X.fn x = true ∨ X.env.scope.names.lookup x = some .local) (he : PE X e (LE X.K N fe W)) :
    PS X (.AugAssign (.Name x pos') .Add e pos) (LS X.K N (fun env st => match env.get i with
      | some x => (fe env st).go env fun y st1 => match augD .add x y with
        | some d => if i < env.length then .ok (.nx (env.set i (some d))) st1 else .stuck
        | none => .stuck
      | none => .stuck) W) :=
  PS.imp (ps_aug hN hi hx he (ip_ok (N := N)) hf) fun D σ H ⟨m, env, st, hr, er, h⟩ => by
    dsimp only at h
    cases hg : env.get i with
    | none => rw [hg] at h; exact h.elim
    | some dx =>
      rw [hg] at h
      obtain ⟨v, hv, rv⟩ := er.2 i dx hg
      refine ⟨v, hv, m, env, st, hr, er, h.go Ext.refl hr.nt er fun dy st1 y H1 m1 _ e1 hr1 ry h1 => ?_⟩
      cases ha : augD .add dx dy with
      | none => rw [ha] at h1; exact h1.elim
      | some d =>
        rw [ha] at h1
        refine ⟨m1, st1, dx, dy, d, hr1, RD.mono e1 hr.nt _ _ rv, ry, ha, fun z rz => ?_⟩
        dsimp only at h1
        split at h1
        · rename_i hl
          exact h1 _ H1 m1 e1 hr1 ((er.mono e1 hr.nt).set hl rz)
        · exact h1.elim
theorem inop_ok : InOp X .Add (tIp X.K N .add) := fun pins s σ H x y u v Q I rx ry h => ip_ok (N := N) pins s σ H x y u v Q I rx ry h
theorem insC_of {x : Dk.D} {c : Nat} (h : insC st x = some c) : ∃ n fs, x = .loc n ∧ st[n]? = some (.ins c fs) := by
  cases x with
  | loc n =>
    unfold insC at h
    dsimp only at h
    cases hc : st[n]? with
    | none => rw [hc] at h; cases h
    | some k =>
      rw [hc] at h
      cases k with
      | ins c' fs => cases h; exact ⟨n, fs, rfl, hc⟩
      | _ => cases h
  | _ => cases h
theorem ls_augA {nf : Nat} {sub : Nat → Nat → Bool} {a e : Expr} {fa fe : F} {f : Nat} {tpos pos : Pos} (F : NmF X.K N nf sub) (hf : f < nf) (ha : PE X a (LE X.K N fa W)) (he : PE X e (LE X.K N fe W)) :
    PS X (.AugAssign (.Attribute a (N.fld f) tpos) .Add e pos) (LS X.K N (fun env st => (fa env st).go env fun x st1 => match insC st1 x, attD st1 f x with
      | some c, some old => (fe env st1).go env fun y st2 => if insC st2 x = some c then (match augD .add old y with
        | some d => RS.ofS (setA x f d st2) env
        | none => .stuck) else .stuck
      | _, _ => .stuck) W) :=
  PS.imp (ps_fldaug ha he (inop_ok (N := N))) fun D σ H ⟨m, env, st, hr, er, h⟩ => ⟨m, env, st, hr, er, h.go Ext.refl hr.nt er fun dx st1 x H1 m1 _ e1 hr1 rx h1 => by
    cases hi : insC st1 dx with
    | none => rw [hi] at h1; exact h1.elim
    | some c =>
      cases ho : attD st1 f dx with
      | none => rw [hi, ho] at h1; exact h1.elim
      | some old =>
        rw [hi, ho] at h1
        dsimp only at h1
        obtain ⟨n, fs, ex, hc⟩ := insC_of hi
        subst ex
        obtain ⟨a, ea, ga⟩ := rx
        obtain ⟨z, dd, vs, hH, rf⟩ := hr1.at_ n _ a hc ga
        have ho2 : lookF f fs = some old := by
          unfold attD at ho
          dsimp only at ho
          rw [hc] at ho
          exact ho
        obtain ⟨v, lv, rv⟩ := lookF_lookup F.inj rf ho2
        refine ⟨a, N.clA c, dd, vs, v, ea, hH, F.ic c z, F.ia c f z hf, lv, m1, env, st1, hr1, er.mono e1 hr.nt, h1.go e1 hr1.nt (er.mono e1 hr.nt) fun dy st2 y H2 m2 _ e2 hr2 ry h2 => ?_⟩
        split at h2
        · rename_i hi2
          cases hd : augD .add old dy with
          | none => rw [hd] at h2; exact h2.elim
          | some d =>
            rw [hd] at h2
            refine ⟨m2, st2, old, dy, d, hr2, RD.mono e2 hr1.nt _ _ rv, ry, hd, fun w rw_ => ?_⟩
            dsimp only at h2
            cases q : setA (.loc n) f d st2 with
            | none => rw [q] at h2; exact h2.elim
            | some st' =>
              rw [q] at h2
              have ga2 := e2.get ga
              obtain ⟨a', C, dd', vs', ev, ha', c', n', l', e3, hr3⟩ := setA_ok F hf hr2 (xv := .ref a) (show RD X.K N m2 H2 (.loc n) (.ref a) from ⟨a, rfl, ga2⟩) rw_ q
              cases ev
              obtain ⟨n2, fs2, en, hc2⟩ := insC_of hi2
              cases en
              obtain ⟨z2, dd2, vs2, hH2, rf2⟩ := hr2.at_ n _ a hc2 ga2
              rw [hH2] at ha'
              cases ha'
              exact ⟨dd', vs', hH2, l', h2 σ _ m2 ((e1.trans e2).trans e3) hr3 ((er.mono (e1.trans e2) hr.nt).mono e3 hr2.nt)⟩
        · exact h2.elim⟩
/-! ### o[i] op= e -/
def rIxg (K : PySem.W.Frag) (N : Nm) : V → V → Hp → VK → Prop := fun x y H Q => ∃ m st dx dy d, HR K N m H st ∧ RD K N m H dx x ∧ RD K N m H dy y ∧ idxL st dx dy = some d ∧ ∀ v, RD K N m H d v → Q v H
theorem get_ok (hu : X.A.units + 100 < cLine) : PGet X (rIxg X.K N) := by
  intro pins s σ H x y v u Q I rx ry ⟨m, st, dx, dy, d, hr, r1, r2, h, q⟩
  unfold idxL at h
  split at h
  · rename_i n
    split at h
    · rename_i xs hl
      cases dy with
      | int i =>
        replace h : Dk.atI xs i = some d := h
        obtain ⟨p, vs, e1, ga, s1, q1⟩ := hr.lst hl r1
        obtain ⟨w, hw, rw_⟩ := atI_RD q1 h
        subst e1
        obtain rfl : v = Value.ref p := rx
        obtain rfl : y = .int i := r2
        obtain ⟨t, rfl⟩ := ry
        obtain ⟨its, r, pl, hz⟩ := I.list (SqL.of s1)
        obtain ⟨j, h1, h2, h3, h4, h5⟩ := L2.atI_get hw
        obtain ⟨z, ez, rz⟩ := r.get h2
        have len := r.length
        have big := line63
        have done : EP X pins σ Q z s := ⟨w, H, I, rz, q w rw_⟩
        by_cases h0 : 0 ≤ i
        · have ej : i.toNat = j := by
            rw [seqIndex_of h0 h5] at h1
            exact Option.some.inj h1
          exact wpAny_getItem_list pl.isList h0 (by omega) (by rw [ej]; simpa using ez) done
        · have ej : (i + (its.toArray.size : Int)).toNat = j := by
            rw [seqIndex_neg (by omega) h4] at h1
            rw [List.size_toArray, ← len]
            exact Option.some.inj h1
          exact wpAny_getItem_list_neg pl.isList (by omega) (by rw [List.size_toArray] <;> omega) (by omega) (by rw [ej]; simpa using ez) done
      | _ => cases h
    · unfold idxM at h
      split at h
      · rename_i p g
        split at h
        · rename_i kb
          obtain ⟨a, rfl, _, rm⟩ := hr.mget g r1
          obtain ⟨o, dg, gr⟩ := rm.get kb r2
          rw [h] at gr
          obtain ⟨w, rfl, rw_⟩ := gr
          cases (show v = Value.ref a from rx)
          exact d_getItem (by omega) I dg ry fun w' s' I' rw' => ⟨w, H, I', rw', q w rw_⟩
        · cases h
      · cases h
  · cases h
theorem plainIx_aug {e : Expr} (h : noSlice e = true) (ov iv new : Value) : augStore e ov iv new = (do holding [new, ov, iv] (setItem ov iv new); release [new, ov, iv] []; pure .next) := by
  cases e <;> first | rfl | (cases h; done)
theorem ls_augI {o i e : Expr} {fo fi fe : F} {tpos pos : Pos} (hu : X.A.units + 100 < cLine) (ho : PE X o (LE X.K N fo W)) (hi : PE X i (LE X.K N fi W)) (he : PE X e (LE X.K N fe W)) (hs : noSlice i = true) :
    PS X (.AugAssign (.Subscript o i tpos) .Add e pos) (LS X.K N (fun env st => (fo env st).go env fun x st1 => (fi env st1).go env fun i st2 => match idxL st2 x i with
      | some old => (fe env st2).go env fun y st3 => match augD .add old y with
        | some d => RS.ofS (setI x i d st3) env
        | none => .stuck
      | none => .stuck) W) :=
  PS.imp (ps_augS ho hi (get_ok (N := N) hu) he (ip_ok (N := N)) (setI_ok (N := N) hu) (plainIx_aug hs)) fun D σ H ⟨m, env, st, hr, er, h⟩ => ⟨m, env, st, hr, er, h.go Ext.refl hr.nt er fun dx st1 x H1 m1 _ e1 hr1 rx h1 =>
    ⟨m1, env, st1, hr1, er.mono e1 hr.nt, h1.go e1 hr1.nt (er.mono e1 hr.nt) fun dy st2 y H2 m2 _ e2 hr2 ry h2 => by
      cases hx : idxL st2 dx dy with
      | none => rw [hx] at h2; exact h2.elim
      | some old =>
        rw [hx] at h2
        replace h2 : SPst X.K N m H ((fe env st2).go env fun y st3 => match augD .add old y with
          | some d => RS.ofS (setI dx dy d st3) env
          | none => .stuck) D W := h2
        have rx2 := RD.mono e2 hr1.nt _ _ rx
        have e12 := e1.trans e2
        refine ⟨m2, st2, dx, dy, old, hr2, rx2, ry, hx, fun vo ro => ⟨m2, env, st2, hr2, er.mono e12 hr.nt, h2.go e12 hr2.nt (er.mono e12 hr.nt) fun de st3 ye H3 m3 _ e3 hr3 re h3 => ?_⟩⟩
        cases hd : augD .add old de with
        | none => rw [hd] at h3; exact h3.elim
        | some d =>
          rw [hd] at h3
          refine ⟨m3, st3, old, de, d, hr3, RD.mono e3 hr2.nt _ _ ro, re, hd, fun vn rn => ?_⟩
          replace h3 : SPst X.K N m H (RS.ofS (setI dx dy d st3) env) D W := h3
          cases hq : setI dx dy d st3 with
          | none => rw [hq] at h3; exact h3.elim
          | some st' =>
            rw [hq] at h3
            have e13 := e12.trans e3
            exact ⟨m3, st3, dx, dy, d, st', hr3, RD.mono e3 hr2.nt _ _ rx2, RD.mono e3 hr2.nt _ _ ry, rn, hq, fun H' e4 hr4 => h3 σ H' m3 (e13.trans e4) hr4 ((er.mono e13 hr.nt).mono e4 hr3.nt)⟩⟩⟩

/-! ### while -/
theorem ls_whl {c : Expr} {b : List Stmt} {fc : F} {fb : FS} {pos : Pos} (hp : PassesOwn (model X.prog X.w) X.A X.env X.xe) (hc : PT X c (tB (LE X.K N fc W))) (hb : PSs X b (LS X.K N fb W)) :
    PS X (.While c b [] pos) (LS X.K N (fun env st => whlL fc fb fuel env st) W) :=
  PS.imp (ps_while hp hc hb) fun D σ H ⟨m, env, st, hr, er, h⟩ => by
    refine ⟨fun k σ H => ∃ m env st, HR X.K N m H st ∧ ER X.K N m H σ env ∧ SPst X.K N m H (whlL fc fb k env st) D W, ⟨fuel, m, env, st, hr, er, h⟩, ?_⟩
    rintro k σ H ⟨m, env, st, hr, er, h⟩
    cases k with
    | zero => exact h.elim
    | succ k =>
      unfold whlL at h
      refine ⟨m, env, st, hr, er, h.go Ext.refl hr.nt er fun d st1 v H1 m1 _ e1 hr1 rv h1 => ?_⟩
      cases d with
      | bl c =>
        cases c with
        | true =>
          refine ⟨true, rv, iteT ⟨fun σ' H' => ∃ m env st, HR X.K N m H' st ∧ ER X.K N m H' σ' env ∧ SPst X.K N m H' (whlL fc fb k env st) D W, fun σ' H' w => ⟨k, Nat.lt_succ_self k, w⟩, m1, env, st1, hr1, er.mono e1 hr.nt, ?_⟩⟩
          replace h1 := h1.ext e1
          dsimp only at h1
          cases q : fb env st1 with
          | ok o st' =>
            rw [q] at h1
            cases o with
            | nx env' => exact fun σ' H' m' e' hr' er' => ⟨m', env', st', hr', er', h1.ext e'⟩
            | rt d => exact h1
            | bk env' => exact h1
          | exc c fs env' st' => rw [q] at h1; exact h1
          | stuck => rw [q] at h1; exact h1
        | false => exact ⟨false, rv, iteF (h1 σ H1 m1 e1 hr1 (er.mono e1 hr.nt))⟩
      | _ => exact h1.elim

/-! ### for -/
theorem forL_nil {src : Option (Nat × List Dk.D)} {bind : Dk.D → Env → Option Env} {body : FS} {env : Env} {st : Store} (ok : srcOk src st) : forL src bind body [] env st = .ok (.nx env) st := by
  unfold forL; rw [if_pos ok]
theorem forL_cons {src : Option (Nat × List Dk.D)} {bind : Dk.D → Env → Option Env} {body : FS} {x : Dk.D} {r : List Dk.D} {env : Env} {st : Store} (ok : srcOk src st) : forL src bind body (x :: r) env st = (match bind x env with
      | some env1 => match body env1 st with
        | .ok (.nx env2) st2 => forL src bind body r env2 st2
        | .ok (.bk env2) st2 => .ok (.nx env2) st2
        | o => o
      | none => .stuck) := by
  conv => lhs; unfold forL
  rw [if_pos ok]
  try rfl
theorem forL_no {src : Option (Nat × List Dk.D)} {bind : Dk.D → Env → Option Env} {body : FS} {xs : List Dk.D} {env : Env} {st : Store} (ok : ¬ srcOk src st) : forL src bind body xs env st = .stuck := by
  cases xs with
  | nil => unfold forL; rw [if_neg ok]
  | cons x r => unfold forL; rw [if_neg ok]
theorem for_read {tg : T} {fi : Env → Store → R (List Dk.D × Option (Nat × List Dk.D))} {fb : FS} {h : LS K N (fun env st => (fi env st).go env fun w st1 => forL w.2 (bindV tg) fb w.1 env st1) W D σ H} : tFor (LI K N fi W) (gT K tg) (LS K N fb W) D σ H := by
  obtain ⟨m0, env, st0, hr0, er0, h⟩ := h
  refine ⟨m0, env, st0, hr0, er0, h.go Ext.refl hr0.nt er0 fun w st1 J H1 m1 _ e1 hr1 wj h1 => ?_⟩
  refine ⟨fun i k σ H' => k = w.1.length - i ∧ i ≤ w.1.length ∧ ∃ m env st, Ext m1 H1 m H' ∧ HR K N m H' st ∧ ER K N m H' σ env ∧ SPst K N m H' (forL w.2 (bindV tg) fb (w.1.drop i) env st) D W,
    ⟨w.1.length, rfl, Nat.zero_le _, m1, env, st1, Ext.refl, hr1, er0.mono e1 hr0.nt, by simpa using h1.ext e1⟩, ?_⟩
  rintro i k σ H' ⟨rfl, hi, m, env, st, e, hr, er, hp⟩
  by_cases ok : srcOk w.2 st
  · by_cases hlt : i < w.1.length
    · refine .inr ?_
      have hx : w.1[i]? = some w.1[i] := List.getElem?_eq_getElem hlt
      rw [List.drop_eq_getElem_cons hlt, forL_cons ok] at hp
      obtain ⟨g1, g2⟩ := wj.go m H' st i _ e hr ok hx
      refine ⟨g1, fun σ' H'' => i + 1 ≤ w.1.length ∧ ∃ m env st, Ext m1 H1 m H'' ∧ HR K N m H'' st ∧ ER K N m H'' σ' env ∧ SPst K N m H'' (forL w.2 (bindV tg) fb (w.1.drop (i + 1)) env st) D W,
        fun σ' H'' z => ⟨w.1.length - (i + 1), by omega, rfl, z.1, z.2⟩, fun x Hx y => ?_⟩
      obtain ⟨ex, rx⟩ := g2 x Hx y
      subst ex
      cases hb : bindV tg w.1[i] env with
      | none => rw [hb] at hp; exact hp.elim
      | some env1 =>
        rw [hb] at hp
        dsimp only at hp
        refine gT_ok (st := st) hb rx er fun σ2 er2 _ => ⟨m, env1, st, hr, er2, ?_⟩
        cases q : fb env1 st with
        | ok o st' =>
          rw [q] at hp
          cases o with
          | nx env' => exact fun σ' H'' m' e' hr' er' => ⟨hlt, m', env', st', e.trans e', hr', er', SPst.ext e' hp⟩
          | rt d => exact hp
          | bk env' => exact hp
        | exc c fs env' st' => rw [q] at hp; exact hp
        | stuck => rw [q] at hp; exact hp
    · have hi2 : i = w.1.length := by omega
      subst hi2
      rw [List.drop_length, forL_nil ok] at hp
      exact .inl ⟨wj.stop m H' st e hr ok, hp σ H' m Ext.refl hr er⟩
  · rw [forL_no ok] at hp
    exact hp.elim
theorem ls_for {tg : T} {te it : Expr} {b : List Stmt} {fi : Env → Store → R (List Dk.D × Option (Nat × List Dk.D))} {fb : FS} {pos : Pos} (hp : PassesOwn (model X.prog X.w) X.A X.env X.xe) (hc : X.calm = true) (hi : PI X te it (LI X.K N fi W)) (hg : PG X te (gT X.K tg)) (hb : PSs X b (LS X.K N fb W)) (hs : noSet it = true) :
    PS X (.For te it b [] pos) (LS X.K N (fun env st => (fi env st).go env fun w st1 => forL w.2 (bindV tg) fb w.1 env st1) W) :=
  PS.imp (ps_for hp hc hi hg hb (noSet_folded hs X.env)) fun D σ H h => for_read (h := h)
end
end Dk
/-! Dk14: an own error's __init__: super().__init__(text), then its fields. -/
namespace Dk
open PySem PySem.Spec PyProof.Rows L2
/-- the statements that set the fields -/
inductive AsgOk (env : PySem.Env) (lm : Str → Option Value) (self : Str) : List Stmt → List (Str × Value) → Prop
  | nil : AsgOk env lm self [] []
  | cons {p f : Str} {v : Value} {p0 p1 p2 p3 : Pos} {ss : List Stmt} {fvs : List (Str × Value)} (hk : env.kindOf p = some .local) (hv : lm p = some v) (hd : (p == ("__debug__" : Str)) = false) (r : AsgOk env lm self ss fvs) :
      AsgOk env lm self (.Assign [.Attribute (.Name self p0) f p1] (.Name p p2) p3 :: ss) ((f, v) :: fvs)
/-- a map with more entries -/
def putM (m : Str → Option Value) : List (Str × Value) → Str → Option Value
  | [] => m
  | (f, v) :: r => putM (fun y => if y = f then some v else m y) r
abbrev excD (C : Addr) (dx : Option Addr) (t1 : Addr) : Obj := { cls := .ref C, dict := dx, data := .fields #[.ref t1, .none, .none, .none, .bool false, .none] }
section
variable {prog : Program} {w : World} {A : Around} {E : Value → Shared → Prop} {K : PySem.W.Frag} {C e dx t1 : Addr} {env : PySem.Env} {lm : Str → Option Value} {self : Str}
theorem asg_more (T : OexC K C) (hfk : env.scope.kind = .function) (hs : env.kindOf self = some .local) (hse : lm self = some (.ref e)) (hsd : (self == ("__debug__" : Str)) = false) {Q : Flow → Shared → Prop} {g : Array GenState} {d : Drawn} {os : OsState} :
    ∀ {ss : List Stmt} {fvs : List (Str × Value)} {m0 : Str → Option Value} {nl : List Str} {hp : Heap} {t : Nat}, AsgOk env lm self ss fvs → (∀ q ∈ fvs, PySem.W.findIn K (.ref C) q.1 = some none) → K.In hp → (∀ b o, K.lookup b = some o → b ≠ dx) → hp.Ns env.locals lm → env.locals ≠ dx → e ≠ dx →
      hp.get? e = some (excD C (some dx) t1) → hp.Ns1 dx m0 → Within m0 nl → nl.length + fvs.length ≤ 1000 →
      (∀ h' tk, (∀ b o, b ≠ dx → hp.get? b = some o → h'.get? b = some o) → h'.Ns1 dx (putM m0 fvs) → Q .next ⟨h', g, d, tk, os⟩) → wpAny (model prog w) A (execs ss env) Q E ⟨hp, g, d, t, os⟩
  | _, _, m0, nl, hp, t, .nil, _, X, _, hn, _, _, he, ns, _, _, hq => wpAny_execs_nil (hq hp t (fun _ _ _ z => z) ns)
  | _, _, m0, nl, hp, t, .cons (p := p) (f := f) (v := v) (fvs := fvs) hk hv hd r, hno, X, hkd, hn, hL, hed, he, ns, wi, hz, hq => by
    obtain ⟨nm, q, N', bs, bm, sn, sub, ab, col, dd, k0, k1, k2, k3, k5, hC, hbm⟩ := T.cls
    have hcl : PySem.W.clsIn K C = some { name := nm, bases := bs, mro := .ref C :: bm, ns := N', qualname := q, hasDict := true, slotNames := sn, subclasses := sub, abstract := ab, collection := col, hasDel := false } := by
      unfold PySem.W.clsIn; rw [hC] <;> rfl
    obtain ⟨oD, _, _, hoD, _, _⟩ := ns.count wi
    refine wpAny_execs_cons (plainObj_wpAny_Assign_Attribute (wpAny_Name (wpAny_loadName_local hfk hk hn hv (wpAny_Name (wpAny_loadName_local hfk hs hn hse ?_) hsd)) hd))
    refine PySem.W.set_plain X (ox := excD C (some dx) t1) (od := some oD) ⟨he, rfl, rfl, hoD⟩ T.sa ?_
    refine PySem.OEX.osa_old X he ns wi (by simp at hz; omega) hcl (show PySem.HandSPX.refsVE (.ref C :: bm) = true from hbm) rfl (hno _ List.mem_cons_self) (fun h' tk' k hn' => ?_)
    have nsL : h'.Ns env.locals lm := by
      obtain ⟨oL, es, ep, e1, e2⟩ := hn
      exact ⟨oL, es, ep, k _ _ hL e1, e2⟩
    refine asg_more T hfk hs hse hsd (nl := f :: nl) r (fun q hq => hno q (List.mem_cons_of_mem _ hq)) (fun b o z => k b o (hkd b o z) (X b o z)) hkd nsL hL hed (k e _ hed he) hn' (Within.cons f v wi) (by simp at hz ⊢; omega) fun h2 tk2 k2 n2 => ?_
    exact hq h2 tk2 (fun b o nb z => k2 b o nb (k b o nb z)) n2
/-- the first field makes the dict -/
theorem asg_first (T : OexC K C) (hfk : env.scope.kind = .function) (hs : env.kindOf self = some .local) (hse : lm self = some (.ref e)) (hsd : (self == ("__debug__" : Str)) = false) {Q : Flow → Shared → Prop} {g : Array GenState} {d : Drawn} {os : OsState}
    {s0 : Stmt} {ss : List Stmt} {q0 : Str × Value} {fvs : List (Str × Value)} {hp : Heap} {t : Nat} (ok : AsgOk env lm self (s0 :: ss) (q0 :: fvs)) (hno : ∀ q ∈ q0 :: fvs, PySem.W.findIn K (.ref C) q.1 = some none) (X : K.In hp) (hke : ∀ b o, K.lookup b = some o → b ≠ e) (hn : hp.Ns env.locals lm) (hL : env.locals ≠ e)
    (he : hp.get? e = some (excD C none t1)) (hz : fvs.length ≤ 900)
    (hq : ∀ h' tk dx, (∀ b o, b ≠ e → hp.get? b = some o → h'.get? b = some o) → hp.objs.size ≤ dx → h'.get? e = some (excD C (some dx) t1) → h'.Ns1 dx (putM (fun _ => none) (q0 :: fvs)) → Q .next ⟨h', g, d, tk, os⟩) :
    wpAny (model prog w) A (execs (s0 :: ss) env) Q E ⟨hp, g, d, t, os⟩ := by
  cases ok with
  | @cons p f v p0 p1 p2 p3 _ _ hk hv hd r =>
    obtain ⟨nm, q, N', bs, bm, sn, sub, ab, col, dd, k0, k1, k2, k3, k5, hC, hbm⟩ := T.cls
    have hcl : PySem.W.clsIn K C = some { name := nm, bases := bs, mro := .ref C :: bm, ns := N', qualname := q, hasDict := true, slotNames := sn, subclasses := sub, abstract := ab, collection := col, hasDel := false } := by
      unfold PySem.W.clsIn; rw [hC] <;> rfl
    refine wpAny_execs_cons (plainObj_wpAny_Assign_Attribute (wpAny_Name (wpAny_loadName_local hfk hk hn hv (wpAny_Name (wpAny_loadName_local hfk hs hn hse ?_) hsd)) hd))
    refine PySem.W.set_plain X (ox := excD C none t1) (od := none) ⟨he, rfl, rfl, trivial⟩ T.sa ?_
    refine PySem.HandSPX.exc_osa X he hcl (show PySem.HandSPX.refsVE (.ref C :: bm) = true from hbm) rfl (hno _ List.mem_cons_self) (fun h' tk' dx k hdx hne he' hn' => ?_)
    have old : ∀ {b : Addr} {o : Obj}, hp.get? b = some o → b ≠ dx := fun {b o} z => Nat.ne_of_lt (Nat.lt_of_lt_of_le (Heap.lt_size z) hdx)
    obtain ⟨oL, es, ep, e1, e2⟩ := id hn
    have nsL : h'.Ns env.locals lm := ⟨oL, es, ep, k _ _ hL e1, e2⟩
    refine asg_more T hfk hs hse hsd (nl := [f]) r (fun q hq => hno q (List.mem_cons_of_mem _ hq)) (fun b o z => k b o (hke b o z) (X b o z)) (fun b o z => old (X b o z)) nsL (old e1) (Ne.symm hne) he' hn' (Within.cons f v Within.nil) (by simp; omega) fun h2 tk2 k2 n2 => ?_
    exact hq h2 tk2 dx (fun b o nb z => k2 b o (old z) (k b o nb z)) hdx (k2 e _ (Ne.symm hne) he') n2
end
/-- the text of such an __init__ -/
structure InitC (prog : Program) (K : PySem.W.Frag) (mg : Str → Option Value) (C fI : Addr) (flds : List Str) : Prop where
  T : OexC K C
  iC : PySem.W.findIn K (.ref C) "__init__" = some (some (.ref fI))
  nd : flds.Nodup
  ne : flds ≠ []
  few : flds.length ≤ 900
  no : ∀ f ∈ flds, PySem.W.findIn K (.ref C) f = some none
  up : PySem.W.ks_superIn K C C "__init__" = some (some (.builtin "ValueError.__init__"))
  opq : PySem.W.nsIn K cStatics "thirdparty.any" = some none
  sb : PySem.W.subIn K (.ref C) (.type "ValueError") = some true
  ms : mg "super" = none
  top : (prog.main.scope.names.lookup ("super" : Str)).isSome = false
  fd : ∃ (oc : Value) (od : Option Addr) (osl : Array (Option Value)) (name qual : Str) (params : Arguments) (scope : Scope) (dV kV doc pm ct : Value) (an : Option Addr) (cda cc : Addr) (ccl cl : Value) (cdd cld : Option Addr) (vs : Array Value) (ccs csl : Array (Option Value)) (file : Str) (tf : Tok)
      (self txt : Str) (j : Nat) (q0 q1 q2 q3 q4 q5 : Pos) (ss : List Stmt) (as : List Str) (ar : Arg),
    K.lookup fI = some ⟨oc, od, .func (PySem.W.ksFn name qual params (.Expr (.Call (.Attribute (.Call (.Name "super" q0) [] [] q1) "__init__" q2) [.Constant (.str txt) j q3] [] q4) q5 :: ss) scope dV kV doc pm an (.ref cda) ct cc), osl⟩ ∧
    PySem.W.isFn K (.ref fI) = true ∧ PySem.W.codeIn K (.ref cda) qual = true ∧ K.lookup cda = some ⟨ccl, cdd, .fields vs, ccs⟩ ∧ vs[2]? = some (.str file tf) ∧ ((prog.main.file : Str) == file) = true ∧ K.lookup cc = some ⟨cl, cld, .cell (some (.ref C)), csl⟩ ∧
    (params.posonlyargs ++ params.args).head? = some ar ∧ ar.arg = self ∧ (self == ("__debug__" : Str)) = false ∧ (q2.endLine == q4.line) = true ∧ scope.kind = .function ∧ scope.isCoroutine = false ∧ scope.isGenerator = false ∧
    (∀ x ∈ scope.names, x.2 ≠ .cell) ∧ (∀ x ∈ self :: as, scope.names.lookup x = some .local) ∧ scope.names.lookup ("super" : Str) = some .globalImplicit ∧ scope.names.lookup ("__class__" : Str) = some .free ∧ (self :: as).Nodup ∧ as.length = flds.length ∧
    (∀ us : List Value, us.length = as.length + 1 → bindArgs (PySem.W.ksFn name qual params (.Expr (.Call (.Attribute (.Call (.Name "super" q0) [] [] q1) "__init__" q2) [.Constant (.str txt) j q3] [] q4) q5 :: ss) scope dV kV doc pm an (.ref cda) ct cc) ⟨us, []⟩ = pure ((self :: as).zip us)) ∧
    (∀ (env : PySem.Env) (lm : Str → Option Value) (us : List Value), us.length = as.length → (∀ x ∈ as, env.kindOf x = some .local) → (∀ (i : Nat) (x : Str) (v : Value), as[i]? = some x → us[i]? = some v → lm x = some v) → AsgOk env lm self ss (flds.zip us))
section
variable {prog : Program} {w : World} {A : Around} {K : PySem.W.Frag} {mg : Str → Option Value} {base : Heap} {C fI e t0 : Addr} {flds : List Str} {h : Heap} {g : Array GenState} {d : Drawn} {t : Nat} {os : OsState} {us : List Value} {R : Result → Shared → Prop}
theorem mcall_eq {o : Expr} {m : Str} {apos pos : Pos} {es : List Expr} {env : PySem.Env} (hf : methodCallForm (es.length + ([] : List Keyword).length) (backTo pos (starEach es env)) (backToKw pos (keywordEach [] env)) = true) (hl : (apos.endLine == pos.line) = true) :
    eval (.Call (.Attribute o m apos) es [] pos) env = (do
      let ov ← attributeBase o m env (eval o env)
      standAt apos.atName
      let (f, first) ← holding [ov] (getMethod ov m (L2.plainOf o env))
      callWith pos f first (backTo pos (starEach es env)) []) := by
  show (do
    let ov ← attributeBase o m env (eval o env)
    standAt apos.atName
    methodCall o m apos pos env ov (es.length + ([] : List Keyword).length) (backTo pos (starEach es env)) (backToKw pos (keywordEach [] env))) = _
  simp only [L2.mcall_line hf hl]
  rfl
theorem zip_find : ∀ {ps : List Str} {us : List Value} {i : Nat} {x : Str} {v : Value}, ps.Nodup → ps[i]? = some x → us[i]? = some v → (ps.zip us).reverse.lookup x = some v := by
  intro ps
  induction ps with
  | nil => intro us i x v _ h; simp at h
  | cons p ps ih =>
    intro us i x v nd hp hu
    cases us with
    | nil => simp at hu
    | cons u us =>
      obtain ⟨n1, n2⟩ := List.nodup_cons.mp nd
      rw [List.zip_cons_cons, List.reverse_cons, List.lookup_append]
      cases i with
      | zero =>
        simp at hp hu
        subst hp; subst hu
        have : (ps.zip us).reverse.lookup p = none := by
          rw [List.lookup_eq_none_iff]
          intro q hq
          have hm := List.mem_reverse.mp hq
          have h1 := (List.of_mem_zip (a := q.1) (b := q.2) (by cases q; exact hm)).1
          simp only [bne_iff_ne, ne_eq, beq_eq_false_iff_ne]
          intro z
          rw [← z] at h1
          exact n1 h1
        rw [this]
        simp
      | succ i =>
        have := ih n2 (by simpa using hp) (by simpa using hu)
        rw [this]; rfl
theorem init_run (Md : Mod K mg base) (J : InitC prog K mg C fI flds) (kb : ∀ b o, base.get? b = some o → h.get? b = some o) (nb : base.get? e = none) (lim : h.NoLimit) (he : h.get? e = some (HandSPX.excO C t0)) (hroom : A.depth < recursionLimit) (hl : us.length = flds.length)
    (hq : ∀ h' tk dx t1, (∀ b o, b ≠ e → h.get? b = some o → h'.get? b = some o) → h.objs.size ≤ dx → h'.get? e = some (excD C (some dx) t1) → h'.Ns1 dx (putM (fun _ => none) (flds.zip us)) → R (.ok (.ret .none)) ⟨h', g, d, tk, os⟩) :
    codeAny (model prog w) A (.call (.ref fI) ⟨.ref e :: us, []⟩) R ⟨h, g, d, t, os⟩ := by
  obtain ⟨oc, od, osl, name, qual, params, scope, dV, kV, doc, pm, ct, an, cda, cc, ccl, cl, cdd, cld, vs, ccs, csl, file, tf, self, txt, j, q0, q1, q2, q3, q4, q5, ss, as, ar, lk, hfn, hcd, hcode, hvs, hfile, hcell, hpar, har, hsd, hline, hk, hco, hgen, hnc, hloc, hks, hkc, hnd, hlen, hbind, hasg⟩ := J.fd
  have X : K.In h := Md.kin.keeps kb
  refine PySem.ks_codeAny_call_defAt (fd := PySem.W.ksFn name qual params _ scope dV kV doc pm an (.ref cda) ct cc) (binds := (self :: as).zip (.ref e :: us)) hroom (X _ _ lk) rfl lim (PySem.W.codeRec_of X hcd) rfl (.of_eq (hbind _ (by simp [hl, hlen]))) hnc (fun y hy => hloc _ (List.of_mem_zip (a := y.1) (b := y.2) (by cases y; exact hy)).1) (fun h0 hns k0 => ?_) hco hgen hk
  obtain ⟨oC, hC, hbm⟩ : ∃ oC, h.get? C = some oC ∧ ∃ cd, oC.data = .cls cd := by
    obtain ⟨nm, q, N', bs, bm, sn, sub, ab, col, dd, k0, k1, k2, k3, k5, hC, hbm⟩ := J.T.cls
    exact ⟨_, X _ _ hC, _, rfl⟩
  obtain ⟨cdC, hCd⟩ := hbm
  have hmC : PySem.W.mroIn K C (.ref C) = some true := by
    obtain ⟨nm, q, N', bs, bm, sn, sub, ab, col, dd, k0, k1, k2, k3, k5, hC, hbm⟩ := J.T.cls
    have hcl : PySem.W.clsIn K C = some { name := nm, bases := bs, mro := .ref C :: bm, ns := N', qualname := q, hasDict := true, slotNames := sn, subclasses := sub, abstract := ab, collection := col, hasDel := false } := by
      unfold PySem.W.clsIn; rw [hC] <;> rfl
    unfold PySem.W.mroIn
    rw [hcl]
    simp
  have X0 : K.In h0 := fun b o z => k0 b o (X b o z)
  have he0 := k0 _ _ he
  have nke : ∀ b o, K.lookup b = some o → b ≠ e := fun b o z q => by
    have y := Md.kin b o z
    rw [q, nb] at y; cases y
  have hLe : h.objs.size ≠ e := fun z => absurd (Heap.lt_size he) (by rw [← z]; exact Nat.lt_irrefl _)
  have lself : ((self :: as).zip (Value.ref e :: us)).reverse.lookup self = some (.ref e) := zip_find (i := 0) hnd (by simp) (by simp)
  refine PySem.ks_wpAt_execs_cons (PySem.ks_wpAt_Expr_any (PySem.ks_wpAt_MethodCall (pl := L2.plainOf _ _) ?_ (mcall_eq rfl hline)) (hi := by unfold interactive; rw [show (callEnv (PySem.W.ksFn name qual params _ scope dV kV doc pm an (.ref cda) ct cc) h.objs.size fI).scope.kind = .function from hk]; rfl))
  refine PySem.ks_wpAt_super_base (ar := ar) hks hkc rfl rfl (X0 _ _ lk) rfl hpar rfl (X0 _ _ hcode) rfl hvs hfile J.top ?_
  obtain ⟨mb, hb1, hb2⟩ := Md.blt
  have kb0 : ∀ b o, base.get? b = some o → h0.get? b = some o := fun b o z => k0 b o (kb b o z)
  refine PySem.W.ks_loadName_global hk hks (Calls.loadGlobal_builtin (Md.glob.keeps kb0) J.ms (hb1.keeps kb0) ((hb2 "super" (by decide)).trans (by first | boot_by_name | rfl | kernel_rfl)) ⟨rfl, ?_⟩)
  refine wpAny_loadName_free hk hkc rfl ⟨_, X0 _ _ hcell, rfl⟩ ?_
  refine wpAny_loadName_local hk (by rw [har]; exact hloc _ List.mem_cons_self) hns (by rw [har]; exact lself) ?_
  refine PySem.ks_wpAny_isType_cls (k0 _ _ hC) hCd ⟨rfl, ?_⟩
  refine PySem.ks_wpAny_call_super (k0 _ _ hC) hCd he0 rfl (fun c z => nomatch z) (PySem.W.looks_mroIn X0 hmC) (fun h1 e1 k1 => ?_)
  have X1 : K.In h1 := fun b o z => k1 b o (X0 b o z)
  obtain ⟨cd, hcd1, hf⟩ : ∃ cd, PySem.W.clsIn K C = some cd ∧ PySem.W.alongIn K "__init__" ((cd.mro.dropWhile (· != .ref C)).drop 1) = some (some (.builtin "ValueError.__init__")) := by
    have z := J.up
    unfold PySem.W.ks_superIn at z
    cases q : PySem.W.clsIn K C with
    | none => rw [q] at z; cases z
    | some cd => rw [q] at z; exact ⟨cd, rfl, z⟩
  have IA : PySem.W.InstAt h1 e (HandSPX.excO C t0) C none := ⟨k1 _ _ he0, rfl, rfl, trivial⟩
  refine PySem.W.kxs_getMethod PySem.W.kxs_ValueError e1 (PySem.W.looks_opaque X1 J.opq) (l₀ := cd.mro) (fun A Q E s k q => wpAny_bind ((PySem.W.looks_clsIn X1 hcd1) A _ E s k (wpAny_pure q))) rfl X1 hf (IA.type.andThen (PySem.W.looks_subIn X1 J.sb)) (PySem.W.ks_ne X1 IA hcd1) rfl ?_
  have k2 : ∀ b o, h1.get? b = some o → (h1.push (PySem.W.kxs_mw "ValueError.__init__" e)).get? b = some o := fun b o z => Heap.get?_push_of_some _ z
  have hu : (h1.push (PySem.W.kxs_mw "ValueError.__init__" e)).get? h1.objs.size = some (PySem.W.kxs_mw "ValueError.__init__" e) := Heap.get?_push_at rfl rfl
  refine PySem.W.kxs_callWith (i := "ValueError.__init__") (x := e) rfl ?_
  refine Calls.evalArgs_plain (show wpAny _ _ (spliced (backTo q4 (starEach [.Constant (.str txt) j q3] (callEnv (PySem.W.ksFn name qual params _ scope dV kV doc pm an (.ref cda) ct cc) h.objs.size fI)))) _ _ _ from spliced_more (Calls.Constant_str (spliced_none ?_)))
  refine ⟨hu, ?_⟩
  obtain ⟨nm, qn, N', bs, bm, sn, sub, ab, col, dd, k6, k7, k8, k9, k10, hC4, hbm4⟩ := J.T.cls
  have X2 : K.In (h1.push (PySem.W.kxs_mw "ValueError.__init__" e)) := fun b o z => k2 b o (X1 b o z)
  refine wpAny_call (codeAny_of_tree ?_)
  show wpAny _ _ (callAny (.ref h1.objs.size) ⟨[.str txt _], []⟩) _ _ _
  simp only [callAny]
  refine wpAny_bind (wpAny_load hu ?_)
  simp only [PySem.W.kxs_mw, show (Value.type "method-wrapper" == Value.type "method" || Value.type "method-wrapper" == Value.type "builtin_function_or_method" || Value.type "method-wrapper" == Value.type "method-wrapper") = true from by decide, if_true]
  refine PySem.W.KFB.if_so (by decide) ?_
  refine wpAny_bind (PySem.W.check_bound_init F.excBase_ValueError.toExcCallFacts (X2 _ _ hC4) (k2 _ _ (k1 _ _ he0)) rfl ?_)
  refine wpAny_bind (wpAny_pure (wpAny_pure ?_))
  refine ⟨plainId_quiet F.excBase_ValueError.init.plain _, codeAny_builtin F.excBase_ValueError.initEntry ?_⟩
  refine PySem.W.exc_init_tree (cls := .ref C) (t0 := t0) (dv := none) (c2 := .none) (c3 := .none) (b4 := .bool false) (k2 _ _ (k1 _ _ he0)) (by rw [sizeLine_eq]; show 1 ≤ 16777216; decide) (fun h3 k3 e3 _ => ?_)
  have k13 : ∀ b o, b ≠ e → h0.get? b = some o → h3.get? b = some o := fun b o nb' z => k3 b o nb' (k2 b o (k1 b o z))
  have X3 : K.In h3 := fun b o z => k13 b o (nke b o z) (X0 b o z)
  obtain ⟨oL, es, ep, e1', e2'⟩ := hns
  have oLt := k13 _ _ hLe e1'
  have hus : us.length = as.length := by rw [hl, hlen]
  have ok := hasg (callEnv (PySem.W.ksFn name qual params (.Expr (.Call (.Attribute (.Call (.Name "super" q0) [] [] q1) "__init__" q2) [.Constant (.str txt) j q3] [] q4) q5 :: ss) scope dV kV doc pm an (.ref cda) ct cc) h.objs.size fI) (fun x => ((self :: as).zip (Value.ref e :: us)).reverse.lookup x) us hus
    (fun x hx => hloc x (List.mem_cons_of_mem _ hx)) (fun i x v hx hv => zip_find (i := i + 1) hnd (by simpa using hx) (by simpa using hv))
  have hfe := J.ne
  have hno := J.no
  have hfw := J.few
  refine wpAt_of_wpAny ?_
  cases flds with
  | nil => exact absurd rfl hfe
  | cons f0 fr =>
    cases us with
    | nil => simp at hl
    | cons u0 ur =>
      cases ss with
      | nil => cases ok
      | cons s0 sr =>
        refine asg_first J.T hk (show PySem.Env.kindOf (callEnv (PySem.W.ksFn name qual params _ scope dV kV doc pm an (.ref cda) ct cc) h.objs.size fI) self = some .local from hloc self List.mem_cons_self) lself hsd (q0 := (f0, u0)) (fvs := fr.zip ur) ok (fun q hq' => ?_) X3 nke ⟨oL, es, ep, oLt, e2'⟩ hLe e3 ?_ fun h' tk dx k4 hdx e4 n4 => ?_
        · have hz : q ∈ (f0 :: fr).zip (u0 :: ur) := hq'
          exact hno q.1 (List.of_mem_zip (a := q.1) (b := q.2) (by cases q; exact hz)).1
        · rw [List.length_zip]
          simp at hfw
          omega
        · exact hq h' tk dx _ (fun b o nb' z => k4 b o nb' (k13 b o nb' (k0 b o z))) (Nat.le_trans (Nat.le_of_lt (Heap.lt_size oLt)) hdx) e4 n4
end
end Dk
/-! Dk15: raise C(..); try: .. except C as e: .. -/
namespace Dk
open PySem PySem.Spec PyProof.Rows L2
section
variable {N : Nm} {X : Cx} {W : WX}
/-! ### raise -/
/-- C(e, ..), an own error -/
def tMk (C : Addr) (flds : List Str) (ta : TA) : L2.St → Hp → XK → Prop := fun σ H Q => ta σ H fun vs H1 => vs.length = flds.length ∧ ∀ dx, H1 dx = none → Q (.ref C) (some dx) (upd H1 dx (.xd (flds.zip vs)))
theorem put_rel : ∀ {flds : List Str} {vs : List V} {us : List Value} {m0 : Str → Option Value} {f0 : List (Str × V)}, flds.Nodup → vs.length = flds.length → Vals vs us → (∀ g, g ∉ flds → RelO (f0.lookup g) (m0 g)) → (∀ g ∈ flds, f0.lookup g = none) → ∀ g, RelO ((f0 ++ flds.zip vs).lookup g) (putM m0 (flds.zip us) g) := by
  intro flds
  induction flds with
  | nil =>
    intro vs us m0 f0 _ hl r h _ g
    rw [List.zip_nil_left, List.zip_nil_left, List.append_nil]
    exact h g (by simp)
  | cons f fs ih =>
    intro vs us m0 f0 nd hl r h hn g
    obtain ⟨n1, n2⟩ := List.nodup_cons.mp nd
    cases r with
    | nil =>
      simp at hl
    | @cons v u vs us rv rr =>
      rw [List.zip_cons_cons, List.zip_cons_cons, show f0 ++ (f, v) :: fs.zip vs = (f0 ++ [(f, v)]) ++ fs.zip vs by simp]
      refine ih n2 (by simpa using hl) rr (fun y hy => ?_) (fun y hy => ?_) g
      · rw [List.lookup_append]
        by_cases c : y = f
        · subst c
          rw [hn y List.mem_cons_self]
          simp only [if_true]
          show RelO ([(y, v)].lookup y) (some u)
          rw [show ([(y, v)] : List (Str × V)).lookup y = some v by simp]
          exact rv
        · simp only [c, if_false]
          have e : f0.lookup y = none ∨ True := .inr trivial
          have q := h y (fun z => (List.mem_cons.mp z).elim c hy)
          cases hl : f0.lookup y with
          | some w => rw [hl] at q; simpa using q
          | none =>
            rw [hl] at q
            have : ([(f, v)] : List (Str × V)).lookup y = none := by
              rw [List.lookup_cons, show (y == f) = false from beq_false_of_ne c]; rfl
            rw [this]; exact q
      · rw [List.lookup_append, hn y (List.mem_cons_of_mem _ hy)]
        have : ([(f, v)] : List (Str × V)).lookup y = none := by
          rw [List.lookup_cons, show (y == f) = false from beq_false_of_ne fun z => n1 (z ▸ hy)]; rfl
        rw [this]; rfl
theorem pmk_own {x : Str} {p pos : Pos} {C fI : Addr} {flds : List Str} {e : Expr} {es : List Expr} {ta : TA} (J : InitC X.prog X.K X.mg C fI flds) (hdp : X.A.depth + 1 < recursionLimit) (hg : Gl X x) (hm : X.mg x = some (.ref C)) (ha : PA X (e :: es) ta) (hdb : (x == ("__debug__" : Str)) = false) (hes : (e :: es).all noStar = true) (hsz : flds.length ≤ sizeLine) :
    PMk X (.Call (.Name x p) (e :: es) [] pos) (tMk C flds ta) := by
  intro pins s σ H Q I h
  rw [List.all_cons] at hes
  obtain ⟨s1, s2⟩ := Bool.and_eq_true_iff.mp hes
  refine wpAny_Call_Name_kw (ld_glob I hg hm ?_ hdb)
  refine PySem.W.callWith_K (h₀ := X.base) I.ok.mod.kin J.T.kC (thn (ha.run pos pins s σ H _ I h) fun us s1 ⟨vs, H1, I1, r1, hl, q1⟩ => ⟨I1.kIn, ?_⟩) (star_eq s1 es X.env) (star_none X.env pos s2)
  show wpAny _ _ (call (.ref C) us) _ _ _
  obtain ⟨hp, g, dr, tk, os⟩ := s1
  obtain ⟨nm, qn, N', bs, bm, sn, sub, ab, col, dd, k0, k1, k2, k3, k5, hC, hbm⟩ := J.T.cls
  have hus : us.length = flds.length := by rw [← r1.length]; exact hl
  have tI : PySem.W.typeIn X.K (.ref fI) = some (.type "function") := by
    obtain ⟨_, _, _, _, _, _, _, _, _, _, _, _, _, _, _, _, _, _, _, _, _, _, _, _, _, _, _, _, _, _, _, _, _, _, _, _, _, hf, _⟩ := J.fd
    exact beq_iff_eq.mp hf
  have kk : ∀ b o, hp.get? b = some o → ((hp.push (PySem.W.kdv_tup us)).push (PySem.HandSPX.excO C hp.objs.size)).get? b = some o := fun b o z => Heap.get?_push_of_some _ (Heap.get?_push_of_some _ z)
  have hget : ((hp.push (PySem.W.kdv_tup us)).push (PySem.HandSPX.excO C hp.objs.size)).get? (hp.objs.size + 1) = some (PySem.HandSPX.excO C hp.objs.size) := by heap_get
  have young : hp.objs.size ≤ hp.objs.size + 1 := Nat.le_succ _
  have freeE : hp.get? (hp.objs.size + 1) = none := by
    cases z : hp.get? (hp.objs.size + 1) with
    | none => rfl
    | some o => exact absurd (Nat.lt_of_lt_of_le (Heap.lt_size z) young) (Nat.lt_irrefl _)
  refine wpAny_call (PySem.HandSPX.call_own F.excBase_ValueError (fun Y => PySem.HandSPX.refsVE_contains Y bm hbm) (I1.kIn _ _ hC) (PySem.W.looks_findIn I1.kIn J.iC) (fun self => PySem.W.bind_fn I1.kIn self tI) (by rw [hus]; exact hsz) ?_)
  have I2 := I1.kept (t' := tk) kk
  refine init_run I1.ok.mod J (fun b o z => kk b o (I1.bk b o z)) ?_ (I1.nolimit.keeps kk) hget (by rw [make_depth]; exact hdp) hus fun h' tk' dx t1 keep hdx he hns => ?_
  · cases z : X.base.get? (hp.objs.size + 1) with
    | none => rfl
    | some o =>
      have y := I1.bk _ _ z
      rw [freeE] at y; cases y
  · have hpdx : hp.objs.size ≤ dx := Nat.le_trans (by rw [Heap.size_push, Heap.size_push]; exact Nat.le_trans young (Nat.le_succ _)) hdx
    have nH : H1 (hp.objs.size + 1) = none := I1.hok.fresh young
    have nde : dx ≠ hp.objs.size + 1 := fun z => by
      rw [z, Heap.size_push, Heap.size_push] at hdx
      omega
    obtain ⟨G, g1, g2⟩ := restrict h' fun b => decide (b ≠ hp.objs.size + 1)
    have gk : ∀ b, b ≠ hp.objs.size + 1 → G.get? b = h'.get? b := fun b hb => g1 b (decide_eq_true hb)
    have ge : G.get? (hp.objs.size + 1) = none := g2 _ (by simp)
    have oldG : ∀ b o, hp.get? b = some o → G.get? b = some o := fun b o z => by
      have nb : b ≠ hp.objs.size + 1 := fun y => by rw [y, freeE] at z; cases z
      rw [gk b nb]
      exact keep b o nb (kk b o z)
    have rel : ∀ f, RelO ((flds.zip vs).lookup f) (putM (fun _ => none) (flds.zip us) f) := fun f => by
      exact put_rel (m0 := fun _ => none) (f0 := []) J.nd hl r1 (fun _ _ => True.intro) (fun _ _ => rfl) f
    have JG : Inv X pins σ (upd H1 dx (.xd (flds.zip vs))) ⟨G, g, dr, tk', os⟩ :=
      I1.laid (t' := tk') (a := dx) (o := .xd (flds.zip vs)) (h' := G) oldG hpdx ⟨_, hns.at fun o z => (gk dx nde).trans z, rel⟩
    refine ⟨rfl, hp.objs.size + 1, _, _, ⟨G, g, dr, tk', os⟩, _, .ref C, some dx, rfl, JG, fun b o z => ?_, ge, he, ⟨rfl, rfl⟩, rfl, rfl, ?_, rfl, I1.bare, raises_own J.T.exC J.T.tyC, q1 dx (I1.hok.fresh hpdx)⟩
    · by_cases c : b = hp.objs.size + 1
      · rw [c, ge] at z; cases z
      · exact (gk b c).symm.trans z
    · rw [upd_ne (Ne.symm nde)]
      exact nH
end
end Dk
/-! Dk16: raise and try by data. -/
namespace Dk
open PySem PySem.Spec PyProof.Rows L2
section
variable {K : PySem.W.Frag} {N : Nm} {X : Cx} {W : WX} {m : List Addr} {H : Hp} {σ : L2.St} {env : Env} {st : Store} {D : Ends} {pins : List (Addr × Obj)}
theorem zipF_len : ∀ {l : List Nat} {ds : List Dk.D} {fs : List (Nat × Dk.D)}, zipF l ds = some fs → ds.length = l.length
  | [], [], _, _ => rfl
  | f :: r, d :: ds, fs, h => by
    unfold zipF at h
    cases q : zipF r ds with
    | none => rw [q] at h; cases h
    | some t => simp [zipF_len q]
  | [], _ :: _, _, h => by cases h
  | _ :: _, [], _, h => by cases h
theorem zipF_RF : ∀ {l : List Nat} {ds : List Dk.D} {fs : List (Nat × Dk.D)} {vs : List V}, zipF l ds = some fs → RDs K N m H ds vs → RF K N m H fs ((l.map N.fld).zip vs)
  | [], [], fs, vs, h, r => by
    cases h
    exact .nil
  | f :: l, d :: ds, fs, vs, h, r => by
    obtain ⟨v, vr, rfl, r1, r2⟩ := r
    unfold zipF at h
    cases q : zipF l ds with
    | none => rw [q] at h; cases h
    | some t =>
      rw [q] at h
      cases h
      exact .cons ⟨rfl, r1⟩ (zipF_RF q r2)
  | [], _ :: _, _, _, h, _ => by cases h
  | _ :: _, [], _, _, h, _ => by cases h
theorem ls_rse {x : Str} {p pos pos' : Pos} {c fI : Nat} {l : List Nat} {e : Expr} {es : List Expr} {fa : FA} (hc : X.calm = true) (tk : Takes X W) (J : InitC X.prog X.K X.mg (N.clA c) fI (l.map N.fld)) (hdp : X.A.depth + 1 < recursionLimit) (hg : Gl X x) (hm : X.mg x = some (.ref (N.clA c)))
    (ha : PA X (e :: es) (LA X.K N fa W)) (hdb : (x == ("__debug__" : Str)) = false) (hes : (e :: es).all noStar = true) (hsz : l.length ≤ 1000) :
    PS X (.Raise (some (.Call (.Name x p) (e :: es) [] pos)) none pos') (LS X.K N (fun env st => (fa env st).go env fun ds st1 => match zipF l ds with
      | some fs => .exc c fs env st1
      | none => .stuck) W) :=
  PS.imp (ps_raise hc tk (pmk_own J hdp hg hm ha hdb hes (by rw [List.length_map, sizeLine_eq]; omega))) fun D σ H ⟨m, env, st, hr, er, h⟩ => ⟨m, env, st, hr, er, h.go Ext.refl hr.nt er fun ds st1 vs H1 m1 _ e1 hr1 rs h1 => by
    cases q : zipF l ds with
    | none => rw [q] at h1; exact h1.elim
    | some fs =>
      rw [q] at h1
      have hl := zipF_len q
      refine ⟨by rw [List.length_map, ← rs.len, hl], fun dx hdx => ?_⟩
      have e3 := Ext.fresh (m := m1) (o := .xd ((l.map N.fld).zip vs)) hdx
      refine h1 dx σ _ m1 (e1.trans e3) (hr1.fresh hdx) ((er.mono e1 hr.nt).mono e3 hr1.nt) ⟨_, upd_same, fun z => ?_, (zipF_RF q rs).mono e3 hr1.nt⟩
      obtain ⟨o, y, _⟩ := hr1.nt dx z
      rw [hdx] at y; cases y⟩

/-! ### what is caught -/
structure Caught (X : Cx) (pins : List (Addr × Obj)) (B : Heap) (a : Addr) (cls : Value) (d : Option Addr) (σ : L2.St) (H : Hp) (sI s : Shared) : Prop where
  J : Inv X pins σ H sI
  nb : ∀ b o, sI.heap.get? b = some o → b ∉ frs X.stack → B.get? b = some o
  up : sI.heap.UpToSlots s.heap
  fly : HandSPX.FlyingZ B (X.env :: X.outer) a (Zc cls d) s.heap
  na : H a = none
  os : s.os = sI.os
  ag : AllBare s.gens
variable {B : Heap} {a : Addr} {cls : Value} {d : Option Addr} {sI s : Shared}
theorem Caught.inv (c : Caught X pins B a cls d σ H sI s) : Inv X pins σ H s := c.J.landed c.nb c.fly.1 c.up c.os c.ag
/-- its flight set to none once more -/
theorem Caught.turn {M : Model} {A : Around} {E : Value → Shared → Prop} {Q : Unit → Shared → Prop} (c : Caught X pins B a cls d σ H sI s) (h : ∀ s', Caught X pins B a cls d σ H sI s' → Q () s') : wpAny M A (setFlight (.ref a) none) Q E s :=
  HandSPX.lands_againZ c.fly fun _ f u => h _ ⟨c.J, c.nb, c.up.trans u, f, c.na, c.os, c.ag⟩
/-- it may be named, too -/
theorem Caught.track (hs : X.stack = X.env :: X.outer) (hf : X.env.frame = some X.env.locals) (c : Caught X pins B a cls d σ H sI s) : ∃ oe vs, oe.cls = cls ∧ oe.dict = d ∧ oe.data = .fields vs ∧ s.heap.get? a = some oe ∧ Inv X pins σ (upd H a (ExO oe a)) s := by
  have I := c.inv
  obtain ⟨oe, vs, ho, hz, hd⟩ := c.fly.there
  have out : a ∉ frs (X.env :: X.outer) := fun hm => by
    obtain ⟨_, o1, y, hn⟩ := c.fly.2.2.1.mem hm
    rw [ho] at y
    cases y
    exact hn _ hd
  have aL : a ≠ X.env.locals := fun z => out (List.mem_filterMap.mpr ⟨X.env, List.mem_cons_self, by rw [hf, z]⟩)
  have ground : ∀ {b : Addr} {o : Obj}, sI.heap.get? b = some o → b ∉ frs X.stack → b ≠ a := fun {b o} z nf q => by
    have y := c.nb b o z nf
    rw [q, c.fly.2.1] at y; cases y
  have inst : ∀ {b : Addr}, b ∉ X.fs → b ≠ X.env.locals → b ∉ frs X.stack := fun {b} h1 h2 hm => (List.mem_cons.mp (c.J.stkSub b hm)).elim h2 h1
  refine ⟨oe, vs, hz.1, hz.2, hd, ho, ⟨I.ok, I.os, I.bare, ⟨I.base.keep, I.base.slot, fun b o z n hx => ?_, I.base.there, fun b xs z => ?_, fun b o u z => ?_, fun b ps z => ?_⟩, I.loc, I.cell, ?_, fun x k z => ?_, fun p hp => ?_, fun b ob z => ?_, I.len⟩⟩
  · have ne : b ≠ a := by
      intro q
      subst q
      obtain ⟨o', y⟩ := c.J.base.there b o z hx
      refine ground y (by rw [hs]; exact out) rfl
    rw [upd_ne ne]
    exact I.base.free b o z n hx
  · have y := I.base.tups b xs z
    rw [upd_ne (ne_of_none y c.na)]; exact y
  · have y := I.base.frzs b o u z
    rw [upd_ne (ne_of_none y c.na)]; exact y
  · obtain ⟨more, y⟩ := I.base.tbls b ps z
    exact ⟨more, by rw [upd_ne (ne_of_none y c.na)]; exact y⟩
  · rw [upd_ne (Ne.symm aL)]; exact I.free
  · have ne : k ≠ a := fun q => by
      obtain ⟨v, hv⟩ := I.cell x k z
      rw [q] at hv
      obtain ⟨oc, hc1, hc2⟩ := hv
      rw [ho] at hc1
      cases hc1
      rw [hd] at hc2
      cases hc2
    rw [upd_ne ne]
    exact I.freeC x k z
  · obtain ⟨y1, y2, y3, y4, y5⟩ := I.pin p hp
    have ne : p.1 ≠ a := ground (c.J.pin p hp).1 (inst y4 y3)
    exact ⟨y1, by rw [upd_ne ne]; exact y2, y3, y4, y5⟩
  · by_cases q : b = a
    · subst q
      rw [upd_same] at z
      cases z
      exact ⟨ho, ⟨_, ho⟩, fun h1 h2 y k => k _ y⟩
    · rw [upd_ne q] at z
      exact (I.hok b ob z).stay (fun _ _ _ y => y) (fun k y => by rw [upd_ne (ne_of_none y c.na)]; exact y) fun k xs y => by rw [upd_ne (ne_of_none y c.na)]; exact y
/-- into a suite, out of it -/
theorem Inv.inSuite (I : Inv X pins σ H s) (a : Addr) : Inv (X.suite a (X.pn ++ pins)) [] σ H s :=
  ⟨I.ok.suite _ _, I.os, I.bare, I.base, I.loc, I.cell, I.free, I.freeC, fun p hp => I.pin p (by simpa using hp), I.hok, I.len⟩
theorem Inv.outSuite {pn' : List (Addr × Obj)} (I : Inv (X.suite a (X.pn ++ pins)) pn' σ H s) (ok : X.Ok) : Inv X pins σ H s :=
  ⟨ok, I.os, I.bare, I.base, I.loc, I.cell, I.free, I.freeC, fun p hp => I.pin p (List.mem_append_left _ hp), I.hok, I.len⟩
end
end Dk
/-! Dk17: try: .. except C as e: .. -/
namespace Dk
open PySem PySem.Spec PyProof.Rows L2
abbrev FHd := Nat → List (Nat × D) → Env → Store → RS
/-- no error leaves a suite -/
abbrev Wno : WX := fun _ _ _ _ => False
noncomputable def asF (i : Nat) (fb : FS) (c : Nat) (fs : List (Nat × D)) (env : Env) (st : Store) : RS := if i < env.length then (match fb (env.set i (some (.loc st.length))) (st ++ [.exn c fs]) with
  | .ok (.nx env2) st2 => .ok (.nx (env2.set i none)) st2
  | .ok (.bk env2) st2 => .ok (.bk (env2.set i none)) st2
  | .ok (.rt d) st2 => .ok (.rt d) st2
  | _ => .stuck) else .stuck
noncomputable def unF (fb : FS) (env : Env) (st : Store) : RS := match fb env st with
  | .ok o st2 => .ok o st2
  | _ => .stuck
inductive Hdl (X : Cx) (N : Nm) (sub : Nat → Nat → Bool) : List ExceptHandler → FHd → Prop
  | nil : Hdl X N sub [] fun c fs env st => .exc c fs env st
  | as {x n : Str} {k i : Nat} {b₀ : Stmt} {su : List Stmt} {np pos : Pos} {hds : List ExceptHandler} {fb : FS} {FH : FHd} (hc : Names X x (.ref (N.clA k))) (hk : N.isExn k = true) (hi : X.N[i]? = some n) (hn : X.env.kindOf n = some .local)
      (hb : ∀ (a : Addr) (pn : List (Addr × Obj)), PSs (X.suite a pn) (b₀ :: su) (LS X.K N fb Wno)) (r : Hdl X N sub hds FH) :
      Hdl X N sub (.ExceptHandler (some (.Name x np)) (some n) (b₀ :: su) pos :: hds) fun c fs env st => if sub c k = true then asF i fb c fs env st else FH c fs env st
  | un {x : Str} {k : Nat} {b₀ : Stmt} {su : List Stmt} {np pos : Pos} {hds : List ExceptHandler} {fb : FS} {FH : FHd} (hc : Names X x (.ref (N.clA k))) (hk : N.isExn k = true)
      (hb : ∀ (a : Addr) (pn : List (Addr × Obj)), PSs (X.suite a pn) (b₀ :: su) (LS X.K N fb Wno)) (r : Hdl X N sub hds FH) :
      Hdl X N sub (.ExceptHandler (some (.Name x np)) none (b₀ :: su) pos :: hds) fun c fs env st => if sub c k = true then unF fb env st else FH c fs env st
section
variable {N : Nm} {X : Cx} {W : WX} {nf : Nat} {sub : Nat → Nat → Bool} {pins : List (Addr × Obj)} {B : Heap} {a : Addr} {σ : L2.St} {H : Hp} {sI s : Shared} {D : Ends}
theorem hdl_ok (F : NmF X.K N nf sub) (hs : X.stack = X.env :: X.outer) (hf : X.env.frame = some X.env.locals) (hN : X.N.Nodup) (tk : Takes X W) {hds : List ExceptHandler} {FH : FHd} (h : Hdl X N sub hds FH) : ∀ {c : Nat} {fs : List (Nat × Dk.D)} {dd : Addr} {m : List Addr} {env : Env} {st : Store} {s : Shared},
    N.isExn c = true → Caught X pins B a (.ref (N.clA c)) (some dd) σ H sI s → HR X.K N m H st → ER X.K N m H σ env → XD X.K N m H dd fs → SPst X.K N m H (FH c fs env st) D W → wpAny (model X.prog X.w) X.A (handleBy (.ref a) X.env hds) (SP X pins D) X.xe s := by
  -- a clause's test
  have test : ∀ {c k : Nat} {dd : Addr} {s : Shared} {x : Str} {np : Pos} {b : Bool} {Q : Bool → Shared → Prop} {E : Value → Shared → Prop}, N.isExn c = true → N.isExn k = true → sub c k = b → Names X x (.ref (N.clA k)) → Caught X pins B a (.ref (N.clA c)) (some dd) σ H sI s → Q b s →
      wpAny (model X.prog X.w) (X.A.mark (some (.ref a))) (eval (.Name x np) X.env) (fun cv s₁ => wpAny (model X.prog X.w) (X.A.mark (some (.ref a))) (excMatches (.ref a) cv) Q E s₁) E s := by
    intro c k dd s x np b Q E ec ek eb nm C q
    have I := C.inv
    obtain ⟨oe, vs, ho, hz, hd⟩ := C.fly.there
    have T := F.xf k ek
    have m1 : PySem.W.exmOne X.K (.ref (N.clA c)) (.ref (N.clA k)) = some b := by
      rw [← eb]
      exact PySem.W.exm_ref T.exC T.hdC (F.xt k ek) (F.xq c k ec ek)
    have look : PySem.W.Looks (model X.prog X.w) s.heap (typeOf (.ref a)) (.ref (N.clA c)) := fun _ _ _ _ k' q' => wpAny_typeOf_ref (k' _ _ ho) (by rw [hz.1]; exact q')
    have go := PySem.W.exm_one (M := model X.prog X.w) I.kIn look m1
    have I2 := Inv.inSuite I a
    obtain ⟨hg, hdbg, hm | ⟨hm, hv, hnn⟩⟩ := nm
    · exact ld_glob (X := X.suite a (X.pn ++ pins)) I2 hg hm (go.here q) hdbg
    · exact ld_blt (X := X.suite a (X.pn ++ pins)) I2 hg hm hv (go.here q) hnn hdbg
  induction h with
  | nil =>
    intro c fs dd m env st s ec C hr er xd h
    refine wpAny_handleBy_nil ?_
    obtain ⟨f1, f2, f3, oe, vs, T, oT, tv, g1, g2, g3, g4, g5⟩ := id C.fly
    unfold PySem.passOn
    refine wpAny_bind (wpAny_field g1 g3 g4 ?_)
    rw [if_neg (show ¬ ((Value.ref T == Value.none) = true) from by simp)]
    have on : wpAny (model X.prog X.w) X.A (setFlight (.ref a) X.env.frame) (fun _ s4 => wpAny (model X.prog X.w) X.A (throw (.ref a) : Sem Flow) (SP X pins D) X.xe s4) X.xe s := by
      rw [hf]
      exact HandSPX.setFlight_upZ C.fly fun h4 up u => wpAny_throw (tk _ _ ⟨a, B, sI, pins, σ, H, _, _, rfl, C.J, C.nb, C.up.trans u, .inr (.inr (by rw [hs]; exact up)), C.na, C.os, C.ag, h dd σ H m Ext.refl hr er xd⟩)
    first
      | exact wpAny_bind (wpAny_pure (wpAny_bind on))
      | exact wpAny_bind on
  | @as x n k i b₀ su np pos hds fb FH hc hk hi hn hb r ih =>
    intro c fs dd m env st s ec C hr er xd h
    refine wpAny_handleBy_cons (codeAny_handlers_test ?_) (by intro q; cases q)
    cases q : sub c k with
    | false =>
      refine test ec hk q hc C ?_
      show wpAny _ X.A (handleBy (.ref a) X.env hds) _ _ _
      refine ih ec C hr er xd ?_
      dsimp only at h
      rw [q, if_neg Bool.false_ne_true] at h
      exact h
    | true =>
      refine test ec hk q hc C ?_
      dsimp only at h
      rw [q, if_pos rfl] at h
      unfold asF at h
      refine codeAny_handlers_suite_as (C.turn fun s4 C4 => ?_)
      split at h
      · rename_i hl
        obtain ⟨oe, vs, z1, z2, z3, z4, I4⟩ := C4.track hs hf
        have I5 := Inv.inSuite I4 a
        refine store_ok (X := X.suite a (X.pn ++ pins)) (v := .ref a) I5 hN hi (.inl hn) rfl (fun s5 S5 => ?_) (.inr hn)
        obtain ⟨fv, x1, x2, x3⟩ := xd
        have e3 := Ext.push (m := m) (o := ExO oe a) C.na
        have rel : HR X.K N (m ++ [a]) (upd H a (ExO oe a)) (st ++ [.exn c fs]) := by
          obtain ⟨y1, y2⟩ := e3.keep dd _ x1 x2
          exact hr.push C.na ⟨ec, oe, dd, fv, vs, upd_same, z1, z2, z3, y1, y2, x3.mono e3 hr.nt⟩
        have er2 : ER X.K N (m ++ [a]) (upd H a (ExO oe a)) (σ.set i (some (.ref a))) (env.set i (some (.loc st.length))) := (er.mono e3 hr.nt).set hl ⟨a, rfl, by rw [← hr.len]; simp⟩
        refine wpAny_mono ((hb a (X.pn ++ pins)).run [] s5 _ _ { nx := fun σ' H' => D.nx (σ'.set i none) H', rt := D.rt, bk := fun σ' H' => D.bk (σ'.set i none) H' } S5 ⟨m ++ [a], _, _, rel, er2, ?_⟩) (fun f s6 hsp => ?_) (fun _ _ z => False.elim z)
        · cases qb : fb (env.set i (some (.loc st.length))) (st ++ [.exn c fs]) with
          | ok o st' =>
            rw [qb] at h
            cases o with
            | nx env' => exact fun σ' H' m' e' hr' er' => h _ H' m' (e3.trans e') hr' er'.unset
            | rt d => exact fun v H' m' e' hr' rd => h v H' m' (e3.trans e') hr' rd
            | bk env' => exact fun σ' H' m' e' hr' er' => h _ H' m' (e3.trans e') hr' er'.unset
          | exc c' fs' env' st' => rw [qb] at h; exact h.elim
          | stuck => rw [qb] at h; exact h.elim
        · have ok := C.J.ok
          have ends : ∀ {σ6 : L2.St} {H6 : Hp} {Q : Shared → Prop}, Inv (X.suite a (X.pn ++ pins)) [] σ6 H6 s6 → (∀ s7, Inv X pins (σ6.set i none) H6 s7 → Q s7) → wpAny (model X.prog X.w) X.A (do bindName X.env n .none; unbindBehindTheSuite X.env n pos) (fun _ s7 => Q s7) X.xe s6 :=
            fun S6 hq => gone_ok (Inv.outSuite S6 ok) hN hi hn hq
          cases f with
          | next =>
            obtain ⟨σ6, H6, S6, q6⟩ := hsp
            exact ends S6 fun s7 J7 => ⟨_, _, J7, q6⟩
          | brk =>
            obtain ⟨σ6, H6, S6, q6⟩ := hsp
            exact ends S6 fun s7 J7 => ⟨_, _, J7, q6⟩
          | cont =>
            obtain ⟨σ6, H6, S6, q6⟩ := hsp
            exact q6.elim
          | ret u =>
            obtain ⟨v6, σ6, H6, S6, r6, q6⟩ := hsp
            exact ends S6 fun s7 J7 => ⟨_, _, _, J7, r6, q6⟩
      · exact h.elim
  | @un x k b₀ su np pos hds fb FH hc hk hb r ih =>
    intro c fs dd m env st s ec C hr er xd h
    refine wpAny_handleBy_cons (codeAny_handlers_test ?_) (by intro q; cases q)
    cases q : sub c k with
    | false =>
      refine test ec hk q hc C ?_
      show wpAny _ X.A (handleBy (.ref a) X.env hds) _ _ _
      refine ih ec C hr er xd ?_
      dsimp only at h
      rw [q, if_neg Bool.false_ne_true] at h
      exact h
    | true =>
      refine test ec hk q hc C ?_
      dsimp only at h
      rw [q, if_pos rfl] at h
      unfold unF at h
      refine codeAny_handlers_suite (C.turn fun s4 C4 => ?_)
      refine wpAny_mono ((hb a (X.pn ++ pins)).run [] s4 _ _ { nx := D.nx, rt := D.rt, bk := D.bk } (Inv.inSuite C4.inv a) ⟨m, env, st, hr, er, ?_⟩) (fun f s6 hsp => ?_) (fun _ _ z => False.elim z)
      · cases qb : fb env st with
        | ok o st' =>
          rw [qb] at h
          cases o with
          | nx env' => exact h
          | rt d => exact h
          | bk env' => exact h
        | exc c' fs' env' st' => rw [qb] at h; exact h.elim
        | stuck => rw [qb] at h; exact h.elim
      · have ok := C.J.ok
        cases f with
        | next =>
          obtain ⟨σ6, H6, S6, q6⟩ := hsp
          exact ⟨_, _, Inv.outSuite S6 ok, q6⟩
        | brk =>
          obtain ⟨σ6, H6, S6, q6⟩ := hsp
          exact ⟨_, _, Inv.outSuite S6 ok, q6⟩
        | cont =>
          obtain ⟨σ6, H6, S6, q6⟩ := hsp
          exact q6.elim
        | ret u =>
          obtain ⟨v6, σ6, H6, S6, r6, q6⟩ := hsp
          exact ⟨_, _, _, Inv.outSuite S6 ok, r6, q6⟩
/-- try: body / clauses -/
theorem ls_try {body : List Stmt} {h₀ : ExceptHandler} {hds : List ExceptHandler} {fb : FS} {FH : FHd} {ex : Nat → Bool} {pos : Pos} (F : NmF X.K N nf sub) (hs : X.stack = X.env :: X.outer) (hf : X.env.frame = some X.env.locals) (hN : X.N.Nodup) (tk : Takes X W) (hex : ∀ c, ex c = true → N.isExn c = true)
    (hb : ∀ (W : WX) (pn : List (Addr × Obj)) (xe : Value → Shared → Prop), Takes (X.tr pn xe) W → PassesOwn (model X.prog X.w) X.A X.env xe → PSs (X.tr pn xe) body (LS X.K N fb W)) (hh : Hdl X N sub (h₀ :: hds) FH) :
    PS X (.Try body (h₀ :: hds) [] [] pos) (LS X.K N (fun env st => match fb env st with
      | .exc c fs env1 st1 => if ex c = true then FH c fs env1 st1 else .stuck
      | o => o) W) := by
  refine ⟨fun pins s σ H D I ⟨m, env, st, hr, er, h⟩ => ?_⟩
  have ok := I.ok
  have hfr : X.A.frames = some (X.env :: X.outer) := by rw [ok.frames, hs]
  refine wpAny_Try_except ?_
  refine wpAny_mono ((hb (fun cls d σ H => ∃ c dd fs m env st, cls = .ref (N.clA c) ∧ d = some dd ∧ N.isExn c = true ∧ HR X.K N m H st ∧ ER X.K N m H σ env ∧ XD X.K N m H dd fs ∧ SPst X.K N m H (FH c fs env st) D W) (X.pn ++ pins)
    (fun e s₁ => wpAny (model X.prog X.w) X.A (noteFrame e X.env) (fun _ s₂ => wpAny (model X.prog X.w) X.A (setFlight e none) (fun _ s₃ => wpAny (model X.prog X.w) X.A (handleBy e X.env (h₀ :: hds)) (SP X pins D) X.xe s₃) X.xe s₂) X.xe s₁)
    (fun u s' xx => ?_) PassesOwn.looking).run [] s σ H { nx := D.nx, rt := D.rt, bk := D.bk, ct := D.ct } (I.toTry _) ⟨m, env, st, hr, er, ?_⟩) (fun f s1 hsp => ?_) (fun e s1 he => he)
  · obtain ⟨a, B, sI, pins', σ', H', cls, d, rfl, J', nb, up, sky, na, os, ag, c, dd, fs, m1, env1, st1, ecl, ed, ec, hr1, er1, xd, w⟩ := xx
    subst ecl; subst ed
    have J : Inv X pins σ' H' sI := J'.ofTry ok
    have sky' : Sky B (X.env :: X.outer) a (Zc (.ref (N.clA c)) (some dd)) X.env.locals s'.heap := by rw [← hs]; exact sky
    show wpAny (model X.prog X.w) X.A (noteFrame (.ref a) X.env) _ _ _
    exact Sky.land Zc.steady hfr hf sky' fun h3 fl u => hdl_ok F hs hf hN tk hh ec ⟨J, nb, up.trans u, fl, na, os, ag⟩ hr1 er1 xd w
  · dsimp only at h
    cases q : fb env st with
    | ok o st' =>
      rw [q] at h
      cases o with
      | nx env' => exact h
      | rt d => exact h
      | bk env' => exact h
    | exc c fs env' st' =>
      rw [q] at h
      dsimp only at h
      split at h
      · rename_i hx
        exact fun dd σ' H' m' e' hr' er' x' => ⟨c, dd, fs, m', env', st', rfl, rfl, hex c hx, hr', er', x', h.ext e'⟩
      · exact h.elim
    | stuck => rw [q] at h; exact h
  · cases f with
    | next =>
      obtain ⟨σ', H', J', q⟩ := hsp
      exact wpAny_execs_nil ⟨σ', H', J'.ofTry ok, q⟩
    | brk =>
      obtain ⟨σ', H', J', q⟩ := hsp
      exact ⟨σ', H', J'.ofTry ok, q⟩
    | cont =>
      obtain ⟨σ', H', J', q⟩ := hsp
      exact ⟨σ', H', J'.ofTry ok, q⟩
    | ret u =>
      obtain ⟨v, σ', H', J', r, q⟩ := hsp
      exact ⟨v, σ', H', J'.ofTry ok, r, q⟩
end
end Dk
/-! Dk18: tests. -/
namespace Dk
open PySem PySem.Spec PyProof.Rows L2
section
variable {N : Nm} {X : Cx} {W : WX}
theorem lt_val {e : Expr} {fe : F} (he : PE X e (LE X.K N fe W)) (hp : plainTest e = true) : PT X e (tB (LE X.K N fe W)) := pt_val he (isTrue_val hp X.env)
theorem lt_not {a : Expr} {fa : F} {pos : Pos} (ha : PT X a (tB (LE X.K N fa W))) : PT X (.UnaryOp .Not a pos) (tB (LE X.K N (fun env st => (fa env st).bind fun x st1 => match x with
      | .bl c => .ok (.bl (!c)) st1
      | _ => .stuck) W)) :=
  PT.imp (pt_not ha) fun σ H Q ⟨m, env, st, hr, er, h⟩ => ⟨m, env, st, hr, er, h.bind Ext.refl fun dx st1 x H1 m1 _ e1 hr1 rx h1 => by
    cases dx with
    | bl c =>
      obtain ⟨k, ek, q⟩ := h1 _ H1 m1 e1 hr1 rfl
      cases ek
      exact ⟨c, rx, q⟩
    | _ => exact h1.elim⟩
theorem lt_and1 {a : Expr} {fa : F} {pos : Pos} (ha : PT X a (tB (LE X.K N fa W))) : PW X (.BoolOp .And [a] pos) (tB (LE X.K N fa W)) := pw_and1 ha
theorem lt_or1 {a : Expr} {fa : F} {pos : Pos} (ha : PT X a (tB (LE X.K N fa W))) : PW X (.BoolOp .Or [a] pos) (tB (LE X.K N fa W)) := pw_or1 ha
theorem lt_and {a b : Expr} {rest : List Expr} {fa fb : F} {pos : Pos} (ha : PT X a (tB (LE X.K N fa W))) (hb : PW X (.BoolOp .And (b :: rest) pos) (tB (LE X.K N fb W))) :
    PW X (.BoolOp .And (a :: b :: rest) pos) (tB (LE X.K N (fun env st => (fa env st).bind fun x st1 => match x with
      | .bl true => fb env st1
      | .bl false => .ok (.bl false) st1
      | _ => .stuck) W)) :=
  PW.imp (pw_and ha hb) fun σ H Q ⟨m, env, st, hr, er, h⟩ => ⟨m, env, st, hr, er, h.bind Ext.refl fun dx st1 x H1 m1 _ e1 hr1 rx h1 => by
    cases dx with
    | bl c =>
      cases c with
      | true => exact ⟨true, rx, iteT ⟨m1, env, st1, hr1, er.mono e1 hr.nt, h1.ext e1⟩⟩
      | false =>
        obtain ⟨k, ek, q⟩ := h1 _ H1 m1 e1 hr1 rfl
        cases ek
        exact ⟨false, rx, iteF q⟩
    | _ => exact h1.elim⟩
theorem lt_or {a b : Expr} {rest : List Expr} {fa fb : F} {pos : Pos} (ha : PT X a (tB (LE X.K N fa W))) (hb : PW X (.BoolOp .Or (b :: rest) pos) (tB (LE X.K N fb W))) :
    PW X (.BoolOp .Or (a :: b :: rest) pos) (tB (LE X.K N (fun env st => (fa env st).bind fun x st1 => match x with
      | .bl false => fb env st1
      | .bl true => .ok (.bl true) st1
      | _ => .stuck) W)) :=
  PW.imp (pw_or ha hb) fun σ H Q ⟨m, env, st, hr, er, h⟩ => ⟨m, env, st, hr, er, h.bind Ext.refl fun dx st1 x H1 m1 _ e1 hr1 rx h1 => by
    cases dx with
    | bl c =>
      cases c with
      | false => exact ⟨false, rx, iteF ⟨m1, env, st1, hr1, er.mono e1 hr.nt, h1.ext e1⟩⟩
      | true =>
        obtain ⟨k, ek, q⟩ := h1 _ H1 m1 e1 hr1 rfl
        cases ek
        exact ⟨true, rx, iteT q⟩
    | _ => exact h1.elim⟩
theorem rd_cmp {o : CmpOp} {fa fb : F} {σ : L2.St} {H : Hp} {Q : VK} (h : LE X.K N (fun env st => (fa env st).bind fun x st1 => (fb env st1).bind fun y st2 => R.of ((cmpD o x y st2).map .bl) (cut st [] st2)) W σ H Q) : tOp (rCmp X.K N o) (LE X.K N fa W) (LE X.K N fb W) σ H Q := by
  obtain ⟨m, env, st, hr, er, h⟩ := h
  exact ⟨m, env, st, hr, er, h.bind Ext.refl fun dx st1 x H1 m1 _ e1 hr1 rx h1 => ⟨m1, env, st1, hr1, er.mono e1 hr.nt, h1.bind e1 fun dy st2 y H2 m2 _ e2 hr2 ry h2 => cmp_end hr (e1.trans e2) hr2 (RD.mono e2 hr1.nt _ _ rx) ry h2⟩⟩
theorem lt_cmp {a b : Expr} {fa fb : F} {pos : Pos} (hu : X.A.units + 100 < cLine) (o : CmpOp) (ha : PE X a (LE X.K N fa W)) (hb : PE X b (LE X.K N fb W)) (hm : behindInMarks o b = false) :
    PT X (.Compare a [o] [b] pos) (tB (LE X.K N (fun env st => (fa env st).bind fun x st1 => (fb env st1).bind fun y st2 => R.of ((cmpD o x y st2).map .bl) (cut st [] st2)) W)) :=
  PT.imp (pt_cmpR (cmp_ok (N := N) hu o) ha hb hm) fun σ H Q h => rd_cmp h
theorem rd_chn {o p : CmpOp} {fa fb fc : F} {σ : L2.St} {H : Hp} {Q : VK} (h : LE X.K N (fun env st => (fa env st).bind fun x st1 => (fb env st1).bind fun y st2 => match cmpD o x y st2 with
      | some true => (fc env st2).bind fun z st3 => R.of ((cmpD p y z st3).map .bl) (cut st [] st3)
      | some false => .ok (.bl false) (cut st [] st2)
      | none => .stuck) W σ H Q) : tChain (rCmp X.K N o) (rCmp X.K N p) (LE X.K N fa W) (LE X.K N fb W) (LE X.K N fc W) σ H Q := by
  obtain ⟨m, env, st, hr, er, h⟩ := h
  exact ⟨m, env, st, hr, er, h.bind Ext.refl fun dx st1 x H1 m1 _ e1 hr1 rx h1 =>
    ⟨m1, env, st1, hr1, er.mono e1 hr.nt, h1.bind e1 fun dy st2 y H2 m2 _ e2 hr2 ry h2 => by
      cases q : cmpD o dx dy st2 with
      | none => rw [q] at h2; exact h2.elim
      | some k =>
        rw [q] at h2
        refine ⟨m2, st2, dx, dy, k, hr2, RD.mono e2 hr1.nt _ _ rx, ry, q, k, rfl, ?_⟩
        cases k with
        | true =>
          refine iteT ⟨m2, env, st2, hr2, er.mono (e1.trans e2) hr.nt, Pst.bind (h := h2) (e0 := e1.trans e2) fun dz st3 z H3 m3 _ e3 hr3 rz h3 => ?_⟩
          exact cmp_end hr ((e1.trans e2).trans e3) hr3 (RD.mono e3 hr2.nt _ _ ry) rz h3
        | false => exact iteF (h2.cut hr (e1.trans e2) hr2 (ds := []) (vs := []) rfl fun _ _ => rfl)⟩⟩
theorem marks2 {o p : CmpOp} {b c : Expr} (h : behindInMarks p c = false) : lastMarks [o, p] [b, c] = false := h
theorem lt_chn {a b c : Expr} {fa fb fc : F} {pos : Pos} (hu : X.A.units + 100 < cLine) (o p : CmpOp) (ha : PE X a (LE X.K N fa W)) (hb : PE X b (LE X.K N fb W)) (hc : PE X c (LE X.K N fc W)) (hm : behindInMarks p c = false) :
    PT X (.Compare a [o, p] [b, c] pos) (tB (LE X.K N (fun env st => (fa env st).bind fun x st1 => (fb env st1).bind fun y st2 => match cmpD o x y st2 with
      | some true => (fc env st2).bind fun z st3 => R.of ((cmpD p y z st3).map .bl) (cut st [] st3)
      | some false => .ok (.bl false) (cut st [] st2)
      | none => .stuck) W)) :=
  PT.imp (pt_chain (cmp_ok (N := N) hu o) (cmp_ok (N := N) hu p) ha hb hc (marks2 hm)) fun σ H Q h => rd_chn h
theorem le_chn2 {a b c : Expr} {fa fb fc : F} {pos : Pos} (hu : X.A.units + 100 < cLine) (o p : CmpOp) (ha : PE X a (LE X.K N fa W)) (hb : PE X b (LE X.K N fb W)) (hc : PE X c (LE X.K N fc W)) (hm : behindInMarks p c = false) :
    PE X (.Compare a [o, p] [b, c] pos) (LE X.K N (fun env st => (fa env st).bind fun x st1 => (fb env st1).bind fun y st2 => match cmpD o x y st2 with
      | some true => (fc env st2).bind fun z st3 => R.of ((cmpD p y z st3).map .bl) (cut st [] st3)
      | some false => .ok (.bl false) (cut st [] st2)
      | none => .stuck) W) :=
  PE.imp (pe_chain (cmp_ok (N := N) hu o) (cmp_ok (N := N) hu p) ha hb hc (marks2 hm)) fun σ H Q h => rd_chn h
end
end Dk
/-! Dk19: the check of expressions. -/
namespace Dk
open PySem PySem.Spec PyProof.Rows L2
/-- the law's tables -/
structure Lw where
  fnN : Nat → Option Str
  clN : Nat → Option Str
  fldN : Nat → Str
  nf : Nat
  con : List (Str × D)
  blt : List Str
  okf : Nat → Bool
  okh : Nat → Bool
  exn : Nat → Bool
  mtN : Nat → Str
  nm : Nat
  ins : Nat → Bool
  ktp : List (Str × List S)
/-- what is true of them -/
structure LwOk (L : Lw) (prog : Program) (w : World) (K : PySem.W.Frag) (mg : Str → Option Value) (base : Heap) (N : Nm) (cf : Cf) (k : Nat) : Prop where
  F : NmF K N L.nf cf.sub
  fld : ∀ i, N.fld i = L.fldN i
  exn : ∀ c, L.exn c = true → N.isExn c = true
  fnm : ∀ f x, L.fnN f = some x → mg x = some (.ref (N.fnA f)) ∧ PySem.W.keepIn K (.ref (N.fnA f)) = true
  clm : ∀ c x, L.clN c = some x → mg x = some (.ref (N.clA c))
  con : ∀ p ∈ L.con, ∃ u v, mg p.1 = some u ∧ RelV v u ∧ ∀ m H, RD K N m H p.2 v
  blt : ∀ x ∈ L.blt, mg x = none
  cal : ∀ f (X : Cx) (W : WX), X.prog = prog → X.w = w → X.K = K → X.mg = mg → X.base = base → L2H.RoomH k X.A → (L.okf f = true ∧ X.A.handled = none ∨ L.okh f = true) → Takes X W → CallP N (cf.fn f) X W (N.fnA f)
  okf : ∀ f, L.okf f = true
  O : OmtF K N L.mtN L.nm cf.mt
  mak : ∀ c x, L.ins c = true → L.clN c = some x → PySem.W.keepIn K (.ref (N.clA c)) = true ∧ ∃ g, cf.ini c = some g ∧ ∀ (X : Cx) (W : WX), X.prog = prog → X.w = w → X.K = K → X.mg = mg → X.base = base → L2H.RoomH (k + 1) X.A → X.A.handled = none → Takes X W → MakP N c (cf.fn g) X W
  ktp : ∀ p ∈ L.ktp, ∃ a vs, mg p.1 = some (.ref a) ∧ (∀ H, SqT K H a vs) ∧ ∀ m H, RDs K N m H (p.2.map D.str) vs
/-- a context in which the tables are true -/
structure Gx (L : Lw) (X : Cx) (cf : Cf) (N : Nm) (k : Nat) (ns : List Str) (sc : Scope) (cel : Str → Bool) (calm : Bool) : Prop where
  lw : LwOk L X.prog X.w X.K X.mg X.base N cf k
  hn : X.N = ns
  nd : ns.Nodup
  hs : X.env.scope = sc
  hcel : ∀ x, cel x = true → X.fn x = true
  hcalm : calm = true → X.calm = true
  hd : calm = true → X.A.handled = none
  room : L2H.RoomH (k + 1) X.A
  hkind : sc.kind = .function

/-! ### small checks -/
def visB (sc : Scope) (x : Str) : Bool := match sc.names.lookup x with
  | some .local | some .cell | some .free => true
  | _ => false
def glB (sc : Scope) (x : Str) : Bool := decide (sc.names.lookup x = some .globalImplicit)
def locB (sc : Scope) (cel : Str → Bool) (x : Str) : Bool := match sc.names.lookup x with
  | some .local => true
  | some .cell => cel x
  | _ => false
def dbgB (x : Str) : Bool := !(x == ("__debug__" : Str)) && !(x == ("__classdict__" : Str))
def conB : D → Const → Bool
  | .non, .none => true
  | .bl b, .bool c => b == c
  | .int i, .int j => decide (i = j)
  | .str s, .str x => decide (x.cps.toList = s) && (decide (s.length ≤ 100000) && s.all fun c => decide (c < 0x110000))
  | _, _ => false
def ownP (ns : List Str) (own : List Nat) : List (Str × Nat) := own.filterMap fun i => (ns[i]?).map fun x => (x, i)
def nameIs (x : Str) : Expr → Bool
  | .Name y _ => decide (y = x)
  | _ => false
/-- a class that isinstance names -/
def tyB (L : Lw) (sc : Scope) (t : Ty) (e : Expr) : Bool := match e with
  | .Name x _ => glB sc x && (dbgB x && (match t with
    | .cls c => decide (L.clN c = some x) && L.exn c
    | t => match tyN t with
      | some n => decide (x = Str.ofString n) && decide (x ∈ L.blt)
      | none => false))
  | _ => false
def selB : List (S × S) → List (Option Expr) → List Expr → Bool
  | [], ks, vs => ks.isEmpty && vs.isEmpty
  | p :: r, ks, vs => match ks, vs with
    | some (.Constant (.str x) _ _) :: ks, .Constant (.str y) _ _ :: vs => decide (x.cps.toList = p.1) && (decide (y.cps.toList = p.2) && ((decide (p.2.length ≤ 100000) && p.2.all fun c => decide (c < 0x110000)) && selB r ks vs))
    | _, _ => false
/-- targets that are names -/
def chkGs (ns : List Str) (sc : Scope) (cel : Str → Bool) : T → List Expr → Bool
  | .nil, es => es.isEmpty
  | .cons (.var i) r, es => match es with
    | .Name x _ :: es => decide (ns[i]? = some x) && (locB sc cel x && chkGs ns sc cel r es)
    | _ => false
  | _, _ => false
def chkG (ns : List Str) (sc : Scope) (cel : Str → Bool) (calm : Bool) : T → Expr → Bool
  | .var i, e => match e with
    | .Name x _ => decide (ns[i]? = some x) && locB sc cel x
    | _ => false
  | .tup ts, e => match e with
    | .Tuple es _ _ => calm && chkGs ns sc cel ts es
    | _ => false
  | _, _ => false

mutual
def chkE (L : Lw) (ns : List Str) (sc : Scope) (cel : Str → Bool) (calm : Bool) : T → Expr → Bool
  | .var i, e => match e with
    | .Name x _ => decide (ns[i]? = some x) && (visB sc x && dbgB x)
    | _ => false
  | .con d, e => match e with
    | .Constant c _ _ => conB d c
    | .Name x _ => glB sc x && (dbgB x && L.con.any fun p => decide (p.1 = x) && D.beq p.2 d)
    | _ => false
  | .bin o a b, e => match e with
    | .BinOp x op y _ => decide (opOf o = op) && (chkE L ns sc cel calm a x && chkE L ns sc cel calm b y)
    | _ => false
  | .neg a, e => match e with
    | .UnaryOp .USub x _ => chkE L ns sc cel calm a x
    | _ => false
  | .not a, e => match e with
    | .UnaryOp .Not x _ => chkE L ns sc cel calm a x
    | _ => false
  | .and a b, e => match e with
    | .BoolOp .And (x :: y :: r) pos => chkE L ns sc cel calm a x && (match r with
      | [] => chkE L ns sc cel calm b y
      | z :: r => chkE L ns sc cel calm b (.BoolOp .And (y :: z :: r) pos))
    | _ => false
  | .or a b, e => match e with
    | .BoolOp .Or (x :: y :: r) pos => chkE L ns sc cel calm a x && (match r with
      | [] => chkE L ns sc cel calm b y
      | z :: r => chkE L ns sc cel calm b (.BoolOp .Or (y :: z :: r) pos))
    | _ => false
  | .cmp o a b, e => match e with
    | .Compare x [op] [y] _ => decide (o = op) && (noSet y && (chkE L ns sc cel calm a x && chkE L ns sc cel calm b y))
    | _ => false
  | .chn o p a b c, e => match e with
    | .Compare x [op, op'] [y, z] _ => decide (o = op) && (decide (p = op') && (noSet z && (chkE L ns sc cel calm a x && (chkE L ns sc cel calm b y && chkE L ns sc cel calm c z))))
    | _ => false
  | .call f as, e => match e with
    | .Call (.Name x _) es [] _ => decide (L.fnN f = some x) && (glB sc x && (dbgB x && ((calm && L.okf f || L.okh f) && (es.all noStar && chkA L ns sc cel calm as es))))
    | _ => false
  | .blt b as, e => match e with
    | .Call (.Name x _) (y :: es) [] _ => decide (x = bltN b) && (glB sc x && (decide (x ∈ L.blt) && ((calm || bltHot b) && ((y :: es).all noStar && chkA L ns sc cel calm as (y :: es)))))
    | _ => false
  | .isi a t, e => match e with
    | .Call (.Name x _) [y, z] [] _ => decide (x = "isinstance") && (glB sc x && (decide (x ∈ L.blt) && (noStar y && (noStar z && (tyB L sc t z && chkE L ns sc cel calm a y)))))
    | _ => false
  | .mth m o as, e => match e with
    | .Call (.Attribute x n apos) (y :: es) [] pos => decide (n = mthN m) && (noSuper x && ((y :: es).all noStar && (decide ((y :: es).length < 30) && (apos.endLine == pos.line && (chkE L ns sc cel calm o x && chkA L ns sc cel calm as (y :: es))))))
    | _ => false
  | .omt m o as, e => match e with
    | .Call (.Attribute x n apos) es [] pos => calm && (decide (n = L.mtN m) && (decide (m < L.nm) && (noSuper x && (es.all noStar && (decide (es.length < 30) && (apos.endLine == pos.line && (chkE L ns sc cel calm o x && chkA L ns sc cel calm as es)))))))
    | _ => false
  | .new c as, e => match e with
    | .Call (.Name x _) es [] _ => calm && (decide (L.clN c = some x) && (L.ins c && (glB sc x && (dbgB x && (es.all noStar && chkA L ns sc cel calm as es)))))
    | _ => false
  | .ink neg a xs, e => match e with
    | .Compare x [op] [.Name y _] _ => decide ((if neg then CmpOp.NotIn else CmpOp.In) = op) && (glB sc y && (dbgB y && ((L.ktp.any fun p => decide (p.1 = y) && decide (p.2 = xs)) && chkE L ns sc cel calm a x)))
    | _ => false
  | .lc2 own vs tg it tg1 it1 elt, e => match e with
    | .ListComp x [⟨y, z, [], 0⟩, ⟨y1, z1, [], 0⟩] scope _ => calm && (blkC ns sc scope (ownP ns own) && (decide ((ownP ns own).map (·.2) = own) && (decide (∀ i ∈ slotsT tg, i ∈ own) && (decide (∀ i ∈ slotsT tg1, i ∈ vs) && (decide (∀ i ∈ vs, i ∈ own) && (noSet z && (noSet z1 &&
        (chkG ns (relS scope sc) (fun x => scope.names.lookup x == some .cell) calm tg y && (chkG ns (relS scope sc) (fun x => scope.names.lookup x == some .cell) calm tg1 y1 && (chkI L ns sc cel calm it z &&
        (chkJ L ns (relS scope sc) (fun x => scope.names.lookup x == some .cell) calm it1 z1 && chkE L ns (relS scope sc) (fun x => scope.names.lookup x == some .cell) calm elt x)))))))))))
    | _ => false
  | .att o f, e => match e with
    | .Attribute x n _ => decide (n = L.fldN f) && (decide (f < L.nf) && (noSuper x && chkE L ns sc cel calm o x))
    | _ => false
  | .idx a b, e => match e with
    | .Subscript x y _ => noSlice y && (chkE L ns sc cel calm a x && chkE L ns sc cel calm b y)
    | _ => false
  | .slc a lo hi, e => match e with
    | .Subscript x (.Slice l u none _) _ => chkE L ns sc cel calm a x && (chkO L ns sc cel calm lo l && chkO L ns sc cel calm hi u)
    | _ => false
  | .tup as, e => match e with
    | .Tuple es _ _ => chkA L ns sc cel calm as es
    | _ => false
  | .lst as, e => match e with
    | .List es _ => chkA L ns sc cel calm as es
    | _ => false
  | .ite c a b, e => match e with
    | .IfExp x y z _ => chkT L ns sc cel calm c x && (chkE L ns sc cel calm a y && chkE L ns sc cel calm b z)
    | _ => false
  | .lc own tg it c elt, e => match e with
    | .ListComp x [⟨y, z, ifs, 0⟩] scope _ => calm && (blkC ns sc scope (ownP ns own) && (decide ((ownP ns own).map (·.2) = own) && (decide (∀ i ∈ slotsT tg, i ∈ own) && (noSet z && (chkG ns (relS scope sc) (fun x => scope.names.lookup x == some .cell) calm tg y && (chkI L ns sc cel calm it z &&
        (chkC L ns (relS scope sc) (fun x => scope.names.lookup x == some .cell) calm c ifs && chkE L ns (relS scope sc) (fun x => scope.names.lookup x == some .cell) calm elt x)))))))
    | _ => false
  | .dct _, e => match e with
    | .Dict ks vs _ => ks.isEmpty && vs.isEmpty
    | _ => false
  | .dct1 _ a b, e => match e with
    | .Dict [some x] [y] _ => chkE L ns sc cel calm a x && chkE L ns sc cel calm b y
    | _ => false
  | .sel kvs a, e => match e with
    | .Subscript (.Dict ks vs _) y _ => noSlice y && (selB kvs ks vs && (decide ((kvs.map (·.1)).Nodup) && (decide (0 < kvs.length ∧ kvs.length ≤ 15) && chkE L ns sc cel calm a y)))
    | _ => false
  | _, _ => false
/-- a test -/
def chkT (L : Lw) (ns : List Str) (sc : Scope) (cel : Str → Bool) (calm : Bool) : T → Expr → Bool
  | .not a, e => match e with
    | .UnaryOp .Not x _ => chkT L ns sc cel calm a x
    | _ => false
  | .and a b, e => match e with
    | .BoolOp .And (x :: y :: r) pos => chkT L ns sc cel calm a x && (match r with
      | [] => chkT L ns sc cel calm b y
      | z :: r => chkT L ns sc cel calm b (.BoolOp .And (y :: z :: r) pos))
    | _ => false
  | .or a b, e => match e with
    | .BoolOp .Or (x :: y :: r) pos => chkT L ns sc cel calm a x && (match r with
      | [] => chkT L ns sc cel calm b y
      | z :: r => chkT L ns sc cel calm b (.BoolOp .Or (y :: z :: r) pos))
    | _ => false
  | .cmp o a b, e => match e with
    | .Compare x [op] [y] _ => decide (o = op) && (noSet y && (chkE L ns sc cel calm a x && chkE L ns sc cel calm b y))
    | _ => false
  | .chn o p a b c, e => match e with
    | .Compare x [op, op'] [y, z] _ => decide (o = op) && (decide (p = op') && (noSet z && (chkE L ns sc cel calm a x && (chkE L ns sc cel calm b y && chkE L ns sc cel calm c z))))
    | _ => false
  | .var i, e => match e with
    | .Name x _ => decide (ns[i]? = some x) && (visB sc x && dbgB x)
    | _ => false
  | .con d, e => match e with
    | .Constant c _ _ => conB d c
    | _ => false
  | .call f as, e => match e with
    | .Call (.Name x _) es [] _ => decide (L.fnN f = some x) && (glB sc x && (dbgB x && ((calm && L.okf f || L.okh f) && (es.all noStar && chkA L ns sc cel calm as es))))
    | _ => false
  | .isi a t, e => match e with
    | .Call (.Name x _) [y, z] [] _ => decide (x = "isinstance") && (glB sc x && (decide (x ∈ L.blt) && (noStar y && (noStar z && (tyB L sc t z && chkE L ns sc cel calm a y)))))
    | _ => false
  | .att o f, e => match e with
    | .Attribute x n _ => decide (n = L.fldN f) && (decide (f < L.nf) && (noSuper x && chkE L ns sc cel calm o x))
    | _ => false
  | .idx a b, e => match e with
    | .Subscript x y _ => noSlice y && (chkE L ns sc cel calm a x && chkE L ns sc cel calm b y)
    | _ => false
  | .omt m o as, e => match e with
    | .Call (.Attribute x n apos) es [] pos => calm && (decide (n = L.mtN m) && (decide (m < L.nm) && (noSuper x && (es.all noStar && (decide (es.length < 30) && (apos.endLine == pos.line && (chkE L ns sc cel calm o x && chkA L ns sc cel calm as es)))))))
    | _ => false
  | .ink neg a xs, e => match e with
    | .Compare x [op] [.Name y _] _ => decide ((if neg then CmpOp.NotIn else CmpOp.In) = op) && (glB sc y && (dbgB y && ((L.ktp.any fun p => decide (p.1 = y) && decide (p.2 = xs)) && chkE L ns sc cel calm a x)))
    | _ => false
  | _, _ => false
/-- a row of expressions -/
def chkA (L : Lw) (ns : List Str) (sc : Scope) (cel : Str → Bool) (calm : Bool) : T → List Expr → Bool
  | .nil, es => es.isEmpty
  | .cons a r, es => match es with
    | e :: es => noStar e && (chkE L ns sc cel calm a e && chkA L ns sc cel calm r es)
    | [] => false
  | _, _ => false
/-- a slice's part -/
def chkO (L : Lw) (ns : List Str) (sc : Scope) (cel : Str → Bool) (calm : Bool) : T → Option Expr → Bool
  | .nil, o => o.isNone
  | .cons a _, o => match o with
    | some e => chkE L ns sc cel calm a e
    | none => false
  | _, _ => false
/-- a comprehension's tests -/
def chkC (L : Lw) (ns : List Str) (sc : Scope) (cel : Str → Bool) (calm : Bool) : T → List Expr → Bool
  | .nil, es => es.isEmpty
  | .cons a _, es => match es with
    | [e] => chkT L ns sc cel calm a e
    | _ => false
  | _, _ => false
/-- what is walked -/
def chkI (L : Lw) (ns : List Str) (sc : Scope) (cel : Str → Bool) (calm : Bool) : T → Expr → Bool
  | .rng as, e => match e with
    | .Call (.Name x _) es [] _ => decide (x = "range") && (glB sc x && (decide (x ∈ L.blt) && (decide (es.length ≤ 2) && (!es.isEmpty && chkA L ns sc cel calm as es))))
    | _ => false
  | .rev a, e => match e with
    | .Call (.Name x _) [y] [] _ => decide (x = "reversed") && (glB sc x && (decide (x ∈ L.blt) && (noStar y && chkE L ns sc cel calm a y)))
    | _ => false
  | .cons a _, e => chkE L ns sc cel calm a e
  | _, _ => false
/-- what a second clause walks -/
def chkJ (L : Lw) (ns : List Str) (sc : Scope) (cel : Str → Bool) (calm : Bool) : T → Expr → Bool
  | .rng as, e => match e with
    | .Call (.Name x _) es [] _ => decide (x = "range") && (glB sc x && (decide (x ∈ L.blt) && (decide (es.length ≤ 2) && (!es.isEmpty && chkA L ns sc cel calm as es))))
    | _ => false
  | .cons a _, e => chkE L ns sc cel calm a e
  | _, _ => false
end
end Dk
/-! Dk20: what passes the check has its reading: expressions. -/
namespace Dk
open PySem PySem.Spec PyProof.Rows L2
section
variable {L : Lw} {X : Cx} {cf : Cf} {N : Nm} {k : Nat} {ns : List Str} {sc : Scope} {cel : Str → Bool} {calm : Bool} {W : WX}
theorem and2 {a b : Bool} (h : (a && b) = true) : a = true ∧ b = true := Bool.and_eq_true_iff.mp h
theorem Gx.vis (G : Gx L X cf N k ns sc cel calm) {x : Str} (h : visB sc x = true) : Vis X.env.scope x := by
  rw [G.hs]
  unfold visB at h
  unfold Vis
  split at h
  · rename_i e; exact .inl e
  · rename_i e; exact .inr (.inl e)
  · rename_i e; exact .inr (.inr e)
  · cases h
theorem Gx.gl (G : Gx L X cf N k ns sc cel calm) {x : Str} (h : glB sc x = true) : Gl X x := by
  show X.env.scope.names.lookup x = _
  rw [G.hs]
  exact of_decide_eq_true h
theorem Gx.loc (G : Gx L X cf N k ns sc cel calm) {x : Str} (h : locB sc cel x = true) : Loc X.env.scope x ∧ (X.fn x = true ∨ X.env.scope.names.lookup x = some .local) := by
  rw [G.hs]
  unfold locB at h
  split at h
  · rename_i e; exact ⟨.inl e, .inr e⟩
  · rename_i e; exact ⟨.inr e, .inl (G.hcel x h)⟩
  · cases h
theorem dbg_of {x : Str} (h : dbgB x = true) : (x == ("__debug__" : Str)) = false ∧ (x == ("__classdict__" : Str)) = false := by
  obtain ⟨a, b⟩ := and2 h
  exact ⟨by simpa using a, by simpa using b⟩
theorem Gx.units (G : Gx L X cf N k ns sc cel calm) : X.A.units + 100 < cLine := by
  have := G.room.un
  omega
theorem Gx.slot (G : Gx L X cf N k ns sc cel calm) {i : Nat} {x : Str} (h : ns[i]? = some x) : X.N[i]? = some x := by rw [G.hn]; exact h
theorem con_ok {d : D} {c : Const} {j : Nat} {pos : Pos} (h : conB d c = true) : PE X (.Constant c j pos) (LE X.K N (fun _ st => .ok d st) W) := by
  unfold conB at h
  split at h
  · exact le_con pe_non fun _ _ => rfl
  · rename_i b b'
    have e : b = b' := by simpa using h
    subst e
    exact le_con pe_bl fun _ _ => rfl
  · have e := of_decide_eq_true h
    subst e
    exact le_con pe_int fun _ _ => rfl
  · rename_i s x
    obtain ⟨h1, h⟩ := and2 h
    obtain ⟨h2, h3⟩ := and2 h
    have e1 := of_decide_eq_true h1
    have e2 := of_decide_eq_true h2
    subst e1
    refine le_con pe_str fun _ _ => ⟨by rw [mkS_of], by rw [sizeLine_eq]; omega, fun c hc => ?_⟩
    have := List.all_eq_true.mp h3 c hc
    simpa using this
  · cases h
theorem Gx.con (G : Gx L X cf N k ns sc cel calm) {d : D} {x : Str} {pos : Pos} (hg : glB sc x = true) (hd : dbgB x = true) (h : (L.con.any fun p => decide (p.1 = x) && D.beq p.2 d) = true) : PE X (.Name x pos) (LE X.K N (fun _ st => .ok d st) W) := by
  obtain ⟨p, hp, q⟩ := List.any_eq_true.mp h
  obtain ⟨q1, q2⟩ := and2 q
  have e1 := of_decide_eq_true q1
  have e2 := D.beq_eq _ _ q2
  obtain ⟨u, v, a, b, c⟩ := G.lw.con p hp
  rw [e1] at a
  rw [e2] at c
  exact le_con (pe_glob (G.gl hg) a b (dbg_of hd).1) c
/-- a block within -/
theorem Gx.blk (G : Gx L X cf N k ns sc cel calm) (s : Shared) (H : Hp) (scope : Scope) (C : Addr) (cl : List (Str × Addr)) (fp : List Addr) (hk : scope.kind = .function) :
    Gx L (X.blk s H scope (compEnvC scope cl C X.env) fp) cf N k ns (relS scope sc) (fun x => scope.names.lookup x == some .cell) calm where
  lw := G.lw
  hn := G.hn
  nd := G.nd
  hs := by rw [← G.hs]; rfl
  hcel := fun x h => h
  hcalm := G.hcalm
  hd := G.hd
  room := G.room
  hkind := hk
theorem takesW0 {X : Cx} : Takes X W0 := fun _ _ ⟨_, _, _, _, _, _, _, _, _, _, _, _, _, _, _, _, w⟩ => w.elim
theorem Gx.call (G : Gx L X cf N k ns sc cel calm) (tk : Takes X W) {f : Nat} (h : (calm && L.okf f || L.okh f) = true) : CallP N (cf.fn f) X W (N.fnA f) := by
  refine G.lw.cal f X W rfl rfl rfl rfl rfl (G.room.mono (Nat.le_succ _)) ?_ tk
  rcases Bool.or_eq_true_iff.mp h with h | h
  · obtain ⟨h1, h2⟩ := and2 h
    exact .inl ⟨h2, G.hd h1⟩
  · exact .inr h
theorem Gx.callA (G : Gx L X cf N k ns sc cel calm) (tk : Takes X W) (h : calm = true) (f : Nat) : CallP N (cf.fn f) X W (N.fnA f) :=
  G.call tk (by rw [h, G.lw.okf f]; rfl)
theorem any_str (xs : List S) (z : S) : ((xs.map D.str).any fun y => D.eqv y (.str z)) = xs.contains z := by
  rw [List.any_map, Bool.eq_iff_iff]
  simp [List.any_eq_true, D.eqv, Function.comp]
theorem flat_strs (xs : List S) : (xs.map D.str).all D.flat = true := by
  rw [List.all_map, List.all_eq_true]
  exact fun _ _ => rfl
theorem ink_read {neg : Bool} {xs : List S} {a : Addr} {vs : List V} (sq : ∀ H, SqT X.K H a vs) (rs : ∀ m H, RDs X.K N m H (xs.map D.str) vs) {fa : F} {σ : L2.St} {H : Hp} {Q : VK} (h : LE X.K N (fun env st => (fa env st).bind fun x st1 => match x with
    | .str z => .ok (.bl (xor neg (xs.contains z))) st1
    | _ => .stuck) W σ H Q) : tOp (rIn X.K neg) (LE X.K N fa W) (tC (.ref a)) σ H Q := by
  obtain ⟨m, env, st, hr, er, h⟩ := h
  refine ⟨m, env, st, hr, er, h.bind Ext.refl fun dx st1 x H1 m1 _ e1 hr1 rx h1 => ?_⟩
  cases dx with
  | str z =>
    refine ⟨a, vs, rfl, .inr (sq H1), RD.flatV rx rfl, RDs.flatVs (rs m1 H1) (flat_strs xs), ?_⟩
    have e := RDs.inV (rs m1 H1) rx (flat_strs xs) rfl
    rw [any_str] at e
    cases neg with
    | false =>
      rw [if_neg Bool.false_ne_true, e]
      have q := h1 _ H1 m1 e1 hr1 rfl
      simpa using q
    | true =>
      rw [if_pos rfl, e]
      have q := h1 _ H1 m1 e1 hr1 rfl
      simpa using q
  | _ => exact h1.elim
theorem Gx.ktup (G : Gx L X cf N k ns sc cel calm) {y : Str} {xs : List S} {pos : Pos} (hg : glB sc y = true) (hd : dbgB y = true) (h : (L.ktp.any fun p => decide (p.1 = y) && decide (p.2 = xs)) = true) : ∃ a vs, PE X (.Name y pos) (tC (.ref a)) ∧ (∀ H, SqT X.K H a vs) ∧ ∀ m H, RDs X.K N m H (xs.map D.str) vs := by
  obtain ⟨p, hp, q⟩ := List.any_eq_true.mp h
  obtain ⟨q1, q2⟩ := and2 q
  have e1 := of_decide_eq_true q1
  have e2 := of_decide_eq_true q2
  obtain ⟨a, vs, m1, m2, m3⟩ := G.lw.ktp p hp
  rw [e1] at m1
  rw [e2] at m3
  exact ⟨a, vs, pe_glob (G.gl hg) m1 rfl (dbg_of hd).1, m2, m3⟩
/-! ### targets -/
theorem gs_ok (G : Gx L X cf N k ns sc cel calm) : ∀ {ts : T} {es : List Expr}, chkGs ns sc cel ts es = true → PGs X es (gTs ts) ∧ es.all noStar = true ∧ es.length = lenT ts := by
  intro ts
  induction ts with
  | nil =>
    intro es h
    cases es with
    | nil => exact ⟨pgs_nil, rfl, rfl⟩
    | cons _ _ => cases h
  | cons a r _ ih =>
    intro es h
    cases a with
    | var i =>
      cases es with
      | nil => cases h
      | cons e es =>
        cases e with
        | Name x pos =>
          replace h : (decide (ns[i]? = some x) && (locB sc cel x && chkGs ns sc cel r es)) = true := h
          obtain ⟨h1, h⟩ := and2 h
          obtain ⟨h2, h3⟩ := and2 h
          obtain ⟨p1, p2, p3⟩ := ih h3
          obtain ⟨l1, l2⟩ := G.loc h2
          refine ⟨pgs_cons (pg_name (by rw [G.hn]; exact G.nd) (G.slot (of_decide_eq_true h1)) l1 l2) p1 rfl, ?_, ?_⟩
          · rw [List.all_cons, p2]; rfl
          · rw [List.length_cons, p3]; rfl
        | _ => cases h
    | _ => cases h
  | _ => intro es h; cases h
theorem g_ok (G : Gx L X cf N k ns sc cel calm) {t : T} {e : Expr} (h : chkG ns sc cel calm t e = true) : PG X e (gT X.K t) := by
  cases t with
  | var i =>
    cases e with
    | Name x pos =>
      replace h : (decide (ns[i]? = some x) && locB sc cel x) = true := h
      obtain ⟨h1, h2⟩ := and2 h
      obtain ⟨l1, l2⟩ := G.loc h2
      exact pg_name (by rw [G.hn]; exact G.nd) (G.slot (of_decide_eq_true h1)) l1 l2
    | _ => cases h
  | tup ts =>
    cases e with
    | Tuple es j pos =>
      replace h : (calm && chkGs ns sc cel ts es) = true := h
      obtain ⟨h1, h2⟩ := and2 h
      obtain ⟨p1, p2, p3⟩ := gs_ok G h2
      exact pg_tup (G.hcalm h1) p1 (by rw [each_len X.env p2, p3]) (each_find X.env p2)
    | _ => cases h
  | _ => cases h
end

theorem sel_ok {X : Cx} {pos : Pos} : ∀ {kvs : List (S × S)} {ks : List (Option Expr)} {vs : List Expr}, selB kvs ks vs = true → PPs X pos ks vs (selT kvs) ∧ ks.all (·.isSome) = true ∧ ks.length = kvs.length ∧ vs.length = kvs.length ∧ ∀ p ∈ kvs, TxtOk p.2
  | [], ks, vs, h => by
    obtain ⟨h1, h2⟩ := and2 (show (ks.isEmpty && vs.isEmpty) = true from h)
    rw [List.isEmpty_iff.mp h1, List.isEmpty_iff.mp h2]
    exact ⟨pps_nil, rfl, rfl, rfl, fun _ z => nomatch z⟩
  | p :: r, ks, vs, h => by
    unfold selB at h
    split at h
    · rename_i x j1 q1 ks y j2 q2 vs
      obtain ⟨h1, h⟩ := and2 h
      obtain ⟨h2, h⟩ := and2 h
      obtain ⟨h3, h4⟩ := and2 h
      obtain ⟨h5, h6⟩ := and2 h3
      obtain ⟨a1, a2, a3, a4, a5⟩ := sel_ok (X := X) (pos := pos) h4
      have e1 : mkS p.1 = x := by rw [← of_decide_eq_true h1]; exact mkS_of x
      have e2 : mkS p.2 = y := by rw [← of_decide_eq_true h2]; exact mkS_of y
      refine ⟨?_, by rw [List.all_cons, a2]; rfl, by simp [a3], by simp [a4], fun z hz => ?_⟩
      · show PPs X pos _ _ ((tC (.str (mkS p.1)), tC (.str (mkS p.2))) :: selT r)
        rw [e1, e2]
        exact pps_cons pe_str pe_str a1
      · rcases List.mem_cons.mp hz with rfl | hz
        · refine ⟨?_, fun c hc => of_decide_eq_true (List.all_eq_true.mp h6 c hc)⟩
          have := of_decide_eq_true h5
          rw [sizeLine_eq]; omega
        · exact a5 z hz
    · cases h

/-! ### what is claimed of a term -/
def EE (t : T) : Prop := ∀ {L : Lw} {X : Cx} {cf : Cf} {N : Nm} {k : Nat} {ns : List Str} {sc : Scope} {cel : Str → Bool} {calm : Bool} {W : WX} {e : Expr}, Gx L X cf N k ns sc cel calm → Takes X W → chkE L ns sc cel calm t e = true → PE X e (LE X.K N (ev cf t) W)
def ET (t : T) : Prop := ∀ {L : Lw} {X : Cx} {cf : Cf} {N : Nm} {k : Nat} {ns : List Str} {sc : Scope} {cel : Str → Bool} {calm : Bool} {W : WX} {e : Expr}, Gx L X cf N k ns sc cel calm → Takes X W → chkT L ns sc cel calm t e = true → PT X e (tB (LE X.K N (ev cf t) W))
def EA (t : T) : Prop := ∀ {L : Lw} {X : Cx} {cf : Cf} {N : Nm} {k : Nat} {ns : List Str} {sc : Scope} {cel : Str → Bool} {calm : Bool} {W : WX} {es : List Expr}, Gx L X cf N k ns sc cel calm → Takes X W → chkA L ns sc cel calm t es = true → PA X es (LA X.K N (evs cf t) W)
def EO (t : T) : Prop := ∀ {L : Lw} {X : Cx} {cf : Cf} {N : Nm} {k : Nat} {ns : List Str} {sc : Scope} {cel : Str → Bool} {calm : Bool} {W : WX} {o : Option Expr}, Gx L X cf N k ns sc cel calm → Takes X W → chkO L ns sc cel calm t o = true → PO X o (LP (evp cf t) W X.K N)
def EC (t : T) : Prop := ∀ {L : Lw} {X : Cx} {cf : Cf} {N : Nm} {k : Nat} {ns : List Str} {sc : Scope} {cel : Str → Bool} {calm : Bool} {es : List Expr}, Gx L X cf N k ns sc cel calm → Takes X W0 → chkC L ns sc cel calm t es = true → PTs X es (LTt X.K N (evc cf t))
def EI (t : T) : Prop := ∀ {L : Lw} {X : Cx} {cf : Cf} {N : Nm} {k : Nat} {ns : List Str} {sc : Scope} {cel : Str → Bool} {calm : Bool} {W : WX} {e : Expr} (tg : Expr), Gx L X cf N k ns sc cel calm → Takes X W → chkI L ns sc cel calm t e = true → PI X tg e (LI X.K N (evi cf t) W)
def EH (t : T) : Prop := ∀ a r, t = .cons a r → EE a
def EW (t : T) : Prop := ∀ {L : Lw} {X : Cx} {cf : Cf} {N : Nm} {k : Nat} {ns : List Str} {sc : Scope} {cel : Str → Bool} {calm : Bool} {W : WX} {op : BoolOp} {es : List Expr} {pos : Pos}, Gx L X cf N k ns sc cel calm → Takes X W → chkT L ns sc cel calm t (.BoolOp op es pos) = true → PW X (.BoolOp op es pos) (tB (LE X.K N (ev cf t) W))
def EJ (t : T) : Prop := ∀ {L : Lw} {X : Cx} {cf : Cf} {N : Nm} {k : Nat} {ns : List Str} {sc : Scope} {cel : Str → Bool} {calm : Bool} {e : Expr} (tg : Expr), Gx L X cf N k ns sc cel calm → chkJ L ns sc cel calm t e = true → PI X tg e (LT X.K N (evt cf t))
structure EOk (t : T) : Prop where
  fe : EE t
  ft : ET t
  fw : EW t
  fa : EA t
  fo : EO t
  fc : EC t
  fi : EI t
  fh : EH t
  fg : ∀ a b r, t = .cons a (.cons b r) → EE b
  fj : EJ t
def T.isL : T → Bool
  | .nil | .cons .. | .rng _ | .rev _ => true
  | _ => false
def T.isB : T → Bool
  | .and .. | .or .. => true
  | _ => false
theorem EW.no {t : T} (h : t.isB = false) : EW t := fun {L X cf N k ns sc cel calm W op es pos} _ _ q => by
  have z : chkT L ns sc cel calm t (.BoolOp op es pos) = false := by cases t <;> first | rfl | cases h
  rw [z] at q; cases q
def T.hasT : T → Bool
  | .not _ | .and .. | .or .. | .cmp .. | .chn .. | .var _ | .con _ | .call .. | .isi .. | .att .. | .idx .. | .omt .. | .ink .. => true
  | _ => false
theorem EOk.full {t : T} (hl : t.isL = false) (e : EE t) (ht : ET t) (hw : EW t) : EOk t where
  fe := e
  ft := ht
  fw := hw
  fa := fun {L X cf N k ns sc cel calm W es} _ _ h => by
    have q : chkA L ns sc cel calm t es = false := by cases t <;> first | rfl | cases hl
    rw [q] at h; cases h
  fo := fun {L X cf N k ns sc cel calm W o} _ _ h => by
    have q : chkO L ns sc cel calm t o = false := by cases t <;> first | rfl | cases hl
    rw [q] at h; cases h
  fc := fun {L X cf N k ns sc cel calm es} _ _ h => by
    have q : chkC L ns sc cel calm t es = false := by cases t <;> first | rfl | cases hl
    rw [q] at h; cases h
  fi := fun {L X cf N k ns sc cel calm W e} _ _ _ h => by
    have q : chkI L ns sc cel calm t e = false := by cases t <;> first | rfl | cases hl
    rw [q] at h; cases h
  fh := fun a r q => by subst q; cases hl
  fg := fun a b r q => by subst q; cases hl
  fj := fun {L X cf N k ns sc cel calm e} _ _ h => by
    have q : chkJ L ns sc cel calm t e = false := by cases t <;> first | rfl | cases hl
    rw [q] at h; cases h
theorem EOk.both {t : T} (hl : t.isL = false) (hb : t.isB = false) (e : EE t) (ht : ET t) : EOk t := .full hl e ht (EW.no hb)
theorem EOk.one {t : T} (hl : t.isL = false) (ht : t.hasT = false) (e : EE t) : EOk t := .both hl (by cases t <;> first | rfl | cases ht) e fun {L X cf N k ns sc cel calm W e} _ _ h => by
  have q : chkT L ns sc cel calm t e = false := by cases t <;> first | rfl | cases ht
  rw [q] at h; cases h
/-- a test whose check is that of a value -/
theorem ET.val {t : T} (e : EE t) (h : ∀ {L : Lw} {ns : List Str} {sc : Scope} {cel : Str → Bool} {calm : Bool} {x : Expr}, chkT L ns sc cel calm t x = true → chkE L ns sc cel calm t x = true ∧ plainTest x = true) : ET t :=
  fun G tk hc => let ⟨a, b⟩ := h hc; lt_val (e G tk a) b
theorem exn_isi {L : Lw} {X : Cx} {cf : Cf} {N : Nm} {k : Nat} {ns : List Str} {sc : Scope} {cel : Str → Bool} {calm : Bool} (G : Gx L X cf N k ns sc cel calm) {t : Ty} {e : Expr} (h : tyB L sc t e = true) : PE X e (tC (tyW N t)) ∧ tyOk N t = true := by
  cases e with
  | Name x pos =>
    cases t with
    | cls c =>
      replace h : (glB sc x && (dbgB x && (decide (L.clN c = some x) && L.exn c))) = true := h
      obtain ⟨h1, h⟩ := and2 h
      obtain ⟨h2, h⟩ := and2 h
      obtain ⟨h3, h4⟩ := and2 h
      exact ⟨pe_glob (G.gl h1) (G.lw.clm c x (of_decide_eq_true h3)) rfl (dbg_of h2).1, G.lw.exn c h4⟩
    | bool =>
      replace h : (glB sc x && (dbgB x && (decide (x = Str.ofString "bool") && decide (x ∈ L.blt)))) = true := h
      obtain ⟨h1, h⟩ := and2 h
      obtain ⟨h2, h⟩ := and2 h
      obtain ⟨h3, h4⟩ := and2 h
      have e3 := of_decide_eq_true h3
      subst e3
      exact ⟨pe_bltn (G.gl h1) (G.lw.blt _ (of_decide_eq_true h4)) (by decide +kernel) rfl (by decide +kernel) (dbg_of h2).1, rfl⟩
    | int =>
      replace h : (glB sc x && (dbgB x && (decide (x = Str.ofString "int") && decide (x ∈ L.blt)))) = true := h
      obtain ⟨h1, h⟩ := and2 h
      obtain ⟨h2, h⟩ := and2 h
      obtain ⟨h3, h4⟩ := and2 h
      have e3 := of_decide_eq_true h3
      subst e3
      exact ⟨pe_bltn (G.gl h1) (G.lw.blt _ (of_decide_eq_true h4)) (by decide +kernel) rfl (by decide +kernel) (dbg_of h2).1, rfl⟩
    | str =>
      replace h : (glB sc x && (dbgB x && (decide (x = Str.ofString "str") && decide (x ∈ L.blt)))) = true := h
      obtain ⟨h1, h⟩ := and2 h
      obtain ⟨h2, h⟩ := and2 h
      obtain ⟨h3, h4⟩ := and2 h
      have e3 := of_decide_eq_true h3
      subst e3
      exact ⟨pe_bltn (G.gl h1) (G.lw.blt _ (of_decide_eq_true h4)) (by decide +kernel) rfl (by decide +kernel) (dbg_of h2).1, rfl⟩
    | tuple =>
      replace h : (glB sc x && (dbgB x && (decide (x = Str.ofString "tuple") && decide (x ∈ L.blt)))) = true := h
      obtain ⟨h1, h⟩ := and2 h
      obtain ⟨h2, h⟩ := and2 h
      obtain ⟨h3, h4⟩ := and2 h
      have e3 := of_decide_eq_true h3
      subst e3
      exact ⟨pe_bltn (G.gl h1) (G.lw.blt _ (of_decide_eq_true h4)) (by decide +kernel) rfl (by decide +kernel) (dbg_of h2).1, rfl⟩
    | list =>
      replace h : (glB sc x && (dbgB x && (decide (x = Str.ofString "list") && decide (x ∈ L.blt)))) = true := h
      obtain ⟨h1, h⟩ := and2 h
      obtain ⟨h2, h⟩ := and2 h
      obtain ⟨h3, h4⟩ := and2 h
      have e3 := of_decide_eq_true h3
      subst e3
      exact ⟨pe_bltn (G.gl h1) (G.lw.blt _ (of_decide_eq_true h4)) (by decide +kernel) rfl (by decide +kernel) (dbg_of h2).1, rfl⟩
    | valueError =>
      replace h : (glB sc x && (dbgB x && (decide (x = Str.ofString "ValueError") && decide (x ∈ L.blt)))) = true := h
      obtain ⟨h1, h⟩ := and2 h
      obtain ⟨h2, h⟩ := and2 h
      obtain ⟨h3, h4⟩ := and2 h
      have e3 := of_decide_eq_true h3
      subst e3
      exact ⟨pe_bltn (G.gl h1) (G.lw.blt _ (of_decide_eq_true h4)) (by decide +kernel) rfl (by decide +kernel) (dbg_of h2).1, rfl⟩
  | _ => cases h
theorem nil_of {L : Lw} {ns : List Str} {sc : Scope} {cel : Str → Bool} {calm : Bool} {t : T} (h : chkA L ns sc cel calm t [] = true) : t = .nil := by
  cases t <;> first | rfl | cases h
theorem cons_of {L : Lw} {ns : List Str} {sc : Scope} {cel : Str → Bool} {calm : Bool} {t : T} {e : Expr} {es : List Expr} (h : chkA L ns sc cel calm t (e :: es) = true) : ∃ a r, t = .cons a r ∧ noStar e = true ∧ chkE L ns sc cel calm a e = true ∧ chkA L ns sc cel calm r es = true := by
  cases t with
  | cons a r =>
    replace h : (noStar e && (chkE L ns sc cel calm a e && chkA L ns sc cel calm r es)) = true := h
    obtain ⟨h1, h⟩ := and2 h
    obtain ⟨h2, h3⟩ := and2 h
    exact ⟨a, r, rfl, h1, h2, h3⟩
  | _ => cases h
theorem eok : ∀ t : T, EOk t
  | .nil => {
      fe := fun _ _ h => by cases h
      ft := fun _ _ h => by cases h
      fw := fun _ _ h => by cases h
      fa := fun {L X cf N k ns sc cel calm W es} G tk h => by
        cases es with
        | nil => exact la_nil
        | cons _ _ => cases h
      fo := fun {L X cf N k ns sc cel calm W o} G tk h => by
        cases o with
        | none => exact lp_none
        | some _ => cases h
      fc := fun {L X cf N k ns sc cel calm es} G tk h => by
        cases es with
        | nil => exact ⟨fun pins s σ H Q I ⟨m, env, st, hr, er, h⟩ => pts_nil.run pins s σ H Q I (h true H m Ext.refl hr rfl)⟩
        | cons _ _ => cases h
      fi := fun _ _ _ h => by cases h
      fh := fun _ _ h => by cases h
      fg := fun _ _ _ h => by cases h
      fj := fun _ _ h => by cases h }
  | .cons a r => by
    have ha := eok a
    have hr := eok r
    exact {
      fe := fun _ _ h => by cases h
      ft := fun _ _ h => by cases h
      fw := fun _ _ h => by cases h
      fa := fun {L X cf N k ns sc cel calm W es} G tk h => by
        cases es with
        | nil => cases h
        | cons e es =>
          replace h : (noStar e && (chkE L ns sc cel calm a e && chkA L ns sc cel calm r es)) = true := h
          obtain ⟨h1, h⟩ := and2 h
          obtain ⟨h2, h3⟩ := and2 h
          exact la_cons h1 (ha.fe G tk h2) (hr.fa G tk h3)
      fo := fun {L X cf N k ns sc cel calm W o} G tk h => by
        cases o with
        | none => cases h
        | some e => exact lp_some (ha.fe G tk h)
      fc := fun {L X cf N k ns sc cel calm es} G tk h => by
        cases es with
        | nil => cases h
        | cons e es =>
          cases es with
          | nil =>
            have P := ha.ft G tk (show chkT L ns sc cel calm a e = true from h)
            refine ⟨fun pins s σ H Q I ⟨m, env, st, hr, er, h⟩ => (pts_one P).run pins s σ H Q I ⟨m, env, st, hr, er, ?_⟩⟩
            refine Pst.bind (h := h) (e0 := Ext.refl) fun dx st1 x H1 m1 _ e1 hr1 rx h1 => ?_
            cases dx with
            | bl c => exact ⟨c, rx, h1 c H1 m1 e1 hr1 rfl⟩
            | _ => exact h1.elim
          | cons _ _ => cases h
      fi := fun tg G tk h => pi_any (ha.fe G tk h)
      fh := fun _ _ q => by cases q; exact ha.fe
      fg := fun _ b r' q => by cases q; exact hr.fh _ _ rfl
      fj := fun tg G h => pit_tup (ha.fe G takesW0 h) }
  | .rng as => by
    have hs := eok as
    exact {
      fe := fun _ _ h => by cases h
      ft := fun _ _ h => by cases h
      fw := fun _ _ h => by cases h
      fa := fun _ _ h => by cases h
      fo := fun _ _ h => by cases h
      fc := fun _ _ h => by cases h
      fi := fun {L X cf N k ns sc cel calm W e} tg G tk h => by
        cases e with
        | Call f es kw pos =>
          cases f with
          | Name x p =>
            cases kw with
            | cons _ _ => cases h
            | nil =>
              replace h : (decide (x = "range") && (glB sc x && (decide (x ∈ L.blt) && (decide (es.length ≤ 2) && (!es.isEmpty && chkA L ns sc cel calm as es))))) = true := h
              obtain ⟨h1, h⟩ := and2 h
              obtain ⟨h2, h⟩ := and2 h
              obtain ⟨h3, h⟩ := and2 h
              obtain ⟨h4, h⟩ := and2 h
              obtain ⟨h5, h6⟩ := and2 h
              have e1 := of_decide_eq_true h1
              subst e1
              have hg := G.gl h2
              have hm := G.lw.blt _ (of_decide_eq_true h3)
              have hl := of_decide_eq_true h4
              rcases es with _ | ⟨y, _ | ⟨z, _ | ⟨u, es⟩⟩⟩
              · cases h5
              · obtain ⟨a, r, et, s1, c1, c2⟩ := cons_of h6
                have er := nil_of c2
                subst er
                have ha : EE a := hs.fh a _ et
                subst et
                exact pi_rng1 hg hm s1 (ha G tk c1) fun env st => by
                  show ((ev cf a env st).bind fun x st1 => (R.ok [] st1).bind fun xs st2 => R.ok (x :: xs) st2).bind _ = _
                  cases ev cf a env st <;> rfl
              · obtain ⟨a, r, et, s1, c1, c2⟩ := cons_of h6
                obtain ⟨b, r2, et2, s2, c3, c4⟩ := cons_of c2
                have er := nil_of c4
                subst er
                have ha : EE a := hs.fh a _ et
                have hb : EE b := hs.fg a b _ (by rw [et, et2])
                subst et2
                subst et
                exact pi_rng2 hg hm s1 s2 (ha G tk c1) (hb G tk c3) fun env st => by
                  show ((ev cf a env st).bind fun x st1 => ((ev cf b env st1).bind fun y st2 => (R.ok [] st2).bind fun xs st3 => R.ok (y :: xs) st3).bind fun xs st2 => R.ok (x :: xs) st2).bind _ = _
                  cases ev cf a env st with
                  | ok d st1 =>
                    simp only [R.bind_ok]
                    cases ev cf b env st1 <;> rfl
                  | exc c fs st1 => rfl
                  | stuck => rfl
              · simp at hl
          | _ => cases h
        | _ => cases h
      fh := fun _ _ h => by cases h
      fg := fun _ _ _ h => by cases h
      fj := fun {L X cf N k ns sc cel calm e} tg G h => by
        have tk : Takes X W0 := takesW0
        cases e with
        | Call f es kw pos =>
          cases f with
          | Name x p =>
            cases kw with
            | cons _ _ => cases h
            | nil =>
              replace h : (decide (x = "range") && (glB sc x && (decide (x ∈ L.blt) && (decide (es.length ≤ 2) && (!es.isEmpty && chkA L ns sc cel calm as es))))) = true := h
              obtain ⟨h1, h⟩ := and2 h
              obtain ⟨h2, h⟩ := and2 h
              obtain ⟨h3, h⟩ := and2 h
              obtain ⟨h4, h⟩ := and2 h
              obtain ⟨h5, h6⟩ := and2 h
              have e1 := of_decide_eq_true h1
              subst e1
              have hg := G.gl h2
              have hm := G.lw.blt _ (of_decide_eq_true h3)
              have hl := of_decide_eq_true h4
              rcases es with _ | ⟨y, _ | ⟨z, _ | ⟨u, es⟩⟩⟩
              · cases h5
              · obtain ⟨a, r, et, s1, c1, c2⟩ := cons_of h6
                have er := nil_of c2
                subst er
                have ha : EE a := hs.fh a _ et
                subst et
                exact pit_rng1 hg hm s1 (ha G tk c1) fun env st => by
                  show ((ev cf a env st).bind fun x st1 => (R.ok [] st1).bind fun xs st2 => R.ok (x :: xs) st2).bind _ = _
                  cases ev cf a env st <;> rfl
              · obtain ⟨a, r, et, s1, c1, c2⟩ := cons_of h6
                obtain ⟨b, r2, et2, s2, c3, c4⟩ := cons_of c2
                have er := nil_of c4
                subst er
                have ha : EE a := hs.fh a _ et
                have hb : EE b := hs.fg a b _ (by rw [et, et2])
                subst et2
                subst et
                exact pit_rng2 hg hm s1 s2 (ha G tk c1) (hb G tk c3) fun env st => by
                  show ((ev cf a env st).bind fun x st1 => ((ev cf b env st1).bind fun y st2 => (R.ok [] st2).bind fun xs st3 => R.ok (y :: xs) st3).bind fun xs st2 => R.ok (x :: xs) st2).bind _ = _
                  cases ev cf a env st with
                  | ok d st1 =>
                    simp only [R.bind_ok]
                    cases ev cf b env st1 <;> rfl
                  | exc c fs st1 => rfl
                  | stuck => rfl
              · simp at hl
          | _ => cases h
        | _ => cases h }
  | .rev a => by
    have ha := eok a
    exact {
      fe := fun _ _ h => by cases h
      ft := fun _ _ h => by cases h
      fw := fun _ _ h => by cases h
      fa := fun _ _ h => by cases h
      fo := fun _ _ h => by cases h
      fc := fun _ _ h => by cases h
      fi := fun {L X cf N k ns sc cel calm W e} tg G tk h => by
        cases e with
        | Call f es kw pos =>
          cases f with
          | Name x p =>
            cases kw with
            | cons _ _ => cases es <;> first | cases h | (rename_i y es; cases es <;> cases h)
            | nil =>
              cases es with
              | nil => cases h
              | cons y es =>
                cases es with
                | cons _ _ => cases h
                | nil =>
                  replace h : (decide (x = "reversed") && (glB sc x && (decide (x ∈ L.blt) && (noStar y && chkE L ns sc cel calm a y)))) = true := h
                  obtain ⟨h1, h⟩ := and2 h
                  obtain ⟨h2, h⟩ := and2 h
                  obtain ⟨h3, h⟩ := and2 h
                  obtain ⟨h4, h5⟩ := and2 h
                  have e1 := of_decide_eq_true h1
                  subst e1
                  exact pi_rev (G.gl h2) (G.lw.blt _ (of_decide_eq_true h3)) h4 (ha.fe G tk h5)
          | _ => cases h
        | _ => cases h
      fh := fun _ _ h => by cases h
      fg := fun _ _ _ h => by cases h
      fj := fun _ _ h => by cases h }
  | .var i => by
    have he : EE (.var i) := by
      intro L X cf N k ns sc cel calm W e G tk h
      cases e with
      | Name x pos =>
        replace h : (decide (ns[i]? = some x) && (visB sc x && dbgB x)) = true := h
        obtain ⟨h1, h⟩ := and2 h
        obtain ⟨h2, h3⟩ := and2 h
        exact le_var (G.slot (of_decide_eq_true h1)) (G.vis h2) (dbg_of h3).1 (dbg_of h3).2
      | _ => cases h
    exact .both rfl rfl he (ET.val he fun {L ns sc cel calm x} h => by
      cases x with
      | Name x pos => exact ⟨h, rfl⟩
      | _ => cases h)
  | .con d => by
    have he : EE (.con d) := by
      intro L X cf N k ns sc cel calm W e G tk h
      cases e with
      | Constant c j pos => exact con_ok h
      | Name x pos =>
        replace h : (glB sc x && (dbgB x && L.con.any fun p => decide (p.1 = x) && D.beq p.2 d)) = true := h
        obtain ⟨h1, h⟩ := and2 h
        obtain ⟨h2, h3⟩ := and2 h
        exact G.con h1 h2 h3
      | _ => cases h
    exact .both rfl rfl he (ET.val he fun {L ns sc cel calm x} h => by
      cases x with
      | Constant c j pos => exact ⟨h, rfl⟩
      | _ => cases h)
  | .bin o a b => by
    have ha := eok a
    have hb := eok b
    refine .one rfl rfl fun {L X cf N k ns sc cel calm W e} G tk h => ?_
    cases e with
    | BinOp x op y pos =>
      replace h : (decide (opOf o = op) && (chkE L ns sc cel calm a x && chkE L ns sc cel calm b y)) = true := h
      obtain ⟨h1, h⟩ := and2 h
      obtain ⟨h2, h3⟩ := and2 h
      have e1 := of_decide_eq_true h1
      subst e1
      exact le_bin o (ha.fe G tk h2) (hb.fe G tk h3)
    | _ => cases h
  | .neg a => by
    have ha := eok a
    refine .one rfl rfl fun {L X cf N k ns sc cel calm W e} G tk h => ?_
    cases e with
    | UnaryOp op x pos =>
      cases op with
      | USub => exact le_neg (ha.fe G tk h)
      | _ => cases h
    | _ => cases h
  | .not a => by
    have ha := eok a
    refine .both rfl rfl (fun {L X cf N k ns sc cel calm W e} G tk h => ?_) fun {L X cf N k ns sc cel calm W e} G tk h => ?_
    · cases e with
      | UnaryOp op x pos =>
        cases op with
        | Not => exact le_not (ha.fe G tk h)
        | _ => cases h
      | _ => cases h
    · cases e with
      | UnaryOp op x pos =>
        cases op with
        | Not => exact lt_not (ha.ft G tk h)
        | _ => cases h
      | _ => cases h
  | .and a b => by
    have ha := eok a
    have hb := eok b
    have hw : EW (.and a b) := by
      intro L X cf N k ns sc cel calm W op es pos G tk h
      cases op with
      | Or => cases es <;> first | cases h | (rename_i y es; cases es <;> cases h)
      | And =>
        cases es with
        | nil => cases h
        | cons x es =>
          cases es with
          | nil => cases h
          | cons y es =>
            cases es with
            | nil =>
              replace h : (chkT L ns sc cel calm a x && chkT L ns sc cel calm b y) = true := h
              obtain ⟨h1, h2⟩ := and2 h
              exact lt_and (ha.ft G tk h1) (lt_and1 (hb.ft G tk h2))
            | cons z r =>
              replace h : (chkT L ns sc cel calm a x && chkT L ns sc cel calm b (.BoolOp .And (y :: z :: r) pos)) = true := h
              obtain ⟨h1, h2⟩ := and2 h
              exact lt_and (ha.ft G tk h1) (hb.fw G tk h2)
    refine .full rfl (fun {L X cf N k ns sc cel calm W e} G tk h => ?_) (fun {L X cf N k ns sc cel calm W e} G tk h => ?_) hw
    · cases e with
      | BoolOp op es pos =>
        cases op with
        | Or => cases es <;> first | cases h | (rename_i y es; cases es <;> cases h)
        | And =>
          cases es with
          | nil => cases h
          | cons x es =>
            cases es with
            | nil => cases h
            | cons y es =>
              cases es with
              | nil =>
                replace h : (chkE L ns sc cel calm a x && chkE L ns sc cel calm b y) = true := h
                obtain ⟨h1, h2⟩ := and2 h
                exact le_and (ha.fe G tk h1) (pe_one (hb.fe G tk h2))
              | cons z r =>
                replace h : (chkE L ns sc cel calm a x && chkE L ns sc cel calm b (.BoolOp .And (y :: z :: r) pos)) = true := h
                obtain ⟨h1, h2⟩ := and2 h
                exact le_and (ha.fe G tk h1) (hb.fe G tk h2)
      | _ => cases h
    · cases e with
      | BoolOp op es pos => exact (hw G tk h).pt
      | _ => cases h
  | .or a b => by
    have ha := eok a
    have hb := eok b
    have hw : EW (.or a b) := by
      intro L X cf N k ns sc cel calm W op es pos G tk h
      cases op with
      | And => cases es <;> first | cases h | (rename_i y es; cases es <;> cases h)
      | Or =>
        cases es with
        | nil => cases h
        | cons x es =>
          cases es with
          | nil => cases h
          | cons y es =>
            cases es with
            | nil =>
              replace h : (chkT L ns sc cel calm a x && chkT L ns sc cel calm b y) = true := h
              obtain ⟨h1, h2⟩ := and2 h
              exact lt_or (ha.ft G tk h1) (lt_or1 (hb.ft G tk h2))
            | cons z r =>
              replace h : (chkT L ns sc cel calm a x && chkT L ns sc cel calm b (.BoolOp .Or (y :: z :: r) pos)) = true := h
              obtain ⟨h1, h2⟩ := and2 h
              exact lt_or (ha.ft G tk h1) (hb.fw G tk h2)
    refine .full rfl (fun {L X cf N k ns sc cel calm W e} G tk h => ?_) (fun {L X cf N k ns sc cel calm W e} G tk h => ?_) hw
    · cases e with
      | BoolOp op es pos =>
        cases op with
        | And => cases es <;> first | cases h | (rename_i y es; cases es <;> cases h)
        | Or =>
          cases es with
          | nil => cases h
          | cons x es =>
            cases es with
            | nil => cases h
            | cons y es =>
              cases es with
              | nil =>
                replace h : (chkE L ns sc cel calm a x && chkE L ns sc cel calm b y) = true := h
                obtain ⟨h1, h2⟩ := and2 h
                exact le_or (ha.fe G tk h1) (pe_one (hb.fe G tk h2))
              | cons z r =>
                replace h : (chkE L ns sc cel calm a x && chkE L ns sc cel calm b (.BoolOp .Or (y :: z :: r) pos)) = true := h
                obtain ⟨h1, h2⟩ := and2 h
                exact le_or (ha.fe G tk h1) (hb.fe G tk h2)
      | _ => cases h
    · cases e with
      | BoolOp op es pos => exact (hw G tk h).pt
      | _ => cases h
  | .cmp o a b => by
    have ha := eok a
    have hb := eok b
    refine .both rfl rfl (fun {L X cf N k ns sc cel calm W e} G tk h => ?_) fun {L X cf N k ns sc cel calm W e} G tk h => ?_
    all_goals
      cases e with
      | Compare x ops ys pos =>
        cases ops with
        | nil => cases ys <;> cases h
        | cons op ops =>
          cases ops with
          | cons _ _ => cases ys <;> first | cases h | (rename_i y ys; cases ys <;> cases h)
          | nil =>
            cases ys with
            | nil => cases h
            | cons y ys =>
              cases ys with
              | cons _ _ => cases h
              | nil =>
                replace h : (decide (o = op) && (noSet y && (chkE L ns sc cel calm a x && chkE L ns sc cel calm b y))) = true := h
                obtain ⟨h1, h⟩ := and2 h
                obtain ⟨h2, h⟩ := and2 h
                obtain ⟨h3, h4⟩ := and2 h
                have e1 := of_decide_eq_true h1
                subst e1
                first
                  | exact le_cmp G.units o (ha.fe G tk h3) (hb.fe G tk h4) (noSet_marks h2 o)
                  | exact lt_cmp G.units o (ha.fe G tk h3) (hb.fe G tk h4) (noSet_marks h2 o)
      | _ => cases h
  | .chn o p a b c => by
    have ha := eok a
    have hb := eok b
    have hc := eok c
    refine .both rfl rfl (fun {L X cf N k ns sc cel calm W e} G tk h => ?_) fun {L X cf N k ns sc cel calm W e} G tk h => ?_
    all_goals
      cases e with
      | Compare x ops ys pos =>
        rcases ops with _ | ⟨op, _ | ⟨op', _ | ⟨op2, ops⟩⟩⟩ <;> rcases ys with _ | ⟨y, _ | ⟨z, _ | ⟨z2, ys⟩⟩⟩ <;> first
          | (cases h; done)
          | (replace h : (decide (o = op) && (decide (p = op') && (noSet z && (chkE L ns sc cel calm a x && (chkE L ns sc cel calm b y && chkE L ns sc cel calm c z))))) = true := h
             obtain ⟨h1, h⟩ := and2 h
             obtain ⟨h2, h⟩ := and2 h
             obtain ⟨h3, h⟩ := and2 h
             obtain ⟨h4, h⟩ := and2 h
             obtain ⟨h5, h6⟩ := and2 h
             have e1 := of_decide_eq_true h1
             have e2 := of_decide_eq_true h2
             subst e1
             subst e2
             first
               | exact le_chn2 G.units o p (ha.fe G tk h4) (hb.fe G tk h5) (hc.fe G tk h6) (noSet_marks h3 p)
               | exact lt_chn G.units o p (ha.fe G tk h4) (hb.fe G tk h5) (hc.fe G tk h6) (noSet_marks h3 p))
      | _ => cases h
  | .call f as => by
    have hs := eok as
    have he : EE (.call f as) := by
      intro L X cf N k ns sc cel calm W e G tk h
      cases e with
      | Call g es kw pos =>
        cases g with
        | Name x p =>
          cases kw with
          | cons _ _ => cases h
          | nil =>
            replace h : (decide (L.fnN f = some x) && (glB sc x && (dbgB x && ((calm && L.okf f || L.okh f) && (es.all noStar && chkA L ns sc cel calm as es))))) = true := h
            obtain ⟨h1, h⟩ := and2 h
            obtain ⟨h2, h⟩ := and2 h
            obtain ⟨h3, h⟩ := and2 h
            obtain ⟨h4, h⟩ := and2 h
            obtain ⟨h5, h6⟩ := and2 h
            obtain ⟨m1, m2⟩ := G.lw.fnm f x (of_decide_eq_true h1)
            cases es with
            | nil =>
              have ea := nil_of h6
              subst ea
              exact le_call0 (G.gl h2) (dbg_of h3).1 m1 m2 (G.call tk h4)
            | cons y es => exact le_call (G.gl h2) (dbg_of h3).1 m1 m2 (G.call tk h4) h5 (hs.fa G tk h6)
        | _ => cases h
      | _ => cases h
    exact .both rfl rfl he (ET.val he fun {L ns sc cel calm x} h => by
      cases x with
      | Call g es kw pos =>
        cases g with
        | Name x p =>
          cases kw with
          | cons _ _ => cases h
          | nil => exact ⟨h, rfl⟩
        | _ => cases h
      | _ => cases h)
  | .blt b as => by
    have hs := eok as
    refine .one rfl rfl fun {L X cf N k ns sc cel calm W e} G tk h => ?_
    cases e with
    | Call g es kw pos =>
      cases g with
      | Name x p =>
        cases kw with
        | cons _ _ => cases es <;> cases h
        | nil =>
          cases es with
          | nil => cases h
          | cons y es =>
            replace h : (decide (x = bltN b) && (glB sc x && (decide (x ∈ L.blt) && ((calm || bltHot b) && ((y :: es).all noStar && chkA L ns sc cel calm as (y :: es)))))) = true := h
            obtain ⟨h1, h⟩ := and2 h
            obtain ⟨h2, h⟩ := and2 h
            obtain ⟨h3, h⟩ := and2 h
            obtain ⟨h4, h⟩ := and2 h
            obtain ⟨h5, h6⟩ := and2 h
            have e1 := of_decide_eq_true h1
            subst e1
            refine le_blt (blt_ok G.units b ?_) (G.gl h2) (G.lw.blt _ (of_decide_eq_true h3)) h5 (hs.fa G tk h6)
            rcases Bool.or_eq_true_iff.mp h4 with z | z
            · exact .inr (G.hcalm z)
            · exact .inl z
      | _ => cases es <;> cases h
    | _ => cases h
  | .isi a t => by
    have ha := eok a
    have he : EE (.isi a t) := by
      intro L X cf N k ns sc cel calm W e G tk h
      cases e with
      | Call g es kw pos =>
        cases g with
        | Name x p =>
          rcases es with _ | ⟨y, _ | ⟨z, _ | ⟨u, es⟩⟩⟩ <;> cases kw <;> first
            | (cases h; done)
            | (replace h : (decide (x = "isinstance") && (glB sc x && (decide (x ∈ L.blt) && (noStar y && (noStar z && (tyB L sc t z && chkE L ns sc cel calm a y)))))) = true := h
               obtain ⟨h1, h⟩ := and2 h
               obtain ⟨h2, h⟩ := and2 h
               obtain ⟨h3, h⟩ := and2 h
               obtain ⟨h4, h⟩ := and2 h
               obtain ⟨h5, h⟩ := and2 h
               obtain ⟨h6, h7⟩ := and2 h
               have e1 := of_decide_eq_true h1
               subst e1
               obtain ⟨p1, p2⟩ := exn_isi G h6
               exact pe_ty p1 G.lw.F p2 (ha.fe G tk h7) h4 h5 (G.gl h2) (G.lw.blt _ (of_decide_eq_true h3)))
        | _ => cases h
      | _ => cases h
    exact .both rfl rfl he (ET.val he fun {L ns sc cel calm x} h => by
      cases x with
      | Call g es kw pos =>
        cases g with
        | Name x p => rcases es with _ | ⟨y, _ | ⟨z, _ | ⟨u, es⟩⟩⟩ <;> cases kw <;> first | (cases h; done) | exact ⟨h, rfl⟩
        | _ => cases h
      | _ => cases h)
  | .mth mt o as => by
    have ho := eok o
    have hs := eok as
    refine .one rfl rfl fun {L X cf N k ns sc cel calm W e} G tk h => ?_
    cases e with
    | Call g es kw pos =>
      cases g with
      | Attribute x n apos =>
        cases kw with
        | cons _ _ => cases es <;> cases h
        | nil =>
          cases es with
          | nil => cases h
          | cons y es =>
            replace h : (decide (n = mthN mt) && (noSuper x && ((y :: es).all noStar && (decide ((y :: es).length < 30) && (apos.endLine == pos.line && (chkE L ns sc cel calm o x && chkA L ns sc cel calm as (y :: es))))))) = true := h
            obtain ⟨h1, h⟩ := and2 h
            obtain ⟨h2, h⟩ := and2 h
            obtain ⟨h3, h⟩ := and2 h
            obtain ⟨h4, h⟩ := and2 h
            obtain ⟨h5, h⟩ := and2 h
            obtain ⟨h6, h7⟩ := and2 h
            have e1 := of_decide_eq_true h1
            subst e1
            exact le_mth G.units (ho.fe G tk h6) (hs.fa G tk h7) h2 h3 (of_decide_eq_true h4) h5
      | _ => cases es <;> cases h
    | _ => cases h
  | .att o f => by
    have ho := eok o
    have he : EE (.att o f) := by
      intro L X cf N k ns sc cel calm W e G tk h
      cases e with
      | Attribute x n pos =>
        replace h : (decide (n = L.fldN f) && (decide (f < L.nf) && (noSuper x && chkE L ns sc cel calm o x))) = true := h
        obtain ⟨h1, h⟩ := and2 h
        obtain ⟨h2, h⟩ := and2 h
        obtain ⟨h3, h4⟩ := and2 h
        have e1 := of_decide_eq_true h1
        rw [← G.lw.fld f] at e1
        subst e1
        exact le_att G.lw.F (of_decide_eq_true h2) (ho.fe G tk h4) h3
      | _ => cases h
    exact .both rfl rfl he (ET.val he fun {L ns sc cel calm x} h => by
      cases x with
      | Attribute x n pos => exact ⟨h, rfl⟩
      | _ => cases h)
  | .idx a b => by
    have ha := eok a
    have hb := eok b
    have he : EE (.idx a b) := by
      intro L X cf N k ns sc cel calm W e G tk h
      cases e with
      | Subscript x y pos =>
        replace h : (noSlice y && (chkE L ns sc cel calm a x && chkE L ns sc cel calm b y)) = true := by
          cases y <;> exact h
        obtain ⟨h1, h⟩ := and2 h
        obtain ⟨h2, h3⟩ := and2 h
        exact le_idx G.units (ha.fe G tk h2) (hb.fe G tk h3) (plainIx_of h1)
      | _ => cases h
    exact .both rfl rfl he (ET.val he fun {L ns sc cel calm x} h => by
      cases x with
      | Subscript x y pos => exact ⟨h, rfl⟩
      | _ => cases h)
  | .slc a lo hi => by
    have ha := eok a
    have hl := eok lo
    have hh := eok hi
    refine .one rfl rfl fun {L X cf N k ns sc cel calm W e} G tk h => ?_
    cases e with
    | Subscript x y pos =>
      cases y with
      | Slice l u stp p2 =>
        cases stp with
        | some _ => cases h
        | none =>
          replace h : (chkE L ns sc cel calm a x && (chkO L ns sc cel calm lo l && chkO L ns sc cel calm hi u)) = true := h
          obtain ⟨h1, h⟩ := and2 h
          obtain ⟨h2, h3⟩ := and2 h
          exact le_slc (ha.fe G tk h1) (hl.fo G tk h2) (hh.fo G tk h3)
      | _ => cases h
    | _ => cases h
  | .tup as => by
    have hs := eok as
    refine .one rfl rfl fun {L X cf N k ns sc cel calm W e} G tk h => ?_
    cases e with
    | Tuple es j pos => exact le_tup (hs.fa G tk h)
    | _ => cases h
  | .lst as => by
    have hs := eok as
    refine .one rfl rfl fun {L X cf N k ns sc cel calm W e} G tk h => ?_
    cases e with
    | List es pos => exact le_lst (hs.fa G tk h)
    | _ => cases h
  | .ite c a b => by
    have hc := eok c
    have ha := eok a
    have hb := eok b
    refine .one rfl rfl fun {L X cf N k ns sc cel calm W e} G tk h => ?_
    cases e with
    | IfExp x y z pos =>
      replace h : (chkT L ns sc cel calm c x && (chkE L ns sc cel calm a y && chkE L ns sc cel calm b z)) = true := h
      obtain ⟨h1, h⟩ := and2 h
      obtain ⟨h2, h3⟩ := and2 h
      exact le_ite (hc.ft G tk h1) (ha.fe G tk h2) (hb.fe G tk h3)
    | _ => cases h
  | .lc own tg it c elt => by
    have hi := eok it
    have hc := eok c
    have hx := eok elt
    refine .one rfl rfl fun {L X cf N k ns sc cel calm W e} G tk h => ?_
    cases e with
    | ListComp x gs scope pos =>
      rcases gs with _ | ⟨⟨y, z, ifs, as⟩, _ | ⟨g2, gs⟩⟩
      · cases h
      · cases as with
        | negSucc _ => cases h
        | ofNat j =>
          cases j with
          | succ _ => cases h
          | zero =>
              replace h : (calm && (blkC ns sc scope (ownP ns own) && (decide ((ownP ns own).map (·.2) = own) && (decide (∀ i ∈ slotsT tg, i ∈ own) && (noSet z && (chkG ns (relS scope sc) (fun x => scope.names.lookup x == some .cell) calm tg y && (chkI L ns sc cel calm it z &&
                (chkC L ns (relS scope sc) (fun x => scope.names.lookup x == some .cell) calm c ifs && chkE L ns (relS scope sc) (fun x => scope.names.lookup x == some .cell) calm elt x)))))))) = true := h
              obtain ⟨h1, h⟩ := and2 h
              obtain ⟨h2, h⟩ := and2 h
              obtain ⟨h3, h⟩ := and2 h
              obtain ⟨h4, h⟩ := and2 h
              obtain ⟨h5, h⟩ := and2 h
              obtain ⟨h6, h⟩ := and2 h
              obtain ⟨h7, h⟩ := and2 h
              obtain ⟨h8, h9⟩ := and2 h
              have B : BlkOk X.N X.env.scope scope (ownP ns own) := by
                rw [G.hn, G.hs]
                exact blkOk_by h2
              have e3 := of_decide_eq_true h3
              have e4 := of_decide_eq_true h4
              refine PE.imp (pe_lc (tt := LTt X.K N (evc cf c)) (te := LE X.K N (ev cf elt) W0) (g := gT X.K tg) (G.hcalm h1) (by rw [G.hn]; exact G.nd) (hi.fi y G tk h7) B (fun s H C cl fp => g_ok (G.blk s H scope C cl fp B.kind) h6)
                (fun s H C cl fp => hc.fc (G.blk s H scope C cl fp B.kind) takesW0 h8) (fun s H C cl fp => hx.fe (G.blk s H scope C cl fp B.kind) takesW0 h9) (noSet_folded h5 X.env)) fun σ H Q h => ?_
              rw [e3]
              exact lc_read e4 h
      · rcases as with (_ | _) | _ <;> cases h
    | _ => cases h
  | .dct t => by
    refine .one rfl rfl fun {L X cf N k ns sc cel calm W e} G tk h => ?_
    cases e with
    | Dict ks vs pos =>
      obtain ⟨h1, h2⟩ := and2 (show (ks.isEmpty && vs.isEmpty) = true from h)
      rw [List.isEmpty_iff.mp h1, List.isEmpty_iff.mp h2]
      exact le_dct
    | _ => cases h
  | .dct1 t a b => by
    have ha := eok a
    have hb := eok b
    refine .one rfl rfl fun {L X cf N k ns sc cel calm W e} G tk h => ?_
    cases e with
    | Dict ks vs pos =>
      rcases ks with _ | ⟨_ | x, _ | ⟨_, _⟩⟩ <;> rcases vs with _ | ⟨y, _ | ⟨_, _⟩⟩ <;> first | (cases h; done) | skip
      obtain ⟨h1, h2⟩ := and2 (show (chkE L ns sc cel calm a x && chkE L ns sc cel calm b y) = true from h)
      exact le_dct1 G.units (ha.fe G tk h1) (hb.fe G tk h2)
    | _ => cases h
  | .sel kvs a => by
    have ha := eok a
    refine .one rfl rfl fun {L X cf N k ns sc cel calm W e} G tk h => ?_
    cases e with
    | Subscript x y pos =>
      cases x with
      | Dict ks vs p2 =>
        obtain ⟨h1, h⟩ := and2 (show (noSlice y && (selB kvs ks vs && (decide ((kvs.map (·.1)).Nodup) && (decide (0 < kvs.length ∧ kvs.length ≤ 15) && chkE L ns sc cel calm a y)))) = true from h)
        obtain ⟨h2, h⟩ := and2 h
        obtain ⟨h3, h⟩ := and2 h
        obtain ⟨h4, h5⟩ := and2 h
        have h4 := of_decide_eq_true h4
        obtain ⟨p1, p2, p3, p4, p5⟩ := sel_ok (X := X) (pos := p2) h2
        exact le_sel G.units p1 p2 (p3.trans p4.symm) (by intro z; rw [z] at p3; simp at p3; omega) (by rw [p3]; exact h4.2) h4.2 (of_decide_eq_true h3) p5 (ha.fe G tk h5) (plainIx_of h1)
      | _ => cases h
    | _ => cases h
  | .omt m o as => by
    have ho := eok o
    have hs := eok as
    have he : EE (.omt m o as) := by
      intro L X cf N k ns sc cel calm W e G tk h
      cases e with
      | Call g es kw pos =>
        cases g with
        | Attribute x n apos =>
          cases kw with
          | cons _ _ => cases h
          | nil =>
            replace h : (calm && (decide (n = L.mtN m) && (decide (m < L.nm) && (noSuper x && (es.all noStar && (decide (es.length < 30) && (apos.endLine == pos.line && (chkE L ns sc cel calm o x && chkA L ns sc cel calm as es)))))))) = true := h
            obtain ⟨h1, h⟩ := and2 h
            obtain ⟨h2, h⟩ := and2 h
            obtain ⟨h3, h⟩ := and2 h
            obtain ⟨h4, h⟩ := and2 h
            obtain ⟨h5, h⟩ := and2 h
            obtain ⟨h6, h⟩ := and2 h
            obtain ⟨h7, h⟩ := and2 h
            obtain ⟨h8, h9⟩ := and2 h
            have e1 := of_decide_eq_true h2
            subst e1
            cases es with
            | nil =>
              have ea := nil_of h9
              subst ea
              exact le_omt0 G.lw.F G.lw.O (of_decide_eq_true h3) (ho.fe G tk h8) (G.callA tk h1) h4 h7
            | cons y es => exact le_omt G.lw.F G.lw.O (of_decide_eq_true h3) (ho.fe G tk h8) (hs.fa G tk h9) (G.callA tk h1) h4 h5 (of_decide_eq_true h6) h7
        | _ => cases h
      | _ => cases h
    exact .both rfl rfl he (ET.val he fun {L ns sc cel calm x} h => by
      cases x with
      | Call g es kw pos =>
        cases g with
        | Attribute x n apos =>
          cases kw with
          | cons _ _ => cases h
          | nil => exact ⟨h, rfl⟩
        | _ => cases h
      | _ => cases h)
  | .new c as => by
    have hs := eok as
    refine .one rfl rfl fun {L X cf N k ns sc cel calm W e} G tk h => ?_
    cases e with
    | Call g es kw pos =>
      cases g with
      | Name x p =>
        cases kw with
        | cons _ _ => cases h
        | nil =>
          replace h : (calm && (decide (L.clN c = some x) && (L.ins c && (glB sc x && (dbgB x && (es.all noStar && chkA L ns sc cel calm as es)))))) = true := h
          obtain ⟨h1, h⟩ := and2 h
          obtain ⟨h2, h⟩ := and2 h
          obtain ⟨h3, h⟩ := and2 h
          obtain ⟨h4, h⟩ := and2 h
          obtain ⟨h5, h⟩ := and2 h
          obtain ⟨h6, h7⟩ := and2 h
          have h2 := of_decide_eq_true h2
          obtain ⟨k1, g, hg, k2⟩ := G.lw.mak c x h3 h2
          have M := k2 X W rfl rfl rfl rfl rfl G.room (G.hd h1) tk
          have ee : ev cf (.new c as) = fun env st => (evs cf as env st).bind fun ds st1 => newF c (cf.fn g) ds st1 := by
            funext env st
            have q : ev cf (.new c as) env st = (evs cf as env st).bind fun ds st1 => match cf.ini c with
              | some f => newF c (cf.fn f) ds st1
              | none => R.stuck := rfl
            rw [q, hg]
          rw [ee]
          cases es with
          | nil =>
            have ea := nil_of h7
            subst ea
            exact le_new0 (G.gl h4) (dbg_of h5).1 (G.lw.clm c x h2) k1 M
          | cons y es => exact le_new (G.gl h4) (dbg_of h5).1 (G.lw.clm c x h2) k1 M h6 (hs.fa G tk h7)
      | _ => cases h
    | _ => cases h
  | .ink neg a xs => by
    have ha := eok a
    refine .both rfl rfl (fun {L X cf N k ns sc cel calm W e} G tk h => ?_) fun {L X cf N k ns sc cel calm W e} G tk h => ?_
    all_goals
      cases e with
      | Compare x ops ys pos =>
        rcases ops with _ | ⟨op, _ | ⟨_, _⟩⟩
        · cases h
        · rcases ys with _ | ⟨y, _ | ⟨_, _⟩⟩
          · cases h
          · cases y with
            | Name y p =>
              replace h : (decide ((if neg then CmpOp.NotIn else CmpOp.In) = op) && (glB sc y && (dbgB y && ((L.ktp.any fun p => decide (p.1 = y) && decide (p.2 = xs)) && chkE L ns sc cel calm a x)))) = true := h
              obtain ⟨h1, h⟩ := and2 h
              obtain ⟨h2, h⟩ := and2 h
              obtain ⟨h3, h⟩ := and2 h
              obtain ⟨h4, h5⟩ := and2 h
              obtain ⟨a', vs, p1, p2, p3⟩ := G.ktup (pos := p) h2 h3 h4
              have e1 := of_decide_eq_true h1
              cases neg with
              | false =>
                subst e1
                first
                  | exact PE.imp (pe_cmpR op_in_seq (ha.fe G tk h5) p1 (noSet_marks rfl _)) fun σ H Q h => ink_read p2 p3 h
                  | exact PT.imp (pt_cmpR op_in_seq (ha.fe G tk h5) p1 (noSet_marks rfl _)) fun σ H Q h => ink_read p2 p3 h
              | true =>
                subst e1
                first
                  | exact PE.imp (pe_cmpR op_notIn_seq (ha.fe G tk h5) p1 (noSet_marks rfl _)) fun σ H Q h => ink_read p2 p3 h
                  | exact PT.imp (pt_cmpR op_notIn_seq (ha.fe G tk h5) p1 (noSet_marks rfl _)) fun σ H Q h => ink_read p2 p3 h
            | _ => cases h
          · cases y <;> cases h
        · rcases ys with _ | ⟨y, _ | ⟨_, _⟩⟩ <;> cases h
      | _ => cases h
  | .lc2 own vs tg it tg1 it1 elt => by
    have hi := eok it
    have hj := eok it1
    have hx := eok elt
    refine .one rfl rfl fun {L X cf N k ns sc cel calm W e} G tk h => ?_
    cases e with
    | ListComp x gs scope pos =>
      rcases gs with _ | ⟨⟨y, z, ifs, as⟩, _ | ⟨⟨y1, z1, ifs1, as1⟩, _ | ⟨g3, gs⟩⟩⟩
      · cases h
      · rcases ifs with _ | ⟨_, _⟩ <;> rcases as with (_ | _) | _ <;> cases h
      · rcases ifs with _ | ⟨_, _⟩
        · rcases as with (_ | _) | _
          · rcases ifs1 with _ | ⟨_, _⟩
            · rcases as1 with (_ | _) | _
              · replace h : (calm && (blkC ns sc scope (ownP ns own) && (decide ((ownP ns own).map (·.2) = own) && (decide (∀ i ∈ slotsT tg, i ∈ own) && (decide (∀ i ∈ slotsT tg1, i ∈ vs) && (decide (∀ i ∈ vs, i ∈ own) && (noSet z && (noSet z1 &&
                  (chkG ns (relS scope sc) (fun x => scope.names.lookup x == some .cell) calm tg y && (chkG ns (relS scope sc) (fun x => scope.names.lookup x == some .cell) calm tg1 y1 && (chkI L ns sc cel calm it z &&
                  (chkJ L ns (relS scope sc) (fun x => scope.names.lookup x == some .cell) calm it1 z1 && chkE L ns (relS scope sc) (fun x => scope.names.lookup x == some .cell) calm elt x)))))))))))) = true := h
                obtain ⟨h1, h⟩ := and2 h
                obtain ⟨h2, h⟩ := and2 h
                obtain ⟨h3, h⟩ := and2 h
                obtain ⟨h4, h⟩ := and2 h
                obtain ⟨h5, h⟩ := and2 h
                obtain ⟨h6, h⟩ := and2 h
                obtain ⟨h7, h⟩ := and2 h
                obtain ⟨h8, h⟩ := and2 h
                obtain ⟨h9, h⟩ := and2 h
                obtain ⟨h10, h⟩ := and2 h
                obtain ⟨h11, h⟩ := and2 h
                obtain ⟨h12, h13⟩ := and2 h
                have B : BlkOk X.N X.env.scope scope (ownP ns own) := by
                  rw [G.hn, G.hs]
                  exact blkOk_by h2
                have e3 := of_decide_eq_true h3
                have e4 := of_decide_eq_true h4
                have e5 := of_decide_eq_true h5
                have e6 := of_decide_eq_true h6
                have nl : ∀ {X : Cx}, PTs X [] (LTt X.K N fun _ st => .ok true st) := fun {X} => ⟨fun pins s σ H Q I ⟨m, env, st, hr, er, h⟩ => pts_nil.run pins s σ H Q I (h true H m Ext.refl hr rfl)⟩
                refine PE.imp (pe_lc2 (tt := LTt X.K N fun _ st => .ok true st) (tt1 := LTt X.K N fun _ st => .ok true st) (wi1 := LT X.K N (evt cf it1)) (te := LE X.K N (ev cf elt) W0) (g := gT X.K tg) (g1 := gT X.K tg1) (vs1 := vs) (G.hcalm h1) (by rw [G.hn]; exact G.nd) (hi.fi y G tk h11) B (by rw [e3]; exact e6)
                  (fun s H C cl fp => g_ok (G.blk s H scope C cl fp B.kind) h9) (fun s H C cl fp => nl) (fun s H C cl fp => hj.fj y1 (G.blk s H scope C cl fp B.kind) h12)
                  (fun s H C cl fp => g_ok (G.blk s H scope C cl fp B.kind) h10) (fun s H C cl fp => nl) (fun s H C cl fp => hx.fe (G.blk s H scope C cl fp B.kind) takesW0 h13) (noSet_folded h7 X.env) (fun env => noSet_folded h8 env)) fun σ H Q h => ?_
                rw [e3]
                exact lc2_read e4 e5 h
              · cases h
              · cases h
            · rcases as1 with (_ | _) | _ <;> cases h
          · cases h
          · cases h
        · cases h
      · rcases ifs with _ | ⟨_, _⟩ <;> rcases as with (_ | _) | _ <;> rcases ifs1 with _ | ⟨_, _⟩ <;> rcases as1 with (_ | _) | _ <;> cases h
    | _ => cases h
  | .asg .. | .aug .. | .exp _ | .ret _ | .retn | .pas | .brk | .iff .. | .for .. | .whl .. | .rse .. | .try .. | .hdl .. => .one rfl rfl fun _ _ h => by cases h
end Dk
/-! Dk21: the check of statements; what passes it has its reading. -/
namespace Dk
open PySem PySem.Spec PyProof.Rows L2
/-! ### no stores in a swapped order -/
def notName : Expr → Bool
  | .Name .. => false
  | _ => true
def swapOk (es : List Expr) : Expr → Bool
  | .Tuple .. => es.any notName || !(es.length == 2 || es.length == 3)
  | _ => true
theorem names_short {f : Expr → Option Str} (hf : ∀ e, notName e = true → f e = none) : ∀ {es : List Expr}, es.any notName = true → (es.filterMap f).length < es.length
  | [], h => by cases h
  | e :: es, h => by
    rw [List.any_cons] at h
    cases q : f e with
    | none =>
      rw [List.filterMap_cons_none q, List.length_cons]
      exact Nat.lt_succ_of_le (List.length_filterMap_le f es)
    | some x =>
      rw [List.filterMap_cons_some q, List.length_cons, List.length_cons]
      have n : notName e = false := by
        cases z : notName e with
        | false => rfl
        | true => rw [hf e z] at q; cases q
      rw [n, Bool.false_or] at h
      exact Nat.succ_lt_succ (names_short hf h)
theorem swap_tup {es : List Expr} {k : Nat} {p : Pos} {x : Expr} (h : swapOk es x = true) (env : PySem.Env) : swappedStores [.Tuple es k p] x env = pure none := by
  cases x with
  | Tuple vs k2 p2 =>
    replace h : (es.any notName || !(es.length == 2 || es.length == 3)) = true := h
    unfold swappedStores
    dsimp only
    split
    · rfl
    · rename_i c1
      split
      · rfl
      · split
        · rfl
        · rename_i c3
          exfalso
          rcases Bool.or_eq_true_iff.mp h with z | z
          · exact absurd (Bool.or_eq_true_iff.mpr (.inl (bne_iff_ne.mpr (Nat.ne_of_lt (names_short (fun e he => by cases e <;> first | rfl | cases he) z))))) c3
          · rw [z] at c1
            simp at c1
  | _ => rfl
theorem swap_name {x : Str} {p : Pos} {e : Expr} (env : PySem.Env) : swappedStores [.Name x p] e env = pure none := by cases e <;> rfl
theorem swap_sub {o i : Expr} {p : Pos} {e : Expr} (env : PySem.Env) : swappedStores [.Subscript o i p] e env = pure none := by cases e <;> rfl
theorem swap_att {o : Expr} {f : Str} {p : Pos} {e : Expr} (env : PySem.Env) : swappedStores [.Attribute o f p] e env = pure none := by cases e <;> rfl
theorem comp_sub {o i : Expr} {p : Pos} {e : Expr} {l : Nat} (env : PySem.Env) : swapsWith e (some (.Subscript o i p)) l env = pure false := by cases e <;> rfl
theorem comp_att {o : Expr} {f : Str} {p : Pos} {e : Expr} {l : Nat} (env : PySem.Env) : swapsWith e (some (.Attribute o f p)) l env = pure false := by cases e <;> rfl
theorem comp_tup {es : List Expr} {k : Nat} {p : Pos} {e : Expr} {l : Nat} (env : PySem.Env) : swapsWith e (some (.Tuple es k p)) l env = pure false := by cases e <;> rfl
/-! ### the check -/
/-- one target -/
def chkY (L : Lw) (ns : List Str) (sc : Scope) (cel : Str → Bool) (calm : Bool) : T → Expr → Bool
  | .var i, y => match y with
    | .Name x _ => decide (ns[i]? = some x) && locB sc cel x
    | _ => false
  | .idx a b, y => match y with
    | .Subscript o i _ => noSlice i && (chkE L ns sc cel calm a o && chkE L ns sc cel calm b i)
    | _ => false
  | .att o f, y => match y with
    | .Attribute v n _ => decide (n = L.fldN f) && (decide (f < L.nf) && chkE L ns sc cel calm o v)
    | _ => false
  | _, _ => false
def chkYs (L : Lw) (ns : List Str) (sc : Scope) (cel : Str → Bool) (calm : Bool) : T → List Expr → Bool
  | .nil, ys => ys.isEmpty
  | .cons a r, ys => match ys with
    | y :: ys => chkY L ns sc cel calm a y && chkYs L ns sc cel calm r ys
    | [] => false
  | _, _ => false
def isLc : T → Bool
  | .lc .. => true
  | _ => false
/-- an except clause's name -/
def asB (ns : List Str) (sc : Scope) : Option Nat → Option Str → Bool
  | none, none => true
  | some i, some v => decide (ns[i]? = some v) && decide (sc.names.lookup v = some .local)
  | _, _ => false
/-- name = [..] on one line -/
def lcSet (ns : List Str) (sc : Scope) (i : Nat) (y x : Expr) : Bool := match y, x with
  | .Name n p, .ListComp _ _ scope pos => decide (ns[i]? = some n) && (decide (sc.names.lookup n = some .local) && (p.line == pos.line && !(scope.names.any fun (m, k) => m == n && (k == .local || k == .cell))))
  | _, _ => false
/-- a, b = x, y: names, stored from the right -/
def swpB (ns : List Str) (sc : Scope) (ts : T) (ys : List Expr) (x : Expr) : Bool := match ts, ys, x with
  | .cons (.var i) (.cons (.var j) .nil), [.Name n p, .Name m q], .Tuple [a, b] _ _ => decide (ns[i]? = some n) && (decide (ns[j]? = some m) && (decide (sc.names.lookup n = some .local) && (decide (sc.names.lookup m = some .local) && (decide (i ≠ j) && (decide (n ≠ m) && (p.line == q.line && (noStar a && (noStar b && (!foldedForSure 8 a && !constantsAlone 8 a)))))))))
  | _, _, _ => false
def isTupT : T → Bool
  | .tup _ => true
  | _ => false
mutual
def chkS (L : Lw) (xf : Nat → Option (List Nat)) (ns : List Str) (sc : Scope) (cel : Str → Bool) (calm : Bool) : T → Stmt → Bool
  | .asg t e, st => match st with
    | .Assign [y] x _ => match t with
      | .tup ts => (match y with
        | .Tuple ys _ _ => calm && ((swapOk ys x || (isTupT e && swpB ns sc ts ys x)) && (chkYs L ns sc cel calm ts ys && chkE L ns sc cel calm e x))
        | _ => false)
      | .var i => (noComp x && (chkY L ns sc cel calm t y && chkE L ns sc cel calm e x)) || (isLc e && (calm && (lcSet ns sc i y x && chkE L ns sc cel calm e x)))
      | t => chkY L ns sc cel calm t y && chkE L ns sc cel calm e x
    | _ => false
  | .aug o t e, st => match st with
    | .AugAssign y .Add x _ => decide (o = .add) && (chkY L ns sc cel calm t y && chkE L ns sc cel calm e x)
    | _ => false
  | .exp e, st => match st with
    | .Expr x _ => noComp x && chkE L ns sc cel calm e x
    | _ => false
  | .ret e, st => match st with
    | .Return (some x) _ => chkE L ns sc cel calm e x
    | _ => false
  | .retn, st => match st with
    | .Return none _ => true
    | _ => false
  | .pas, st => match st with
    | .Pass _ => true
    | _ => false
  | .brk, st => match st with
    | .Break _ => true
    | _ => false
  | .iff c a b, st => match st with
    | .If x ys zs _ => chkT L ns sc cel calm c x && (chkB L xf ns sc cel calm a ys && chkB L xf ns sc cel calm b zs)
    | _ => false
  | .for tg it b, st => match st with
    | .For y z ys [] _ => calm && (noSet z && (chkG ns sc cel calm tg y && (chkI L ns sc cel calm it z && chkB L xf ns sc cel calm b ys)))
    | _ => false
  | .whl c b, st => match st with
    | .While x ys [] _ => calm && (chkT L ns sc cel calm c x && chkB L xf ns sc cel calm b ys)
    | _ => false
  | .rse c as, st => match st with
    | .Raise (some (.Call (.Name x _) (y :: es) [] _)) none _ => calm && (decide (L.clN c = some x) && ((xf c).isSome && (glB sc x && (dbgB x && ((y :: es).all noStar && chkA L ns sc cel calm as (y :: es))))))
    | _ => false
  | .try b hs, st => match st with
    | .Try ys (h₀ :: hds) [] [] _ => calm && (chkB L xf ns sc cel calm b ys && chkH L xf ns sc cel hs (h₀ :: hds))
    | _ => false
  | _, _ => false
def chkB (L : Lw) (xf : Nat → Option (List Nat)) (ns : List Str) (sc : Scope) (cel : Str → Bool) (calm : Bool) : T → List Stmt → Bool
  | .nil, ss => ss.isEmpty
  | .cons a r, ss => match ss with
    | s :: ss => chkS L xf ns sc cel calm a s && chkB L xf ns sc cel calm r ss
    | [] => false
  | _, _ => false
def chkH (L : Lw) (xf : Nat → Option (List Nat)) (ns : List Str) (sc : Scope) (cel : Str → Bool) : T → List ExceptHandler → Bool
  | .nil, hs => hs.isEmpty
  | .cons (.hdl k n b) r, hs => match hs with
    | .ExceptHandler (some (.Name x _)) m (y :: ys) _ :: hds => decide (L.clN k = some x) && (L.exn k && (glB sc x && (dbgB x && (asB ns sc n m && (chkB L xf ns sc cel false b (y :: ys) && chkH L xf ns sc cel r hds)))))
    | _ => false
  | _, _ => false
end
end Dk
/-! Dk22: what passes the check has its reading: statements. -/
namespace Dk
open PySem PySem.Spec PyProof.Rows L2
/-- a context of statements -/
structure Gs (L : Lw) (X : Cx) (cf : Cf) (xf : Nat → Option (List Nat)) (N : Nm) (k : Nat) (ns : List Str) (sc : Scope) (cel : Str → Bool) (calm : Bool) (W : WX) : Prop where
  g : Gx L X cf N k ns sc cel calm
  tk : Takes X W
  pass : calm = true → PassesOwn (model X.prog X.w) X.A X.env X.xe
  stk : calm = true → X.stack = X.env :: X.outer ∧ X.env.frame = some X.env.locals
  ini : ∀ c l, xf c = some l → L.exn c = true ∧ l.length ≤ 1000 ∧ ∃ fI, InitC X.prog X.K X.mg (N.clA c) fI (l.map N.fld)
section
variable {L : Lw} {X : Cx} {cf : Cf} {xf : Nat → Option (List Nat)} {N : Nm} {k : Nat} {ns : List Str} {sc : Scope} {cel : Str → Bool} {calm : Bool} {W : WX}
theorem Gs.tr (G : Gs L X cf xf N k ns sc cel calm W) {W' : WX} (pn : List (Addr × Obj)) (xe : Value → Shared → Prop) (tk : Takes (X.tr pn xe) W') (ps : PassesOwn (model X.prog X.w) X.A X.env xe) : Gs L (X.tr pn xe) cf xf N k ns sc cel calm W' where
  g := ⟨G.g.lw, G.g.hn, G.g.nd, G.g.hs, G.g.hcel, G.g.hcalm, G.g.hd, G.g.room, G.g.hkind⟩
  tk := tk
  pass := fun _ => ps
  stk := G.stk
  ini := G.ini
theorem Gs.suite (G : Gs L X cf xf N k ns sc cel calm W) (a : Addr) (pn : List (Addr × Obj)) : Gs L (X.suite a pn) cf xf N k ns sc cel false Wno where
  g := ⟨G.g.lw, G.g.hn, G.g.nd, G.g.hs, G.g.hcel, fun z => absurd z Bool.false_ne_true, fun z => absurd z Bool.false_ne_true, ⟨G.g.room.dp, G.g.room.un⟩, G.g.hkind⟩
  tk := fun _ _ ⟨_, _, _, _, _, _, _, _, _, _, _, _, _, _, _, _, w⟩ => w.elim
  pass := fun z => absurd z Bool.false_ne_true
  stk := fun z => absurd z Bool.false_ne_true
  ini := G.ini
theorem swapped2 {n m : Str} {p q pt p2 : Pos} {kt k2 : Nat} {a b : Expr} {env : PySem.Env} (hk : env.scope.kind = .function) (h1 : env.scope.names.lookup n = some .local) (h2 : env.scope.names.lookup m = some .local) (hn : n ≠ m) (hl : (p.line == q.line) = true) (sa : noStar a = true) (sb : noStar b = true)
    (f1 : foldedForSure 8 a = false) (f2 : constantsAlone 8 a = false) : swappedStores [.Tuple [.Name n p, .Name m q] kt pt] (.Tuple [a, b] k2 p2) env = pure (some [n, m]) := by
  have k1 : env.kindOf n = some .local := h1
  have k3 : env.kindOf m = some .local := h2
  have hb : env.blockKind = .function := by unfold Env.blockKind; rw [hk]; rfl
  have z : ∀ e : Expr, noStar e = true → (match e with | .Starred .. => true | _ => false) = false := fun e h => by cases e <;> first | rfl | cases h
  have ll : q.line = p.line := by have := of_decide_eq_true (show decide (p.line = q.line) = true from by simpa using hl); exact this.symm
  unfold swappedStores
  simp [hb, k1, k3, Expr.pos, ll, List.eraseDups, List.eraseDupsBy, List.eraseDupsBy.loop, f1, f2]
  rw [if_neg ?_]
  · rw [show (m == n) = false from beq_false_of_ne (Ne.symm hn)]
    simp
  · cases a <;> cases b <;> first | (cases sa; done) | (cases sb; done) | (intro z; rcases z with z | z <;> cases z)
theorem par_ok (G : Gs L X cf xf N k ns sc cel calm W) {ts as : T} {ys vs : List Expr} {kt k2 : Nat} {pt p2 pos : Pos} (hc : calm = true) (h : swpB ns sc ts ys (.Tuple vs k2 p2) = true) (ha : chkE L ns sc cel calm (.tup as) (.Tuple vs k2 p2) = true) :
    PS X (.Assign [.Tuple ys kt pt] (.Tuple vs k2 p2) pos) (LS X.K N (ex cf xf (.asg (.tup ts) (.tup as))) W) := by
  unfold swpB at h
  split at h
  · rename_i i j n p m q a b k3 p3 e
    cases e
    obtain ⟨h1, h⟩ := and2 h
    obtain ⟨h2, h⟩ := and2 h
    obtain ⟨h3, h⟩ := and2 h
    obtain ⟨h4, h⟩ := and2 h
    obtain ⟨h5, h⟩ := and2 h
    obtain ⟨h6, h⟩ := and2 h
    obtain ⟨h7, h⟩ := and2 h
    obtain ⟨h8, h⟩ := and2 h
    obtain ⟨h9, h⟩ := and2 h
    obtain ⟨h10, h11⟩ := and2 h
    have h3 := of_decide_eq_true h3
    have h4 := of_decide_eq_true h4
    rw [← G.g.hs] at h3 h4
    refine PS.imp (ps_par (G.g.hcalm hc) (by rw [G.g.hn]; exact G.g.nd) (G.g.slot (of_decide_eq_true h1)) (G.g.slot (of_decide_eq_true h2)) (of_decide_eq_true h5) h3 h4 ((eok as).fa G.g G.tk ha)
      (swapped2 (by rw [G.g.hs]; exact G.g.hkind) h3 h4 (of_decide_eq_true h6) h7 h8 h9 (by simpa using h10) (by simpa using h11))) fun D σ H ⟨m, env, st, hr, er, h⟩ => ⟨m, env, st, hr, er, ?_⟩
    replace h : SPst X.K N m H (((evs cf as env st).bind fun ds st1 => if ds.length ≤ sizeLine then .ok (.tup ds) st1 else .stuck).go env fun d st1 => asgT cf (.tup (.cons (.var i) (.cons (.var j) .nil))) d env st1) D W := h
    cases hq : evs cf as env st with
    | stuck => rw [hq] at h; exact h
    | exc c fs st1 => rw [hq] at h; exact fun dd H' m' e' hr' x => h dd σ H' m' e' hr' (er.mono e' hr.nt) x
    | ok ds st1 =>
      rw [hq] at h
      intro vs H1 m1 e1 hr1 rs
      replace h : SPst X.K N m H ((if ds.length ≤ sizeLine then R.ok (Dk.D.tup ds) st1 else .stuck).go env fun d st1 => asgT cf (.tup (.cons (.var i) (.cons (.var j) .nil))) d env st1) D W := h
      split at h
      · replace h : SPst X.K N m H (if ds.length = 2 then asgs cf (.cons (.var i) (.cons (.var j) .nil)) ds env st1 else .stuck) D W := h
        split at h
        · rename_i hl
          rcases ds with _ | ⟨d1, _ | ⟨d2, _ | ⟨_, _⟩⟩⟩ <;> try (simp at hl; done)
          obtain ⟨v1, _, ev, r1, v2, _, ev2, r2, ev3⟩ := rs
          subst ev2
          rw [ev3] at ev
          refine ⟨v1, v2, ev, ?_⟩
          replace h : SPst X.K N m H ((if i < env.length then RS.ok (.nx (env.set i (some d1))) st1 else .stuck).seq fun env1 st1 => (if j < env1.length then RS.ok (.nx (env1.set j (some d2))) st1 else .stuck).seq fun env2 st2 => .ok (.nx env2) st2) D W := h
          split at h
          · rename_i hi
            replace h : SPst X.K N m H ((if j < (env.set i (some d1)).length then RS.ok (.nx ((env.set i (some d1)).set j (some d2))) st1 else .stuck).seq fun env2 st2 => .ok (.nx env2) st2) D W := h
            split at h
            · rename_i hj
              exact h _ H1 m1 e1 hr1 (((er.mono e1 hr.nt).set hi r1).set hj r2)
            · exact h.elim
          · exact h.elim
        · exact h.elim
      · exact h.elim
  · cases h
/-- one target -/
theorem y_ok (G : Gs L X cf xf N k ns sc cel calm W) {t : T} {y : Expr} (h : chkY L ns sc cel calm t y = true) : noStar y = true ∧ PG X y (LG X.K N (asg1 cf t) W) := by
  cases t with
  | var i =>
    cases y with
    | Name x pos =>
      replace h : (decide (ns[i]? = some x) && locB sc cel x) = true := h
      obtain ⟨h1, h2⟩ := and2 h
      obtain ⟨l1, l2⟩ := G.g.loc h2
      exact ⟨rfl, lg_var (by rw [G.g.hn]; exact G.g.nd) (G.g.slot (of_decide_eq_true h1)) l1 l2⟩
    | _ => cases h
  | idx a b =>
    cases y with
    | Subscript o i pos =>
      replace h : (noSlice i && (chkE L ns sc cel calm a o && chkE L ns sc cel calm b i)) = true := h
      obtain ⟨h1, h⟩ := and2 h
      obtain ⟨h2, h3⟩ := and2 h
      exact ⟨rfl, lg_idx G.g.units ((eok a).fe G.g G.tk h2) ((eok b).fe G.g G.tk h3) h1⟩
    | _ => cases h
  | att o f =>
    cases y with
    | Attribute v n pos =>
      replace h : (decide (n = L.fldN f) && (decide (f < L.nf) && chkE L ns sc cel calm o v)) = true := h
      obtain ⟨h1, h⟩ := and2 h
      obtain ⟨h2, h3⟩ := and2 h
      have e1 := of_decide_eq_true h1
      rw [← G.g.lw.fld f] at e1
      subst e1
      exact ⟨rfl, lg_att G.g.lw.F (of_decide_eq_true h2) ((eok o).fe G.g G.tk h3)⟩
    | _ => cases h
  | _ => cases h
theorem ys_ok (G : Gs L X cf xf N k ns sc cel calm W) : ∀ {t : T} {ys : List Expr}, chkYs L ns sc cel calm t ys = true → ys.all noStar = true ∧ PGs X ys (LGs X.K N (asgs cf t) W) ∧ ys.length = lenT t := by
  intro t
  induction t with
  | nil =>
    intro ys h
    cases ys with
    | cons _ _ => cases h
    | nil =>
      have e : (asgs cf .nil) = fun ds env st => match ds with
        | [] => .ok (.nx env) st
        | _ :: _ => .stuck := by
        funext ds env st
        cases ds <;> rfl
      exact ⟨rfl, by rw [e]; exact lgs_nil, rfl⟩
  | cons a r _ ih =>
    intro ys h
    cases ys with
    | nil => cases h
    | cons y ys =>
      replace h : (chkY L ns sc cel calm a y && chkYs L ns sc cel calm r ys) = true := h
      obtain ⟨h1, h2⟩ := and2 h
      obtain ⟨p1, p2⟩ := y_ok G h1
      obtain ⟨q1, q2, q3⟩ := ih h2
      have e : (asgs cf (.cons a r)) = fun ds env st => match ds with
        | [] => .stuck
        | d :: ds => (asg1 cf a d env st).seq (asgs cf r ds) := by
        funext ds env st
        cases ds <;> rfl
      exact ⟨by rw [List.all_cons, p1, q1]; rfl, by rw [e]; exact lgs_cons p1 p2 q2, by rw [List.length_cons, q3]; rfl⟩
  | _ => intro ys h; cases h
end
/-! ### what is claimed of a term as a statement -/
def SS (t : T) : Prop := ∀ {L : Lw} {X : Cx} {cf : Cf} {xf : Nat → Option (List Nat)} {N : Nm} {k : Nat} {ns : List Str} {sc : Scope} {cel : Str → Bool} {calm : Bool} {W : WX} {st : Stmt}, Gs L X cf xf N k ns sc cel calm W → chkS L xf ns sc cel calm t st = true → PS X st (LS X.K N (ex cf xf t) W)
def SB (t : T) : Prop := ∀ {L : Lw} {X : Cx} {cf : Cf} {xf : Nat → Option (List Nat)} {N : Nm} {k : Nat} {ns : List Str} {sc : Scope} {cel : Str → Bool} {calm : Bool} {W : WX} {ss : List Stmt}, Gs L X cf xf N k ns sc cel calm W → chkB L xf ns sc cel calm t ss = true → PSs X ss (LS X.K N (ex cf xf t) W)
def SH (t : T) : Prop := ∀ {L : Lw} {X : Cx} {cf : Cf} {xf : Nat → Option (List Nat)} {N : Nm} {k : Nat} {ns : List Str} {sc : Scope} {cel : Str → Bool} {calm : Bool} {W : WX} {hs : List ExceptHandler}, Gs L X cf xf N k ns sc cel calm W → chkH L xf ns sc cel t hs = true → Hdl X N cf.sub hs (exh cf xf t)
/-- a clause's suite -/
def SD (t : T) : Prop := ∀ k n b, t = .hdl k n b → SB b
structure SOk (t : T) : Prop where
  ss : SS t
  sb : SB t
  sh : SH t
  sd : SD t
def T.isR : T → Bool
  | .nil | .cons .. => true
  | _ => false
theorem SOk.one {t : T} (h : t.isR = false) (hd : ∀ k n b, t ≠ .hdl k n b) (s : SS t) : SOk t where
  ss := s
  sb := fun {L X cf xf N k ns sc cel calm W ss} _ q => by
    have z : chkB L xf ns sc cel calm t ss = false := by cases t <;> first | rfl | cases h
    rw [z] at q; cases q
  sh := fun {L X cf xf N k ns sc cel calm W hs} _ q => by
    have z : chkH L xf ns sc cel t hs = false := by cases t <;> first | rfl | cases h
    rw [z] at q; cases q
  sd := fun k n b q => absurd q (hd k n b)
theorem units_dp {k : Nat} {A : Around} (r : L2H.RoomH k A) : A.depth + 1 < recursionLimit := by
  have := r.dp
  omega
section
variable {L : Lw} {X : Cx} {cf : Cf} {xf : Nat → Option (List Nat)} {N : Nm} {k : Nat} {ns : List Str} {sc : Scope} {cel : Str → Bool} {calm : Bool} {W : WX}
/-- name = [..] -/
theorem lcSet_ok (G : Gs L X cf xf N k ns sc cel calm W) {i : Nat} {own : List Nat} {tg it c elt : T} {y x : Expr} {pos : Pos} (hc : calm = true) (h1 : lcSet ns sc i y x = true) (h : chkE L ns sc cel calm (.lc own tg it c elt) x = true) :
    PS X (.Assign [y] x pos) (LS X.K N (ex cf xf (.asg (.var i) (.lc own tg it c elt))) W) := by
  cases y with
  | Name n p =>
    cases x with
    | ListComp el gs scope p2 =>
      replace h1 : (decide (ns[i]? = some n) && (decide (sc.names.lookup n = some .local) && (p.line == p2.line && !(scope.names.any fun (m, k) => m == n && (k == .local || k == .cell))))) = true := h1
      obtain ⟨a1, h1⟩ := and2 h1
      obtain ⟨a2, h1⟩ := and2 h1
      obtain ⟨a3, a4⟩ := and2 h1
      rcases gs with _ | ⟨⟨y, z, ifs, as⟩, _ | ⟨g2, gs⟩⟩
      · cases h
      · cases as with
        | negSucc _ => cases h
        | ofNat j =>
          cases j with
          | succ _ => cases h
          | zero =>
            replace h : (calm && (blkC ns sc scope (ownP ns own) && (decide ((ownP ns own).map (·.2) = own) && (decide (∀ i ∈ slotsT tg, i ∈ own) && (noSet z && (chkG ns (relS scope sc) (fun x => scope.names.lookup x == some .cell) calm tg y && (chkI L ns sc cel calm it z &&
              (chkC L ns (relS scope sc) (fun x => scope.names.lookup x == some .cell) calm c ifs && chkE L ns (relS scope sc) (fun x => scope.names.lookup x == some .cell) calm elt el)))))))) = true := h
            obtain ⟨c1, h⟩ := and2 h
            obtain ⟨c2, h⟩ := and2 h
            obtain ⟨c3, h⟩ := and2 h
            obtain ⟨c4, h⟩ := and2 h
            obtain ⟨c5, h⟩ := and2 h
            obtain ⟨c6, h⟩ := and2 h
            obtain ⟨c7, h⟩ := and2 h
            obtain ⟨c8, c9⟩ := and2 h
            have B : BlkOk X.N X.env.scope scope (ownP ns own) := by
              rw [G.g.hn, G.g.hs]
              exact blkOk_by c2
            have e3 := of_decide_eq_true c3
            have loc : X.env.scope.names.lookup n = some .local := by rw [G.g.hs]; exact of_decide_eq_true a2
            refine PS.imp (ps_setLc (tt := LTt X.K N (evc cf c)) (te := LE X.K N (ev cf elt) W0) (g := gT X.K tg) (G.g.hcalm hc) (by rw [G.g.hn]; exact G.g.nd) (G.g.slot (of_decide_eq_true a1)) loc
              (sw_true (by rw [G.g.hs]; exact G.g.hkind) loc a3 (by simpa using a4)) ((eok it).fi y G.g G.tk c7) B (fun s H C cl fp => g_ok (G.g.blk s H scope C cl fp B.kind) c6)
              (fun s H C cl fp => (eok c).fc (G.g.blk s H scope C cl fp B.kind) takesW0 c8) (fun s H C cl fp => (eok elt).fe (G.g.blk s H scope C cl fp B.kind) takesW0 c9) (noSet_folded c5 X.env)) fun D σ H h => ?_
            obtain ⟨m, env, st, hr, er, h⟩ := h
            show tLc _ _ _ _ _ σ H (fun x H1 => gName i x σ H1 D.nx)
            rw [e3]
            refine lc_read (W := W) (of_decide_eq_true c4) ⟨m, env, st, hr, er, ?_⟩
            refine SPst.go (h := h) (e0 := Ext.refl) (nt := hr.nt) (er := er) fun d st1 v H1 m1 _ e1 hr1 rv h1 => ?_
            replace h1 : SPst X.K N m H (if i < env.length then .ok (.nx (env.set i (some d))) st1 else .stuck) D W := h1
            split at h1
            · rename_i hl
              exact h1 _ H1 m1 e1 hr1 ((er.mono e1 hr.nt).set hl rv)
            · exact h1.elim
      · rcases as with (_ | _) | _ <;> cases h
    | _ => cases h1
  | _ => cases h1
end
theorem sok : ∀ t : T, SOk t
  | .nil => {
      ss := fun _ h => by cases h
      sb := fun {L X cf xf N k ns sc cel calm W ss} G h => by
        cases ss with
        | nil => exact ls_nil
        | cons _ _ => cases h
      sh := fun {L X cf xf N k ns sc cel calm W hs} G h => by
        cases hs with
        | nil => exact .nil
        | cons _ _ => cases h
      sd := fun _ _ _ h => by cases h }
  | .cons a r => by
    have ha := sok a
    have hr := sok r
    exact {
      ss := fun _ h => by cases h
      sb := fun {L X cf xf N k ns sc cel calm W ss} G h => by
        cases ss with
        | nil => cases h
        | cons s ss =>
          replace h : (chkS L xf ns sc cel calm a s && chkB L xf ns sc cel calm r ss) = true := h
          obtain ⟨h1, h2⟩ := and2 h
          exact ls_cons (ha.ss G h1) (hr.sb G h2)
      sh := fun {L X cf xf N k ns sc cel calm W hs} G h => by
        cases a with
        | hdl kk n b =>
          have hb : SB b := ha.sd kk n b rfl
          cases hs with
          | nil => cases h
          | cons h0 hds =>
            obtain ⟨ty, m, su, pos⟩ := h0
            rcases ty with _ | ty
            · cases h
            · cases ty with
              | Name x np =>
                cases su with
                | nil => cases h
                | cons y ys =>
                  replace h : (decide (L.clN kk = some x) && (L.exn kk && (glB sc x && (dbgB x && (asB ns sc n m && (chkB L xf ns sc cel false b (y :: ys) && chkH L xf ns sc cel r hds)))))) = true := h
                  obtain ⟨h1, h⟩ := and2 h
                  obtain ⟨h2, h⟩ := and2 h
                  obtain ⟨h3, h⟩ := and2 h
                  obtain ⟨h4, h⟩ := and2 h
                  obtain ⟨h5, h⟩ := and2 h
                  obtain ⟨h6, h7⟩ := and2 h
                  have nm : Names X x (.ref (N.clA kk)) := ⟨G.g.gl h3, (dbg_of h4).1, .inl (G.g.lw.clm kk x (of_decide_eq_true h1))⟩
                  have ek := G.g.lw.exn kk h2
                  cases n with
                  | none =>
                    cases m with
                    | some _ => cases h5
                    | none => exact .un nm ek (fun a pn => hb (G.suite a pn) h6) (hr.sh G h7)
                  | some i =>
                    cases m with
                    | none => cases h5
                    | some v =>
                      obtain ⟨z1, z2⟩ := and2 h5
                      exact .as nm ek (G.g.slot (of_decide_eq_true z1)) (by show X.env.scope.names.lookup v = _; rw [G.g.hs]; exact of_decide_eq_true z2) (fun a pn => hb (G.suite a pn) h6) (hr.sh G h7)
              | _ => cases su <;> cases h
        | _ => cases h
      sd := fun _ _ _ h => by cases h }
  | .hdl k n b => by
    have hb := sok b
    exact {
      ss := fun _ h => by cases h
      sb := fun _ h => by cases h
      sh := fun _ h => by cases h
      sd := fun _ _ _ q => by cases q; exact hb.sb }
  | .asg t e => .one rfl (fun _ _ _ z => nomatch z) fun {L X cf xf N k ns sc cel calm W st} G h => by
      cases st with
      | Assign ts x pos =>
        rcases ts with _ | ⟨y, _ | ⟨y2, ys⟩⟩
        · cases h
        · cases t with
          | tup ts =>
            cases y with
            | Tuple ys j p =>
              replace h : (calm && ((swapOk ys x || (isTupT e && swpB ns sc ts ys x)) && (chkYs L ns sc cel calm ts ys && chkE L ns sc cel calm e x))) = true := h
              obtain ⟨h1, h⟩ := and2 h
              obtain ⟨h2, h⟩ := and2 h
              obtain ⟨h3, h4⟩ := and2 h
              rcases Bool.or_eq_true_iff.mp h2 with h2 | h2
              case inr =>
                obtain ⟨z1, z2⟩ := and2 h2
                cases e with
                | tup as =>
                  cases x with
                  | Tuple vs k2 p2 => exact par_ok G h1 z2 h4
                  | _ => cases h4
                | _ => cases z1
              obtain ⟨q1, q2, q3⟩ := ys_ok G h3
              have P := ls_asg (pos := pos) ((eok e).fe G.g G.tk h4) (lg_tup (k := j) (pos := p) (G.g.hcalm h1) q1 q3 q2) (comp_tup X.env) (swap_tup h2 X.env) rfl
              refine PS.imp P fun D σ H ⟨m, env, st, hr, er, h⟩ => ⟨m, env, st, hr, er, ?_⟩
              exact h
            | _ => cases h
          | var i =>
            have gen : noComp x = true → chkY L ns sc cel calm (.var i) y = true → chkE L ns sc cel calm e x = true → PS X (.Assign [y] x pos) (LS X.K N (ex cf xf (.asg (.var i) e)) W) := fun h1 h2 h3 => by
              obtain ⟨p1, p2⟩ := y_ok G h2
              exact ls_asg ((eok e).fe G.g G.tk h3) p2 (noComp_swap h1 _ _ _) (by
                cases y with
                | Name n p => exact swap_name X.env
                | _ => cases h2) p1
            replace h : ((noComp x && (chkY L ns sc cel calm (.var i) y && chkE L ns sc cel calm e x)) || (isLc e && (calm && (lcSet ns sc i y x && chkE L ns sc cel calm e x)))) = true := h
            rcases Bool.or_eq_true_iff.mp h with h | h
            · obtain ⟨h1, h⟩ := and2 h
              obtain ⟨h2, h3⟩ := and2 h
              exact gen h1 h2 h3
            · obtain ⟨h0, h⟩ := and2 h
              obtain ⟨h1, h⟩ := and2 h
              obtain ⟨h2, h3⟩ := and2 h
              cases e with
              | lc own tg it c elt => exact lcSet_ok G h1 h2 h3
              | _ => cases h0
          | idx a b =>
            replace h : (chkY L ns sc cel calm (.idx a b) y && chkE L ns sc cel calm e x) = true := h
            obtain ⟨h1, h2⟩ := and2 h
            obtain ⟨p1, p2⟩ := y_ok G h1
            cases y with
            | Subscript o i p => exact ls_asg ((eok e).fe G.g G.tk h2) p2 (comp_sub X.env) (swap_sub X.env) p1
            | _ => cases h1
          | att o f =>
            replace h : (chkY L ns sc cel calm (.att o f) y && chkE L ns sc cel calm e x) = true := h
            obtain ⟨h1, h2⟩ := and2 h
            obtain ⟨p1, p2⟩ := y_ok G h1
            cases y with
            | Attribute v n p => exact ls_asg ((eok e).fe G.g G.tk h2) p2 (comp_att X.env) (swap_att X.env) p1
            | _ => cases h1
          | _ => cases h
        · cases h
      | _ => cases h
  | .aug o t e => .one rfl (fun _ _ _ z => nomatch z) fun {L X cf xf N k ns sc cel calm W st} G h => by
      cases st with
      | AugAssign y op x pos =>
        cases op with
        | Add =>
          replace h : (decide (o = .add) && (chkY L ns sc cel calm t y && chkE L ns sc cel calm e x)) = true := h
          obtain ⟨h1, h⟩ := and2 h
          obtain ⟨h2, h3⟩ := and2 h
          have e1 := of_decide_eq_true h1
          subst e1
          have he := (eok e).fe G.g G.tk h3
          cases t with
          | var i =>
            cases y with
            | Name n p =>
              replace h2 : (decide (ns[i]? = some n) && locB sc cel n) = true := h2
              obtain ⟨z1, z2⟩ := and2 h2
              obtain ⟨l1, l2⟩ := G.g.loc z2
              exact ls_augV (by rw [G.g.hn]; exact G.g.nd) (G.g.slot (of_decide_eq_true z1)) l1 l2 he
            | _ => cases h2
          | idx a b =>
            cases y with
            | Subscript u i p =>
              replace h2 : (noSlice i && (chkE L ns sc cel calm a u && chkE L ns sc cel calm b i)) = true := h2
              obtain ⟨z1, z⟩ := and2 h2
              obtain ⟨z2, z3⟩ := and2 z
              exact ls_augI G.g.units ((eok a).fe G.g G.tk z2) ((eok b).fe G.g G.tk z3) he z1
            | _ => cases h2
          | att a f =>
            cases y with
            | Attribute v n p =>
              replace h2 : (decide (n = L.fldN f) && (decide (f < L.nf) && chkE L ns sc cel calm a v)) = true := h2
              obtain ⟨z1, z⟩ := and2 h2
              obtain ⟨z2, z3⟩ := and2 z
              have e1 := of_decide_eq_true z1
              rw [← G.g.lw.fld f] at e1
              subst e1
              exact ls_augA G.g.lw.F (of_decide_eq_true z2) ((eok a).fe G.g G.tk z3) he
            | _ => cases h2
          | _ => cases h2
        | _ => cases h
      | _ => cases h
  | .exp e => .one rfl (fun _ _ _ z => nomatch z) fun {L X cf xf N k ns sc cel calm W st} G h => by
      cases st with
      | Expr x pos =>
        replace h : (noComp x && chkE L ns sc cel calm e x) = true := h
        obtain ⟨h1, h2⟩ := and2 h
        exact ls_exp ((eok e).fe G.g G.tk h2) h1
      | _ => cases h
  | .ret e => .one rfl (fun _ _ _ z => nomatch z) fun {L X cf xf N k ns sc cel calm W st} G h => by
      cases st with
      | Return o pos =>
        cases o with
        | none => cases h
        | some x => exact ls_ret ((eok e).fe G.g G.tk h)
      | _ => cases h
  | .retn => .one rfl (fun _ _ _ z => nomatch z) fun {L X cf xf N k ns sc cel calm W st} G h => by
      cases st with
      | Return o pos =>
        cases o with
        | none => exact ls_retn
        | some x => cases h
      | _ => cases h
  | .pas => .one rfl (fun _ _ _ z => nomatch z) fun {L X cf xf N k ns sc cel calm W st} G h => by
      cases st with
      | Pass pos => exact ls_pas
      | _ => cases h
  | .brk => .one rfl (fun _ _ _ z => nomatch z) fun {L X cf xf N k ns sc cel calm W st} G h => by
      cases st with
      | Break pos => exact ls_brk
      | _ => cases h
  | .iff c a b => by
    have ha := sok a
    have hb := sok b
    refine .one rfl (fun _ _ _ z => nomatch z) fun {L X cf xf N k ns sc cel calm W st} G h => ?_
    cases st with
    | If x ys zs pos =>
      replace h : (chkT L ns sc cel calm c x && (chkB L xf ns sc cel calm a ys && chkB L xf ns sc cel calm b zs)) = true := h
      obtain ⟨h1, h⟩ := and2 h
      obtain ⟨h2, h3⟩ := and2 h
      exact ls_iff ((eok c).ft G.g G.tk h1) (ha.sb G h2) (hb.sb G h3)
    | _ => cases h
  | .for tg it b => by
    have hb := sok b
    refine .one rfl (fun _ _ _ z => nomatch z) fun {L X cf xf N k ns sc cel calm W st} G h => ?_
    cases st with
    | For y z ys os pos =>
      cases os with
      | cons _ _ => cases h
      | nil =>
        replace h : (calm && (noSet z && (chkG ns sc cel calm tg y && (chkI L ns sc cel calm it z && chkB L xf ns sc cel calm b ys)))) = true := h
        obtain ⟨h1, h⟩ := and2 h
        obtain ⟨h2, h⟩ := and2 h
        obtain ⟨h3, h⟩ := and2 h
        obtain ⟨h4, h5⟩ := and2 h
        exact ls_for (G.pass h1) (G.g.hcalm h1) ((eok it).fi y G.g G.tk h4) (g_ok G.g h3) (hb.sb G h5) h2
    | _ => cases h
  | .whl c b => by
    have hb := sok b
    refine .one rfl (fun _ _ _ z => nomatch z) fun {L X cf xf N k ns sc cel calm W st} G h => ?_
    cases st with
    | While x ys os pos =>
      cases os with
      | cons _ _ => cases h
      | nil =>
        replace h : (calm && (chkT L ns sc cel calm c x && chkB L xf ns sc cel calm b ys)) = true := h
        obtain ⟨h1, h⟩ := and2 h
        obtain ⟨h2, h3⟩ := and2 h
        exact ls_whl (G.pass h1) ((eok c).ft G.g G.tk h2) (hb.sb G h3)
    | _ => cases h
  | .rse c as => .one rfl (fun _ _ _ z => nomatch z) fun {L X cf xf N k ns sc cel calm W st} G h => by
      cases st with
      | Raise o o2 pos =>
        cases o with
        | none => cases h
        | some x =>
          cases x with
          | Call f es kw p =>
            cases f with
            | Name x np =>
              cases es with
              | nil => cases h
              | cons y es =>
                cases kw with
                | cons _ _ => cases h
                | nil =>
                  cases o2 with
                  | some _ => cases h
                  | none =>
                    replace h : (calm && (decide (L.clN c = some x) && ((xf c).isSome && (glB sc x && (dbgB x && ((y :: es).all noStar && chkA L ns sc cel calm as (y :: es))))))) = true := h
                    obtain ⟨h1, h⟩ := and2 h
                    obtain ⟨h2, h⟩ := and2 h
                    obtain ⟨h3, h⟩ := and2 h
                    obtain ⟨h4, h⟩ := and2 h
                    obtain ⟨h5, h⟩ := and2 h
                    obtain ⟨h6, h7⟩ := and2 h
                    obtain ⟨l, hl⟩ := Option.isSome_iff_exists.mp h3
                    obtain ⟨i1, i2, fI, J⟩ := G.ini c l hl
                    have P := ls_rse (p := np) (pos := p) (pos' := pos) (G.g.hcalm h1) G.tk J (units_dp G.g.room) (G.g.gl h4) (G.g.lw.clm c x (of_decide_eq_true h2)) ((eok as).fa G.g G.tk h7) (dbg_of h5).1 h6 i2
                    refine PS.imp P fun D σ H ⟨m, env, st, hr, er, h⟩ => ⟨m, env, st, hr, er, ?_⟩
                    have e : ex cf xf (.rse c as) env st = (evs cf as env st).go env fun ds st1 => match zipF l ds with
                      | some fs => .exc c fs env st1
                      | none => .stuck := by
                      show ((evs cf as env st).go env fun ds st1 => match (xf c).bind fun l => zipF l ds with
                        | some fs => .exc c fs env st1
                        | none => .stuck) = _
                      rw [hl]; rfl
                    rw [e] at h
                    exact h
            | _ => cases es <;> cases h
          | _ => cases h
      | _ => cases h
  | .try b hs => by
    have hb := sok b
    have hh := sok hs
    refine .one rfl (fun _ _ _ z => nomatch z) fun {L X cf xf N k ns sc cel calm W st} G h => ?_
    cases st with
    | Try ys hds os fs pos =>
      cases hds with
      | nil => cases h
      | cons h0 hds =>
        cases os with
        | cons _ _ => cases h
        | nil =>
          cases fs with
          | cons _ _ => cases h
          | nil =>
            replace h : (calm && (chkB L xf ns sc cel calm b ys && chkH L xf ns sc cel hs (h0 :: hds))) = true := h
            obtain ⟨h1, h⟩ := and2 h
            obtain ⟨h2, h3⟩ := and2 h
            obtain ⟨s1, s2⟩ := G.stk h1
            have P := ls_try (pos := pos) (ex := fun c => (xf c).isSome) G.g.lw.F s1 s2 (by rw [G.g.hn]; exact G.g.nd) G.tk (fun c hc => by
              obtain ⟨l, hl⟩ := Option.isSome_iff_exists.mp hc
              exact G.g.lw.exn c (G.ini c l hl).1) (fun W' pn xe tk ps => hb.sb (G.tr pn xe tk ps) h2) (hh.sh G h3)
            exact P
    | _ => cases h
  | .var _ | .con _ | .bin .. | .neg _ | .not _ | .and .. | .or .. | .cmp .. | .chn .. | .call .. | .blt .. | .isi .. | .mth .. | .omt .. | .new .. | .lc2 .. | .ink .. | .att .. | .idx .. | .slc .. | .tup _ | .lst _ | .ite .. | .lc .. | .dct _ | .dct1 .. | .sel .. | .rng _ | .rev _ => .one rfl (fun _ _ _ z => nomatch z) fun _ h => by cases h
end Dk
/-! Dk23: a def's promise, with or without an error being handled. -/
namespace Dk
open PySem PySem.Spec PyProof.Rows L2
/-- a def's promise; calm: nothing is being handled -/
structure FnC (P : Program) (w : World) (K : PySem.W.Frag) (mg : Str → Option Value) (base : Heap) (CX : CXT) (calm : Bool) (k : Nat) (f : Addr) (fd : FuncData) (ps : List Str) (sp : Sp) : Prop where
  len : ∀ vs H Q E, sp vs H Q E → vs.length = ps.length
  run : ∀ (A : Around) (outer : List PySem.Env) (s : Shared) (H : Hp) (args : Args) (us : List Value) (vs : List V) (Q : VK) (E : XK), L2H.RoomH k A → (calm = true → A.handled = none) → Env0 P w K mg base A outer s H → BindsTo s fd args (ps.zip us) → Vals vs us → sp vs H Q E →
    codeAny (model P w) A (.call (.ref f) args) (CR CX outer P w H s Q E) s
/-- its context -/
def cxC (calm : Bool) (CX : CXT) (P : Program) (w : World) (K : PySem.W.Frag) (mg : Str → Option Value) (base : Heap) (N : List Str) (qual : Str) (scope : Scope) (f : Addr) (cd : Value) (A : Around) (outer : List PySem.Env) (s : Shared) (H : Hp) (E : XK) : Cx :=
  { cxOf CX P w K mg base N qual scope f cd A outer s H E with calm := calm }
theorem begin_ok {calm : Bool} {CX : CXT} {P : Program} {w : World} {K : PySem.W.Frag} {mg : Str → Option Value} {base : Heap} {N ps : List Str} {qual : Str} {scope : Scope} {f : Addr} {cd : Value} {A : Around} {outer : List PySem.Env} {s s1 : Shared} {H : Hp} {E : XK} {us : List Value} {vs : List V}
    (S : FnScope N ps scope) (hd : calm = true → A.handled = none) (e0 : Env0 P w K mg base A outer s H) (hl : vs.length = ps.length) (r : Vals vs us)
    (x : InCallC s s.heap.objs.size (bindL (envOfC qual scope s.heap.objs.size f cd).kindOf (ps.zip us) fun _ => none) (cellsFrom (s.heap.objs.size + 1) scope.names []) (bindC (envOfC qual scope s.heap.objs.size f cd).kindOf (ps.zip us) fun _ => none) s1) :
    Inv (cxC calm CX P w K mg base N qual scope f cd A outer s H E) [] (L2.start N vs) H s1 := by
  have e1 : Env0 P w K mg base ({ A with handled := none } : Around) outer s H := ⟨e0.frames, e0.mod, e0.bs, e0.bsz, e0.funs, e0.frf, e0.hok, e0.bare⟩
  have J := inv_start (CX := CX) (A := ({ A with handled := none } : Around)) (E := E) S rfl e1 hl r x
  have o := J.ok
  exact ⟨⟨o.mod, o.kind, o.glob, o.blt, o.above, o.inj, o.has, o.cab, hd, Around.frames_deeper e0.frames, o.stk, o.exf, o.bs, o.bsz, o.noex, o.exfs, o.funs, o.frf⟩, J.os, J.bare, J.base, J.loc, J.cell, J.free, J.freeC, J.pin, J.hok, J.len⟩
theorem fnC_of {calm : Bool} {CX : CXT} {P : Program} {w : World} {K : PySem.W.Frag} {mg : Str → Option Value} {base : Heap} {k : Nat} {f : Addr} {x qual : Str} {params : Arguments} {body : List Stmt} {scope : Scope} {dvs : List V} {kws : List (Str × V)} {fd : FuncData} {N ps : List Str} {sp : Sp}
    (F : FunD K x qual params body scope dvs kws f fd) (S : FnScope N ps scope) (len : ∀ vs H Q E, sp vs H Q E → vs.length = ps.length)
    (hb : ∀ (cdv : Value) (A : Around) (outer : List PySem.Env) (s : Shared) (H : Hp) (vs : List V) (Q : VK) (E : XK), L2H.RoomH k (A.deeper (envOfC qual scope s.heap.objs.size f cdv)) → (calm = true → A.handled = none) → sp vs H Q E →
      ∃ t, PSs (cxC calm CX P w K mg base N qual scope f cdv A outer s H E) body t ∧ t { nx := fun _ H' => Q .non H', rt := Q } (L2.start N vs) H) : FnC P w K mg base CX calm (k + 1) f fd ps sp := by
  obtain ⟨oc, od, dV, kV, doc, pm, an, cdv, ct, osl, rfl, lk, hcd, _, _⟩ := F.ex
  refine ⟨len, fun A outer s H args us vs Q E room hd e0 hbind r hsp => ?_⟩
  have ground : ∀ b o, base.get? b = some o → s.heap.get? b = some o := fun b o z => (e0.bs b o z).1
  have KX := e0.mod.kin.keeps ground
  have kinds : ∀ y ∈ ps.zip us, scope.names.lookup y.1 = some .local ∨ (scope.names.lookup y.1 = some .cell ∧ ((cellsFrom (s.heap.objs.size + 1) scope.names []).lookup y.1).isSome = true) := by
    intro y hy
    obtain ⟨n, v⟩ := y
    exact (S.par n (List.of_mem_zip hy).1).imp id fun q => ⟨q, PySem.W.cellsFrom_some _ _ _ (.inl q)⟩
  refine codeAny_call_function room.depth (KX _ _ lk) rfl S.co S.gen rfl (PySem.W.codeRec_of KX hcd) (hbind _ _ _ _ (wpAny_newFunctionEnv_cells S.kind kinds fun env he s1 z => ?_))
  subst he
  refine ⟨(e0.mod.nolimit.keeps ground).keeps z.toInCall.keep, codeAny_func ?_⟩
  obtain ⟨t, ht, hq⟩ := hb cdv A outer s H vs Q E (room.deeper _) hd hsp
  have I := begin_ok (CX := CX) (E := E) (cd := cdv) (f := f) S hd e0 (len _ _ _ _ hsp) r z
  have out : ∀ {σ' : L2.St} {H' : Hp} {v : V} {u : Value} {s' : Shared}, Inv (cxC calm CX P w K mg base N qual scope f cdv A outer s H E) [] σ' H' s' → RelV v u → Q v H' → CE outer P w H s Q u s' := fun J rv q => ⟨_, _, J.os, J.bare, J.base, J.hok, rv, q⟩
  refine wpAny_mono (ht.run [] s1 (L2.start N vs) H _ I hq) (fun fl s' hs => ?_) fun _ _ z => z
  match fl, hs with
  | .ret u, ⟨v, σ', H', J, rv, q⟩ => exact out J rv q
  | .next, ⟨σ', H', J, q⟩ => exact out (v := V.non) (u := Value.none) J rfl q
  | .brk, ⟨_, _, _, q⟩ => exact q.elim
  | .cont, ⟨_, _, _, q⟩ => exact q.elim
/-- called here -/
theorem callP_of {calm : Bool} {N : Nm} {X : Cx} {W : WX} {k : Nat} {a : Addr} {fd : FuncData} {ps : List Str} {f : List D → Store → R D} (F : FnC X.prog X.w X.K X.mg X.base (L2.CX X.prog X.w) calm k a fd ps (fun vs H Q E => SpR X.K N f E vs H Q)) (room : L2H.RoomH k X.A) (hd : calm = true → X.A.handled = none)
    (hb : Binds X.K fd ps []) (tk : Takes X W) : CallP N f X W a := by
  intro pins s σ H Q us vs I r h
  have hl : us.length = ps.length := by
    rw [← r.length]
    exact F.len _ _ _ (fun c d H' => W c d σ H') h
  have b := hb s us I.kIn (by rw [List.append_nil]; exact hl)
  rw [List.append_nil] at b
  refine wpAny_call (codeAny_mono (F.run X.A X.stack s H ⟨us, []⟩ us vs Q (fun c d H' => W c d σ H') room hd I.env0 b r h) fun r s' hq => ?_)
  match r, hq with
  | .error e, hq => exact tk e s' (XE.of_call I (fun _ _ _ z => z) hq)
  | .ok (.ret u), hq => exact I.after hq
  | .ok .next, hq => exact False.elim hq
  | .ok .brk, hq => exact False.elim hq
  | .ok .cont, hq => exact False.elim hq
/-- a class, made here -/
theorem makP_of {calm : Bool} {N : Nm} {X : Cx} {W : WX} {k c : Nat} {a : Addr} {fd : FuncData} {ps : List Str} {g : List D → Store → R D} (F : FnC X.prog X.w X.K X.mg X.base (L2.CX X.prog X.w) calm k a fd ps (fun vs H Q E => SpR X.K N g E vs H Q)) (M : Mk X.K (N.clA c) a) (hI : N.isIns c = true) (room : L2H.RoomH (k + 1) X.A) (hd : calm = true → X.A.handled = none)
    (hb : Binds X.K fd ps []) (tk : Takes X W) : MakP N c g X W := by
  intro pins s σ H Q us vs I r ⟨m, ds, st, hr, rs, h⟩
  have f1 : H (s.heap.objs.size + 1) = none := I.hok.fresh (Nat.le_succ _)
  have f2 : H s.heap.objs.size = none := I.hok.fresh (Nat.le_refl _)
  have ne : s.heap.objs.size ≠ s.heap.objs.size + 1 := Nat.ne_of_lt (Nat.lt_succ_self _)
  have I2 := Inv.made (C := N.clA c) I
  have e1 := Ext.fresh (m := m) (o := .own (s.heap.objs.size + 1)) f2
  have hr1 := hr.fresh (o := .own (s.heap.objs.size + 1)) f2
  have f3 : (upd H s.heap.objs.size (.own (s.heap.objs.size + 1))) (s.heap.objs.size + 1) = none := by rw [upd_ne (Ne.symm ne)]; exact f1
  have e2 := Ext.push (m := m) (o := .ins (N.clA c) s.heap.objs.size []) f3
  have hr2 := hr1.push (c := .ins c []) f3 ⟨hI, s.heap.objs.size, [], upd_same, .nil⟩
  have e12 := e1.trans e2
  have rv : RD X.K N (m ++ [s.heap.objs.size + 1]) (upd (upd H s.heap.objs.size (.own (s.heap.objs.size + 1))) (s.heap.objs.size + 1) (.ins (N.clA c) s.heap.objs.size [])) (.loc st.length) (.ref (s.heap.objs.size + 1)) := ⟨_, rfl, by rw [← hr.len]; simp⟩
  have hq : SpR X.K N g (fun c d H' => W c d σ H') (.ref (s.heap.objs.size + 1) :: vs) (upd (upd H s.heap.objs.size (.own (s.heap.objs.size + 1))) (s.heap.objs.size + 1) (.ins (N.clA c) s.heap.objs.size [])) fun v H2 => v = .non ∧ Q (.ref (s.heap.objs.size + 1)) H2 := by
    refine ⟨m ++ [s.heap.objs.size + 1], .loc st.length :: ds, st ++ [.ins c []], hr2, ⟨_, vs, rfl, rv, RDs.mono e12 hr.nt _ _ rs⟩, ?_⟩
    refine Pst.bind (h := h) (e0 := e12) fun d st2 v H2 m2 _ e3 hr3 rd h1 => ?_
    cases d with
    | non => exact ⟨rd, h1 _ H2 m2 (e12.trans e3) hr3 ⟨_, rfl, e3.get (by rw [← hr.len]; simp)⟩⟩
    | _ => exact h1.elim
  have r2 : Vals (V.ref (s.heap.objs.size + 1) :: vs) (Value.ref (s.heap.objs.size + 1) :: us) := .cons rfl r
  have hl : (Value.ref (s.heap.objs.size + 1) :: us).length = ps.length := by
    rw [← r2.length]
    exact F.len _ _ _ (fun c d H' => W c d σ H') hq
  have b := hb _ (Value.ref (s.heap.objs.size + 1) :: us) I2.kIn (by rw [List.append_nil]; exact hl)
  rw [List.append_nil] at b
  refine wpAny_call (make_map (f := a) I.kIn M.makes M.init (beq_iff_eq.mp M.fn) (codeAny_mono (F.run _ X.stack _ _ ⟨Value.ref (s.heap.objs.size + 1) :: us, []⟩ (Value.ref (s.heap.objs.size + 1) :: us) _ _ (fun c d H' => W c d σ H') (room.make (N.clA c) us []) hd
    (I2.env0.make (N.clA c) us []) b r2 hq) fun r s' hq' => ?_))
  match r, hq' with
  | .error e, hq' => exact tk e s' (XE.of_call I2 (fun _ _ _ z => z) hq')
  | .ok (.ret u), hq' =>
    obtain ⟨v, H', I3, rv, ev, q3⟩ := I2.after hq'
    subst ev
    exact ⟨rv, ⟨V.ref (s.heap.objs.size + 1), H', I3, rfl, q3⟩⟩
  | .ok .next, hq' => exact False.elim hq'
  | .ok .brk, hq' => exact False.elim hq'
  | .ok .cont, hq' => exact False.elim hq'
end Dk
/-! Dk24: all defs of a law, by the depth of calls. -/
namespace Dk
open PySem PySem.Spec PyProof.Rows L2
/-! ### parameters without more ado -/
theorem zip_some : ∀ {ns : List Str} {us : List Value} {n : Str}, us.length = ns.length → n ∈ ns → ((ns.zip us).lookup n).isNone = false := by
  intro ns
  induction ns with
  | nil => intro us n _ h; cases h
  | cons m ns ih =>
    intro us n hl h
    cases us with
    | nil => simp at hl
    | cons u us =>
      rw [List.zip_cons_cons, List.lookup_cons]
      cases q : n == m with
      | true => rfl
      | false =>
        rcases List.mem_cons.mp h with z | z
        · subst z; simp at q
        · exact ih (by simpa using hl) z
theorem fm_same {α β : Type} {f g : α → Option β} : ∀ {l : List α}, (∀ x ∈ l, f x = g x) → l.filterMap f = l.filterMap g
  | [], _ => rfl
  | x :: l, h => by
    have ih := fm_same (l := l) fun y hy => h y (List.mem_cons_of_mem _ hy)
    have h0 := h x List.mem_cons_self
    cases q : g x with
    | none => rw [List.filterMap_cons_none (h0.trans q), List.filterMap_cons_none q, ih]
    | some z => rw [List.filterMap_cons_some (h0.trans q), List.filterMap_cons_some q, ih]
theorem zip_again : ∀ {ns : List Str} {us : List Value}, ns.Nodup → us.length = ns.length → (ns.filterMap fun n => ((ns.zip us).lookup n).map (n, ·)) = ns.zip us := by
  intro ns
  induction ns with
  | nil => intro us _ _; rfl
  | cons m ns ih =>
    intro us nd hl
    cases us with
    | nil => simp at hl
    | cons u us =>
      obtain ⟨n1, n2⟩ := List.nodup_cons.mp nd
      have h0 : (((m :: ns).zip (u :: us)).lookup m).map (m, ·) = some (m, u) := by
        rw [List.zip_cons_cons, List.lookup_cons, beq_self_eq_true]
        rfl
      have h1 := ih n2 (us := us) (by simpa using hl)
      rw [List.filterMap_cons_some (f := fun n => (((m :: ns).zip (u :: us)).lookup n).map (n, ·)) h0, List.zip_cons_cons]
      congr 1
      refine Eq.trans (fm_same fun n hn => ?_) h1
      rw [List.lookup_cons, show (n == m) = false from beq_false_of_ne fun z => n1 (z ▸ hn)]
theorem bind_plain {fd : FuncData} {as : List Arg} {us : List Value} (hp : fd.params = ⟨[], as, none, [], [], none, []⟩) (hd : fd.defaults = .none) (hl : us.length = as.length) (nd : (as.map (·.arg)).Nodup) : bindArgs fd ⟨us, []⟩ = pure ((as.map (·.arg)).zip us) := by
  have hl2 : us.length = (as.map (·.arg)).length := by rw [List.length_map]; exact hl
  have miss : ((as.map (·.arg)).filter fun n => (((as.map (·.arg)).zip us).lookup n).isNone) = [] := by
    rw [List.filter_eq_nil_iff]
    intro n hn
    rw [zip_some hl2 hn]
    simp
  have all : ((as.map (·.arg)).filterMap fun n => (((as.map (·.arg)).zip us).lookup n).map (n, ·)) = (as.map (·.arg)).zip us := zip_again nd hl2
  have big : ¬ (us.length > (as.map (·.arg)).length) := by omega
  have n0 : notAStandIn Value.none = pure () := rfl
  unfold bindArgs
  rw [hp, hd]
  simp only [n0, bind_assoc, List.map_nil, List.nil_append, List.append_nil, seqItems?, pure_bind, Option.getD_none, List.length_nil, Nat.sub_self, List.drop_zero, Nat.zero_sub, Nat.sub_zero, List.take_length, List.drop_length, miss, all, List.isEmpty_nil, Bool.not_true, Bool.false_eq_true, if_false, big, decide_false, Bool.false_and, List.zip_nil_right, List.forIn_nil, Array.toList_empty, false_and]

/-! ### a law's defs -/
structure DfR where
  fd : FD
  d : He.DefD
  ns : List Str
structure Lt where
  ds : List DfR
  mt : Nat → Nat → Option Nat
  ini : Nat → Option Nat
  sub : Nat → Nat → Bool
  xf : Nat → Option (List Nat)
  L : Lw
def Lt.P (t : Lt) : Prog := ⟨t.ds.map (·.fd), t.mt, t.ini, t.sub, t.xf⟩
def DfR.ps (r : DfR) : List Str := r.d.params.args.map (·.arg)
def parB (p : Arguments) : Bool := match p with
  | ⟨[], _, none, [], [], none, []⟩ => true
  | _ => false
theorem parB_eq {p : Arguments} (h : parB p = true) : p = ⟨[], p.args, none, [], [], none, []⟩ := by
  unfold parB at h
  split at h
  · rfl
  · cases h
def scB (ns ps : List Str) (sc : Scope) : Bool := decide (sc.kind = .function) && (!sc.isCoroutine && (!sc.isGenerator && (decide ns.Nodup && (decide (ns.take ps.length = ps) && ((ps.all fun x => decide (sc.names.lookup x = some .local) || decide (sc.names.lookup x = some .cell)) && sc.names.all fun y => decide (y.2 ≠ .free))))))
theorem scB_ok {ns ps : List Str} {sc : Scope} (h : scB ns ps sc = true) : FnScope ns ps sc := by
  obtain ⟨h1, h⟩ := and2 h
  obtain ⟨h2, h⟩ := and2 h
  obtain ⟨h3, h⟩ := and2 h
  obtain ⟨h4, h⟩ := and2 h
  obtain ⟨h5, h⟩ := and2 h
  obtain ⟨h6, h7⟩ := and2 h
  refine ⟨of_decide_eq_true h1, by simpa using h2, by simpa using h3, of_decide_eq_true h4, of_decide_eq_true h5, fun x hx => ?_, fun y hy => ?_⟩
  · have := List.all_eq_true.mp h6 x hx
    rcases Bool.or_eq_true_iff.mp this with z | z
    · exact .inl (of_decide_eq_true z)
    · exact .inr (of_decide_eq_true z)
  · exact of_decide_eq_true (List.all_eq_true.mp h7 y hy)
/-- the check of one def -/
def dfB (t : Lt) (i : Nat) (r : DfR) : Bool := parB r.d.params && (r.d.dfl.isEmpty && (r.d.kwd.isEmpty && (decide (r.ps.length = r.fd.pars) && (decide (r.ns.length = r.fd.slots) && (decide r.ps.Nodup && (scB r.ns r.ps r.d.scope &&
  ((!t.L.okf i || chkB t.L t.xf r.ns r.d.scope (fun _ => true) true r.fd.body r.d.body) && (!t.L.okh i || chkB t.L t.xf r.ns r.d.scope (fun _ => true) false r.fd.body r.d.body))))))))
/-- what is true of the law's world -/
structure Wf (t : Lt) (prog : Program) (w : World) (K : PySem.W.Frag) (mg : Str → Option Value) (base : Heap) (N : Nm) : Prop where
  F : NmF K N t.L.nf t.sub
  fld : ∀ i, N.fld i = t.L.fldN i
  exn : ∀ c, t.L.exn c = true → N.isExn c = true
  fnm : ∀ f x, t.L.fnN f = some x → mg x = some (.ref (N.fnA f)) ∧ PySem.W.keepIn K (.ref (N.fnA f)) = true
  clm : ∀ c x, t.L.clN c = some x → mg x = some (.ref (N.clA c))
  con : ∀ p ∈ t.L.con, ∃ u v, mg p.1 = some u ∧ RelV v u ∧ ∀ m H, RD K N m H p.2 v
  blt : ∀ x ∈ t.L.blt, mg x = none
  errs : ∀ c l, t.xf c = some l → t.L.exn c = true ∧ l.length ≤ 1000 ∧ ∃ fI, InitC prog K mg (N.clA c) fI (l.map N.fld)
  fn : ∀ (i : Nat) r, t.ds[i]? = some r → ∃ fdat, FunD K r.d.name r.d.qual r.d.params r.d.body r.d.scope [] [] (N.fnA i) fdat
  chk : ∀ (i : Nat) r, t.ds[i]? = some r → dfB t i r = true
  okf : ∀ f, t.L.okf f = true
  O : OmtF K N t.L.mtN t.L.nm t.mt
  mak : ∀ c x, t.L.ins c = true → t.L.clN c = some x → N.isIns c = true ∧ PySem.W.keepIn K (.ref (N.clA c)) = true ∧ ∃ g r, t.ini c = some g ∧ t.ds[g]? = some r ∧ Mk K (N.clA c) (N.fnA g)
  ktp : ∀ p ∈ t.L.ktp, ∃ a vs, mg p.1 = some (.ref a) ∧ (∀ H, SqT K H a vs) ∧ ∀ m H, RDs K N m H (p.2.map D.str) vs
section
variable {t : Lt} {prog : Program} {w : World} {K : PySem.W.Frag} {mg : Str → Option Value} {base : Heap} {N : Nm}
/-- the slots at a def's entry -/
theorem start_ok {m : List Addr} {H : Hp} {ns : List Str} {ds : List Dk.D} {vs : List V} {n : Nat} (hn : ns.length = n) (r : RDs K N m H ds vs) : ER K N m H (L2.start ns vs) (ds.map some ++ List.replicate (n - ds.length) none) := by
  subst hn
  have hl := r.len
  refine ⟨by simp [L2.start, hl], fun i d g => ?_⟩
  unfold Env.get at g
  by_cases hi : i < ds.length
  · rw [List.getElem?_append_left (by simpa using hi), List.getElem?_map] at g
    cases q : ds[i]? with
    | none => rw [q] at g; cases g
    | some d' =>
      rw [q] at g
      cases g
      obtain ⟨v, hv, rv⟩ := r.get q
      refine ⟨v, ?_, rv⟩
      unfold L2.start
      rw [List.getElem?_append_left (by simpa [← hl] using hi), List.getElem?_map, hv]
      rfl
  · rw [List.getElem?_append_right (by simpa using Nat.le_of_not_lt hi), List.getElem?_replicate] at g
    split at g <;> cases g
theorem RF.vals {m : List Addr} {H : Hp} : ∀ {fs : List (Nat × Dk.D)} {vs : List (Str × V)}, RF K N m H fs vs → RDs K N m H (fs.map (·.2)) (vs.map (·.2)) ∧ Paired (fun (p : Nat × Dk.D) (q : Str × V) => q.1 = N.fld p.1) fs vs
  | _, _, .nil => ⟨rfl, .nil⟩
  | _, _, .cons ⟨e, r⟩ t => let ⟨a, b⟩ := RF.vals t; ⟨⟨_, _, rfl, r, a⟩, .cons e b⟩
theorem RF.of_vals {m : List Addr} {H : Hp} {fs : List (Nat × Dk.D)} {vs : List (Str × V)} (h : RDs K N m H (fs.map (·.2)) (vs.map (·.2))) (p : Paired (fun (p : Nat × Dk.D) (q : Str × V) => q.1 = N.fld p.1) fs vs) : RF K N m H fs vs := by
  induction p with
  | nil => exact .nil
  | @cons a b l1 l2 e t ih =>
    obtain ⟨v, r, ev, r1, r2⟩ := h
    injection ev with e1 e2
    subst e1
    subst e2
    exact .cons ⟨e, r1⟩ (ih r2)
/-- a body's end as a call's end -/
theorem back_ok {m : List Addr} {H : Hp} {st : Store} {r : RS} {Q : VK} {E : XK} (hr : HR K N m H st) (h : Pst K N (RD K N) m H (r.back st) Q E) : SPst K N m H r { nx := fun _ H' => Q .non H', rt := Q } fun c d _ H' => E c d H' := by
  cases r with
  | ok o st' =>
    cases o with
    | nx env' =>
      intro σ' H' m' e hr' er
      exact Pst.cut (h := h) hr e hr' (ds := []) (vs := []) rfl fun _ _ => rfl
    | rt d =>
      intro v H' m' e hr' rv
      exact Pst.cut (h := h) hr e hr' (RDs.one rv) fun m2 r2 => by
        obtain ⟨w, ew, rw_⟩ := RDs.one_of r2
        cases ew
        exact rw_
    | bk env' => exact h.elim
  | exc c fs env' st' =>
    intro dd σ' H' m' e hr' er x
    obtain ⟨vs, x1, x2, x3⟩ := x
    obtain ⟨r1, r2⟩ := RF.vals x3
    obtain ⟨m2, e2, hr2, r3, _, tl, ht⟩ := hr.cut e hr' r1
    exact h dd H' m2 e2 hr2 ⟨vs, x1, fun z => x2 (by rw [ht]; exact List.mem_append_left _ z), RF.of_vals r3 r2⟩
  | stuck => exact h
abbrev spF (K : PySem.W.Frag) (N : Nm) (t : Lt) (k i : Nat) : Sp := fun vs H Q E => SpR K N (callF t.P k i) E vs H Q
theorem callF_none {k i : Nat} (h : t.ds[i]? = none) (ds : List Dk.D) (st : Store) : callF t.P k i ds st = .stuck := by
  cases k with
  | zero => rfl
  | succ k =>
    show (match (t.ds.map (·.fd))[i]? with
      | some fd => run t.P (callF t.P k) fd ds st
      | none => .stuck) = .stuck
    rw [List.getElem?_map, h]; rfl
theorem callF_some {k i : Nat} {r : DfR} (h : t.ds[i]? = some r) (ds : List Dk.D) (st : Store) : callF t.P (k + 1) i ds st = run t.P (callF t.P k) r.fd ds st := by
  show (match (t.ds.map (·.fd))[i]? with
    | some fd => run t.P (callF t.P k) fd ds st
    | none => .stuck) = _
  rw [List.getElem?_map, h]; rfl
theorem binds_ok {r : DfR} {fdat : FuncData} {a : Addr} (hp : parB r.d.params = true) (nd : r.ps.Nodup) (F : FunD K r.d.name r.d.qual r.d.params r.d.body r.d.scope [] [] a fdat) : Binds K fdat r.ps [] :=
  FunD.bindsN F fun kV doc pm an cdv ct us hl => bind_plain (parB_eq hp) rfl (by rw [hl]; show (r.d.params.args.map (·.arg)).length = _; rw [List.length_map]) nd
/-- each def keeps its promise, as deep as k -/
theorem defs_ok (W : Wf t prog w K mg base N) : ∀ (k : Nat) (calm : Bool) (i : Nat) (r : DfR) (fdat : FuncData), t.ds[i]? = some r → FunD K r.d.name r.d.qual r.d.params r.d.body r.d.scope [] [] (N.fnA i) fdat → (calm = true ∧ t.L.okf i = true ∨ calm = false ∧ t.L.okh i = true) →
    FnC prog w K mg base (L2.CX prog w) calm (2 * k) (N.fnA i) fdat r.ps (spF K N t k i) := by
  intro k
  induction k with
  | zero =>
    intro calm i r fdat hi F ho
    have no : ∀ vs H Q E, ¬ spF K N t 0 i vs H Q E := fun vs H Q E ⟨m, ds, st, _, _, h⟩ => h
    exact ⟨fun vs H Q E h => absurd h (no vs H Q E), fun A outer s H args us vs Q E _ _ _ _ _ h => absurd h (no vs H Q E)⟩
  | succ k ih =>
    intro calm i r fdat hi F ho
    obtain ⟨h1, h⟩ := and2 (W.chk i r hi)
    obtain ⟨h2, h⟩ := and2 h
    obtain ⟨h3, h⟩ := and2 h
    obtain ⟨h4, h⟩ := and2 h
    obtain ⟨h5, h⟩ := and2 h
    obtain ⟨h6, h⟩ := and2 h
    obtain ⟨h7, h⟩ := and2 h
    obtain ⟨h8, h9⟩ := and2 h
    have e4 := of_decide_eq_true h4
    have e5 := of_decide_eq_true h5
    have S := scB_ok h7
    have body : chkB t.L t.xf r.ns r.d.scope (fun _ => true) calm r.fd.body r.d.body = true := by
      rcases ho with ⟨z1, z2⟩ | ⟨z1, z2⟩
      · subst z1
        rw [z2] at h8
        simpa using h8
      · subst z1
        rw [z2] at h9
        simpa using h9
    -- the defs that it calls
    have cal : ∀ f (X : Cx) (W' : WX), X.prog = prog → X.w = w → X.K = K → X.mg = mg → X.base = base → L2H.RoomH (2 * k) X.A → (t.L.okf f = true ∧ X.A.handled = none ∨ t.L.okh f = true) → Takes X W' → CallP N (callF t.P k f) X W' (N.fnA f) := by
      intro f X W' p1 p2 p3 p4 p5 room hk tk
      cases hf : t.ds[f]? with
      | none =>
        intro pins s σ H Q us vs I rv ⟨m, ds, st, _, _, h⟩
        rw [callF_none hf] at h
        exact h.elim
      | some r2 =>
        obtain ⟨fd2, F2⟩ := W.fn f r2 hf
        obtain ⟨c1, c⟩ := and2 (W.chk f r2 hf)
        obtain ⟨c2, c⟩ := and2 c
        obtain ⟨c3, c⟩ := and2 c
        obtain ⟨c4, c⟩ := and2 c
        obtain ⟨c5, c⟩ := and2 c
        obtain ⟨c6, c⟩ := and2 c
        have b := binds_ok c1 (of_decide_eq_true c6) F2
        subst p1; subst p2; subst p3; subst p4; subst p5
        rcases hk with ⟨z1, z2⟩ | z
        · exact callP_of (ih true f r2 fd2 hf F2 (.inl ⟨rfl, z1⟩)) room (fun _ => z2) b tk
        · exact callP_of (ih false f r2 fd2 hf F2 (.inr ⟨rfl, z⟩)) room (fun q => absurd q Bool.false_ne_true) b tk
    -- the classes that it makes
    have mak : ∀ c x, t.L.ins c = true → t.L.clN c = some x → PySem.W.keepIn K (.ref (N.clA c)) = true ∧ ∃ g, (t.P.cf (callF t.P k)).ini c = some g ∧ ∀ (X : Cx) (W : WX), X.prog = prog → X.w = w → X.K = K → X.mg = mg → X.base = base → L2H.RoomH (2 * k + 1) X.A → X.A.handled = none → Takes X W → MakP N c ((t.P.cf (callF t.P k)).fn g) X W := by
      intro c x hc hx
      obtain ⟨i1, i2, g, r2, i3, i4, i5⟩ := W.mak c x hc hx
      refine ⟨i2, g, i3, fun X W' p1 p2 p3 p4 p5 room hk tk => ?_⟩
      obtain ⟨fd2, F2⟩ := W.fn g r2 i4
      obtain ⟨c1, c⟩ := and2 (W.chk g r2 i4)
      obtain ⟨c2, c⟩ := and2 c
      obtain ⟨c3, c⟩ := and2 c
      obtain ⟨c4, c⟩ := and2 c
      obtain ⟨c5, c⟩ := and2 c
      obtain ⟨c6, c⟩ := and2 c
      have b := binds_ok c1 (of_decide_eq_true c6) F2
      subst p1; subst p2; subst p3; subst p4; subst p5
      exact makP_of (ih true g r2 fd2 i4 F2 (.inl ⟨rfl, W.okf g⟩)) i5 i1 room (fun _ => hk) b tk
    show FnC prog w K mg base (L2.CX prog w) calm (2 * k + 1 + 1) (N.fnA i) fdat r.ps (spF K N t (k + 1) i)
    refine fnC_of F S (fun vs H Q E ⟨m, ds, st, hr, rs, h⟩ => ?_) fun cdv A outer s H vs Q E room hd ⟨m, ds, st, hr, rs, h⟩ => ?_
    · rw [callF_some hi] at h
      unfold run at h
      split at h
      · rename_i hl
        rw [← rs.len, hl, ← e4]
      · exact h.elim
    · rw [callF_some hi] at h
      unfold run at h
      split at h
      · rename_i hl
        refine ⟨LS K N (ex (t.P.cf (callF t.P k)) t.P.xf r.fd.body) fun c d _ H' => E c d H', ?_, m, _, st, hr, start_ok (n := r.fd.slots) e5 rs, ?_⟩
        · have G : Gs t.L (cxC calm (L2.CX prog w) prog w K mg base r.ns r.d.qual r.d.scope (N.fnA i) cdv A outer s H E) (t.P.cf (callF t.P k)) t.P.xf N (2 * k) r.ns r.d.scope (fun _ => true) calm (fun c d _ H' => E c d H') := by
            refine ⟨⟨⟨W.F, W.fld, W.exn, W.fnm, W.clm, W.con, W.blt, cal, W.okf, W.O, mak, W.ktp⟩, rfl, S.nd, rfl, fun _ _ => rfl, fun z => z, hd, room, S.kind⟩, ?_, fun _ => ?_, fun _ => ⟨rfl, rfl⟩, W.errs⟩
            · exact takes_of rfl rfl rfl rfl
            · exact passes_of rfl
          exact (sok r.fd.body).sb G body
        · rw [hl] at *
          exact back_ok hr h
      · exact h.elim
end
end Dk
/-! Dk25: what the head must say. -/
namespace Dk
open PySem PySem.Spec PyProof.Rows L2
/-! ### an own error class -/
def clsB (K : PySem.W.Frag) (C : Addr) : Bool := match K.lookup C with
  | some ⟨.type c, _, .cls cd, sl⟩ => decide (c = "type") && (match cd.mro, sl.toList with
    | .ref C' :: bm, [_, _, _, _, some (.builtin n), _] => decide (C' = C) && (decide (n = "ValueError.__new__") && (!cd.hasDel && (cd.hasDict && HandSPX.refsVE bm)))
    | _, _ => false)
  | _ => false
theorem clsB_ok {K : PySem.W.Frag} {C : Addr} (h : clsB K C = true) : ∃ nm q N bs bm sn sub ab col dd k0 k1 k2 k3 k5, K.lookup C = some (excClassObj nm q C N bs bm true sn sub ab col dd k0 k1 k2 k3 k5 "ValueError.__new__") ∧ HandSPX.refsVE bm = true := by
  unfold clsB at h
  split at h
  · rename_i c dd cd sl ho
    obtain ⟨h0, hh⟩ := and2 h
    clear h
    have e0 := of_decide_eq_true h0
    subst e0
    split at hh
    · rename_i C' bm k0 k1 k2 k3 n k5 hm hs
      obtain ⟨h1, h⟩ := and2 hh
      obtain ⟨h2, h⟩ := and2 h
      obtain ⟨h3, h⟩ := and2 h
      obtain ⟨h4, h5⟩ := and2 h
      have e1 : C' = C := of_decide_eq_true h1
      have e2 : n = "ValueError.__new__" := of_decide_eq_true h2
      subst e1; subst e2
      obtain ⟨nm, bs, mro, ns, qn, hd, sn, sub, ab, col, del⟩ := cd
      dsimp only at hm h3 h4
      subst hm
      subst h4
      have e3 : del = false := by simpa using h3
      subst e3
      obtain ⟨l⟩ := sl
      dsimp only at hs
      subst hs
      exact ⟨nm, qn, ns, bs, bm, sn, sub, ab, col, dd, k0, k1, k2, k3, k5, ho, h5⟩
    · cases hh
  · cases h
def oexB (K : PySem.W.Frag) (C : Addr) : Bool := clsB K C && (decide (PySem.W.findIn K (.ref C) "__setattr__" = some (some (.builtin "object.__setattr__"))) && (decide (PySem.W.subIn K (.ref C) (.type "BaseException") = some true) && (decide (PySem.W.typeIn K (.ref C) = some (.type "type")) && PySem.W.keepIn K (.ref C))))
theorem oexB_ok {K : PySem.W.Frag} {C : Addr} (h : oexB K C = true) : OexC K C := by
  obtain ⟨h1, h⟩ := and2 h
  obtain ⟨h2, h⟩ := and2 h
  obtain ⟨h3, h⟩ := and2 h
  obtain ⟨h4, h5⟩ := and2 h
  exact ⟨clsB_ok h1, of_decide_eq_true h2, of_decide_eq_true h3, of_decide_eq_true h4, h5⟩
/-! ### its __init__ -/
/-- the fields are set from the parameters -/
def asgB (self : Str) : List Stmt → List Str → List Str → Bool
  | [], [], [] => true
  | s :: ss, f :: fs, a :: as => (match s with
    | .Assign [.Attribute (.Name x _) g _] (.Name y _) _ => decide (x = self) && (decide (g = f) && (decide (y = a) && (!(y == ("__debug__" : Str)) && asgB self ss fs as)))
    | _ => false)
  | _, _, _ => false
theorem asgB_ok {self : Str} : ∀ {ss : List Stmt} {fs as : List Str}, asgB self ss fs as = true → as.length = fs.length ∧ ∀ (env : PySem.Env) (lm : Str → Option Value) (us : List Value), us.length = as.length → (∀ x ∈ as, env.kindOf x = some .local) → (∀ (i : Nat) (x : Str) (v : Value), as[i]? = some x → us[i]? = some v → lm x = some v) → AsgOk env lm self ss (fs.zip us)
  | [], [], [], _ => ⟨rfl, fun env lm us hl _ _ => .nil⟩
  | s :: ss, f :: fs, a :: as, h => by
    unfold asgB at h
    split at h
    · rename_i x p0 g p1 y p2 p3
      obtain ⟨h1, h⟩ := and2 h
      obtain ⟨h2, h⟩ := and2 h
      obtain ⟨h3, h⟩ := and2 h
      obtain ⟨h4, h5⟩ := and2 h
      have e1 := of_decide_eq_true h1
      have e2 := of_decide_eq_true h2
      have e3 := of_decide_eq_true h3
      subst e1; subst e2; subst e3
      obtain ⟨q1, q2⟩ := asgB_ok h5
      refine ⟨by simp [q1], fun env lm us hl hk hv => ?_⟩
      cases us with
      | nil => simp at hl
      | cons u us =>
        exact .cons (hk y List.mem_cons_self) (hv 0 y u rfl rfl) (by simpa using h4) (q2 env lm us (by simpa using hl) (fun x hx => hk x (List.mem_cons_of_mem _ hx)) fun i x v h1 h2 => hv (i + 1) x v (by simpa using h1) (by simpa using h2))
    · cases h
  | [], _ :: _, _, h => by cases h
  | [], [], _ :: _, h => by cases h
  | _ :: _, [], _, h => by cases h
  | _ :: _, _ :: _, [], h => by cases h
/-- the code object tells the program's file -/
def fileB (prog : Program) (K : PySem.W.Frag) (cda : Addr) : Bool := match K.lookup cda with
  | some ⟨_, _, .fields vs, _⟩ => (match (vs[2]? : Option Value) with
    | some (.str file _) => (prog.main.file : Str) == file
    | _ => false)
  | _ => false
/-- the cell holds the class -/
def cellB (K : PySem.W.Frag) (cc C : Addr) : Bool := match K.lookup cc with
  | some ⟨_, _, .cell (some (.ref D)), _⟩ => decide (D = C)
  | _ => false
def fdB (prog : Program) (K : PySem.W.Frag) (C : Addr) (flds : List Str) (fd : FuncData) : Bool := match fd.body, fd.closure, fd.params, fd.code with
  | .stmts (.Expr (.Call (.Attribute (.Call (.Name sn _) [] [] _) m q2) [.Constant (.str _) _ _] [] q4) _ :: ss), [(cn, cc)], ⟨[], a0 :: as, none, [], [], none, []⟩, .ref cda =>
    decide (sn = "super") && (decide (m = "__init__") && (decide (cn = "__class__") && (decide (fd.globals = mainGlobals) && (decide (fd.builtins = builtinsNs) && (decide (fd.defaults = .none) && (q2.endLine == q4.line && (PySem.W.codeIn K (.ref cda) fd.qualname &&
      (fileB prog K cda && (cellB K cc C && (!(a0.arg == ("__debug__" : Str)) && (decide (fd.scope.kind = .function) && (!fd.scope.isCoroutine && (!fd.scope.isGenerator && ((fd.scope.names.all fun x => decide (x.2 ≠ .cell)) && (((a0 :: as).all fun x => decide (fd.scope.names.lookup x.arg = some .local)) &&
      (decide (fd.scope.names.lookup ("super" : Str) = some .globalImplicit) && (decide (fd.scope.names.lookup ("__class__" : Str) = some .free) && (decide (((a0 :: as).map (·.arg)).Nodup) && asgB a0.arg ss flds (as.map (·.arg))))))))))))))))))))
  | _, _, _, _ => false
def initB (prog : Program) (K : PySem.W.Frag) (C : Addr) (flds : List Str) : Bool := oexB K C && (decide (PySem.W.findIn K (.ref C) "__init__" = some (some (.ref (He.ma K C "__init__")))) && (decide (flds.Nodup) && (!flds.isEmpty && (decide (flds.length ≤ 900) && ((flds.all fun f => decide (PySem.W.findIn K (.ref C) f = some none)) &&
  (decide (PySem.W.ks_superIn K C C "__init__" = some (some (.builtin "ValueError.__init__"))) && (decide (PySem.W.nsIn K cStatics "thirdparty.any" = some none) && (decide (PySem.W.subIn K (.ref C) (.type "ValueError") = some true) && (!(prog.main.scope.names.lookup ("super" : Str)).isSome &&
  (PySem.W.isFn K (.ref (He.ma K C "__init__")) && (match K.lookup (He.ma K C "__init__") with
    | some ⟨_, _, .func fd, _⟩ => fdB prog K C flds fd
    | _ => false)))))))))))
theorem initB_ok {prog : Program} {K : PySem.W.Frag} {mg : Str → Option Value} {C : Addr} {flds : List Str} (ms : mg "super" = none) (h : initB prog K C flds = true) : InitC prog K mg C (He.ma K C "__init__") flds := by
  obtain ⟨h1, h⟩ := and2 h
  obtain ⟨h2, h⟩ := and2 h
  obtain ⟨h3, h⟩ := and2 h
  obtain ⟨h4, h⟩ := and2 h
  obtain ⟨h5, h⟩ := and2 h
  obtain ⟨h6, h⟩ := and2 h
  obtain ⟨h7, h⟩ := and2 h
  obtain ⟨h8, h⟩ := and2 h
  obtain ⟨h9, h⟩ := and2 h
  obtain ⟨h10, h⟩ := and2 h
  obtain ⟨h11, h⟩ := and2 h
  refine ⟨oexB_ok h1, of_decide_eq_true h2, of_decide_eq_true h3, fun z => ?_, of_decide_eq_true h5, fun f hf => of_decide_eq_true (List.all_eq_true.mp h6 f hf), of_decide_eq_true h7, of_decide_eq_true h8, of_decide_eq_true h9, ms, by simpa using h10, ?_⟩
  · subst z
    cases h4
  · split at h
    · rename_i oc od fd osl lk
      unfold fdB at h
      split at h
      · rename_i sn q0 q1 m q2 txt j q3 q4 q5 ss cn cc a0 as cda e1 e2 e3 e4
        obtain ⟨g1, h⟩ := and2 h
        obtain ⟨g2, h⟩ := and2 h
        obtain ⟨g3, h⟩ := and2 h
        obtain ⟨g4, h⟩ := and2 h
        obtain ⟨g5, h⟩ := and2 h
        obtain ⟨g6, h⟩ := and2 h
        obtain ⟨g7, h⟩ := and2 h
        obtain ⟨g8, h⟩ := and2 h
        obtain ⟨g9, h⟩ := and2 h
        obtain ⟨g10, h⟩ := and2 h
        obtain ⟨g11, h⟩ := and2 h
        obtain ⟨g12, h⟩ := and2 h
        obtain ⟨g13, h⟩ := and2 h
        obtain ⟨g14, h⟩ := and2 h
        obtain ⟨g15, h⟩ := and2 h
        obtain ⟨g16, h⟩ := and2 h
        obtain ⟨g17, h⟩ := and2 h
        obtain ⟨g18, h⟩ := and2 h
        obtain ⟨g19, g20⟩ := and2 h
        have f1 := of_decide_eq_true g1
        have f2 := of_decide_eq_true g2
        have f3 := of_decide_eq_true g3
        have f4 := of_decide_eq_true g4
        have f5 := of_decide_eq_true g5
        have f6 := of_decide_eq_true g6
        subst f1; subst f2; subst f3
        obtain ⟨n1, n2, n3, n4, n5, n6, n7, n8, n9, n10, n11, n12, n13, n14, n15⟩ := fd
        dsimp only at e1 e2 e3 e4 f4 f5 f6 g8 g12 g13 g14 g15 g16 g17 g18
        subst e1; subst e2; subst e3; subst e4; subst f4; subst f5; subst f6
        unfold fileB at g9
        unfold cellB at g10
        split at g9
        · rename_i ccl cdd vs ccs lk2
          split at g9
          · rename_i file tf hv
            split at g10
            · rename_i cl cld D csl lk3
              have f10 := of_decide_eq_true g10
              subst f10
              obtain ⟨q1', q2'⟩ := asgB_ok g20
              have nd := of_decide_eq_true g19
              refine ⟨oc, od, osl, n1, n2, _, n5, .none, n9, n10, n11, n14, n12, cda, cc, ccl, cl, cdd, cld, vs, ccs, csl, file, tf, a0.arg, txt, j, q0, q1, q2, q3, q4, q5, ss, as.map (·.arg), a0, lk, h11, g8, lk2, hv, g9, lk3, rfl, rfl, by simpa using g11, g7, of_decide_eq_true g12, by simpa using g13, by simpa using g14,
                fun x hx => of_decide_eq_true (List.all_eq_true.mp g15 x hx), fun x hx => ?_, of_decide_eq_true g17, of_decide_eq_true g18, (show (a0.arg :: as.map (·.arg)).Nodup from nd), q1', fun us hl => ?_, q2'⟩
              · have z : x ∈ (a0 :: as).map (·.arg) := hx
                obtain ⟨b, hb, eb⟩ := List.mem_map.mp z
                subst eb
                exact of_decide_eq_true (List.all_eq_true.mp g16 b hb)
              · exact bind_plain (as := a0 :: as) rfl rfl (by rw [hl, List.length_map, List.length_cons]) nd
            · cases g10
          · cases g9
        · cases g9
      · cases h
    · cases h
end Dk
/-! Dk26: a law's tables, its head, its end. -/
namespace Dk
open PySem PySem.Spec PyProof.Rows L2
/-- a field's name; beyond the names that there are: no name of the text -/
def fldOf (names : List Str) (i : Nat) : Str := match names[i]? with
  | some s => s
  | none => mkS (List.replicate (i + 1) 0)
def namesB (names : List Str) : Bool := decide (names.Nodup) && names.all fun s => !s.cps.toList.isEmpty && s.cps.toList.all fun c => c != 0
theorem fldOf_inj {names : List Str} (h : namesB names = true) : ∀ i j, fldOf names i = fldOf names j → i = j := by
  obtain ⟨h1, h2⟩ := and2 h
  have nd := of_decide_eq_true h1
  have key : ∀ {s : Str} {i j : Nat}, names[i]? = some s → s = mkS (List.replicate (j + 1) 0) → False := fun {s i j} hs e => by
    have z := List.all_eq_true.mp h2 s (List.mem_of_getElem? hs)
    obtain ⟨z1, z2⟩ := and2 z
    rw [e, mkS_list] at z2
    simp [List.replicate_succ] at z2
  intro i j e
  unfold fldOf at e
  cases hi : names[i]? with
  | none =>
    cases hj : names[j]? with
    | none =>
      rw [hi, hj] at e
      have := congrArg List.length (mkS_inj e)
      simpa using this
    | some s =>
      rw [hi, hj] at e
      exact (key hj e.symm).elim
  | some s =>
    cases hj : names[j]? with
    | none =>
      rw [hi, hj] at e
      exact (key hi e).elim
    | some s' =>
      rw [hi, hj] at e
      replace e : s = s' := e
      subst e
      obtain ⟨l1, e1⟩ := List.getElem?_eq_some_iff.mp hi
      obtain ⟨l2, e2⟩ := List.getElem?_eq_some_iff.mp hj
      exact (List.getElem_inj nd).mp (e1.trans e2.symm)
/-- a law's tables: its defs; own errors by name, with their fields and what they stand below; field names; constants; built-in names; the defs that may be called while an error is handled; own classes with the defs of their __init__; the names of methods; which class's which method is which def; tuples of texts -/
structure Ex where
  prog : Program
  ds : List DfR
  cls : List (Str × Option (List Nat))
  anc : List (List Nat)
  names : List Str
  con : List (Str × D)
  blt : List Str
  hot : List Nat
  own : List (Str × Nat) := []
  mtn : List Str := []
  mts : List (Nat × Nat × Nat) := []
  ktp : List (Str × List S) := []
/-- a def of the module's top, by its name -/
def nmOf : Str × Option Str → Option Str
  | (x, none) => some x
  | _ => none
def Ex.dd (E : Ex) : List He.DefD := E.ds.map DfR.d
def Ex.all (E : Ex) : List Str := E.cls.map (·.1) ++ E.own.map (·.1)
def Ex.isOwn (E : Ex) (c : Nat) : Bool := decide (E.cls.length ≤ c ∧ c < E.cls.length + E.own.length)
def Ex.L (E : Ex) : Lw where
  fnN := fun i => (E.ds[i]?).bind fun r => nmOf r.d.at_
  clN := fun c => E.all[c]?
  fldN := fldOf E.names
  nf := E.names.length
  con := E.con
  blt := E.blt
  okf := fun _ => true
  okh := fun i => E.hot.contains i
  exn := fun c => decide (c < E.cls.length)
  mtN := fldOf E.mtn
  nm := E.mtn.length
  ins := E.isOwn
  ktp := E.ktp
def Ex.t (E : Ex) : Lt where
  ds := E.ds
  mt := fun c m => if E.cls.length ≤ c then (E.mts.find? fun p => decide (p.1 = c - E.cls.length ∧ p.2.1 = m)).map (·.2.2) else none
  ini := fun c => if E.cls.length ≤ c then (E.own[c - E.cls.length]?).map (·.2) else none
  sub := fun c k => (E.anc.getD c []).contains k
  xf := fun c => (E.cls[c]?).bind (·.2)
  L := E.L
def Ex.clA (E : Ex) (K : PySem.W.Frag) (c : Nat) : Addr := match E.all[c]? with
  | some x => He.ga K x
  | none => 0
theorem Ex.all_cls {E : Ex} {c : Nat} {p : Str × Option (List Nat)} (h : E.cls[c]? = some p) : E.all[c]? = some p.1 := by
  have hl := (List.getElem?_eq_some_iff.mp h).1
  unfold Ex.all
  rw [List.getElem?_append_left (by simpa using hl), List.getElem?_map, h]; rfl
theorem Ex.all_own {E : Ex} {c : Nat} {p : Str × Nat} (h0 : E.cls.length ≤ c) (h : E.own[c - E.cls.length]? = some p) : E.all[c]? = some p.1 := by
  unfold Ex.all
  rw [List.getElem?_append_right (by simpa using h0), List.length_map, List.getElem?_map, h]; rfl
def Ex.nm (E : Ex) (K : PySem.W.Frag) : Nm where
  fnA := fun i => match E.ds[i]? with
    | some r => He.fAd K r.d.at_
    | none => 0
  clA := E.clA K
  fld := fldOf E.names
  isIns := E.isOwn
  isExn := fun c => decide (c < E.cls.length)
/-- a constant of the module -/
def conK (K : PySem.W.Frag) (x : Str) : D → Bool
  | .int i => match PySem.W.nsIn K mainGlobals x with
    | some (some (.int j _)) => decide (j = i)
    | _ => false
  | .str s => (match PySem.W.nsIn K mainGlobals x with
    | some (some (.str y _)) => decide (y = mkS s)
    | _ => false) && (decide (s.length ≤ 100000) && s.all fun c => decide (c < 0x110000))
  | _ => false
theorem conK_ok {K : PySem.W.Frag} {N : Nm} {h : Heap} {mg : Str → Option Value} (X : K.In h) (G : h.Ns mainGlobals mg) {x : Str} {d : D} (c : conK K x d = true) : ∃ u v, mg x = some u ∧ RelV v u ∧ ∀ m H, RD K N m H d v := by
  cases d with
  | int i =>
    unfold conK at c
    dsimp only at c
    split at c
    · rename_i j t e
      have q := of_decide_eq_true c
      subst q
      exact ⟨_, .int j, PySem.W.mg_of X G e, ⟨t, rfl⟩, fun _ _ => rfl⟩
    · cases c
  | str s =>
    unfold conK at c
    dsimp only at c
    obtain ⟨c1, c2⟩ := and2 c
    obtain ⟨c3, c4⟩ := and2 c2
    clear c
    split at c1
    · rename_i y t e
      have q := of_decide_eq_true c1
      subst q
      refine ⟨_, .str (mkS s), PySem.W.mg_of X G e, ⟨t, rfl⟩, fun _ _ => ⟨rfl, ?_, fun z hz => ?_⟩⟩
      · have := of_decide_eq_true c3
        rw [sizeLine_eq]; omega
      · have := List.all_eq_true.mp c4 z hz
        simpa using this
    · cases c1
  | _ => cases c
/-- a tuple of texts -/
def valsB : List S → List Value → Bool
  | [], [] => true
  | s :: r, .str y _ :: vs => decide (y = mkS s) && ((decide (s.length ≤ 100000) && s.all fun c => decide (c < 0x110000)) && valsB r vs)
  | _, _ => false
def ktpK (K : PySem.W.Frag) (x : Str) (xs : List S) : Bool := match PySem.W.nsIn K mainGlobals x with
  | some (some (.ref a)) => (match K.lookup a with
    | some ⟨.type c, _, .seq its _, _⟩ => decide (c = "tuple") && (decide (its.size ≤ 1000) && valsB xs its.toList)
    | _ => false)
  | _ => false
theorem vals_ok {K : PySem.W.Frag} {N : Nm} : ∀ {xs : List S} {us : List Value}, valsB xs us = true → ∃ vs, Vals vs us ∧ ∀ m H, RDs K N m H (xs.map D.str) vs
  | [], [], _ => ⟨[], .nil, fun _ _ => rfl⟩
  | s :: r, .str y t :: us, h => by
    obtain ⟨h1, h⟩ := and2 h
    obtain ⟨h2, h3⟩ := and2 h
    obtain ⟨h4, h5⟩ := and2 h2
    have e := of_decide_eq_true h1
    subst e
    obtain ⟨vs, q1, q2⟩ := vals_ok (K := K) (N := N) h3
    refine ⟨.str (mkS s) :: vs, .cons ⟨t, rfl⟩ q1, fun m H => ⟨_, vs, rfl, ⟨rfl, ?_, fun z hz => ?_⟩, q2 m H⟩⟩
    · have := of_decide_eq_true h4
      rw [sizeLine_eq]; omega
    · have := List.all_eq_true.mp h5 z hz
      simpa using this
  | [], _ :: _, h => by cases h
  | _ :: _, [], h => by cases h
  | _ :: _, .none :: _, h => by cases h
  | _ :: _, .bool _ :: _, h => by cases h
  | _ :: _, .int _ _ :: _, h => by cases h
  | _ :: _, .ref _ :: _, h => by cases h
  | _ :: _, .type _ :: _, h => by cases h
  | _ :: _, .builtin _ :: _, h => by cases h
  | _ :: _, .bytes _ _ :: _, h => by cases h
  | _ :: _, .float _ _ :: _, h => by cases h
theorem ktpK_ok {K : PySem.W.Frag} {N : Nm} {h : Heap} {mg : Str → Option Value} (X : K.In h) (G : h.Ns mainGlobals mg) {x : Str} {xs : List S} (c : ktpK K x xs = true) : ∃ a vs, mg x = some (.ref a) ∧ (∀ H, SqT K H a vs) ∧ ∀ m H, RDs K N m H (xs.map D.str) vs := by
  unfold ktpK at c
  split at c
  · rename_i a e
    split at c
    · rename_i c' dd its n sl lk
      obtain ⟨c1, c2⟩ := and2 c
      obtain ⟨c3, c4⟩ := and2 c2
      have q := of_decide_eq_true c1
      subst q
      obtain ⟨vs, v1, v2⟩ := vals_ok (K := K) (N := N) c4
      have := of_decide_eq_true c3
      exact ⟨a, vs, PySem.W.mg_of X G e, fun H => .inr ⟨_, its, n, lk, rfl, rfl, by rw [sizeLine_eq]; omega, v1⟩, v2⟩
    · cases c
  · cases c
/-- what the head must say of the own class j -/
def Ex.ownB (E : Ex) (K : PySem.W.Frag) (j : Nat) : Bool := match E.own[j]? with
  | some p => (He.Fa.glo p.1).ok K && ((He.Fa.cls p.1).ok K && ((E.names.all fun f => (He.Fa.noat p.1 f).ok K) && ((He.Fa.mkr p.1).ok K && E.mts.all fun q => !decide (q.1 = j) || (He.Fa.meth p.1 (fldOf E.mtn q.2.1)).ok K)))
  | none => true
/-- the tables hang together: methods are no fields; where the defs of methods stand -/
def Ex.tabB (E : Ex) : Bool := namesB (E.names ++ E.mtn) && ((E.own.all fun p => decide ((E.ds[p.2]?).map (fun r => r.d.at_) = some (p.1, some ("__init__" : Str)))) && E.mts.all fun q => decide ((E.ds[q.2.2]?).map (fun r => r.d.at_) = (E.own[q.1]?).map fun p => (p.1, some (fldOf E.mtn q.2.1))))
/-- what the head must say of the error class c -/
def Ex.errB (E : Ex) (K : PySem.W.Frag) (c : Nat) : Bool := xfB K (E.clA K c) && (decide (PySem.W.findIn K (.ref (E.clA K c)) "__class__" = some (some (.builtin "object.__class__"))) && (decide (PySem.W.mroIn K (E.clA K c) (.type "object") = some true) &&
  (decide (PySem.W.typeIn K (.ref (E.clA K c)) = some (.type "type")) && ((E.names.all fun f => decide (PySem.W.findIn K (.ref (E.clA K c)) f = some none)) && (decide (PySem.W.kitOne K (.ref (E.clA K c)) (.type "ValueError") = some true) &&
  (((List.range E.cls.length).all fun k => decide (PySem.W.kitOne K (.ref (E.clA K c)) (.ref (E.clA K k)) = some (E.t.sub c k)) && decide (PySem.W.subIn K (.ref (E.clA K c)) (.ref (E.clA K k)) = some (E.t.sub c k))) &&
  (match E.cls[c]? with
    | some (x, some l) => decide (PySem.W.nsIn K mainGlobals x = some (some (.ref (He.ga K x)))) && (decide (l.length ≤ 1000) && initB E.prog K (E.clA K c) (l.map (fldOf E.names)))
    | some (x, none) => decide (PySem.W.nsIn K mainGlobals x = some (some (.ref (He.ga K x))))
    | none => false)))))))
/-- own classes, tuples -/
def Ex.newB (E : Ex) (K : PySem.W.Frag) : Bool := E.tabB && (((List.range E.own.length).all fun j => E.ownB K j) && E.ktp.all fun p => ktpK K p.1 p.2)
def Ex.exK (E : Ex) (K : PySem.W.Frag) : Bool := E.newB K && (namesB E.names && (((List.range E.cls.length).all fun c => E.errB K c) && ((E.con.all fun p => conK K p.1 p.2) && ((E.blt.all fun x => decide (PySem.W.nsIn K mainGlobals x = some none)) && (decide (PySem.W.nsIn K mainGlobals "super" = some none) &&
  (decide (PySem.W.specialIn K (.builtin "object.__class__") "__get__" = some (some (.builtin "getset_descriptor.__get__"))) && (decide (PySem.W.takesIn K (.builtin "object.__class__") = some true) &&
  (E.ds.all fun r => match nmOf r.d.at_ with
    | some x => decide (PySem.W.nsIn K mainGlobals x = some (some (.ref (He.ga K x))))
    | none => true))))))))
/-- the same but the classes -/
def Ex.exA (E : Ex) (K : PySem.W.Frag) : Bool := E.newB K && (namesB E.names && ((E.con.all fun p => conK K p.1 p.2) && ((E.blt.all fun x => decide (PySem.W.nsIn K mainGlobals x = some none)) && (decide (PySem.W.nsIn K mainGlobals "super" = some none) &&
  (decide (PySem.W.specialIn K (.builtin "object.__class__") "__get__" = some (some (.builtin "getset_descriptor.__get__"))) && (decide (PySem.W.takesIn K (.builtin "object.__class__") = some true) &&
  (E.ds.all fun r => match nmOf r.d.at_ with
    | some x => decide (PySem.W.nsIn K mainGlobals x = some (some (.ref (He.ga K x))))
    | none => true)))))))
/-- some of the classes -/
def Ex.errL (E : Ex) (l : List Nat) (K : PySem.W.Frag) : Bool := l.all fun c => E.errB K c
theorem Ex.exK_of {E : Ex} {K : PySem.W.Frag} {a b c d : List Nat} (hl : a ++ (b ++ (c ++ d)) = List.range E.cls.length) (h : E.exA K = true) (ha : E.errL a K = true) (hb : E.errL b K = true) (hc : E.errL c K = true) (hd : E.errL d K = true) : E.exK K = true := by
  have e : ((List.range E.cls.length).all fun c => E.errB K c) = true := by
    rw [← hl, List.all_append, List.all_append, List.all_append]
    show (E.errL a K && (E.errL b K && (E.errL c K && E.errL d K))) = true
    rw [ha, hb, hc, hd]; rfl
  obtain ⟨h0, h⟩ := and2 h
  obtain ⟨h1, h2⟩ := and2 h
  unfold Ex.exK
  rw [h0, e, h1]
  exact h2
theorem map3 {α A B C : Type} {X : Option α} {a : α → A} {b : α → B} {c : α → C} {x : A} {y : B} {z : C} (h1 : X.map a = some x) (h2 : X.map b = some y) (h3 : X.map c = some z) : X.map (fun s => (a s, b s, c s)) = some (x, y, z) := by
  cases X with
  | none => cases h1
  | some s => cases h1; cases h2; cases h3; rfl
theorem map2 {α A B : Type} {X : Option α} {a : α → A} {b : α → B} {x : A} {y : B} (h1 : X.map a = some x) (h2 : X.map b = some y) : X.map (fun s => (a s, b s)) = some (x, y) := by
  cases X with
  | none => cases h1
  | some s => cases h1; cases h2; rfl
theorem Ex.split {E : Ex} {α : Type} {X : Option α} {F : α → PySem.W.Frag} {a b c d : List Nat} (hl : a ++ (b ++ (c ++ d)) = List.range E.cls.length) (h : X.map (fun s => E.exA (F s)) = some true) (ha : X.map (fun s => E.errL a (F s)) = some true) (hb : X.map (fun s => E.errL b (F s)) = some true)
    (hc : X.map (fun s => E.errL c (F s)) = some true) (hd : X.map (fun s => E.errL d (F s)) = some true) : X.map (fun s => E.exK (F s)) = some true := by
  cases X with
  | none => cases h
  | some s =>
    have := Ex.exK_of hl (Option.some.inj h) (Option.some.inj ha) (Option.some.inj hb) (Option.some.inj hc) (Option.some.inj hd)
    show some (E.exK (F s)) = some true
    rw [this]
/-- the written part that is looked at -/
def frK (n : Nat) (g : Addr → Option Obj) : PySem.W.Frag := He.frG g (cStatics :: He.asD g n)
abbrev AlK : Type := He.AlD × Bool
def Ex.obs (E : Ex) (n : Nat) (g : Addr → Option Obj) : AlK := (He.obsD [] E.dd (frK n g), E.exK (frK n g))
def Ex.hook (E : Ex) (n : Nat) : PySem.W.Hook where
  α := AlK
  obs := fun s => E.obs n s.heap.get?
  val := fun _ => (He.valD E.dd, true)
  says := fun _ h => ∃ K : PySem.W.Frag, K.In h ∧ He.SaysD [] E.dd K ∧ E.exK K = true
  of := fun _ s e => ⟨frK n s.heap.get?, He.frG_in, congrArg (fun z : AlK => z.1) e, congrArg (fun z : AlK => z.2) e⟩
  keeps := fun _ _ _ ⟨K, hK, c⟩ k => ⟨K, PySem.W.Frag.In.keeps hK k, c⟩
theorem Ex.obs_eq {E : Ex} {n : Nat} {g : Addr → Option Obj} {s : Shared} (h : ∀ a, g a = s.heap.get? a) : E.obs n g = (E.hook n).obs s := by
  have e : g = s.heap.get? := funext h
  rw [e] <;> rfl
section
variable {E : Ex} {w : World} {K : PySem.W.Frag} {mg : Str → Option Value} {base : Heap}
theorem Ex.wf (X : K.In base) (G : base.Ns mainGlobals mg) (c : He.SaysD [] E.dd K) (x : E.exK K = true) (chk : ∀ (i : Nat) r, E.ds[i]? = some r → dfB E.t i r = true) (h0 : ∀ r ∈ E.ds, r.d.dfl = [] ∧ r.d.kwd = []) : Wf E.t E.prog w K mg base (E.nm K) := by
  obtain ⟨x0, x⟩ := and2 x
  obtain ⟨t1, x0⟩ := and2 x0
  obtain ⟨t2, t3⟩ := and2 x0
  obtain ⟨t4, t5⟩ := and2 t1
  obtain ⟨t5, t6⟩ := and2 t5
  obtain ⟨x1, x⟩ := and2 x
  obtain ⟨x2, x⟩ := and2 x
  obtain ⟨x3, x⟩ := and2 x
  obtain ⟨x4, x⟩ := and2 x
  obtain ⟨x5, x⟩ := and2 x
  obtain ⟨x6, x⟩ := and2 x
  obtain ⟨x7, x8⟩ := and2 x
  have err : ∀ c, c < E.cls.length → E.errB K c = true := fun c hc => List.all_eq_true.mp x2 c (List.mem_range.mpr hc)
  have lt : ∀ c, (E.nm K).isExn c = true → c < E.cls.length := fun c hc => of_decide_eq_true hc
  have parts : ∀ c, c < E.cls.length → _ := fun c hc => and2 (err c hc)
  have fns : ∀ (i : Nat) r, E.ds[i]? = some r → ∃ fdat, FunD K r.d.name r.d.qual r.d.params r.d.body r.d.scope [] [] ((E.nm K).fnA i) fdat := fun i r hi => by
    obtain ⟨fd, F⟩ := He.SaysD.def_ c i (d := r.d) (by unfold Ex.dd; rw [List.getElem?_map, hi]; rfl)
    obtain ⟨z1, z2⟩ := h0 r (List.mem_of_getElem? hi)
    unfold He.DefD.dvs He.DefD.kws at F
    rw [z1, z2] at F
    refine ⟨fd, ?_⟩
    show FunD K r.d.name r.d.qual r.d.params r.d.body r.d.scope [] [] (match E.ds[i]? with
      | some r => He.fAd K r.d.at_
      | none => 0) fd
    rw [hi]
    exact F
  have ownAt : ∀ c, E.isOwn c = true → ∃ p, E.own[c - E.cls.length]? = some p ∧ E.all[c]? = some p.1 ∧ E.clA K c = He.ga K p.1 ∧ E.ownB K (c - E.cls.length) = true := fun c hc => by
    obtain ⟨a1, a2⟩ := of_decide_eq_true hc
    have hl : c - E.cls.length < E.own.length := by omega
    refine ⟨_, List.getElem?_eq_getElem hl, E.all_own a1 (List.getElem?_eq_getElem hl), ?_, List.all_eq_true.mp t2 _ (List.mem_range.mpr hl)⟩
    unfold Ex.clA
    rw [E.all_own a1 (List.getElem?_eq_getElem hl)]
  have ownP : ∀ c p, E.own[c - E.cls.length]? = some p → E.ownB K (c - E.cls.length) = true → (He.Fa.glo p.1).ok K = true ∧ (He.Fa.cls p.1).ok K = true ∧ (E.names.all fun f => (He.Fa.noat p.1 f).ok K) = true ∧ (He.Fa.mkr p.1).ok K = true ∧ (E.mts.all fun q => !decide (q.1 = c - E.cls.length) || (He.Fa.meth p.1 (fldOf E.mtn q.2.1)).ok K) = true := fun c p hp h => by
    unfold Ex.ownB at h
    rw [hp] at h
    obtain ⟨a1, h⟩ := and2 h
    obtain ⟨a2, h⟩ := and2 h
    obtain ⟨a3, h⟩ := and2 h
    obtain ⟨a4, a5⟩ := and2 h
    exact ⟨a1, a2, a3, a4, a5⟩
  have fnAt : ∀ g x m, (E.ds[g]?).map (fun r => r.d.at_) = some (x, some m) → (E.nm K).fnA g = He.ma K (He.ga K x) m := fun g x m h => by
    show (match E.ds[g]? with
      | some r => He.fAd K r.d.at_
      | none => 0) = _
    cases q : E.ds[g]? with
    | none => rw [q] at h; cases h
    | some r =>
      rw [q] at h
      have h : r.d.at_ = (x, some m) := Option.some.inj h
      show He.fAd K r.d.at_ = _
      rw [h]; rfl
  refine ⟨⟨fldOf_inj x1, fun c hc => xfB_ok (parts c (lt c hc)).1, fun c hc => ?_, fun c hc => ?_, fun c f hc hf => ?_, fun c k hc hk => ?_, fun c hc => ?_, fun c k hc hk => ?_, fun c hc => ?_, fun c hc => ?_, fun c f hc hf => ?_, of_decide_eq_true x6, of_decide_eq_true x7⟩,
    fun _ => rfl, fun _ h => h, fun f y hf => ?_, fun c y hc => ?_, fun p hp => conK_ok X G (List.all_eq_true.mp x3 p hp), fun y hy => PySem.W.mg_none_of X G (of_decide_eq_true (List.all_eq_true.mp x4 y hy)), fun c l hl => ?_, fns, chk, fun _ => rfl, ⟨fun m i hm => ?_, fun c m f hm hc hf => ?_⟩, fun c y hc hy => ?_, fun p hp => ktpK_ok X G (List.all_eq_true.mp t3 p hp)⟩
  · exact of_decide_eq_true (and2 (parts c (lt c hc)).2).1
  · exact of_decide_eq_true (and2 (and2 (parts c (lt c hc)).2).2).1
  · have z := (and2 (and2 (and2 (and2 (parts c (lt c hc)).2).2).2).2).1
    have q := of_decide_eq_true (List.all_eq_true.mp z (fldOf E.names f) (by
      unfold fldOf
      rw [List.getElem?_eq_getElem hf]
      exact List.getElem_mem hf))
    exact q
  · have z := (and2 (and2 (and2 (and2 (and2 (and2 (parts c (lt c hc)).2).2).2).2).2).2).1
    exact of_decide_eq_true (and2 (List.all_eq_true.mp z k (List.mem_range.mpr (lt k hk)))).1
  · exact of_decide_eq_true (and2 (and2 (and2 (parts c (lt c hc)).2).2).2).1
  · have z := (and2 (and2 (and2 (and2 (and2 (and2 (parts c (lt c hc)).2).2).2).2).2).2).1
    exact of_decide_eq_true (and2 (List.all_eq_true.mp z k (List.mem_range.mpr (lt k hk)))).2
  · exact of_decide_eq_true (and2 (and2 (and2 (and2 (and2 (parts c (lt c hc)).2).2).2).2).2).1
  · obtain ⟨p, p1, p2, p3, p4⟩ := ownAt c hc
    show Cls K (E.clA K c)
    rw [p3]
    exact He.cls_ok (ownP c p p1 p4).2.1
  · obtain ⟨p, p1, p2, p3, p4⟩ := ownAt c hc
    show NoAttr K (E.clA K c) (fldOf E.names f)
    rw [p3]
    exact He.noat_ok (List.all_eq_true.mp (ownP c p p1 p4).2.2.1 (fldOf E.names f) (by
      unfold fldOf
      rw [List.getElem?_eq_getElem hf]
      exact List.getElem_mem hf))
  · -- a def by its name
    replace hf : ((E.ds[f]?).bind fun r => nmOf r.d.at_) = some y := hf
    cases q : E.ds[f]? with
    | none => rw [q] at hf; cases hf
    | some r =>
      rw [q] at hf
      replace hf : nmOf r.d.at_ = some y := hf
      have z := List.all_eq_true.mp x8 r (List.mem_of_getElem? q)
      rw [hf] at z
      have ea : (E.nm K).fnA f = He.fAd K r.d.at_ := by
        show (match E.ds[f]? with
          | some r => He.fAd K r.d.at_
          | none => 0) = _
        rw [q]
      obtain ⟨fd, F⟩ := fns f r q
      refine ⟨?_, F.kp⟩
      rw [ea]
      have eb : He.fAd K r.d.at_ = He.ga K y := by
        generalize r.d.at_ = at' at hf
        obtain ⟨y', o⟩ := at'
        cases o with
        | some _ => cases hf
        | none => cases hf; rfl
      rw [eb]
      exact PySem.W.mg_of X G (of_decide_eq_true z)
  · -- a class by its name
    replace hc : E.all[c]? = some y := hc
    have ea : (E.nm K).clA c = He.ga K y := by
      show E.clA K c = _
      unfold Ex.clA
      rw [hc]
    rw [ea]
    by_cases hl : c < E.cls.length
    · have q : E.cls[c]? = some E.cls[c] := List.getElem?_eq_getElem hl
      have z := (and2 (and2 (and2 (and2 (and2 (and2 (parts c hl).2).2).2).2).2).2).2
      rw [E.all_cls q] at hc
      cases hc
      rw [q] at z
      generalize E.cls[c] = p at z
      obtain ⟨y', o⟩ := p
      cases o with
      | none => exact PySem.W.mg_of X G (of_decide_eq_true z)
      | some l => exact PySem.W.mg_of X G (of_decide_eq_true (and2 z).1)
    · have hl2 : c < E.cls.length + E.own.length := by
        have := (List.getElem?_eq_some_iff.mp hc).1
        unfold Ex.all at this
        simpa using this
      obtain ⟨p, p1, p2, p3, p4⟩ := ownAt c (decide_eq_true ⟨by omega, hl2⟩)
      rw [hc] at p2
      cases p2
      exact He.glo_ok X G (ownP c p p1 p4).1
  · -- an error's __init__
    replace hl : (E.cls[c]?).bind (·.2) = some l := hl
    cases q : E.cls[c]? with
    | none => rw [q] at hl; cases hl
    | some p =>
      rw [q] at hl
      replace hl : p.2 = some l := hl
      have hlt := (List.getElem?_eq_some_iff.mp q).1
      have z := (and2 (and2 (and2 (and2 (and2 (and2 (parts c hlt).2).2).2).2).2).2).2
      rw [q] at z
      obtain ⟨y', o⟩ := p
      replace hl : o = some l := hl
      subst hl
      obtain ⟨z1, z2⟩ := and2 z
      obtain ⟨z2, z3⟩ := and2 z2
      exact ⟨decide_eq_true hlt, of_decide_eq_true z2, _, initB_ok (PySem.W.mg_none_of X G (of_decide_eq_true x5)) z3⟩
  · -- methods are no fields
    show fldOf E.names i ≠ fldOf E.mtn m
    have e1 : fldOf (E.names ++ E.mtn) (E.names.length + m) = fldOf E.mtn m := by
      unfold fldOf
      rw [List.getElem?_append_right (Nat.le_add_right _ _), Nat.add_sub_cancel_left, List.getElem?_eq_getElem hm]
    by_cases hi : i < E.names.length
    · have e2 : fldOf (E.names ++ E.mtn) i = fldOf E.names i := by
        unfold fldOf
        rw [List.getElem?_append_left hi, List.getElem?_eq_getElem hi]
      rw [← e1, ← e2]
      exact fun z => by
        have := fldOf_inj t4 _ _ z
        omega
    · have hm2 : m < E.mtn.length := hm
      have e2 : fldOf (E.names ++ E.mtn) (i + E.mtn.length) = mkS (List.replicate (i + E.mtn.length + 1) 0) := by
        unfold fldOf
        rw [List.getElem?_eq_none (by rw [List.length_append]; omega)]
      have e3 : fldOf E.names i = mkS (List.replicate (i + 1) 0) := by
        unfold fldOf
        rw [List.getElem?_eq_none (by omega)]
      rw [e3]
      obtain ⟨_, n2⟩ := and2 t4
      intro z
      have hx : fldOf E.mtn m ∈ E.names ++ E.mtn := by
        unfold fldOf
        rw [List.getElem?_eq_getElem hm2]
        exact List.mem_append_right _ (List.getElem_mem hm2)
      have n3 := List.all_eq_true.mp n2 _ hx
      obtain ⟨_, n4⟩ := and2 n3
      rw [← z, mkS_list] at n4
      simp [List.replicate_succ] at n4
  · -- methods
    replace hf : (if E.cls.length ≤ c then (E.mts.find? fun p => decide (p.1 = c - E.cls.length ∧ p.2.1 = m)).map (·.2.2) else none) = some f := hf
    obtain ⟨p, p1, p2, p3, p4⟩ := ownAt c hc
    split at hf
    · cases hq : E.mts.find? fun p => decide (p.1 = c - E.cls.length ∧ p.2.1 = m) with
      | none => rw [hq] at hf; cases hf
      | some q =>
        rw [hq] at hf
        replace hf : q.2.2 = f := Option.some.inj hf
        have q0 : decide (q.1 = c - E.cls.length ∧ q.2.1 = m) = true := List.find?_some (p := fun p : Nat × Nat × Nat => decide (p.1 = c - E.cls.length ∧ p.2.1 = m)) hq
        obtain ⟨q1, q2⟩ := of_decide_eq_true q0
        have hm2 := List.mem_of_find?_eq_some hq
        have a1 := of_decide_eq_true (List.all_eq_true.mp t6 q hm2)
        rw [q1, p1, q2, hf] at a1
        have a2 := List.all_eq_true.mp (ownP c p p1 p4).2.2.2.2 q hm2
        rw [q1, decide_eq_true rfl, q2] at a2
        show Meth K (E.clA K c) (fldOf E.mtn m) ((E.nm K).fnA f)
        rw [p3, fnAt f p.1 (fldOf E.mtn m) a1]
        exact He.meth_ok a2
    · cases hf
  · -- classes that are made
    obtain ⟨p, p1, p2, p3, p4⟩ := ownAt c hc
    obtain ⟨a1, _⟩ := of_decide_eq_true hc
    have M := He.mkr_ok (ownP c p p1 p4).2.2.2.1
    have z := of_decide_eq_true (List.all_eq_true.mp t5 p (List.mem_of_getElem? p1))
    have ec : (E.nm K).clA c = He.ga K p.1 := p3
    refine ⟨hc, by rw [ec]; exact M.kp, p.2, ?_⟩
    cases q : E.ds[p.2]? with
    | none => rw [q] at z; cases z
    | some r =>
      refine ⟨r, ?_, q, ?_⟩
      · show (if E.cls.length ≤ c then (E.own[c - E.cls.length]?).map (·.2) else none) = _
        rw [if_pos a1, p1]; rfl
      · rw [ec, fnAt p.2 p.1 "__init__" z]
        exact M
end
/-! ### the end -/
/-- what leaves a law's def: nothing of the world stands in it -/
def CXall : CXT := fun outer H s E u s' => ∃ P w, L2.CX P w outer H s E u s'
theorem CXall_no (H : Hp) (s : Shared) (e : Value) (s' : Shared) (h : CXall [] H s (fun _ _ _ => False) e s') : False := by
  obtain ⟨P, w, a, B, H', cls, d, _, _, _, _, _, _, _, z⟩ := h
  exact z
theorem fnOk_of {P : Program} {w : World} {K : PySem.W.Frag} {mg : Str → Option Value} {base : Heap} {k : Nat} {f : Addr} {fd : FuncData} {ps : List Str} {sp : Sp} (F : FnC P w K mg base (L2.CX P w) true k f fd ps sp) : FnOk P w K mg base CXall k f fd ps sp :=
  ⟨F.len, fun A outer s H args us vs Q E hr e0 hb r h => codeAny_mono (F.run A outer s H args us vs Q E ⟨hr.dp, hr.un⟩ (fun _ => hr.hd) e0 hb r h) fun r s' q => by
    cases r with
    | error e => exact ⟨P, w, q⟩
    | ok fl => cases fl <;> exact q⟩
theorem sqF_of {K : PySem.W.Frag} {H : Hp} {a : Addr} {xs : List V} (hO : Only H) (h : SqL K H a xs) : SqF K H a xs := by
  rcases h with (h | h) | h
  · rcases hO a with z | ⟨o, ys, z⟩
    · rw [z] at h; cases h
    · rw [z] at h; cases h
  · exact .inl h
  · exact .inr h
/-- the law holds, if its tables pass and the little language says so -/
theorem Ex.walk {l : PySem.W.OpenLaw} {n k nh i : Nat} {q : Program} {loose : List Str} {XP : (Str → Option Value) → Heap → Prop} {d : DefRec} (E : Ex) {r : DfR} (hp : E.prog = l.prog) (hn : l.most = some n) (hn2 : n ≤ sizeLine) (hdf : d.params.defaults = []) (hr : Room (2 * k) callerA)
    (hi : E.ds[i]? = some r) (hat : r.d.at_ = (d.name, none)) (hps : r.ps = [("script" : Str)]) (chk : ∀ (i : Nat) r, E.ds[i]? = some r → dfB E.t i r = true) (h0 : ∀ r ∈ E.ds, r.d.dfl = [] ∧ r.d.kwd = [])
    (pure_ : ∀ ns : List Int, ns.length ≤ n → ∃ st', callF E.t.P k i [.scr ns] [] = .ok (.bl true) st') : PySem.W.WalkO q loose XP (E.hook nh).says l.row.toRowW d [] (fun f vs => PySem.call f vs) := by
  refine L2.walk_ofE (l := l) (n := n) (k := 2 * k) (x := "script") (CX := CXall) hn hn2 hdf hr ?_ CXall_no
  intro w mg fa h ⟨K, KX, c, x⟩ G hmg
  have W := Ex.wf (E := E) (w := w) KX G c x chk h0
  obtain ⟨fd, F⟩ := W.fn i r hi
  have ef : (E.nm K).fnA i = fa := by
    have z := (W.fnm i d.name (by
      show ((E.ds[i]?).bind fun r => nmOf r.d.at_) = _
      rw [hi]
      show nmOf r.d.at_ = _
      rw [hat]; rfl)).1
    rw [hmg] at z
    cases z
    rfl
  obtain ⟨c1, c'⟩ := and2 (chk i r hi)
  obtain ⟨c2, c'⟩ := and2 c'
  obtain ⟨c3, c'⟩ := and2 c'
  obtain ⟨c4, c'⟩ := and2 c'
  obtain ⟨c5, c'⟩ := and2 c'
  obtain ⟨c6, c'⟩ := and2 c'
  refine ⟨K, fd, spF K (E.nm K) E.t k i, KX, fun s u => ?_, fun H a ns hl hO hS => ?_, fun base KB GB => ?_⟩
  · have b := FunD.bindsA (ps := r.ps) F (fun kV doc pm an cdv ct us hl => bind_plain (parB_eq c1) rfl (by rw [hl]; show (r.d.params.args.map (·.arg)).length = _; rw [List.length_map]) (of_decide_eq_true c6)) s [u] (by rw [hps]; rfl)
    rw [hps] at b
    exact b
  · obtain ⟨st', e⟩ := pure_ ns hl
    refine ⟨[], [.scr ns], [], ⟨rfl, List.nodup_nil, fun i c a hc => by simp at hc⟩, ⟨_, _, rfl, ⟨a, rfl, sqF_of hO hS⟩, rfl⟩, ?_⟩
    rw [e]
    exact fun b H' m' _ _ rv => rv
  · have WB := Ex.wf (E := E) (w := w) KB GB c x chk h0
    rw [← hp, ← ef]
    have R := fnOk_of (defs_ok WB k true i r fd hi F (.inl ⟨rfl, rfl⟩))
    rw [hps] at R
    exact R
end Dk
/-! Dp1: the plain side: what terms give, row by row, for simp. -/
namespace Dk
open PySem
/-! ### a store with one cell more -/
/-- one cell more -/
def push (st : Store) (c : C) : Store := st ++ [c]
theorem push_def (st : Store) (c : C) : st ++ [c] = push st c := (rfl)
@[simp] theorem push_len (st : Store) (c : C) : (push st c).length = st.length + 1 := by simp [push]
@[simp low] theorem getL_top {st : Store} {n : Nat} {xs : List D} (h : n = st.length) : getL (push st (.lst xs)) n = some xs := by subst h; simp [getL, push]
theorem getL_low {st : Store} {n : Nat} {c : C} (h : n < st.length) : getL (push st c) n = getL st n := by unfold getL push; rw [List.getElem?_append_left h]
theorem get_top {st : Store} {n : Nat} {c : C} (h : n = st.length) : (push st c)[n]? = some c := by subst h; simp [push]
theorem get_low {st : Store} {n : Nat} {c : C} (h : n < st.length) : (push st c)[n]? = st[n]? := by unfold push; rw [List.getElem?_append_left h]
@[simp low] theorem set_top {st : Store} {n : Nat} {c d : C} (h : n = st.length) : (push st c).set n d = push st d := by subst h; unfold push; rw [List.set_append_right _ _ (Nat.le_refl _)]; simp
theorem set_low {st : Store} {n : Nat} {c d : C} (h : n < st.length) : (push st c).set n d = push (st.set n d) c := by unfold push; rw [List.set_append_left _ _ h]
@[simp] theorem getL_top0 (st : Store) (xs : List D) : getL (push st (.lst xs)) st.length = some xs := getL_top rfl
@[simp] theorem get_top0 (st : Store) (c : C) : (push st c)[st.length]? = some c := get_top rfl
@[simp] theorem set_top0 (st : Store) (c d : C) : (push st c).set st.length d = push st d := set_top rfl
@[simp] theorem getL_top1 (st : Store) (c : C) (xs : List D) : getL (push (push st c) (.lst xs)) (st.length + 1) = some xs := getL_top (by simp)
@[simp] theorem set_top1 (st : Store) (c d e : C) : (push (push st c) d).set (st.length + 1) e = push (push st c) e := set_top (by simp)
@[simp] theorem getL_top2 (st : Store) (a b : C) (xs : List D) : getL (push (push (push st a) b) (.lst xs)) (st.length + 1 + 1) = some xs := getL_top (by simp)
@[simp] theorem set_top2 (st : Store) (a b d e : C) : (push (push (push st a) b) d).set (st.length + 1 + 1) e = push (push (push st a) b) e := set_top (by simp)
@[simp] theorem getL_top3 (st : Store) (a b c : C) (xs : List D) : getL (push (push (push (push st a) b) c) (.lst xs)) (st.length + 1 + 1 + 1) = some xs := getL_top (by simp)
@[simp] theorem set_top3 (st : Store) (a b c d e : C) : (push (push (push (push st a) b) c) d).set (st.length + 1 + 1 + 1) e = push (push (push (push st a) b) c) e := set_top (by simp)
/-- what nothing names any more -/
def jk (st t : Store) : Store := st ++ t
theorem jk_nil (st : Store) : jk st [] = st := by simp [jk]
theorem push_jk (st t : Store) (c : C) : push (jk st t) c = jk st (t ++ [c]) := by simp [jk, push]
/-- a place of the store, below the ones that come -/
def low (n : Nat) (st : Store) : Prop := n < st.length
instance (n : Nat) (st : Store) : Decidable (low n st) := by unfold low; infer_instance
/-- the same, not to be looked into -/
def lowj (n : Nat) (st t : Store) : Prop := low n (jk st t)
@[simp] theorem low_push (n : Nat) (st : Store) (c : C) : low n (push st c) = (low n st ∨ n = st.length) := by
  apply propext
  simp only [low, push_len]; omega
@[simp] theorem low_jk (n : Nat) (st t : Store) : low n (jk st t) = (low n st ∨ lowj n st t) := by
  apply propext
  constructor
  · exact .inr
  · rintro (h | h)
    · simp only [low, jk, List.length_append] at h ⊢; omega
    · exact h
@[simp] theorem low_no (st : Store) : low st.length st = False := by simp [low]
@[simp] theorem low_no1 (st : Store) : low (st.length + 1) st = False := by simp [low]
@[simp] theorem low_no2 (st : Store) : low (st.length + 1 + 1) st = False := by simp [low]; omega
@[simp] theorem low_no3 (st : Store) : low (st.length + 1 + 1 + 1) st = False := by simp [low]; omega
@[simp] theorem getL_push {n : Nat} {st : Store} (c : C) (h : low n st) : getL (push st c) n = getL st n := getL_low h
@[simp] theorem set_push {n : Nat} {st : Store} (c d : C) (h : low n st) : (push st c).set n d = push (st.set n d) c := set_low h
@[simp] theorem getL_jk {n : Nat} {st : Store} (t : Store) (h : low n st) : getL (jk st t) n = getL st n := by unfold getL jk; rw [List.getElem?_append_left h]
@[simp] theorem set_jk {n : Nat} {st : Store} (t : Store) (d : C) (h : low n st) : (jk st t).set n d = jk (st.set n d) t := by unfold jk; rw [List.set_append_left _ _ h]
/-- what stands at a place -/
def at_ (st : Store) (n : Nat) : Option C := st[n]?
@[simp low] theorem at_top {st : Store} {n : Nat} {c : C} (h : n = st.length) : at_ (push st c) n = some c := get_top h
theorem at_low {st : Store} {n : Nat} {c : C} (h : n < st.length) : at_ (push st c) n = at_ st n := get_low h
@[simp] theorem at_top0 (st : Store) (c : C) : at_ (push st c) st.length = some c := at_top rfl
@[simp] theorem at_top1 (st : Store) (c d : C) : at_ (push (push st c) d) (st.length + 1) = some d := at_top (by simp)
@[simp] theorem at_top2 (st : Store) (a c d : C) : at_ (push (push (push st a) c) d) (st.length + 1 + 1) = some d := at_top (by simp)
@[simp] theorem at_top3 (st : Store) (a b c d : C) : at_ (push (push (push (push st a) b) c) d) (st.length + 1 + 1 + 1) = some d := at_top (by simp)
@[simp] theorem at_push {n : Nat} {st : Store} (c : C) (h : low n st) : at_ (push st c) n = at_ st n := at_low h
@[simp] theorem at_jk {n : Nat} {st : Store} (t : Store) (h : low n st) : at_ (jk st t) n = at_ st n := by unfold at_ jk; rw [List.getElem?_append_left h]
theorem getM_of {st : Store} {n : Nat} {t : Bool} {kvs : List (D × D)} (h : st[n]? = some (.dct t kvs)) : getM st n = some (t, kvs) := by unfold getM; rw [h]
theorem getL_ofD {st : Store} {n : Nat} {t : Bool} {kvs : List (D × D)} (h : st[n]? = some (.dct t kvs)) : getL st n = none := by unfold getL; rw [h]
@[simp] theorem getM_top0 (st : Store) (t : Bool) (kvs : List (D × D)) : getM (push st (.dct t kvs)) st.length = some (t, kvs) := getM_of (get_top rfl)
@[simp] theorem getM_top1 (st : Store) (c : C) (t : Bool) (kvs : List (D × D)) : getM (push (push st c) (.dct t kvs)) (st.length + 1) = some (t, kvs) := getM_of (get_top (by simp))
@[simp] theorem getM_top2 (st : Store) (a b : C) (t : Bool) (kvs : List (D × D)) : getM (push (push (push st a) b) (.dct t kvs)) (st.length + 1 + 1) = some (t, kvs) := getM_of (get_top (by simp))
@[simp] theorem getL_dct0 (st : Store) (t : Bool) (kvs : List (D × D)) : getL (push st (.dct t kvs)) st.length = none := getL_ofD (get_top rfl)
@[simp] theorem getL_dct1 (st : Store) (c : C) (t : Bool) (kvs : List (D × D)) : getL (push (push st c) (.dct t kvs)) (st.length + 1) = none := getL_ofD (get_top (by simp))
@[simp] theorem getL_dct2 (st : Store) (a b : C) (t : Bool) (kvs : List (D × D)) : getL (push (push (push st a) b) (.dct t kvs)) (st.length + 1 + 1) = none := getL_ofD (get_top (by simp))
@[simp] theorem getM_push {n : Nat} {st : Store} (c : C) (h : low n st) : getM (push st c) n = getM st n := by unfold getM push; rw [List.getElem?_append_left h]
@[simp] theorem getM_jk {n : Nat} {st : Store} (t : Store) (h : low n st) : getM (jk st t) n = getM st n := by unfold getM jk; rw [List.getElem?_append_left h]
theorem low_ofM {st : Store} {n : Nat} {p : Bool × List (D × D)} (h : getM st n = some p) : low n st := by
  unfold getM at h
  split at h
  · rename_i t kvs q
    exact (List.getElem?_eq_some_iff.mp q).1
  · cases h
theorem getL_ofM {st : Store} {n : Nat} {p : Bool × List (D × D)} (h : getM st n = some p) : getL st n = none := by
  unfold getM at h
  split at h
  · rename_i t kvs q
    unfold getL
    rw [q]
  · cases h
theorem low_of {st : Store} {n : Nat} {xs : List D} (h : getL st n = some xs) : low n st := by
  unfold getL at h
  split at h
  · rename_i q
    exact (List.getElem?_eq_some_iff.mp q).1
  · cases h
/-! ### letting go -/
theorem keepOk_app (n : Nat) : ∀ (st t : Store), keepOk n st (st ++ t)
  | [], _ => trivial
  | c :: r, t => ⟨.inl rfl, keepOk_app n r t⟩
@[simp] theorem cut_self (ds : List D) (st : Store) : cut st ds st = st := by
  unfold cut; split <;> simp
theorem cut_app {ds : List D} {st : Store} (h : D.belL st.length ds = true) (t : Store) : cut st ds (st ++ t) = st := by
  unfold cut; rw [if_pos ⟨keepOk_app _ _ _, h⟩]; simp
theorem cut_len {ds : List D} {st st' : Store} (h : st'.length = st.length) : cut st ds st' = st' := by
  unfold cut; split
  · rw [← h, List.take_length]
  · rfl
/-- a store that goes on from another -/
def ext (st s : Store) : Prop := ∃ t, s = st ++ t
@[simp] theorem ext_self (st : Store) : ext st st := ⟨[], by simp⟩
/-- the same, not to be looked into -/
def extp (st s : Store) (c : C) : Prop := ext st (push s c)
def extj (st s t : Store) : Prop := ext st (jk s t)
@[simp] theorem ext_push (st s : Store) (c : C) : ext st (push s c) = (ext st s ∨ extp st s c) := by
  apply propext
  constructor
  · exact .inr
  · rintro (⟨t, rfl⟩ | h)
    · exact ⟨t ++ [c], by simp [push]⟩
    · exact h
@[simp] theorem ext_jk (st s t : Store) : ext st (jk s t) = (ext st s ∨ extj st s t) := by
  apply propext
  constructor
  · exact .inr
  · rintro (⟨u, rfl⟩ | h)
    · exact ⟨u ++ t, by simp [jk]⟩
    · exact h
@[simp] theorem cut_ext {st s : Store} {ds : List D} (h : ext st s) (hb : D.belL st.length ds = true) : cut st ds s = st := by
  obtain ⟨t, rfl⟩ := h; exact cut_app hb t
theorem cut_p1 {ds : List D} {st : Store} {c : C} (h : D.belL st.length ds = true) : cut st ds (push st c) = st := by simp [h]
/-- the new list is what comes back: it stays, as the one behind the old cells -/
@[simp] theorem bel_non (n : Nat) : D.bel n .non = true := (rfl)
@[simp] theorem bel_bl (n : Nat) (b : Bool) : D.bel n (.bl b) = true := (rfl)
@[simp] theorem bel_int (n : Nat) (b : Int) : D.bel n (.int b) = true := (rfl)
@[simp] theorem bel_str (n : Nat) (b : S) : D.bel n (.str b) = true := (rfl)
@[simp] theorem bel_tup (n : Nat) (b : List D) : D.bel n (.tup b) = D.belL n b := (rfl)
@[simp] theorem bel_loc (n k : Nat) : D.bel n (.loc k) = decide (k < n) := (rfl)
@[simp] theorem belL_nil (n : Nat) : D.belL n [] = true := (rfl)
@[simp] theorem belL_cons (n : Nat) (d : D) (r : List D) : D.belL n (d :: r) = (D.bel n d && D.belL n r) := (rfl)
theorem belL_iff (n : Nat) : ∀ xs : List D, D.belL n xs = true ↔ ∀ x ∈ xs, D.bel n x = true
  | [] => by simp
  | x :: r => by simp [belL_iff n r]
@[simp] theorem belL_app (n : Nat) (xs ys : List D) : D.belL n (xs ++ ys) = (D.belL n xs && D.belL n ys) := by
  induction xs with
  | nil => simp
  | cons x r ih => simp [ih, Bool.and_assoc]
theorem belL_map {α : Type} {n : Nat} {f : α → D} {xs : List α} (h : ∀ x, D.bel n (f x) = true) : D.belL n (xs.map f) = true := (belL_iff n _).mpr fun x hx => by
  obtain ⟨a, _, rfl⟩ := List.mem_map.mp hx
  exact h a
/-- a result that is a new list at the end -/
theorem cut_loc {st s : Store} {n : Nat} {ds : List D} (h : ¬ D.belL st.length ds = true) : cut st ds s = s := by
  unfold cut; rw [if_neg (fun z => h z.2)]
@[simp] theorem cut_new (st : Store) (n : Nat) (s : Store) (h : ¬ low n st) : cut st [.loc n] s = s := cut_loc (n := 0) (by simp [low] at h ⊢; exact h)
@[simp] theorem cut_new0 (st : Store) (s : Store) : cut st [.loc st.length] s = s := cut_loc (n := 0) (by simp)
@[simp] theorem cut_new1 (st : Store) (s : Store) : cut st [.loc (st.length + 1)] s = s := cut_loc (n := 0) (by simp)
@[simp] theorem cut_new2 (st : Store) (s : Store) : cut st [.loc (st.length + 1 + 1)] s = s := cut_loc (n := 0) (by simp; omega)
/-! ### choice -/
/-- what a test chooses -/
def condR {α : Type} (x : D) (a b : R α) : R α := match x with
  | .bl true => a
  | .bl false => b
  | _ => .stuck
def condS (x : D) (a b : RS) : RS := match x with
  | .bl true => a
  | .bl false => b
  | _ => .stuck
@[simp ↓] theorem condR_t {α : Type} (a b : R α) : condR (.bl true) a b = a := (rfl)
@[simp ↓] theorem condR_f {α : Type} (a b : R α) : condR (.bl false) a b = b := (rfl)
@[simp ↓] theorem condS_t (a b : RS) : condS (.bl true) a b = a := (rfl)
@[simp ↓] theorem condS_f (a b : RS) : condS (.bl false) a b = b := (rfl)
@[simp ↓] theorem condR_b {α : Type} (c : Bool) (a b : R α) : condR (.bl c) a b = if c = true then a else b := by cases c <;> rfl
@[simp ↓] theorem condS_b (c : Bool) (a b : RS) : condS (.bl c) a b = if c = true then a else b := by cases c <;> rfl
@[simp] theorem ite_and (p : Prop) [Decidable p] (q : Bool) (st : Store) : (if p then R.ok (D.bl q) st else R.ok (D.bl false) st) = R.ok (D.bl (decide p && q)) st := by by_cases h : p <;> simp [h]
@[simp] theorem ite_or (p : Prop) [Decidable p] (q : Bool) (st : Store) : (if p then R.ok (D.bl true) st else R.ok (D.bl q) st) = R.ok (D.bl (decide p || q)) st := by by_cases h : p <;> simp [h]
@[simp] theorem of_dec_map (o : Option Bool) (b : Bool) (h : o = some b) : o.map D.bl = some (.bl b) := by rw [h]; rfl
section
variable {st : Store}
/-- what is walked -/
noncomputable def walkI (st : Store) (x : D) (st1 : Store) : R (List D × Option (Nat × List D)) := match x with
    | .tup xs => .ok (xs, none) st1
    | .str s => .ok (s.map fun c => .str [c], none) st1
    | .loc n => match getL st1 n with
      | some xs => if n < (cut st xs st1).length then .ok (xs, some (n, xs)) (cut st xs st1) else .ok (xs, none) (cut st xs st1)
      | none => .stuck
    | _ => .stuck
end
/-- the error that is raised -/
def raise (c : Nat) (o : Option (List (Nat × D))) (env : Env) (st : Store) : RS := match o with
    | some fs => .exc c fs env st
    | none => .stuck
@[simp] theorem raise_some (c : Nat) (fs : List (Nat × D)) (env : Env) (st : Store) : raise c (some fs) env st = .exc c fs env st := (rfl)
/-! ### terms: named continuations -/
noncomputable def kBin2 (o : Op) (x : D) (st : Store) (r : R D) : R D := r.bind fun y s2 => binD st o x y s2
@[simp] theorem kBin2_ok (o : Op) (x : D) (st : Store) (y : D) (s2 : Store) : kBin2 o x st (.ok y s2) = binD st o x y s2 := (rfl)
@[simp] theorem kBin2_exc (o : Op) (x : D) (st : Store) (c0 : Nat) (f0 : List (Nat × D)) (s0 : Store) : kBin2 o x st (.exc c0 f0 s0) = .exc c0 f0 s0 := (rfl)
noncomputable def kBin1 (cf : Cf) (o : Op) (b : T) (env : Env) (st : Store) (r : R D) : R D := r.bind fun x s1 => kBin2 o x st (ev cf b env s1)
@[simp] theorem kBin1_ok (cf : Cf) (o : Op) (b : T) (env : Env) (st : Store) (x : D) (s1 : Store) : kBin1 cf o b env st (.ok x s1) = kBin2 o x st (ev cf b env s1) := (rfl)
@[simp] theorem kBin1_exc (cf : Cf) (o : Op) (b : T) (env : Env) (st : Store) (c0 : Nat) (f0 : List (Nat × D)) (s0 : Store) : kBin1 cf o b env st (.exc c0 f0 s0) = .exc c0 f0 s0 := (rfl)
def negD (st1 : Store) : D → R D
  | .int i => .ok (.int (-i)) st1
  | _ => .stuck
@[simp] theorem negD_int (s1 : Store) (i : Int) : negD s1 (.int i) = .ok (.int (-i)) s1 := (rfl)
def notD (st1 : Store) : D → R D
  | .bl c => .ok (.bl (!c)) st1
  | _ => .stuck
@[simp] theorem notD_bl (s1 : Store) (c : Bool) : notD s1 (.bl c) = .ok (.bl (!c)) s1 := (rfl)
noncomputable def kNeg  (r : R D) : R D := r.bind fun x s1 => negD s1 x
@[simp] theorem kNeg_ok  (x : D) (s1 : Store) : kNeg  (.ok x s1) = negD s1 x := (rfl)
@[simp] theorem kNeg_exc  (c0 : Nat) (f0 : List (Nat × D)) (s0 : Store) : kNeg  (.exc c0 f0 s0) = .exc c0 f0 s0 := (rfl)
noncomputable def kNot  (r : R D) : R D := r.bind fun x s1 => notD s1 x
@[simp] theorem kNot_ok  (x : D) (s1 : Store) : kNot  (.ok x s1) = notD s1 x := (rfl)
@[simp] theorem kNot_exc  (c0 : Nat) (f0 : List (Nat × D)) (s0 : Store) : kNot  (.exc c0 f0 s0) = .exc c0 f0 s0 := (rfl)
noncomputable def kAnd (cf : Cf) (b : T) (env : Env) (r : R D) : R D := r.bind fun x s1 => condR x (ev cf b env s1) (.ok (.bl false) s1)
@[simp] theorem kAnd_ok (cf : Cf) (b : T) (env : Env) (x : D) (s1 : Store) : kAnd cf b env (.ok x s1) = condR x (ev cf b env s1) (.ok (.bl false) s1) := (rfl)
@[simp] theorem kAnd_exc (cf : Cf) (b : T) (env : Env) (c0 : Nat) (f0 : List (Nat × D)) (s0 : Store) : kAnd cf b env (.exc c0 f0 s0) = .exc c0 f0 s0 := (rfl)
noncomputable def kOr (cf : Cf) (b : T) (env : Env) (r : R D) : R D := r.bind fun x s1 => condR x (.ok (.bl true) s1) (ev cf b env s1)
@[simp] theorem kOr_ok (cf : Cf) (b : T) (env : Env) (x : D) (s1 : Store) : kOr cf b env (.ok x s1) = condR x (.ok (.bl true) s1) (ev cf b env s1) := (rfl)
@[simp] theorem kOr_exc (cf : Cf) (b : T) (env : Env) (c0 : Nat) (f0 : List (Nat × D)) (s0 : Store) : kOr cf b env (.exc c0 f0 s0) = .exc c0 f0 s0 := (rfl)
noncomputable def kCmp2 (o : CmpOp) (x : D) (st : Store) (r : R D) : R D := r.bind fun y s2 => R.of ((cmpD o x y s2).map .bl) (cut st [] s2)
@[simp] theorem kCmp2_ok (o : CmpOp) (x : D) (st : Store) (y : D) (s2 : Store) : kCmp2 o x st (.ok y s2) = R.of ((cmpD o x y s2).map .bl) (cut st [] s2) := (rfl)
@[simp] theorem kCmp2_exc (o : CmpOp) (x : D) (st : Store) (c0 : Nat) (f0 : List (Nat × D)) (s0 : Store) : kCmp2 o x st (.exc c0 f0 s0) = .exc c0 f0 s0 := (rfl)
noncomputable def kCmp1 (cf : Cf) (o : CmpOp) (b : T) (env : Env) (st : Store) (r : R D) : R D := r.bind fun x s1 => kCmp2 o x st (ev cf b env s1)
@[simp] theorem kCmp1_ok (cf : Cf) (o : CmpOp) (b : T) (env : Env) (st : Store) (x : D) (s1 : Store) : kCmp1 cf o b env st (.ok x s1) = kCmp2 o x st (ev cf b env s1) := (rfl)
@[simp] theorem kCmp1_exc (cf : Cf) (o : CmpOp) (b : T) (env : Env) (st : Store) (c0 : Nat) (f0 : List (Nat × D)) (s0 : Store) : kCmp1 cf o b env st (.exc c0 f0 s0) = .exc c0 f0 s0 := (rfl)
noncomputable def chnM (cf : Cf) (p : CmpOp) (c : T) (env : Env) (st : Store) (y : D) (st2 : Store) : Option Bool → R D
  | some true => kCmp2 p y st (ev cf c env st2)
  | some false => .ok (.bl false) (cut st [] st2)
  | none => .stuck
@[simp] theorem chnM_some (cf : Cf) (p : CmpOp) (c : T) (env : Env) (st : Store) (y : D) (st2 : Store) (b : Bool) : chnM cf p c env st y st2 (some b) = if b = true then kCmp2 p y st (ev cf c env st2) else .ok (.bl false) (cut st [] st2) := by cases b <;> rfl
noncomputable def kChn2 (cf : Cf) (o : CmpOp) (p : CmpOp) (c : T) (env : Env) (x : D) (st : Store) (r : R D) : R D := r.bind fun y s2 => chnM cf p c env st y s2 (cmpD o x y s2)
@[simp] theorem kChn2_ok (cf : Cf) (o : CmpOp) (p : CmpOp) (c : T) (env : Env) (x : D) (st : Store) (y : D) (s2 : Store) : kChn2 cf o p c env x st (.ok y s2) = chnM cf p c env st y s2 (cmpD o x y s2) := (rfl)
@[simp] theorem kChn2_exc (cf : Cf) (o : CmpOp) (p : CmpOp) (c : T) (env : Env) (x : D) (st : Store) (c0 : Nat) (f0 : List (Nat × D)) (s0 : Store) : kChn2 cf o p c env x st (.exc c0 f0 s0) = .exc c0 f0 s0 := (rfl)
noncomputable def kChn1 (cf : Cf) (o : CmpOp) (p : CmpOp) (b : T) (c : T) (env : Env) (st : Store) (r : R D) : R D := r.bind fun x s1 => kChn2 cf o p c env x st (ev cf b env s1)
@[simp] theorem kChn1_ok (cf : Cf) (o : CmpOp) (p : CmpOp) (b : T) (c : T) (env : Env) (st : Store) (x : D) (s1 : Store) : kChn1 cf o p b c env st (.ok x s1) = kChn2 cf o p c env x st (ev cf b env s1) := (rfl)
@[simp] theorem kChn1_exc (cf : Cf) (o : CmpOp) (p : CmpOp) (b : T) (c : T) (env : Env) (st : Store) (c0 : Nat) (f0 : List (Nat × D)) (s0 : Store) : kChn1 cf o p b c env st (.exc c0 f0 s0) = .exc c0 f0 s0 := (rfl)
noncomputable def kCall (cf : Cf) (f : Nat) (r : R (List D)) : R D := r.bind fun ds s1 => cf.fn f ds s1
@[simp] theorem kCall_ok (cf : Cf) (f : Nat) (ds : (List D)) (s1 : Store) : kCall cf f (.ok ds s1) = cf.fn f ds s1 := (rfl)
@[simp] theorem kCall_exc (cf : Cf) (f : Nat) (c0 : Nat) (f0 : List (Nat × D)) (s0 : Store) : kCall cf f (.exc c0 f0 s0) = .exc c0 f0 s0 := (rfl)
noncomputable def kBlt (b : Blt) (st : Store) (r : R (List D)) : R D := r.bind fun ds s1 => bltD st b ds s1
@[simp] theorem kBlt_ok (b : Blt) (st : Store) (ds : (List D)) (s1 : Store) : kBlt b st (.ok ds s1) = bltD st b ds s1 := (rfl)
@[simp] theorem kBlt_exc (b : Blt) (st : Store) (c0 : Nat) (f0 : List (Nat × D)) (s0 : Store) : kBlt b st (.exc c0 f0 s0) = .exc c0 f0 s0 := (rfl)
noncomputable def kIsi (cf : Cf) (t : Ty) (r : R D) : R D := r.bind fun x s1 => R.of ((isTy cf s1 t x).map .bl) s1
@[simp] theorem kIsi_ok (cf : Cf) (t : Ty) (x : D) (s1 : Store) : kIsi cf t (.ok x s1) = R.of ((isTy cf s1 t x).map .bl) s1 := (rfl)
@[simp] theorem kIsi_exc (cf : Cf) (t : Ty) (c0 : Nat) (f0 : List (Nat × D)) (s0 : Store) : kIsi cf t (.exc c0 f0 s0) = .exc c0 f0 s0 := (rfl)
noncomputable def kMth2 (m : Mth) (x : D) (st : Store) (r : R (List D)) : R D := r.bind fun ds s2 => mthD st m x ds s2
@[simp] theorem kMth2_ok (m : Mth) (x : D) (st : Store) (ds : (List D)) (s2 : Store) : kMth2 m x st (.ok ds s2) = mthD st m x ds s2 := (rfl)
@[simp] theorem kMth2_exc (m : Mth) (x : D) (st : Store) (c0 : Nat) (f0 : List (Nat × D)) (s0 : Store) : kMth2 m x st (.exc c0 f0 s0) = .exc c0 f0 s0 := (rfl)
noncomputable def kMth1 (cf : Cf) (m : Mth) (as : T) (env : Env) (st : Store) (r : R D) : R D := r.bind fun x s1 => if mthK s1 x m = true then kMth2 m x st (evs cf as env s1) else .stuck
@[simp] theorem kMth1_ok (cf : Cf) (m : Mth) (as : T) (env : Env) (st : Store) (x : D) (s1 : Store) : kMth1 cf m as env st (.ok x s1) = if mthK s1 x m = true then kMth2 m x st (evs cf as env s1) else .stuck := (rfl)
@[simp] theorem kMth1_exc (cf : Cf) (m : Mth) (as : T) (env : Env) (st : Store) (c0 : Nat) (f0 : List (Nat × D)) (s0 : Store) : kMth1 cf m as env st (.exc c0 f0 s0) = .exc c0 f0 s0 := (rfl)
noncomputable def kAtt (f : Nat) (r : R D) : R D := r.bind fun x s1 => R.of (attD s1 f x) s1
@[simp] theorem kAtt_ok (f : Nat) (x : D) (s1 : Store) : kAtt f (.ok x s1) = R.of (attD s1 f x) s1 := (rfl)
@[simp] theorem kAtt_exc (f : Nat) (c0 : Nat) (f0 : List (Nat × D)) (s0 : Store) : kAtt f (.exc c0 f0 s0) = .exc c0 f0 s0 := (rfl)
noncomputable def kIdx2 (x : D) (st : Store) (r : R D) : R D := r.bind fun y s2 => gc st (R.of (idxD s2 x y) s2)
@[simp] theorem kIdx2_ok (x : D) (st : Store) (y : D) (s2 : Store) : kIdx2 x st (.ok y s2) = gc st (R.of (idxD s2 x y) s2) := (rfl)
@[simp] theorem kIdx2_exc (x : D) (st : Store) (c0 : Nat) (f0 : List (Nat × D)) (s0 : Store) : kIdx2 x st (.exc c0 f0 s0) = .exc c0 f0 s0 := (rfl)
noncomputable def kIdx1 (cf : Cf) (b : T) (env : Env) (st : Store) (r : R D) : R D := r.bind fun x s1 => kIdx2 x st (ev cf b env s1)
@[simp] theorem kIdx1_ok (cf : Cf) (b : T) (env : Env) (st : Store) (x : D) (s1 : Store) : kIdx1 cf b env st (.ok x s1) = kIdx2 x st (ev cf b env s1) := (rfl)
@[simp] theorem kIdx1_exc (cf : Cf) (b : T) (env : Env) (st : Store) (c0 : Nat) (f0 : List (Nat × D)) (s0 : Store) : kIdx1 cf b env st (.exc c0 f0 s0) = .exc c0 f0 s0 := (rfl)
noncomputable def kSlc3 (x : D) (l : Option Int) (st : Store) (r : R (Option Int)) : R D := r.bind fun h s3 => slcD st x l h s3
@[simp] theorem kSlc3_ok (x : D) (l : Option Int) (st : Store) (h : (Option Int)) (s3 : Store) : kSlc3 x l st (.ok h s3) = slcD st x l h s3 := (rfl)
@[simp] theorem kSlc3_exc (x : D) (l : Option Int) (st : Store) (c0 : Nat) (f0 : List (Nat × D)) (s0 : Store) : kSlc3 x l st (.exc c0 f0 s0) = .exc c0 f0 s0 := (rfl)
noncomputable def kSlc2 (cf : Cf) (hi : T) (env : Env) (x : D) (st : Store) (r : R (Option Int)) : R D := r.bind fun l s2 => kSlc3 x l st (evp cf hi env s2)
@[simp] theorem kSlc2_ok (cf : Cf) (hi : T) (env : Env) (x : D) (st : Store) (l : (Option Int)) (s2 : Store) : kSlc2 cf hi env x st (.ok l s2) = kSlc3 x l st (evp cf hi env s2) := (rfl)
@[simp] theorem kSlc2_exc (cf : Cf) (hi : T) (env : Env) (x : D) (st : Store) (c0 : Nat) (f0 : List (Nat × D)) (s0 : Store) : kSlc2 cf hi env x st (.exc c0 f0 s0) = .exc c0 f0 s0 := (rfl)
noncomputable def kSlc1 (cf : Cf) (lo : T) (hi : T) (env : Env) (st : Store) (r : R D) : R D := r.bind fun x s1 => kSlc2 cf hi env x st (evp cf lo env s1)
@[simp] theorem kSlc1_ok (cf : Cf) (lo : T) (hi : T) (env : Env) (st : Store) (x : D) (s1 : Store) : kSlc1 cf lo hi env st (.ok x s1) = kSlc2 cf hi env x st (evp cf lo env s1) := (rfl)
@[simp] theorem kSlc1_exc (cf : Cf) (lo : T) (hi : T) (env : Env) (st : Store) (c0 : Nat) (f0 : List (Nat × D)) (s0 : Store) : kSlc1 cf lo hi env st (.exc c0 f0 s0) = .exc c0 f0 s0 := (rfl)
noncomputable def kTup  (r : R (List D)) : R D := r.bind fun ds s1 => if ds.length ≤ sizeLine then .ok (.tup ds) s1 else .stuck
@[simp] theorem kTup_ok  (ds : (List D)) (s1 : Store) : kTup  (.ok ds s1) = if ds.length ≤ sizeLine then .ok (.tup ds) s1 else .stuck := (rfl)
@[simp] theorem kTup_exc  (c0 : Nat) (f0 : List (Nat × D)) (s0 : Store) : kTup  (.exc c0 f0 s0) = .exc c0 f0 s0 := (rfl)
noncomputable def kLst (st : Store) (r : R (List D)) : R D := r.bind fun ds s1 => newL st ds s1
@[simp] theorem kLst_ok (st : Store) (ds : (List D)) (s1 : Store) : kLst st (.ok ds s1) = newL st ds s1 := (rfl)
@[simp] theorem kLst_exc (st : Store) (c0 : Nat) (f0 : List (Nat × D)) (s0 : Store) : kLst st (.exc c0 f0 s0) = .exc c0 f0 s0 := (rfl)
noncomputable def kIte (cf : Cf) (a : T) (b : T) (env : Env) (r : R D) : R D := r.bind fun x s1 => condR x (ev cf a env s1) (ev cf b env s1)
@[simp] theorem kIte_ok (cf : Cf) (a : T) (b : T) (env : Env) (x : D) (s1 : Store) : kIte cf a b env (.ok x s1) = condR x (ev cf a env s1) (ev cf b env s1) := (rfl)
@[simp] theorem kIte_exc (cf : Cf) (a : T) (b : T) (env : Env) (c0 : Nat) (f0 : List (Nat × D)) (s0 : Store) : kIte cf a b env (.exc c0 f0 s0) = .exc c0 f0 s0 := (rfl)
/-- a turn of a comprehension -/
noncomputable def kLcE  (r : R D) : R (Option D) := r.bind fun d s4 => .ok (some d) s4
@[simp] theorem kLcE_ok  (d : D) (s4 : Store) : kLcE  (.ok d s4) = .ok (some d) s4 := (rfl)
@[simp] theorem kLcE_exc  (c0 : Nat) (f0 : List (Nat × D)) (s0 : Store) : kLcE  (.exc c0 f0 s0) = .exc c0 f0 s0 := (rfl)
noncomputable def kLcT (cf : Cf) (elt : T) (env : Env) (r : R Bool) : R (Option D) := r.bind fun k s3 => if k = true then kLcE (ev cf elt env s3) else .ok none s3
@[simp] theorem kLcT_ok (cf : Cf) (elt : T) (env : Env) (k : Bool) (s3 : Store) : kLcT cf elt env (.ok k s3) = if k = true then kLcE (ev cf elt env s3) else .ok none s3 := (rfl)
@[simp] theorem kLcT_exc (cf : Cf) (elt : T) (env : Env) (c0 : Nat) (f0 : List (Nat × D)) (s0 : Store) : kLcT cf elt env (.exc c0 f0 s0) = .exc c0 f0 s0 := (rfl)
noncomputable def lcFn2 (cf : Cf) (c elt : T) (s2 : Store) : Option Env → R (Option D)
  | some env2 => (kLcT cf elt env2 (evc cf c env2 s2)).nox
  | none => .stuck
@[simp] theorem lcFn2_some (cf : Cf) (c elt : T) (s2 : Store) (env2 : Env) : lcFn2 cf c elt s2 (some env2) = (kLcT cf elt env2 (evc cf c env2 s2)).nox := (rfl)
noncomputable def lcFn (cf : Cf) (own : List Nat) (tg c elt : T) (env : Env) (x : D) (s2 : Store) : R (Option D) := lcFn2 cf c elt s2 (bindV tg x (wipe env own))
@[simp] theorem lcFn_def (cf : Cf) (own : List Nat) (tg c elt : T) (env : Env) (x : D) (s2 : Store) : lcFn cf own tg c elt env x s2 = lcFn2 cf c elt s2 (bindV tg x (wipe env own)) := (rfl)
noncomputable def kLc2 (st : Store) (r : R (List D)) : R D := r.bind fun xs s2 => newL st xs s2
@[simp] theorem kLc2_ok (st : Store) (xs : (List D)) (s2 : Store) : kLc2 st (.ok xs s2) = newL st xs s2 := (rfl)
@[simp] theorem kLc2_exc (st : Store) (c0 : Nat) (f0 : List (Nat × D)) (s0 : Store) : kLc2 st (.exc c0 f0 s0) = .exc c0 f0 s0 := (rfl)
noncomputable def kLc1 (cf : Cf) (own : List Nat) (tg : T) (c : T) (elt : T) (env : Env) (st : Store) (r : R (List D × Option (Nat × List D))) : R D := r.bind fun w s1 => kLc2 st (lcL w.2 (lcFn cf own tg c elt env) w.1 [] s1)
@[simp] theorem kLc1_ok (cf : Cf) (own : List Nat) (tg : T) (c : T) (elt : T) (env : Env) (st : Store) (w : (List D × Option (Nat × List D))) (s1 : Store) : kLc1 cf own tg c elt env st (.ok w s1) = kLc2 st (lcL w.2 (lcFn cf own tg c elt env) w.1 [] s1) := (rfl)
@[simp] theorem kLc1_exc (cf : Cf) (own : List Nat) (tg : T) (c : T) (elt : T) (env : Env) (st : Store) (c0 : Nat) (f0 : List (Nat × D)) (s0 : Store) : kLc1 cf own tg c elt env st (.exc c0 f0 s0) = .exc c0 f0 s0 := (rfl)
noncomputable def kEvs2 (x : D) (r : R (List D)) : R (List D) := r.bind fun xs s2 => .ok (x :: xs) s2
@[simp] theorem kEvs2_ok (x : D) (xs : (List D)) (s2 : Store) : kEvs2 x (.ok xs s2) = .ok (x :: xs) s2 := (rfl)
@[simp] theorem kEvs2_exc (x : D) (c0 : Nat) (f0 : List (Nat × D)) (s0 : Store) : kEvs2 x (.exc c0 f0 s0) = .exc c0 f0 s0 := (rfl)
noncomputable def kEvs1 (cf : Cf) (r0 : T) (env : Env) (r : R D) : R (List D) := r.bind fun x s1 => kEvs2 x (evs cf r0 env s1)
@[simp] theorem kEvs1_ok (cf : Cf) (r0 : T) (env : Env) (x : D) (s1 : Store) : kEvs1 cf r0 env (.ok x s1) = kEvs2 x (evs cf r0 env s1) := (rfl)
@[simp] theorem kEvs1_exc (cf : Cf) (r0 : T) (env : Env) (c0 : Nat) (f0 : List (Nat × D)) (s0 : Store) : kEvs1 cf r0 env (.exc c0 f0 s0) = .exc c0 f0 s0 := (rfl)
def intP (s1 : Store) : D → R (Option Int)
  | .int i => .ok (some i) s1
  | _ => .stuck
@[simp] theorem intP_int (s1 : Store) (i : Int) : intP s1 (.int i) = .ok (some i) s1 := (rfl)
def blP (s1 : Store) : D → R Bool
  | .bl k => .ok k s1
  | _ => .stuck
@[simp] theorem blP_bl (s1 : Store) (k : Bool) : blP s1 (.bl k) = .ok k s1 := (rfl)
noncomputable def kEvp  (r : R D) : R (Option Int) := r.bind fun x s1 => intP s1 x
@[simp] theorem kEvp_ok  (x : D) (s1 : Store) : kEvp  (.ok x s1) = intP s1 x := (rfl)
@[simp] theorem kEvp_exc  (c0 : Nat) (f0 : List (Nat × D)) (s0 : Store) : kEvp  (.exc c0 f0 s0) = .exc c0 f0 s0 := (rfl)
noncomputable def kEvc  (r : R D) : R Bool := r.bind fun x s1 => blP s1 x
@[simp] theorem kEvc_ok  (x : D) (s1 : Store) : kEvc  (.ok x s1) = blP s1 x := (rfl)
@[simp] theorem kEvc_exc  (c0 : Nat) (f0 : List (Nat × D)) (s0 : Store) : kEvc  (.exc c0 f0 s0) = .exc c0 f0 s0 := (rfl)
def rngP (lo hi : Option Int) (s1 : Store) : R (List D × Option (Nat × List D)) := match lo, hi with
  | some i, some j => .ok (rangeD i (j - i).toNat, none) s1
  | _, _ => .stuck
@[simp] theorem rngP_some (i j : Int) (s1 : Store) : rngP (some i) (some j) s1 = .ok (rangeD i (j - i).toNat, none) s1 := (rfl)
noncomputable def kRng1  (r : R D) : R (List D × Option (Nat × List D)) := r.bind fun d s1 => R.of ((argI d).map fun j => (rangeD 0 j.toNat, none)) s1
@[simp] theorem kRng1_ok  (d : D) (s1 : Store) : kRng1  (.ok d s1) = R.of ((argI d).map fun j => (rangeD 0 j.toNat, none)) s1 := (rfl)
@[simp] theorem kRng1_exc  (c0 : Nat) (f0 : List (Nat × D)) (s0 : Store) : kRng1  (.exc c0 f0 s0) = .exc c0 f0 s0 := (rfl)
noncomputable def kRng2b (d : D) (r : R D) : R (List D × Option (Nat × List D)) := r.bind fun e s2 => rngP (argI d) (argI e) s2
@[simp] theorem kRng2b_ok (d : D) (e : D) (s2 : Store) : kRng2b d (.ok e s2) = rngP (argI d) (argI e) s2 := (rfl)
@[simp] theorem kRng2b_exc (d : D) (c0 : Nat) (f0 : List (Nat × D)) (s0 : Store) : kRng2b d (.exc c0 f0 s0) = .exc c0 f0 s0 := (rfl)
noncomputable def kRng2a (cf : Cf) (b : T) (env : Env) (r : R D) : R (List D × Option (Nat × List D)) := r.bind fun d s1 => kRng2b d (ev cf b env s1)
@[simp] theorem kRng2a_ok (cf : Cf) (b : T) (env : Env) (d : D) (s1 : Store) : kRng2a cf b env (.ok d s1) = kRng2b d (ev cf b env s1) := (rfl)
@[simp] theorem kRng2a_exc (cf : Cf) (b : T) (env : Env) (c0 : Nat) (f0 : List (Nat × D)) (s0 : Store) : kRng2a cf b env (.exc c0 f0 s0) = .exc c0 f0 s0 := (rfl)
noncomputable def kWalk (st : Store) (r : R D) : R (List D × Option (Nat × List D)) := r.bind fun x s1 => walkI st x s1
@[simp] theorem kWalk_ok (st : Store) (x : D) (s1 : Store) : kWalk st (.ok x s1) = walkI st x s1 := (rfl)
@[simp] theorem kWalk_exc (st : Store) (c0 : Nat) (f0 : List (Nat × D)) (s0 : Store) : kWalk st (.exc c0 f0 s0) = .exc c0 f0 s0 := (rfl)
/-- a row backwards -/
noncomputable def revI (st : Store) (x : D) (st1 : Store) : R (List D × Option (Nat × List D)) := match x with
    | .tup xs => .ok (xs.reverse, none) st1
    | .loc n => match getL st1 n with
      | some xs => if n < (cut st xs st1).length then .ok (xs.reverse, some (n, xs)) (cut st xs st1) else .ok (xs.reverse, none) (cut st xs st1)
      | none => .stuck
    | _ => .stuck
@[simp] theorem revI_tup (st : Store) (xs : List D) (st1 : Store) : revI st (.tup xs) st1 = .ok (xs.reverse, none) st1 := (rfl)
noncomputable def kRev (st : Store) (r : R D) : R (List D × Option (Nat × List D)) := r.bind fun x s1 => revI st x s1
@[simp] theorem kRev_ok (st : Store) (x : D) (s1 : Store) : kRev st (.ok x s1) = revI st x s1 := (rfl)
@[simp] theorem kRev_exc (st : Store) (c0 : Nat) (f0 : List (Nat × D)) (s0 : Store) : kRev st (.exc c0 f0 s0) = .exc c0 f0 s0 := (rfl)
noncomputable def kAsg (cf : Cf) (t : T) (env : Env) (r : R D) : RS := r.go env fun d s1 => asgT cf t d env s1
@[simp] theorem kAsg_ok (cf : Cf) (t : T) (env : Env) (d : D) (s1 : Store) : kAsg cf t env (.ok d s1) = asgT cf t d env s1 := (rfl)
@[simp] theorem kAsg_exc (cf : Cf) (t : T) (env : Env) (c0 : Nat) (f0 : List (Nat × D)) (s0 : Store) : kAsg cf t env (.exc c0 f0 s0) = .exc c0 f0 env s0 := (rfl)
noncomputable def kExp (env : Env) (r : R D) : RS := r.go env fun d s1 => .ok (.nx env) s1
@[simp] theorem kExp_ok (env : Env) (d : D) (s1 : Store) : kExp  env (.ok d s1) = .ok (.nx env) s1 := (rfl)
@[simp] theorem kExp_exc (env : Env) (c0 : Nat) (f0 : List (Nat × D)) (s0 : Store) : kExp  env (.exc c0 f0 s0) = .exc c0 f0 env s0 := (rfl)
noncomputable def kRet (env : Env) (r : R D) : RS := r.go env fun d s1 => .ok (.rt d) s1
@[simp] theorem kRet_ok (env : Env) (d : D) (s1 : Store) : kRet  env (.ok d s1) = .ok (.rt d) s1 := (rfl)
@[simp] theorem kRet_exc (env : Env) (c0 : Nat) (f0 : List (Nat × D)) (s0 : Store) : kRet  env (.exc c0 f0 s0) = .exc c0 f0 env s0 := (rfl)
noncomputable def kIff (cf : Cf) (xf : Nat → Option (List Nat)) (a : T) (b : T) (env : Env) (r : R D) : RS := r.go env fun x s1 => condS x (ex cf xf a env s1) (ex cf xf b env s1)
@[simp] theorem kIff_ok (cf : Cf) (xf : Nat → Option (List Nat)) (a : T) (b : T) (env : Env) (x : D) (s1 : Store) : kIff cf xf a b env (.ok x s1) = condS x (ex cf xf a env s1) (ex cf xf b env s1) := (rfl)
@[simp] theorem kIff_exc (cf : Cf) (xf : Nat → Option (List Nat)) (a : T) (b : T) (env : Env) (c0 : Nat) (f0 : List (Nat × D)) (s0 : Store) : kIff cf xf a b env (.exc c0 f0 s0) = .exc c0 f0 env s0 := (rfl)
noncomputable def kFor (cf : Cf) (xf : Nat → Option (List Nat)) (tg : T) (b : T) (env : Env) (r : R (List D × Option (Nat × List D))) : RS := r.go env fun w s1 => forL w.2 (bindV tg) (ex cf xf b) w.1 env s1
@[simp] theorem kFor_ok (cf : Cf) (xf : Nat → Option (List Nat)) (tg : T) (b : T) (env : Env) (w : (List D × Option (Nat × List D))) (s1 : Store) : kFor cf xf tg b env (.ok w s1) = forL w.2 (bindV tg) (ex cf xf b) w.1 env s1 := (rfl)
@[simp] theorem kFor_exc (cf : Cf) (xf : Nat → Option (List Nat)) (tg : T) (b : T) (env : Env) (c0 : Nat) (f0 : List (Nat × D)) (s0 : Store) : kFor cf xf tg b env (.exc c0 f0 s0) = .exc c0 f0 env s0 := (rfl)
noncomputable def kRse (xf : Nat → Option (List Nat)) (c : Nat) (env : Env) (r : R (List D)) : RS := r.go env fun ds s1 => raise c ((xf c).bind fun l => zipF l ds) env s1
@[simp] theorem kRse_ok (xf : Nat → Option (List Nat)) (c : Nat) (env : Env) (ds : (List D)) (s1 : Store) : kRse xf c env (.ok ds s1) = raise c ((xf c).bind fun l => zipF l ds) env s1 := (rfl)
@[simp] theorem kRse_exc (xf : Nat → Option (List Nat)) (c : Nat) (env : Env) (c0 : Nat) (f0 : List (Nat × D)) (s0 : Store) : kRse xf c env (.exc c0 f0 s0) = .exc c0 f0 env s0 := (rfl)
noncomputable def kSet2 (x : D) (d : D) (env : Env) (r : R D) : RS := r.go env fun y s2 => RS.ofS (setI x y d s2) env
@[simp] theorem kSet2_ok (x : D) (d : D) (env : Env) (y : D) (s2 : Store) : kSet2 x d env (.ok y s2) = RS.ofS (setI x y d s2) env := (rfl)
@[simp] theorem kSet2_exc (x : D) (d : D) (env : Env) (c0 : Nat) (f0 : List (Nat × D)) (s0 : Store) : kSet2 x d env (.exc c0 f0 s0) = .exc c0 f0 env s0 := (rfl)
noncomputable def kSet1 (cf : Cf) (b : T) (d : D) (env : Env) (r : R D) : RS := r.go env fun x s1 => kSet2 x d env (ev cf b env s1)
@[simp] theorem kSet1_ok (cf : Cf) (b : T) (d : D) (env : Env) (x : D) (s1 : Store) : kSet1 cf b d env (.ok x s1) = kSet2 x d env (ev cf b env s1) := (rfl)
@[simp] theorem kSet1_exc (cf : Cf) (b : T) (d : D) (env : Env) (c0 : Nat) (f0 : List (Nat × D)) (s0 : Store) : kSet1 cf b d env (.exc c0 f0 s0) = .exc c0 f0 env s0 := (rfl)
noncomputable def kSetA (f : Nat) (d : D) (env : Env) (r : R D) : RS := r.go env fun x s1 => RS.ofS (setA x f d s1) env
@[simp] theorem kSetA_ok (f : Nat) (d : D) (env : Env) (x : D) (s1 : Store) : kSetA f d env (.ok x s1) = RS.ofS (setA x f d s1) env := (rfl)
@[simp] theorem kSetA_exc (f : Nat) (d : D) (env : Env) (c0 : Nat) (f0 : List (Nat × D)) (s0 : Store) : kSetA f d env (.exc c0 f0 s0) = .exc c0 f0 env s0 := (rfl)
/-- x op= y -/
def augS (i : Nat) (env : Env) (s1 : Store) : Option D → RS
  | some d => if i < env.length then .ok (.nx (env.set i (some d))) s1 else .stuck
  | none => .stuck
@[simp] theorem augS_some (i : Nat) (env : Env) (s1 : Store) (d : D) : augS i env s1 (some d) = if i < env.length then .ok (.nx (env.set i (some d))) s1 else .stuck := (rfl)
noncomputable def kAug (o : Op) (i : Nat) (x : D) (env : Env) (r : R D) : RS := r.go env fun y s1 => augS i env s1 (augD o x y)
@[simp] theorem kAug_ok (o : Op) (i : Nat) (x : D) (env : Env) (y : D) (s1 : Store) : kAug o i x env (.ok y s1) = augS i env s1 (augD o x y) := (rfl)
@[simp] theorem kAug_exc (o : Op) (i : Nat) (x : D) (env : Env) (c0 : Nat) (f0 : List (Nat × D)) (s0 : Store) : kAug o i x env (.exc c0 f0 s0) = .exc c0 f0 env s0 := (rfl)
noncomputable def augO (cf : Cf) (o : Op) (i : Nat) (e : T) (env : Env) (st : Store) : Option D → RS
  | some x => kAug o i x env (ev cf e env st)
  | none => .stuck
@[simp] theorem augO_some (cf : Cf) (o : Op) (i : Nat) (e : T) (env : Env) (st : Store) (x : D) : augO cf o i e env st (some x) = kAug o i x env (ev cf e env st) := (rfl)
def augI (x i : D) (env : Env) (s3 : Store) : Option D → RS
  | some d => RS.ofS (setI x i d s3) env
  | none => .stuck
@[simp] theorem augI_some (x i : D) (env : Env) (s3 : Store) (d : D) : augI x i env s3 (some d) = RS.ofS (setI x i d s3) env := (rfl)
noncomputable def kAugI3 (o : Op) (x : D) (i : D) (old : D) (env : Env) (r : R D) : RS := r.go env fun y s3 => augI x i env s3 (augD o old y)
@[simp] theorem kAugI3_ok (o : Op) (x : D) (i : D) (old : D) (env : Env) (y : D) (s3 : Store) : kAugI3 o x i old env (.ok y s3) = augI x i env s3 (augD o old y) := (rfl)
@[simp] theorem kAugI3_exc (o : Op) (x : D) (i : D) (old : D) (env : Env) (c0 : Nat) (f0 : List (Nat × D)) (s0 : Store) : kAugI3 o x i old env (.exc c0 f0 s0) = .exc c0 f0 env s0 := (rfl)
noncomputable def augIO (cf : Cf) (o : Op) (e : T) (x i : D) (env : Env) (s2 : Store) : Option D → RS
  | some old => kAugI3 o x i old env (ev cf e env s2)
  | none => .stuck
@[simp] theorem augIO_some (cf : Cf) (o : Op) (e : T) (x i : D) (env : Env) (s2 : Store) (old : D) : augIO cf o e x i env s2 (some old) = kAugI3 o x i old env (ev cf e env s2) := (rfl)
noncomputable def kAugI2 (cf : Cf) (o : Op) (e : T) (x : D) (env : Env) (r : R D) : RS := r.go env fun i s2 => augIO cf o e x i env s2 (idxL s2 x i)
@[simp] theorem kAugI2_ok (cf : Cf) (o : Op) (e : T) (x : D) (env : Env) (i : D) (s2 : Store) : kAugI2 cf o e x env (.ok i s2) = augIO cf o e x i env s2 (idxL s2 x i) := (rfl)
@[simp] theorem kAugI2_exc (cf : Cf) (o : Op) (e : T) (x : D) (env : Env) (c0 : Nat) (f0 : List (Nat × D)) (s0 : Store) : kAugI2 cf o e x env (.exc c0 f0 s0) = .exc c0 f0 env s0 := (rfl)
noncomputable def kAugI1 (cf : Cf) (o : Op) (b : T) (e : T) (env : Env) (r : R D) : RS := r.go env fun x s1 => kAugI2 cf o e x env (ev cf b env s1)
@[simp] theorem kAugI1_ok (cf : Cf) (o : Op) (b : T) (e : T) (env : Env) (x : D) (s1 : Store) : kAugI1 cf o b e env (.ok x s1) = kAugI2 cf o e x env (ev cf b env s1) := (rfl)
@[simp] theorem kAugI1_exc (cf : Cf) (o : Op) (b : T) (e : T) (env : Env) (c0 : Nat) (f0 : List (Nat × D)) (s0 : Store) : kAugI1 cf o b e env (.exc c0 f0 s0) = .exc c0 f0 env s0 := (rfl)
section
variable {cf : Cf} {xf : Nat → Option (List Nat)} {env : Env} {st : Store}
@[simp ↓] theorem ev_var (i : Nat) : ev cf (.var i) env st = R.of (env.get i) st := (rfl)
@[simp ↓] theorem ev_con (d : D) : ev cf (.con d) env st = .ok d st := (rfl)
@[simp ↓] theorem ev_bin (o : Op) (a b : T) : ev cf (.bin o a b) env st = kBin1 cf o b env st (ev cf a env st) := (rfl)
@[simp ↓] theorem ev_neg (a : T) : ev cf (.neg a) env st = kNeg (ev cf a env st) := (rfl)
@[simp ↓] theorem ev_not (a : T) : ev cf (.not a) env st = kNot (ev cf a env st) := (rfl)
@[simp ↓] theorem ev_and (a b : T) : ev cf (.and a b) env st = kAnd cf b env (ev cf a env st) := (rfl)
@[simp ↓] theorem ev_or (a b : T) : ev cf (.or a b) env st = kOr cf b env (ev cf a env st) := by
  have : ev cf (.or a b) env st = (ev cf a env st).bind fun x st1 => match x with
    | .bl false => ev cf b env st1
    | .bl true => .ok (.bl true) st1
    | _ => .stuck := rfl
  rw [this]
  unfold kOr
  congr 1
  funext x st1
  cases x with
  | bl c => cases c <;> rfl
  | _ => rfl
@[simp ↓] theorem ev_cmp (o : CmpOp) (a b : T) : ev cf (.cmp o a b) env st = kCmp1 cf o b env st (ev cf a env st) := (rfl)
@[simp ↓] theorem ev_chn (o p : CmpOp) (a b c : T) : ev cf (.chn o p a b c) env st = kChn1 cf o p b c env st (ev cf a env st) := by
  have : ev cf (.chn o p a b c) env st = (ev cf a env st).bind fun x st1 => (ev cf b env st1).bind fun y st2 => match cmpD o x y st2 with
    | some true => (ev cf c env st2).bind fun z st3 => R.of ((cmpD p y z st3).map .bl) (cut st [] st3)
    | some false => .ok (.bl false) (cut st [] st2)
    | none => .stuck := rfl
  rw [this]
  unfold kChn1
  cases ev cf a env st with
  | ok x st1 =>
    show (ev cf b env st1).bind _ = kChn2 cf o p c env x st (ev cf b env st1)
    cases ev cf b env st1 with
    | ok y st2 =>
      show (match cmpD o x y st2 with
        | some true => (ev cf c env st2).bind fun z st3 => R.of ((cmpD p y z st3).map .bl) (cut st [] st3)
        | some false => .ok (.bl false) (cut st [] st2)
        | none => .stuck) = chnM cf p c env st y st2 (cmpD o x y st2)
      cases cmpD o x y st2 with
      | none => rfl
      | some b => cases b <;> rfl
    | _ => rfl
  | _ => rfl
@[simp ↓] theorem ev_call (f : Nat) (as : T) : ev cf (.call f as) env st = kCall cf f (evs cf as env st) := (rfl)
@[simp ↓] theorem ev_blt (b : Blt) (as : T) : ev cf (.blt b as) env st = kBlt b st (evs cf as env st) := (rfl)
@[simp ↓] theorem ev_isi (a : T) (t : Ty) : ev cf (.isi a t) env st = kIsi cf t (ev cf a env st) := (rfl)
@[simp ↓] theorem ev_mth (m : Mth) (o as : T) : ev cf (.mth m o as) env st = kMth1 cf m as env st (ev cf o env st) := (rfl)
@[simp ↓] theorem ev_att (o : T) (f : Nat) : ev cf (.att o f) env st = kAtt f (ev cf o env st) := (rfl)
@[simp ↓] theorem ev_idx (a b : T) : ev cf (.idx a b) env st = kIdx1 cf b env st (ev cf a env st) := (rfl)
@[simp ↓] theorem ev_slc (a lo hi : T) : ev cf (.slc a lo hi) env st = kSlc1 cf lo hi env st (ev cf a env st) := (rfl)
@[simp ↓] theorem ev_tup (as : T) : ev cf (.tup as) env st = kTup (evs cf as env st) := (rfl)
@[simp ↓] theorem ev_lst (as : T) : ev cf (.lst as) env st = kLst st (evs cf as env st) := (rfl)
@[simp ↓] theorem ev_ite (c a b : T) : ev cf (.ite c a b) env st = kIte cf a b env (ev cf c env st) := (rfl)
@[simp ↓] theorem ev_lc (own : List Nat) (tg it c elt : T) : ev cf (.lc own tg it c elt) env st = kLc1 cf own tg c elt env st (evi cf it env st) := by
  have : ev cf (.lc own tg it c elt) env st = (evi cf it env st).bind fun w st1 =>
      (lcL w.2 (fun x st2 => match bindV tg x (wipe env own) with
        | some env2 => ((evc cf c env2 st2).bind fun k st3 => if k = true then (ev cf elt env2 st3).bind fun d st4 => .ok (some d) st4 else .ok none st3).nox
        | none => .stuck) w.1 [] st1).bind fun xs st2 => newL st xs st2 := rfl
  rw [this]
  have e : (fun x st2 => match bindV tg x (wipe env own) with
        | some env2 => ((evc cf c env2 st2).bind fun k st3 => if k = true then (ev cf elt env2 st3).bind fun d st4 => .ok (some d) st4 else .ok none st3).nox
        | none => .stuck) = lcFn cf own tg c elt env := by
    funext x st2
    unfold lcFn
    cases bindV tg x (wipe env own) <;> rfl
  rw [e]
  rfl
@[simp ↓] theorem evs_nil : evs cf .nil env st = .ok [] st := (rfl)
@[simp ↓] theorem evs_cons (a r : T) : evs cf (.cons a r) env st = kEvs1 cf r env (ev cf a env st) := (rfl)
@[simp ↓] theorem evp_nil : evp cf .nil env st = .ok none st := (rfl)
@[simp ↓] theorem evp_cons (a r : T) : evp cf (.cons a r) env st = kEvp (ev cf a env st) := (rfl)
@[simp ↓] theorem evc_nil : evc cf .nil env st = .ok true st := (rfl)
@[simp ↓] theorem evc_cons (a r : T) : evc cf (.cons a r) env st = kEvc (ev cf a env st) := (rfl)
@[simp ↓] theorem evi_rng1 (a : T) : evi cf (.rng (.cons a .nil)) env st = kRng1 (ev cf a env st) := by
  show ((ev cf a env st).bind fun x st1 => (R.ok [] st1).bind fun xs st2 => R.ok (x :: xs) st2).bind _ = _
  cases ev cf a env st <;> rfl
@[simp ↓] theorem evi_rng2 (a b : T) : evi cf (.rng (.cons a (.cons b .nil))) env st = kRng2a cf b env (ev cf a env st) := by
  show ((ev cf a env st).bind fun x st1 => (((ev cf b env st1).bind fun y st2 => (R.ok [] st2).bind fun xs st2 => R.ok (y :: xs) st2)).bind fun xs st2 => R.ok (x :: xs) st2).bind _ = _
  cases ev cf a env st with
  | ok d st1 =>
    show (((ev cf b env st1).bind fun y st2 => (R.ok [] st2).bind fun xs st2 => R.ok (y :: xs) st2).bind fun xs st2 => R.ok (d :: xs) st2).bind _ = kRng2b d (ev cf b env st1)
    cases ev cf b env st1 with
    | ok e st2 =>
      show R.of ((argI d).bind fun i => (argI e).map fun j => (rangeD i (j - i).toNat, none)) st2 = rngP (argI d) (argI e) st2
      cases argI d <;> cases argI e <;> rfl
    | _ => rfl
  | _ => rfl
@[simp ↓] theorem evi_cons (a r : T) : evi cf (.cons a r) env st = kWalk st (ev cf a env st) := (rfl)
@[simp ↓] theorem evi_rev (a : T) : evi cf (.rev a) env st = kRev st (ev cf a env st) := (rfl)
@[simp] theorem walkI_tup (xs : List D) (st1 : Store) : walkI st (.tup xs) st1 = .ok (xs, none) st1 := (rfl)
@[simp] theorem walkI_str (s : S) (st1 : Store) : walkI st (.str s) st1 = .ok (s.map fun c => .str [c], none) st1 := (rfl)
/-- a list that stands -/
theorem walkI_old {n : Nat} {xs : List D} (h : getL st n = some xs) : walkI st (.loc n) st = .ok (xs, some (n, xs)) st := by
  have hn : n < st.length := by
    unfold getL at h
    split at h
    · rename_i q
      exact (List.getElem?_eq_some_iff.mp q).1
    · cases h
  unfold walkI
  simp only [h, cut_self, if_pos hn]
/-- a new list: what is walked is let go -/
theorem walkI_new {xs : List D} (h : D.belL st.length xs = true) : walkI st (.loc st.length) (push st (.lst xs)) = .ok (xs, none) st := by
  unfold walkI
  simp only [getL_top0, cut_p1 h, Nat.lt_irrefl, if_false]
/-! ### statements -/
/-- the statements behind a statement -/
noncomputable def seqT (cf : Cf) (xf : Nat → Option (List Nat)) (r : T) (x : RS) : RS := x.seq fun env1 st1 => ex cf xf r env1 st1
@[simp ↓] theorem seqT_nx (r : T) : seqT cf xf r (.ok (.nx env) st) = ex cf xf r env st := (rfl)
@[simp ↓] theorem seqT_rt (r : T) (d : D) : seqT cf xf r (.ok (.rt d) st) = .ok (.rt d) st := (rfl)
@[simp ↓] theorem seqT_bk (r : T) : seqT cf xf r (.ok (.bk env) st) = .ok (.bk env) st := (rfl)
@[simp ↓] theorem seqT_exc (r : T) (c : Nat) (fs : List (Nat × D)) : seqT cf xf r (.exc c fs env st) = .exc c fs env st := (rfl)
@[simp ↓] theorem seqT_none (x : RS) : seqT cf xf .nil x = x := by
  cases x with
  | ok o s => cases o <;> rfl
  | _ => rfl
@[simp ↓] theorem ex_nil : ex cf xf .nil env st = .ok (.nx env) st := (rfl)
@[simp ↓] theorem ex_cons (a r : T) : ex cf xf (.cons a r) env st = seqT cf xf r (ex cf xf a env st) := (rfl)
@[simp ↓] theorem ex_asg (t e : T) : ex cf xf (.asg t e) env st = kAsg cf t env (ev cf e env st) := (rfl)
@[simp ↓] theorem ex_exp (e : T) : ex cf xf (.exp e) env st = kExp env (ev cf e env st) := (rfl)
@[simp ↓] theorem ex_ret (e : T) : ex cf xf (.ret e) env st = kRet env (ev cf e env st) := (rfl)
@[simp ↓] theorem ex_retn : ex cf xf .retn env st = .ok (.rt .non) st := (rfl)
@[simp ↓] theorem ex_pas : ex cf xf .pas env st = .ok (.nx env) st := (rfl)
@[simp ↓] theorem ex_brk : ex cf xf .brk env st = .ok (.bk env) st := (rfl)
@[simp ↓] theorem ex_iff (c a b : T) : ex cf xf (.iff c a b) env st = kIff cf xf a b env (ev cf c env st) := (rfl)
@[simp ↓] theorem ex_for (tg it b : T) : ex cf xf (.for tg it b) env st = kFor cf xf tg b env (evi cf it env st) := (rfl)
@[simp ↓] theorem ex_whl (c b : T) : ex cf xf (.whl c b) env st = whlL (ev cf c) (ex cf xf b) fuel env st := (rfl)
@[simp ↓] theorem ex_aug_var (o : Op) (i : Nat) (e : T) : ex cf xf (.aug o (.var i) e) env st = augO cf o i e env st (env.get i) := by
  show (match env.get i with
    | some x => (ev cf e env st).go env fun y st1 => match augD o x y with
      | some d => if i < env.length then .ok (.nx (env.set i (some d))) st1 else .stuck
      | none => .stuck
    | none => .stuck) = _
  cases env.get i with
  | none => rfl
  | some x =>
    show ((ev cf e env st).go env fun y st1 => match augD o x y with
      | some d => if i < env.length then .ok (.nx (env.set i (some d))) st1 else .stuck
      | none => .stuck) = kAug o i x env (ev cf e env st)
    cases ev cf e env st with
    | ok y st1 =>
      show (match augD o x y with
        | some d => if i < env.length then .ok (.nx (env.set i (some d))) st1 else .stuck
        | none => .stuck) = augS i env st1 (augD o x y)
      cases augD o x y <;> rfl
    | _ => rfl
@[simp ↓] theorem ex_aug_idx (o : Op) (a b e : T) : ex cf xf (.aug o (.idx a b) e) env st = kAugI1 cf o b e env (ev cf a env st) := by
  show ((ev cf a env st).go env fun x st1 => (ev cf b env st1).go env fun i st2 => match idxL st2 x i with
    | some old => (ev cf e env st2).go env fun y st3 => match augD o old y with
      | some d => RS.ofS (setI x i d st3) env
      | none => .stuck
    | none => .stuck) = _
  cases ev cf a env st with
  | ok x st1 =>
    show ((ev cf b env st1).go env _) = kAugI2 cf o e x env (ev cf b env st1)
    cases ev cf b env st1 with
    | ok i st2 =>
      show (match idxL st2 x i with
        | some old => (ev cf e env st2).go env fun y st3 => match augD o old y with
          | some d => RS.ofS (setI x i d st3) env
          | none => .stuck
        | none => .stuck) = augIO cf o e x i env st2 (idxL st2 x i)
      cases idxL st2 x i with
      | none => rfl
      | some old =>
        show ((ev cf e env st2).go env _) = kAugI3 o x i old env (ev cf e env st2)
        cases ev cf e env st2 with
        | ok y st3 =>
          show (match augD o old y with
            | some d => RS.ofS (setI x i d st3) env
            | none => .stuck) = augI x i env st3 (augD o old y)
          cases augD o old y <;> rfl
        | _ => rfl
    | _ => rfl
  | _ => rfl
@[simp ↓] theorem ex_rse (c : Nat) (as : T) : ex cf xf (.rse c as) env st = kRse xf c env (evs cf as env st) := by
  show ((evs cf as env st).go env fun ds st1 => match (xf c).bind fun l => zipF l ds with
    | some fs => .exc c fs env st1
    | none => .stuck) = _
  unfold kRse
  congr 1
@[simp] theorem augD_int (i j : Int) : augD .add (.int i) (.int j) = some (.int (i + j)) := (rfl)
@[simp] theorem augD_sub (i j : Int) : augD .sub (.int i) (.int j) = some (.int (i - j)) := (rfl)
@[simp] theorem augD_str (a b : S) : augD .add (.str a) (.str b) = if a.length + b.length ≤ sizeLine then some (.str (a ++ b)) else none := (rfl)
@[simp] theorem zipF_nil : zipF [] [] = some [] := (rfl)
@[simp] theorem zipF_cons (f : Nat) (r : List Nat) (d : D) (ds : List D) : zipF (f :: r) (d :: ds) = (zipF r ds).map ((f, d) :: ·) := (rfl)
/-- behind a try's suite -/
noncomputable def tryK (cf : Cf) (xf : Nat → Option (List Nat)) (hs : T) (r : RS) : RS := match r with
    | .exc c fs env1 st1 => if (xf c).isSome = true then exh cf xf hs c fs env1 st1 else .stuck
    | o => o
@[simp ↓] theorem ex_try (b hs : T) : ex cf xf (.try b hs) env st = tryK cf xf hs (ex cf xf b env st) := by
  show (match ex cf xf b env st with
    | .exc c fs env1 st1 => if (xf c).isSome = true then exh cf xf hs c fs env1 st1 else .stuck
    | o => o) = _
  cases ex cf xf b env st <;> rfl
@[simp ↓] theorem tryK_ok (hs : T) (o : O) : tryK cf xf hs (.ok o st) = .ok o st := (rfl)
@[simp ↓] theorem tryK_exc (hs : T) (c : Nat) (fs : List (Nat × D)) : tryK cf xf hs (.exc c fs env st) = if (xf c).isSome = true then exh cf xf hs c fs env st else .stuck := (rfl)
/-- behind a clause's suite -/
def hdlK (i : Nat) (r : RS) : RS := match r with
          | .ok (.nx env2) st2 => .ok (.nx (env2.set i none)) st2
          | .ok (.bk env2) st2 => .ok (.bk (env2.set i none)) st2
          | .ok (.rt d) st2 => .ok (.rt d) st2
          | _ => .stuck
@[simp] theorem hdlK_nx (i : Nat) : hdlK i (.ok (.nx env) st) = .ok (.nx (env.set i none)) st := (rfl)
@[simp] theorem hdlK_bk (i : Nat) : hdlK i (.ok (.bk env) st) = .ok (.bk (env.set i none)) st := (rfl)
@[simp] theorem hdlK_rt (i : Nat) (d : D) : hdlK i (.ok (.rt d) st) = .ok (.rt d) st := (rfl)
@[simp ↓] theorem exh_cons (k : Nat) (i : Nat) (b r : T) (c : Nat) (fs : List (Nat × D)) : exh cf xf (.cons (.hdl k (some i) b) r) c fs env st = if cf.sub c k = true then
      (if i < env.length then hdlK i (ex cf xf b (env.set i (some (.loc st.length))) (push st (.exn c fs))) else .stuck)
    else exh cf xf r c fs env st := (rfl)
@[simp ↓] theorem exh_nil (c : Nat) (fs : List (Nat × D)) : exh cf xf .nil c fs env st = .exc c fs env st := (rfl)
@[simp ↓] theorem asgT_var (i : Nat) (d : D) : asgT cf (.var i) d env st = if i < env.length then .ok (.nx (env.set i (some d))) st else .stuck := (rfl)
@[simp ↓] theorem asgT_idx (a b : T) (d : D) : asgT cf (.idx a b) d env st = kSet1 cf b d env (ev cf a env st) := (rfl)
@[simp ↓] theorem asgT_att (o : T) (f : Nat) (d : D) : asgT cf (.att o f) d env st = kSetA f d env (ev cf o env st) := (rfl)
@[simp ↓] theorem asgT_tup (ts : T) (ds : List D) : asgT cf (.tup ts) (.tup ds) env st = if ds.length = lenT ts then asgs cf ts ds env st else .stuck := (rfl)
noncomputable def kRow (cf : Cf) (ts : T) (env : Env) (st : Store) : Option (List D) → RS
  | some ds => if ds.length = lenT ts then asgs cf ts ds env st else .stuck
  | none => .stuck
@[simp] theorem kRow_some (ts : T) (ds : List D) : kRow cf ts env st (some ds) = if ds.length = lenT ts then asgs cf ts ds env st else .stuck := (rfl)
@[simp ↓] theorem asgT_loc (ts : T) (n : Nat) : asgT cf (.tup ts) (.loc n) env st = kRow cf ts env st (getL st n) := by
  show (match getL st n with
      | some ds => if ds.length = lenT ts then asgs cf ts ds env st else .stuck
      | none => .stuck) = _
  cases getL st n <;> rfl
@[simp ↓] theorem asgs_nil : asgs cf .nil [] env st = .ok (.nx env) st := (rfl)
/-- behind one target of a row -/
noncomputable def kAsgs (cf : Cf) (r : T) (ds : List D) (x : RS) : RS := x.seq fun env1 st1 => asgs cf r ds env1 st1
@[simp] theorem kAsgs_nx (r : T) (ds : List D) : kAsgs cf r ds (.ok (.nx env) st) = asgs cf r ds env st := (rfl)
@[simp] theorem kAsgs_exc (r : T) (ds : List D) (c : Nat) (fs : List (Nat × D)) : kAsgs cf r ds (.exc c fs env st) = .exc c fs env st := (rfl)
@[simp ↓] theorem asgs_cons (t r : T) (d : D) (ds : List D) : asgs cf (.cons t r) (d :: ds) env st = kAsgs cf r ds (asg1 cf t d env st) := (rfl)
@[simp ↓] theorem asg1_var (i : Nat) (d : D) : asg1 cf (.var i) d env st = if i < env.length then .ok (.nx (env.set i (some d))) st else .stuck := (rfl)
@[simp ↓] theorem asg1_idx (a b : T) (d : D) : asg1 cf (.idx a b) d env st = kSet1 cf b d env (ev cf a env st) := (rfl)
@[simp ↓] theorem asg1_att (o : T) (f : Nat) (d : D) : asg1 cf (.att o f) d env st = kSetA f d env (ev cf o env st) := (rfl)
@[simp] theorem ofS_some : RS.ofS (some st) env = .ok (.nx env) st := (rfl)
@[simp] theorem lenT_cons (a r : T) : lenT (.cons a r) = lenT r + 1 := (rfl)
@[simp] theorem lenT_nil : lenT .nil = 0 := (rfl)
@[simp] theorem get_zero (a : Option D) (r : Env) : Env.get (a :: r) 0 = a := (rfl)
@[simp] theorem get_succ (a : Option D) (r : Env) (i : Nat) : Env.get (a :: r) (i + 1) = Env.get r i := (rfl)
@[simp] theorem gc_ok (d : D) (st1 : Store) : gc st (.ok d st1) = .ok d (cut st [d] st1) := (rfl)
@[simp] theorem bindV_var (i : Nat) (d : D) : bindV (.var i) d env = if i < env.length then some (env.set i (some d)) else none := (rfl)
@[simp] theorem bindV_tup (ts : T) (ds : List D) : bindV (.tup ts) (.tup ds) env = bindV.bindVs ts ds env := (rfl)
@[simp] theorem bindVs_nil : bindV.bindVs .nil [] env = some env := (rfl)
@[simp] theorem bindVs_cons (i : Nat) (r : T) (d : D) (ds : List D) : bindV.bindVs (.cons (.var i) r) (d :: ds) env = if i < env.length then bindV.bindVs r ds (env.set i (some d)) else none := (rfl)
@[simp] theorem wipe_nil : wipe env [] = env := (rfl)
@[simp] theorem wipe_cons (v : Nat) (vs : List Nat) : wipe env (v :: vs) = (wipe env vs).set v none := (rfl)
@[simp] theorem back_rt (d : D) (st1 : Store) : (RS.ok (.rt d) st1).back st = .ok d (cut st [d] st1) := (rfl)
@[simp] theorem back_nx (e : Env) (st1 : Store) : (RS.ok (.nx e) st1).back st = .ok .non (cut st [] st1) := (rfl)
@[simp] theorem back_exc (c : Nat) (fs : List (Nat × D)) (e : Env) (st1 : Store) : (RS.exc c fs e st1).back st = .exc c fs (cut st (fs.map (·.2)) st1) := (rfl)
@[simp] theorem cf_fn (P : Prog) (fn : Nat → List D → Store → R D) : (P.cf fn).fn = fn := (rfl)
@[simp] theorem cf_sub (P : Prog) (fn : Nat → List D → Store → R D) : (P.cf fn).sub = P.sub := (rfl)
/-! ### displays of dicts -/
@[simp ↓] theorem ev_dct (t : Bool) : ev cf (.dct t) env st = .ok (.loc st.length) (push st (.dct t [])) := (rfl)
noncomputable def kDct2 (t : Bool) (st : Store) (x : D) (r : R D) : R D := r.bind fun y st2 => if keyB t x = true then .ok (.loc (cut st [x, y] st2).length) (push (cut st [x, y] st2) (.dct t [(x, y)])) else .stuck
noncomputable def kDct1 (cf : Cf) (t : Bool) (v : T) (env : Env) (st : Store) (r : R D) : R D := r.bind fun x st1 => kDct2 t st x (ev cf v env st1)
@[simp ↓] theorem ev_dct1 (t : Bool) (k v : T) : ev cf (.dct1 t k v) env st = kDct1 cf t v env st (ev cf k env st) := (rfl)
@[simp] theorem kDct1_ok (t : Bool) (v : T) (st1 : Store) (x : D) : kDct1 cf t v env st (.ok x st1) = kDct2 t st x (ev cf v env st1) := (rfl)
@[simp] theorem kDct1_exc (t : Bool) (v : T) (st1 : Store) (c : Nat) (fs : List (Nat × D)) : kDct1 cf t v env st (.exc c fs st1) = .exc c fs st1 := (rfl)
@[simp] theorem kDct2_ok (t : Bool) (st1 : Store) (x y : D) : kDct2 t st x (.ok y st1) = if keyB t x = true then .ok (.loc (cut st [x, y] st1).length) (push (cut st [x, y] st1) (.dct t [(x, y)])) else .stuck := (rfl)
@[simp] theorem kDct2_exc (t : Bool) (st1 : Store) (x : D) (c : Nat) (fs : List (Nat × D)) : kDct2 t st x (.exc c fs st1) = .exc c fs st1 := (rfl)
/-- what a written table holds -/
def selF (kvs : List (S × S)) (z : S) : Option S := (kvs.find? fun p => decide (p.1 = z)).map (·.2)
noncomputable def kSel (kvs : List (S × S)) (r : R D) : R D := r.bind fun x st1 => match x with
    | .str z => R.of ((selF kvs z).map .str) st1
    | _ => .stuck
@[simp ↓] theorem ev_sel (kvs : List (S × S)) (a : T) : ev cf (.sel kvs a) env st = kSel kvs (ev cf a env st) := by
  show ((ev cf a env st).bind fun x st1 => match x with
    | .str z => R.of ((kvs.find? fun p => decide (p.1 = z)).map fun p => D.str p.2) st1
    | _ => .stuck) = _
  unfold kSel selF
  congr 1
  funext x st1
  cases x <;> first | rfl | (dsimp only; rw [Option.map_map]; rfl)
@[simp] theorem kSel_ok (kvs : List (S × S)) (z : S) (st1 : Store) : kSel kvs (.ok (.str z) st1) = R.of ((selF kvs z).map .str) st1 := (rfl)
@[simp] theorem kSel_exc (kvs : List (S × S)) (st1 : Store) (c : Nat) (fs : List (Nat × D)) : kSel kvs (.exc c fs st1) = .exc c fs st1 := (rfl)
/-! ### built-ins on plain data -/
@[simp] theorem blt_len_str (s : S) (st1 : Store) : bltD st .len [.str s] st1 = .ok (.int s.length) (cut st [] st1) := (rfl)
@[simp] theorem blt_len_tup (s : List D) (st1 : Store) : bltD st .len [.tup s] st1 = .ok (.int s.length) (cut st [] st1) := (rfl)
@[simp] theorem blt_len_scr (s : List Int) (st1 : Store) : bltD st .len [.scr s] st1 = .ok (.int s.length) (cut st [] st1) := (rfl)
@[simp] theorem blt_abs (i : Int) (st1 : Store) : bltD st .abs [.int i] st1 = .ok (.int i.natAbs) st1 := by
  show R.ok (D.int (if i < 0 then -i else i)) st1 = _
  congr 2; split <;> omega
@[simp] theorem blt_int (i : Int) (st1 : Store) : bltD st .int [.int i] st1 = .ok (.int i) st1 := (rfl)
@[simp] theorem blt_intb (i : Bool) (st1 : Store) : bltD st .int [.bl i] st1 = .ok (.int (if i = true then 1 else 0)) st1 := (rfl)
@[simp] theorem blt_max (i j : Int) (st1 : Store) : bltD st .max [.int i, .int j] st1 = .ok (.int (max i j)) st1 := by
  show R.ok (D.int (if j > i then j else i)) st1 = _
  congr 2; split <;> omega
@[simp] theorem blt_min (i j : Int) (st1 : Store) : bltD st .min [.int i, .int j] st1 = .ok (.int (min i j)) st1 := by
  show R.ok (D.int (if j < i then j else i)) st1 = _
  congr 2; split <;> omega
@[simp] theorem blt_tuple_tup (s : List D) (st1 : Store) : bltD st .tuple [.tup s] st1 = .ok (.tup s) st1 := (rfl)
theorem lenD_loc {n : Nat} {xs : List D} {st1 : Store} (h : getL st1 n = some xs) : lenD st1 (.loc n) = some xs.length := by
    unfold getL at h
    show (match st1[n]? with
    | some (.lst xs) => some xs.length
    | _ => none) = _
    split at h
    · rename_i ys q
      cases h
      first
        | rfl
        | rw [q]
    · cases h
theorem blt_len_loc {n : Nat} {xs : List D} {st1 : Store} (h : getL st1 n = some xs) : bltD st .len [.loc n] st1 = .ok (.int xs.length) (cut st [] st1) := by
  show R.of ((lenD st1 (.loc n)).map fun n => D.int n) (cut st [] st1) = _
  rw [lenD_loc h]; rfl
/-- what a list's place holds, for the rows of lists -/
theorem blt_tuple_loc {n : Nat} {xs : List D} {st1 : Store} (h : getL st1 n = some xs) : bltD st .tuple [.loc n] st1 = .ok (.tup xs) (cut st xs st1) := by
  show (match getL st1 n with
    | some ds => R.ok (D.tup ds) (cut st ds st1)
    | none => .stuck) = _
  rw [h]
theorem blt_list_loc {n : Nat} {xs : List D} {st1 : Store} (h : getL st1 n = some xs) : bltD st .list [.loc n] st1 = newL st xs st1 := by
  show (match getL st1 n with
      | some ds => newL st ds st1
      | none => .stuck) = _
  rw [h]
theorem blt_sorted_loc {n : Nat} {xs : List D} {st1 : Store} (h : getL st1 n = some xs) : bltD st .sorted [.loc n] st1 = if sortOk xs = true then newL st (xs.mergeSort (PySem.W.dataLe false D.py)) st1 else .stuck := by
  show (match getL st1 n with
    | some xs => if sortOk xs = true then newL st (xs.mergeSort (PySem.W.dataLe false D.py)) st1 else .stuck
    | none => .stuck) = _
  rw [h]
@[simp] theorem blt_list_tup (s : List D) (st1 : Store) : bltD st .list [.tup s] st1 = newL st s st1 := (rfl)
@[simp] theorem bin_addi (i j : Int) (st1 : Store) : binD st .add (.int i) (.int j) st1 = .ok (.int (i + j)) st1 := (rfl)
@[simp] theorem bin_subi (i j : Int) (st1 : Store) : binD st .sub (.int i) (.int j) st1 = .ok (.int (i - j)) st1 := (rfl)
@[simp] theorem bin_muli (i j : Int) (st1 : Store) : binD st .mul (.int i) (.int j) st1 = if i.natAbs < 2 ^ 64 ∨ j.natAbs < 2 ^ 64 then .ok (.int (i * j)) st1 else .stuck := (rfl)
@[simp] theorem bin_divi (i j : Int) (st1 : Store) : binD st .fdiv (.int i) (.int j) st1 = if 0 < j ∧ j < 1073741824 then .ok (.int (i / j)) st1 else .stuck := (rfl)
@[simp] theorem bin_modi (i j : Int) (st1 : Store) : binD st .mod (.int i) (.int j) st1 = if 0 < j then .ok (.int (i % j)) st1 else .stuck := (rfl)
@[simp] theorem bin_powi (i j : Int) (st1 : Store) : binD st .pow (.int i) (.int j) st1 = if 0 ≤ j ∧ j ≤ 1000000 ∧ i.natAbs < 2 ^ 64 then .ok (.int (i ^ j.toNat)) st1 else .stuck := (rfl)
@[simp] theorem bin_adds (a b : S) (st1 : Store) : binD st .add (.str a) (.str b) st1 = if a.length + b.length ≤ sizeLine then .ok (.str (a ++ b)) st1 else .stuck := (rfl)
@[simp] theorem bin_addt (a b : List D) (st1 : Store) : binD st .add (.tup a) (.tup b) st1 = if a.length + b.length ≤ sizeLine then .ok (.tup (a ++ b)) st1 else .stuck := (rfl)
@[simp] theorem bin_muls (a : S) (k : Int) (st1 : Store) : binD st .mul (.str a) (.int k) st1 = if a.length * k.toNat ≤ sizeLine ∧ k < 2 ^ 30 ∧ -(2 ^ 30) < k then .ok (.str (rep k.toNat a)) st1 else .stuck := (rfl)
@[simp] theorem bin_mult (a : List D) (k : Int) (st1 : Store) : binD st .mul (.tup a) (.int k) st1 = if a ≠ [] ∧ 2 ≤ k ∧ k ≤ 5000 ∧ a.length ≤ 3000 then .ok (.tup (rep k.toNat a)) st1 else .stuck := (rfl)
theorem bin_addl {m n : Nat} {xs ys : List D} {st1 : Store} (h : getL st1 m = some xs) (h' : getL st1 n = some ys) : binD st .add (.loc m) (.loc n) st1 = newL st (xs ++ ys) st1 := by
  show (match getL st1 m, getL st1 n with
    | some xs, some ys => newL st (xs ++ ys) st1
    | _, _ => .stuck) = _
  rw [h, h']
@[simp] theorem sz_lit : sizeLine = 16777216 := (rfl)
@[simp] theorem cmp_lti (i j : Int) : cmpD .Lt (.int i) (.int j) st = some (decide (i < j)) := (rfl)
@[simp] theorem cmp_lei (i j : Int) : cmpD .LtE (.int i) (.int j) st = some (decide (i ≤ j)) := (rfl)
@[simp] theorem cmp_gti (i j : Int) : cmpD .Gt (.int i) (.int j) st = some (decide (j < i)) := (rfl)
@[simp] theorem cmp_gei (i j : Int) : cmpD .GtE (.int i) (.int j) st = some (decide (j ≤ i)) := (rfl)
@[simp] theorem cmp_lts (i j : S) : cmpD .Lt (.str i) (.str j) st = some (decide (i < j)) := (rfl)
@[simp] theorem cmp_les (i j : S) : cmpD .LtE (.str i) (.str j) st = some (!decide (j < i)) := (rfl)
@[simp] theorem cmp_eqi (i j : Int) : cmpD .Eq (.int i) (.int j) st = some (decide (i = j)) := (rfl)
@[simp] theorem cmp_eqs (i j : S) : cmpD .Eq (.str i) (.str j) st = some (decide (i = j)) := (rfl)
@[simp] theorem cmp_nei (i j : Int) : cmpD .NotEq (.int i) (.int j) st = some (!decide (i = j)) := (rfl)
@[simp] theorem cmp_nes (i j : S) : cmpD .NotEq (.str i) (.str j) st = some (!decide (i = j)) := (rfl)
@[simp] theorem cmp_eqb (i j : Bool) : cmpD .Eq (.bl i) (.bl j) st = some (decide (i = j)) := by
  show some (i == j) = _
  cases i <;> cases j <;> rfl
@[simp] theorem cmp_neb (i j : Bool) : cmpD .NotEq (.bl i) (.bl j) st = some (!decide (i = j)) := by
  show some (!(i == j)) = _
  cases i <;> cases j <;> rfl
@[simp] theorem cmp_isn (x : D) : cmpD .Is x .non st = some x.isNon := by cases x <;> rfl
@[simp] theorem cmp_isnn (x : D) : cmpD .IsNot x .non st = some (!x.isNon) := by cases x <;> rfl
@[simp] theorem cmp_isb (a b : Bool) : cmpD .Is (.bl a) (.bl b) st = some (a == b) := (rfl)
@[simp] theorem cmp_isnb (a b : Bool) : cmpD .IsNot (.bl a) (.bl b) st = some (!(a == b)) := (rfl)
@[simp] theorem isNon_non : D.isNon .non = true := (rfl)
@[simp] theorem isNon_int (i : Int) : D.isNon (.int i) = false := (rfl)
@[simp] theorem isNon_bl (i : Bool) : D.isNon (.bl i) = false := (rfl)
@[simp] theorem isNon_str (i : S) : D.isNon (.str i) = false := (rfl)
@[simp] theorem isNon_tup (i : List D) : D.isNon (.tup i) = false := (rfl)
@[simp] theorem isNon_loc (i : Nat) : D.isNon (.loc i) = false := (rfl)
@[simp] theorem cmp_in (c : Nat) (z : S) : cmpD .In (.str [c]) (.str z) st = some (decide (c ∈ z)) := (rfl)
@[simp] theorem cmp_nin (c : Nat) (z : S) : cmpD .NotIn (.str [c]) (.str z) st = some (!decide (c ∈ z)) := (rfl)
@[simp] theorem idx_str (s : S) (i : Int) : idxD st (.str s) (.int i) = (atI s i).map fun c => .str [c] := (rfl)
@[simp] theorem idx_tup (s : List D) (i : Int) : idxD st (.tup s) (.int i) = atI s i := (rfl)
@[simp] theorem idx_scr (s : List Int) (i : Int) : idxD st (.scr s) (.int i) = (atI s i).map .int := (rfl)
theorem idx_loc {n : Nat} {xs : List D} (h : getL st n = some xs) (i : Int) : idxD st (.loc n) (.int i) = atI xs i := by
  show (match getL st n with
    | some xs => atI xs i
    | none => idxM st n (.int i)) = _
  rw [h]
theorem atI_nat {α : Type} {xs : List α} {i : Nat} (h : i < xs.length) : atI xs (i : Int) = xs[i]? := by
  show (L2.ixN xs.length (i : Int)).bind (fun j => xs[j]?) = _
  have e : L2.ixN xs.length (i : Int) = some i := by
    unfold L2.ixN
    simp [h]
  rw [e]; rfl
theorem atI_get {α : Type} {xs : List α} {i : Nat} {x : α} (h : xs[i]? = some x) : atI xs (i : Int) = some x := by
  rw [atI_nat (List.getElem?_eq_some_iff.mp h).1, h]
theorem atI_getD {α : Type} {xs : List α} {i : Int} (a : α) (h0 : 0 ≤ i) (h : i.toNat < xs.length) : atI xs i = some (xs.getD i.toNat a) := by
  obtain ⟨k, rfl⟩ := Int.eq_ofNat_of_zero_le h0
  rw [atI_nat (by simpa using h), List.getElem?_eq_getElem (by simpa using h)]
  congr 1
  rw [List.getD_eq_getElem?_getD]
  simp only [Int.toNat_natCast]
  rw [List.getElem?_eq_getElem (by simpa using h)]; rfl
/-- what stands at a place -/
def gD {α : Type} [Inhabited α] (xs : List α) (i : Nat) : α := xs.getD i default
theorem gD_get {α : Type} [Inhabited α] {xs : List α} {i : Nat} (h : i < xs.length) : gD xs i = xs[i] := by
  unfold gD; rw [List.getD_eq_getElem?_getD, List.getElem?_eq_getElem h]; rfl
theorem gD_mem {α : Type} [Inhabited α] {xs : List α} {i : Nat} (h : i < xs.length) : gD xs i ∈ xs := by rw [gD_get h]; exact List.getElem_mem h
theorem gD_some {α : Type} [Inhabited α] {xs : List α} {i : Nat} (h : i < xs.length) : xs[i]? = some (gD xs i) := by rw [gD_get h, List.getElem?_eq_getElem h]
theorem gD_of {α : Type} [Inhabited α] {xs : List α} {i : Nat} {x : α} (h : xs[i]? = some x) : i < xs.length ∧ x = gD xs i := by
  obtain ⟨h1, h2⟩ := List.getElem?_eq_some_iff.mp h
  exact ⟨h1, by rw [gD_get h1, h2]⟩
@[simp] theorem gD_0 {α : Type} [Inhabited α] (x : α) (r : List α) : gD (x :: r) 0 = x := (rfl)
@[simp] theorem gD_s {α : Type} [Inhabited α] (x : α) (r : List α) (i : Nat) : gD (x :: r) (i + 1) = gD r i := (rfl)
@[simp] theorem gD_map {α β : Type} [Inhabited α] [Inhabited β] {xs : List α} {i : Nat} (f : α → β) (h : i < xs.length) : gD (xs.map f) i = f (gD xs i) := by
  rw [gD_get h, gD_get (by simpa using h), List.getElem_map]
@[simp low] theorem atI_gD {α : Type} [Inhabited α] {xs : List α} {i : Nat} (h : i < xs.length) : atI xs (i : Int) = some (gD xs i) := by rw [atI_nat h, gD_some h]
@[simp low] theorem atI_gDi {α : Type} [Inhabited α] {xs : List α} {i : Int} (h0 : 0 ≤ i) (h : i.toNat < xs.length) : atI xs i = some (gD xs i.toNat) := by
  obtain ⟨k, rfl⟩ := Int.eq_ofNat_of_zero_le h0
  exact atI_gD (by simpa using h)
theorem atI_map {α β : Type} [Inhabited α] {xs : List α} {i : Nat} (f : α → β) (h : i < xs.length) : atI (xs.map f) (i : Int) = some (f (gD xs i)) := by
  rw [atI_nat (by simpa using h), List.getElem?_map, gD_some h]; rfl
theorem map_at {α β : Type} [Inhabited α] {xs : List α} {f : α → β} {i : Nat} {y : β} (h : (xs.map f)[i]? = some y) : i < xs.length ∧ y = f (gD xs i) := by
  rw [List.getElem?_map] at h
  cases q : xs[i]? with
  | none => rw [q] at h; cases h
  | some x =>
    rw [q] at h; cases h
    obtain ⟨h1, h2⟩ := gD_of q
    exact ⟨h1, by rw [h2]⟩
theorem gD_ext {α : Type} [Inhabited α] {xs ys : List α} (h : xs.length = ys.length) (e : ∀ i, i < xs.length → gD xs i = gD ys i) : xs = ys := by
  apply List.ext_getElem h
  intro i h1 h2
  rw [← gD_get h1, ← gD_get h2]; exact e i h1
theorem take_gD {α : Type} [Inhabited α] {xs : List α} {i : Nat} (h : i < xs.length) : xs.take (i + 1) = xs.take i ++ [gD xs i] := by
  rw [gD_get h, List.take_succ_eq_append_getElem h]
theorem drop_gD {α : Type} [Inhabited α] {xs : List α} {i : Nat} (h : i < xs.length) : xs.drop i = gD xs i :: xs.drop (i + 1) := by
  rw [gD_get h, List.drop_eq_getElem_cons h]
theorem all_gD {α : Type} [Inhabited α] {xs : List α} {p : α → Prop} : (∀ x ∈ xs, p x) ↔ ∀ i, i < xs.length → p (gD xs i) := by
  constructor
  · exact fun h i hi => h _ (gD_mem hi)
  · intro h x hx
    obtain ⟨i, hi, rfl⟩ := List.getElem_of_mem hx
    rw [← gD_get hi]; exact h i hi
theorem gD_app_l {α : Type} [Inhabited α] {xs ys : List α} {i : Nat} (h : i < xs.length) : gD (xs ++ ys) i = gD xs i := by
  rw [gD_get (by simp; omega), gD_get h, List.getElem_append_left h]
theorem gD_app_r {α : Type} [Inhabited α] {xs ys : List α} {i : Nat} (h : i < ys.length) : gD (xs ++ ys) (xs.length + i) = gD ys i := by
  rw [gD_get (by simp; omega), gD_get h, List.getElem_append_right (by omega)]; simp
theorem all_lt_succ {p : Nat → Prop} {i : Nat} (h : ∀ j, j < i → p j) (hi : p i) : ∀ j, j < i + 1 → p j := fun j hj => by
  by_cases q : j = i
  · subst q; exact hi
  · exact h j (by omega)
theorem atI_m1 {α : Type} [Inhabited α] {xs : List α} (h : 0 < xs.length) : atI xs (-1) = some (gD xs (xs.length - 1)) := by
  show (L2.ixN xs.length (-1)).bind (fun j => xs[j]?) = _
  have e : L2.ixN xs.length (-1) = some (xs.length - 1) := by
    unfold L2.ixN
    rw [if_neg (by decide), if_pos (by omega)]
    congr 1; omega
  rw [e]
  exact gD_some (by omega)
@[simp] theorem atI_0 {α : Type} (x : α) (r : List α) : atI (x :: r) 0 = some x := by
  have := atI_nat (xs := x :: r) (i := 0) (by simp)
  simpa using this
@[simp] theorem atI_1 {α : Type} (x y : α) (r : List α) : atI (x :: y :: r) 1 = some y := by
  have := atI_nat (xs := x :: y :: r) (i := 1) (by simp)
  simpa using this
@[simp] theorem atI_2 {α : Type} (x y z : α) (r : List α) : atI (x :: y :: z :: r) 2 = some z := by
  have := atI_nat (xs := x :: y :: z :: r) (i := 2) (by simp)
  simpa using this
@[simp] theorem atI_3 {α : Type} (x y z u : α) (r : List α) : atI (x :: y :: z :: u :: r) 3 = some u := by
  have := atI_nat (xs := x :: y :: z :: u :: r) (i := 3) (by simp)
  simpa using this
@[simp] theorem slc_str (s : S) (lo hi : Option Int) (st1 : Store) : slcD st (.str s) lo hi st1 = .ok (.str (cutL s lo hi)) st1 := (rfl)
@[simp] theorem slc_tup (s : List D) (lo hi : Option Int) (st1 : Store) : slcD st (.tup s) lo hi st1 = .ok (.tup (cutL s lo hi)) st1 := (rfl)
theorem slc_loc {n : Nat} {xs : List D} {st1 : Store} (h : getL st1 n = some xs) (lo hi : Option Int) : slcD st (.loc n) lo hi st1 = newL st (cutL xs lo hi) st1 := by
  show (match getL st1 n with
    | some xs => newL st (cutL xs lo hi) st1
    | none => .stuck) = _
  rw [h]
theorem newL_at {xs : List D} (h : xs.length ≤ sizeLine) : newL st xs st = .ok (.loc st.length) (push st (.lst xs)) := by
  unfold newL; rw [if_pos h, cut_self]; rfl
theorem newL_nil : newL st [] st = .ok (.loc st.length) (push st (.lst [])) := newL_at (Nat.zero_le _)
theorem newL_any {xs : List D} {st1 : Store} (h : xs.length ≤ sizeLine) : newL st xs st1 = .ok (.loc (cut st xs st1).length) (push (cut st xs st1) (.lst xs)) := by
  unfold newL; rw [if_pos h]; rfl
@[simp] theorem mthK_str (s : S) (m : Mth) : mthK st (.str s) m = (match m with
  | .append | .insert | .extend => false
  | _ => true) := by cases m <;> rfl
theorem mthK_loc {n : Nat} {xs : List D} (m : Mth) (h : getL st n = some xs) : mthK st (.loc n) m = (match m with
  | .append | .insert | .extend | .count | .index => true
  | _ => false) := by
  have e : isLst st (.loc n) = true := by show (getL st n).isSome = true; rw [h]; rfl
  cases m <;> first | exact e | rfl | (show (isStr (.loc n) || isLst st (.loc n)) = true; rw [e]; rfl)
theorem mth_append {n : Nat} {xs : List D} {y : D} {st1 : Store} (h : getL st1 n = some xs) (hl : xs.length < sizeLine) : mthD st .append (.loc n) [y] st1 = .ok .non (st1.set n (.lst (xs ++ [y]))) := by
  show (match getL st1 n with
      | some xs => if xs.length < sizeLine then R.ok D.non (st1.set n (.lst (xs ++ [y]))) else .stuck
      | none => .stuck) = _
  rw [h]
  exact if_pos hl
theorem setI_loc {n : Nat} {xs : List D} {i : Int} {v : D} (h : getL st n = some xs) (h0 : 0 ≤ i) (hi : i.toNat < xs.length) : setI (.loc n) (.int i) v st = some (st.set n (.lst (xs.set i.toNat v))) := by
  show (match getL st n with
    | some xs => (ixN xs.length i).map fun j => st.set n (.lst (xs.set j v))
    | none => setM st n (.int i) v) = _
  rw [h]
  have e : ixN xs.length i = some i.toNat := by
    show L2.ixN xs.length i = _
    obtain ⟨k, rfl⟩ := Int.eq_ofNat_of_zero_le h0
    unfold L2.ixN
    simp at hi
    simp [hi]
  show (ixN xs.length i).map _ = _
  rw [e]; rfl
@[simp] theorem one_lt (a b : Nat) : (([a] : List Nat) < [b]) = (a < b) := by
  apply propext
  constructor
  · intro h
    cases h with
    | cons h => cases h
    | rel h => exact h
  · intro h; exact List.Lex.rel h
/-- the small letters -/
def lowS : S := [97, 98, 99, 100, 101, 102, 103, 104, 105, 106, 107, 108, 109, 110, 111, 112, 113, 114, 115, 116, 117, 118, 119, 120, 121, 122]
theorem mem_low (c : Nat) : c ∈ lowS ↔ 97 ≤ c ∧ c ≤ 122 := by
  constructor
  · intro h
    have : ∀ c ∈ lowS, 97 ≤ c ∧ c ≤ 122 := by decide
    exact this c h
  · rintro ⟨h1, h2⟩
    have : ∀ c, c < 123 → 97 ≤ c → c ∈ lowS := by decide
    exact this c (by omega) h1
@[simp] theorem low_len : lowS.length = 26 := (rfl)
/-! ### lists by what stands at their places: rows for simp -/
def appK (n : Nat) (y : D) (st1 : Store) : Option (List D) → R D
  | some xs => if xs.length < sizeLine then R.ok D.non (st1.set n (.lst (xs ++ [y]))) else .stuck
  | none => .stuck
@[simp] theorem mth_appendK (n : Nat) (y : D) (st1 : Store) : mthD st .append (.loc n) [y] st1 = appK n y st1 (getL st1 n) := by
  show (match getL st1 n with
      | some xs => if xs.length < sizeLine then R.ok D.non (st1.set n (.lst (xs ++ [y]))) else .stuck
      | none => .stuck) = _
  cases getL st1 n <;> rfl
@[simp] theorem appK_some (n : Nat) (y : D) (st1 : Store) (xs : List D) : appK n y st1 (some xs) = if xs.length < 16777216 then R.ok D.non (st1.set n (.lst (xs ++ [y]))) else .stuck := (rfl)
def insK (n : Nat) (i : Int) (y : D) (st1 : Store) : Option (List D) → R D
  | some xs => if xs.length < sizeLine ∧ 0 ≤ i ∧ i < 2 ^ 63 then .ok .non (st1.set n (.lst (xs.take i.toNat ++ [y] ++ xs.drop i.toNat))) else .stuck
  | none => .stuck
@[simp] theorem mth_insertK (n : Nat) (i : Int) (y : D) (st1 : Store) : mthD st .insert (.loc n) [.int i, y] st1 = insK n i y st1 (getL st1 n) := by
  show (match getL st1 n with
    | some xs => if xs.length < sizeLine ∧ 0 ≤ i ∧ i < 2 ^ 63 then R.ok D.non (st1.set n (.lst (xs.take i.toNat ++ [y] ++ xs.drop i.toNat))) else .stuck
    | none => .stuck) = _
  cases getL st1 n <;> rfl
@[simp] theorem insK_some (n : Nat) (i : Int) (y : D) (st1 : Store) (xs : List D) : insK n i y st1 (some xs) = if xs.length < 16777216 ∧ 0 ≤ i ∧ i < 2 ^ 63 then .ok .non (st1.set n (.lst (xs.take i.toNat ++ [y] ++ xs.drop i.toNat))) else .stuck := (rfl)
def lenK (st0 : Store) : Option (List D) → R D
  | some xs => .ok (.int xs.length) st0
  | none => .stuck
@[simp] theorem lenK_some (st0 : Store) (xs : List D) : lenK st0 (some xs) = .ok (.int xs.length) st0 := (rfl)
def seqK {α β : Type} (f : α → R β) : Option α → R β
  | some xs => f xs
  | none => .stuck
@[simp] theorem seqK_some {α β : Type} (f : α → R β) (x : α) : seqK f (some x) = f x := (rfl)
noncomputable def tupK (st st1 : Store) : Option (List D) → R D
  | some xs => .ok (.tup xs) (cut st xs st1)
  | none => .stuck
@[simp] theorem tupK_some (st1 : Store) (xs : List D) : tupK st st1 (some xs) = .ok (.tup xs) (cut st xs st1) := (rfl)
noncomputable def lstK (st st1 : Store) : Option (List D) → R D
  | some xs => newL st xs st1
  | none => .stuck
@[simp] theorem lstK_some (st1 : Store) (xs : List D) : lstK st st1 (some xs) = newL st xs st1 := (rfl)
noncomputable def srtK (st st1 : Store) : Option (List D) → R D
  | some xs => if sortOk xs = true then newL st (xs.mergeSort (PySem.W.dataLe false D.py)) st1 else .stuck
  | none => .stuck
@[simp] theorem srtK_some (st1 : Store) (xs : List D) : srtK st st1 (some xs) = if sortOk xs = true then newL st (xs.mergeSort (PySem.W.dataLe false D.py)) st1 else .stuck := (rfl)
noncomputable def slcK (lo hi : Option Int) (st st1 : Store) : Option (List D) → R D
  | some xs => newL st (cutL xs lo hi) st1
  | none => .stuck
@[simp] theorem slcK_some (lo hi : Option Int) (st1 : Store) (xs : List D) : slcK lo hi st st1 (some xs) = newL st (cutL xs lo hi) st1 := (rfl)
def idxK (i : Int) (m : Option D) : Option (List D) → Option D
  | some xs => atI xs i
  | none => m
@[simp] theorem idxK_some (i : Int) (m : Option D) (xs : List D) : idxK i m (some xs) = atI xs i := (rfl)
@[simp] theorem idxK_none (i : Int) (m : Option D) : idxK i m none = m := (rfl)
def idxN (m : Option D) : Option (List D) → Option D
  | some _ => none
  | none => m
@[simp] theorem idxN_none (m : Option D) : idxN m none = m := (rfl)
@[simp] theorem blt_tupleK (n : Nat) (st1 : Store) : bltD st .tuple [.loc n] st1 = tupK st st1 (getL st1 n) := by
  show (match getL st1 n with
    | some ds => R.ok (D.tup ds) (cut st ds st1)
    | none => .stuck) = _
  cases getL st1 n <;> rfl
@[simp] theorem blt_listK (n : Nat) (st1 : Store) : bltD st .list [.loc n] st1 = lstK st st1 (getL st1 n) := by
  show (match getL st1 n with
      | some ds => newL st ds st1
      | none => .stuck) = _
  cases getL st1 n <;> rfl
@[simp] theorem blt_sortedK (n : Nat) (st1 : Store) : bltD st .sorted [.loc n] st1 = srtK st st1 (getL st1 n) := by
  show (match getL st1 n with
    | some xs => if sortOk xs = true then newL st (xs.mergeSort (PySem.W.dataLe false D.py)) st1 else .stuck
    | none => .stuck) = _
  cases getL st1 n <;> rfl
@[simp] theorem slc_locK (n : Nat) (lo hi : Option Int) (st1 : Store) : slcD st (.loc n) lo hi st1 = slcK lo hi st st1 (getL st1 n) := by
  show (match getL st1 n with
    | some xs => newL st (cutL xs lo hi) st1
    | none => .stuck) = _
  cases getL st1 n <;> rfl
@[simp] theorem newL_K (xs : List D) (st1 : Store) : newL st xs st1 = if xs.length ≤ 16777216 then .ok (.loc (cut st xs st1).length) (push (cut st xs st1) (.lst xs)) else .stuck := (rfl)
@[simp] theorem idx_locK {st : Store} (n : Nat) (i : Int) : idxD st (.loc n) (.int i) = idxK i (idxM st n (.int i)) (getL st n) := by
  show (match getL st n with
    | some xs => atI xs i
    | none => idxM st n (.int i)) = _
  cases getL st n <;> rfl
@[simp] theorem idx_locT {st : Store} (n : Nat) (i : List D) : idxD st (.loc n) (.tup i) = idxN (idxM st n (.tup i)) (getL st n) := by
  show (match getL st n with
    | some xs => none
    | none => idxM st n (.tup i)) = _
  cases getL st n <;> rfl
@[simp] theorem idx_locS {st : Store} (n : Nat) (i : S) : idxD st (.loc n) (.str i) = idxN (idxM st n (.str i)) (getL st n) := by
  show (match getL st n with
    | some xs => none
    | none => idxM st n (.str i)) = _
  cases getL st n <;> rfl
def keyed {α : Type} (y : D) (f : Bool → List (D × D) → Option α) : Option (Bool × List (D × D)) → Option α
  | some p => if keyB p.1 y = true then f p.1 p.2 else none
  | none => none
@[simp] theorem keyed_some {α : Type} (y : D) (f : Bool → List (D × D) → Option α) (t : Bool) (kvs : List (D × D)) : keyed y f (some (t, kvs)) = if keyB t y = true then f t kvs else none := (rfl)
@[simp] theorem idxM_K {st : Store} (n : Nat) (y : D) : idxM st n y = keyed y (fun _ kvs => mGet kvs y) (getM st n) := by
  unfold idxM
  cases getM st n <;> rfl
def inC (y : D) : Option (Bool × List (D × D)) → Option Bool
  | some p => if keyB p.1 y = true then some (mGet p.2 y).isSome else if p.1 = true ∧ y.isNon = true then some false else none
  | none => none
@[simp] theorem inM_K {st : Store} (n : Nat) (y : D) : inM st n y = inC y (getM st n) := by
  unfold inM inC
  cases getM st n <;> rfl
@[simp] theorem inC_tup (ds : List D) (kvs : List (D × D)) : inC (.tup ds) (some (true, kvs)) = if ds.all isK = true then some (mGet kvs (.tup ds)).isSome else none := by
  show (if ds.all isK = true then _ else if true = true ∧ D.isNon (.tup ds) = true then _ else _) = _
  simp
@[simp] theorem inC_non (kvs : List (D × D)) : inC .non (some (true, kvs)) = some false := (rfl)
@[simp] theorem inC_int (i : Int) (kvs : List (D × D)) : inC (.int i) (some (false, kvs)) = some (mGet kvs (.int i)).isSome := (rfl)
@[simp] theorem inC_str (i : S) (kvs : List (D × D)) : inC (.str i) (some (false, kvs)) = some (mGet kvs (.str i)).isSome := (rfl)
def setMK (n : Nat) (y v : D) (st : Store) : Option (Bool × List (D × D)) → Option Store
  | some p => if keyB p.1 y = true ∧ p.2.length < 16777216 then some (st.set n (.dct p.1 (mPut p.2 y v))) else none
  | none => none
@[simp] theorem setMK_some {st : Store} (n : Nat) (y v : D) (t : Bool) (kvs : List (D × D)) : setMK n y v st (some (t, kvs)) = if keyB t y = true ∧ kvs.length < 16777216 then some (st.set n (.dct t (mPut kvs y v))) else none := (rfl)
@[simp] theorem setM_K {st : Store} (n : Nat) (y v : D) : setM st n y v = setMK n y v st (getM st n) := by
  unfold setM
  cases getM st n <;> rfl
@[simp] theorem keyB_fi (i : Int) : keyB false (.int i) = true := (rfl)
@[simp] theorem keyB_fs (i : S) : keyB false (.str i) = true := (rfl)
@[simp] theorem keyB_tt (ds : List D) : keyB true (.tup ds) = ds.all isK := (rfl)
@[simp] theorem isK_int (i : Int) : isK (.int i) = true := (rfl)
@[simp] theorem isK_str (i : S) : isK (.str i) = true := (rfl)
/-- x in what stands at a place -/
def inK (x : D) (m : Option Bool) : Option (List D) → Option Bool
  | some ys => if x.flat = true ∧ ys.all D.flat = true then some (ys.any fun y => D.eqv y x)
      else if D.dat x = true ∧ D.datL ys = true ∧ D.depth x ≤ 62 ∧ D.depthL ys ≤ 62 then some (ys.any fun y => D.eqv y x) else none
  | none => m
@[simp] theorem inK_none (x : D) (m : Option Bool) : inK x m none = m := (rfl)
@[simp] theorem cmp_inK {st : Store} (n : Nat) (x : D) : cmpD .In x (.loc n) st = inK x (inM st n x) (getL st n) := by
  show (match getL st n with
    | some ys => if x.flat = true ∧ ys.all D.flat = true then some (ys.any fun y => D.eqv y x)
      else if D.dat x = true ∧ D.datL ys = true ∧ D.depth x ≤ 62 ∧ D.depthL ys ≤ 62 then some (ys.any fun y => D.eqv y x) else none
    | none => inM st n x) = _
  cases getL st n <;> rfl
@[simp] theorem cmp_ninK {st : Store} (n : Nat) (x : D) : cmpD .NotIn x (.loc n) st = (inK x (inM st n x) (getL st n)).map (!·) := by
  rw [← cmp_inK]; rfl
theorem inK_some {x : D} {m : Option Bool} {ys : List D} (h : D.dat x = true ∧ D.datL ys = true ∧ D.depth x ≤ 62 ∧ D.depthL ys ≤ 62) : inK x m (some ys) = some (ys.any fun y => D.eqv y x) := by
  show (if x.flat = true ∧ ys.all D.flat = true then _ else if D.dat x = true ∧ D.datL ys = true ∧ D.depth x ≤ 62 ∧ D.depthL ys ≤ 62 then _ else none) = _
  rw [if_pos h]
  split <;> rfl
def extK (n : Nat) (st1 : Store) : Option (List D) → Option (List D) → R D
  | some xs, some zs => if xs.length + zs.length ≤ 16777216 then .ok .non (st1.set n (.lst (xs ++ zs))) else .stuck
  | _, _ => .stuck
@[simp] theorem extK_some (n : Nat) (st1 : Store) (xs zs : List D) : extK n st1 (some xs) (some zs) = if xs.length + zs.length ≤ 16777216 then .ok .non (st1.set n (.lst (xs ++ zs))) else .stuck := (rfl)
@[simp] theorem mth_extendK (n k : Nat) (st1 : Store) : mthD st .extend (.loc n) [.loc k] st1 = extK n st1 (getL st1 n) (getL st1 k) := by
  show (match getL st1 n, getL st1 k with
    | some xs, some zs => if xs.length + zs.length ≤ sizeLine then R.ok D.non (st1.set n (.lst (xs ++ zs))) else .stuck
    | _, _ => .stuck) = _
  cases getL st1 n <;> cases getL st1 k <;> rfl
@[simp] theorem mth_extendT (n : Nat) (zs : List D) (st1 : Store) : mthD st .extend (.loc n) [.tup zs] st1 = extK n st1 (getL st1 n) (some zs) := by
  show (match getL st1 n with
    | some xs => if xs.length + zs.length ≤ sizeLine then R.ok D.non (st1.set n (.lst (xs ++ zs))) else .stuck
    | none => .stuck) = _
  cases getL st1 n <;> rfl
@[simp] theorem mthK_loc_ext {st : Store} (n : Nat) : mthK st (.loc n) .extend = (getL st n).isSome := (rfl)
theorem mGet_cons (p : D × D) (r : List (D × D)) (k : D) : mGet (p :: r) k = if D.beq p.1 k = true then some p.2 else mGet r k := by
  unfold mGet
  rw [List.find?_cons]
  cases D.beq p.1 k <;> rfl
@[simp] theorem mGet_nil (k : D) : mGet [] k = none := (rfl)
@[simp] theorem beq_int (i j : Int) : D.beq (.int i) (.int j) = decide (i = j) := by simp [D.beq]
@[simp] theorem beq_str (i j : S) : D.beq (.str i) (.str j) = decide (i = j) := by simp [D.beq]
@[simp] theorem beq_tup (i j : List D) : D.beq (.tup i) (.tup j) = D.beqL i j := by simp [D.beq]
@[simp] theorem beqL_nil : D.beqL [] [] = true := by simp [D.beqL]
@[simp] theorem beqL_cons (a b : D) (r s : List D) : D.beqL (a :: r) (b :: s) = (D.beq a b && D.beqL r s) := by simp [D.beqL]
/-- a list is walked -/
noncomputable def walkL (n : Nat) (xs : List D) (s : Store) : R (List D × Option (Nat × List D)) := if low n s then .ok (xs, some (n, xs)) s else .ok (xs, none) s
theorem walkL_old {n : Nat} {xs : List D} {s : Store} (h : low n s) : walkL n xs s = .ok (xs, some (n, xs)) s := if_pos h
@[simp] theorem walkL_new {xs : List D} (s : Store) : walkL s.length xs s = .ok (xs, none) s := if_neg (by simp)
@[simp] theorem walkL_push {n : Nat} {xs : List D} (s : Store) (c : C) (h : low n (push s c)) : walkL n xs (push s c) = .ok (xs, some (n, xs)) (push s c) := if_pos h
@[simp] theorem walkL_jk {n : Nat} {xs : List D} (s t : Store) (h : low n (jk s t)) : walkL n xs (jk s t) = .ok (xs, some (n, xs)) (jk s t) := if_pos h
noncomputable def walkK (st : Store) (n : Nat) (st1 : Store) : Option (List D) → R (List D × Option (Nat × List D))
  | some xs => walkL n xs (cut st xs st1)
  | none => .stuck
@[simp] theorem walkK_some (n : Nat) (st1 : Store) (xs : List D) : walkK st n st1 (some xs) = walkL n xs (cut st xs st1) := (rfl)
@[simp] theorem walkI_K (n : Nat) (st1 : Store) : walkI st (.loc n) st1 = walkK st n st1 (getL st1 n) := by
  unfold walkI
  dsimp only
  cases getL st1 n <;> rfl
noncomputable def revK (st : Store) (n : Nat) (st1 : Store) : Option (List D) → R (List D × Option (Nat × List D))
  | some xs => if low n (cut st xs st1) then .ok (xs.reverse, some (n, xs)) (cut st xs st1) else .ok (xs.reverse, none) (cut st xs st1)
  | none => .stuck
@[simp] theorem revK_some (n : Nat) (st1 : Store) (xs : List D) : revK st n st1 (some xs) = if low n (cut st xs st1) then .ok (xs.reverse, some (n, xs)) (cut st xs st1) else .ok (xs.reverse, none) (cut st xs st1) := (rfl)
@[simp] theorem revI_K (n : Nat) (st1 : Store) : revI st (.loc n) st1 = revK st n st1 (getL st1 n) := by
  unfold revI
  dsimp only
  cases getL st1 n <;> rfl
def setK (n : Nat) (i : Int) (v : D) (st : Store) (m : Option Store) : Option (List D) → Option Store
  | some xs => (ixN xs.length i).map fun j => st.set n (.lst (xs.set j v))
  | none => m
@[simp] theorem setK_none {st : Store} (n : Nat) (i : Int) (v : D) (m : Option Store) : setK n i v st m none = m := (rfl)
@[simp] theorem setI_K {st : Store} (n : Nat) (i : Int) (v : D) : setI (.loc n) (.int i) v st = setK n i v st (setM st n (.int i) v) (getL st n) := by
  show (match getL st n with
    | some xs => (ixN xs.length i).map fun j => st.set n (.lst (xs.set j v))
    | none => setM st n (.int i) v) = _
  cases getL st n <;> rfl
def setN (m : Option Store) : Option (List D) → Option Store
  | some _ => none
  | none => m
@[simp] theorem setN_none (m : Option Store) : setN m none = m := (rfl)
@[simp] theorem setI_T {st : Store} (n : Nat) (i : List D) (v : D) : setI (.loc n) (.tup i) v st = setN (setM st n (.tup i) v) (getL st n) := by
  show (match getL st n with
    | some xs => none
    | none => setM st n (.tup i) v) = _
  cases getL st n <;> rfl
@[simp] theorem setI_S {st : Store} (n : Nat) (i : S) (v : D) : setI (.loc n) (.str i) v st = setN (setM st n (.str i) v) (getL st n) := by
  show (match getL st n with
    | some xs => none
    | none => setM st n (.str i) v) = _
  cases getL st n <;> rfl
theorem setK_nat {st : Store} {n i : Nat} {v : D} {m : Option Store} {xs : List D} (h : i < xs.length) : setK n (i : Int) v st m (some xs) = some (st.set n (.lst (xs.set i v))) := by
  show (ixN xs.length (i : Int)).map _ = _
  have e : ixN xs.length (i : Int) = some i := by
    show L2.ixN xs.length i = _
    unfold L2.ixN
    simp [h]
  rw [e]; rfl
@[simp] theorem mthK_loc_app {st : Store} (n : Nat) : mthK st (.loc n) .append = (getL st n).isSome := (rfl)
@[simp] theorem mthK_loc_ins {st : Store} (n : Nat) : mthK st (.loc n) .insert = (getL st n).isSome := (rfl)
@[simp] theorem mthK_loc_cnt {st : Store} (n : Nat) : mthK st (.loc n) .count = (getL st n).isSome := (rfl)
@[simp] theorem mthK_loc_ind {st : Store} (n : Nat) : mthK st (.loc n) .index = (getL st n).isSome := (rfl)
theorem lenD_lst {st : Store} {n : Nat} {xs : List D} (h : getL st n = some xs) : lenD st (.loc n) = some xs.length := lenD_loc h
theorem blt_lenK (n : Nat) (st1 : Store) (xs : List D) (h : getL st1 n = some xs) : bltD st .len [.loc n] st1 = .ok (.int xs.length) (cut st [] st1) := blt_len_loc h
/-- len of what stands at a place -/
def lenC : Option C → Option Nat
  | some (.lst xs) => some xs.length
  | _ => none
@[simp] theorem lenC_lst (xs : List D) : lenC (some (.lst xs)) = some xs.length := (rfl)
@[simp] theorem blt_lenC (n : Nat) (st1 : Store) : bltD st .len [.loc n] st1 = R.of ((lenC (at_ st1 n)).map fun n => .int n) (cut st [] st1) := by
  unfold at_
  show R.of ((match st1[n]? with
    | some (.lst xs) => some xs.length
    | _ => none : Option Nat).map fun n => D.int n) (cut st [] st1) = _
  cases st1[n]? with
  | none => rfl
  | some c => cases c <;> rfl
def eqK : Option (List D) → Option (List D) → Option Bool
  | some xs, some ys => if D.datL xs = true ∧ D.datL ys = true ∧ min (D.depthL xs) (D.depthL ys) < 64 then some (D.eqvL xs ys) else none
  | _, _ => none
@[simp] theorem cmp_eqK {st : Store} (m n : Nat) : cmpD .Eq (.loc m) (.loc n) st = eqK (getL st m) (getL st n) := by
  show (match getL st m, getL st n with
    | some xs, some ys => if D.datL xs = true ∧ D.datL ys = true ∧ min (D.depthL xs) (D.depthL ys) < 64 then some (D.eqvL xs ys) else none
    | _, _ => none) = _
  cases getL st m <;> cases getL st n <;> rfl
@[simp] theorem cmp_neK {st : Store} (m n : Nat) : cmpD .NotEq (.loc m) (.loc n) st = (eqK (getL st m) (getL st n)).map (!·) := by
  rw [← cmp_eqK]; rfl
@[simp] theorem eqK_some (xs ys : List D) : eqK (some xs) (some ys) = if D.datL xs = true ∧ D.datL ys = true ∧ min (D.depthL xs) (D.depthL ys) < 64 then some (D.eqvL xs ys) else none := (rfl)
theorem eqK_nil {xs : List D} (h : D.datL xs = true) : eqK (some xs) (some []) = some xs.isEmpty := by
  have e : D.eqvL xs [] = xs.isEmpty := by cases xs <;> simp [D.eqvL]
  rw [eqK_some, if_pos ⟨h, by simp [D.datL], by simp [D.depthL]⟩, e]
noncomputable def addK (st st1 : Store) : Option (List D) → Option (List D) → R D
  | some xs, some ys => newL st (xs ++ ys) st1
  | _, _ => .stuck
@[simp] theorem bin_addK (m n : Nat) (st1 : Store) : binD st .add (.loc m) (.loc n) st1 = addK st st1 (getL st1 m) (getL st1 n) := by
  show (match getL st1 m, getL st1 n with
    | some xs, some ys => newL st (xs ++ ys) st1
    | _, _ => .stuck) = _
  cases getL st1 m <;> cases getL st1 n <;> rfl
@[simp] theorem addK_some (st1 : Store) (xs ys : List D) : addK st st1 (some xs) (some ys) = newL st (xs ++ ys) st1 := (rfl)
noncomputable def cntK (y : D) (st0 : Store) : Option (List D) → R D
  | some xs => if y.flat = true ∧ xs.all D.flat = true then .ok (.int (xs.countP fun z => D.eqv z y : Nat)) st0 else .stuck
  | none => .stuck
@[simp] theorem mth_cntK (n : Nat) (y : D) (st1 : Store) : mthD st .count (.loc n) [y] st1 = cntK y (cut st [] st1) (getL st1 n) := by
  show (match getL st1 n with
      | some xs => if y.flat = true ∧ xs.all D.flat = true then R.ok (D.int (xs.countP fun z => D.eqv z y : Nat)) (cut st [] st1) else .stuck
      | none => .stuck) = _
  cases getL st1 n <;> rfl
@[simp] theorem cntK_some (y : D) (st0 : Store) (xs : List D) : cntK y st0 (some xs) = if y.flat = true ∧ xs.all D.flat = true then .ok (.int (xs.countP fun z => D.eqv z y : Nat)) st0 else .stuck := (rfl)
noncomputable def indK (y : D) (st0 : Store) : Option (List D) → R D
  | some xs => if y.flat = true ∧ xs.all D.flat = true then R.of ((xs.findIdx? fun z => D.eqv z y).map fun k => .int (k : Nat)) st0
    else if D.dat y = true ∧ D.datL xs = true ∧ D.depth y ≤ 62 ∧ D.depthL xs ≤ 62 then R.of ((xs.findIdx? fun z => D.eqv z y).map fun k => .int (k : Nat)) st0 else .stuck
  | none => .stuck
@[simp] theorem mth_indK (n : Nat) (y : D) (st1 : Store) : mthD st .index (.loc n) [y] st1 = indK y (cut st [] st1) (getL st1 n) := by
  show (match getL st1 n with
      | some xs => if y.flat = true ∧ xs.all D.flat = true then R.of ((xs.findIdx? fun z => D.eqv z y).map fun k => D.int (k : Nat)) (cut st [] st1)
        else if D.dat y = true ∧ D.datL xs = true ∧ D.depth y ≤ 62 ∧ D.depthL xs ≤ 62 then R.of ((xs.findIdx? fun z => D.eqv z y).map fun k => D.int (k : Nat)) (cut st [] st1) else .stuck
      | none => .stuck) = _
  cases getL st1 n <;> rfl
@[simp] theorem indK_some (y : D) (st0 : Store) (xs : List D) : indK y st0 (some xs) = if y.flat = true ∧ xs.all D.flat = true then R.of ((xs.findIdx? fun z => D.eqv z y).map fun k => .int (k : Nat)) st0
    else if D.dat y = true ∧ D.datL xs = true ∧ D.depth y ≤ 62 ∧ D.depthL xs ≤ 62 then R.of ((xs.findIdx? fun z => D.eqv z y).map fun k => .int (k : Nat)) st0 else .stuck := (rfl)
theorem indK_dat {y : D} {st0 : Store} {xs : List D} (h : D.dat y = true ∧ D.datL xs = true ∧ D.depth y ≤ 62 ∧ D.depthL xs ≤ 62) : indK y st0 (some xs) = R.of ((xs.findIdx? fun z => D.eqv z y).map fun k => .int (k : Nat)) st0 := by
  rw [indK_some, if_pos h]
  split <;> rfl
@[simp] theorem flat_bl (b : Bool) : D.flat (.bl b) = true := (rfl)
@[simp] theorem flat_int (b : Int) : D.flat (.int b) = true := (rfl)
@[simp] theorem flat_str (b : S) : D.flat (.str b) = true := (rfl)
@[simp] theorem flat_non : D.flat .non = true := (rfl)
@[simp] theorem flat_tup (b : List D) : D.flat (.tup b) = false := (rfl)
def joinK (s : S) (st0 : Store) : Option (List S) → R D
  | some ps => if (ps.map List.length).sum + ps.length * s.length ≤ sizeLine then .ok (.str (joinS s ps)) st0 else .stuck
  | none => .stuck
@[simp] theorem mth_joinK (s : S) (n : Nat) (st1 : Store) : mthD st .join (.str s) [.loc n] st1 = joinK s (cut st [] st1) ((getL st1 n).bind strsOf) := by
  show (match (getL st1 n).bind strsOf with
      | some ps => if (ps.map List.length).sum + ps.length * s.length ≤ sizeLine then R.ok (D.str (joinS s ps)) (cut st [] st1) else .stuck
      | none => .stuck) = _
  cases (getL st1 n).bind strsOf <;> rfl
theorem joinK_some {s : S} {st0 : Store} {ps : List S} (h : (ps.map List.length).sum + ps.length * s.length ≤ sizeLine) : joinK s st0 (some ps) = .ok (.str (joinS s ps)) st0 := if_pos h
@[simp] theorem eqv_int (i j : Int) : D.eqv (.int i) (.int j) = decide (i = j) := by simp [D.eqv]
@[simp] theorem eqv_str (i j : S) : D.eqv (.str i) (.str j) = decide (i = j) := by simp [D.eqv]
@[simp] theorem eqv_bl (i j : Bool) : D.eqv (.bl i) (.bl j) = (i == j) := by simp [D.eqv]
@[simp] theorem eqv_non : D.eqv .non .non = true := by simp [D.eqv]
@[simp] theorem eqv_tup (a b : List D) : D.eqv (.tup a) (.tup b) = D.eqvL a b := by simp [D.eqv]
@[simp] theorem eqvL_nil : D.eqvL [] [] = true := by simp [D.eqvL]
@[simp] theorem eqvL_cons (a b : D) (r s : List D) : D.eqvL (a :: r) (b :: s) = (D.eqv a b && D.eqvL r s) := by simp [D.eqvL]
@[simp] theorem eqvL_nc (b : D) (s : List D) : D.eqvL [] (b :: s) = false := by simp [D.eqvL]
@[simp] theorem eqvL_cn (b : D) (s : List D) : D.eqvL (b :: s) [] = false := by simp [D.eqvL]
@[simp] theorem eqv_ns (b : S) : D.eqv .non (.str b) = false := by simp [D.eqv]
@[simp] theorem eqv_sn (b : S) : D.eqv (.str b) .non = false := by simp [D.eqv]
@[simp] theorem eqv_ni (b : Int) : D.eqv .non (.int b) = false := by simp [D.eqv]
@[simp] theorem eqv_in (b : Int) : D.eqv (.int b) .non = false := by simp [D.eqv]
@[simp] theorem eqv_si (a : S) (b : Int) : D.eqv (.str a) (.int b) = false := by simp [D.eqv]
@[simp] theorem eqv_is (a : S) (b : Int) : D.eqv (.int b) (.str a) = false := by simp [D.eqv]
@[simp] theorem eqv_st (a : S) (b : List D) : D.eqv (.str a) (.tup b) = false := by simp [D.eqv]
@[simp] theorem eqv_ts (a : S) (b : List D) : D.eqv (.tup b) (.str a) = false := by simp [D.eqv]
@[simp] theorem eqv_it (a : Int) (b : List D) : D.eqv (.int a) (.tup b) = false := by simp [D.eqv]
@[simp] theorem eqv_ti (a : Int) (b : List D) : D.eqv (.tup b) (.int a) = false := by simp [D.eqv]
@[simp] theorem dat_int (i : Int) : D.dat (.int i) = true := by simp [D.dat]
@[simp] theorem dat_str (i : S) : D.dat (.str i) = true := by simp [D.dat]
@[simp] theorem dat_bl (i : Bool) : D.dat (.bl i) = true := by simp [D.dat]
@[simp] theorem dat_non : D.dat .non = true := by simp [D.dat]
@[simp] theorem dat_tup (i : List D) : D.dat (.tup i) = D.datL i := by simp [D.dat]
@[simp] theorem datL_nil : D.datL [] = true := by simp [D.datL]
@[simp] theorem datL_cons (a : D) (r : List D) : D.datL (a :: r) = (D.dat a && D.datL r) := by simp [D.datL]
@[simp] theorem depth_int (i : Int) : D.depth (.int i) = 0 := by simp [D.depth]
@[simp] theorem depth_str (i : S) : D.depth (.str i) = 0 := by simp [D.depth]
@[simp] theorem depth_bl (i : Bool) : D.depth (.bl i) = 0 := by simp [D.depth]
@[simp] theorem depth_non : D.depth .non = 0 := by simp [D.depth]
@[simp] theorem depth_tup (i : List D) : D.depth (.tup i) = D.depthL i + 1 := by simp [D.depth]
@[simp] theorem depthL_nil : D.depthL [] = 0 := by simp [D.depthL]
@[simp] theorem depthL_cons (a : D) (r : List D) : D.depthL (a :: r) = max (D.depth a) (D.depthL r) := by simp [D.depthL]
@[simp] theorem cmp_eqt (a b : List D) : cmpD .Eq (.tup a) (.tup b) st = if D.datL a = true ∧ D.datL b = true ∧ min (D.depthL a + 1) (D.depthL b + 1) ≤ 64 then some (D.eqvL a b) else none := by
  show (if D.dat (.tup a) = true ∧ D.dat (.tup b) = true ∧ min (D.depth (.tup a)) (D.depth (.tup b)) ≤ 64 then some (D.eqv (.tup a) (.tup b)) else none) = _
  simp
@[simp] theorem cmp_net (a b : List D) : cmpD .NotEq (.tup a) (.tup b) st = if D.datL a = true ∧ D.datL b = true ∧ min (D.depthL a + 1) (D.depthL b + 1) ≤ 64 then some (!D.eqvL a b) else none := by
  show (cmpD .Eq (.tup a) (.tup b) st).map (!·) = _
  rw [cmp_eqt]
  split <;> rfl
def attK (f : Nat) : Option C → Option D
  | some (.ins _ fs) => lookF f fs
  | some (.exn _ fs) => lookF f fs
  | _ => none
@[simp] theorem attD_K {st : Store} (f n : Nat) : attD st f (.loc n) = attK f (at_ st n) := by
  unfold at_
  show (match st[n]? with
    | some (.ins _ fs) => lookF f fs
    | some (.exn _ fs) => lookF f fs
    | _ => none) = _
  cases st[n]? with
  | none => rfl
  | some c => cases c <;> rfl
@[simp] theorem attK_exn (f c : Nat) (fs : List (Nat × D)) : attK f (some (.exn c fs)) = lookF f fs := (rfl)
@[simp] theorem lookF_cons (f : Nat) (p : Nat × D) (r : List (Nat × D)) : lookF f (p :: r) = if p.1 = f then some p.2 else lookF f r := (rfl)
@[simp] theorem isTy_non (t : Ty) : isTy cf st t .non = if t.plain = true then some false else none := (rfl)
@[simp] theorem isTy_bl (t : Ty) (b : Bool) : isTy cf st t (.bl b) = if t.plain = true then some (decide (t = .bool) || decide (t = .int)) else none := (rfl)
@[simp] theorem isTy_int (t : Ty) (b : Int) : isTy cf st t (.int b) = if t.plain = true then some (decide (t = .int)) else none := (rfl)
@[simp] theorem isTy_str (t : Ty) (b : S) : isTy cf st t (.str b) = if t.plain = true then some (decide (t = .str)) else none := (rfl)
@[simp] theorem isTy_tup (t : Ty) (b : List D) : isTy cf st t (.tup b) = if t.plain = true then some (decide (t = .tuple)) else none := (rfl)
@[simp] theorem plain_bool : Ty.plain .bool = true := (rfl)
@[simp] theorem plain_int : Ty.plain .int = true := (rfl)
@[simp] theorem plain_str : Ty.plain .str = true := (rfl)
@[simp] theorem plain_tuple : Ty.plain .tuple = true := (rfl)
@[simp] theorem plain_list : Ty.plain .list = true := (rfl)
def isTyK (cf : Cf) (t : Ty) : Option C → Option Bool
    | some (.lst _) => if t.plain = true then some (decide (t = Ty.list)) else none
    | some (.exn c _) => match t with
      | .cls k => some (cf.sub c k)
      | .valueError => some true
      | _ => none
    | _ => none
@[simp] theorem isTy_K {st : Store} (t : Ty) (n : Nat) : isTy cf st t (.loc n) = isTyK cf t (at_ st n) := by
  unfold at_
  show (match st[n]? with
    | some (.lst _) => if t.plain = true then some (decide (t = Ty.list)) else none
    | some (.exn c _) => match t with
      | .cls k => some (cf.sub c k)
      | .valueError => some true
      | _ => none
    | _ => none) = _
  cases st[n]? with
  | none => rfl
  | some c => cases c <;> rfl
@[simp] theorem isTyK_lst (t : Ty) (xs : List D) : isTyK cf t (some (.lst xs)) = if t.plain = true then some (decide (t = Ty.list)) else none := (rfl)
@[simp] theorem isTyK_cls (k c : Nat) (fs : List (Nat × D)) : isTyK cf (.cls k) (some (.exn c fs)) = some (cf.sub c k) := (rfl)
@[simp] theorem isTyK_ve (c : Nat) (fs : List (Nat × D)) : isTyK cf .valueError (some (.exn c fs)) = some true := (rfl)
/-! ### sizes: rows for a discharger that counts -/
@[simp high] theorem bin_adds_c {a b : S} {st1 : Store} (h : a.length + b.length ≤ 16777216) : binD st .add (.str a) (.str b) st1 = .ok (.str (a ++ b)) st1 := if_pos h
@[simp high] theorem bin_addt_c {a b : List D} {st1 : Store} (h : a.length + b.length ≤ 16777216) : binD st .add (.tup a) (.tup b) st1 = .ok (.tup (a ++ b)) st1 := if_pos h
@[simp high] theorem bin_muls_c {a : S} {k : Int} {st1 : Store} (h : a.length * k.toNat ≤ 16777216) (h1 : k < 1073741824) (h2 : -1073741824 < k) : binD st .mul (.str a) (.int k) st1 = .ok (.str (rep k.toNat a)) st1 := if_pos ⟨h, h1, h2⟩
@[simp high] theorem bin_divi_c {i j : Int} {st1 : Store} (h0 : 0 < j) (h : j < 1073741824) : binD st .fdiv (.int i) (.int j) st1 = .ok (.int (i / j)) st1 := if_pos ⟨h0, h⟩
@[simp high] theorem bin_modi_c {i j : Int} {st1 : Store} (h0 : 0 < j) : binD st .mod (.int i) (.int j) st1 = .ok (.int (i % j)) st1 := if_pos h0
@[simp high] theorem newL_c {xs : List D} {st1 : Store} (h : xs.length ≤ 16777216) : newL st xs st1 = .ok (.loc (cut st xs st1).length) (push (cut st xs st1) (.lst xs)) := if_pos h
@[simp high] theorem appK_c {n : Nat} {y : D} {st1 : Store} {xs : List D} (h : xs.length < 16777216) : appK n y st1 (some xs) = R.ok D.non (st1.set n (.lst (xs ++ [y]))) := if_pos h
/-! ### walks -/
theorem argI_in {i : Int} (h : -(2 ^ 62) ≤ i ∧ i < 2 ^ 62) : argI (.int i) = some i := by unfold argI; exact if_pos h
@[simp] theorem argI_c {i : Int} (h1 : -4611686018427387904 ≤ i) (h2 : i < 4611686018427387904) : argI (.int i) = some i := argI_in ⟨h1, h2⟩
theorem argI_nat {n : Nat} (h : n < 2 ^ 62) : argI (.int (n : Int)) = some (n : Int) := argI_in ⟨by omega, by omega⟩
@[simp] theorem rangeD_len (i : Int) (n : Nat) : (rangeD i n).length = n := by simp [rangeD]
theorem rangeD_at {i : Int} {n k : Nat} {d : D} (h : (rangeD i n)[k]? = some d) : k < n ∧ d = .int (i + (k : Int)) := by
  unfold rangeD at h
  rw [List.getElem?_map] at h
  cases q : (List.range n)[k]? with
  | none => rw [q] at h; cases h
  | some j =>
    rw [q] at h
    obtain ⟨h1, h2⟩ := List.getElem?_eq_some_iff.mp q
    simp at h1 h2
    subst h2
    cases h
    exact ⟨h1, rfl⟩
theorem rng0 {n : Nat} {i : Nat} {d : D} (h : (rangeD 0 n)[i]? = some d) : i < n ∧ d = .int (i : Int) := by
  obtain ⟨h1, h2⟩ := rangeD_at h
  exact ⟨h1, by rw [h2, Int.zero_add]⟩
/-- behind a turn -/
def turnQ (Q : RS → Prop) (J : Env → Store → Prop) (r : RS) : Prop := match r with
  | .ok (.nx e) s => J e s
  | .ok (.bk e) s => Q (.ok (.nx e) s)
  | r => Q r
@[simp] theorem turnQ_nx (Q : RS → Prop) (J : Env → Store → Prop) (e : Env) (s : Store) : turnQ Q J (.ok (.nx e) s) = J e s := (rfl)
@[simp] theorem turnQ_bk (Q : RS → Prop) (J : Env → Store → Prop) (e : Env) (s : Store) : turnQ Q J (.ok (.bk e) s) = Q (.ok (.nx e) s) := (rfl)
@[simp] theorem turnQ_rt (Q : RS → Prop) (J : Env → Store → Prop) (d : D) (s : Store) : turnQ Q J (.ok (.rt d) s) = Q (.ok (.rt d) s) := (rfl)
@[simp] theorem turnQ_exc (Q : RS → Prop) (J : Env → Store → Prop) (c : Nat) (fs : List (Nat × D)) (e : Env) (s : Store) : turnQ Q J (.exc c fs e s) = Q (.exc c fs e s) := (rfl)
theorem srcOk_at {s : Store} {n : Nat} {xs : List D} (h : at_ s n = some (.lst xs)) : srcOk (some (n, xs)) s := h
/-- a for: an invariant by the number of turns, and what is asked of all its ends -/
theorem forL_all {src : Option (Nat × List D)} {bind : D → Env → Option Env} {body : Env → Store → RS} {Q : RS → Prop} (I : Nat → Env → Store → Prop) (ok : ∀ i e s, I i e s → srcOk src s) : ∀ {xs : List D} {env : Env} {st : Store} (k : Nat),
    I k env st →
    (∀ i x e s, xs[i]? = some x → I (k + i) e s → ∃ e1, bind x e = some e1 ∧ turnQ Q (I (k + i + 1)) (body e1 s)) →
    (∀ e s, I (k + xs.length) e s → Q (.ok (.nx e) s)) →
    Q (forL src bind body xs env st)
  | [], env, st, k, h, _, fin => by
    unfold forL; rw [if_pos (ok _ _ _ h)]; exact fin _ _ h
  | x :: r, env, st, k, h, step, fin => by
    obtain ⟨e1, b1, t⟩ := step 0 x env st rfl h
    unfold forL
    rw [if_pos (ok _ _ _ h), b1]
    show Q (match body e1 st with
        | .ok (.nx env2) st2 => forL src bind body r env2 st2
        | .ok (.bk env2) st2 => .ok (.nx env2) st2
        | o => o)
    generalize body e1 st = b at t
    cases b with
    | ok ob s => cases ob with
      | nx e => exact forL_all I ok (k + 1) t (fun i x e s hx hI => by
          have e0 : k + 1 + i = k + (i + 1) := by omega
          rw [e0] at hI ⊢
          exact step (i + 1) x e s (by simpa using hx) hI) (fun e s hI => fin e s (by rw [List.length_cons, show k + (r.length + 1) = k + 1 + r.length by omega]; exact hI))
      | bk e => exact t
      | rt d => exact t
    | exc c fs e s => exact t
    | stuck => exact t
/-- the same from 0 -/
theorem for0 {src : Option (Nat × List D)} {bind : D → Env → Option Env} {body : Env → Store → RS} {Q : RS → Prop} {xs : List D} {env : Env} {st : Store} (I : Nat → Env → Store → Prop) (ok : ∀ i e s, I i e s → srcOk src s) (h0 : I 0 env st)
    (step : ∀ i x e s, xs[i]? = some x → I i e s → ∃ e1, bind x e = some e1 ∧ turnQ Q (I (i + 1)) (body e1 s))
    (fin : ∀ e s, I xs.length e s → Q (.ok (.nx e) s)) : Q (forL src bind body xs env st) :=
  forL_all I ok 0 h0 (fun i x e s hx hI => by simpa using step i x e s hx (by simpa using hI)) (fun e s hI => fin e s (by simpa using hI))
/-- a while: an invariant and a measure -/
theorem whlL_all {test : Env → Store → R D} {body : Env → Store → RS} {Q : RS → Prop} (I : Nat → Env → Store → Prop) : ∀ (k : Nat) {env : Env} {st : Store} (n : Nat), n < k → I n env st →
    (∀ n e s, I n e s → (∃ s1, test e s = .ok (.bl false) s1 ∧ Q (.ok (.nx e) s1)) ∨ (∃ s1, test e s = .ok (.bl true) s1 ∧ turnQ Q (fun e2 s2 => ∃ m, m < n ∧ I m e2 s2) (body e s1))) →
    Q (whlL test body k env st)
  | 0, _, _, n, hn, _, _ => by omega
  | k + 1, env, st, n, hn, h, step => by
    unfold whlL
    rcases step n env st h with ⟨s1, t1, q⟩ | ⟨s1, t1, t⟩
    · rw [t1]; exact q
    · rw [t1]
      show Q (match body env s1 with
      | .ok (.nx env2) st2 => whlL test body k env2 st2
      | .ok (.bk env2) st2 => .ok (.nx env2) st2
      | o => o)
      generalize body env s1 = b at t
      cases b with
      | ok ob s => cases ob with
        | nx e =>
          obtain ⟨m, hm, hI⟩ := t
          exact whlL_all I k m (by omega) hI step
        | bk e => exact t
        | rt d => exact t
      | exc c fs e s => exact t
      | stuck => exact t
/-- a comprehension, its items each made in the same store -/
theorem lcL_fm {src : Option (Nat × List D)} {f : D → Store → R (Option D)} {st : Store} (g : D → Option D) (ok : srcOk src st) : ∀ (xs acc : List D), (∀ x ∈ xs, f x st = .ok (g x) st) → acc.length + xs.length ≤ sizeLine → lcL src f xs acc st = .ok (acc ++ xs.filterMap g) st
  | [], acc, _, _ => by rw [lcL_nil ok]; simp
  | x :: r, acc, h, hz => by
    rw [lcL_cons ok, h x List.mem_cons_self]
    rw [List.length_cons] at hz
    have ih := fun acc' (ha : acc'.length ≤ acc.length + 1) => lcL_fm g ok r acc' (fun y hy => h y (List.mem_cons_of_mem _ hy)) (by omega)
    show (match g x with
      | some d => if acc.length < sizeLine then lcL src f r (acc ++ [d]) st else .stuck
      | none => lcL src f r acc st) = _
    cases q : g x with
    | none => 
      show lcL src f r acc st = _
      rw [ih acc (by omega), List.filterMap_cons, q]
    | some d =>
      show (if acc.length < sizeLine then lcL src f r (acc ++ [d]) st else .stuck) = _
      rw [if_pos (by omega), ih (acc ++ [d]) (by simp), List.filterMap_cons, q]
      simp
theorem lcL_map {src : Option (Nat × List D)} {f : D → Store → R (Option D)} {g : D → D} {st : Store} (ok : srcOk src st) (xs acc : List D) (h : ∀ x ∈ xs, f x st = .ok (some (g x)) st) (hz : acc.length + xs.length ≤ sizeLine) : lcL src f xs acc st = .ok (acc ++ xs.map g) st := by
  rw [lcL_fm (fun x => some (g x)) ok xs acc h hz]
  simp [List.filterMap_eq_map']
end
/-! ### calls -/
theorem callF_at {P : Prog} {i : Nat} {fd : FD} (h : P.defs[i]? = some fd) (k : Nat) (ds : List D) (st : Store) (hl : ds.length = fd.pars) : callF P (k + 1) i ds st = (ex (P.cf (callF P k)) P.xf fd.body (ds.map some ++ List.replicate (fd.slots - fd.pars) none) st).back st := by
  show (match P.defs[i]? with
    | some fd => run P (callF P k) fd ds st
    | none => .stuck) = _
  rw [h]
  exact if_pos hl
end Dk
/-! Dp2: the plain side: comprehensions over encoded items, texts cut and joined, sorting of pairs. -/
namespace Dk
open PySem
/-! ### comprehensions over encoded items -/
theorem lcL_enc {α : Type} {src : Option (Nat × List D)} {f : D → Store → R (Option D)} {st : Store} (enc : α → D) (g : α → D) (ok : srcOk src st) (xs : List α) (h : ∀ x ∈ xs, f (enc x) st = .ok (some (g x)) st) (hz : xs.length ≤ sizeLine) : lcL src f (xs.map enc) [] st = .ok (xs.map g) st := by
  suffices ∀ (xs : List α) (acc : List D), (∀ x ∈ xs, f (enc x) st = .ok (some (g x)) st) → acc.length + xs.length ≤ sizeLine → lcL src f (xs.map enc) acc st = .ok (acc ++ xs.map g) st by
    have := this xs [] h (by simpa using hz)
    simpa using this
  intro xs
  induction xs with
  | nil => intro acc _ _; rw [List.map_nil, lcL_nil ok]; simp
  | cons x r ih =>
    intro acc h hz
    rw [List.length_cons] at hz
    rw [List.map_cons, lcL_cons ok, h x List.mem_cons_self]
    show (if acc.length < sizeLine then lcL src f (r.map enc) (acc ++ [g x]) st else .stuck) = _
    rw [if_pos (by omega), ih (acc ++ [g x]) (fun y hy => h y (List.mem_cons_of_mem _ hy)) (by rw [List.length_append, List.length_singleton]; omega)]
    simp
/-- with a test -/
theorem lcL_if {α : Type} {src : Option (Nat × List D)} {f : D → Store → R (Option D)} {st : Store} (enc : α → D) (g : α → D) (p : α → Bool) (ok : srcOk src st) (xs : List α) (h : ∀ x ∈ xs, f (enc x) st = .ok (if p x = true then some (g x) else none) st) (hz : xs.length ≤ sizeLine) : lcL src f (xs.map enc) [] st = .ok ((xs.filter p).map g) st := by
  suffices ∀ (xs : List α) (acc : List D), (∀ x ∈ xs, f (enc x) st = .ok (if p x = true then some (g x) else none) st) → acc.length + xs.length ≤ sizeLine → lcL src f (xs.map enc) acc st = .ok (acc ++ (xs.filter p).map g) st by
    have := this xs [] h (by simpa using hz)
    simpa using this
  intro xs
  induction xs with
  | nil => intro acc _ _; rw [List.map_nil, lcL_nil ok]; simp
  | cons x r ih =>
    intro acc h hz
    rw [List.length_cons] at hz
    rw [List.map_cons, lcL_cons ok, h x List.mem_cons_self]
    have ih' := fun acc' (ha : acc'.length ≤ acc.length + 1) => ih acc' (fun y hy => h y (List.mem_cons_of_mem _ hy)) (by omega)
    cases q : p x with
    | true =>
      show (if acc.length < sizeLine then lcL src f (r.map enc) (acc ++ [g x]) st else .stuck) = _
      rw [if_pos (by omega), ih' (acc ++ [g x]) (by simp), List.filter_cons, if_pos q]
      simp
    | false =>
      show lcL src f (r.map enc) acc st = _
      rw [ih' acc (by omega), List.filter_cons, if_neg (by rw [q]; exact Bool.false_ne_true)]
/-! ### texts cut and joined -/
@[simp] theorem iterD_loc (st : Store) (n : Nat) : iterD st (.loc n) = getL st n := (rfl)
@[simp] theorem iterD_tup (st : Store) (xs : List D) : iterD st (.tup xs) = some xs := (rfl)
theorem strsOf_map {α : Type} (f : α → S) : ∀ xs : List α, strsOf (xs.map fun x => .str (f x)) = some (xs.map f)
  | [] => rfl
  | x :: r => by
    show (strsOf (r.map fun x => D.str (f x))).map (f x :: ·) = _
    rw [strsOf_map f r]; rfl
@[simp] theorem strsOf_str (xs : List S) : strsOf (xs.map .str) = some xs := by
  have := strsOf_map (fun x : S => x) xs
  simpa using this
theorem mth_join {st st1 : Store} {s : S} {y : D} {ys : List D} {ps : List S} (h0 : isStr y = false) (hy : iterD st1 y = some ys) (h : strsOf ys = some ps) (hz : (ps.map List.length).sum + ps.length * s.length ≤ sizeLine) : mthD st .join (.str s) [y] st1 = .ok (.str (joinS s ps)) (cut st [] st1) := by
  show (if isStr y = true then R.stuck else match (iterD st1 y).bind strsOf with
      | some ps => if (ps.map List.length).sum + ps.length * s.length ≤ sizeLine then R.ok (D.str (joinS s ps)) (cut st [] st1) else .stuck
      | none => .stuck) = _
  rw [if_neg (by rw [h0]; exact Bool.false_ne_true), hy]
  show (match strsOf ys with
      | some ps => if (ps.map List.length).sum + ps.length * s.length ≤ sizeLine then R.ok (D.str (joinS s ps)) (cut st [] st1) else .stuck
      | none => .stuck) = _
  rw [h]
  exact if_pos hz
theorem mth_split {st st1 : Store} {s : S} {c : Nat} (h : s.length + 2 ≤ sizeLine) (hc : c < 256) : mthD st .split (.str s) [.str [c]] st1 = newL st ((splitS c [] s).map .str) st1 := by
  show (if s.length + 2 ≤ sizeLine ∧ c < 256 then newL st ((splitS c [] s).map .str) st1 else .stuck) = _
  exact if_pos ⟨h, hc⟩
@[simp] theorem mth_count (st st1 : Store) (s : S) (c : Nat) : mthD st .count (.str s) [.str [c]] st1 = .ok (.int (s.count c : Nat)) st1 := (rfl)
@[simp] theorem mth_find (st st1 : Store) (s : S) (c : Nat) : mthD st .find (.str s) [.str [c]] st1 = .ok (match s.findIdx? fun z => z == c with
      | some k => .int (k : Nat)
      | none => .int (-1)) st1 := by
  show R.of (some _) st1 = _
  rfl
theorem split_len (c : Nat) : ∀ (s acc : S), (splitS c acc s).length = s.count c + 1
  | [], acc => rfl
  | x :: r, acc => by
    unfold splitS
    by_cases h : x = c
    · rw [if_pos h, List.length_cons, split_len c r []]
      subst h; simp
    · rw [if_neg h, split_len c r _, List.count_cons_of_ne h]
theorem split_none (c : Nat) : ∀ (s acc : S), c ∉ s → splitS c acc s = [acc ++ s]
  | [], acc, _ => by simp [splitS]
  | x :: r, acc, h => by
    unfold splitS
    rw [if_neg (fun e => h (by rw [e]; exact List.mem_cons_self)), split_none c r _ (fun e => h (List.mem_cons_of_mem _ e))]
    simp
theorem split_at (c : Nat) (b : S) : ∀ (a acc : S), c ∉ a → splitS c acc (a ++ c :: b) = (acc ++ a) :: splitS c [] b
  | [], acc, _ => by simp [splitS]
  | x :: r, acc, h => by
    rw [List.cons_append]
    conv => lhs; unfold splitS
    rw [if_neg (fun e => h (by rw [e]; exact List.mem_cons_self)), split_at c b r _ (fun e => h (List.mem_cons_of_mem _ e))]
    simp
/-- joined, then cut -/
theorem split_join (c : Nat) : ∀ (ls : List S), ls ≠ [] → (∀ l ∈ ls, c ∉ l) → splitS c [] (joinS [c] ls) = ls
  | [], h, _ => absurd rfl h
  | [p], _, h => by
    show splitS c [] p = _
    rw [split_none c p [] (h p List.mem_cons_self)]; rfl
  | p :: q :: r, _, h => by
    show splitS c [] (p ++ ([c] ++ joinS [c] (q :: r))) = _
    rw [show p ++ ([c] ++ joinS [c] (q :: r)) = p ++ c :: joinS [c] (q :: r) from rfl, split_at c _ p [] (h p List.mem_cons_self), split_join c (q :: r) (by simp) (fun l hl => h l (List.mem_cons_of_mem _ hl))]
    rfl
theorem join_snoc (c : S) : ∀ (ls : List S) (x : S), ls ≠ [] → joinS c (ls ++ [x]) = joinS c ls ++ c ++ x
  | [], x, h => absurd rfl h
  | [p], x, _ => by simp [joinS]
  | p :: q :: r, x, _ => by
    have ih := join_snoc c (q :: r) x (by simp)
    show p ++ (c ++ joinS c ((q :: r) ++ [x])) = _
    rw [ih]
    show _ = p ++ (c ++ joinS c (q :: r)) ++ c ++ x
    simp
theorem join_len (c : S) : ∀ (ls : List S), (joinS c ls).length ≤ (ls.map List.length).sum + ls.length * c.length
  | [] => by simp [joinS]
  | [p] => by simp [joinS]
  | p :: q :: r => by
    have ih := join_len c (q :: r)
    show (p ++ (c ++ joinS c (q :: r))).length ≤ _
    have e : (r.length + 1 + 1) * c.length = (r.length + 1) * c.length + c.length := by rw [Nat.add_mul, Nat.one_mul]
    simp only [List.length_append, List.map_cons, List.sum_cons, List.length_cons] at ih ⊢
    omega
theorem join_nil : ∀ (ls : List S) (c : S), (∃ l ∈ ls, l ≠ []) → joinS c ls ≠ []
  | [p], c, h => by
    obtain ⟨l, hl, hn⟩ := h
    rw [List.mem_singleton] at hl
    subst hl; exact hn
  | p :: q :: r, c, h => by
    intro e
    have e : p ++ (c ++ joinS c (q :: r)) = [] := e
    simp only [List.append_eq_nil_iff] at e
    obtain ⟨l, hl, hn⟩ := h
    rcases List.mem_cons.mp hl with rfl | hl
    · exact hn e.1
    · exact join_nil (q :: r) c ⟨l, hl, hn⟩ e.2.2
theorem sum_len (m : Nat) : ∀ (ls : List S), (∀ l ∈ ls, l.length ≤ m) → (ls.map List.length).sum ≤ ls.length * m
  | [], _ => by simp
  | p :: r, h => by
    have ih := sum_len m r (fun l hl => h l (List.mem_cons_of_mem _ hl))
    have := h p List.mem_cons_self
    simp only [List.map_cons, List.sum_cons, List.length_cons, Nat.add_mul, Nat.one_mul]
    omega
theorem join_size {ps : List S} {m k : Nat} {s : S} (h1 : ps.length ≤ k) (h2 : ∀ l ∈ ps, l.length ≤ m) (h3 : k * m + k * s.length ≤ sizeLine) : (ps.map List.length).sum + ps.length * s.length ≤ sizeLine := by
  have := sum_len m ps h2
  have : ps.length * m ≤ k * m := Nat.mul_le_mul_right _ h1
  have : ps.length * s.length ≤ k * s.length := Nat.mul_le_mul_right _ h1
  omega
theorem set_map_str (ls : List S) (a : Nat) (x : S) : (ls.map D.str).set a (.str x) = (ls.set a x).map D.str := by rw [List.map_set]
@[simp] theorem strsOf_set (ls : List S) (a : Nat) (x : S) : strsOf ((ls.map D.str).set a (.str x)) = some (ls.set a x) := by rw [set_map_str, strsOf_str]
@[simp] theorem strsOf_set2 (ls : List S) (a b : Nat) (x y : S) : strsOf (((ls.map D.str).set a (.str x)).set b (.str y)) = some ((ls.set a x).set b y) := by rw [set_map_str, set_map_str, strsOf_str]
/-- a comprehension that makes texts -/
theorem lcL_str {α : Type} {src : Option (Nat × List D)} {f : D → Store → R (Option D)} {st : Store} (enc : α → D) (g : α → S) (ok : srcOk src st) (xs : List α) (h : ∀ x ∈ xs, f (enc x) st = .ok (some (.str (g x))) st) (hz : xs.length ≤ sizeLine) : lcL src f (xs.map enc) [] st = .ok ((xs.map g).map D.str) st := by
  rw [lcL_enc enc (fun x => .str (g x)) ok xs h hz, List.map_map]; rfl
theorem cutL_from {α : Type} (xs : List α) (k : Nat) : cutL xs (some (k : Int)) none = xs.drop k := by
  unfold cutL
  rw [HT.sIx_nat, HT.sIx_none]
  by_cases h : k ≤ xs.length
  · rw [Nat.min_eq_left h, List.take_of_length_le (by rw [List.length_drop]; omega)]
  · rw [Nat.min_eq_right (by omega), List.drop_length, List.drop_of_length_le (by omega)]; simp
theorem cutL_to {α : Type} (xs : List α) (k : Nat) : cutL xs none (some (k : Int)) = xs.take k := by
  unfold cutL
  rw [HT.sIx_nat, HT.sIx_none, List.drop_zero, Nat.sub_zero]
  by_cases h : k ≤ xs.length
  · rw [Nat.min_eq_left h]
  · rw [Nat.min_eq_right (by omega), List.take_length, List.take_of_length_le (by omega)]
theorem cutL_mid {α : Type} (xs : List α) (j k : Nat) : cutL xs (some (j : Int)) (some (k : Int)) = (xs.drop j).take (k - j) := by
  unfold cutL
  rw [HT.sIx_nat, HT.sIx_nat]
  by_cases h : j ≤ xs.length
  · rw [Nat.min_eq_left h]
    by_cases h2 : k ≤ xs.length
    · rw [Nat.min_eq_left h2]
    · rw [Nat.min_eq_right (a := k) (by omega), List.take_of_length_le (by rw [List.length_drop]; omega), List.take_of_length_le (by rw [List.length_drop]; omega)]
  · rw [Nat.min_eq_right (a := j) (by omega), List.drop_length, List.drop_of_length_le (l := xs) (i := j) (by omega)]; simp
theorem cutL_last {α : Type} (xs : List α) : cutL xs none (some (-1)) = xs.dropLast := by
  unfold cutL
  rw [HT.sIx_none, List.drop_zero, Nat.sub_zero, List.dropLast_eq_take]
  have : HT.sIx xs.length xs.length (some (-1)) = xs.length - 1 := by
    simp only [HT.sIx]
    rw [if_pos (show (-1 : Int) < 0 by decide)]; omega
  rw [this]
theorem cutL_map {α β : Type} (f : α → β) (xs : List α) (lo hi : Option Int) : cutL (xs.map f) lo hi = (cutL xs lo hi).map f := by
  unfold cutL
  rw [List.length_map, List.map_take, List.map_drop]
theorem cutL_all {α : Type} (xs : List α) : cutL xs none none = xs := by
  unfold cutL
  simp [HT.sIx]
theorem rangeD_map1 (m n : Nat) : rangeD m n = (List.range n).map fun k : Nat => D.int ((m + k : Nat) : Int) := by
  unfold rangeD
  apply List.map_congr_left
  intro k _
  rw [Int.natCast_add]
theorem datL_map {α : Type} {f : α → D} (h : ∀ a, D.dat (f a) = true) (xs : List α) : D.datL (xs.map f) = true := by
  induction xs with
  | nil => rfl
  | cons x r ih => simp [D.datL, h, ih]
theorem rangeD_map (n : Nat) : rangeD 0 n = (List.range n).map fun k : Nat => D.int (k : Int) := by
  unfold rangeD
  apply List.map_congr_left
  intro k _
  rw [Int.zero_add]
theorem join_empty : ∀ ls : List S, joinS [] ls = ls.flatten
  | [] => rfl
  | [p] => by simp [joinS]
  | p :: q :: r => by
    show p ++ ([] ++ joinS [] (q :: r)) = _
    rw [join_empty (q :: r)]; simp
theorem low_at {i : Int} (h0 : 0 ≤ i) (h : i < 26) : atI lowS i = some (97 + i.toNat) := by
  obtain ⟨k, rfl⟩ := Int.eq_ofNat_of_zero_le h0
  have : ∀ k : Nat, k < 26 → lowS[k]? = some (97 + k) := by decide
  rw [atI_nat (by rw [low_len]; omega), this k (by omega)]; simp
/-! ### pairs of texts in order -/
def encF (p : S × S) : D := .tup [.str p.1, .str p.2]
@[simp] theorem bel_encF (n : Nat) (p : S × S) : D.bel n (encF p) = true := (rfl)
@[simp] theorem bel_encFs (n : Nat) (ps : List (S × S)) : D.belL n (ps.map encF) = true := belL_map fun _ => rfl
theorem depth_encFs (fs : List (S × S)) : D.depthL (fs.map encF) ≤ 1 := by
  induction fs with
  | nil => simp [D.depthL]
  | cons p r ih => simp only [List.map_cons, D.depthL, encF, D.depth]; simp; exact Nat.max_le.mpr ⟨Nat.le_refl _, ih⟩
def leF (p q : S × S) : Bool := decide (p.1 < q.1 ∨ (p.1 = q.1 ∧ p.2 ≤ q.2))
theorem py_str (s : S) : (D.str s).py = .str ⟨s.toArray⟩ := by simp [D.py]
theorem lt_s (a b : S) : PySem.W.dataLt (.str ⟨a.toArray⟩) (.str ⟨b.toArray⟩) = decide (a < b) := by
  rw [PySem.W.dataLt_str]
theorem str_inj (a b : S) : ((⟨a.toArray⟩ : Str) = ⟨b.toArray⟩) ↔ (a = b) := by
  constructor
  · intro h
    have := congrArg (fun x : Str => x.cps.toList) h
    simpa using this
  · intro h; rw [h]
theorem leF_ok (p q : S × S) : PySem.W.dataLe false D.py (encF p) (encF q) = leF p q := by
  obtain ⟨a, b⟩ := p
  obtain ⟨c, d⟩ := q
  have e : PySem.W.dataLe false D.py (encF (a, b)) (encF (c, d)) = !PySem.W.dataLt (.tuple [.str ⟨c.toArray⟩, .str ⟨d.toArray⟩]) (.tuple [.str ⟨a.toArray⟩, .str ⟨b.toArray⟩]) := by
    rw [PySem.W.dataLe_eq]
    simp [encF, D.py, D.pyL]
  rw [e, PySem.W.dataLt_pair (by simp [PySem.W.alike]) (by simp [PySem.W.alike]), lt_s, lt_s]
  have q0 : ∀ x y : S, PyData.eqv (.str ⟨x.toArray⟩) (.str ⟨y.toArray⟩) = decide (x = y) := by
    intro x y
    by_cases h : x = y
    · subst h; simp [PyData.eqv]
    · have h' : (⟨x.toArray⟩ : Str) ≠ ⟨y.toArray⟩ := fun z => h ((str_inj x y).mp z)
      simp [PyData.eqv, h]
  have q1 := q0 c a
  have q2 := q0 d b
  rw [q1, q2]
  unfold leF
  by_cases h1 : c = a
  · subst h1
    have irr : ¬ c < c := fun h => List.lt_irrefl c h
    by_cases h2 : d = b
    · subst h2
      have : d ≤ d := List.le_refl d
      simp [irr, this]
    · by_cases h3 : d < b
      · have : ¬ b ≤ d := fun h => List.not_lt.mpr h h3
        simp [irr, h2, h3, this]
      · have : b ≤ d := List.not_lt.mp h3
        simp [irr, h2, h3, this]
  · have h1' : ¬ a = c := fun h => h1 h.symm
    by_cases h2 : c < a
    · have : ¬ a < c := fun h => List.lt_asymm h h2
      simp [h1, h2, this, h1']
    · have : a < c := by
        rcases List.le_iff_lt_or_eq.mp (List.not_lt.mp h2) with h | h
        · exact h
        · exact absurd h h1'
      simp [h1, h2, this, h1']
theorem sortOk_F (ps : List (S × S)) : sortOk (ps.map encF) = true := by
  have h1 : D.datL (ps.map encF) = true := by
    induction ps with
    | nil => rfl
    | cons p r ih => simpa [D.datL, encF, D.dat] using ih
  have h2 : ∀ a ∈ ps.map encF, ∀ b ∈ ps.map encF, PySem.W.alike a.py b.py = true := by
    intro a ha b hb
    obtain ⟨p, _, rfl⟩ := List.mem_map.mp ha
    obtain ⟨q, _, rfl⟩ := List.mem_map.mp hb
    simp [encF, D.py, D.pyL, PySem.W.alike, PySem.W.alikeAll]
  have h3 : (ps.map encF).all isTup1 = true := by
    rw [List.all_eq_true]
    intro a ha
    obtain ⟨p, _, rfl⟩ := List.mem_map.mp ha
    rfl
  have h4 : D.depthL (ps.map encF) ≤ 40 := by
    have : D.depthL (ps.map encF) ≤ 1 := by
      induction ps with
      | nil => simp [D.depthL]
      | cons p r ih =>
        have := ih (by
          induction r with
          | nil => rfl
          | cons p r ih => simp [D.datL, encF, D.dat] at h1 ⊢; exact h1) (fun a ha b hb => h2 a (List.mem_cons_of_mem _ ha) b (List.mem_cons_of_mem _ hb)) (List.all_eq_true.mpr fun a ha => List.all_eq_true.mp h3 a (List.mem_cons_of_mem _ ha))
        simp only [List.map_cons, D.depthL, encF, D.depth]
        simp
        exact Nat.max_le.mpr ⟨Nat.le_refl _, this⟩
    omega
  unfold sortOk
  rw [h1, h3]
  have h2' : ((ps.map encF).all fun a => (ps.map encF).all fun b => PySem.W.alike a.py b.py) = true := by
    rw [List.all_eq_true]
    intro a ha
    rw [List.all_eq_true]
    exact fun b hb => h2 a ha b hb
  rw [h2']
  simp [h4]
theorem sort_F (ps : List (S × S)) : (ps.map encF).mergeSort (PySem.W.dataLe false D.py) = (ps.mergeSort leF).map encF := by
  rw [List.map_mergeSort (r := leF) (s := PySem.W.dataLe false D.py) (f := encF)]
  exact fun a _ b _ => (leF_ok a b).symm
theorem leF_trans (a b c : S × S) : leF a b = true → leF b c = true → leF a c = true := by
  simp only [leF, decide_eq_true_eq]
  rintro (h1 | ⟨h1, h2⟩) (h3 | ⟨h3, h4⟩)
  · exact .inl (List.lt_trans h1 h3)
  · exact .inl (h3 ▸ h1)
  · exact .inl (h1 ▸ h3)
  · exact .inr ⟨h1.trans h3, List.le_trans h2 h4⟩
theorem leF_total (a b : S × S) : (leF a b || leF b a) = true := by
  simp only [leF, Bool.or_eq_true, decide_eq_true_eq]
  by_cases h : a.1 = b.1
  · rcases List.le_total a.2 b.2 with h2 | h2
    · exact .inl (.inr ⟨h, h2⟩)
    · exact .inr (.inr ⟨h.symm, h2⟩)
  · by_cases h2 : a.1 < b.1
    · exact .inl (.inl h2)
    · right; left
      rcases List.le_iff_lt_or_eq.mp (List.not_lt.mp h2) with h3 | h3
      · exact h3
      · exact absurd h3.symm h
/-- files in order: each name above the one before it -/
def asc (fs : List (S × S)) : Prop := fs.Pairwise fun a b => a.1 < b.1
/-- other names: sorted files are in order -/
theorem asc_sort {fs : List (S × S)} (h : (fs.map (·.1)).Nodup) : asc (fs.mergeSort leF) := by
  have p : (fs.mergeSort leF).Pairwise fun a b => leF a b = true := List.pairwise_mergeSort (le := leF) leF_trans leF_total fs
  have nd : ((fs.mergeSort leF).map (·.1)).Nodup := ((List.mergeSort_perm fs leF).map _).nodup_iff.mpr h
  have nd2 : (fs.mergeSort leF).Pairwise fun a b => a.1 ≠ b.1 := List.pairwise_map.mp nd
  exact (p.and nd2).imp fun {a b} ⟨h1, h2⟩ => by
    simp only [leF, decide_eq_true_eq] at h1
    rcases h1 with h1 | h1
    · exact h1
    · exact absurd h1.1 h2
theorem asc_at {fs : List (S × S)} (h : asc fs) {i j : Nat} (hij : i < j) (hj : j < fs.length) : (gD fs i).1 < (gD fs j).1 := by
  rw [gD_get hj, gD_get (by omega : i < fs.length)]
  exact List.pairwise_iff_getElem.mp h i j (by omega) hj hij
end Dk
/-! Dp3: the plain side: own classes, two clauses, tuples of texts. -/
namespace Dk
open PySem
section
variable {cf : Cf} {xf : Nat → Option (List Nat)} {env : Env} {st : Store}
/-! ### methods -/
noncomputable def kOmt4 (cf : Cf) (f n : Nat) (r : R (List D)) : R D := r.bind fun ds s2 => cf.fn f (.loc n :: ds) s2
@[simp] theorem kOmt4_ok (f n : Nat) (ds : List D) (s2 : Store) : kOmt4 cf f n (.ok ds s2) = cf.fn f (.loc n :: ds) s2 := (rfl)
@[simp] theorem kOmt4_exc (f n : Nat) (c0 : Nat) (f0 : List (Nat × D)) (s0 : Store) : kOmt4 cf f n (.exc c0 f0 s0) = .exc c0 f0 s0 := (rfl)
noncomputable def kOmt3 (cf : Cf) (as : T) (env : Env) (n : Nat) (s1 : Store) : Option Nat → R D
  | some f => kOmt4 cf f n (evs cf as env s1)
  | none => .stuck
@[simp] theorem kOmt3_some (as : T) (n : Nat) (s1 : Store) (f : Nat) : kOmt3 cf as env n s1 (some f) = kOmt4 cf f n (evs cf as env s1) := (rfl)
noncomputable def kOmt2 (cf : Cf) (m : Nat) (as : T) (env : Env) (n : Nat) (s1 : Store) : Option C → R D
  | some (.ins c _) => kOmt3 cf as env n s1 (cf.mt c m)
  | _ => .stuck
@[simp] theorem kOmt2_ins (m : Nat) (as : T) (n : Nat) (s1 : Store) (c : Nat) (fs : List (Nat × D)) : kOmt2 cf m as env n s1 (some (.ins c fs)) = kOmt3 cf as env n s1 (cf.mt c m) := (rfl)
noncomputable def kOmt1 (cf : Cf) (m : Nat) (as : T) (env : Env) (s1 : Store) : D → R D
  | .loc n => kOmt2 cf m as env n s1 (at_ s1 n)
  | _ => .stuck
@[simp] theorem kOmt1_loc (m : Nat) (as : T) (s1 : Store) (n : Nat) : kOmt1 cf m as env s1 (.loc n) = kOmt2 cf m as env n s1 (at_ s1 n) := (rfl)
noncomputable def kOmt (cf : Cf) (m : Nat) (as : T) (env : Env) (r : R D) : R D := r.bind fun x s1 => kOmt1 cf m as env s1 x
@[simp] theorem kOmt_ok (m : Nat) (as : T) (x : D) (s1 : Store) : kOmt cf m as env (.ok x s1) = kOmt1 cf m as env s1 x := (rfl)
@[simp] theorem kOmt_exc (m : Nat) (as : T) (c0 : Nat) (f0 : List (Nat × D)) (s0 : Store) : kOmt cf m as env (.exc c0 f0 s0) = .exc c0 f0 s0 := (rfl)
@[simp ↓] theorem ev_omt (m : Nat) (o as : T) : ev cf (.omt m o as) env st = kOmt cf m as env (ev cf o env st) := by
  have q : ev cf (.omt m o as) env st = (ev cf o env st).bind fun x st1 => match x with
    | .loc n => match st1[n]? with
      | some (.ins c fs) => match cf.mt c m with
        | some f => (evs cf as env st1).bind fun ds st2 => cf.fn f (.loc n :: ds) st2
        | none => R.stuck
      | _ => R.stuck
    | _ => R.stuck := rfl
  rw [q]
  unfold kOmt
  congr 1
/-! ### instances made -/
noncomputable def retN (n : Nat) (r : R D) : R D := r.bind fun d s => match d with
    | .non => .ok (.loc n) s
    | _ => .stuck
@[simp] theorem retN_ok (n : Nat) (s : Store) : retN n (.ok .non s) = .ok (.loc n) s := (rfl)
@[simp] theorem retN_exc (n : Nat) (c0 : Nat) (f0 : List (Nat × D)) (s0 : Store) : retN n (.exc c0 f0 s0) = .exc c0 f0 s0 := (rfl)
noncomputable def kNew2 (cf : Cf) (c : Nat) (ds : List D) (s1 : Store) : Option Nat → R D
  | some f => retN s1.length (cf.fn f (.loc s1.length :: ds) (push s1 (.ins c [])))
  | none => .stuck
@[simp] theorem kNew2_some (c : Nat) (ds : List D) (s1 : Store) (f : Nat) : kNew2 cf c ds s1 (some f) = retN s1.length (cf.fn f (.loc s1.length :: ds) (push s1 (.ins c []))) := (rfl)
noncomputable def kNew (cf : Cf) (c : Nat) (r : R (List D)) : R D := r.bind fun ds s1 => kNew2 cf c ds s1 (cf.ini c)
@[simp] theorem kNew_ok (c : Nat) (ds : List D) (s1 : Store) : kNew cf c (.ok ds s1) = kNew2 cf c ds s1 (cf.ini c) := (rfl)
@[simp] theorem kNew_exc (c : Nat) (c0 : Nat) (f0 : List (Nat × D)) (s0 : Store) : kNew cf c (.exc c0 f0 s0) = .exc c0 f0 s0 := (rfl)
@[simp ↓] theorem ev_new (c : Nat) (as : T) : ev cf (.new c as) env st = kNew cf c (evs cf as env st) := by
  have q : ev cf (.new c as) env st = (evs cf as env st).bind fun ds st1 => match cf.ini c with
    | some f => (cf.fn f (.loc st1.length :: ds) (st1 ++ [.ins c []])).bind fun d st2 => match d with
      | .non => R.ok (D.loc st1.length) st2
      | _ => R.stuck
    | none => R.stuck := rfl
  rw [q]
  unfold kNew
  congr 1
@[simp] theorem cf_mt (P : Prog) (fn : Nat → List D → Store → R D) : (P.cf fn).mt = P.mt := (rfl)
@[simp] theorem cf_ini (P : Prog) (fn : Nat → List D → Store → R D) : (P.cf fn).ini = P.ini := (rfl)
/-! ### attributes -/
@[simp] theorem attK_ins (f c : Nat) (fs : List (Nat × D)) : attK f (some (.ins c fs)) = lookF f fs := (rfl)
@[simp] theorem setF_nil (f : Nat) (d : D) : setF f d [] = [(f, d)] := (rfl)
@[simp] theorem setF_cons (f : Nat) (d : D) (p : Nat × D) (r : List (Nat × D)) : setF f d (p :: r) = if p.1 = f then (f, d) :: r else p :: setF f d r := (rfl)
def setAK (n f : Nat) (v : D) (st : Store) : Option C → Option Store
  | some (.ins c fs) => if fs.length < 900 then some (st.set n (.ins c (setF f v fs))) else none
  | _ => none
@[simp] theorem setAK_ins {st : Store} (n f : Nat) (v : D) (c : Nat) (fs : List (Nat × D)) : setAK n f v st (some (.ins c fs)) = if fs.length < 900 then some (st.set n (.ins c (setF f v fs))) else none := (rfl)
@[simp] theorem setA_K {st : Store} (n f : Nat) (v : D) : setA (.loc n) f v st = setAK n f v st (at_ st n) := by
  unfold at_
  show (match st[n]? with
    | some (.ins c fs) => if fs.length < 900 then some (st.set n (.ins c (setF f v fs))) else none
    | _ => none) = _
  cases st[n]? with
  | none => rfl
  | some c => cases c <;> rfl
def insCK : Option C → Option Nat
  | some (.ins c _) => some c
  | _ => none
@[simp] theorem insCK_ins (c : Nat) (fs : List (Nat × D)) : insCK (some (.ins c fs)) = some c := (rfl)
@[simp] theorem insC_K {st : Store} (n : Nat) : insC st (.loc n) = insCK (at_ st n) := by
  unfold at_
  show (match st[n]? with
    | some (.ins c _) => some c
    | _ => none) = _
  cases st[n]? with
  | none => rfl
  | some c => cases c <;> rfl
def augA3 (x : D) (f : Nat) (env : Env) (s2 : Store) : Option D → RS
  | some d => RS.ofS (setA x f d s2) env
  | none => .stuck
@[simp] theorem augA3_some (x : D) (f : Nat) (s2 : Store) (d : D) : augA3 x f env s2 (some d) = RS.ofS (setA x f d s2) env := (rfl)
noncomputable def kAugA2 (o : Op) (x : D) (f c : Nat) (old : D) (env : Env) (r : R D) : RS := r.go env fun y s2 => if insC s2 x = some c then augA3 x f env s2 (augD o old y) else .stuck
@[simp] theorem kAugA2_ok (o : Op) (x : D) (f c : Nat) (old y : D) (s2 : Store) : kAugA2 o x f c old env (.ok y s2) = if insC s2 x = some c then augA3 x f env s2 (augD o old y) else .stuck := (rfl)
@[simp] theorem kAugA2_exc (o : Op) (x : D) (f c : Nat) (old : D) (c0 : Nat) (f0 : List (Nat × D)) (s0 : Store) : kAugA2 o x f c old env (.exc c0 f0 s0) = .exc c0 f0 env s0 := (rfl)
noncomputable def augA1 (cf : Cf) (o : Op) (x : D) (f : Nat) (e : T) (env : Env) (s1 : Store) : Option Nat → Option D → RS
  | some c, some old => kAugA2 o x f c old env (ev cf e env s1)
  | _, _ => .stuck
@[simp] theorem augA1_some (o : Op) (x : D) (f : Nat) (e : T) (s1 : Store) (c : Nat) (old : D) : augA1 cf o x f e env s1 (some c) (some old) = kAugA2 o x f c old env (ev cf e env s1) := (rfl)
noncomputable def kAugA (cf : Cf) (o : Op) (f : Nat) (e : T) (env : Env) (r : R D) : RS := r.go env fun x s1 => augA1 cf o x f e env s1 (insC s1 x) (attD s1 f x)
@[simp] theorem kAugA_ok (o : Op) (f : Nat) (e : T) (x : D) (s1 : Store) : kAugA cf o f e env (.ok x s1) = augA1 cf o x f e env s1 (insC s1 x) (attD s1 f x) := (rfl)
@[simp] theorem kAugA_exc (o : Op) (f : Nat) (e : T) (c0 : Nat) (f0 : List (Nat × D)) (s0 : Store) : kAugA cf o f e env (.exc c0 f0 s0) = .exc c0 f0 env s0 := (rfl)
@[simp ↓] theorem ex_aug_att (o : Op) (a : T) (f : Nat) (e : T) : ex cf xf (.aug o (.att a f) e) env st = kAugA cf o f e env (ev cf a env st) := by
  show ((ev cf a env st).go env fun x st1 => match insC st1 x, attD st1 f x with
    | some c, some old => (ev cf e env st1).go env fun y st2 => if insC st2 x = some c then (match augD o old y with
      | some d => RS.ofS (setA x f d st2) env
      | none => .stuck) else .stuck
    | _, _ => .stuck) = _
  unfold kAugA
  congr 1
/-! ### x in a tuple of texts -/
def inkD (neg : Bool) (xs : List S) (s1 : Store) : D → R D
  | .str z => .ok (.bl (xor neg (xs.contains z))) s1
  | _ => .stuck
@[simp] theorem inkD_str (neg : Bool) (xs : List S) (s1 : Store) (z : S) : inkD neg xs s1 (.str z) = .ok (.bl (xor neg (xs.contains z))) s1 := (rfl)
noncomputable def kInk (neg : Bool) (xs : List S) (r : R D) : R D := r.bind fun x s1 => inkD neg xs s1 x
@[simp] theorem kInk_ok (neg : Bool) (xs : List S) (x : D) (s1 : Store) : kInk neg xs (.ok x s1) = inkD neg xs s1 x := (rfl)
@[simp] theorem kInk_exc (neg : Bool) (xs : List S) (c0 : Nat) (f0 : List (Nat × D)) (s0 : Store) : kInk neg xs (.exc c0 f0 s0) = .exc c0 f0 s0 := (rfl)
@[simp ↓] theorem ev_ink (neg : Bool) (a : T) (xs : List S) : ev cf (.ink neg a xs) env st = kInk neg xs (ev cf a env st) := by
  have q : ev cf (.ink neg a xs) env st = (ev cf a env st).bind fun x st1 => match x with
    | .str z => R.ok (.bl (xor neg (xs.contains z))) st1
    | _ => R.stuck := rfl
  rw [q]
  unfold kInk
  congr 1
/-! ### two clauses -/
noncomputable def lc2B (cf : Cf) (elt : T) (s4 : Store) : Option Env → R (Option D)
  | some env3 => (kLcE (ev cf elt env3 s4)).nox
  | none => .stuck
@[simp] theorem lc2B_some (elt : T) (s4 : Store) (env3 : Env) : lc2B cf elt s4 (some env3) = (kLcE (ev cf elt env3 s4)).nox := (rfl)
noncomputable def lc2I (cf : Cf) (vs : List Nat) (tg1 elt : T) (env2 : Env) (y : D) (s4 : Store) : R (Option D) := lc2B cf elt s4 (bindV tg1 y (wipe env2 vs))
noncomputable def kLc2y (cf : Cf) (vs : List Nat) (tg1 elt : T) (env2 : Env) (acc : List D) (r : R (List D)) : R (List D) := r.bind fun ys s3 => lcL none (lc2I cf vs tg1 elt env2) ys acc s3
@[simp] theorem kLc2y_ok (vs : List Nat) (tg1 elt : T) (env2 : Env) (acc ys : List D) (s3 : Store) : kLc2y cf vs tg1 elt env2 acc (.ok ys s3) = lcL none (lc2I cf vs tg1 elt env2) ys acc s3 := (rfl)
noncomputable def lc2C (cf : Cf) (vs : List Nat) (tg1 it1 elt : T) (acc : List D) (s2 : Store) : Option Env → R (List D)
  | some env2 => (kLc2y cf vs tg1 elt env2 acc (evt cf it1 env2 s2)).nox
  | none => .stuck
@[simp] theorem lc2C_some (vs : List Nat) (tg1 it1 elt : T) (acc : List D) (s2 : Store) (env2 : Env) : lc2C cf vs tg1 it1 elt acc s2 (some env2) = (kLc2y cf vs tg1 elt env2 acc (evt cf it1 env2 s2)).nox := (rfl)
noncomputable def lc2F (cf : Cf) (own vs : List Nat) (tg tg1 it1 elt : T) (env : Env) (x : D) (acc : List D) (s2 : Store) : R (List D) := lc2C cf vs tg1 it1 elt acc s2 (bindV tg x (wipe env own))
noncomputable def kLc21 (cf : Cf) (own vs : List Nat) (tg tg1 it1 elt : T) (env : Env) (st : Store) (r : R (List D × Option (Nat × List D))) : R D := r.bind fun w s1 => kLc2 st (lcL2 w.2 (lc2F cf own vs tg tg1 it1 elt env) w.1 [] s1)
@[simp] theorem kLc21_ok (own vs : List Nat) (tg tg1 it1 elt : T) (st : Store) (w : List D × Option (Nat × List D)) (s1 : Store) : kLc21 cf own vs tg tg1 it1 elt env st (.ok w s1) = kLc2 st (lcL2 w.2 (lc2F cf own vs tg tg1 it1 elt env) w.1 [] s1) := (rfl)
@[simp] theorem kLc21_exc (own vs : List Nat) (tg tg1 it1 elt : T) (st : Store) (c0 : Nat) (f0 : List (Nat × D)) (s0 : Store) : kLc21 cf own vs tg tg1 it1 elt env st (.exc c0 f0 s0) = .exc c0 f0 s0 := (rfl)
@[simp ↓] theorem ev_lc2 (own vs : List Nat) (tg it tg1 it1 elt : T) : ev cf (.lc2 own vs tg it tg1 it1 elt) env st = kLc21 cf own vs tg tg1 it1 elt env st (evi cf it env st) := by
  have q : ev cf (.lc2 own vs tg it tg1 it1 elt) env st = (evi cf it env st).bind fun w st1 =>
      (lcL2 w.2 (fun x acc st2 => match bindV tg x (wipe env own) with
        | some env2 => ((evt cf it1 env2 st2).bind fun ys st3 => lcL none (fun y st4 => match bindV tg1 y (wipe env2 vs) with
          | some env3 => ((ev cf elt env3 st4).bind fun d st5 => .ok (some d) st5).nox
          | none => .stuck) ys acc st3).nox
        | none => .stuck) w.1 [] st1).bind fun xs st2 => newL st xs st2 := rfl
  rw [q]
  have e : (fun x acc st2 => match bindV tg x (wipe env own) with
        | some env2 => ((evt cf it1 env2 st2).bind fun ys st3 => lcL none (fun y st4 => match bindV tg1 y (wipe env2 vs) with
          | some env3 => ((ev cf elt env3 st4).bind fun d st5 => .ok (some d) st5).nox
          | none => .stuck) ys acc st3).nox
        | none => .stuck) = lc2F cf own vs tg tg1 it1 elt env := by
    funext x acc st2
    unfold lc2F
    cases bindV tg x (wipe env own) with
    | none => rfl
    | some env2 =>
      have e2 : (fun y st4 => match bindV tg1 y (wipe env2 vs) with
          | some env3 => ((ev cf elt env3 st4).bind fun d st5 => R.ok (some d) st5).nox
          | none => .stuck) = lc2I cf vs tg1 elt env2 := by
        funext y st4
        unfold lc2I
        cases bindV tg1 y (wipe env2 vs) <;> rfl
      show ((evt cf it1 env2 st2).bind fun ys st3 => lcL none (fun y st4 => match bindV tg1 y (wipe env2 vs) with
          | some env3 => ((ev cf elt env3 st4).bind fun d st5 => .ok (some d) st5).nox
          | none => .stuck) ys acc st3).nox = _
      rw [e2]
      rfl
  rw [e]
  rfl
def tupP (s1 : Store) : D → R (List D)
  | .tup xs => .ok xs s1
  | _ => .stuck
@[simp] theorem tupP_tup (s1 : Store) (xs : List D) : tupP s1 (.tup xs) = .ok xs s1 := (rfl)
noncomputable def kEvt (r : R D) : R (List D) := r.bind fun x s1 => tupP s1 x
@[simp] theorem kEvt_ok (x : D) (s1 : Store) : kEvt (.ok x s1) = tupP s1 x := (rfl)
@[simp ↓] theorem evt_cons (a r : T) : evt cf (.cons a r) env st = kEvt (ev cf a env st) := by
  have q : evt cf (.cons a r) env st = (ev cf a env st).bind fun x st1 => match x with
    | .tup xs => R.ok xs st1
    | _ => R.stuck := rfl
  rw [q]
  unfold kEvt
  congr 1
/-- a first clause's turns: each hands on what g makes of it -/
theorem lcL2_enc {α : Type} {src : Option (Nat × List D)} {f : D → List D → Store → R (List D)} {st : Store} (enc : α → D) (g : α → List D) (ok : srcOk src st) : ∀ (xs : List α) (acc : List D), (∀ x ∈ xs, ∀ acc, acc.length + (g x).length ≤ sizeLine → f (enc x) acc st = .ok (acc ++ g x) st) → acc.length + (xs.flatMap g).length ≤ sizeLine → lcL2 src f (xs.map enc) acc st = .ok (acc ++ xs.flatMap g) st
  | [], acc, _, _ => by rw [List.map_nil, lcL2_nil ok]; simp
  | x :: r, acc, h, hz => by
    rw [List.flatMap_cons, List.length_append] at hz
    rw [List.map_cons, lcL2_cons ok, h x List.mem_cons_self acc (by omega), R.bind_ok, lcL2_enc enc g ok r (acc ++ g x) (fun y hy => h y (List.mem_cons_of_mem _ hy)) (by rw [List.length_append]; omega), List.flatMap_cons, List.append_assoc]
theorem lcL_encA {α : Type} {src : Option (Nat × List D)} {f : D → Store → R (Option D)} {st : Store} (enc : α → D) (g : α → D) (ok : srcOk src st) : ∀ (xs : List α) (acc : List D), (∀ x ∈ xs, f (enc x) st = .ok (some (g x)) st) → acc.length + xs.length ≤ sizeLine → lcL src f (xs.map enc) acc st = .ok (acc ++ xs.map g) st
  | [], acc, _, _ => by rw [List.map_nil, lcL_nil ok]; simp
  | x :: r, acc, h, hz => by
    rw [List.length_cons] at hz
    rw [List.map_cons, lcL_cons ok, h x List.mem_cons_self]
    show (if acc.length < sizeLine then lcL src f (r.map enc) (acc ++ [g x]) st else .stuck) = _
    rw [if_pos (by omega), lcL_encA enc g ok r (acc ++ [g x]) (fun y hy => h y (List.mem_cons_of_mem _ hy)) (by rw [List.length_append, List.length_singleton]; omega)]
    simp
end
end Dk
namespace Lk27
open PySem Dk
/-- is_alphabet(letters, at) -/
def t_is_alphabet : T := (.cons (.iff (.or (.cmp .Lt (.blt .len (.cons (.var 0) .nil)) (.con (.int 1))) (.cmp .Gt (.blt .len (.cons (.var 0) .nil)) (.con (.int 4))))
  (.cons (.ret (.con (.bl false)))
  .nil)
  .nil)
  (.cons (.for (.var 1) (.rng (.cons (.blt .len (.cons (.var 0) .nil)) .nil))
  (.cons (.iff (.cmp .NotIn (.idx (.var 0) (.var 1)) (.con (.str lowS)))
  (.cons (.ret (.con (.bl false)))
  .nil)
  .nil)
  (.cons (.iff (.and (.cmp .Gt (.var 1) (.con (.int 0))) (.cmp .LtE (.idx (.var 0) (.var 1)) (.idx (.var 0) (.bin .sub (.var 1) (.con (.int 1))))))
  (.cons (.ret (.con (.bl false)))
  .nil)
  .nil)
  .nil)))
  (.cons (.ret (.con (.bl true)))
  .nil)))
/-- check_letters(letters) -/
def t_check_letters : T := (.cons (.iff (.not (.call 0 (.cons (.var 0) .nil)))
  (.cons (.rse 2 (.cons (.var 0) .nil))
  .nil)
  .nil)
  .nil)
/-- check_text(letters, text, most, at) -/
def t_check_text : T := (.cons (.iff (.cmp .Gt (.blt .len (.cons (.var 1) .nil)) (.var 2))
  (.cons (.rse 1 (.cons (.var 2) .nil))
  .nil)
  .nil)
  (.cons (.for (.var 3) (.rng (.cons (.blt .len (.cons (.var 1) .nil)) .nil))
  (.cons (.iff (.cmp .NotIn (.idx (.var 1) (.var 3)) (.var 0))
  (.cons (.rse 3 (.cons (.var 3) .nil))
  .nil)
  .nil)
  .nil))
  .nil))
/-- check_stream(letters, text) -/
def t_check_stream : T := (.cons (.exp (.call 1 (.cons (.var 0) .nil)))
  (.cons (.exp (.call 2 (.cons (.var 0) (.cons (.var 1) (.cons (.con (.int 1000)) .nil)))))
  .nil))
/-- is_told(letters, text, letter) -/
def t_is_told : T := (.cons (.for (.var 2) (.cons (.var 1) .nil)
  (.cons (.iff (.cmp .NotIn (.var 2) (.var 0))
  (.cons (.ret (.con (.bl false)))
  .nil)
  .nil)
  .nil))
  (.cons (.ret (.con (.bl true)))
  .nil))
/-- is_good(letters, rows, row, moves, final, text, target) -/
def t_is_good : T := (.cons (.asg (.tup (.cons (.var 3) (.cons (.var 4) .nil))) (.var 2))
  (.cons (.iff (.cmp .NotEq (.blt .len (.cons (.var 3) .nil)) (.blt .len (.cons (.var 0) .nil)))
  (.cons (.ret (.con (.bl false)))
  .nil)
  .nil)
  (.cons (.for (.tup (.cons (.var 5) (.cons (.var 6) .nil))) (.cons (.var 3) .nil)
  (.cons (.iff (.or (.not (.call 4 (.cons (.var 0) (.cons (.var 5) .nil)))) (.not (.chn .LtE .Lt (.con (.int 0)) (.var 6) (.blt .len (.cons (.var 1) .nil)))))
  (.cons (.ret (.con (.bl false)))
  .nil)
  .nil)
  .nil))
  (.cons (.ret (.and (.call 4 (.cons (.var 0) (.cons (.idx (.var 4) (.con (.int 0))) .nil))) (.chn .LtE .LtE (.con (.int 0)) (.idx (.var 4) (.con (.int 1))) (.con (.int 9)))))
  .nil))))
/-- check_transducer(transducer, at, letters, start, rows) -/
def t_check_transducer : T := (.cons (.asg (.tup (.cons (.var 2) (.cons (.var 3) (.cons (.var 4) .nil)))) (.var 0))
  (.cons (.exp (.call 1 (.cons (.var 2) .nil)))
  (.cons (.iff (.or (.cmp .Eq (.blt .len (.cons (.var 4) .nil)) (.con (.int 0))) (.not (.call 4 (.cons (.var 2) (.cons (.var 3) .nil)))))
  (.cons (.rse 4 (.cons (.neg (.con (.int 1))) .nil))
  .nil)
  .nil)
  (.cons (.iff (.cmp .Gt (.blt .len (.cons (.var 4) .nil)) (.con (.int 1000)))
  (.cons (.rse 1 (.cons (.con (.int 1000)) .nil))
  .nil)
  .nil)
  (.cons (.for (.var 1) (.rng (.cons (.blt .len (.cons (.var 4) .nil)) .nil))
  (.cons (.iff (.not (.call 5 (.cons (.var 2) (.cons (.var 4) (.cons (.idx (.var 4) (.var 1)) .nil)))))
  (.cons (.rse 4 (.cons (.var 1) .nil))
  .nil)
  .nil)
  .nil))
  .nil)))))
/-- feed(transducer, row, text, told, letter, letters, start, rows, said) -/
def t_feed : T := (.cons (.asg (.tup (.cons (.var 5) (.cons (.var 6) (.cons (.var 7) .nil)))) (.var 0))
  (.cons (.asg (.var 3) (.lst .nil))
  (.cons (.for (.var 4) (.cons (.var 2) .nil)
  (.cons (.asg (.tup (.cons (.var 8) (.cons (.var 1) .nil))) (.idx (.idx (.idx (.var 7) (.var 1)) (.con (.int 0))) (.mth .index (.var 5) (.cons (.var 4) .nil))))
  (.cons (.exp (.mth .append (.var 3) (.cons (.var 8) .nil)))
  .nil)))
  (.cons (.ret (.tup (.cons (.mth .join (.con (.str [])) (.cons (.var 3) .nil)) (.cons (.var 1) .nil))))
  .nil))))
/-- told_by(transducer, text, told, row, said, status) -/
def t_told_by : T := (.cons (.exp (.call 3 (.cons (.idx (.var 0) (.con (.int 0))) (.cons (.var 1) .nil))))
  (.cons (.asg (.tup (.cons (.var 2) (.cons (.var 3) .nil))) (.call 7 (.cons (.var 0) (.cons (.con (.int 0)) (.cons (.var 1) .nil)))))
  (.cons (.asg (.tup (.cons (.var 4) (.cons (.var 5) .nil))) (.idx (.idx (.idx (.var 0) (.con (.int 2))) (.var 3)) (.con (.int 1))))
  (.cons (.ret (.tup (.cons (.bin .add (.bin .add (.idx (.var 0) (.con (.int 1))) (.var 2)) (.var 4)) (.cons (.var 5) .nil))))
  .nil))))
/-- check_told(text) -/
def t_check_told : T := (.cons (.iff (.cmp .Gt (.blt .len (.cons (.var 0) .nil)) (.con (.int 1000)))
  (.cons (.rse 1 (.cons (.con (.int 1000)) .nil))
  .nil)
  .nil)
  .nil)
/-- final_behind(second, row, final, told, end, said, status) -/
def t_final_behind : T := (.cons (.asg (.tup (.cons (.var 3) (.cons (.var 4) .nil))) (.call 7 (.cons (.var 0) (.cons (.var 1) (.cons (.idx (.var 2) (.con (.int 0))) .nil)))))
  (.cons (.asg (.tup (.cons (.var 5) (.cons (.var 6) .nil))) (.idx (.idx (.idx (.var 0) (.con (.int 2))) (.var 4)) (.con (.int 1))))
  (.cons (.exp (.call 9 (.cons (.bin .add (.var 3) (.var 5)) .nil)))
  (.cons (.ret (.tup (.cons (.bin .add (.var 3) (.var 5)) (.cons (.var 6) .nil))))
  .nil))))
/-- piped(first, second, start, pairs, numbers, rows, told, row, moves, left, right, text, target) -/
def t_piped : T := (.cons (.iff (.cmp .NotEq (.idx (.var 0) (.con (.int 0))) (.idx (.var 1) (.con (.int 0))))
  (.cons (.rse 2 (.cons (.idx (.var 1) (.con (.int 0))) .nil))
  .nil)
  .nil)
  (.cons (.asg (.tup (.cons (.var 6) (.cons (.var 7) .nil))) (.call 7 (.cons (.var 1) (.cons (.con (.int 0)) (.cons (.idx (.var 0) (.con (.int 1))) .nil)))))
  (.cons (.asg (.var 2) (.bin .add (.idx (.var 1) (.con (.int 1))) (.var 6)))
  (.cons (.exp (.call 9 (.cons (.var 2) .nil)))
  (.cons (.asg (.var 3) (.lst (.cons (.tup (.cons (.con (.int 0)) (.cons (.var 7) .nil))) .nil)))
  (.cons (.asg (.var 4) (.dct1 true (.tup (.cons (.con (.int 0)) (.cons (.var 7) .nil))) (.con (.int 0))))
  (.cons (.asg (.var 5) (.lst .nil))
  (.cons (.whl (.cmp .Lt (.blt .len (.cons (.var 5) .nil)) (.blt .len (.cons (.var 3) .nil)))
  (.cons (.asg (.tup (.cons (.var 9) (.cons (.var 10) .nil))) (.idx (.var 3) (.blt .len (.cons (.var 5) .nil))))
  (.cons (.asg (.var 8) (.lst .nil))
  (.cons (.for (.tup (.cons (.var 11) (.cons (.var 12) .nil))) (.cons (.idx (.idx (.idx (.var 0) (.con (.int 2))) (.var 9)) (.con (.int 0))) .nil)
  (.cons (.asg (.tup (.cons (.var 6) (.cons (.var 7) .nil))) (.call 7 (.cons (.var 1) (.cons (.var 10) (.cons (.var 11) .nil)))))
  (.cons (.exp (.call 9 (.cons (.var 6) .nil)))
  (.cons (.iff (.cmp .NotIn (.tup (.cons (.var 12) (.cons (.var 7) .nil))) (.var 4))
  (.cons (.iff (.cmp .Eq (.blt .len (.cons (.var 3) .nil)) (.con (.int 1000)))
  (.cons (.rse 1 (.cons (.con (.int 1000)) .nil))
  .nil)
  .nil)
  (.cons (.asg (.idx (.var 4) (.tup (.cons (.var 12) (.cons (.var 7) .nil)))) (.blt .len (.cons (.var 3) .nil)))
  (.cons (.exp (.mth .append (.var 3) (.cons (.tup (.cons (.var 12) (.cons (.var 7) .nil))) .nil)))
  .nil)))
  .nil)
  (.cons (.exp (.mth .append (.var 8) (.cons (.tup (.cons (.var 6) (.cons (.idx (.var 4) (.tup (.cons (.var 12) (.cons (.var 7) .nil)))) .nil))) .nil)))
  .nil)))))
  (.cons (.exp (.mth .append (.var 5) (.cons (.tup (.cons (.blt .tuple (.cons (.var 8) .nil)) (.cons (.call 10 (.cons (.var 1) (.cons (.var 10) (.cons (.idx (.idx (.idx (.var 0) (.con (.int 2))) (.var 9)) (.con (.int 1))) .nil)))) .nil))) .nil)))
  .nil)))))
  (.cons (.ret (.tup (.cons (.idx (.var 0) (.con (.int 0))) (.cons (.var 2) (.cons (.blt .tuple (.cons (.var 5) .nil)) .nil)))))
  .nil)))))))))
/-- _law_cell(script, k, mixed) -/
def t__law_cell : T := (.cons (.iff (.cmp .Lt (.var 1) (.blt .len (.cons (.var 0) .nil)))
  (.cons (.ret (.bin .mod (.blt .int (.cons (.idx (.var 0) (.var 1)) .nil)) (.con (.int 1000000))))
  .nil)
  .nil)
  (.cons (.iff (.cmp .Eq (.blt .len (.cons (.var 0) .nil)) (.con (.int 0)))
  (.cons (.ret (.con (.int 0)))
  .nil)
  .nil)
  (.cons (.asg (.var 2) (.bin .add (.bin .mod (.blt .int (.cons (.idx (.var 0) (.bin .mod (.blt .int (.cons (.var 1) .nil)) (.blt .len (.cons (.var 0) .nil)))) .nil)) (.con (.int 1009))) (.con (.int 1))))
  (.cons (.ret (.bin .mod (.blt .int (.cons (.bin .add (.bin .mul (.bin .mul (.var 2) (.bin .add (.var 1) (.con (.int 3)))) (.con (.int 48271))) (.bin .mul (.var 1) (.con (.int 7919)))) .nil)) (.con (.int 1000003))))
  .nil))))
/-- _law_same(actual, due, k) -/
def t__law_same : T := (.cons (.iff (.isi (.var 1) .tuple)
  (.cons (.iff (.or (.not (.isi (.var 0) .tuple)) (.cmp .NotEq (.blt .len (.cons (.var 0) .nil)) (.blt .len (.cons (.var 1) .nil))))
  (.cons (.ret (.con (.bl false)))
  .nil)
  .nil)
  (.cons (.for (.var 2) (.rng (.cons (.blt .len (.cons (.var 1) .nil)) .nil))
  (.cons (.iff (.not (.call 13 (.cons (.idx (.var 0) (.var 2)) (.cons (.idx (.var 1) (.var 2)) .nil))))
  (.cons (.ret (.con (.bl false)))
  .nil)
  .nil)
  .nil))
  (.cons (.ret (.con (.bl true)))
  .nil)))
  .nil)
  (.cons (.iff (.cmp .Is (.var 1) (.con .non))
  (.cons (.ret (.cmp .Is (.var 0) (.con .non)))
  .nil)
  .nil)
  (.cons (.iff (.isi (.var 1) .bool)
  (.cons (.ret (.and (.isi (.var 0) .bool) (.cmp .Eq (.var 0) (.var 1))))
  .nil)
  .nil)
  (.cons (.iff (.isi (.var 1) .int)
  (.cons (.ret (.and (.isi (.var 0) .int) (.and (.not (.isi (.var 0) .bool)) (.cmp .Eq (.var 0) (.var 1)))))
  .nil)
  .nil)
  (.cons (.ret (.and (.isi (.var 0) .str) (.cmp .Eq (.var 0) (.var 1))))
  .nil)))))
/-- _law_word(x, letters, most, word, count, k) -/
def t__law_word : T := (.cons (.asg (.var 3) (.con (.str [])))
  (.cons (.asg (.var 4) (.bin .mod (.blt .int (.cons (.var 0) .nil)) (.bin .add (.var 2) (.con (.int 1)))))
  (.cons (.asg (.var 0) (.bin .fdiv (.var 0) (.bin .add (.var 2) (.con (.int 1)))))
  (.cons (.for (.var 5) (.rng (.cons (.var 4) .nil))
  (.cons (.asg (.var 3) (.bin .add (.var 3) (.idx (.var 1) (.bin .mod (.blt .int (.cons (.var 0) .nil)) (.blt .len (.cons (.var 1) .nil))))))
  (.cons (.asg (.var 0) (.bin .fdiv (.var 0) (.blt .len (.cons (.var 1) .nil))))
  .nil)))
  (.cons (.ret (.var 3))
  .nil)))))
/-- _law_parts(script, at, letters, count, parts, k, moves, j, x, status) -/
def t__law_parts : T := (.cons (.asg (.var 4) (.lst .nil))
  (.cons (.for (.var 5) (.rng (.cons (.var 3) .nil))
  (.cons (.asg (.var 6) (.lst .nil))
  (.cons (.for (.var 7) (.rng (.cons (.blt .len (.cons (.var 2) .nil)) .nil))
  (.cons (.asg (.var 8) (.call 12 (.cons (.var 0) (.cons (.bin .add (.bin .add (.var 1) (.bin .mul (.con (.int 5)) (.var 5))) (.var 7)) .nil))))
  (.cons (.exp (.mth .append (.var 6) (.cons (.tup (.cons (.call 14 (.cons (.bin .fdiv (.var 8) (.var 3)) (.cons (.var 2) (.cons (.con (.int 2)) .nil)))) (.cons (.bin .mod (.blt .int (.cons (.var 8) .nil)) (.var 3)) .nil))) .nil)))
  .nil)))
  (.cons (.asg (.var 8) (.call 12 (.cons (.var 0) (.cons (.bin .add (.bin .add (.var 1) (.bin .mul (.con (.int 5)) (.var 5))) (.con (.int 4))) .nil))))
  (.cons (.asg (.var 9) (.bin .mod (.blt .int (.cons (.var 8) .nil)) (.con (.int 10))))
  (.cons (.iff (.cmp .Eq (.bin .mod (.blt .int (.cons (.bin .fdiv (.var 8) (.con (.int 10))) .nil)) (.con (.int 2))) (.con (.int 0)))
  (.cons (.asg (.var 9) (.bin .mod (.blt .int (.cons (.var 8) .nil)) (.con (.int 2))))
  .nil)
  .nil)
  (.cons (.asg (.var 8) (.bin .fdiv (.var 8) (.con (.int 20))))
  (.cons (.exp (.mth .append (.var 4) (.cons (.tup (.cons (.var 6) (.cons (.call 14 (.cons (.var 8) (.cons (.var 2) (.cons (.con (.int 2)) .nil)))) (.cons (.var 9) (.cons (.call 14 (.cons (.bin .fdiv (.var 8) (.con (.int 48))) (.cons (.var 2) (.cons (.con (.int 2)) .nil)))) .nil))))) .nil)))
  .nil))))))))
  (.cons (.ret (.var 4))
  .nil)))
/-- _law_late(letters, start, parts, rows, moves, final, status, held, word, goal) -/
def t__law_late : T := (.cons (.asg (.var 3) (.lst .nil))
  (.cons (.for (.tup (.cons (.var 4) (.cons (.var 5) (.cons (.var 6) (.cons (.var 7) .nil))))) (.cons (.var 2) .nil)
  (.cons (.exp (.mth .append (.var 3) (.cons (.tup (.cons (.blt .tuple (.cons (.lc [8, 9] (.tup (.cons (.var 8) (.cons (.var 9) .nil))) (.cons (.var 4) .nil) .nil (.tup (.cons (.bin .add (.var 7) (.var 8)) (.cons (.var 9) .nil)))) .nil)) (.cons (.tup (.cons (.bin .add (.var 7) (.var 5)) (.cons (.var 6) .nil))) .nil))) .nil)))
  .nil))
  (.cons (.ret (.tup (.cons (.var 0) (.cons (.var 1) (.cons (.blt .tuple (.cons (.var 3) .nil)) .nil)))))
  .nil)))
/-- _law_early(letters, start, parts, rows, moves, final, status, held, word, goal) -/
def t__law_early : T := (.cons (.asg (.var 3) (.lst .nil))
  (.cons (.for (.tup (.cons (.var 4) (.cons (.var 5) (.cons (.var 6) (.cons (.var 7) .nil))))) (.cons (.var 2) .nil)
  (.cons (.exp (.mth .append (.var 3) (.cons (.tup (.cons (.blt .tuple (.cons (.lc [8, 9] (.tup (.cons (.var 8) (.cons (.var 9) .nil))) (.cons (.var 4) .nil) .nil (.tup (.cons (.bin .add (.var 8) (.idx (.idx (.var 2) (.var 9)) (.con (.int 3)))) (.cons (.var 9) .nil)))) .nil)) (.cons (.tup (.cons (.var 5) (.cons (.var 6) .nil))) .nil))) .nil)))
  .nil))
  (.cons (.ret (.tup (.cons (.var 0) (.cons (.bin .add (.var 1) (.idx (.idx (.var 2) (.con (.int 0))) (.con (.int 3)))) (.cons (.blt .tuple (.cons (.var 3) .nil)) .nil)))))
  .nil)))
/-- _law_fed(machine, row, text, told, letter, said) -/
def t__law_fed : T := (.cons (.asg (.var 3) (.con (.str [])))
  (.cons (.for (.var 4) (.cons (.var 2) .nil)
  (.cons (.asg (.tup (.cons (.var 5) (.cons (.var 1) .nil))) (.idx (.idx (.idx (.idx (.var 0) (.con (.int 2))) (.var 1)) (.con (.int 0))) (.mth .index (.idx (.var 0) (.con (.int 0))) (.cons (.var 4) .nil))))
  (.cons (.asg (.var 3) (.bin .add (.var 3) (.var 5)))
  .nil)))
  (.cons (.ret (.tup (.cons (.var 3) (.cons (.var 1) .nil))))
  .nil)))
/-- _law_told(machine, text, final, told, row) -/
def t__law_told : T := (.cons (.asg (.tup (.cons (.var 3) (.cons (.var 4) .nil))) (.call 18 (.cons (.var 0) (.cons (.con (.int 0)) (.cons (.var 1) .nil)))))
  (.cons (.asg (.var 2) (.idx (.idx (.idx (.var 0) (.con (.int 2))) (.var 4)) (.con (.int 1))))
  (.cons (.ret (.tup (.cons (.bin .add (.bin .add (.idx (.var 0) (.con (.int 1))) (.var 3)) (.idx (.var 2) (.con (.int 0)))) (.cons (.idx (.var 2) (.con (.int 1))) .nil))))
  .nil)))
/-- _law_piped(first, second, start, pairs, rows, step, told, row, moves, final, last, left, right, said, goal) -/
def t__law_piped : T := (.cons (.asg (.tup (.cons (.var 6) (.cons (.var 7) .nil))) (.call 18 (.cons (.var 1) (.cons (.con (.int 0)) (.cons (.idx (.var 0) (.con (.int 1))) .nil)))))
  (.cons (.asg (.var 2) (.bin .add (.idx (.var 1) (.con (.int 1))) (.var 6)))
  (.cons (.asg (.var 3) (.lst (.cons (.tup (.cons (.con (.int 0)) (.cons (.var 7) .nil))) .nil)))
  (.cons (.asg (.var 4) (.lst .nil))
  (.cons (.for (.var 5) (.rng (.cons (.con (.int 1000)) .nil))
  (.cons (.iff (.cmp .Eq (.var 5) (.blt .len (.cons (.var 3) .nil)))
  (.cons .brk
  .nil)
  .nil)
  (.cons (.asg (.tup (.cons (.var 11) (.cons (.var 12) .nil))) (.idx (.var 3) (.var 5)))
  (.cons (.asg (.var 8) (.lst .nil))
  (.cons (.for (.tup (.cons (.var 13) (.cons (.var 14) .nil))) (.cons (.idx (.idx (.idx (.var 0) (.con (.int 2))) (.var 11)) (.con (.int 0))) .nil)
  (.cons (.asg (.tup (.cons (.var 6) (.cons (.var 7) .nil))) (.call 18 (.cons (.var 1) (.cons (.var 12) (.cons (.var 13) .nil)))))
  (.cons (.iff (.cmp .NotIn (.tup (.cons (.var 14) (.cons (.var 7) .nil))) (.var 3))
  (.cons (.exp (.mth .append (.var 3) (.cons (.tup (.cons (.var 14) (.cons (.var 7) .nil))) .nil)))
  .nil)
  .nil)
  (.cons (.exp (.mth .append (.var 8) (.cons (.tup (.cons (.var 6) (.cons (.mth .index (.var 3) (.cons (.tup (.cons (.var 14) (.cons (.var 7) .nil))) .nil)) .nil))) .nil)))
  .nil))))
  (.cons (.asg (.var 9) (.idx (.idx (.idx (.var 0) (.con (.int 2))) (.var 11)) (.con (.int 1))))
  (.cons (.asg (.tup (.cons (.var 6) (.cons (.var 7) .nil))) (.call 18 (.cons (.var 1) (.cons (.var 12) (.cons (.idx (.var 9) (.con (.int 0))) .nil)))))
  (.cons (.asg (.var 10) (.idx (.idx (.idx (.var 1) (.con (.int 2))) (.var 7)) (.con (.int 1))))
  (.cons (.exp (.mth .append (.var 4) (.cons (.tup (.cons (.blt .tuple (.cons (.var 8) .nil)) (.cons (.tup (.cons (.bin .add (.var 6) (.idx (.var 10) (.con (.int 0)))) (.cons (.idx (.var 10) (.con (.int 1))) .nil))) .nil))) .nil)))
  .nil)))))))))
  (.cons (.ret (.tup (.cons (.idx (.var 0) (.con (.int 0))) (.cons (.var 2) (.cons (.blt .tuple (.cons (.var 4) .nil)) .nil)))))
  .nil))))))
/-- _law_strange(letters, letter) -/
def t__law_strange : T := (.cons (.ret (.idx (.lc [1] (.var 1) (.cons (.con (.str [122, 121, 120, 119, 118, 117, 116])) .nil) (.cons (.cmp .NotIn (.var 1) (.var 0)) .nil) (.var 1)) (.con (.int 0))))
  .nil)
/-- _law_refusal(machine, e) -/
def t__law_refusal : T := (.cons (.try (.cons (.exp (.call 6 (.cons (.var 0) .nil)))
  .nil)
  (.cons (.hdl 2 (some 1) (.cons (.ret (.tup (.cons (.con (.str [108, 101, 116, 116, 101, 114, 115])) (.cons (.att (.var 1) 1) (.cons (.isi (.var 1) (.cls 0)) .nil)))))
  .nil)) (.cons (.hdl 4 (some 1) (.cons (.ret (.tup (.cons (.con (.str [114, 111, 119])) (.cons (.att (.var 1) 3) (.cons (.isi (.var 1) (.cls 0)) .nil)))))
  .nil)) (.cons (.hdl 1 (some 1) (.cons (.ret (.tup (.cons (.con (.str [109, 97, 110, 121])) (.cons (.att (.var 1) 0) (.cons (.isi (.var 1) (.cls 0)) .nil)))))
  .nil)) .nil))))
  (.cons (.ret (.tup (.cons (.con (.str [102, 105, 110, 101])) (.cons (.con (.int 0)) (.cons (.con (.bl true)) .nil)))))
  .nil))
/-- _law_spoilt(machine, x, way, at, k, side, strange, behind, letters, start, rows, moves, final, wrong, row) -/
def t__law_spoilt : T := (.cons (.asg (.tup (.cons (.var 8) (.cons (.var 9) (.cons (.var 10) .nil)))) (.var 0))
  (.cons (.asg (.var 2) (.bin .mod (.blt .int (.cons (.var 1) .nil)) (.con (.int 10))))
  (.cons (.asg (.var 1) (.bin .fdiv (.var 1) (.con (.int 10))))
  (.cons (.asg (.var 3) (.bin .mod (.blt .int (.cons (.var 1) .nil)) (.blt .len (.cons (.var 10) .nil))))
  (.cons (.asg (.tup (.cons (.var 11) (.cons (.var 12) .nil))) (.idx (.var 10) (.var 3)))
  (.cons (.asg (.var 4) (.bin .mod (.blt .int (.cons (.bin .fdiv (.var 1) (.con (.int 5))) .nil)) (.blt .len (.cons (.var 8) .nil))))
  (.cons (.asg (.var 5) (.bin .mod (.blt .int (.cons (.bin .fdiv (.var 1) (.con (.int 20))) .nil)) (.con (.int 2))))
  (.cons (.asg (.var 6) (.call 21 (.cons (.var 8) .nil)))
  (.cons (.iff (.cmp .Eq (.var 2) (.con (.int 0)))
  (.cons (.asg (.var 13) (.idx (.lst (.cons (.con (.str [])) (.cons (.con (.str [98, 97])) (.cons (.con (.str [97, 97])) (.cons (.con (.str [97, 98, 99, 100, 101])) (.cons (.con (.str [97, 66])) (.cons (.con (.str [97, 49])) (.cons (.con (.str [65])) (.cons (.con (.str [97, 32])) .nil))))))))) (.bin .mod (.blt .int (.cons (.bin .fdiv (.var 1) (.con (.int 20))) .nil)) (.con (.int 8)))))
  (.cons (.ret (.tup (.cons (.tup (.cons (.var 13) (.cons (.var 9) (.cons (.var 10) .nil)))) (.cons (.tup (.cons (.con (.str [108, 101, 116, 116, 101, 114, 115])) (.cons (.var 13) (.cons (.con (.bl true)) .nil)))) .nil))))
  .nil))
  .nil)
  (.cons (.iff (.cmp .Eq (.var 2) (.con (.int 1)))
  (.cons (.ret (.tup (.cons (.tup (.cons (.var 8) (.cons (.var 9) (.cons (.tup .nil) .nil)))) (.cons (.tup (.cons (.con (.str [114, 111, 119])) (.cons (.neg (.con (.int 1))) (.cons (.con (.bl true)) .nil)))) .nil))))
  .nil)
  .nil)
  (.cons (.iff (.cmp .Eq (.var 2) (.con (.int 2)))
  (.cons (.ret (.tup (.cons (.tup (.cons (.var 8) (.cons (.bin .add (.bin .add (.slc (.var 9) .nil (.cons (.var 5) .nil)) (.var 6)) (.slc (.var 9) (.cons (.var 5) .nil) .nil)) (.cons (.var 10) .nil)))) (.cons (.tup (.cons (.con (.str [114, 111, 119])) (.cons (.neg (.con (.int 1))) (.cons (.con (.bl true)) .nil)))) .nil))))
  .nil)
  .nil)
  (.cons (.iff (.cmp .Eq (.var 2) (.con (.int 3)))
  (.cons (.ret (.tup (.cons (.tup (.cons (.var 8) (.cons (.var 9) (.cons (.bin .mul (.tup (.cons (.idx (.var 10) (.con (.int 0))) .nil)) (.con (.int 1001))) .nil)))) (.cons (.tup (.cons (.con (.str [109, 97, 110, 121])) (.cons (.con (.int 1000)) (.cons (.con (.bl true)) .nil)))) .nil))))
  .nil)
  .nil)
  (.cons (.iff (.cmp .Eq (.var 2) (.con (.int 4)))
  (.cons (.asg (.var 11) (.slc (.var 11) .nil (.cons (.neg (.con (.int 1))) .nil)))
  .nil)
  .nil)
  (.cons (.iff (.cmp .Eq (.var 2) (.con (.int 5)))
  (.cons (.asg (.var 11) (.bin .add (.var 11) (.tup (.cons (.idx (.var 11) (.con (.int 0))) .nil))))
  .nil)
  .nil)
  (.cons (.iff (.cmp .Eq (.var 2) (.con (.int 6)))
  (.cons (.asg (.var 11) (.bin .add (.bin .add (.slc (.var 11) .nil (.cons (.var 4) .nil)) (.tup (.cons (.tup (.cons (.idx (.idx (.var 11) (.var 4)) (.con (.int 0))) (.cons (.idx (.lst (.cons (.blt .len (.cons (.var 10) .nil)) (.cons (.neg (.con (.int 1))) .nil))) (.var 5)) .nil))) .nil))) (.slc (.var 11) (.cons (.bin .add (.var 4) (.con (.int 1))) .nil) .nil)))
  .nil)
  .nil)
  (.cons (.iff (.cmp .Eq (.var 2) (.con (.int 7)))
  (.cons (.asg (.var 11) (.bin .add (.bin .add (.slc (.var 11) .nil (.cons (.var 4) .nil)) (.tup (.cons (.tup (.cons (.idx (.lst (.cons (.bin .add (.idx (.idx (.var 11) (.var 4)) (.con (.int 0))) (.var 6)) (.cons (.bin .add (.con (.str [65])) (.idx (.idx (.var 11) (.var 4)) (.con (.int 0)))) .nil))) (.var 5)) (.cons (.idx (.idx (.var 11) (.var 4)) (.con (.int 1))) .nil))) .nil))) (.slc (.var 11) (.cons (.bin .add (.var 4) (.con (.int 1))) .nil) .nil)))
  .nil)
  .nil)
  (.cons (.iff (.cmp .Eq (.var 2) (.con (.int 8)))
  (.cons (.asg (.var 12) (.tup (.cons (.idx (.lst (.cons (.bin .add (.idx (.var 12) (.con (.int 0))) (.var 6)) (.cons (.bin .add (.con (.str [49])) (.idx (.var 12) (.con (.int 0)))) .nil))) (.var 5)) (.cons (.idx (.var 12) (.con (.int 1))) .nil))))
  .nil)
  .nil)
  (.cons (.iff (.cmp .Eq (.var 2) (.con (.int 9)))
  (.cons (.asg (.var 12) (.tup (.cons (.idx (.var 12) (.con (.int 0))) (.cons (.idx (.lst (.cons (.con (.int 10)) (.cons (.neg (.con (.int 1))) .nil))) (.var 5)) .nil))))
  .nil)
  .nil)
  (.cons (.asg (.var 7) (.slc (.var 10) (.cons (.bin .add (.var 3) (.con (.int 1))) .nil) .nil))
  (.cons (.iff (.cmp .Eq (.bin .mod (.blt .int (.cons (.bin .fdiv (.var 1) (.con (.int 40))) .nil)) (.con (.int 2))) (.con (.int 1)))
  (.cons (.asg (.var 7) (.blt .tuple (.cons (.lc [14] (.var 14) (.cons (.var 7) .nil) .nil (.tup (.cons (.idx (.var 14) (.con (.int 0))) (.cons (.tup (.cons (.idx (.idx (.var 14) (.con (.int 1))) (.con (.int 0))) (.cons (.con (.int 10)) .nil))) .nil)))) .nil)))
  .nil)
  .nil)
  (.cons (.ret (.tup (.cons (.tup (.cons (.var 8) (.cons (.var 9) (.cons (.bin .add (.bin .add (.slc (.var 10) .nil (.cons (.var 3) .nil)) (.tup (.cons (.tup (.cons (.var 11) (.cons (.var 12) .nil))) .nil))) (.var 7)) .nil)))) (.cons (.tup (.cons (.con (.str [114, 111, 119])) (.cons (.var 3) (.cons (.con (.bl true)) .nil)))) .nil))))
  .nil)))))))))))))))))))))
/-- _law_stream_error(machine, text, e) -/
def t__law_stream_error : T := (.cons (.try (.cons (.exp (.call 8 (.cons (.var 0) (.cons (.var 1) .nil))))
  .nil)
  (.cons (.hdl 3 (some 2) (.cons (.iff (.and (.isi (.var 2) (.cls 0)) (.isi (.var 2) .valueError))
  (.cons (.ret (.tup (.cons (.con (.str [112, 108, 97, 99, 101])) (.cons (.att (.var 2) 2) .nil))))
  .nil)
  .nil)
  .nil)) (.cons (.hdl 1 (some 2) (.cons (.ret (.tup (.cons (.con (.str [109, 97, 110, 121])) (.cons (.att (.var 2) 0) .nil))))
  .nil)) .nil)))
  (.cons (.ret (.tup (.cons (.con (.str [102, 105, 110, 101])) (.cons (.con (.int 0)) .nil))))
  .nil))
/-- _law_pipe_error(first, second, e) -/
def t__law_pipe_error : T := (.cons (.try (.cons (.exp (.call 11 (.cons (.var 0) (.cons (.var 1) .nil))))
  .nil)
  (.cons (.hdl 2 (some 2) (.cons (.iff (.and (.isi (.var 2) (.cls 0)) (.isi (.var 2) .valueError))
  (.cons (.ret (.tup (.cons (.con (.str [108, 101, 116, 116, 101, 114, 115])) (.cons (.att (.var 2) 1) .nil))))
  .nil)
  .nil)
  .nil)) (.cons (.hdl 1 (some 2) (.cons (.ret (.tup (.cons (.con (.str [109, 97, 110, 121])) (.cons (.att (.var 2) 0) .nil))))
  .nil)) .nil)))
  (.cons (.ret (.tup (.cons (.con (.str [102, 105, 110, 101])) (.cons (.con (.int 0)) .nil))))
  .nil))
/-- _law_long_pipe(x, texts, first, second, times, count) -/
def t__law_long_pipe : T := (.cons (.asg (.tup (.cons (.var 4) (.cons (.var 5) .nil))) (.idx (.lst (.cons (.tup (.cons (.con (.int 8)) (.cons (.con (.int 125)) .nil))) (.cons (.tup (.cons (.con (.int 7)) (.cons (.con (.int 143)) .nil))) .nil))) (.bin .mod (.blt .int (.cons (.var 0) .nil)) (.con (.int 2)))))
  (.cons (.asg (.var 1) (.lst (.cons (.con (.str [])) (.cons (.con (.str [])) (.cons (.con (.str [])) .nil)))))
  (.cons (.asg (.idx (.var 1) (.bin .mod (.blt .int (.cons (.bin .fdiv (.var 0) (.con (.int 2))) .nil)) (.con (.int 3)))) (.bin .mul (.con (.str [97])) (.var 5)))
  (.cons (.asg (.var 2) (.tup (.cons (.con (.str [97])) (.cons (.idx (.var 1) (.con (.int 0))) (.cons (.tup (.cons (.tup (.cons (.tup (.cons (.tup (.cons (.idx (.var 1) (.con (.int 1))) (.cons (.con (.int 0)) .nil))) .nil)) (.cons (.tup (.cons (.idx (.var 1) (.con (.int 2))) (.cons (.con (.int 0)) .nil))) .nil))) .nil)) .nil)))))
  (.cons (.asg (.var 3) (.tup (.cons (.con (.str [97])) (.cons (.con (.str [])) (.cons (.tup (.cons (.tup (.cons (.tup (.cons (.tup (.cons (.bin .mul (.con (.str [97])) (.var 4)) (.cons (.con (.int 0)) .nil))) .nil)) (.cons (.tup (.cons (.con (.str [])) (.cons (.bin .mod (.blt .int (.cons (.bin .fdiv (.var 0) (.con (.int 6))) .nil)) (.con (.int 10))) .nil))) .nil))) .nil)) .nil)))))
  (.cons (.iff (.cmp .Gt (.bin .mul (.var 4) (.var 5)) (.con (.int 1000)))
  (.cons (.ret (.call 13 (.cons (.call 25 (.cons (.var 2) (.cons (.var 3) .nil))) (.cons (.tup (.cons (.con (.str [109, 97, 110, 121])) (.cons (.con (.int 1000)) .nil))) .nil))))
  .nil)
  .nil)
  (.cons (.ret (.call 13 (.cons (.call 11 (.cons (.var 2) (.cons (.var 3) .nil))) (.cons (.call 20 (.cons (.var 2) (.cons (.var 3) .nil))) .nil))))
  .nil)))))))
/-- _law_ring(count, many, rows, k) -/
def t__law_ring : T := (.cons (.asg (.var 2) (.lc [3] (.var 3) (.rng (.cons (.var 0) .nil)) .nil (.tup (.cons (.tup (.cons (.tup (.cons (.con (.str [97])) (.cons (.bin .mod (.blt .int (.cons (.bin .add (.var 3) (.con (.int 1))) .nil)) (.var 0)) .nil))) .nil)) (.cons (.tup (.cons (.con (.str [])) (.cons (.bin .mod (.blt .int (.cons (.var 3) .nil)) (.var 1)) .nil))) .nil)))))
  (.cons (.ret (.tup (.cons (.con (.str [97])) (.cons (.con (.str [])) (.cons (.blt .tuple (.cons (.var 2) .nil)) .nil)))))
  .nil))
/-- _law_rings(x, due, k) -/
def t__law_rings : T := (.cons (.iff (.cmp .Eq (.bin .mod (.blt .int (.cons (.var 0) .nil)) (.con (.int 2))) (.con (.int 1)))
  (.cons (.ret (.call 13 (.cons (.call 25 (.cons (.call 27 (.cons (.con (.int 7)) (.cons (.con (.int 1)) .nil))) (.cons (.call 27 (.cons (.con (.int 143)) (.cons (.con (.int 10)) .nil))) .nil))) (.cons (.tup (.cons (.con (.str [109, 97, 110, 121])) (.cons (.con (.int 1000)) .nil))) .nil))))
  .nil)
  .nil)
  (.cons (.asg (.var 1) (.lc [2] (.var 2) (.rng (.cons (.con (.int 1000)) .nil)) .nil (.tup (.cons (.tup (.cons (.tup (.cons (.con (.str [97])) (.cons (.bin .mod (.blt .int (.cons (.bin .add (.var 2) (.con (.int 1))) .nil)) (.con (.int 1000))) .nil))) .nil)) (.cons (.tup (.cons (.con (.str [])) (.cons (.bin .mod (.blt .int (.cons (.bin .mod (.blt .int (.cons (.var 2) .nil)) (.con (.int 125))) .nil)) (.con (.int 10))) .nil))) .nil)))))
  (.cons (.ret (.call 13 (.cons (.call 11 (.cons (.call 27 (.cons (.con (.int 8)) (.cons (.con (.int 1)) .nil))) (.cons (.call 27 (.cons (.con (.int 125)) (.cons (.con (.int 10)) .nil))) .nil))) (.cons (.tup (.cons (.con (.str [97])) (.cons (.con (.str [])) (.cons (.blt .tuple (.cons (.var 1) .nil)) .nil)))) .nil))))
  .nil)))
/-- _law_streams(machine, letters, x, at, wrong, text) -/
def t__law_streams : T := (.cons (.asg (.var 3) (.bin .mod (.blt .int (.cons (.var 2) .nil)) (.con (.int 10))))
  (.cons (.asg (.var 4) (.bin .add (.bin .add (.bin .add (.bin .mul (.idx (.var 1) (.con (.int 0))) (.var 3)) (.call 21 (.cons (.var 1) .nil))) (.var 1)) (.con (.str [45]))))
  (.cons (.iff (.not (.call 13 (.cons (.call 24 (.cons (.var 0) (.cons (.var 4) .nil))) (.cons (.tup (.cons (.con (.str [112, 108, 97, 99, 101])) (.cons (.var 3) .nil))) .nil))))
  (.cons (.ret (.con (.bl false)))
  .nil)
  .nil)
  (.cons (.iff (.cmp .NotEq (.bin .mod (.blt .int (.cons (.bin .fdiv (.var 2) (.con (.int 10))) .nil)) (.con (.int 8))) (.con (.int 1)))
  (.cons (.ret (.con (.bl true)))
  .nil)
  .nil)
  (.cons (.asg (.var 5) (.slc (.bin .mul (.var 1) (.con (.int 1000))) .nil (.cons (.con (.int 1000)) .nil)))
  (.cons (.iff (.not (.call 13 (.cons (.call 24 (.cons (.var 0) (.cons (.bin .add (.var 5) (.idx (.var 1) (.con (.int 0)))) .nil))) (.cons (.tup (.cons (.con (.str [109, 97, 110, 121])) (.cons (.con (.int 1000)) .nil))) .nil))))
  (.cons (.ret (.con (.bl false)))
  .nil)
  .nil)
  (.cons (.ret (.call 13 (.cons (.call 8 (.cons (.var 0) (.cons (.var 5) .nil))) (.cons (.call 19 (.cons (.var 0) (.cons (.var 5) .nil))) .nil))))
  .nil)))))))
/-- law(script, x, letters, parts, first, others, second, text, both, other, plain, wrong, due, letter) -/
def t_law : T := (.cons (.asg (.var 1) (.call 12 (.cons (.var 0) (.cons (.con (.int 0)) .nil))))
  (.cons (.asg (.var 2) (.idx (.lst (.cons (.con (.str [97])) (.cons (.con (.str [113])) (.cons (.con (.str [97, 98])) (.cons (.con (.str [99, 122])) (.cons (.con (.str [97, 98, 99])) (.cons (.con (.str [98, 120, 122])) (.cons (.con (.str [97, 98, 99, 100])) (.cons (.con (.str [104, 109, 116, 121])) .nil))))))))) (.bin .mod (.blt .int (.cons (.var 1) .nil)) (.con (.int 8)))))
  (.cons (.asg (.var 3) (.call 15 (.cons (.var 0) (.cons (.con (.int 3)) (.cons (.var 2) (.cons (.bin .add (.con (.int 1)) (.bin .mod (.blt .int (.cons (.bin .fdiv (.var 1) (.con (.int 8))) .nil)) (.con (.int 5)))) .nil))))))
  (.cons (.asg (.var 4) (.call 16 (.cons (.var 2) (.cons (.call 14 (.cons (.bin .fdiv (.var 1) (.con (.int 40))) (.cons (.var 2) (.cons (.con (.int 2)) .nil)))) (.cons (.var 3) .nil)))))
  (.cons (.asg (.var 5) (.call 15 (.cons (.var 0) (.cons (.con (.int 28)) (.cons (.var 2) (.cons (.bin .add (.con (.int 1)) (.bin .mod (.blt .int (.cons (.bin .fdiv (.var 1) (.con (.int 1920))) .nil)) (.con (.int 5)))) .nil))))))
  (.cons (.asg (.var 6) (.call 17 (.cons (.var 2) (.cons (.call 14 (.cons (.bin .fdiv (.var 1) (.con (.int 9600))) (.cons (.var 2) (.cons (.con (.int 2)) .nil)))) (.cons (.var 5) .nil)))))
  (.cons (.iff (.or (.cmp .IsNot (.call 6 (.cons (.var 4) .nil)) (.con .non)) (.cmp .IsNot (.call 6 (.cons (.var 6) .nil)) (.con .non)))
  (.cons (.ret (.con (.bl false)))
  .nil)
  .nil)
  (.cons (.asg (.tup (.cons (.var 11) (.cons (.var 12) .nil))) (.call 23 (.cons (.var 4) (.cons (.call 12 (.cons (.var 0) (.cons (.con (.int 1)) .nil))) .nil))))
  (.cons (.iff (.not (.call 13 (.cons (.call 22 (.cons (.var 11) .nil)) (.cons (.var 12) .nil))))
  (.cons (.ret (.con (.bl false)))
  .nil)
  .nil)
  (.cons (.iff (.and (.cmp .Eq (.idx (.var 12) (.con (.int 0))) (.con (.str [109, 97, 110, 121]))) (.cmp .IsNot (.call 6 (.cons (.tup (.cons (.var 2) (.cons (.idx (.var 4) (.con (.int 1))) (.cons (.bin .mul (.tup (.cons (.idx (.idx (.var 4) (.con (.int 2))) (.con (.int 0))) .nil)) (.con (.int 1000))) .nil)))) .nil)) (.con .non)))
  (.cons (.ret (.con (.bl false)))
  .nil)
  .nil)
  (.cons (.asg (.var 7) (.call 14 (.cons (.call 12 (.cons (.var 0) (.cons (.con (.int 2)) .nil))) (.cons (.var 2) (.cons (.con (.int 8)) .nil)))))
  (.cons (.iff (.not (.call 13 (.cons (.call 8 (.cons (.var 4) (.cons (.var 7) .nil))) (.cons (.call 19 (.cons (.var 4) (.cons (.var 7) .nil))) .nil))))
  (.cons (.ret (.con (.bl false)))
  .nil)
  .nil)
  (.cons (.iff (.not (.call 29 (.cons (.var 6) (.cons (.var 2) (.cons (.call 12 (.cons (.var 0) (.cons (.con (.int 53)) .nil))) .nil)))))
  (.cons (.ret (.con (.bl false)))
  .nil)
  .nil)
  (.cons (.asg (.var 8) (.call 11 (.cons (.var 4) (.cons (.var 6) .nil))))
  (.cons (.iff (.not (.call 13 (.cons (.var 8) (.cons (.call 20 (.cons (.var 4) (.cons (.var 6) .nil))) .nil))))
  (.cons (.ret (.con (.bl false)))
  .nil)
  .nil)
  (.cons (.iff (.not (.call 13 (.cons (.call 8 (.cons (.var 8) (.cons (.var 7) .nil))) (.cons (.call 19 (.cons (.var 6) (.cons (.idx (.call 19 (.cons (.var 4) (.cons (.var 7) .nil))) (.con (.int 0))) .nil))) .nil))))
  (.cons (.ret (.con (.bl false)))
  .nil)
  .nil)
  (.cons (.asg (.var 9) (.idx (.lst (.cons (.con (.str [98])) (.cons (.con (.str [97, 99])) (.cons (.con (.str [101, 102, 103, 104])) .nil)))) (.bin .mod (.blt .int (.cons (.call 12 (.cons (.var 0) (.cons (.con (.int 54)) .nil))) .nil)) (.con (.int 3)))))
  (.cons (.asg (.var 10) (.tup (.cons (.var 9) (.cons (.con (.str [])) (.cons (.tup (.cons (.tup (.cons (.blt .tuple (.cons (.lc [13] (.var 13) (.cons (.var 9) .nil) .nil (.tup (.cons (.con (.str [])) (.cons (.con (.int 0)) .nil)))) .nil)) (.cons (.tup (.cons (.con (.str [])) (.cons (.con (.int 0)) .nil))) .nil))) .nil)) .nil)))))
  (.cons (.iff (.not (.call 13 (.cons (.call 25 (.cons (.var 4) (.cons (.var 10) .nil))) (.cons (.tup (.cons (.con (.str [108, 101, 116, 116, 101, 114, 115])) (.cons (.var 9) .nil))) .nil))))
  (.cons (.ret (.con (.bl false)))
  .nil)
  .nil)
  (.cons (.iff (.not (.call 13 (.cons (.call 25 (.cons (.var 10) (.cons (.var 6) .nil))) (.cons (.tup (.cons (.con (.str [108, 101, 116, 116, 101, 114, 115])) (.cons (.var 2) .nil))) .nil))))
  (.cons (.ret (.con (.bl false)))
  .nil)
  .nil)
  (.cons (.asg (.var 1) (.call 12 (.cons (.var 0) (.cons (.con (.int 55)) .nil))))
  (.cons (.iff (.and (.cmp .Eq (.bin .mod (.blt .int (.cons (.var 1) .nil)) (.con (.int 12))) (.con (.int 7))) (.not (.call 28 (.cons (.bin .fdiv (.var 1) (.con (.int 12))) .nil))))
  (.cons (.ret (.con (.bl false)))
  .nil)
  .nil)
  (.cons (.ret (.call 26 (.cons (.bin .fdiv (.var 1) (.con (.int 24))) .nil)))
  .nil)))))))))))))))))))))))
def fds : List FD := [⟨1, 2, t_is_alphabet⟩, ⟨1, 1, t_check_letters⟩, ⟨3, 4, t_check_text⟩, ⟨2, 2, t_check_stream⟩, ⟨2, 3, t_is_told⟩, ⟨3, 7, t_is_good⟩, ⟨1, 5, t_check_transducer⟩, ⟨3, 9, t_feed⟩, ⟨2, 6, t_told_by⟩, ⟨1, 1, t_check_told⟩, ⟨3, 7, t_final_behind⟩, ⟨2, 13, t_piped⟩, ⟨2, 3, t__law_cell⟩, ⟨2, 3, t__law_same⟩, ⟨3, 6, t__law_word⟩, ⟨4, 10, t__law_parts⟩, ⟨3, 10, t__law_late⟩, ⟨3, 10, t__law_early⟩, ⟨3, 6, t__law_fed⟩, ⟨2, 5, t__law_told⟩, ⟨2, 15, t__law_piped⟩, ⟨1, 2, t__law_strange⟩, ⟨1, 2, t__law_refusal⟩, ⟨2, 15, t__law_spoilt⟩, ⟨2, 3, t__law_stream_error⟩, ⟨2, 3, t__law_pipe_error⟩, ⟨1, 6, t__law_long_pipe⟩, ⟨2, 4, t__law_ring⟩, ⟨1, 3, t__law_rings⟩, ⟨3, 6, t__law_streams⟩, ⟨1, 14, t_law⟩]
def xfs : List (Option (List Nat)) := [none, some [0], some [1], some [2], some [3]]
def anc : List (List Nat) := [[0], [1, 0], [2, 0], [3, 0], [4, 0]]
def own : List (PySem.Str × Nat) := []
def mts : List (Nat × Nat × Nat) := []
def P : Prog := ⟨fds, fun c m => if 5 ≤ c then (mts.find? fun p => decide (p.1 = c - 5 ∧ p.2.1 = m)).map (·.2.2) else none, fun c => if 5 ≤ c then (own[c - 5]?).map (·.2) else none, fun c k => (anc.getD c []).contains k, fun c => (xfs[c]?).join⟩
theorem P_sub (c k : Nat) : P.sub c k = (anc.getD c []).contains k := (rfl)
theorem P_xf (c : Nat) : P.xf c = (xfs[c]?).join := (rfl)
theorem c_is_alphabet (k : Nat) (a0 : D) (st : Store) : callF P (k + 1) 0 [a0] st = (ex (P.cf (callF P k)) P.xf t_is_alphabet [some a0, none] st).back st := callF_at (P := P) (fd := ⟨1, 2, t_is_alphabet⟩) rfl k [a0] st rfl
theorem c_check_letters (k : Nat) (a0 : D) (st : Store) : callF P (k + 1) 1 [a0] st = (ex (P.cf (callF P k)) P.xf t_check_letters [some a0] st).back st := callF_at (P := P) (fd := ⟨1, 1, t_check_letters⟩) rfl k [a0] st rfl
theorem c_check_text (k : Nat) (a0 a1 a2 : D) (st : Store) : callF P (k + 1) 2 [a0, a1, a2] st = (ex (P.cf (callF P k)) P.xf t_check_text [some a0, some a1, some a2, none] st).back st := callF_at (P := P) (fd := ⟨3, 4, t_check_text⟩) rfl k [a0, a1, a2] st rfl
theorem c_check_stream (k : Nat) (a0 a1 : D) (st : Store) : callF P (k + 1) 3 [a0, a1] st = (ex (P.cf (callF P k)) P.xf t_check_stream [some a0, some a1] st).back st := callF_at (P := P) (fd := ⟨2, 2, t_check_stream⟩) rfl k [a0, a1] st rfl
theorem c_is_told (k : Nat) (a0 a1 : D) (st : Store) : callF P (k + 1) 4 [a0, a1] st = (ex (P.cf (callF P k)) P.xf t_is_told [some a0, some a1, none] st).back st := callF_at (P := P) (fd := ⟨2, 3, t_is_told⟩) rfl k [a0, a1] st rfl
theorem c_is_good (k : Nat) (a0 a1 a2 : D) (st : Store) : callF P (k + 1) 5 [a0, a1, a2] st = (ex (P.cf (callF P k)) P.xf t_is_good [some a0, some a1, some a2, none, none, none, none] st).back st := callF_at (P := P) (fd := ⟨3, 7, t_is_good⟩) rfl k [a0, a1, a2] st rfl
theorem c_check_transducer (k : Nat) (a0 : D) (st : Store) : callF P (k + 1) 6 [a0] st = (ex (P.cf (callF P k)) P.xf t_check_transducer [some a0, none, none, none, none] st).back st := callF_at (P := P) (fd := ⟨1, 5, t_check_transducer⟩) rfl k [a0] st rfl
theorem c_feed (k : Nat) (a0 a1 a2 : D) (st : Store) : callF P (k + 1) 7 [a0, a1, a2] st = (ex (P.cf (callF P k)) P.xf t_feed [some a0, some a1, some a2, none, none, none, none, none, none] st).back st := callF_at (P := P) (fd := ⟨3, 9, t_feed⟩) rfl k [a0, a1, a2] st rfl
theorem c_told_by (k : Nat) (a0 a1 : D) (st : Store) : callF P (k + 1) 8 [a0, a1] st = (ex (P.cf (callF P k)) P.xf t_told_by [some a0, some a1, none, none, none, none] st).back st := callF_at (P := P) (fd := ⟨2, 6, t_told_by⟩) rfl k [a0, a1] st rfl
theorem c_check_told (k : Nat) (a0 : D) (st : Store) : callF P (k + 1) 9 [a0] st = (ex (P.cf (callF P k)) P.xf t_check_told [some a0] st).back st := callF_at (P := P) (fd := ⟨1, 1, t_check_told⟩) rfl k [a0] st rfl
theorem c_final_behind (k : Nat) (a0 a1 a2 : D) (st : Store) : callF P (k + 1) 10 [a0, a1, a2] st = (ex (P.cf (callF P k)) P.xf t_final_behind [some a0, some a1, some a2, none, none, none, none] st).back st := callF_at (P := P) (fd := ⟨3, 7, t_final_behind⟩) rfl k [a0, a1, a2] st rfl
theorem c_piped (k : Nat) (a0 a1 : D) (st : Store) : callF P (k + 1) 11 [a0, a1] st = (ex (P.cf (callF P k)) P.xf t_piped [some a0, some a1, none, none, none, none, none, none, none, none, none, none, none] st).back st := callF_at (P := P) (fd := ⟨2, 13, t_piped⟩) rfl k [a0, a1] st rfl
theorem c__law_cell (k : Nat) (a0 a1 : D) (st : Store) : callF P (k + 1) 12 [a0, a1] st = (ex (P.cf (callF P k)) P.xf t__law_cell [some a0, some a1, none] st).back st := callF_at (P := P) (fd := ⟨2, 3, t__law_cell⟩) rfl k [a0, a1] st rfl
theorem c__law_same (k : Nat) (a0 a1 : D) (st : Store) : callF P (k + 1) 13 [a0, a1] st = (ex (P.cf (callF P k)) P.xf t__law_same [some a0, some a1, none] st).back st := callF_at (P := P) (fd := ⟨2, 3, t__law_same⟩) rfl k [a0, a1] st rfl
theorem c__law_word (k : Nat) (a0 a1 a2 : D) (st : Store) : callF P (k + 1) 14 [a0, a1, a2] st = (ex (P.cf (callF P k)) P.xf t__law_word [some a0, some a1, some a2, none, none, none] st).back st := callF_at (P := P) (fd := ⟨3, 6, t__law_word⟩) rfl k [a0, a1, a2] st rfl
theorem c__law_parts (k : Nat) (a0 a1 a2 a3 : D) (st : Store) : callF P (k + 1) 15 [a0, a1, a2, a3] st = (ex (P.cf (callF P k)) P.xf t__law_parts [some a0, some a1, some a2, some a3, none, none, none, none, none, none] st).back st := callF_at (P := P) (fd := ⟨4, 10, t__law_parts⟩) rfl k [a0, a1, a2, a3] st rfl
theorem c__law_late (k : Nat) (a0 a1 a2 : D) (st : Store) : callF P (k + 1) 16 [a0, a1, a2] st = (ex (P.cf (callF P k)) P.xf t__law_late [some a0, some a1, some a2, none, none, none, none, none, none, none] st).back st := callF_at (P := P) (fd := ⟨3, 10, t__law_late⟩) rfl k [a0, a1, a2] st rfl
theorem c__law_early (k : Nat) (a0 a1 a2 : D) (st : Store) : callF P (k + 1) 17 [a0, a1, a2] st = (ex (P.cf (callF P k)) P.xf t__law_early [some a0, some a1, some a2, none, none, none, none, none, none, none] st).back st := callF_at (P := P) (fd := ⟨3, 10, t__law_early⟩) rfl k [a0, a1, a2] st rfl
theorem c__law_fed (k : Nat) (a0 a1 a2 : D) (st : Store) : callF P (k + 1) 18 [a0, a1, a2] st = (ex (P.cf (callF P k)) P.xf t__law_fed [some a0, some a1, some a2, none, none, none] st).back st := callF_at (P := P) (fd := ⟨3, 6, t__law_fed⟩) rfl k [a0, a1, a2] st rfl
theorem c__law_told (k : Nat) (a0 a1 : D) (st : Store) : callF P (k + 1) 19 [a0, a1] st = (ex (P.cf (callF P k)) P.xf t__law_told [some a0, some a1, none, none, none] st).back st := callF_at (P := P) (fd := ⟨2, 5, t__law_told⟩) rfl k [a0, a1] st rfl
theorem c__law_piped (k : Nat) (a0 a1 : D) (st : Store) : callF P (k + 1) 20 [a0, a1] st = (ex (P.cf (callF P k)) P.xf t__law_piped [some a0, some a1, none, none, none, none, none, none, none, none, none, none, none, none, none] st).back st := callF_at (P := P) (fd := ⟨2, 15, t__law_piped⟩) rfl k [a0, a1] st rfl
theorem c__law_strange (k : Nat) (a0 : D) (st : Store) : callF P (k + 1) 21 [a0] st = (ex (P.cf (callF P k)) P.xf t__law_strange [some a0, none] st).back st := callF_at (P := P) (fd := ⟨1, 2, t__law_strange⟩) rfl k [a0] st rfl
theorem c__law_refusal (k : Nat) (a0 : D) (st : Store) : callF P (k + 1) 22 [a0] st = (ex (P.cf (callF P k)) P.xf t__law_refusal [some a0, none] st).back st := callF_at (P := P) (fd := ⟨1, 2, t__law_refusal⟩) rfl k [a0] st rfl
theorem c__law_spoilt (k : Nat) (a0 a1 : D) (st : Store) : callF P (k + 1) 23 [a0, a1] st = (ex (P.cf (callF P k)) P.xf t__law_spoilt [some a0, some a1, none, none, none, none, none, none, none, none, none, none, none, none, none] st).back st := callF_at (P := P) (fd := ⟨2, 15, t__law_spoilt⟩) rfl k [a0, a1] st rfl
theorem c__law_stream_error (k : Nat) (a0 a1 : D) (st : Store) : callF P (k + 1) 24 [a0, a1] st = (ex (P.cf (callF P k)) P.xf t__law_stream_error [some a0, some a1, none] st).back st := callF_at (P := P) (fd := ⟨2, 3, t__law_stream_error⟩) rfl k [a0, a1] st rfl
theorem c__law_pipe_error (k : Nat) (a0 a1 : D) (st : Store) : callF P (k + 1) 25 [a0, a1] st = (ex (P.cf (callF P k)) P.xf t__law_pipe_error [some a0, some a1, none] st).back st := callF_at (P := P) (fd := ⟨2, 3, t__law_pipe_error⟩) rfl k [a0, a1] st rfl
theorem c__law_long_pipe (k : Nat) (a0 : D) (st : Store) : callF P (k + 1) 26 [a0] st = (ex (P.cf (callF P k)) P.xf t__law_long_pipe [some a0, none, none, none, none, none] st).back st := callF_at (P := P) (fd := ⟨1, 6, t__law_long_pipe⟩) rfl k [a0] st rfl
theorem c__law_ring (k : Nat) (a0 a1 : D) (st : Store) : callF P (k + 1) 27 [a0, a1] st = (ex (P.cf (callF P k)) P.xf t__law_ring [some a0, some a1, none, none] st).back st := callF_at (P := P) (fd := ⟨2, 4, t__law_ring⟩) rfl k [a0, a1] st rfl
theorem c__law_rings (k : Nat) (a0 : D) (st : Store) : callF P (k + 1) 28 [a0] st = (ex (P.cf (callF P k)) P.xf t__law_rings [some a0, none, none] st).back st := callF_at (P := P) (fd := ⟨1, 3, t__law_rings⟩) rfl k [a0] st rfl
theorem c__law_streams (k : Nat) (a0 a1 a2 : D) (st : Store) : callF P (k + 1) 29 [a0, a1, a2] st = (ex (P.cf (callF P k)) P.xf t__law_streams [some a0, some a1, some a2, none, none, none] st).back st := callF_at (P := P) (fd := ⟨3, 6, t__law_streams⟩) rfl k [a0, a1, a2] st rfl
theorem c_law (k : Nat) (a0 : D) (st : Store) : callF P (k + 1) 30 [a0] st = (ex (P.cf (callF P k)) P.xf t_law [some a0, none, none, none, none, none, none, none, none, none, none, none, none, none] st).back st := callF_at (P := P) (fd := ⟨1, 14, t_law⟩) rfl k [a0] st rfl
end Lk27
namespace Lk27
open PySem Dk
local macro_rules | `(tactic| trivial) => `(tactic| first | (simp; done) | (simp only [List.length_append, List.length_cons, List.length_nil, List.length_take, List.length_drop, List.length_map, List.length_set, List.length_tail, List.length_dropLast, List.length_mergeSort, List.length_reverse, List.length_replicate, List.length_range, Int.toNat_natCast, Int.reduceToNat]; omega) | omega)
/-! alphabets and texts -/
def goodAt (L : S) (i : Nat) : Prop := gD L i ∈ lowS ∧ (0 < i → gD L (i - 1) < gD L i)
instance (L : S) (i : Nat) : Decidable (goodAt L i) := by unfold goodAt; infer_instance
def isAlpha (L : S) : Bool := decide (1 ≤ L.length ∧ L.length ≤ 4 ∧ ∀ i, i < L.length → goodAt L i)
theorem is_alphabet_ok (n : Nat) (L : S) (st : Store) : callF P (n + 1) 0 [.str L] st = .ok (.bl (isAlpha L)) st := by
  rw [c_is_alphabet]
  by_cases h : L.length < 1 ∨ 4 < L.length
  · have e : isAlpha L = false := decide_eq_false (by omega)
    have h' : L = [] ∨ 4 < L.length := by
      rcases h with h | h
      · exact .inl (List.length_eq_zero_iff.mp (by omega))
      · exact .inr h
    rcases h' with h' | h'
    · subst h'; simp [t_is_alphabet, e]
    · have h2 : (4 : Int) < L.length := by omega
      simp [t_is_alphabet, e, h2]
  · have a : argI (.int (L.length : Int)) = some (L.length : Int) := argI_nat (by omega)
    have h0 : ¬ (L.length : Int) < 1 := by omega
    have h2 : ¬ (4 : Int) < L.length := by omega
    simp [t_is_alphabet, a, h2, h0]
    refine for0 (Q := fun r => (seqT _ _ _ r).back st = _) (fun i e s => (∀ j, j < i → goodAt L j) ∧ ∃ (k : Option D), e = [some (.str L), k] ∧ s = st) (fun _ _ _ _ => trivial) ⟨(fun j hj => by omega), none, rfl, rfl⟩ ?_ ?_
    · rintro i d e s hd ⟨hg, k, rfl, rfl⟩
      obtain ⟨hi, rfl⟩ := rng0 hd
      have e1 : atI L (i : Int) = some (gD L i) := atI_gD hi
      refine ⟨_, rfl, ?_⟩
      by_cases g1 : gD L i ∈ lowS
      · by_cases g2 : 0 < i
        · have e2 : atI L ((i : Int) - 1) = some (gD L (i - 1)) := by
            have := atI_gDi (xs := L) (i := (i : Int) - 1) (by omega) (by omega)
            rw [this, show ((i : Int) - 1).toNat = i - 1 by omega]
          by_cases g3 : gD L (i - 1) < gD L i
          · have gg : goodAt L i := ⟨g1, fun _ => g3⟩
            simp [e1, e2, g1, g2, g3]
            exact all_lt_succ hg gg
          · have e : isAlpha L = false := decide_eq_false (fun z => g3 ((z.2.2 i hi).2 g2))
            simp [e1, e2, g1, g2, g3, e]
        · have gg : goodAt L i := ⟨g1, fun z => absurd z g2⟩
          simp [e1, g1, g2]
          exact all_lt_succ hg gg
      · have e : isAlpha L = false := decide_eq_false (fun z => g1 ((z.2.2 i hi).1))
        simp [e1, g1, e]
    · rintro e s ⟨hg, k, rfl, rfl⟩
      rw [rangeD_len] at hg
      have e : isAlpha L = true := decide_eq_true ⟨by omega, by omega, hg⟩
      simp [e]
/-- what comes of a check -/
abbrev Er := Option (Nat × List (Nat × D))
def resOf (o : Er) (st : Store) : R D := match o with
  | none => .ok .non st
  | some e => .exc e.1 e.2 st
@[simp] theorem resOf_none (st : Store) : resOf none st = .ok .non st := (rfl)
@[simp] theorem resOf_some (e : Nat × List (Nat × D)) (st : Store) : resOf (some e) st = .exc e.1 e.2 st := (rfl)
/-- the first error -/
def firstE (p : Nat → Er) (n : Nat) : Er := (List.range n).findSome? p
theorem firstE_none {p : Nat → Er} {n : Nat} (h : ∀ i, i < n → p i = none) : firstE p n = none := by
  unfold firstE
  rw [List.findSome?_eq_none_iff]
  exact fun i hi => h i (List.mem_range.mp hi)
theorem firstE_some {p : Nat → Er} : ∀ {n i : Nat} {e : Nat × List (Nat × D)}, i < n → p i = some e → (∀ j, j < i → p j = none) → firstE p n = some e
  | n + 1, i, e, hi, he, hj => by
    unfold firstE
    rw [List.range_succ, List.findSome?_append]
    by_cases q : i = n
    · have z := firstE_none (p := p) (n := n) (fun j h => hj j (by omega))
      unfold firstE at z
      subst q
      rw [z]; simp [he]
    · have z := firstE_some (p := p) (n := n) (i := i) (by omega) he hj
      unfold firstE at z
      rw [z]; rfl
def lettersErr (L : S) : Er := if isAlpha L = true then none else some (2, [(1, .str L)])
theorem check_letters_ok (n : Nat) (L : S) (st : Store) : callF P (n + 2) 1 [.str L] st = resOf (lettersErr L) st := by
  rw [c_check_letters]
  cases h : isAlpha L <;> simp [t_check_letters, is_alphabet_ok, h, P_xf, xfs, lettersErr]
/-- check_text -/
def textAt (L t : S) (i : Nat) : Er := if gD t i ∈ L then none else some (3, [(2, .int i)])
def textErr (L t : S) (m : Nat) : Er := if m < t.length then some (1, [(0, .int m)]) else firstE (textAt L t) t.length
theorem check_text_ok (n : Nat) (L t : S) (m : Nat) (ht : t.length < 100000) (st : Store) : callF P (n + 1) 2 [.str L, .str t, .int m] st = resOf (textErr L t m) st := by
  rw [c_check_text]
  by_cases h : m < t.length
  · simp [t_check_text, h, P_xf, xfs, textErr]
  · have a : argI (.int (t.length : Int)) = some (t.length : Int) := argI_nat (by omega)
    simp [t_check_text, a, h, textErr]
    refine for0 (Q := fun r => r.back st = _) (fun i e s => (∀ j, j < i → gD t j ∈ L) ∧ ∃ (k : Option D), e = [some (.str L), some (.str t), some (.int m), k] ∧ s = st) (fun _ _ _ _ => trivial) ⟨(fun j hj => by omega), none, rfl, rfl⟩ ?_ ?_
    · rintro i d e s hd ⟨hg, k, rfl, rfl⟩
      obtain ⟨hi, rfl⟩ := rng0 hd
      have e1 : atI t (i : Int) = some (gD t i) := atI_gD hi
      refine ⟨_, rfl, ?_⟩
      by_cases q : gD t i ∈ L
      · simp [e1, q]
        exact all_lt_succ hg q
      · have z := firstE_some (p := textAt L t) hi (if_neg q) (fun j hj => if_pos (hg j hj))
        simp [e1, q, P_xf, xfs, z]
    · rintro e s ⟨hg, k, rfl, rfl⟩
      rw [rangeD_len] at hg
      have z := firstE_none (p := textAt L t) (fun i hi => if_pos (hg i hi))
      simp [z]
/-! letters drawn from a number -/
def word (L : S) : Nat → Int → S
  | 0, _ => []
  | z + 1, x => gD L (x % L.length).toNat :: word L z (x / L.length)
theorem word_0 (L : S) (x : Int) : word L 0 x = [] := (rfl)
theorem word_s (L : S) (z : Nat) (x : Int) : word L (z + 1) x = gD L (x % L.length).toNat :: word L z (x / L.length) := (rfl)
theorem word_len (L : S) : ∀ (z : Nat) (x : Int), (word L z x).length = z
  | 0, x => rfl
  | z + 1, x => by rw [word_s, List.length_cons, word_len L z]
theorem word_mem (L : S) (hL : 0 < L.length) : ∀ (z : Nat) (x : Int), ∀ c ∈ word L z x, c ∈ L
  | 0, x, c, h => by simp [word_0] at h
  | z + 1, x, c, h => by
    rw [word_s] at h
    rcases List.mem_cons.mp h with rfl | h
    · have q1 : 0 ≤ x % (L.length : Int) := Int.emod_nonneg _ (by omega)
      have q2 : x % (L.length : Int) < L.length := Int.emod_lt_of_pos _ (by omega)
      exact gD_mem (by omega)
    · exact word_mem L hL z _ c h
/-! cells and words -/
def cellV (ns : List Int) (k : Nat) : Int := if k < ns.length then gD ns k % 1000000 else if ns.length = 0 then 0 else ((gD ns (k % ns.length) % 1009 + 1) * (k + 3) * 48271 + k * 7919) % 1000003
theorem cellV_nn (ns : List Int) (k : Nat) : 0 ≤ cellV ns k := by
  unfold cellV
  split
  · exact Int.emod_nonneg _ (by decide)
  · split
    · exact Int.le_refl _
    · exact Int.emod_nonneg _ (by decide)
theorem cell_ok (n : Nat) (ns : List Int) (k : Nat) (st : Store) : callF P (n + 1) 12 [.scr ns, .int k] st = .ok (.int (cellV ns k)) st := by
  rw [c__law_cell]
  by_cases h : k < ns.length
  · have e : atI ns (k : Int) = some (gD ns k) := atI_gD h
    simp [t__law_cell, h, e, cellV]
  · by_cases h0 : ns.length = 0
    · have h2 : (ns = []) = True := eq_true (List.length_eq_zero_iff.mp h0)
      simp [t__law_cell, cellV, h, h2]
    · have hm : k % ns.length < ns.length := Nat.mod_lt _ (by omega)
      have e : atI ns ((k : Int) % (ns.length : Int)) = some (gD ns (k % ns.length)) := by
        rw [← Int.natCast_emod]; exact atI_gD hm
      have h1 : 0 < ns.length := by omega
      have h2 : ns ≠ [] := fun z => h0 (by rw [z]; rfl)
      have h3 : (gD ns (k % ns.length) % 1009 + 1).natAbs < 18446744073709551616 := by omega
      simp [t__law_cell, h, h1, h2, h3, e, cellV]
theorem word_ok (n : Nat) (x : Int) (hx : 0 ≤ x) (L : S) (h0 : 0 < L.length) (h4 : L.length < 1000) (m : Nat) (hm : m < 100) (st : Store) : ∃ w : S, w.length ≤ m ∧ (∀ c ∈ w, c ∈ L) ∧ ∀ st : Store, callF P (n + 1) 14 [.int x, .str L, .int m] st = .ok (.str w) st := by
  have hz0 : 0 ≤ x % ((m : Int) + 1) := Int.emod_nonneg _ (by omega)
  have hz1 : x % ((m : Int) + 1) < (m : Int) + 1 := Int.emod_lt_of_pos _ (by omega)
  have hy : 0 ≤ x / ((m : Int) + 1) := Int.ediv_nonneg hx (by omega)
  refine ⟨word L (x % ((m : Int) + 1)).toNat (x / ((m : Int) + 1)), by rw [word_len]; omega, word_mem L h0 _ _, fun st => ?_⟩
  rw [c__law_word]
  generalize hz : x % ((m : Int) + 1) = z at *
  obtain ⟨z, rfl⟩ := Int.eq_ofNat_of_zero_le hz0
  have a : argI (.int (z : Int)) = some (z : Int) := argI_nat (by omega)
  have d1 : ¬ (m : Int) + 1 = 0 := by omega
  have d2 : (0 : Int) < (m : Int) + 1 := by omega
  generalize hx1 : x / ((m : Int) + 1) = x1 at *
  generalize hq : (m : Int) + 1 = q at *
  have d3 : q < 1073741824 := by omega
  simp [t__law_word, a, hq, hz, hx1, d2, d3]
  refine for0 (Q := fun r => (seqT _ _ _ r).back st = _) (fun i e s => ∃ (k : Option D) (w : S) (y : Int), 0 ≤ y ∧ w.length = i ∧ w ++ word L (z - i) y = word L z x1 ∧ e = [some (.int y), some (.str L), some (.int m), some (.str w), some (.int z), k] ∧ s = st) (fun _ _ _ _ => trivial) ⟨none, [], x1, hy, rfl, rfl, rfl, rfl⟩ ?_ ?_
  · rintro i d e s hd ⟨k, w, y, hy, hw, hwd, rfl, rfl⟩
    obtain ⟨hi, rfl⟩ := rng0 hd
    have q1 : 0 ≤ y % (L.length : Int) := Int.emod_nonneg _ (by omega)
    have q2 : y % (L.length : Int) < L.length := Int.emod_lt_of_pos _ (by omega)
    have e1 : atI L (y % (L.length : Int)) = some (gD L (y % (L.length : Int)).toNat) := atI_gDi q1 (by omega)
    have e2 : w.length + 1 ≤ 16777216 := by omega
    have e3 : (L.length : Int) < 1073741824 := by omega
    obtain ⟨j, hj⟩ : ∃ j, z - i = j + 1 := ⟨z - i - 1, by omega⟩
    rw [hj] at hwd
    refine ⟨_, rfl, ?_⟩
    simp [e1, e2, e3, h0]
    exact ⟨_, _, _, Int.ediv_nonneg hy (by omega), by simp [hw], by rw [show z - (i + 1) = j by omega, ← hwd, word_s]; simp, ⟨rfl, rfl, rfl⟩⟩
  · rintro e s ⟨k, w, y, hy, hw, hwd, rfl, rfl⟩
    rw [rangeD_len, Nat.sub_self, word_0, List.append_nil] at hwd
    simp [hwd]
/-! machines -/
abbrev Mv := S × Nat
abbrev Rw := List Mv × (S × Int)
structure Mac where
  L : S
  st : S
  rows : List Rw
def encMv (m : Mv) : D := .tup [.str m.1, .int m.2]
def encRow (r : Rw) : D := .tup [.tup (r.1.map encMv), .tup [.str r.2.1, .int r.2.2]]
def encM (M : Mac) : D := .tup [.str M.L, .str M.st, .tup (M.rows.map encRow)]
/-- a machine whose texts are at most B long -/
structure Good (B : Nat) (M : Mac) : Prop where
  al : isAlpha M.L = true
  st : M.st.length ≤ B
  pos : 0 < M.rows.length
  big : M.rows.length ≤ 1000
  mv : ∀ i, i < M.rows.length → (gD M.rows i).1.length = M.L.length
  tg : ∀ i, i < M.rows.length → ∀ k, k < M.L.length → (gD (gD M.rows i).1 k).2 < M.rows.length
  tx : ∀ i, i < M.rows.length → ∀ k, k < M.L.length → (gD (gD M.rows i).1 k).1.length ≤ B
  fx : ∀ i, i < M.rows.length → (gD M.rows i).2.1.length ≤ B
theorem alpha_len {L : S} (h : isAlpha L = true) : 1 ≤ L.length ∧ L.length ≤ 4 := by
  have := of_decide_eq_true h
  exact ⟨this.1, this.2.1⟩
def mvAt (M : Mac) (r k : Nat) : Mv := gD (gD M.rows r).1 k
def fin (M : Mac) (r : Nat) : S × Int := (gD M.rows r).2
/-- what is told of a text, and where it ends -/
def fed (M : Mac) : Nat → S → S × Nat
  | r, [] => ([], r)
  | r, c :: t => ((mvAt M r (M.L.idxOf c)).1 ++ (fed M (mvAt M r (M.L.idxOf c)).2 t).1, (fed M (mvAt M r (M.L.idxOf c)).2 t).2)
theorem fed_nil (M : Mac) (r : Nat) : fed M r [] = ([], r) := (rfl)
theorem fed_cons (M : Mac) (r : Nat) (c : Nat) (t : S) : fed M r (c :: t) = ((mvAt M r (M.L.idxOf c)).1 ++ (fed M (mvAt M r (M.L.idxOf c)).2 t).1, (fed M (mvAt M r (M.L.idxOf c)).2 t).2) := (rfl)
theorem fed_app (M : Mac) : ∀ (a b : S) (r : Nat), fed M r (a ++ b) = ((fed M r a).1 ++ (fed M (fed M r a).2 b).1, (fed M (fed M r a).2 b).2)
  | [], b, r => by simp [fed_nil]
  | c :: a, b, r => by
    rw [List.cons_append, fed_cons, fed_app M a b, fed_cons]
    simp
/-- its letters are of its alphabet, its statuses figures -/
structure Fine (M : Mac) : Prop where
  st : ∀ c ∈ M.st, c ∈ M.L
  tx : ∀ i, i < M.rows.length → ∀ k, k < M.L.length → ∀ c ∈ (mvAt M i k).1, c ∈ M.L
  fx : ∀ i, i < M.rows.length → ∀ c ∈ (fin M i).1, c ∈ M.L
  sta : ∀ i, i < M.rows.length → 0 ≤ (fin M i).2 ∧ (fin M i).2 ≤ 9
theorem idx_lt {L : S} {c : Nat} (h : c ∈ L) : L.idxOf c < L.length := List.idxOf_lt_length_iff.mpr h
theorem fed_ok {B : Nat} {M : Mac} (G : Good B M) : ∀ (t : S) (r : Nat), r < M.rows.length → (∀ c ∈ t, c ∈ M.L) → (fed M r t).2 < M.rows.length ∧ (fed M r t).1.length ≤ B * t.length
  | [], r, hr, _ => ⟨hr, by simp [fed_nil]⟩
  | c :: t, r, hr, h => by
    have hc := idx_lt (h c (by simp))
    have h1 := G.tg r hr _ hc
    have h2 := G.tx r hr _ hc
    obtain ⟨h3, h4⟩ := fed_ok G t _ h1 (fun d hd => h d (List.mem_cons_of_mem _ hd))
    rw [fed_cons]
    refine ⟨h3, ?_⟩
    unfold mvAt at *
    rw [List.length_append, List.length_cons, Nat.mul_succ]
    omega
def told (M : Mac) (t : S) : S × Int := (M.st ++ (fed M 0 t).1 ++ (fin M (fed M 0 t).2).1, (fin M (fed M 0 t).2).2)
/-- where a letter stands -/
theorem idx_find {L : S} {c : Nat} (h : c ∈ L) : (L.map fun z => D.str [z]).findIdx? (fun z => D.eqv z (.str [c])) = some (L.idxOf c) := by
  induction L with
  | nil => cases h
  | cons a r ih =>
    rw [List.map_cons, List.findIdx?_cons]
    by_cases q : a = c
    · subst q; simp
    · have hc : c ∈ r := by
        rcases List.mem_cons.mp h with z | z
        · exact absurd z.symm q
        · exact z
      have e : (a == c) = false := beq_false_of_ne q
      simp [q, ih hc, List.idxOf_cons, e]
/-! feeding a machine -/
theorem join_empty : ∀ (ls : List S), joinS [] ls = ls.flatten
  | [] => rfl
  | [p] => by simp [joinS]
  | p :: q :: r => by
    show p ++ ([] ++ joinS [] (q :: r)) = _
    rw [join_empty (q :: r)]; simp
theorem find_idx {L : S} {c : Nat} (h : c ∈ L) : L.findIdx? (fun z => z == c) = some (L.idxOf c) := by
  induction L with
  | nil => cases h
  | cons a r ih =>
    rw [List.findIdx?_cons, List.idxOf_cons]
    by_cases q : a = c
    · subst q; simp
    · have hc : c ∈ r := by
        rcases List.mem_cons.mp h with z | z
        · exact absurd z.symm q
        · exact z
      have e : (a == c) = false := beq_false_of_ne q
      simp [e, ih hc]
theorem mth_index_s (st st1 : Store) {L : S} {c : Nat} (h : c ∈ L) : mthD st .index (.str L) [.str [c]] st1 = .ok (.int (L.idxOf c : Nat)) st1 := by
  show R.of (((some c).bind fun c => (L.findIdx? fun z => z == c).map fun k => D.int (k : Nat))) st1 = _
  rw [Option.bind_some, find_idx h]; rfl
def isStream (L t : S) : Bool := decide (t.length ≤ 1000 ∧ ∀ c ∈ t, c ∈ L)
theorem row_at {M : Mac} {r : Nat} (h : r < M.rows.length) : atI (M.rows.map encRow) (r : Int) = some (encRow (gD M.rows r)) := atI_map encRow h
theorem mv_at {M : Mac} {r k : Nat} (h : k < (gD M.rows r).1.length) : atI ((gD M.rows r).1.map encMv) (k : Int) = some (encMv (mvAt M r k)) := atI_map encMv h
theorem fed_step {M : Mac} {t : S} {i : Nat} (h : i < t.length) (r : Nat) : fed M r (t.drop i) = ((mvAt M r (M.L.idxOf (gD t i))).1 ++ (fed M (mvAt M r (M.L.idxOf (gD t i))).2 (t.drop (i + 1))).1, (fed M (mvAt M r (M.L.idxOf (gD t i))).2 (t.drop (i + 1))).2) := by
  rw [drop_gD h, fed_cons]
theorem feed_ok (n : Nat) {B : Nat} (hB : B ≤ 1000) {M : Mac} (G : Good B M) (r : Nat) (hr : r < M.rows.length) (t : S) (h : ∀ c ∈ t, c ∈ M.L) (ht : t.length ≤ 2000) (st : Store) :
    callF P (n + 1) 7 [encM M, .int r, .str t] st = .ok (.tup [.str (fed M r t).1, .int (fed M r t).2]) st := by
  rw [c_feed]
  simp [t_feed, encM]
  refine for0 (Q := fun r => (seqT _ _ _ r).back st = _) (fun i e s => ∃ (acc : List S) (q : Nat) (k1 k2 : Option D), q < M.rows.length ∧ acc.length = i ∧ acc.flatten ++ (fed M q (t.drop i)).1 = (fed M r t).1 ∧ (fed M q (t.drop i)).2 = (fed M r t).2 ∧
    e = [some (encM M), some (.int q), some (.str t), some (.loc st.length), k1, some (.str M.L), some (.str M.st), some (.tup (M.rows.map encRow)), k2] ∧ s = push st (.lst (acc.map .str))) (fun i e s ⟨_, _, _, _, _, _, _, _, _, h⟩ => by first | trivial | (subst h; exact srcOk_at (by simp))) ⟨[], r, none, none, hr, rfl, rfl, rfl, rfl, rfl⟩ ?_ ?_
  · rintro i d e s hd ⟨acc, q, k1, k2, hq, hl, h1, h2, rfl, rfl⟩
    obtain ⟨hi, rfl⟩ := map_at hd
    have hc := h _ (gD_mem hi)
    have hk := idx_lt hc
    have e1 := row_at hq
    have e2 := mv_at (M := M) (r := q) (k := M.L.idxOf (gD t i)) (by rw [G.mv q hq]; exact hk)
    have e3 : (mvAt M q (M.L.idxOf (gD t i))).2 < M.rows.length := G.tg q hq _ hk
    have e4 : acc.length < 16777216 := by omega
    rw [fed_step hi] at h1 h2
    refine ⟨_, rfl, ?_⟩
    simp [e1, encRow, e2, encMv, mth_index_s _ _ hc, e4]
    exact ⟨acc ++ [(mvAt M q (M.L.idxOf (gD t i))).1], _, e3, by simp [hl], by rw [← h1]; simp, h2, rfl, by simp⟩
  · rintro e s ⟨acc, q, k1, k2, hq, hl, h1, h2, rfl, rfl⟩
    rw [List.length_map, List.drop_length, fed_nil] at h1 h2
    simp only [List.append_nil] at h1 h2
    have hb := (fed_ok G t r hr h).2
    have js : (acc.map List.length).sum + acc.length * ([] : S).length ≤ sizeLine := by
      have e : (acc.map List.length).sum = (fed M r t).1.length := by rw [← h1, List.length_flatten]
      have : B * t.length ≤ 1000 * 2000 := Nat.mul_le_mul hB ht
      rw [e]
      show _ + _ * 0 ≤ 16777216
      omega
    simp [joinK_some js, join_empty, h1, h2]
theorem fed_law (n : Nat) {B : Nat} (hB : B ≤ 1000) {M : Mac} (G : Good B M) (r : Nat) (hr : r < M.rows.length) (t : S) (h : ∀ c ∈ t, c ∈ M.L) (ht : t.length ≤ 2000) (st : Store) :
    callF P (n + 1) 18 [encM M, .int r, .str t] st = .ok (.tup [.str (fed M r t).1, .int (fed M r t).2]) st := by
  rw [c__law_fed]
  simp [t__law_fed, encM]
  refine for0 (Q := fun r => (seqT _ _ _ r).back st = _) (fun i e s => ∃ (acc : S) (q : Nat) (k1 k2 : Option D), q < M.rows.length ∧ acc.length ≤ B * i ∧ acc ++ (fed M q (t.drop i)).1 = (fed M r t).1 ∧ (fed M q (t.drop i)).2 = (fed M r t).2 ∧
    e = [some (encM M), some (.int q), some (.str t), some (.str acc), k1, k2] ∧ s = st) (fun _ _ _ _ => trivial) ⟨[], r, none, none, hr, by simp, rfl, rfl, rfl, rfl⟩ ?_ ?_
  · rintro i d e s hd ⟨acc, q, k1, k2, hq, hl, h1, h2, rfl, rfl⟩
    obtain ⟨hi, rfl⟩ := map_at hd
    have hc := h _ (gD_mem hi)
    have hk := idx_lt hc
    have e1 := row_at hq
    have e2 := mv_at (M := M) (r := q) (k := M.L.idxOf (gD t i)) (by rw [G.mv q hq]; exact hk)
    have e3 : (mvAt M q (M.L.idxOf (gD t i))).2 < M.rows.length := G.tg q hq _ hk
    have e5 := G.tx q hq _ hk
    have e4 : acc.length + (mvAt M q (M.L.idxOf (gD t i))).1.length ≤ 16777216 := by
      have : B * i ≤ 1000 * 2000 := Nat.mul_le_mul hB (by omega)
      unfold mvAt
      omega
    rw [fed_step hi] at h1 h2
    refine ⟨_, rfl, ?_⟩
    simp [encM, e1, encRow, e2, encMv, mth_index_s _ _ hc, e4]
    refine ⟨_, _, e3, ?_, by rw [← h1]; simp, h2, ⟨rfl, rfl⟩⟩
    rw [List.length_append, Nat.mul_succ]
    unfold mvAt
    omega
  · rintro e s ⟨acc, q, k1, k2, hq, hl, h1, h2, rfl, rfl⟩
    rw [List.length_map, List.drop_length, fed_nil] at h1 h2
    simp only [List.append_nil] at h1 h2
    simp [h1, h2]
/-! what a machine tells of a stream -/
theorem check_stream_ok (n : Nat) {L : S} (hL : isAlpha L = true) (t : S) (h : isStream L t = true) (st : Store) : callF P (n + 3) 3 [.str L, .str t] st = .ok .non st := by
  obtain ⟨h1, h2⟩ := of_decide_eq_true h
  rw [c_check_stream]
  have e1 : lettersErr L = none := if_pos hL
  have e2 : textErr L t 1000 = none := by
    unfold textErr
    rw [if_neg (by omega), firstE_none (p := textAt L t) fun i hi => if_pos (h2 _ (gD_mem hi))]
  have c2 := check_text_ok (n + 1) L t 1000 (by omega)
  simp at c2
  simp [t_check_stream, check_letters_ok, e1, c2, e2]
theorem told_by_ok (n : Nat) {B : Nat} (hB : B ≤ 1000) {M : Mac} (G : Good B M) (t : S) (h : isStream M.L t = true) (st : Store) :
    callF P (n + 4) 8 [encM M, .str t] st = .ok (.tup [.str (told M t).1, .int (told M t).2]) st := by
  obtain ⟨h1, h2⟩ := of_decide_eq_true h
  rw [c_told_by]
  obtain ⟨f1, f2⟩ := fed_ok G t 0 G.pos h2
  have e1 := feed_ok (n + 2) hB G 0 G.pos t h2 (by omega)
  have e2 := check_stream_ok n G.al t h
  have e3 := row_at f1
  have f3 := G.fx _ f1
  have f4 := G.st
  have b1 : B * t.length ≤ 1000 * 1000 := Nat.mul_le_mul hB h1
  have e4 : M.st.length + (fed M 0 t).1.length ≤ 16777216 := by omega
  have e5 : M.st.length + ((fed M 0 t).1.length + (gD M.rows (fed M 0 t).2).2.1.length) ≤ 16777216 := by omega
  have e6 : M.st.length + (fed M 0 t).1.length + (gD M.rows (fed M 0 t).2).2.1.length ≤ 16777216 := by omega
  simp [encM] at e1
  simp [t_told_by, encM, e2, e1, e3, encRow, e4, e5, e6, told, fin]
theorem told_law (n : Nat) {B : Nat} (hB : B ≤ 1000) {M : Mac} (G : Good B M) (t : S) (h : isStream M.L t = true) (st : Store) :
    callF P (n + 2) 19 [encM M, .str t] st = .ok (.tup [.str (told M t).1, .int (told M t).2]) st := by
  obtain ⟨h1, h2⟩ := of_decide_eq_true h
  rw [c__law_told]
  obtain ⟨f1, f2⟩ := fed_ok G t 0 G.pos h2
  have e1 := fed_law n hB G 0 G.pos t h2 (by omega)
  have e3 := row_at f1
  have f3 := G.fx _ f1
  have f4 := G.st
  have b1 : B * t.length ≤ 1000 * 1000 := Nat.mul_le_mul hB h1
  have e4 : M.st.length + (fed M 0 t).1.length ≤ 16777216 := by omega
  have e5 : M.st.length + ((fed M 0 t).1.length + (gD M.rows (fed M 0 t).2).2.1.length) ≤ 16777216 := by omega
  have e6 : M.st.length + (fed M 0 t).1.length + (gD M.rows (fed M 0 t).2).2.1.length ≤ 16777216 := by omega
  simp [encM] at e1
  simp [t__law_told, encM, e1, e3, encRow, e4, e5, e6, told, fin]
/-! what two texts share ahead -/
def lcp : S → S → Nat
  | x :: xs, y :: ys => if x = y then lcp xs ys + 1 else 0
  | _, _ => 0
theorem lcp_cons (x y : Nat) (xs ys : S) : lcp (x :: xs) (y :: ys) = if x = y then lcp xs ys + 1 else 0 := (rfl)
theorem lcp_nil (b : S) : lcp [] b = 0 := by cases b <;> rfl
theorem lcp_nil' (a : S) : lcp a [] = 0 := by cases a <;> rfl
theorem lcp_le : ∀ (a b : S), lcp a b ≤ a.length ∧ lcp a b ≤ b.length
  | [], b => by rw [lcp_nil]; simp
  | x :: xs, [] => by rw [lcp_nil']; simp
  | x :: xs, y :: ys => by
    have := lcp_le xs ys
    rw [lcp_cons]
    split <;> simp <;> omega
theorem lcp_step {a b : S} {k : Nat} (h1 : k < a.length) (h2 : k < b.length) : lcp (a.drop k) (b.drop k) = if gD a k = gD b k then lcp (a.drop (k + 1)) (b.drop (k + 1)) + 1 else 0 := by
  rw [drop_gD h1, drop_gD h2, lcp_cons]
theorem lcp_take : ∀ (a b : S), a.take (lcp a b) = b.take (lcp a b)
  | [], b => by rw [lcp_nil]; simp
  | x :: xs, [] => by rw [lcp_nil']; simp
  | x :: xs, y :: ys => by
    rw [lcp_cons]
    split
    · rename_i h
      subst h
      simp [lcp_take xs ys]
    · simp
/-! pairs -/
abbrev Pr := Int × Int × S × S
def encP (p : Pr) : D := .tup [.int p.1, .int p.2.1, .str p.2.2.1, .str p.2.2.2]
def optP : Option Pr → D
  | none => .non
  | some p => encP p
def pairOf (l r : Int) (a b : S) : Option Pr := if lcp a b < a.length ∧ lcp a b < b.length then none else some (l, r, a.drop (lcp a b), b.drop (lcp a b))
end Lk27
namespace Lk27
open PySem Dk
local macro_rules | `(tactic| trivial) => `(tactic| first | (simp; done) | (simp only [List.length_append, List.length_cons, List.length_nil, List.length_take, List.length_drop, List.length_map, List.length_set, List.length_tail, List.length_dropLast, List.length_mergeSort, List.length_reverse, List.length_replicate, List.length_range, Int.toNat_natCast, Int.reduceToNat]; omega) | omega)
/-! rows for simp -/
@[simp] theorem ix_M0 (st : Store) (M : Mac) : idxD st (encM M) (.int 0) = some (.str M.L) := (rfl)
@[simp] theorem ix_M1 (st : Store) (M : Mac) : idxD st (encM M) (.int 1) = some (.str M.st) := (rfl)
@[simp] theorem ix_M2 (st : Store) (M : Mac) : idxD st (encM M) (.int 2) = some (.tup (M.rows.map encRow)) := (rfl)
@[simp] theorem bel_Ss (n : Nat) (ps : List S) : D.belL n (ps.map D.str) = true := belL_map fun _ => rfl
@[simp] theorem ix_R0 (st : Store) (r : Rw) : idxD st (encRow r) (.int 0) = some (.tup (r.1.map encMv)) := (rfl)
@[simp] theorem ix_R1 (st : Store) (r : Rw) : idxD st (encRow r) (.int 1) = some (.tup [.str r.2.1, .int r.2.2]) := (rfl)
@[simp] theorem ix_V0 (st : Store) (r : Mv) : idxD st (encMv r) (.int 0) = some (.str r.1) := (rfl)
@[simp] theorem ix_V1 (st : Store) (r : Mv) : idxD st (encMv r) (.int 1) = some (.int r.2) := (rfl)
@[simp] theorem bel_V (n : Nat) (p : Mv) : D.bel n (encMv p) = true := (rfl)
@[simp] theorem bel_Vs (n : Nat) (ps : List Mv) : D.belL n (ps.map encMv) = true := belL_map fun _ => rfl
@[simp] theorem bel_R (n : Nat) (p : Rw) : D.bel n (encRow p) = true := by simp [encRow]
@[simp] theorem bel_Rs (n : Nat) (ps : List Rw) : D.belL n (ps.map encRow) = true := belL_map (bel_R n)
@[simp] theorem bel_M (n : Nat) (M : Mac) : D.bel n (encM M) = true := by simp [encM]
theorem nodup_lt : ∀ (N : Nat) (xs : List Nat), xs.Nodup → (∀ x ∈ xs, x < N) → xs.length ≤ N
  | 0, xs, _, h => by
    cases xs with
    | nil => simp
    | cons x r => exact absurd (h x (by simp)) (by omega)
  | N + 1, xs, hn, h => by
    have h1 := nodup_lt N (xs.erase N) (hn.erase N) (fun x hx => by
      have a := h x (List.mem_of_mem_erase hx)
      have b : x ≠ N := (List.Nodup.mem_erase_iff hn).mp hx |>.1
      omega)
    rw [List.length_erase] at h1
    split at h1 <;> omega
/-! the same data -/
def okD : Nat → D → Prop
  | _, .non => True
  | _, .bl _ => True
  | _, .int _ => True
  | _, .str _ => True
  | k + 1, .tup ds => ds.length < 100000 ∧ ∀ d ∈ ds, okD k d
  | _, _ => False
theorem same_ok : ∀ (k n : Nat) (d : D), okD k d → ∀ st : Store, callF P (n + k + 1) 13 [d, d] st = .ok (.bl true) st
  | k, n, .non, h, st => by rw [c__law_same]; simp [t__law_same]
  | k, n, .bl b, h, st => by rw [c__law_same]; simp [t__law_same]
  | k, n, .int i, h, st => by rw [c__law_same]; simp [t__law_same]
  | k, n, .str s, h, st => by rw [c__law_same]; simp [t__law_same]
  | k + 1, n, .tup ds, h, st => by
    obtain ⟨h1, h2⟩ := h
    rw [c__law_same]
    have a : argI (.int (ds.length : Int)) = some (ds.length : Int) := argI_nat (by omega)
    simp [t__law_same, a]
    refine for0 (Q := fun r => (seqT _ _ _ (seqT _ _ _ r)).back _ = _) (fun i e s => ∃ (k : Option D), e = [some (.tup ds), some (.tup ds), k] ∧ s = st) (fun _ _ _ _ => trivial) ⟨none, rfl, rfl⟩ ?_ ?_
    · rintro i d e s hd ⟨k', rfl, rfl⟩
      obtain ⟨hi, rfl⟩ := rng0 hd
      have e1 : atI ds (i : Int) = some (gD ds i) := atI_gD hi
      have ih : callF P (n + (k + 1)) 13 [gD ds i, gD ds i] s = _ := same_ok k n (gD ds i) (h2 _ (gD_mem hi)) s
      refine ⟨_, rfl, ?_⟩
      simp [e1, ih]
    · rintro e s ⟨k', rfl, rfl⟩
      simp
  | 0, n, .tup ds, h, st => h.elim
  | 0, n, .loc _, h, st => h.elim
  | 0, n, .fn _, h, st => h.elim
  | 0, n, .scr _, h, st => h.elim
  | k + 1, n, .loc _, h, st => h.elim
  | k + 1, n, .fn _, h, st => h.elim
  | k + 1, n, .scr _, h, st => h.elim
theorem same_bl (n : Nat) (a b : Bool) (st : Store) : callF P (n + 1) 13 [.bl a, .bl b] st = .ok (.bl (a == b)) st := by
  rw [c__law_same]; cases a <;> cases b <;> simp [t__law_same]
/-! parts drawn -/
structure Part where
  loc : Nat
  mv : List Mv
  w : S
  sta : Int
  held : S
instance : Inhabited Part := ⟨⟨0, [], [], 0, []⟩⟩
def encPart (p : Part) : D := .tup [.loc p.loc, .str p.w, .int p.sta, .str p.held]
def cellP (p : Part) : C := .lst (p.mv.map encMv)
/-- a part of a machine with m rows -/
structure PartOk (L : S) (m : Nat) (p : Part) : Prop where
  len : p.mv.length = L.length
  tg : ∀ k, k < L.length → (gD p.mv k).2 < m
  tx : ∀ k, k < L.length → (gD p.mv k).1.length ≤ 2
  w : p.w.length ≤ 2
  h : p.held.length ≤ 2
  txm : ∀ k, k < L.length → ∀ c ∈ (gD p.mv k).1, c ∈ L
  wm : ∀ c ∈ p.w, c ∈ L
  hm : ∀ c ∈ p.held, c ∈ L
  sta : 0 ≤ p.sta ∧ p.sta ≤ 9
def stP (st : Store) (pp : List Part) : Store := jk (push st (.lst (pp.map encPart))) (pp.map cellP)
theorem jk_len (st t : Store) : (jk st t).length = st.length + t.length := by simp [jk]
theorem low_lt {n : Nat} {st : Store} (h : n < st.length) : low n st = True := eq_true h
theorem parts_ok (n : Nat) (ns : List Int) (at_ : Nat) (L : S) (h1 : 1 ≤ L.length) (h4 : L.length ≤ 4) (m : Nat) (m1 : 1 ≤ m) (m5 : m ≤ 5) (st : Store) :
    ∃ pp : List Part, pp.length = m ∧ (∀ p ∈ pp, PartOk L m p) ∧ (∀ j, j < m → (gD pp j).loc = st.length + 1 + j) ∧ callF P (n + 2) 15 [.scr ns, .int at_, .str L, .int m] st = .ok (.loc st.length) (stP st pp) := by
  rw [c__law_parts]
  have ar : argI (.int (m : Int)) = some (m : Int) := argI_nat (by omega)
  have arL : argI (.int (L.length : Int)) = some (L.length : Int) := argI_nat (by omega)
  simp [t__law_parts, ar]
  refine for0 (Q := fun r => ∃ pp : List Part, pp.length = m ∧ (∀ p ∈ pp, PartOk L m p) ∧ (∀ j, j < m → (gD pp j).loc = st.length + 1 + j) ∧ (seqT _ _ _ r).back st = .ok (.loc st.length) (stP st pp)) (fun i e s => ∃ (pp : List Part) (k1 k2 k3 k4 k5 : Option D), pp.length = i ∧ (∀ p ∈ pp, PartOk L m p) ∧ (∀ j, j < i → (gD pp j).loc = st.length + 1 + j) ∧
    e = [some (.scr ns), some (.int at_), some (.str L), some (.int m), some (.loc st.length), k1, k2, k3, k4, k5] ∧ s = stP st pp) (fun _ _ _ _ => trivial) ⟨[], none, none, none, none, none, rfl, (fun _ z => nomatch z), (fun j hj => by omega), rfl, by simp [stP, jk_nil]⟩ ?_ ?_
  · rintro i d e s hd ⟨pp, k1, k2, k3, k4, k5, hl, hok, hloc, rfl, rfl⟩
    obtain ⟨hi, rfl⟩ := rng0 hd
    refine ⟨_, rfl, ?_⟩
    simp [arL]
    generalize hs : stP st pp = s at *
    refine for0 (Q := fun r => turnQ _ _ (seqT _ _ _ r)) (fun k e s' => ∃ (acc : List Mv) (k3 k4 : Option D), acc.length = k ∧ (∀ j, j < k → (gD acc j).2 < m ∧ (gD acc j).1.length ≤ 2 ∧ ∀ c ∈ (gD acc j).1, c ∈ L) ∧
      e = [some (.scr ns), some (.int at_), some (.str L), some (.int m), some (.loc st.length), some (.int i), some (.loc s.length), k3, k4, k5] ∧ s' = push s (.lst (acc.map encMv))) (fun _ _ _ _ => trivial) ⟨[], k3, k4, rfl, (fun j hj => by omega), rfl, rfl⟩ ?_ ?_
    · rintro k d e s' hd ⟨acc, k3, k4, ha, hb, rfl, rfl⟩
      obtain ⟨hk, rfl⟩ := rng0 hd
      have c0 : ∀ st, _ := fun st => cell_ok n ns (at_ + 5 * i + k) st
      have cn := cellV_nn ns (at_ + 5 * i + k)
      generalize cellV ns (at_ + 5 * i + k) = x at *
      obtain ⟨w, w1, wm, w2⟩ := word_ok n (x / (m : Int)) (Int.ediv_nonneg cn (by omega)) L (by omega) (by omega) 2 (by omega) st
      have y0 : 0 ≤ x % (m : Int) := Int.emod_nonneg _ (by omega)
      have y1 : x % (m : Int) < m := Int.emod_lt_of_pos _ (by omega)
      have b1 : acc.length < 16777216 := by omega
      have mp : (0 : Int) < m := by omega
      have mp' : 0 < m := by omega
      have mp3 : (m : Int) < 1073741824 := by omega
      obtain ⟨y, hy⟩ := Int.eq_ofNat_of_zero_le y0
      have c1 : (((at_ + 5 * i + k : Nat)) : Int) = (at_ : Int) + 5 * (i : Int) + (k : Int) := by omega
      rw [c1] at c0
      generalize hz : (at_ : Int) + 5 * (i : Int) + (k : Int) = z at *
      have w3 : ((2 : Nat) : Int) = 2 := rfl
      rw [w3] at w2
      refine ⟨_, rfl, ?_⟩
      simp [hz, c0, w2, mp, mp', mp3, hy, b1]
      refine ⟨acc ++ [(w, y)], by simp [ha], fun j hj => ?_, by simp [encMv]⟩
      by_cases q : j < acc.length
      · rw [gD_app_l q]; exact hb j (by omega)
      · have e : j = acc.length + 0 := by omega
        rw [e, gD_app_r (by simp)]
        exact ⟨by show y < m; omega, w1, wm⟩
    · rintro e s' ⟨acc, k3, k4, ha, hb, rfl, rfl⟩
      rw [rangeD_len] at ha hb
      have c0 : ∀ st, _ := fun st => cell_ok n ns (at_ + 5 * i + 4) st
      have cn := cellV_nn ns (at_ + 5 * i + 4)
      generalize cellV ns (at_ + 5 * i + 4) = x at *
      have c1 : (((at_ + 5 * i + 4 : Nat)) : Int) = (at_ : Int) + 5 * (i : Int) + 4 := by omega
      rw [c1] at c0
      generalize hz : (at_ : Int) + 5 * (i : Int) + 4 = z at *
      obtain ⟨w, w1, wm, w2⟩ := word_ok n (x / 20) (by omega) L (by omega) (by omega) 2 (by omega) st
      obtain ⟨v, v1, vm, v2⟩ := word_ok n (x / 20 / 48) (by omega) L (by omega) (by omega) 2 (by omega) st
      have w3 : ((2 : Nat) : Int) = 2 := rfl
      rw [w3] at w2 v2
      subst hs
      have b1 : pp.length < 16777216 := by omega
      have sl : (stP st pp).length = st.length + 1 + i := by simp [stP, jk_len, hl]
      have fin : ∀ q : Int, 0 ≤ q ∧ q ≤ 9 → turnQ (fun r => ∃ pp : List Part, pp.length = m ∧ (∀ p ∈ pp, PartOk L m p) ∧ (∀ j, j < m → (gD pp j).loc = st.length + 1 + j) ∧ (seqT (P.cf (callF P (n + 1))) P.xf (.cons (.ret (.var 4)) .nil) r).back st = .ok (.loc st.length) (stP st pp)) (fun e s => ∃ (pp : List Part), pp.length = i + 1 ∧ (∀ p ∈ pp, PartOk L m p) ∧ (∀ j, j < i + 1 → (gD pp j).loc = st.length + 1 + j) ∧
          (∃ (k1 k2 k3 k4 k5 : Option D), e = [some (.scr ns), some (.int at_), some (.str L), some (.int m), some (.loc st.length), k1, k2, k3, k4, k5]) ∧ s = stP st pp)
          (.ok (.nx [some (.scr ns), some (.int at_), some (.str L), some (.int m), some (.loc st.length), some (.int i), some (.loc (stP st pp).length), k3, some (.int (x / 20)), some (.int q)]) (stP st (pp ++ [⟨(stP st pp).length, acc, w, q, v⟩]))) := by
        intro q hq9
        rw [turnQ_nx]
        refine ⟨pp ++ [⟨(stP st pp).length, acc, w, q, v⟩], by simp [hl], fun p hp => ?_, fun j hj => ?_, ⟨_, _, _, _, _, rfl⟩, rfl⟩
        · rcases List.mem_append.mp hp with h | h
          · exact hok p h
          · rw [List.mem_singleton.mp h]
            exact ⟨ha, fun k hk => (hb k hk).1, fun k hk => (hb k hk).2.1, w1, v1, fun k hk => (hb k hk).2.2, wm, vm, hq9⟩
        · by_cases h : j < i
          · rw [gD_app_l (by omega)]; exact hloc j h
          · have e : j = pp.length + 0 := by omega
            rw [e, gD_app_r (by simp)]
            show (stP st pp).length = _
            rw [sl]; omega
      have st1 : ∀ q : Int, push (jk (push st (.lst (pp.map encPart ++ [.tup [.loc (stP st pp).length, .str w, .int q, .str v]]))) (pp.map cellP)) (.lst (acc.map encMv)) = stP st (pp ++ [⟨(stP st pp).length, acc, w, q, v⟩]) := fun q => by
        rw [push_jk]; simp [stP, encPart, cellP]
      by_cases hq : x / 10 % 2 = 0
      · have := fin (x % 2) (by omega)
        rw [← st1] at this
        simp at this
        simp [hz, c0, w2, v2, hq, b1, stP]
        simp [stP] at this
        exact this
      · have := fin (x % 10) (by omega)
        rw [← st1] at this
        simp at this
        simp [hz, c0, w2, v2, hq, b1, stP]
        simp [stP] at this
        exact this
  · rintro e s ⟨pp, k1, k2, k3, k4, k5, hl, hok, hloc, rfl, rfl⟩
    rw [rangeD_len] at hl hloc
    exact ⟨pp, hl, hok, hloc, by simp [stP]⟩
/-! machines made of parts -/
theorem at_ofL {st : Store} {n : Nat} {xs : List D} (h : getL st n = some xs) : at_ st n = some (.lst xs) := by
  unfold getL at h
  unfold at_
  split at h
  · rename_i ys q
    cases h
    exact q
  · cases h
structure HasP (s0 : Store) (a : Nat) (pp : List Part) : Prop where
  l : getL s0 a = some (pp.map encPart)
  m : ∀ p ∈ pp, getL s0 p.loc = some (p.mv.map encMv)
def lateRow (p : Part) : Rw := (p.mv.map fun v => (p.held ++ v.1, v.2), (p.held ++ p.w, p.sta))
def lateD (p : Part) : D := encRow (lateRow p)
@[simp] theorem bel_lateDs (n : Nat) (ps : List Part) : D.belL n (ps.map lateD) = true := belL_map fun _ => bel_R _ _
theorem late_map (ps : List Part) : (ps.map lateRow).map encRow = ps.map lateD := by rw [List.map_map]; rfl
theorem late_ok (n : Nat) {L : S} (al : isAlpha L = true) {start : S} (hs : start.length ≤ 2) {s0 : Store} {a : Nat} {pp : List Part} (hp : HasP s0 a pp) (hk : ∀ p ∈ pp, PartOk L pp.length p) (h1 : 0 < pp.length) (h5 : pp.length ≤ 5) :
    ∃ M, Good 10 M ∧ M.L = L ∧ M.rows.length = pp.length ∧ callF P (n + 1) 16 [.str L, .str start, .loc a] s0 = .ok (encM M) s0 ∧ ((∀ c ∈ start, c ∈ L) → Fine M) := by
  have gm : ∀ i, i < pp.length → gD (pp.map lateRow) i = lateRow (gD pp i) := fun i hi => gD_map lateRow hi
  refine ⟨⟨L, start, pp.map lateRow⟩, ⟨al, by show start.length ≤ 10; omega, by simpa using h1, by simp; omega, ?_, ?_, ?_, ?_⟩, rfl, by simp, ?_, ?_⟩
  · intro i hi
    simp only [List.length_map] at hi
    show (gD (pp.map lateRow) i).1.length = L.length
    rw [gm i hi]
    simp [lateRow, (hk _ (gD_mem hi)).len]
  · intro i hi k hk2
    simp only [List.length_map] at hi
    have q := hk _ (gD_mem hi)
    show (gD (gD (pp.map lateRow) i).1 k).2 < (pp.map lateRow).length
    rw [gm i hi]
    show (gD ((gD pp i).mv.map fun v => ((gD pp i).held ++ v.1, v.2)) k).2 < _
    rw [gD_map _ (by rw [q.len]; exact hk2), List.length_map]
    exact q.tg k hk2
  · intro i hi k hk2
    simp only [List.length_map] at hi
    have q := hk _ (gD_mem hi)
    show (gD (gD (pp.map lateRow) i).1 k).1.length ≤ 10
    rw [gm i hi]
    show (gD ((gD pp i).mv.map fun v => ((gD pp i).held ++ v.1, v.2)) k).1.length ≤ 10
    rw [gD_map _ (by rw [q.len]; exact hk2)]
    have a1 := q.tx k hk2
    have a2 := q.h
    simp; omega
  · intro i hi
    simp only [List.length_map] at hi
    have q := hk _ (gD_mem hi)
    show (gD (pp.map lateRow) i).2.1.length ≤ 10
    rw [gm i hi]
    have a1 := q.w
    have a2 := q.h
    simp [lateRow]; omega
  · rw [c__law_late]
    have lo := low_of hp.l
    simp [t__law_late, hp.l, lo]
    refine for0 (Q := fun r => (seqT _ _ _ r).back s0 = _) (fun i e s => ∃ (k1 k2 k3 k4 k5 k6 : Option D), e = [some (.str L), some (.str start), some (.loc a), some (.loc s0.length), k1, k2, k3, k4, k5, k6] ∧ s = push s0 (.lst ((pp.map lateD).take i))) (fun i e s ⟨_, _, _, _, _, _, _, h⟩ => by subst h; exact srcOk_at (by rw [at_push _ lo]; exact at_ofL hp.l)) ⟨none, none, none, none, none, none, rfl, rfl⟩ ?_ ?_
    · rintro i d e s hd ⟨k1, k2, k3, k4, k5, k6, rfl, rfl⟩
      obtain ⟨hi, rfl⟩ := map_at hd
      have pm := hp.m _ (gD_mem hi)
      have q := hk _ (gD_mem hi)
      have lp := low_of pm
      have al4 := alpha_len al
      have a2 := q.h
      have a3 := q.w
      have b1 : (gD pp i).held.length + (gD pp i).w.length ≤ 16777216 := by omega
      have ml : (gD pp i).mv.length ≤ 16777216 := by have := q.len; omega
      refine ⟨_, rfl, ?_⟩
      simp [encPart, pm, lp, b1]
      rw [lcL_enc encMv (fun v => D.tup [.str ((gD pp i).held ++ v.1), .int v.2]) ?o _ ?b ?z]
      case o => exact srcOk_at (by rw [at_push _ lp]; exact at_ofL pm)
      case z => rw [sz_lit]; exact ml
      case b =>
        intro v hv
        obtain ⟨k, hk2, rfl⟩ := List.getElem_of_mem hv
        have tx := q.tx k (by rw [← q.len]; exact hk2)
        rw [gD_get hk2] at tx
        have z1 : (gD pp i).held.length + ((gD pp i).mv[k]).1.length ≤ 16777216 := by omega
        simp [encMv, z1]
      have e1 : ((gD pp i).mv.map fun v => D.tup [.str ((gD pp i).held ++ v.1), .int v.2]) = (lateRow (gD pp i)).1.map encMv := by
        show _ = ((gD pp i).mv.map fun v => ((gD pp i).held ++ v.1, v.2)).map encMv
        rw [List.map_map]; rfl
      have l1 : ((lateRow (gD pp i)).1.map encMv).length ≤ 16777216 := by simpa [lateRow] using ml
      have l2 : min i pp.length < 16777216 := by omega
      have tk : (pp.map lateD).take (i + 1) = (pp.map lateD).take i ++ [.tup [.tup ((lateRow (gD pp i)).1.map encMv), .tup [.str ((gD pp i).held ++ (gD pp i).w), .int (gD pp i).sta]]] := by
        rw [← List.map_take, ← List.map_take, take_gD hi, List.map_append]; rfl
      have bz : ∀ n, D.belL n ((lateRow (gD pp i)).1.map encMv) = true := fun n => bel_Vs n _
      rw [e1]
      generalize (lateRow (gD pp i)).1.map encMv = zs at *
      simp [l1, l2, b1, tk, bz]
    · rintro e s ⟨k1, k2, k3, k4, k5, k6, rfl, rfl⟩
      rw [List.length_map, show pp.length = (pp.map lateD).length by simp, List.take_length]
      simp [encM, late_map, -List.map_map]
  · intro sm
    refine ⟨sm, fun i hi k hk2 c hc => ?_, fun i hi c hc => ?_, fun i hi => ?_⟩
    · simp only [List.length_map] at hi
      have q := hk _ (gD_mem hi)
      have e : mvAt ⟨L, start, pp.map lateRow⟩ i k = ((gD pp i).held ++ (gD (gD pp i).mv k).1, (gD (gD pp i).mv k).2) := by
        show gD (gD (pp.map lateRow) i).1 k = _
        rw [gm i hi]
        show gD ((gD pp i).mv.map fun v => ((gD pp i).held ++ v.1, v.2)) k = _
        rw [gD_map _ (by rw [q.len]; exact hk2)]
      rw [e] at hc
      rcases List.mem_append.mp hc with z | z
      · exact q.hm c z
      · exact q.txm k hk2 c z
    · simp only [List.length_map] at hi
      have q := hk _ (gD_mem hi)
      have e : fin ⟨L, start, pp.map lateRow⟩ i = ((gD pp i).held ++ (gD pp i).w, (gD pp i).sta) := by
        show (gD (pp.map lateRow) i).2 = _
        rw [gm i hi]; rfl
      rw [e] at hc
      rcases List.mem_append.mp hc with z | z
      · exact q.hm c z
      · exact q.wm c z
    · simp only [List.length_map] at hi
      have q := hk _ (gD_mem hi)
      have e : fin ⟨L, start, pp.map lateRow⟩ i = ((gD pp i).held ++ (gD pp i).w, (gD pp i).sta) := by
        show (gD (pp.map lateRow) i).2 = _
        rw [gm i hi]; rfl
      rw [e]
      exact q.sta
/-! machines that tell early -/
def earlyRow (qq : List Part) (p : Part) : Rw := (p.mv.map fun v => (v.1 ++ (gD qq v.2).held, v.2), (p.w, p.sta))
def earlyD (qq : List Part) (p : Part) : D := encRow (earlyRow qq p)
@[simp] theorem bel_earlyDs (n : Nat) (qq ps : List Part) : D.belL n (ps.map (earlyD qq)) = true := belL_map fun _ => bel_R _ _
theorem early_map (qq ps : List Part) : (ps.map (earlyRow qq)).map encRow = ps.map (earlyD qq) := by rw [List.map_map]; rfl
theorem early_ok (n : Nat) {L : S} (al : isAlpha L = true) {start : S} (hs : start.length ≤ 2) {s0 : Store} {a : Nat} {pp : List Part} (hp : HasP s0 a pp) (hk : ∀ p ∈ pp, PartOk L pp.length p) (h1 : 0 < pp.length) (h5 : pp.length ≤ 5) :
    ∃ M, Good 10 M ∧ M.L = L ∧ M.rows.length = pp.length ∧ callF P (n + 1) 17 [.str L, .str start, .loc a] s0 = .ok (encM M) s0 ∧ ((∀ c ∈ start, c ∈ L) → Fine M) := by
  have gm : ∀ i, i < pp.length → gD (pp.map (earlyRow pp)) i = earlyRow pp (gD pp i) := fun i hi => gD_map (earlyRow pp) hi
  refine ⟨⟨L, start ++ (gD pp 0).held, pp.map (earlyRow pp)⟩, ⟨al, by have := (hk _ (gD_mem h1)).h; show (start ++ (gD pp 0).held).length ≤ 10; simp; omega, by simpa using h1, by simp; omega, ?_, ?_, ?_, ?_⟩, rfl, by simp, ?_, ?_⟩
  · intro i hi
    simp only [List.length_map] at hi
    show (gD (pp.map (earlyRow pp)) i).1.length = L.length
    rw [gm i hi]
    simp [earlyRow, (hk _ (gD_mem hi)).len]
  · intro i hi k hk2
    simp only [List.length_map] at hi
    have q := hk _ (gD_mem hi)
    show (gD (gD (pp.map (earlyRow pp)) i).1 k).2 < (pp.map (earlyRow pp)).length
    rw [gm i hi]
    show (gD ((gD pp i).mv.map fun v => (v.1 ++ (gD pp v.2).held, v.2)) k).2 < _
    rw [gD_map _ (by rw [q.len]; exact hk2), List.length_map]
    exact q.tg k hk2
  · intro i hi k hk2
    simp only [List.length_map] at hi
    have q := hk _ (gD_mem hi)
    show (gD (gD (pp.map (earlyRow pp)) i).1 k).1.length ≤ 10
    rw [gm i hi]
    show (gD ((gD pp i).mv.map fun v => (v.1 ++ (gD pp v.2).held, v.2)) k).1.length ≤ 10
    rw [gD_map _ (by rw [q.len]; exact hk2)]
    have a1 := q.tx k hk2
    have a2 := (hk _ (gD_mem (q.tg k hk2))).h
    simp; omega
  · intro i hi
    simp only [List.length_map] at hi
    have q := hk _ (gD_mem hi)
    show (gD (pp.map (earlyRow pp)) i).2.1.length ≤ 10
    rw [gm i hi]
    have a1 := q.w
    have a2 := q.h
    simp [earlyRow]; omega
  · rw [c__law_early]
    have lo := low_of hp.l
    simp [t__law_early, hp.l, lo]
    refine for0 (Q := fun r => (seqT _ _ _ r).back s0 = _) (fun i e s => ∃ (k1 k2 k3 k4 k5 k6 : Option D), e = [some (.str L), some (.str start), some (.loc a), some (.loc s0.length), k1, k2, k3, k4, k5, k6] ∧ s = push s0 (.lst ((pp.map (earlyD pp)).take i))) (fun i e s ⟨_, _, _, _, _, _, _, h⟩ => by subst h; exact srcOk_at (by rw [at_push _ lo]; exact at_ofL hp.l)) ⟨none, none, none, none, none, none, rfl, rfl⟩ ?_ ?_
    · rintro i d e s hd ⟨k1, k2, k3, k4, k5, k6, rfl, rfl⟩
      obtain ⟨hi, rfl⟩ := map_at hd
      have pm := hp.m _ (gD_mem hi)
      have q := hk _ (gD_mem hi)
      have lp := low_of pm
      have al4 := alpha_len al
      have a2 := q.h
      have a3 := q.w
      have b1 : (gD pp i).held.length + (gD pp i).w.length ≤ 16777216 := by omega
      have ml : (gD pp i).mv.length ≤ 16777216 := by have := q.len; omega
      refine ⟨_, rfl, ?_⟩
      simp [encPart, pm, lp, b1]
      rw [lcL_enc encMv (fun v => D.tup [.str (v.1 ++ (gD pp v.2).held), .int v.2]) ?o _ ?b ?z]
      case o => exact srcOk_at (by rw [at_push _ lp]; exact at_ofL pm)
      case z => rw [sz_lit]; exact ml
      case b =>
        intro v hv
        obtain ⟨k, hk2, rfl⟩ := List.getElem_of_mem hv
        have tx := q.tx k (by rw [← q.len]; exact hk2)
        rw [gD_get hk2] at tx
        have tg := q.tg k (by rw [← q.len]; exact hk2)
        rw [gD_get hk2] at tg
        have hh := (hk _ (gD_mem tg)).h
        have z1 : ((gD pp i).mv[k]).1.length + (gD pp ((gD pp i).mv[k]).2).held.length ≤ 16777216 := by omega
        have z2 : atI (pp.map encPart) ((((gD pp i).mv[k]).2 : Nat) : Int) = some (encPart (gD pp ((gD pp i).mv[k]).2)) := atI_map encPart tg
        simp [encMv, z1, hp.l, lo, z2, encPart]
      have e1 : ((gD pp i).mv.map fun v => D.tup [.str (v.1 ++ (gD pp v.2).held), .int v.2]) = (earlyRow pp (gD pp i)).1.map encMv := by
        show _ = ((gD pp i).mv.map fun v => (v.1 ++ (gD pp v.2).held, v.2)).map encMv
        rw [List.map_map]; rfl
      have l1 : ((earlyRow pp (gD pp i)).1.map encMv).length ≤ 16777216 := by simpa [earlyRow] using ml
      have l2 : min i pp.length < 16777216 := by omega
      have tk : (pp.map (earlyD pp)).take (i + 1) = (pp.map (earlyD pp)).take i ++ [.tup [.tup ((earlyRow pp (gD pp i)).1.map encMv), .tup [.str (gD pp i).w, .int (gD pp i).sta]]] := by
        rw [← List.map_take, ← List.map_take, take_gD hi, List.map_append]; rfl
      have bz : ∀ n, D.belL n ((earlyRow pp (gD pp i)).1.map encMv) = true := fun n => bel_Vs n _
      rw [e1]
      generalize (earlyRow pp (gD pp i)).1.map encMv = zs at *
      simp [l1, l2, b1, tk, bz]
    · rintro e s ⟨k1, k2, k3, k4, k5, k6, rfl, rfl⟩
      rw [List.length_map, show pp.length = (pp.map (earlyD pp)).length by simp, List.take_length]
      have f0 := (hk _ (gD_mem h1)).h
      have z3 : start.length + (gD pp 0).held.length ≤ 16777216 := by omega
      have z4 : atI (pp.map encPart) 0 = some (encPart (gD pp 0)) := atI_map (i := 0) encPart h1
      simp [encM, early_map, hp.l, lo, z3, z4, encPart, -List.map_map]
  · intro sm
    refine ⟨fun c hc => ?_, fun i hi k hk2 c hc => ?_, fun i hi c hc => ?_, fun i hi => ?_⟩
    · rcases List.mem_append.mp hc with z | z
      · exact sm c z
      · exact (hk _ (gD_mem h1)).hm c z
    · simp only [List.length_map] at hi
      have q := hk _ (gD_mem hi)
      have e : mvAt ⟨L, start ++ (gD pp 0).held, pp.map (earlyRow pp)⟩ i k = ((gD (gD pp i).mv k).1 ++ (gD pp (gD (gD pp i).mv k).2).held, (gD (gD pp i).mv k).2) := by
        show gD (gD (pp.map (earlyRow pp)) i).1 k = _
        rw [gm i hi]
        show gD ((gD pp i).mv.map fun v => (v.1 ++ (gD pp v.2).held, v.2)) k = _
        rw [gD_map _ (by rw [q.len]; exact hk2)]
      rw [e] at hc
      rcases List.mem_append.mp hc with z | z
      · exact q.txm k hk2 c z
      · exact (hk _ (gD_mem (q.tg k hk2))).hm c z
    · simp only [List.length_map] at hi
      have q := hk _ (gD_mem hi)
      have e : fin ⟨L, start ++ (gD pp 0).held, pp.map (earlyRow pp)⟩ i = ((gD pp i).w, (gD pp i).sta) := by
        show (gD (pp.map (earlyRow pp)) i).2 = _
        rw [gm i hi]; rfl
      rw [e] at hc
      exact q.wm c hc
    · simp only [List.length_map] at hi
      have q := hk _ (gD_mem hi)
      have e : fin ⟨L, start ++ (gD pp 0).held, pp.map (earlyRow pp)⟩ i = ((gD pp i).w, (gD pp i).sta) := by
        show (gD (pp.map (earlyRow pp)) i).2 = _
        rw [gm i hi]; rfl
      rw [e]
      exact q.sta
/-! machines doubled -/
/-- a row among m rows, its texts at most B long -/
structure RowOk (B : Nat) (L : S) (m : Nat) (r : Rw) : Prop where
  len : r.1.length = L.length
  tg : ∀ k, k < L.length → (gD r.1 k).2 < m
  tx : ∀ k, k < L.length → (gD r.1 k).1.length ≤ B
  fx : r.2.1.length ≤ B
def RowsOk (B : Nat) (L : S) (m : Nat) (fs : List Rw) : Prop := ∀ r ∈ fs, RowOk B L m r
def MvsOk (B m k : Nat) (acc : List Mv) : Prop := ∀ j, j < k → (gD acc j).2 < m ∧ (gD acc j).1.length ≤ B
theorem good_of {B : Nat} {L st : S} {rows : List Rw} (al : isAlpha L = true) (hs : st.length ≤ B) (h0 : 0 < rows.length) (h1 : rows.length ≤ 1000) (h : ∀ r ∈ rows, RowOk B L rows.length r) : Good B ⟨L, st, rows⟩ :=
  ⟨al, hs, h0, h1, fun i hi => (h _ (gD_mem hi)).len, fun i hi => (h _ (gD_mem hi)).tg, fun i hi => (h _ (gD_mem hi)).tx, fun i hi => (h _ (gD_mem hi)).fx⟩
theorem Good.row {B : Nat} {M : Mac} (G : Good B M) {i : Nat} (hi : i < M.rows.length) : RowOk B M.L M.rows.length (gD M.rows i) := ⟨G.mv i hi, G.tg i hi, G.tx i hi, G.fx i hi⟩
/-! a letter that is strange -/
def strangeS (L : S) : S := ([122, 121, 120, 119, 118, 117, 116] : S).filter fun c => !decide (c ∈ L)
theorem strange_ne {L : S} (h : L.length ≤ 4) : strangeS L ≠ [] := by
  intro z
  have hm : ∀ c ∈ ([122, 121, 120, 119, 118, 117, 116] : S), c ∈ L := fun c hc => by
    have := List.filter_eq_nil_iff.mp z c hc
    simpa using this
  have e := nodup_lt 4 ((List.range 5).map fun k => L.idxOf (122 - k)) ?_ ?_
  · simp at e
  · rw [List.nodup_iff_pairwise_ne, List.pairwise_map]
    refine (List.nodup_iff_pairwise_ne.mp (List.nodup_range (n := 5))).imp_of_mem fun {a b} ha hb ne q => ?_
    rw [List.mem_range] at ha hb
    have ma : 122 - a ∈ L := hm _ (by
      have : a = 0 ∨ a = 1 ∨ a = 2 ∨ a = 3 ∨ a = 4 := by omega
      rcases this with rfl | rfl | rfl | rfl | rfl <;> simp)
    have mb : 122 - b ∈ L := hm _ (by
      have : b = 0 ∨ b = 1 ∨ b = 2 ∨ b = 3 ∨ b = 4 := by omega
      rcases this with rfl | rfl | rfl | rfl | rfl <;> simp)
    have ga := List.getElem_idxOf (idx_lt ma)
    have gb := List.getElem_idxOf (idx_lt mb)
    have : 122 - a = 122 - b := by
      rw [← ga, ← gb]
      congr 1
    omega
  · intro x hx
    obtain ⟨k, hk, rfl⟩ := List.mem_map.mp hx
    rw [List.mem_range] at hk
    have mk : 122 - k ∈ L := hm _ (by
      have : k = 0 ∨ k = 1 ∨ k = 2 ∨ k = 3 ∨ k = 4 := by omega
      rcases this with rfl | rfl | rfl | rfl | rfl <;> simp)
    have := idx_lt mk
    omega
theorem strange_ok (n : Nat) {L : S} (h : L.length ≤ 4) : ∃ c : Nat, c ∉ L ∧ ∀ st : Store, callF P (n + 1) 21 [.str L] st = .ok (.str [c]) st := by
  have ne := strange_ne h
  cases q : strangeS L with
  | nil => exact absurd q ne
  | cons c r =>
    refine ⟨c, ?_, fun st => ?_⟩
    · have : c ∈ strangeS L := by rw [q]; simp
      unfold strangeS at this
      rw [List.mem_filter] at this
      simpa using this.2
    · rw [c__law_strange]
      simp [t__law_strange]
      have e : ([.str [122], .str [121], .str [120], .str [119], .str [118], .str [117], .str [116]] : List D) = ([122, 121, 120, 119, 118, 117, 116] : S).map fun c => D.str [c] := rfl
      rw [e, lcL_if (fun c => D.str [c]) (fun c => D.str [c]) (fun c => !decide (c ∈ L)) ?o _ ?b ?z]
      case o => trivial
      case z => rw [sz_lit]; simp
      case b =>
        intro c hc
        by_cases z : c ∈ L <;> simp [z]
      have e2 : (([122, 121, 120, 119, 118, 117, 116] : S).filter fun c => !decide (c ∈ L)) = c :: r := q
      rw [e2]
      have rl : (c :: r).length ≤ 7 := by
        rw [← q]
        exact List.length_filter_le _ _
      have rl2 : r.length ≤ 16777215 := by simp at rl; omega
      simp [rl2]
/-! the cells that parts stand in -/
theorem hasP {st : Store} {pp : List Part} (hl : ∀ j, j < pp.length → (gD pp j).loc = st.length + 1 + j) : HasP (stP st pp) st.length pp where
  l := by simp [stP]
  m := fun p hp => by
    obtain ⟨j, hj, rfl⟩ := List.getElem_of_mem hp
    rw [← gD_get hj, hl j hj]
    unfold stP getL jk
    rw [List.getElem?_append_right (by simp)]
    simp only [push_len]
    rw [show st.length + 1 + j - (st.length + 1) = j by omega, List.getElem?_map, gD_some hj]
    rfl
end Lk27
namespace Lk27
open PySem Dk
local macro_rules | `(tactic| trivial) => `(tactic| first | (simp; done) | (simp only [List.length_append, List.length_cons, List.length_nil, List.length_take, List.length_drop, List.length_map, List.length_set, List.length_tail, List.length_dropLast, List.length_mergeSort, List.length_reverse, List.length_replicate, List.length_range, Int.toNat_natCast, Int.reduceToNat]; omega) | omega)
/-! texts of an alphabet -/
def isTold (L t : S) : Bool := decide (∀ c ∈ t, c ∈ L)
theorem is_told_ok (n : Nat) (L t : S) (st : Store) : callF P (n + 1) 4 [.str L, .str t] st = .ok (.bl (isTold L t)) st := by
  rw [c_is_told]
  simp [t_is_told]
  refine for0 (Q := fun r => (seqT _ _ _ r).back st = _) (fun i e s => (∀ j, j < i → gD t j ∈ L) ∧ ∃ (k : Option D), e = [some (.str L), some (.str t), k] ∧ s = st) (fun _ _ _ _ => trivial) ⟨(fun j hj => by omega), none, rfl, rfl⟩ ?_ ?_
  · rintro i d e s hd ⟨hg, k, rfl, rfl⟩
    obtain ⟨hi, rfl⟩ := map_at hd
    refine ⟨_, rfl, ?_⟩
    by_cases g1 : gD t i ∈ L
    · simp [g1]
      exact all_lt_succ hg g1
    · have e : isTold L t = false := decide_eq_false (fun z => g1 (z _ (gD_mem hi)))
      simp [g1, e]
  · rintro e s ⟨hg, k, rfl, rfl⟩
    rw [List.length_map] at hg
    have e : isTold L t = true := decide_eq_true (all_gD.mpr hg)
    simp [e]
/-! raw machines: any targets, any statuses -/
abbrev MvR := S × Int
abbrev RwR := List MvR × (S × Int)
structure MaR where
  L : S
  st : S
  rows : List RwR
def eMv (m : MvR) : D := .tup [.str m.1, .int m.2]
def eRw (r : RwR) : D := .tup [.tup (r.1.map eMv), .tup [.str r.2.1, .int r.2.2]]
def eMa (M : MaR) : D := .tup [.str M.L, .str M.st, .tup (M.rows.map eRw)]
def rawV (m : Mv) : MvR := (m.1, (m.2 : Int))
def rawR (r : Rw) : RwR := (r.1.map rawV, r.2)
def raw (M : Mac) : MaR := ⟨M.L, M.st, M.rows.map rawR⟩
theorem e_rawR (r : Rw) : eRw (rawR r) = encRow r := by
  show D.tup [.tup ((r.1.map rawV).map eMv), _] = _
  rw [List.map_map]; rfl
theorem e_raw (M : Mac) : eMa (raw M) = encM M := by
  show D.tup [.str M.L, .str M.st, .tup ((M.rows.map rawR).map eRw)] = _
  rw [List.map_map]
  have : (eRw ∘ rawR) = encRow := funext e_rawR
  rw [this]; rfl
@[simp ↓] theorem asgT_Rw (cf : Cf) (ts : T) (r : RwR) (env : Dk.Env) (st : Store) : asgT cf (.tup ts) (eRw r) env st = asgT cf (.tup ts) (.tup [.tup (r.1.map eMv), .tup [.str r.2.1, .int r.2.2]]) env st := (rfl)
@[simp ↓] theorem asgT_Ma (cf : Cf) (ts : T) (r : MaR) (env : Dk.Env) (st : Store) : asgT cf (.tup ts) (eMa r) env st = asgT cf (.tup ts) (.tup [.str r.L, .str r.st, .tup (r.rows.map eRw)]) env st := (rfl)
@[simp] theorem bel_eV (n : Nat) (p : MvR) : D.bel n (eMv p) = true := (rfl)
@[simp] theorem bel_eVs (n : Nat) (ps : List MvR) : D.belL n (ps.map eMv) = true := belL_map fun _ => rfl
@[simp] theorem bel_eR (n : Nat) (p : RwR) : D.bel n (eRw p) = true := by simp [eRw]
@[simp] theorem bel_eRs (n : Nat) (ps : List RwR) : D.belL n (ps.map eRw) = true := belL_map (bel_eR n)
@[simp] theorem bel_eM (n : Nat) (M : MaR) : D.bel n (eMa M) = true := by simp [eMa]
def goodV (L : S) (n : Nat) (m : MvR) : Prop := isTold L m.1 = true ∧ 0 ≤ m.2 ∧ m.2 < n
instance (L : S) (n : Nat) (m : MvR) : Decidable (goodV L n m) := by unfold goodV; infer_instance
def goodR (L : S) (n : Nat) (r : RwR) : Bool := decide (r.1.length = L.length ∧ (∀ j, j < r.1.length → goodV L n (gD r.1 j)) ∧ isTold L r.2.1 = true ∧ 0 ≤ r.2.2 ∧ r.2.2 ≤ 9)
theorem is_good_ok (n : Nat) (L : S) (rows : List D) (r : RwR) (st : Store) : callF P (n + 2) 5 [.str L, .tup rows, eRw r] st = .ok (.bl (goodR L rows.length r)) st := by
  rw [c_is_good]
  have it := fun t st => is_told_ok n L t st
  by_cases h : r.1.length = L.length
  · have h' : (r.1.length : Int) = L.length := by omega
    simp [t_is_good, h']
    refine for0 (Q := fun q => (seqT _ _ _ q).back st = _) (fun i e s => (∀ j, j < i → goodV L rows.length (gD r.1 j)) ∧ ∃ (k1 k2 : Option D), e = [some (.str L), some (.tup rows), some (eRw r), some (.tup (r.1.map eMv)), some (.tup [.str r.2.1, .int r.2.2]), k1, k2] ∧ s = st) (fun _ _ _ _ => trivial) ⟨(fun j hj => by omega), none, none, rfl, rfl⟩ ?_ ?_
    · rintro i d e s hd ⟨hg, k1, k2, rfl, rfl⟩
      obtain ⟨hi, rfl⟩ := map_at hd
      have no : ¬ goodV L rows.length (gD r.1 i) → goodR L rows.length r = false := fun z => decide_eq_false fun y => z (y.2.1 i hi)
      generalize hv : gD r.1 i = v at *
      refine ⟨_, rfl, ?_⟩
      by_cases g1 : isTold L v.1 = true
      · by_cases g2 : 0 ≤ v.2
        · by_cases g3 : v.2 < rows.length
          · simp [it, g1, g2, g3]
            exact all_lt_succ hg (by rw [hv]; exact ⟨g1, g2, g3⟩)
          · have e := no fun z => g3 z.2.2
            simp [it, g1, g2, g3, e]
        · have e := no fun z => g2 z.2.1
          simp [it, g1, g2, e]
      · have e := no fun z => g1 z.1
        simp [it, g1, e]
    · rintro e s ⟨hg, k1, k2, rfl, rfl⟩
      rw [List.length_map] at hg
      have e : goodR L rows.length r = (isTold L r.2.1 && (decide (0 ≤ r.2.2) && decide (r.2.2 ≤ 9))) := by
        unfold goodR
        rw [Bool.eq_iff_iff]
        simp [h]
        rw [h] at hg
        exact fun _ _ _ => hg
      by_cases g1 : isTold L r.2.1 = true
      · by_cases g2 : 0 ≤ r.2.2
        · simp [it, g1, g2, e]
        · simp [it, g1, g2, e]
      · simp [it, g1, e]
  · have h' : ¬ (r.1.length : Int) = L.length := by omega
    have e : goodR L rows.length r = false := decide_eq_false fun z => h z.1
    simp [t_is_good, h', e]
/-! check_transducer -/
inductive Te where
  | letters (w : S) | row (i : Int) | many
def erOf : Te → Nat × List (Nat × D)
  | .letters w => (2, [(1, .str w)])
  | .row i => (4, [(3, .int i)])
  | .many => (1, [(0, .int 1000)])
def firstBad (M : MaR) : Option Te := (List.range M.rows.length).findSome? fun i => if goodR M.L M.rows.length (gD M.rows i) = true then none else some (.row i)
def trErr (M : MaR) : Option Te :=
  if isAlpha M.L = true then (if M.rows.length = 0 ∨ isTold M.L M.st = false then some (.row (-1)) else if 1000 < M.rows.length then some .many else firstBad M) else some (.letters M.L)
def resT (o : Option Te) (st : Store) : R D := match o with
  | none => .ok .non st
  | some e => .exc (erOf e).1 (erOf e).2 st
@[simp] theorem resT_none (st : Store) : resT none st = .ok .non st := (rfl)
theorem resT_some (e : Te) (st : Store) : resT (some e) st = .exc (erOf e).1 (erOf e).2 st := (rfl)
@[simp] theorem resT_l (w : S) (st : Store) : resT (some (.letters w)) st = .exc 2 [(1, .str w)] st := (rfl)
@[simp] theorem resT_r (i : Int) (st : Store) : resT (some (.row i)) st = .exc 4 [(3, .int i)] st := (rfl)
@[simp] theorem resT_m (st : Store) : resT (some .many) st = .exc 1 [(0, .int 1000)] st := (rfl)
theorem bad_none {M : MaR} (h : ∀ i, i < M.rows.length → goodR M.L M.rows.length (gD M.rows i) = true) : firstBad M = none := by
  unfold firstBad
  rw [List.findSome?_eq_none_iff]
  exact fun i hi => by rw [if_pos (h i (List.mem_range.mp hi))]
theorem first_some {α : Type} {p : Nat → Option α} : ∀ {n i : Nat} {e : α}, i < n → p i = some e → (∀ j, j < i → p j = none) → (List.range n).findSome? p = some e
  | n + 1, i, e, hi, he, hj => by
    rw [List.range_succ, List.findSome?_append]
    by_cases q : i = n
    · subst q
      have z : (List.range i).findSome? p = none := by
        rw [List.findSome?_eq_none_iff]
        exact fun j h => hj j (List.mem_range.mp h)
      rw [z]; simp [he]
    · rw [first_some (by omega : i < n) he hj]; rfl
theorem bad_some {M : MaR} {i : Nat} (hi : i < M.rows.length) (h : goodR M.L M.rows.length (gD M.rows i) = false) (hj : ∀ j, j < i → goodR M.L M.rows.length (gD M.rows j) = true) : firstBad M = some (.row i) :=
  first_some hi (by rw [if_neg (by rw [h]; exact Bool.false_ne_true)]) fun j h => by rw [if_pos (hj j h)]
theorem check_transducer_ok (n : Nat) (M : MaR) (hM : M.rows.length < 100000) (st : Store) : callF P (n + 3) 6 [eMa M] st = resT (trErr M) st := by
  rw [c_check_transducer]
  have cl := fun st => check_letters_ok n M.L st
  have it := fun t st => is_told_ok (n + 1) M.L t st
  unfold trErr
  by_cases al : isAlpha M.L = true
  · have le : lettersErr M.L = none := if_pos al
    rw [le] at cl
    rw [if_pos al]
    by_cases h0 : M.rows.length = 0
    · have h0' : M.rows = [] := List.length_eq_zero_iff.mp h0
      simp [t_check_transducer, cl, h0', P_xf, xfs]
    · have h1 : ¬ M.rows = [] := fun z => h0 (by rw [z]; rfl)
      by_cases hs : isTold M.L M.st = true
      · by_cases hm : 1000 < M.rows.length
        · have hm' : (1000 : Int) < M.rows.length := by omega
          simp [t_check_transducer, cl, h0, h1, it, hs, hm, hm', P_xf, xfs]
        · have hm' : ¬ (1000 : Int) < M.rows.length := by omega
          have ar : argI (.int (M.rows.length : Int)) = some (M.rows.length : Int) := argI_nat (by omega)
          simp [t_check_transducer, cl, h0, h1, it, hs, hm, hm', ar]
          have ig := fun r st => is_good_ok n M.L (M.rows.map eRw) r st
          rw [List.length_map] at ig
          refine for0 (Q := fun q => RS.back st q = _) (fun i e s => (∀ j, j < i → goodR M.L M.rows.length (gD M.rows j) = true) ∧ ∃ (k : Option D), e = [some (eMa M), k, some (.str M.L), some (.str M.st), some (.tup (M.rows.map eRw))] ∧ s = st) (fun _ _ _ _ => trivial) ⟨(fun j hj => by omega), none, rfl, rfl⟩ ?_ ?_
          · rintro i d e s hd ⟨hg, k, rfl, rfl⟩
            obtain ⟨hi, rfl⟩ := rng0 hd
            have e1 : atI (M.rows.map eRw) (i : Int) = some (eRw (gD M.rows i)) := atI_map eRw hi
            refine ⟨_, rfl, ?_⟩
            cases q : goodR M.L M.rows.length (gD M.rows i) with
            | true =>
              simp [e1, ig, q]
              exact all_lt_succ hg q
            | false =>
              have z := bad_some hi q hg
              simp [e1, ig, q, z, P_xf, xfs]
          · rintro e s ⟨hg, k, rfl, rfl⟩
            rw [rangeD_len] at hg
            have z := bad_none hg
            simp [z]
      · have hs' : isTold M.L M.st = false := by simpa using hs
        simp [t_check_transducer, cl, h0, h1, it, hs', P_xf, xfs]
  · have le : lettersErr M.L = some (2, [(1, .str M.L)]) := if_neg al
    rw [le] at cl
    rw [if_neg al]
    simp [t_check_transducer, cl]
/-- what the law tells of it -/
def refD : Option Te → D
  | none => .tup [.str [102, 105, 110, 101], .int 0, .bl true]
  | some (.letters w) => .tup [.str [108, 101, 116, 116, 101, 114, 115], .str w, .bl true]
  | some (.row i) => .tup [.str [114, 111, 119], .int i, .bl true]
  | some .many => .tup [.str [109, 97, 110, 121], .int 1000, .bl true]
theorem refusal_ok (n : Nat) (M : MaR) (hM : M.rows.length < 100000) (st : Store) : callF P (n + 4) 22 [eMa M] st = .ok (refD (trErr M)) st := by
  rw [c__law_refusal]
  have ch := fun st => check_transducer_ok n M hM st
  generalize trErr M = o at *
  cases o with
  | none => simp [t__law_refusal, ch, refD]
  | some e => cases e <;> simp (disch := trivial) [t__law_refusal, ch, refD, P_xf, xfs, P_sub, anc]
end Lk27
namespace Lk27
open PySem Dk
local macro_rules | `(tactic| trivial) => `(tactic| first | (simp; done) | (simp only [List.length_append, List.length_cons, List.length_nil, List.length_take, List.length_drop, List.length_map, List.length_set, List.length_tail, List.length_dropLast, List.length_mergeSort, List.length_reverse, List.length_replicate, List.length_range, Int.toNat_natCast, Int.reduceToNat]; omega) | omega)
/-! good machines are accepted -/
theorem good_raw {B : Nat} {M : Mac} (G : Good B M) (F : Fine M) {i : Nat} (hi : i < M.rows.length) : goodR M.L M.rows.length (rawR (gD M.rows i)) = true := by
  have l := G.mv i hi
  have ll : (rawR (gD M.rows i)).1.length = M.L.length := by
    show ((gD M.rows i).1.map rawV).length = _
    rw [List.length_map]; exact l
  refine decide_eq_true ⟨ll, fun j hj => ?_, decide_eq_true (F.fx i hi), F.sta i hi⟩
  rw [ll] at hj
  have e : gD (rawR (gD M.rows i)).1 j = rawV (mvAt M i j) := gD_map rawV (by rw [l]; exact hj)
  rw [e]
  refine ⟨decide_eq_true (F.tx i hi j hj), Int.natCast_nonneg _, ?_⟩
  have := G.tg i hi j hj
  show ((mvAt M i j).2 : Int) < M.rows.length
  unfold mvAt
  omega
theorem raw_fine {B : Nat} {M : Mac} (G : Good B M) (F : Fine M) : trErr (raw M) = none := by
  have h0 : ¬ ((raw M).rows.length = 0 ∨ isTold (raw M).L (raw M).st = false) := fun z => by
    rcases z with z | z
    · have := G.pos
      unfold raw at z
      rw [List.length_map] at z
      omega
    · rw [show isTold (raw M).L (raw M).st = true from decide_eq_true F.st] at z
      cases z
  have h1 : ¬ 1000 < (raw M).rows.length := by
    have := G.big
    unfold raw
    rw [List.length_map]; omega
  unfold trErr
  rw [if_pos (show isAlpha (raw M).L = true from G.al), if_neg h0, if_neg h1]
  refine bad_none fun i hi => ?_
  unfold raw at hi ⊢
  rw [List.length_map] at hi
  dsimp only
  rw [List.length_map, gD_map rawR hi]
  exact good_raw G F hi
theorem check_fine (n : Nat) {B : Nat} {M : Mac} (G : Good B M) (F : Fine M) (st : Store) : callF P (n + 3) 6 [encM M] st = .ok .non st := by
  have := check_transducer_ok n (raw M) (by have := G.big; unfold raw; rw [List.length_map]; omega) st
  rw [raw_fine G F, e_raw] at this
  exact this
/-! spoilt machines -/
theorem bad_at {B : Nat} {M : Mac} (G : Good B M) (F : Fine M) {a : Nat} (ha : a < M.rows.length) {bad : RwR} (hb : goodR M.L M.rows.length bad = false) {behind : List RwR} (hl : behind.length + (a + 1) = M.rows.length) :
    trErr ⟨M.L, M.st, (M.rows.take a).map rawR ++ bad :: behind⟩ = some (.row a) := by
  have len : ((M.rows.take a).map rawR ++ bad :: behind).length = M.rows.length := by simp; omega
  have h0 : ¬ (((M.rows.take a).map rawR ++ bad :: behind).length = 0 ∨ isTold M.L M.st = false) := fun z => by
    rcases z with z | z
    · rw [len] at z; omega
    · rw [show isTold M.L M.st = true from decide_eq_true F.st] at z
      cases z
  have h1 : ¬ 1000 < ((M.rows.take a).map rawR ++ bad :: behind).length := by
    have := G.big
    rw [len]; omega
  have lt : ((M.rows.take a).map rawR).length = a := by simp; omega
  unfold trErr
  dsimp only
  rw [if_pos G.al, if_neg h0, if_neg h1]
  refine bad_some (by dsimp only; rw [len]; exact ha) ?_ fun j hj => ?_
  · dsimp only
    rw [len]
    have : gD ((M.rows.take a).map rawR ++ bad :: behind) a = bad := by
      have := gD_app_r (xs := (M.rows.take a).map rawR) (ys := bad :: behind) (i := 0) (by simp)
      rw [lt] at this
      exact this
    rw [this]; exact hb
  · dsimp only
    rw [len, gD_app_l (by rw [lt]; exact hj), gD_map rawR (by simp; omega)]
    have : gD (M.rows.take a) j = gD M.rows j := by
      rw [gD_get (by simp; omega), gD_get (by omega), List.getElem_take]
    rw [this]
    exact good_raw G F (by omega)
theorem map_rawV (l : List Mv) : (l.map rawV).map eMv = l.map encMv := by rw [List.map_map]; rfl
theorem map_rawR (l : List Rw) : (l.map rawR).map eRw = l.map encRow := by
  rw [List.map_map]
  exact congrArg (fun f => l.map f) (funext e_rawR)
def eightW : List S := [[], [98, 97], [97, 97], [97, 98, 99, 100, 101], [97, 66], [97, 49], [65], [97, 32]]
theorem wrong_at (x : Int) (hx : 0 ≤ x) : ∃ L : S, atI [D.str [], D.str [98, 97], D.str [97, 97], D.str [97, 98, 99, 100, 101], D.str [97, 66], D.str [97, 49], D.str [65], D.str [97, 32]] (x % 8) = some (.str L) ∧ isAlpha L = false := by
  obtain ⟨k, hk⟩ := Int.eq_ofNat_of_zero_le (show 0 ≤ x % 8 by omega)
  have h8 : k < 8 := by omega
  refine ⟨gD eightW k, ?_, ?_⟩
  · rw [hk]
    exact atI_map (xs := eightW) D.str h8
  · have : ∀ k, k < 8 → isAlpha (gD eightW k) = false := by decide
    exact this k h8
theorem rep_single {α : Type} (x : α) (k : Nat) : rep k [x] = List.replicate k x := by
  unfold rep
  induction k with
  | zero => rfl
  | succ k ih => rw [List.replicate_succ, List.flatten_cons, ih, List.replicate_succ]; rfl
theorem alpha_low {L : S} (h : isAlpha L = true) {c : Nat} (hc : c ∈ L) : 97 ≤ c ∧ c ≤ 122 := by
  obtain ⟨i, hi, rfl⟩ := List.getElem_of_mem hc
  have := ((of_decide_eq_true h).2.2 i hi).1
  rw [gD_get hi] at this
  exact (mem_low _).mp this
theorem enc_raws {M : Mac} : ∀ (a : List Mv) (a_1 : S) (b : Int), (a, a_1, b) ∈ M.rows → encRow (a, a_1, b) = eRw (rawR (a, a_1, b)) := fun _ _ _ _ => (e_rawR _).symm
def tenR (r : Rw) : RwR := (r.1.map rawV, (r.2.1, 10))
theorem eMa_at (L st : S) (nh : List Rw) (bad : RwR) (bh : List RwR) : eMa ⟨L, st, nh.map rawR ++ bad :: bh⟩ = .tup [.str L, .str st, .tup (nh.map encRow ++ eRw bad :: bh.map eRw)] := by
  show D.tup [.str L, .str st, .tup ((nh.map rawR ++ bad :: bh).map eRw)] = _
  rw [List.map_append, map_rawR, List.map_cons]
@[simp] theorem bel_tens (n : Nat) (l : List Rw) : D.belL n (l.map fun r => eRw (tenR r)) = true := belL_map fun _ => bel_eR n _
@[simp] theorem bel_Vdl (n : Nat) (l : List Mv) : D.belL n (l.map encMv).dropLast = true := by rw [← List.map_dropLast]; exact bel_Vs n _
@[simp] theorem bel_Vtk (n k : Nat) (l : List Mv) : D.belL n ((l.map encMv).take k) = true := by rw [← List.map_take]; exact bel_Vs n _
@[simp] theorem bel_Vdr (n k : Nat) (l : List Mv) : D.belL n ((l.map encMv).drop k) = true := by rw [← List.map_drop]; exact bel_Vs n _
theorem map_tenR (l : List Rw) : (l.map tenR).map eRw = l.map fun r => eRw (tenR r) := by rw [List.map_map]; rfl
theorem spoilt_ok (n : Nat) {M : Mac} (G : Good 10 M) (F : Fine M) (h5 : M.rows.length ≤ 5) (x : Int) (hx : 0 ≤ x) (st : Store) :
    ∃ (W : MaR) (e : Te), trErr W = some e ∧ W.rows.length ≤ 1001 ∧ callF P (n + 2) 23 [encM M, .int x] st = .ok (.tup [eMa W, refD (some e)]) st := by
  have al4 := alpha_len G.al
  have r0 := G.pos
  rw [c__law_spoilt]
  obtain ⟨a, ha⟩ := Int.eq_ofNat_of_zero_le (show 0 ≤ x / 10 % (M.rows.length : Int) from Int.emod_nonneg _ (by omega))
  have a1 : a < M.rows.length := by
    have := Int.emod_lt_of_pos (x / 10) (show (0 : Int) < M.rows.length by omega)
    omega
  obtain ⟨k, hk⟩ := Int.eq_ofNat_of_zero_le (show 0 ≤ x / 10 / 5 % (M.L.length : Int) from Int.emod_nonneg _ (by omega))
  have k1 : k < M.L.length := by
    have := Int.emod_lt_of_pos (x / 10 / 5) (show (0 : Int) < M.L.length by omega)
    omega
  obtain ⟨c, cn, cs⟩ := strange_ok n al4.2
  have R := G.row a1
  have e1 : atI (M.rows.map encRow) (a : Int) = some (.tup [.tup ((gD M.rows a).1.map encMv), .tup [.str (gD M.rows a).2.1, .int (gD M.rows a).2.2]]) := row_at a1
  have lr : (0 : Int) < M.rows.length := by omega
  have lr2 : (M.rows.length : Int) < 1073741824 := by omega
  have ll : (0 : Int) < M.L.length := by omega
  have ll2 : (M.L.length : Int) < 1073741824 := by omega
  have w10 : x % 10 = 0 ∨ x % 10 = 1 ∨ x % 10 = 2 ∨ x % 10 = 3 ∨ x % 10 = 4 ∨ x % 10 = 5 ∨ x % 10 = 6 ∨ x % 10 = 7 ∨ x % 10 = 8 ∨ x % 10 = 9 := by omega
  have L0 : 0 < M.L.length := by omega
  rcases w10 with hw | hw | hw | hw | hw
  · obtain ⟨w, ew, nw⟩ := wrong_at (x / 10 / 20) (by omega)
    refine ⟨⟨w, M.st, M.rows.map rawR⟩, .letters w, by unfold trErr; rw [if_neg (by rw [nw]; exact Bool.false_ne_true)], by simp; omega, ?_⟩
    simp (disch := trivial) [t__law_spoilt, hw, ha, hk, e1, cs, lr, lr2, ll, ll2, r0, L0, encM, ew, eMa, map_rawR, refD]
    exact enc_raws
  · refine ⟨⟨M.L, M.st, []⟩, .row (-1), by unfold trErr; rw [if_pos G.al, if_pos (.inl rfl)], by simp, ?_⟩
    simp (disch := trivial) [t__law_spoilt, hw, ha, hk, e1, cs, lr, lr2, ll, ll2, r0, L0, encM, eMa, refD]
  · have hs : x / 10 / 20 % 2 = ((x / 10 / 20 % 2).toNat : Int) := by omega
    generalize (x / 10 / 20 % 2).toNat = sd at hs
    refine ⟨⟨M.L, M.st.take sd ++ c :: M.st.drop sd, M.rows.map rawR⟩, .row (-1), ?_, by simp; omega, ?_⟩
    · unfold trErr
      dsimp only
      rw [if_pos G.al, if_pos (.inr (decide_eq_false fun z => cn (z c (by simp))))]
    · have ls := G.st
      have z1 : (M.st.take sd).length + 1 ≤ 16777216 := by simp; omega
      have z2 : (M.st.take sd).length + (1 + (M.st.drop sd).length) ≤ 16777216 := by simp; omega
      have z3 : (M.st.take sd).length + 1 + (M.st.drop sd).length ≤ 16777216 := by simp; omega
      simp (disch := trivial) [t__law_spoilt, hw, ha, hk, hs, e1, cs, lr, lr2, ll, ll2, r0, L0, encM, eMa, refD, map_rawR, cutL_to, cutL_from]
      exact enc_raws
  · refine ⟨⟨M.L, M.st, rep 1001 [rawR (gD M.rows 0)]⟩, .many, ?_, by rw [rep_single]; simp, ?_⟩
    · unfold trErr
      dsimp only
      rw [if_pos G.al, rep_single, List.length_replicate, if_neg (by
        rintro (z | z)
        · cases z
        · rw [show isTold M.L M.st = true from decide_eq_true F.st] at z
          cases z), if_pos (by omega)]
    · have e0 : atI (M.rows.map encRow) 0 = some (encRow (gD M.rows 0)) := row_at (r := 0) r0
      simp (disch := trivial) [t__law_spoilt, hw, ha, hk, e1, cs, lr, lr2, ll, ll2, r0, L0, encM, eMa, refD, e0]
      rw [rep_single, rep_single, List.map_replicate, e_rawR]
  · have ml : (gD M.rows a).1.length = M.L.length := R.len
    have fx10 := R.fx
    have tx10 := R.tx
    generalize gD M.rows a = rw at *
    obtain ⟨mv, fx⟩ := rw
    dsimp only at ml fx10 e1 tx10
    have cN : cutL (M.rows.map encRow) none (some (a : Int)) = (M.rows.take a).map encRow := by rw [cutL_map, cutL_to]
    have cB : cutL (M.rows.map encRow) (some ((a : Int) + 1)) none = (M.rows.drop (a + 1)).map encRow := by
      rw [cutL_map]
      exact congrArg _ (cutL_from M.rows (a + 1))
    have cK : cutL (mv.map encMv) none (some (k : Int)) = (mv.take k).map encMv := by rw [cutL_map, cutL_to]
    have cL : cutL (mv.map encMv) (some ((k : Int) + 1)) none = (mv.drop (k + 1)).map encMv := by
      rw [cutL_map]
      exact congrArg _ (cutL_from mv (k + 1))
    have bt : ∀ (bad : RwR), goodR M.L M.rows.length bad = false → ∀ f : Rw → RwR, trErr ⟨M.L, M.st, (M.rows.take a).map rawR ++ bad :: (M.rows.drop (a + 1)).map f⟩ = some (.row a) := fun bad h f => bad_at G F a1 h (by simp; omega)
    have lN : (M.rows.take a).length ≤ 5 := by simp; omega
    have lB : (M.rows.drop (a + 1)).length ≤ 5 := by simp; omega
    have lK : (mv.take k).length ≤ 4 := by simp; omega
    have lL : (mv.drop (k + 1)).length ≤ 4 := by simp; omega
    generalize M.rows.take a = nh at *
    generalize M.rows.drop (a + 1) = bh at *
    have hs : x / 10 / 20 % 2 = 0 ∨ x / 10 / 20 % 2 = 1 := by omega
    have m0 : atI (mv.map encMv) 0 = some (encMv (gD mv 0)) := atI_map (i := 0) encMv (by omega)
    have mk : atI (mv.map encMv) (k : Int) = some (.tup [.str (gD mv k).1, .int (gD mv k).2]) := atI_map encMv (by omega)
    have dl : mv.dropLast.length ≤ 4 := by simp; omega
    have txk := tx10 k k1
    have hk5 : k < mv.length := by omega
    have bT : ∀ n, D.belL n (bh.map fun r => eRw (tenR r)) = true := fun n => belL_map fun _ => bel_eR n _
    have bX : ∀ n, D.belL n (mv.map encMv).dropLast = true := fun n => by rw [← List.map_dropLast]; exact bel_Vs n _
    rcases hw with hw | hw | hw | hw | hw | hw
    · have hg : goodR M.L M.rows.length (mv.dropLast.map rawV, fx) = false := decide_eq_false fun z => by
        have := z.1
        simp at this
        omega
      have he : eRw (mv.dropLast.map rawV, fx) = .tup [.tup (mv.map encMv).dropLast, .tup [.str fx.1, .int fx.2]] := by
        rw [← List.map_dropLast, ← map_rawV]; rfl
      by_cases hb : x / 10 / 40 % 2 = 1
      · refine ⟨⟨M.L, M.st, nh.map rawR ++ (mv.dropLast.map rawV, fx) :: bh.map tenR⟩, .row a, bt _ hg tenR, by simp; omega, ?_⟩
        rw [eMa_at, he, map_tenR]
        simp (disch := trivial) [t__law_spoilt, hw, ha, hk, e1, cs, lr, lr2, ll, ll2, r0, L0, encM, refD, cutL_last, cN, cB, cK, cL, hb, m0, mk]
        rw [lcL_enc encRow (fun r => eRw (tenR r)) ?o bh ?b ?z]
        case o => trivial
        case z => rw [sz_lit]; omega
        case b =>
          intro r hr
          simp [eRw, tenR, map_rawV]
          try (exact fun _ _ _ => rfl)
        simp (disch := trivial) [cN]
      · refine ⟨⟨M.L, M.st, nh.map rawR ++ (mv.dropLast.map rawV, fx) :: bh.map rawR⟩, .row a, bt _ hg rawR, by simp; omega, ?_⟩
        rw [eMa_at, he, map_rawR]
        simp (disch := trivial) [t__law_spoilt, hw, ha, hk, e1, cs, lr, lr2, ll, ll2, r0, L0, encM, refD, cutL_last, cN, cB, cK, cL, hb, m0, mk]

    · have hg : goodR M.L M.rows.length ((mv ++ [gD mv 0]).map rawV, fx) = false := decide_eq_false fun z => by
        have := z.1
        simp at this
        omega
      have he : eRw ((mv ++ [gD mv 0]).map rawV, fx) = .tup [.tup (mv.map encMv ++ [encMv (gD mv 0)]), .tup [.str fx.1, .int fx.2]] := by
        rw [show mv.map encMv ++ [encMv (gD mv 0)] = (mv ++ [gD mv 0]).map encMv by simp, ← map_rawV]; rfl
      by_cases hb : x / 10 / 40 % 2 = 1
      · refine ⟨⟨M.L, M.st, nh.map rawR ++ ((mv ++ [gD mv 0]).map rawV, fx) :: bh.map tenR⟩, .row a, bt _ hg tenR, by simp; omega, ?_⟩
        rw [eMa_at, he, map_tenR]
        simp (disch := trivial) [t__law_spoilt, hw, ha, hk, e1, cs, lr, lr2, ll, ll2, r0, L0, encM, refD, cutL_last, cN, cB, cK, cL, hb, m0, mk]
        rw [lcL_enc encRow (fun r => eRw (tenR r)) ?o bh ?b ?z]
        case o => trivial
        case z => rw [sz_lit]; omega
        case b =>
          intro r hr
          simp [eRw, tenR, map_rawV]
          try (exact fun _ _ _ => rfl)
        simp (disch := trivial) [cN]
      · refine ⟨⟨M.L, M.st, nh.map rawR ++ ((mv ++ [gD mv 0]).map rawV, fx) :: bh.map rawR⟩, .row a, bt _ hg rawR, by simp; omega, ?_⟩
        rw [eMa_at, he, map_rawR]
        simp (disch := trivial) [t__law_spoilt, hw, ha, hk, e1, cs, lr, lr2, ll, ll2, r0, L0, encM, refD, cutL_last, cN, cB, cK, cL, hb, m0, mk]

    · rcases hs with hs | hs
      · have hg : goodR M.L M.rows.length ((mv.take k).map rawV ++ ((gD mv k).1, (M.rows.length : Int)) :: (mv.drop (k + 1)).map rawV, fx) = false := decide_eq_false fun z => by
          have := z.2.1 k (by simp; omega)
          have e : gD ((mv.take k).map rawV ++ ((gD mv k).1, (M.rows.length : Int)) :: (mv.drop (k + 1)).map rawV) k = ((gD mv k).1, (M.rows.length : Int)) := by
            have := gD_app_r (xs := (mv.take k).map rawV) (ys := ((gD mv k).1, (M.rows.length : Int)) :: (mv.drop (k + 1)).map rawV) (i := 0) (by simp)
            rw [show ((mv.take k).map rawV).length + 0 = k by simp; omega] at this
            exact this
          dsimp only at this
          rw [e] at this
          have := this.2.2
          omega
        have he : eRw ((mv.take k).map rawV ++ ((gD mv k).1, (M.rows.length : Int)) :: (mv.drop (k + 1)).map rawV, fx) = .tup [.tup ((mv.take k).map encMv ++ .tup [.str (gD mv k).1, .int M.rows.length] :: (mv.drop (k + 1)).map encMv), .tup [.str fx.1, .int fx.2]] := by
          rw [← map_rawV, ← map_rawV]
          show D.tup [.tup (((mv.take k).map rawV ++ ((gD mv k).1, (M.rows.length : Int)) :: (mv.drop (k + 1)).map rawV).map eMv), _] = _
          rw [List.map_append, List.map_cons]; rfl
        by_cases hb : x / 10 / 40 % 2 = 1
        · refine ⟨⟨M.L, M.st, nh.map rawR ++ ((mv.take k).map rawV ++ ((gD mv k).1, (M.rows.length : Int)) :: (mv.drop (k + 1)).map rawV, fx) :: bh.map tenR⟩, .row a, bt _ hg tenR, by simp; omega, ?_⟩
          rw [eMa_at, he, map_tenR]
          simp (disch := trivial) [t__law_spoilt, hw, ha, hk, e1, cs, lr, lr2, ll, ll2, r0, L0, encM, refD, cutL_last, cN, cB, cK, cL, hb, m0, mk, hs]
          rw [lcL_enc encRow (fun r => eRw (tenR r)) ?o bh ?b ?z]
          case o => trivial
          case z => rw [sz_lit]; omega
          case b =>
            intro r hr
            simp [eRw, tenR, map_rawV]
            try (exact fun _ _ _ => rfl)
          simp (disch := trivial) [cN]
        · refine ⟨⟨M.L, M.st, nh.map rawR ++ ((mv.take k).map rawV ++ ((gD mv k).1, (M.rows.length : Int)) :: (mv.drop (k + 1)).map rawV, fx) :: bh.map rawR⟩, .row a, bt _ hg rawR, by simp; omega, ?_⟩
          rw [eMa_at, he, map_rawR]
          simp (disch := trivial) [t__law_spoilt, hw, ha, hk, e1, cs, lr, lr2, ll, ll2, r0, L0, encM, refD, cutL_last, cN, cB, cK, cL, hb, m0, mk, hs]

      · have hg : goodR M.L M.rows.length ((mv.take k).map rawV ++ ((gD mv k).1, ((-1) : Int)) :: (mv.drop (k + 1)).map rawV, fx) = false := decide_eq_false fun z => by
          have := z.2.1 k (by simp; omega)
          have e : gD ((mv.take k).map rawV ++ ((gD mv k).1, ((-1) : Int)) :: (mv.drop (k + 1)).map rawV) k = ((gD mv k).1, ((-1) : Int)) := by
            have := gD_app_r (xs := (mv.take k).map rawV) (ys := ((gD mv k).1, ((-1) : Int)) :: (mv.drop (k + 1)).map rawV) (i := 0) (by simp)
            rw [show ((mv.take k).map rawV).length + 0 = k by simp; omega] at this
            exact this
          dsimp only at this
          rw [e] at this
          have := this.2.1
          omega
        have he : eRw ((mv.take k).map rawV ++ ((gD mv k).1, ((-1) : Int)) :: (mv.drop (k + 1)).map rawV, fx) = .tup [.tup ((mv.take k).map encMv ++ .tup [.str (gD mv k).1, .int (-1)] :: (mv.drop (k + 1)).map encMv), .tup [.str fx.1, .int fx.2]] := by
          rw [← map_rawV, ← map_rawV]
          show D.tup [.tup (((mv.take k).map rawV ++ ((gD mv k).1, ((-1) : Int)) :: (mv.drop (k + 1)).map rawV).map eMv), _] = _
          rw [List.map_append, List.map_cons]; rfl
        by_cases hb : x / 10 / 40 % 2 = 1
        · refine ⟨⟨M.L, M.st, nh.map rawR ++ ((mv.take k).map rawV ++ ((gD mv k).1, ((-1) : Int)) :: (mv.drop (k + 1)).map rawV, fx) :: bh.map tenR⟩, .row a, bt _ hg tenR, by simp; omega, ?_⟩
          rw [eMa_at, he, map_tenR]
          simp (disch := trivial) [t__law_spoilt, hw, ha, hk, e1, cs, lr, lr2, ll, ll2, r0, L0, encM, refD, cutL_last, cN, cB, cK, cL, hb, m0, mk, hs]
          rw [lcL_enc encRow (fun r => eRw (tenR r)) ?o bh ?b ?z]
          case o => trivial
          case z => rw [sz_lit]; omega
          case b =>
            intro r hr
            simp [eRw, tenR, map_rawV]
            try (exact fun _ _ _ => rfl)
          simp (disch := trivial) [cN]
        · refine ⟨⟨M.L, M.st, nh.map rawR ++ ((mv.take k).map rawV ++ ((gD mv k).1, ((-1) : Int)) :: (mv.drop (k + 1)).map rawV, fx) :: bh.map rawR⟩, .row a, bt _ hg rawR, by simp; omega, ?_⟩
          rw [eMa_at, he, map_rawR]
          simp (disch := trivial) [t__law_spoilt, hw, ha, hk, e1, cs, lr, lr2, ll, ll2, r0, L0, encM, refD, cutL_last, cN, cB, cK, cL, hb, m0, mk, hs]

    · rcases hs with hs | hs
      · have hg : goodR M.L M.rows.length ((mv.take k).map rawV ++ ((gD mv k).1 ++ [c], ((gD mv k).2 : Int)) :: (mv.drop (k + 1)).map rawV, fx) = false := decide_eq_false fun z => by
          have := z.2.1 k (by simp; omega)
          have e : gD ((mv.take k).map rawV ++ ((gD mv k).1 ++ [c], ((gD mv k).2 : Int)) :: (mv.drop (k + 1)).map rawV) k = ((gD mv k).1 ++ [c], ((gD mv k).2 : Int)) := by
            have := gD_app_r (xs := (mv.take k).map rawV) (ys := ((gD mv k).1 ++ [c], ((gD mv k).2 : Int)) :: (mv.drop (k + 1)).map rawV) (i := 0) (by simp)
            rw [show ((mv.take k).map rawV).length + 0 = k by simp; omega] at this
            exact this
          dsimp only at this
          rw [e] at this
          exact cn (of_decide_eq_true this.1 c (by simp))
        have he : eRw ((mv.take k).map rawV ++ ((gD mv k).1 ++ [c], ((gD mv k).2 : Int)) :: (mv.drop (k + 1)).map rawV, fx) = .tup [.tup ((mv.take k).map encMv ++ .tup [.str ((gD mv k).1 ++ [c]), .int (gD mv k).2] :: (mv.drop (k + 1)).map encMv), .tup [.str fx.1, .int fx.2]] := by
          rw [← map_rawV, ← map_rawV]
          show D.tup [.tup (((mv.take k).map rawV ++ ((gD mv k).1 ++ [c], ((gD mv k).2 : Int)) :: (mv.drop (k + 1)).map rawV).map eMv), _] = _
          rw [List.map_append, List.map_cons]; rfl
        by_cases hb : x / 10 / 40 % 2 = 1
        · refine ⟨⟨M.L, M.st, nh.map rawR ++ ((mv.take k).map rawV ++ ((gD mv k).1 ++ [c], ((gD mv k).2 : Int)) :: (mv.drop (k + 1)).map rawV, fx) :: bh.map tenR⟩, .row a, bt _ hg tenR, by simp; omega, ?_⟩
          rw [eMa_at, he, map_tenR]
          simp (disch := trivial) [t__law_spoilt, hw, ha, hk, e1, cs, lr, lr2, ll, ll2, r0, L0, encM, refD, cutL_last, cN, cB, cK, cL, hb, m0, mk, hs]
          rw [lcL_enc encRow (fun r => eRw (tenR r)) ?o bh ?b ?z]
          case o => trivial
          case z => rw [sz_lit]; omega
          case b =>
            intro r hr
            simp [eRw, tenR, map_rawV]
            try (exact fun _ _ _ => rfl)
          simp (disch := trivial) [cN]
        · refine ⟨⟨M.L, M.st, nh.map rawR ++ ((mv.take k).map rawV ++ ((gD mv k).1 ++ [c], ((gD mv k).2 : Int)) :: (mv.drop (k + 1)).map rawV, fx) :: bh.map rawR⟩, .row a, bt _ hg rawR, by simp; omega, ?_⟩
          rw [eMa_at, he, map_rawR]
          simp (disch := trivial) [t__law_spoilt, hw, ha, hk, e1, cs, lr, lr2, ll, ll2, r0, L0, encM, refD, cutL_last, cN, cB, cK, cL, hb, m0, mk, hs]

      · have hg : goodR M.L M.rows.length ((mv.take k).map rawV ++ (65 :: (gD mv k).1, ((gD mv k).2 : Int)) :: (mv.drop (k + 1)).map rawV, fx) = false := decide_eq_false fun z => by
          have := z.2.1 k (by simp; omega)
          have e : gD ((mv.take k).map rawV ++ (65 :: (gD mv k).1, ((gD mv k).2 : Int)) :: (mv.drop (k + 1)).map rawV) k = (65 :: (gD mv k).1, ((gD mv k).2 : Int)) := by
            have := gD_app_r (xs := (mv.take k).map rawV) (ys := (65 :: (gD mv k).1, ((gD mv k).2 : Int)) :: (mv.drop (k + 1)).map rawV) (i := 0) (by simp)
            rw [show ((mv.take k).map rawV).length + 0 = k by simp; omega] at this
            exact this
          dsimp only at this
          rw [e] at this
          have := (alpha_low G.al (of_decide_eq_true this.1 65 (by simp))).1
          omega
        have he : eRw ((mv.take k).map rawV ++ (65 :: (gD mv k).1, ((gD mv k).2 : Int)) :: (mv.drop (k + 1)).map rawV, fx) = .tup [.tup ((mv.take k).map encMv ++ .tup [.str (65 :: (gD mv k).1), .int (gD mv k).2] :: (mv.drop (k + 1)).map encMv), .tup [.str fx.1, .int fx.2]] := by
          rw [← map_rawV, ← map_rawV]
          show D.tup [.tup (((mv.take k).map rawV ++ (65 :: (gD mv k).1, ((gD mv k).2 : Int)) :: (mv.drop (k + 1)).map rawV).map eMv), _] = _
          rw [List.map_append, List.map_cons]; rfl
        by_cases hb : x / 10 / 40 % 2 = 1
        · refine ⟨⟨M.L, M.st, nh.map rawR ++ ((mv.take k).map rawV ++ (65 :: (gD mv k).1, ((gD mv k).2 : Int)) :: (mv.drop (k + 1)).map rawV, fx) :: bh.map tenR⟩, .row a, bt _ hg tenR, by simp; omega, ?_⟩
          rw [eMa_at, he, map_tenR]
          simp (disch := trivial) [t__law_spoilt, hw, ha, hk, e1, cs, lr, lr2, ll, ll2, r0, L0, encM, refD, cutL_last, cN, cB, cK, cL, hb, m0, mk, hs]
          rw [lcL_enc encRow (fun r => eRw (tenR r)) ?o bh ?b ?z]
          case o => trivial
          case z => rw [sz_lit]; omega
          case b =>
            intro r hr
            simp [eRw, tenR, map_rawV]
            try (exact fun _ _ _ => rfl)
          simp (disch := trivial) [cN]
        · refine ⟨⟨M.L, M.st, nh.map rawR ++ ((mv.take k).map rawV ++ (65 :: (gD mv k).1, ((gD mv k).2 : Int)) :: (mv.drop (k + 1)).map rawV, fx) :: bh.map rawR⟩, .row a, bt _ hg rawR, by simp; omega, ?_⟩
          rw [eMa_at, he, map_rawR]
          simp (disch := trivial) [t__law_spoilt, hw, ha, hk, e1, cs, lr, lr2, ll, ll2, r0, L0, encM, refD, cutL_last, cN, cB, cK, cL, hb, m0, mk, hs]

    · rcases hs with hs | hs
      · have hg : goodR M.L M.rows.length (mv.map rawV, (fx.1 ++ [c], fx.2)) = false := decide_eq_false fun z => by
          have := z.2.2.1
          exact cn (of_decide_eq_true this c (by simp))
        have he : eRw (mv.map rawV, (fx.1 ++ [c], fx.2)) = .tup [.tup (mv.map encMv), .tup [.str (fx.1 ++ [c]), .int fx.2]] := by
          rw [← map_rawV]; rfl
        by_cases hb : x / 10 / 40 % 2 = 1
        · refine ⟨⟨M.L, M.st, nh.map rawR ++ (mv.map rawV, (fx.1 ++ [c], fx.2)) :: bh.map tenR⟩, .row a, bt _ hg tenR, by simp; omega, ?_⟩
          rw [eMa_at, he, map_tenR]
          simp (disch := trivial) [t__law_spoilt, hw, ha, hk, e1, cs, lr, lr2, ll, ll2, r0, L0, encM, refD, cutL_last, cN, cB, cK, cL, hb, m0, mk, hs]
          rw [lcL_enc encRow (fun r => eRw (tenR r)) ?o bh ?b ?z]
          case o => trivial
          case z => rw [sz_lit]; omega
          case b =>
            intro r hr
            simp [eRw, tenR, map_rawV]
            try (exact fun _ _ _ => rfl)
          simp (disch := trivial) [cN]
        · refine ⟨⟨M.L, M.st, nh.map rawR ++ (mv.map rawV, (fx.1 ++ [c], fx.2)) :: bh.map rawR⟩, .row a, bt _ hg rawR, by simp; omega, ?_⟩
          rw [eMa_at, he, map_rawR]
          simp (disch := trivial) [t__law_spoilt, hw, ha, hk, e1, cs, lr, lr2, ll, ll2, r0, L0, encM, refD, cutL_last, cN, cB, cK, cL, hb, m0, mk, hs]

      · have hg : goodR M.L M.rows.length (mv.map rawV, (49 :: fx.1, fx.2)) = false := decide_eq_false fun z => by
          have := z.2.2.1
          have := (alpha_low G.al (of_decide_eq_true this 49 (by simp))).1
          omega
        have he : eRw (mv.map rawV, (49 :: fx.1, fx.2)) = .tup [.tup (mv.map encMv), .tup [.str (49 :: fx.1), .int fx.2]] := by
          rw [← map_rawV]; rfl
        by_cases hb : x / 10 / 40 % 2 = 1
        · refine ⟨⟨M.L, M.st, nh.map rawR ++ (mv.map rawV, (49 :: fx.1, fx.2)) :: bh.map tenR⟩, .row a, bt _ hg tenR, by simp; omega, ?_⟩
          rw [eMa_at, he, map_tenR]
          simp (disch := trivial) [t__law_spoilt, hw, ha, hk, e1, cs, lr, lr2, ll, ll2, r0, L0, encM, refD, cutL_last, cN, cB, cK, cL, hb, m0, mk, hs]
          rw [lcL_enc encRow (fun r => eRw (tenR r)) ?o bh ?b ?z]
          case o => trivial
          case z => rw [sz_lit]; omega
          case b =>
            intro r hr
            simp [eRw, tenR, map_rawV]
            try (exact fun _ _ _ => rfl)
          simp (disch := trivial) [cN]
        · refine ⟨⟨M.L, M.st, nh.map rawR ++ (mv.map rawV, (49 :: fx.1, fx.2)) :: bh.map rawR⟩, .row a, bt _ hg rawR, by simp; omega, ?_⟩
          rw [eMa_at, he, map_rawR]
          simp (disch := trivial) [t__law_spoilt, hw, ha, hk, e1, cs, lr, lr2, ll, ll2, r0, L0, encM, refD, cutL_last, cN, cB, cK, cL, hb, m0, mk, hs]

    · rcases hs with hs | hs
      · have hg : goodR M.L M.rows.length (mv.map rawV, (fx.1, (10 : Int))) = false := decide_eq_false fun z => by
          have := z.2.2.2
          simp at this
        have he : eRw (mv.map rawV, (fx.1, (10 : Int))) = .tup [.tup (mv.map encMv), .tup [.str fx.1, .int 10]] := by
          rw [← map_rawV]; rfl
        by_cases hb : x / 10 / 40 % 2 = 1
        · refine ⟨⟨M.L, M.st, nh.map rawR ++ (mv.map rawV, (fx.1, (10 : Int))) :: bh.map tenR⟩, .row a, bt _ hg tenR, by simp; omega, ?_⟩
          rw [eMa_at, he, map_tenR]
          simp (disch := trivial) [t__law_spoilt, hw, ha, hk, e1, cs, lr, lr2, ll, ll2, r0, L0, encM, refD, cutL_last, cN, cB, cK, cL, hb, m0, mk, hs]
          rw [lcL_enc encRow (fun r => eRw (tenR r)) ?o bh ?b ?z]
          case o => trivial
          case z => rw [sz_lit]; omega
          case b =>
            intro r hr
            simp [eRw, tenR, map_rawV]
            try (exact fun _ _ _ => rfl)
          simp (disch := trivial) [cN]
        · refine ⟨⟨M.L, M.st, nh.map rawR ++ (mv.map rawV, (fx.1, (10 : Int))) :: bh.map rawR⟩, .row a, bt _ hg rawR, by simp; omega, ?_⟩
          rw [eMa_at, he, map_rawR]
          simp (disch := trivial) [t__law_spoilt, hw, ha, hk, e1, cs, lr, lr2, ll, ll2, r0, L0, encM, refD, cutL_last, cN, cB, cK, cL, hb, m0, mk, hs]

      · have hg : goodR M.L M.rows.length (mv.map rawV, (fx.1, ((-1) : Int))) = false := decide_eq_false fun z => by
          have := z.2.2.2
          simp at this
        have he : eRw (mv.map rawV, (fx.1, ((-1) : Int))) = .tup [.tup (mv.map encMv), .tup [.str fx.1, .int (-1)]] := by
          rw [← map_rawV]; rfl
        by_cases hb : x / 10 / 40 % 2 = 1
        · refine ⟨⟨M.L, M.st, nh.map rawR ++ (mv.map rawV, (fx.1, ((-1) : Int))) :: bh.map tenR⟩, .row a, bt _ hg tenR, by simp; omega, ?_⟩
          rw [eMa_at, he, map_tenR]
          simp (disch := trivial) [t__law_spoilt, hw, ha, hk, e1, cs, lr, lr2, ll, ll2, r0, L0, encM, refD, cutL_last, cN, cB, cK, cL, hb, m0, mk, hs]
          rw [lcL_enc encRow (fun r => eRw (tenR r)) ?o bh ?b ?z]
          case o => trivial
          case z => rw [sz_lit]; omega
          case b =>
            intro r hr
            simp [eRw, tenR, map_rawV]
            try (exact fun _ _ _ => rfl)
          simp (disch := trivial) [cN]
        · refine ⟨⟨M.L, M.st, nh.map rawR ++ (mv.map rawV, (fx.1, ((-1) : Int))) :: bh.map rawR⟩, .row a, bt _ hg rawR, by simp; omega, ?_⟩
          rw [eMa_at, he, map_rawR]
          simp (disch := trivial) [t__law_spoilt, hw, ha, hk, e1, cs, lr, lr2, ll, ll2, r0, L0, encM, refD, cutL_last, cN, cB, cK, cL, hb, m0, mk, hs]

end Lk27
namespace Lk27
open PySem Dk
local macro_rules | `(tactic| trivial) => `(tactic| first | (simp; done) | (simp only [List.length_append, List.length_cons, List.length_nil, List.length_take, List.length_drop, List.length_map, List.length_set, List.length_tail, List.length_dropLast, List.length_mergeSort, List.length_reverse, List.length_replicate, List.length_range, Int.toNat_natCast, Int.reduceToNat]; omega) | omega)
/-! streams -/
theorem okD_si (k : Nat) (w : S) (i : Int) : okD (k + 1) (.tup [.str w, .int i]) := ⟨by simp, fun d hd => by
  simp only [List.mem_cons, List.not_mem_nil, or_false] at hd
  rcases hd with rfl | rfl <;> cases k <;> trivial⟩
theorem okD_ss (k : Nat) (w : S) (i : S) : okD (k + 1) (.tup [.str w, .str i]) := ⟨by simp, fun d hd => by
  simp only [List.mem_cons, List.not_mem_nil, or_false] at hd
  rcases hd with rfl | rfl <;> cases k <;> trivial⟩
theorem told_by_err (n : Nat) {M : Mac} (al : isAlpha M.L = true) (t : S) (ht : t.length < 100000) {c : Nat} {fs : List (Nat × D)} (h : textErr M.L t 1000 = some (c, fs)) (hb : ∀ k, D.belL k (fs.map (·.2)) = true) (st : Store) :
    callF P (n + 4) 8 [encM M, .str t] st = .exc c fs st := by
  rw [c_told_by]
  have cl := fun st => check_letters_ok n M.L st
  have le : lettersErr M.L = none := if_pos al
  rw [le] at cl
  have ct := fun st => check_text_ok (n + 1) M.L t 1000 ht st
  rw [h] at ct
  simp at ct
  have cs : ∀ st, callF P (n + 3) 3 [.str M.L, .str t] st = .exc c fs st := fun st => by
    rw [c_check_stream]
    simp [t_check_stream, cl, ct, hb]
  simp [t_told_by, cs, hb]
theorem stream_place (n : Nat) {M : Mac} (al : isAlpha M.L = true) (t : S) (ht : t.length ≤ 1000) (a : Nat) (ha : a < t.length) (hn : gD t a ∉ M.L) (hj : ∀ j, j < a → gD t j ∈ M.L) (st : Store) : callF P (n + 5) 24 [encM M, .str t] st = .ok (.tup [.str [112, 108, 97, 99, 101], .int a]) st := by
  have e : textErr M.L t 1000 = some (3, [(2, .int a)]) := by
    unfold textErr
    rw [if_neg (by omega)]
    exact firstE_some ha (if_neg hn) fun j h => if_pos (hj j h)
  have tb := fun st => told_by_err n al t (by omega) e (fun _ => rfl) st
  rw [c__law_stream_error]
  simp (disch := trivial) [t__law_stream_error, tb, P_xf, xfs, P_sub, anc]
theorem stream_many (n : Nat) {M : Mac} (al : isAlpha M.L = true) (t : S) (ht : 1000 < t.length) (h2 : t.length < 100000) (st : Store) : callF P (n + 5) 24 [encM M, .str t] st = .ok (.tup [.str [109, 97, 110, 121], .int 1000]) st := by
  have e : textErr M.L t 1000 = some (1, [(0, .int 1000)]) := if_pos ht
  have tb := fun st => told_by_err n al t h2 e (fun _ => rfl) st
  rw [c__law_stream_error]
  simp (disch := trivial) [t__law_stream_error, tb, P_xf, xfs, P_sub, anc]
theorem rep_mem {L : S} {k : Nat} {c : Nat} (h : c ∈ rep k L) : c ∈ L := by
  unfold rep at h
  obtain ⟨l, hl, hc⟩ := List.mem_flatten.mp h
  rw [(List.mem_replicate.mp hl).2] at hc
  exact hc
theorem rep_len3 {α : Type} (m : Nat) (vs : List α) : (rep m vs).length = m * vs.length := by
  unfold rep
  induction m with
  | zero => simp
  | succ m ih => rw [List.replicate_succ, List.flatten_cons, List.length_append, ih, Nat.succ_mul]; omega
theorem streams_ok (n : Nat) {M : Mac} (G : Good 10 M) (x : Int) (hx : 0 ≤ x) (st : Store) : callF P (n + 6) 29 [encM M, .str M.L, .int x] st = .ok (.bl true) st := by
  have al4 := alpha_len G.al
  rw [c__law_streams]
  obtain ⟨a, ha⟩ := Int.eq_ofNat_of_zero_le (show 0 ≤ x % 10 by omega)
  have a9 : a < 10 := by omega
  obtain ⟨c, cn, cs⟩ := strange_ok (n + 4) al4.2
  have l0 : atI M.L 0 = some (gD M.L 0) := atI_gD (i := 0) (by omega)
  have lm : gD M.L 0 ∈ M.L := gD_mem (by omega)
  have la : (rep a [gD M.L 0]).length = a := by rw [rep_single, List.length_replicate]
  have w1 : ((rep a [gD M.L 0] ++ c :: (M.L ++ [45])).length : Nat) = a + (1 + (M.L.length + 1)) := by simp [la]; omega
  have ga : gD (rep a [gD M.L 0] ++ c :: (M.L ++ [45])) a = c := by
    have := gD_app_r (xs := rep a [gD M.L 0]) (ys := c :: (M.L ++ [45])) (i := 0) (by simp)
    rw [la] at this
    exact this
  have gj : ∀ j, j < a → gD (rep a [gD M.L 0] ++ c :: (M.L ++ [45])) j ∈ M.L := fun j hj => by
    rw [gD_app_l (by omega)]
    have h : gD (rep a [gD M.L 0]) j ∈ rep a [gD M.L 0] := gD_mem (by omega)
    rw [List.mem_singleton.mp (rep_mem h)]
    exact lm
  have s1 := fun st => stream_place n G.al (rep a [gD M.L 0] ++ c :: (M.L ++ [45])) (by omega) a (by omega) (by rw [ga]; exact cn) gj st
  have sm := fun k st => same_ok 1 (n + 3) (.tup [.str [112, 108, 97, 99, 101], .int k]) (okD_si 0 _ _) st
  have sm2 := fun st => same_ok 1 (n + 3) (.tup [.str [109, 97, 110, 121], .int 1000]) (okD_si 0 _ _) st
  have z1 : a * 1 ≤ 16777216 := by omega
  have z2 : (a : Int) < 1073741824 := by omega
  have z3 : -1073741824 < (a : Int) := by omega
  generalize hT : (rep 1000 M.L).take 1000 = tx at *
  have tl : tx.length = 1000 := by
    rw [← hT, List.length_take, rep_len3]
    have : 1000 * 1 ≤ 1000 * M.L.length := Nat.mul_le_mul_left _ al4.1
    omega
  have tm : ∀ c ∈ tx, c ∈ M.L := fun c hc => by
    rw [← hT] at hc
    exact rep_mem (List.mem_of_mem_take hc)
  have ts : isStream M.L tx = true := decide_eq_true ⟨by omega, tm⟩
  have b1 := fun st => told_by_ok (n + 1) (by omega) G tx ts st
  have b2 := fun st => told_law (n + 3) (by omega) G tx ts st
  have s2 := fun st => stream_many n G.al (tx ++ [gD M.L 0]) (by simp; omega) (by simp; omega) st
  have sm3 := fun w i st => same_ok 1 (n + 3) (.tup [.str w, .int i]) (okD_si 0 w i) st
  have ct : cutL (rep 1000 M.L) none (some 1000) = tx := by rw [← hT]; exact cutL_to _ 1000
  have z4 : M.L.length * 1000 ≤ 16777216 := by omega
  have z5 : tx.length + 1 ≤ 16777216 := by omega
  have z6 : M.L.length + 1 ≤ 16777216 := by omega
  by_cases h : x / 10 % 8 = 1
  · simp (disch := trivial) [t__law_streams, ha, l0, la, cs, s1, sm, h, ct, s2, sm2, b1, b2, sm3]
  · simp (disch := trivial) [t__law_streams, ha, l0, la, cs, s1, sm, h]
end Lk27
namespace Lk27
open PySem Dk
local macro_rules | `(tactic| trivial) => `(tactic| first | (simp; done) | (simp only [List.length_append, List.length_cons, List.length_nil, List.length_take, List.length_drop, List.length_map, List.length_set, List.length_tail, List.length_dropLast, List.length_mergeSort, List.length_reverse, List.length_replicate, List.length_range, Int.toNat_natCast, Int.reduceToNat]; omega) | omega)
/-! one behind the other, plainly -/
abbrev Pq := Nat × Nat
def encQ (p : Pq) : D := .tup [.int p.1, .int p.2]
/-- the moves of a pair; none: too many -/
def pvMoves (lim : Bool) (M2 : Mac) (r : Nat) : List Mv → List Pq → List Mv → Option (List Pq × List Mv)
  | [], ps, acc => some (ps, acc)
  | m :: ms, ps, acc => if lim = true ∧ 1000 < (fed M2 r m.1).1.length then none
    else if (m.2, (fed M2 r m.1).2) ∈ ps then pvMoves lim M2 r ms ps (acc ++ [((fed M2 r m.1).1, ps.idxOf (m.2, (fed M2 r m.1).2))])
    else if lim = true ∧ ps.length = 1000 then none
    else pvMoves lim M2 r ms (ps ++ [(m.2, (fed M2 r m.1).2)]) (acc ++ [((fed M2 r m.1).1, ps.length)])
/-- the final behind a final -/
def finP (M2 : Mac) (r : Nat) (w : S) : S × Int := ((fed M2 r w).1 ++ (fin M2 (fed M2 r w).2).1, (fin M2 (fed M2 r w).2).2)
def pvRun (lim : Bool) (M1 M2 : Mac) : Nat → List Pq → List Rw → Option (List Pq × List Rw)
  | 0, ps, rows => some (ps, rows)
  | n + 1, ps, rows => if rows.length < ps.length then
      match pvMoves lim M2 (gD ps rows.length).2 (gD M1.rows (gD ps rows.length).1).1 ps [] with
      | some (ps', mvs) => if lim = true ∧ 1000 < (finP M2 (gD ps rows.length).2 (fin M1 (gD ps rows.length).1).1).1.length then none
        else pvRun lim M1 M2 n ps' (rows ++ [(mvs, finP M2 (gD ps rows.length).2 (fin M1 (gD ps rows.length).1).1)])
      | none => none
    else some (ps, rows)
theorem pvMoves_no {M2 : Mac} {r : Nat} : ∀ {ms : List Mv} {ps : List Pq} {acc : List Mv} {x : List Pq × List Mv}, pvMoves true M2 r ms ps acc = some x → pvMoves false M2 r ms ps acc = some x
  | [], ps, acc, x, h => h
  | m :: ms, ps, acc, x, h => by
    unfold pvMoves at h ⊢
    rw [if_neg (fun z => Bool.false_ne_true z.1)]
    split at h
    · cases h
    · split at h
      · rename_i c
        rw [if_pos c]
        exact pvMoves_no h
      · rename_i c
        rw [if_neg c, if_neg (fun z => Bool.false_ne_true z.1)]
        split at h
        · cases h
        · exact pvMoves_no h
theorem pvRun_no {M1 M2 : Mac} : ∀ {n : Nat} {ps : List Pq} {rows : List Rw} {x : List Pq × List Rw}, pvRun true M1 M2 n ps rows = some x → pvRun false M1 M2 n ps rows = some x
  | 0, ps, rows, x, h => h
  | n + 1, ps, rows, x, h => by
    unfold pvRun at h ⊢
    split at h
    · rename_i c
      rw [if_pos c]
      cases q : pvMoves true M2 (gD ps rows.length).2 (gD M1.rows (gD ps rows.length).1).1 ps [] with
      | none => rw [q] at h; cases h
      | some y =>
        rw [q] at h
        rw [pvMoves_no q]
        dsimp only at h ⊢
        rw [if_neg (fun z => Bool.false_ne_true z.1)]
        split at h
        · cases h
        · exact pvRun_no h
    · rename_i c
      rw [if_neg c]
      exact h
/-- pairs within the machines -/
structure Pin (M1 M2 : Mac) (ps : List Pq) : Prop where
  nd : ps.Nodup
  l : ∀ p ∈ ps, p.1 < M1.rows.length
  r : ∀ p ∈ ps, p.2 < M2.rows.length
theorem Pin.len {M1 M2 : Mac} {ps : List Pq} (h : Pin M1 M2 ps) : ps.length ≤ M1.rows.length * M2.rows.length := by
  have e := nodup_lt (M1.rows.length * M2.rows.length) (ps.map fun p => p.1 * M2.rows.length + p.2) ?_ ?_
  · rwa [List.length_map] at e
  · rw [List.nodup_iff_pairwise_ne, List.pairwise_map]
    refine (List.nodup_iff_pairwise_ne.mp h.nd).imp_of_mem fun {a b} ha hb ne q => ne ?_
    have la := h.r a ha
    have lb := h.r b hb
    have h0 : 0 < M2.rows.length := by omega
    have e1 : a.1 = b.1 := by
      have x1 : (a.1 * M2.rows.length + a.2) / M2.rows.length = a.1 := by rw [Nat.mul_comm, Nat.mul_add_div h0, Nat.div_eq_of_lt la, Nat.add_zero]
      have x2 : (b.1 * M2.rows.length + b.2) / M2.rows.length = b.1 := by rw [Nat.mul_comm, Nat.mul_add_div h0, Nat.div_eq_of_lt lb, Nat.add_zero]
      rw [← x1, ← x2, q]
    refine Prod.ext e1 ?_
    rw [e1] at q
    omega
  · intro x hx
    obtain ⟨p, hp, rfl⟩ := List.mem_map.mp hx
    have a := h.l p hp
    have b := h.r p hp
    have : (p.1 + 1) * M2.rows.length ≤ M1.rows.length * M2.rows.length := Nat.mul_le_mul_right _ a
    rw [Nat.succ_mul] at this
    omega
theorem Pin.add {M1 M2 : Mac} {ps : List Pq} (h : Pin M1 M2 ps) {q : Pq} (hq : q ∉ ps) (h1 : q.1 < M1.rows.length) (h2 : q.2 < M2.rows.length) : Pin M1 M2 (ps ++ [q]) where
  nd := List.nodup_append.mpr ⟨h.nd, by simp, fun a ha b hb => by
    rw [List.mem_singleton.mp hb]
    exact fun z => hq (z ▸ ha)⟩
  l := fun p hp => by
    rcases List.mem_append.mp hp with z | z
    · exact h.l p z
    · rw [List.mem_singleton.mp z]; exact h1
  r := fun p hp => by
    rcases List.mem_append.mp hp with z | z
    · exact h.r p z
    · rw [List.mem_singleton.mp z]; exact h2
/-- a row's move among the pairs -/
def MoveOk (M2 : Mac) (ps : List Pq) (r : Nat) (m m' : Mv) : Prop := m'.1 = (fed M2 r m.1).1 ∧ m'.2 < ps.length ∧ gD ps m'.2 = (m.2, (fed M2 r m.1).2)
theorem MoveOk.more {M2 : Mac} {ps : List Pq} {r : Nat} {m m' : Mv} (h : MoveOk M2 ps r m m') (t : List Pq) : MoveOk M2 (ps ++ t) r m m' :=
  ⟨h.1, by rw [List.length_append]; have := h.2.1; omega, by rw [gD_app_l h.2.1]; exact h.2.2⟩
theorem idxOf_gD {α : Type} [Inhabited α] [BEq α] [LawfulBEq α] {xs : List α} {x : α} (h : x ∈ xs) : xs.idxOf x < xs.length ∧ gD xs (xs.idxOf x) = x := by
  have l := List.idxOf_lt_length_iff.mpr h
  exact ⟨l, by rw [gD_get l]; exact List.getElem_idxOf l⟩
/-- what the moves of a pair give -/
theorem pvMoves_ok {B2 : Nat} {lim : Bool} {M1 M2 : Mac} (G2 : Good B2 M2) {r : Nat} (hr : r < M2.rows.length) : ∀ {ms : List Mv} {ps : List Pq} {acc : List Mv} {x : List Pq × List Mv} (done : List Mv), (∀ m ∈ ms, m.2 < M1.rows.length ∧ ∀ c ∈ m.1, c ∈ M2.L) → Pin M1 M2 ps → acc.length = done.length → (∀ j, j < done.length → MoveOk M2 ps r (gD done j) (gD acc j)) →
    pvMoves lim M2 r ms ps acc = some x → (∃ t, x.1 = ps ++ t) ∧ Pin M1 M2 x.1 ∧ x.2.length = (done ++ ms).length ∧ ∀ j, j < (done ++ ms).length → MoveOk M2 x.1 r (gD (done ++ ms) j) (gD x.2 j)
  | [], ps, acc, x, done, hm, hp, hl, ha, h => by
    cases h
    exact ⟨⟨[], by simp⟩, hp, by simpa using hl, by simpa using ha⟩
  | m :: ms, ps, acc, x, done, hm, hp, hl, ha, h => by
    obtain ⟨m1, m2⟩ := hm m List.mem_cons_self
    have f2 := (fed_ok G2 m.1 r hr m2).1
    have next : ∀ (ps' : List Pq) (j' : Nat), (∃ t, ps' = ps ++ t) → Pin M1 M2 ps' → j' < ps'.length → gD ps' j' = (m.2, (fed M2 r m.1).2) → pvMoves lim M2 r ms ps' (acc ++ [((fed M2 r m.1).1, j')]) = some x →
        (∃ t, x.1 = ps ++ t) ∧ Pin M1 M2 x.1 ∧ x.2.length = (done ++ m :: ms).length ∧ ∀ j, j < (done ++ m :: ms).length → MoveOk M2 x.1 r (gD (done ++ m :: ms) j) (gD x.2 j) := by
      rintro ps' j' ⟨t, rfl⟩ hp' hj hg hx
      obtain ⟨⟨t', e1⟩, e2, e3, e4⟩ := pvMoves_ok G2 hr (done ++ [m]) (fun y hy => hm y (List.mem_cons_of_mem _ hy)) hp' (by simp [hl]) (fun j hjl => by
        rw [List.length_append, List.length_singleton] at hjl
        by_cases q : j < done.length
        · rw [gD_app_l q, gD_app_l (by omega)]
          exact (ha j q).more t
        · have ej : j = done.length := by omega
          subst ej
          have a1 := gD_app_r (xs := done) (ys := [m]) (i := 0) (by simp)
          have a2 := gD_app_r (xs := acc) (ys := [((fed M2 r m.1).1, j')]) (i := 0) (by simp)
          rw [Nat.add_zero] at a1 a2
          rw [a1, ← hl, a2]
          exact ⟨rfl, hj, hg⟩) hx
      rw [List.append_assoc, List.singleton_append] at e3 e4
      exact ⟨⟨t ++ t', by rw [e1, List.append_assoc]⟩, e2, e3, e4⟩
    unfold pvMoves at h
    split at h
    · cases h
    · split at h
      · rename_i c
        obtain ⟨i1, i2⟩ := idxOf_gD c
        exact next ps _ ⟨[], by simp⟩ hp i1 i2 h
      · rename_i c
        split at h
        · cases h
        · have := gD_app_r (xs := ps) (ys := [(m.2, (fed M2 r m.1).2)]) (i := 0) (by simp)
          exact next _ _ ⟨_, rfl⟩ (hp.add c m1 f2) (by simp) this h
/-- a row among the pairs -/
structure RowP (M1 M2 : Mac) (ps : List Pq) (p : Pq) (r : Rw) : Prop where
  len : r.1.length = (gD M1.rows p.1).1.length
  mv : ∀ j, j < (gD M1.rows p.1).1.length → MoveOk M2 ps p.2 (mvAt M1 p.1 j) (gD r.1 j)
  fx : r.2 = finP M2 p.2 (fin M1 p.1).1
theorem RowP.more {M1 M2 : Mac} {ps : List Pq} {p : Pq} {r : Rw} (h : RowP M1 M2 ps p r) (t : List Pq) : RowP M1 M2 (ps ++ t) p r := ⟨h.len, fun j hj => (h.mv j hj).more t, h.fx⟩
structure Pend (M1 M2 : Mac) (ps : List Pq) (rows : List Rw) : Prop where
  pin : Pin M1 M2 ps
  row : ∀ i, i < rows.length → RowP M1 M2 ps (gD ps i) (gD rows i)
theorem pvRun_ok {B1 B2 : Nat} {lim : Bool} {M1 M2 : Mac} (G1 : Good B1 M1) (F1 : Fine M1) (G2 : Good B2 M2) (hL : M2.L = M1.L) : ∀ {n : Nat} {ps : List Pq} {rows : List Rw} {x : List Pq × List Rw}, rows.length ≤ ps.length → rows.length + n = 1000 → (∀ y, pvRun lim M1 M2 n ps rows = some y → y.1.length ≤ 1000) → Pend M1 M2 ps rows →
    pvRun lim M1 M2 n ps rows = some x → (∃ t, x.1 = ps ++ t) ∧ Pend M1 M2 x.1 x.2 ∧ x.2.length = x.1.length
  | 0, ps, rows, x, hl, hn, h1, he, h => by
    have := h1 x h
    cases h
    exact ⟨⟨[], by simp⟩, he, by dsimp only at this ⊢; omega⟩
  | n + 1, ps, rows, x, hl, hn, h1, he, h => by
    unfold pvRun at h h1
    by_cases c : rows.length < ps.length
    · rw [if_pos c] at h h1
      have hp : gD ps rows.length ∈ ps := gD_mem c
      have l1 := he.pin.l _ hp
      have r1 := he.pin.r _ hp
      cases q : pvMoves lim M2 (gD ps rows.length).2 (gD M1.rows (gD ps rows.length).1).1 ps [] with
      | none => rw [q] at h; cases h
      | some y =>
        obtain ⟨ps', mvs⟩ := y
        rw [q] at h h1
        dsimp only at h h1
        split at h
        · cases h
        · rename_i cc
          rw [if_neg cc] at h1
          obtain ⟨⟨t, e1⟩, e2, e3, e4⟩ := pvMoves_ok G2 r1 [] (fun m hm => by
            obtain ⟨j, hj, rfl⟩ := List.getElem_of_mem hm
            rw [G1.mv _ l1] at hj
            have a1 := G1.tg _ l1 j hj
            have a2 := F1.tx _ l1 j hj
            unfold mvAt at a2
            rw [gD_get (by rw [G1.mv _ l1]; exact hj)] at a1 a2
            exact ⟨a1, by rw [hL]; exact a2⟩) he.pin rfl (fun j hj => by simp at hj) q
          dsimp only at e1 e2 e3 e4
          rw [List.nil_append] at e3 e4
          have hx := pvRun_ok G1 F1 G2 hL (rows := rows ++ [(mvs, finP M2 (gD ps rows.length).2 (fin M1 (gD ps rows.length).1).1)]) (ps := ps') (n := n) (x := x) (by rw [List.length_append, List.length_singleton, e1, List.length_append]; omega) (by rw [List.length_append, List.length_singleton]; omega) h1 ⟨e2, fun i hi => by
            rw [List.length_append, List.length_singleton] at hi
            by_cases qq : i < rows.length
            · rw [gD_app_l qq, e1, gD_app_l (by omega)]
              exact (he.row i qq).more t
            · have ei : i = rows.length := by omega
              subst ei
              have a2 := gD_app_r (xs := rows) (ys := [(mvs, finP M2 (gD ps rows.length).2 (fin M1 (gD ps rows.length).1).1)]) (i := 0) (by simp)
              rw [Nat.add_zero] at a2
              rw [a2, e1, gD_app_l c]
              rw [e1] at e4
              exact ⟨e3, fun j hj => e4 j hj, rfl⟩⟩ h
          obtain ⟨⟨t', b1⟩, b2, b3⟩ := hx
          exact ⟨⟨t ++ t', by rw [b1, e1, List.append_assoc]⟩, b2, b3⟩
    · rw [if_neg c] at h
      cases h
      exact ⟨⟨[], by simp⟩, he, by dsimp only; omega⟩
/-- no limit is met by small machines -/
theorem pvMoves_some {B2 : Nat} {M1 M2 : Mac} (G2 : Good B2 M2) {r : Nat} (hr : r < M2.rows.length) (h999 : M1.rows.length * M2.rows.length ≤ 1000) : ∀ {ms : List Mv} {ps : List Pq} {acc : List Mv}, (∀ m ∈ ms, m.2 < M1.rows.length ∧ (∀ c ∈ m.1, c ∈ M2.L) ∧ (fed M2 r m.1).1.length ≤ 1000) → Pin M1 M2 ps → ∃ x, pvMoves true M2 r ms ps acc = some x
  | [], ps, acc, _, _ => ⟨_, rfl⟩
  | m :: ms, ps, acc, hm, hp => by
    obtain ⟨m1, m2, m3⟩ := hm m List.mem_cons_self
    have f2 := (fed_ok G2 m.1 r hr m2).1
    unfold pvMoves
    rw [if_neg (fun z => by have := z.2; omega)]
    by_cases c : (m.2, (fed M2 r m.1).2) ∈ ps
    · rw [if_pos c]
      exact pvMoves_some G2 hr h999 (fun y hy => hm y (List.mem_cons_of_mem _ hy)) hp
    · have hp' := hp.add c m1 f2
      have := hp'.len
      rw [List.length_append, List.length_singleton] at this
      rw [if_neg c, if_neg (fun z => by have := z.2; omega)]
      exact pvMoves_some G2 hr h999 (fun y hy => hm y (List.mem_cons_of_mem _ hy)) hp'
theorem pvRun_some {B1 B2 : Nat} {M1 M2 : Mac} (G1 : Good B1 M1) (F1 : Fine M1) (G2 : Good B2 M2) (hL : M2.L = M1.L) (h999 : M1.rows.length * M2.rows.length ≤ 1000) (hm : ∀ i, i < M1.rows.length → ∀ r, r < M2.rows.length → ∀ k, k < M1.L.length → (fed M2 r (mvAt M1 i k).1).1.length ≤ 1000)
    (hf : ∀ i, i < M1.rows.length → ∀ r, r < M2.rows.length → (finP M2 r (fin M1 i).1).1.length ≤ 1000) : ∀ (n : Nat) {ps : List Pq} {rows : List Rw}, Pin M1 M2 ps → ∃ x, pvRun true M1 M2 n ps rows = some x
  | 0, ps, rows, _ => ⟨_, rfl⟩
  | n + 1, ps, rows, hp => by
    unfold pvRun
    by_cases c : rows.length < ps.length
    · rw [if_pos c]
      have hq : gD ps rows.length ∈ ps := gD_mem c
      have l1 := hp.l _ hq
      have r1 := hp.r _ hq
      have ml : ∀ m ∈ (gD M1.rows (gD ps rows.length).1).1, (m.2 < M1.rows.length ∧ ∀ c ∈ m.1, c ∈ M2.L) ∧ (fed M2 (gD ps rows.length).2 m.1).1.length ≤ 1000 := fun m hm' => by
        obtain ⟨j, hj, rfl⟩ := List.getElem_of_mem hm'
        rw [G1.mv _ l1] at hj
        have a1 := G1.tg _ l1 j hj
        have a2 := F1.tx _ l1 j hj
        have a3 := hm _ l1 _ r1 j hj
        unfold mvAt at a2 a3
        have ge := gD_get (xs := (gD M1.rows (gD ps rows.length).1).1) (i := j) (by rw [G1.mv _ l1]; exact hj)
        rw [ge] at a1 a2 a3
        exact ⟨⟨a1, by rw [hL]; exact a2⟩, a3⟩
      obtain ⟨y, q⟩ := pvMoves_some (M1 := M1) G2 r1 h999 (acc := []) (fun m hm' => ⟨(ml m hm').1.1, (ml m hm').1.2, (ml m hm').2⟩) hp
      rw [q]
      dsimp only
      rw [if_neg (fun z => by have := z.2; have := hf _ l1 _ r1; omega)]
      obtain ⟨_, e2, _, _⟩ := pvMoves_ok G2 r1 [] (fun m hm' => (ml m hm').1) hp rfl (fun j hj => by simp at hj) q
      exact pvRun_some G1 F1 G2 hL h999 hm hf n e2
    · rw [if_neg c]
      exact ⟨_, rfl⟩
/-! numbers of pairs -/
def nmF : Nat → List Pq → List (D × D)
  | _, [] => []
  | i, p :: r => (encQ p, .int i) :: nmF (i + 1) r
theorem beq_Q (p q : Pq) : D.beq (encQ p) (encQ q) = decide (p = q) := by
  obtain ⟨a, b⟩ := p
  obtain ⟨c, d⟩ := q
  unfold encQ
  rw [Bool.eq_iff_iff]
  simp [Prod.ext_iff]
  omega
theorem eqv_Q (p q : Pq) : D.eqv (encQ p) (encQ q) = decide (p = q) := by
  obtain ⟨a, b⟩ := p
  obtain ⟨c, d⟩ := q
  unfold encQ
  rw [Bool.eq_iff_iff]
  simp [Prod.ext_iff]
  omega
theorem get_nm (q : Pq) : ∀ (i : Nat) (ps : List Pq), mGet (nmF i ps) (encQ q) = if q ∈ ps then some (.int ((i + ps.idxOf q : Nat) : Int)) else none
  | i, [] => rfl
  | i, p :: r => by
    show mGet ((encQ p, .int i) :: nmF (i + 1) r) (encQ q) = _
    rw [mGet_cons, beq_Q, get_nm q (i + 1) r]
    by_cases c : p = q
    · subst c; simp
    · have c' : ¬ q = p := fun z => c z.symm
      have cb : (p == q) = false := beq_false_of_ne c
      by_cases m : q ∈ r
      · simp [c, c', m, List.idxOf_cons, cb]
        omega
      · simp [c, c', m]
theorem any_nm (q : Pq) : ∀ (i : Nat) (ps : List Pq), ((nmF i ps).any fun p => D.beq p.1 (encQ q)) = decide (q ∈ ps)
  | i, [] => rfl
  | i, p :: r => by
    show (D.beq (encQ p) (encQ q) || (nmF (i + 1) r).any fun p => D.beq p.1 (encQ q)) = _
    rw [beq_Q, any_nm q (i + 1) r, Bool.eq_iff_iff]
    simp
    constructor
    · rintro (z | z)
      · exact .inl z.symm
      · exact .inr z
    · rintro (z | z)
      · exact .inl z.symm
      · exact .inr z
theorem nm_app (q : Pq) : ∀ (i : Nat) (ps : List Pq), nmF i ps ++ [(encQ q, .int ((i + ps.length : Nat) : Int))] = nmF i (ps ++ [q])
  | i, [] => rfl
  | i, p :: r => by
    show (encQ p, D.int i) :: (nmF (i + 1) r ++ _) = (encQ p, .int i) :: nmF (i + 1) (r ++ [q])
    rw [← nm_app q (i + 1) r, List.length_cons, show i + (r.length + 1) = i + 1 + r.length by omega]
theorem put_nm {q : Pq} {ps : List Pq} (h : q ∉ ps) : mPut (nmF 0 ps) (encQ q) (.int ps.length) = nmF 0 (ps ++ [q]) := by
  unfold mPut
  rw [any_nm, if_neg (by simpa using h), ← nm_app]
  simp
@[simp] theorem nm_len : ∀ (i : Nat) (ps : List Pq), (nmF i ps).length = ps.length
  | i, [] => rfl
  | i, p :: r => by
    show (nmF (i + 1) r).length + 1 = _
    rw [nm_len (i + 1) r]; rfl
theorem enc_Q (p : Pq) : encQ p = .tup [.int p.1, .int p.2] := (rfl)
@[simp] theorem bel_Q (n : Nat) (p : Pq) : D.bel n (encQ p) = true := (rfl)
@[simp] theorem bel_Qs (n : Nat) (ps : List Pq) : D.belL n (ps.map encQ) = true := belL_map fun _ => rfl
theorem inC_nm (p : Pq) (ps : List Pq) : inC (.tup [.int p.1, .int p.2]) (some (true, nmF 0 ps)) = some (decide (p ∈ ps)) := by
  rw [inC_tup]
  have := get_nm p 0 ps
  rw [enc_Q] at this
  rw [this]
  by_cases c : p ∈ ps <;> simp [c]
theorem dat_Qs (ps : List Pq) : D.datL (ps.map encQ) = true := datL_map (fun _ => rfl) ps
theorem depth_Qs (ps : List Pq) : D.depthL (ps.map encQ) ≤ 1 := by
  induction ps with
  | nil => simp
  | cons p r ih => simp only [List.map_cons, depthL_cons, encQ, depth_tup]; simp; exact Nat.max_le.mpr ⟨Nat.le_refl _, ih⟩
theorem inK_Q (p : Pq) (m : Option Bool) (ps : List Pq) : inK (.tup [.int p.1, .int p.2]) m (some (ps.map encQ)) = some (decide (p ∈ ps)) := by
  have d := depth_Qs ps
  rw [inK_some ⟨by simp, dat_Qs ps, by simp, by omega⟩, List.any_map, ← enc_Q]
  congr 1
  rw [Bool.eq_iff_iff]
  simp [eqv_Q, Function.comp]
theorem indK_Q {p : Pq} {ps : List Pq} (h : p ∈ ps) (st0 : Store) : indK (.tup [.int p.1, .int p.2]) st0 (some (ps.map encQ)) = .ok (.int (ps.idxOf p : Nat)) st0 := by
  have d := depth_Qs ps
  rw [indK_dat ⟨by simp, dat_Qs ps, by simp, by omega⟩, ← enc_Q]
  have e : ∀ xs : List Pq, p ∈ xs → (xs.map encQ).findIdx? (fun z => D.eqv z (encQ p)) = some (xs.idxOf p) := by
    intro xs
    induction xs with
    | nil => intro h; cases h
    | cons a r ih =>
      intro h
      rw [List.map_cons, List.findIdx?_cons, eqv_Q, List.idxOf_cons]
      by_cases q : a = p
      · subst q; simp
      · have cb : (a == p) = false := beq_false_of_ne q
        have hr : p ∈ r := by
          rcases List.mem_cons.mp h with z | z
          · exact absurd z.symm q
          · exact z
        simp [q, cb, ih hr]
  rw [e ps h]; rfl
end Lk27
namespace Lk27
open PySem Dk
local macro_rules | `(tactic| trivial) => `(tactic| first | (simp; done) | (simp only [List.length_append, List.length_cons, List.length_nil, List.length_take, List.length_drop, List.length_map, List.length_set, List.length_tail, List.length_dropLast, List.length_mergeSort, List.length_reverse, List.length_replicate, List.length_range, Int.toNat_natCast, Int.reduceToNat]; omega) | omega)
/-! the walk of piped -/
theorem check_told_ok (n : Nat) (t : S) (st : Store) : callF P (n + 1) 9 [.str t] st = if 1000 < t.length then .exc 1 [(0, .int 1000)] st else .ok .non st := by
  rw [c_check_told]
  by_cases h : 1000 < t.length
  · have h' : (1000 : Int) < t.length := by omega
    simp [t_check_told, h, h', P_xf, xfs]
  · have h' : ¬ (1000 : Int) < t.length := by omega
    simp [t_check_told, h, h']
theorem final_behind_ok (n : Nat) {B : Nat} (hB : B ≤ 1000) {M : Mac} (G : Good B M) (r : Nat) (hr : r < M.rows.length) (w : S) (hw : ∀ c ∈ w, c ∈ M.L) (hl : w.length ≤ 2000) (i : Int) (st : Store) :
    callF P (n + 2) 10 [encM M, .int r, .tup [.str w, .int i]] st = if 1000 < (finP M r w).1.length then .exc 1 [(0, .int 1000)] st else .ok (.tup [.str (finP M r w).1, .int (finP M r w).2]) st := by
  rw [c_final_behind]
  have f1 := fun st => feed_ok n hB G r hr w hw hl st
  obtain ⟨f2, f3⟩ := fed_ok G w r hr hw
  have e3 := row_at f2
  have f4 := G.fx _ f2
  have b1 : B * w.length ≤ 1000 * 2000 := Nat.mul_le_mul hB hl
  have z : (fed M r w).1.length + (fin M (fed M r w).2).1.length ≤ 16777216 := by
    unfold fin
    omega
  have ct := fun t st => check_told_ok n t st
  unfold finP
  unfold fin at *
  by_cases h : 1000 < ((fed M r w).1 ++ (gD M.rows (fed M r w).2).2.1).length
  · have h2 : 1000 < (fed M r w).1.length + (gD M.rows (fed M r w).2).2.1.length := by simpa using h
    simp [t_final_behind, f1, e3, z, ct, h2]
  · have h2 : ¬ 1000 < (fed M r w).1.length + (gD M.rows (fed M r w).2).2.1.length := by simpa using h
    simp [t_final_behind, f1, e3, z, ct, h2]
/-- the store of piped -/
def stW (st : Store) (ps : List Pq) (rows : List Rw) (t : Store) : Store := jk (push (push (push st (.lst (ps.map encQ))) (.dct true (nmF 0 ps))) (.lst (rows.map encRow))) t
def resW (st : Store) (M1 M2 : Mac) : Option (List Pq × List Rw) → R D
  | some x => .ok (encM ⟨M1.L, M2.st ++ (fed M2 0 M1.st).1, x.2⟩) st
  | none => .exc 1 [(0, .int 1000)] st
@[simp] theorem resW_some (st : Store) (M1 M2 : Mac) (x : List Pq × List Rw) : resW st M1 M2 (some x) = .ok (encM ⟨M1.L, M2.st ++ (fed M2 0 M1.st).1, x.2⟩) st := (rfl)
@[simp] theorem resW_none (st : Store) (M1 M2 : Mac) : resW st M1 M2 none = .exc 1 [(0, .int 1000)] st := (rfl)
theorem one_nm (q : Pq) : [(encQ q, D.int 0)] = nmF 0 [q] := (rfl)
theorem pvMoves_nil {lim : Bool} {M2 : Mac} {r : Nat} {ps : List Pq} {acc : List Mv} : pvMoves lim M2 r [] ps acc = some (ps, acc) := (rfl)
theorem piped_ok (n : Nat) {B1 B2 : Nat} (hB : B2 ≤ 1000) (hB1 : B1 ≤ 2000) {M1 M2 : Mac} (G1 : Good B1 M1) (F1 : Fine M1) (G2 : Good B2 M2) (hL : M2.L = M1.L) (h1 : (M2.st ++ (fed M2 0 M1.st).1).length ≤ 1000) (st : Store) :
    callF P (n + 3) 11 [encM M1, encM M2] st = resW st M1 M2 (pvRun true M1 M2 1000 [(0, (fed M2 0 M1.st).2)] []) := by
  have al := alpha_len G1.al
  rw [c_piped]
  have st2 : ∀ c ∈ M1.st, c ∈ M2.L := by rw [hL]; exact F1.st
  have l1 := G1.st
  have l2 := G2.st
  have fe := fun r hr w hw hl st => feed_ok (n + 1) hB G2 r hr w hw hl st
  have e0 := fun st => fe 0 G2.pos M1.st st2 (by omega) st
  obtain ⟨f0, f1⟩ := fed_ok G2 M1.st 0 G2.pos st2
  have ct := fun t st => check_told_ok (n + 1) t st
  have z0 : M2.st.length + (fed M2 0 M1.st).1.length ≤ 16777216 := by rw [List.length_append] at h1; omega
  have h1' : ¬ 1000 < M2.st.length + (fed M2 0 M1.st).1.length := by rw [List.length_append] at h1; omega
  have p0 : Pin M1 M2 [(0, (fed M2 0 M1.st).2)] := ⟨by simp, fun p hp => by rw [List.mem_singleton.mp hp]; exact G1.pos, fun p hp => by rw [List.mem_singleton.mp hp]; exact f0⟩
  simp at e0
  simp [t_piped, hL, e0, z0, ct, h1']
  rw [show D.tup [.int 0, .int ((fed M2 0 M1.st).2 : Nat)] = encQ (0, (fed M2 0 M1.st).2) from rfl, one_nm]
  generalize hq0 : ((0, (fed M2 0 M1.st).2) : Pq) = q0 at *
  generalize hS : M2.st ++ (fed M2 0 M1.st).1 = SS at *
  refine whlL_all (Q := fun r => (seqT _ _ _ r).back st = _) (fun m e s => ∃ (ps : List Pq) (rows : List Rw) (t : Store) (k6 k7 k8 k9 k10 k11 k12 : Option D), m = 1001 - rows.length ∧ rows.length ≤ ps.length ∧ ps.length ≤ 1000 ∧ Pin M1 M2 ps ∧ pvRun true M1 M2 (1000 - rows.length) ps rows = pvRun true M1 M2 1000 [q0] [] ∧
    e = [some (encM M1), some (encM M2), some (.str SS), some (.loc st.length), some (.loc (st.length + 1)), some (.loc (st.length + 1 + 1)), k6, k7, k8, k9, k10, k11, k12] ∧ s = stW st ps rows t) fuel 1001 (by unfold fuel; omega) ⟨[q0], [], [], _, _, none, none, none, none, none, rfl, by simp, by simp, p0, rfl, rfl, by simp [stW, jk_nil]⟩ ?_
  rintro m e s ⟨ps, rows, t, k6, k7, k8, k9, k10, k11, k12, rfl, hl, hp, pin, hr, rfl, rfl⟩
  by_cases c : rows.length < ps.length
  · refine .inr ⟨stW st ps rows t, by simp [stW, c], ?_⟩
    obtain ⟨d, hd⟩ : ∃ d, 1000 - rows.length = d + 1 := ⟨1000 - rows.length - 1, by omega⟩
    rw [hd, pvRun, if_pos c] at hr
    have hq : gD ps rows.length ∈ ps := gD_mem c
    have pl := pin.l _ hq
    have pr := pin.r _ hq
    have a1 : atI (ps.map encQ) (rows.length : Int) = some (.tup [.int (gD ps rows.length).1, .int (gD ps rows.length).2]) := atI_map encQ c
    have a2 := row_at pl
    have mvl := G1.mv _ pl
    have mtg := G1.tg _ pl
    have mtx := G1.tx _ pl
    have mfm := F1.tx _ pl
    have ffm := F1.fx _ pl
    have ffl := G1.fx _ pl
    unfold fin at ffm
    unfold mvAt at mfm
    generalize gD ps rows.length = q at *
    obtain ⟨ql, qr⟩ := q
    dsimp only at *
    have bl : ∀ n, D.belL n ((gD M1.rows ql).1.map encMv) = true := fun n => bel_Vs n _
    simp (disch := trivial) [stW, a1, a2, encRow]
    generalize hV : pvMoves true M2 qr (gD M1.rows ql).1 ps [] = V at hr
    generalize hX : jk (push (push (push st (C.lst (ps.map encQ))) (C.dct true (nmF 0 ps))) (C.lst (rows.map encRow))) t = X
    have lX : X.length = st.length + 3 + t.length := by rw [← hX]; simp [jk_len]
    have hrN : V = none → pvRun true M1 M2 1000 [q0] [] = none := fun z => by rw [z] at hr; exact hr.symm
    have eL : ∀ a b acc, getL (push (jk (push (push (push st a) b) (C.lst (List.map encRow rows))) t) (C.lst acc)) X.length = some acc := fun a b acc => getL_top (by rw [lX]; simp [jk_len])
    have eA : ∀ a b c, at_ (push (jk (push (push (push st a) b) (C.lst (List.map encRow rows))) t) c) X.length = some c := fun a b c => at_top (by rw [lX]; simp [jk_len])
    have eS : ∀ a b c d, (push (jk (push (push (push st a) b) (C.lst (List.map encRow rows))) t) c).set X.length d = push (jk (push (push (push st a) b) (C.lst (List.map encRow rows))) t) d := fun a b c d => set_top (by rw [lX]; simp [jk_len])
    generalize hms : (gD M1.rows ql).1 = ms at *
    rw [show push X (C.lst []) = push (jk (push (push (push st (C.lst (ps.map encQ))) (C.dct true (nmF 0 ps))) (C.lst (rows.map encRow))) t) (C.lst (([] : List Mv).map encMv)) by rw [hX]; rfl]
    generalize X.length = LL at *
    refine for0 (Q := fun r => turnQ _ _ (seqT _ _ _ r)) (fun j e s => ∃ (ps' : List Pq) (acc : List Mv) (k6 k7 k11 k12 : Option D), pvMoves true M2 qr (ms.drop j) ps' acc = V ∧ acc.length = j ∧ Pin M1 M2 ps' ∧ ps.length ≤ ps'.length ∧ ps'.length ≤ 1000 ∧
      e = [some (encM M1), some (encM M2), some (.str SS), some (.loc st.length), some (.loc (st.length + 1)), some (.loc (st.length + 1 + 1)), k6, k7, some (.loc LL), some (.int ql), some (.int qr), k11, k12] ∧
      s = push (jk (push (push (push st (.lst (ps'.map encQ))) (.dct true (nmF 0 ps'))) (.lst (rows.map encRow))) t) (.lst (acc.map encMv))) (fun _ _ _ _ => trivial) ⟨ps, [], k6, k7, k11, k12, hV, rfl, pin, Nat.le_refl _, hp, rfl, rfl⟩ ?_ ?_
    · rintro j d e s hd ⟨ps', acc, k6, k7, k11, k12, hv, hj, pin', hl', hp', rfl, rfl⟩
      obtain ⟨hi, rfl⟩ := map_at hd
      have hi' : j < M1.L.length := by omega
      have x1 := mtg j hi'
      have x2 := mtx j hi'
      have x3 := mfm j hi'
      rw [drop_gD hi] at hv
      generalize gD ms j = mv at *
      obtain ⟨mt, mg⟩ := mv
      have x3' : ∀ c ∈ mt, c ∈ M2.L := fun c hc => by rw [hL]; exact x3 c hc
      have fq := fun st => fe qr pr mt x3' (by dsimp only at x2; omega) st
      obtain ⟨g0, g1⟩ := fed_ok G2 mt qr pr x3'
      unfold pvMoves at hv
      dsimp only at hv x1 x2
      generalize fed M2 qr mt = fd at *
      obtain ⟨ft, fr⟩ := fd
      dsimp only at *
      refine ⟨_, rfl, ?_⟩
      have acl : acc.length < 16777216 := by omega
      have psl : ps'.length < 16777216 := by omega
      by_cases b1 : 1000 < ft.length
      · rw [if_pos ⟨rfl, b1⟩] at hv
        have b1' : (1000 : Nat) < ft.length := b1
        simp [encMv, fq, ct, b1']
        rw [hrN hv.symm]; simp
      · rw [if_neg (fun z => b1 z.2)] at hv
        by_cases b2 : (mg, fr) ∈ ps'
        · rw [if_pos b2] at hv
          have gg := get_nm (mg, fr) 0 ps'
          rw [if_pos b2, Nat.zero_add, enc_Q] at gg
          simp [encMv, fq, ct, b1, inC_nm, b2, gg, eL, eS, eA, acl]
          exact ⟨ps', acc ++ [(ft, ps'.idxOf (mg, fr))], hv, by simp [hj], pin', hl', hp', by simp [encMv]⟩
        · rw [if_neg b2] at hv
          have gn := get_nm (mg, fr) 0 ps'
          rw [if_neg b2, enc_Q] at gn
          by_cases b3 : ps'.length = 1000
          · rw [if_pos ⟨rfl, b3⟩] at hv
            have b3' : (ps'.length : Int) = 1000 := by omega
            simp [encMv, fq, ct, b1, gn, b3, b3', eL, eS, eA, acl, P_xf, xfs]
            rw [hrN hv.symm]; simp
          · rw [if_neg (fun z => b3 z.2)] at hv
            have b3' : ¬ (ps'.length : Int) = 1000 := by omega
            have pn := put_nm b2
            rw [enc_Q] at pn
            have gg := get_nm (mg, fr) 0 (ps' ++ [(mg, fr)])
            rw [if_pos (by simp), Nat.zero_add, enc_Q, List.idxOf_append, if_neg b2] at gg
            simp at gg
            simp [encMv, fq, ct, b1, gn, b3, b3', pn, gg, eL, eS, eA, acl, psl]
            exact ⟨ps' ++ [(mg, fr)], acc ++ [(ft, ps'.length)], hv, by simp [hj], pin'.add b2 x1 g0, by simp; omega, by simp; omega, by simp [encMv, encQ]⟩
    · rintro e s ⟨ps', acc, k6, k7, k11, k12, hv, hj, pin', hl', hp', rfl, rfl⟩
      rw [List.length_map, List.drop_length, pvMoves_nil] at hv
      subst hv
      dsimp only at hr
      have w2 : ∀ c ∈ (gD M1.rows ql).2.1, c ∈ M2.L := fun c hc => by rw [hL]; exact ffm c hc
      have fb := fun st => final_behind_ok n hB G2 qr pr (gD M1.rows ql).2.1 w2 (by omega) (gD M1.rows ql).2.2 st
      unfold fin at hr
      have rl : rows.length < 16777216 := by omega
      have al2 : acc.length ≤ 16777216 := by rw [hj, List.length_map]; omega
      by_cases b1 : 1000 < (finP M2 qr (gD M1.rows ql).2.1).1.length
      · rw [if_pos ⟨rfl, b1⟩] at hr
        simp only [if_pos b1] at fb
        simp (disch := trivial) [a2, encRow, fb, eL, eS, eA, rl, al2]
        rw [← hr]; simp
      · rw [if_neg (fun z => b1 z.2)] at hr
        simp only [if_neg b1] at fb
        generalize finP M2 qr (gD M1.rows ql).2.1 = fp at *
        obtain ⟨fpt, fpi⟩ := fp
        dsimp only at *
        simp (disch := trivial) [a2, encRow, fb, eL, eS, eA, rl, al2]
        exact ⟨1001 - (rows.length + 1), by omega, ps', rows ++ [(acc, fpt, fpi)], by simp, by simp; omega, hp', pin', by rw [List.length_append, List.length_singleton, show 1000 - (rows.length + 1) = d by omega]; exact hr, t ++ [.lst (acc.map encMv)], by simp [encRow, push_jk]⟩
  · refine .inl ⟨stW st ps rows t, by simp [stW, c], ?_⟩
    have e1 : pvRun true M1 M2 (1000 - rows.length) ps rows = some (ps, rows) := by
      cases 1000 - rows.length with
      | zero => rfl
      | succ d => rw [pvRun, if_neg c]
    rw [e1] at hr
    rw [← hr]
    have z2 : rows.length ≤ 16777216 := by omega
    simp [stW, encM, hS, z2]
end Lk27
namespace Lk27
open PySem Dk
local macro_rules | `(tactic| trivial) => `(tactic| first | (simp; done) | (simp only [List.length_append, List.length_cons, List.length_nil, List.length_take, List.length_drop, List.length_map, List.length_set, List.length_tail, List.length_dropLast, List.length_mergeSort, List.length_reverse, List.length_replicate, List.length_range, Int.toNat_natCast, Int.reduceToNat]; omega) | omega)
/-! the law's own pipe -/
theorem finP_len {B : Nat} {M : Mac} (G : Good B M) {r : Nat} (hr : r < M.rows.length) {w : S} (hw : ∀ c ∈ w, c ∈ M.L) : (fed M r w).2 < M.rows.length ∧ (fed M r w).1.length ≤ B * w.length ∧ (fin M (fed M r w).2).1.length ≤ B :=
  ⟨(fed_ok G w r hr hw).1, (fed_ok G w r hr hw).2, G.fx _ (fed_ok G w r hr hw).1⟩
theorem law_piped_ok (n : Nat) {B1 B2 : Nat} (hB : B2 ≤ 1000) (hB1 : B1 ≤ 2000) {M1 M2 : Mac} (G1 : Good B1 M1) (F1 : Fine M1) (G2 : Good B2 M2) (hL : M2.L = M1.L) (h1 : (M2.st ++ (fed M2 0 M1.st).1).length ≤ 1000) {x : List Pq × List Rw} (hx : pvRun true M1 M2 1000 [(0, (fed M2 0 M1.st).2)] [] = some x) (st : Store) :
    callF P (n + 2) 20 [encM M1, encM M2] st = .ok (encM ⟨M1.L, M2.st ++ (fed M2 0 M1.st).1, x.2⟩) st := by
  have al := alpha_len G1.al
  rw [c__law_piped]
  have st2 : ∀ c ∈ M1.st, c ∈ M2.L := by rw [hL]; exact F1.st
  have l1 := G1.st
  have l2 := G2.st
  have fe := fun r hr w hw hl st => fed_law n hB G2 r hr w hw hl st
  have e0 := fun st => fe 0 G2.pos M1.st st2 (by omega) st
  obtain ⟨f0, f1⟩ := fed_ok G2 M1.st 0 G2.pos st2
  have z0 : M2.st.length + (fed M2 0 M1.st).1.length ≤ 16777216 := by rw [List.length_append] at h1; omega
  have p0 : Pin M1 M2 [(0, (fed M2 0 M1.st).2)] := ⟨by simp, fun p hp => by rw [List.mem_singleton.mp hp]; exact G1.pos, fun p hp => by rw [List.mem_singleton.mp hp]; exact f0⟩
  simp at e0
  simp [t__law_piped, e0, z0]
  rw [show D.tup [.int 0, .int ((fed M2 0 M1.st).2 : Nat)] = encQ (0, (fed M2 0 M1.st).2) from rfl]
  generalize hq0 : ((0, (fed M2 0 M1.st).2) : Pq) = q0 at *
  generalize hS : M2.st ++ (fed M2 0 M1.st).1 = SS at *
  refine for0 (Q := fun r => (seqT _ _ _ r).back st = _) (fun i e s => ∃ (ps : List Pq) (rows : List Rw) (t : Store) (k5 k6 k7 k8 k9 k10 k11 k12 k13 k14 : Option D), i = rows.length ∧ rows.length ≤ ps.length ∧ ps.length ≤ 1000 ∧ Pin M1 M2 ps ∧ pvRun true M1 M2 (1000 - rows.length) ps rows = some x ∧
    e = [some (encM M1), some (encM M2), some (.str SS), some (.loc st.length), some (.loc (st.length + 1)), k5, k6, k7, k8, k9, k10, k11, k12, k13, k14] ∧ s = jk (push (push st (.lst (ps.map encQ))) (.lst (rows.map encRow))) t) (fun _ _ _ _ => trivial) ⟨[q0], [], [], none, _, _, none, none, none, none, none, none, none, rfl, by simp, by simp, p0, hx, rfl, by simp [jk_nil]⟩ ?_ ?_
  · rintro i dd e s hd ⟨ps, rows, t, k5, k6, k7, k8, k9, k10, k11, k12, k13, k14, rfl, hl, hp, pin, hr, rfl, rfl⟩
    obtain ⟨hi, rfl⟩ := rng0 hd
    refine ⟨_, rfl, ?_⟩
    by_cases c : rows.length < ps.length
    · obtain ⟨d, hd⟩ : ∃ d, 1000 - rows.length = d + 1 := ⟨1000 - rows.length - 1, by omega⟩
      rw [hd, pvRun, if_pos c] at hr
      have hq : gD ps rows.length ∈ ps := gD_mem c
      have pl := pin.l _ hq
      have pr := pin.r _ hq
      have a1 : atI (ps.map encQ) (rows.length : Int) = some (.tup [.int (gD ps rows.length).1, .int (gD ps rows.length).2]) := atI_map encQ c
      have a2 := row_at pl
      have mvl := G1.mv _ pl
      have mtg := G1.tg _ pl
      have mtx := G1.tx _ pl
      have mfm := F1.tx _ pl
      have ffm := F1.fx _ pl
      have ffl := G1.fx _ pl
      have c' : ¬ (rows.length : Int) = ps.length := by omega
      unfold fin at ffm
      unfold mvAt at mfm
      generalize gD ps rows.length = q at *
      obtain ⟨ql, qr⟩ := q
      dsimp only at *
      have bl : ∀ n, D.belL n ((gD M1.rows ql).1.map encMv) = true := fun n => bel_Vs n _
      simp (disch := trivial) [a1, a2, encRow, c']
      generalize hV : pvMoves true M2 qr (gD M1.rows ql).1 ps [] = V at hr
      cases V with
      | none => cases hr
      | some V =>
      generalize hX : jk (push (push st (C.lst (ps.map encQ))) (C.lst (rows.map encRow))) t = X
      have lX : X.length = st.length + 2 + t.length := by rw [← hX]; simp [jk_len]
      have eL : ∀ a b acc, getL (push (jk (push (push st a) b) t) (C.lst acc)) X.length = some acc := fun a b acc => getL_top (by rw [lX]; simp [jk_len])
      have eA : ∀ a b c, at_ (push (jk (push (push st a) b) t) c) X.length = some c := fun a b c => at_top (by rw [lX]; simp [jk_len])
      have eS : ∀ a b c d, (push (jk (push (push st a) b) t) c).set X.length d = push (jk (push (push st a) b) t) d := fun a b c d => set_top (by rw [lX]; simp [jk_len])
      generalize hms : (gD M1.rows ql).1 = ms at *
      rw [show push X (C.lst []) = push (jk (push (push st (C.lst (ps.map encQ))) (C.lst (rows.map encRow))) t) (C.lst (([] : List Mv).map encMv)) by rw [hX]; rfl]
      generalize X.length = LL at *
      refine for0 (Q := fun r => turnQ _ _ (seqT _ _ _ r)) (fun j e s => ∃ (ps' : List Pq) (acc : List Mv) (k6 k7 k13 k14 : Option D), pvMoves true M2 qr (ms.drop j) ps' acc = some V ∧ acc.length = j ∧ Pin M1 M2 ps' ∧ ps.length ≤ ps'.length ∧ ps'.length ≤ 1000 ∧
        e = [some (encM M1), some (encM M2), some (.str SS), some (.loc st.length), some (.loc (st.length + 1)), some (.int rows.length), k6, k7, some (.loc LL), k9, k10, some (.int ql), some (.int qr), k13, k14] ∧
        s = push (jk (push (push st (.lst (ps'.map encQ))) (.lst (rows.map encRow))) t) (.lst (acc.map encMv))) (fun _ _ _ _ => trivial) ⟨ps, [], k6, k7, k13, k14, hV, rfl, pin, Nat.le_refl _, hp, rfl, rfl⟩ ?_ ?_
      · rintro j d e s hd ⟨ps', acc, k6, k7, k13, k14, hv, hj, pin', hl', hp', rfl, rfl⟩
        obtain ⟨hi, rfl⟩ := map_at hd
        have hi' : j < M1.L.length := by omega
        have x1 := mtg j hi'
        have x2 := mtx j hi'
        have x3 := mfm j hi'
        rw [drop_gD hi] at hv
        generalize gD ms j = mv at *
        obtain ⟨mt, mg⟩ := mv
        have x3' : ∀ c ∈ mt, c ∈ M2.L := fun c hc => by rw [hL]; exact x3 c hc
        have fq := fun st => fe qr pr mt x3' (by dsimp only at x2; omega) st
        obtain ⟨g0, g1⟩ := fed_ok G2 mt qr pr x3'
        unfold pvMoves at hv
        dsimp only at hv x1 x2
        generalize fed M2 qr mt = fd at *
        obtain ⟨ft, fr⟩ := fd
        dsimp only at *
        refine ⟨_, rfl, ?_⟩
        have acl : acc.length < 16777216 := by omega
        have psl : ps'.length < 16777216 := by omega
        by_cases b1 : 1000 < ft.length
        · rw [if_pos ⟨rfl, b1⟩] at hv
          cases hv
        · rw [if_neg (fun z => b1 z.2)] at hv
          have iq := inK_Q (mg, fr)
          dsimp only at iq
          by_cases b2 : (mg, fr) ∈ ps'
          · rw [if_pos b2] at hv
            have dq := indK_Q b2
            dsimp only at dq
            simp [encMv, fq, iq, b2, dq, eL, eS, eA, acl]
            exact ⟨ps', acc ++ [(ft, ps'.idxOf (mg, fr))], hv, by simp [hj], pin', hl', hp', by simp [encMv]⟩
          · rw [if_neg b2] at hv
            by_cases b3 : ps'.length = 1000
            · rw [if_pos ⟨rfl, b3⟩] at hv
              cases hv
            · rw [if_neg (fun z => b3 z.2)] at hv
              have dq := indK_Q (p := (mg, fr)) (ps := ps' ++ [(mg, fr)]) (by simp)
              rw [List.idxOf_append, if_neg b2] at dq
              simp [encQ] at dq
              simp [encMv, fq, iq, b2, dq, eL, eS, eA, acl, psl]
              exact ⟨ps' ++ [(mg, fr)], acc ++ [(ft, ps'.length)], hv, by simp [hj], pin'.add b2 x1 g0, by simp; omega, by simp; omega, by simp [encMv, encQ]⟩
      · rintro e s ⟨ps', acc, k6, k7, k13, k14, hv, hj, pin', hl', hp', rfl, rfl⟩
        rw [List.length_map, List.drop_length, pvMoves_nil] at hv
        cases hv
        dsimp only at hr
        have w2 : ∀ c ∈ (gD M1.rows ql).2.1, c ∈ M2.L := fun c hc => by rw [hL]; exact ffm c hc
        obtain ⟨n1, n2, n3⟩ := finP_len G2 pr w2
        have fb := fun st => fe qr pr (gD M1.rows ql).2.1 w2 (by omega) st
        have a3 := row_at n1
        unfold fin at hr n3
        have rl : rows.length < 16777216 := by omega
        have al2 : acc.length ≤ 16777216 := by rw [hj, List.length_map]; omega
        have z4 : (fed M2 qr (gD M1.rows ql).2.1).1.length + (gD M2.rows (fed M2 qr (gD M1.rows ql).2.1).2).2.1.length ≤ 16777216 := by
          have : B2 * (gD M1.rows ql).2.1.length ≤ 1000 * 2000 := Nat.mul_le_mul hB (by omega)
          omega
        split at hr
        · cases hr
        · have hf : finP M2 qr (gD M1.rows ql).2.1 = ((fed M2 qr (gD M1.rows ql).2.1).1 ++ (gD M2.rows (fed M2 qr (gD M1.rows ql).2.1).2).2.1, (gD M2.rows (fed M2 qr (gD M1.rows ql).2.1).2).2.2) := rfl
          rw [hf] at hr
          generalize fed M2 qr (gD M1.rows ql).2.1 = fp at *
          obtain ⟨fpt, fpi⟩ := fp
          dsimp only at *
          simp (disch := trivial) [a2, a3, encRow, fb, eL, eS, eA, rl, al2, z4]
          exact ⟨ps', rows ++ [(acc, fpt ++ (gD M2.rows fpi).2.1, (gD M2.rows fpi).2.2)], by simp, by simp; omega, hp', pin', by rw [List.length_append, List.length_singleton, show 1000 - (rows.length + 1) = d by omega]; exact hr, t ++ [.lst (acc.map encMv)], by simp [encRow, push_jk]⟩
    · have c' : (rows.length : Int) = ps.length := by omega
      have e1 : pvRun true M1 M2 (1000 - rows.length) ps rows = some (ps, rows) := by
        cases 1000 - rows.length with
        | zero => rfl
        | succ d => rw [pvRun, if_neg c]
      rw [e1] at hr
      cases hr
      have z2 : rows.length ≤ 16777216 := by omega
      simp [c', encM, z2]
  · rintro e s ⟨ps, rows, t, k5, k6, k7, k8, k9, k10, k11, k12, k13, k14, hi, hl, hp, pin, hr, rfl, rfl⟩
    rw [← hi] at hr
    simp at hr
    have hr' : pvRun true M1 M2 0 ps rows = some x := hr
    cases hr'
    have z2 : rows.length ≤ 16777216 := by omega
    simp [encM, z2]
end Lk27
namespace Lk27
open PySem Dk
local macro_rules | `(tactic| trivial) => `(tactic| first | (simp; done) | (simp only [List.length_append, List.length_cons, List.length_nil, List.length_take, List.length_drop, List.length_map, List.length_set, List.length_tail, List.length_dropLast, List.length_mergeSort, List.length_reverse, List.length_replicate, List.length_range, Int.toNat_natCast, Int.reduceToNat]; omega) | omega)
/-! what both tell -/
theorem okD_M {M : Mac} {B : Nat} (G : Good B M) (k : Nat) : okD (k + 5) (encM M) := by
  have al := alpha_len G.al
  refine ⟨by simp, fun d hd => ?_⟩
  simp only [List.mem_cons, List.not_mem_nil, or_false] at hd
  rcases hd with rfl | rfl | rfl
  · trivial
  · trivial
  · refine ⟨by have := G.big; simp; omega, fun d hd => ?_⟩
    obtain ⟨r, hr, rfl⟩ := List.mem_map.mp hd
    obtain ⟨i, hi, rfl⟩ := List.getElem_of_mem hr
    have e := G.mv i hi
    rw [gD_get hi] at e
    refine ⟨by simp, fun d hd => ?_⟩
    simp only [List.mem_cons, List.not_mem_nil, or_false] at hd
    rcases hd with rfl | rfl
    · refine ⟨by rw [List.length_map, e]; omega, fun d hd => ?_⟩
      obtain ⟨m, _, rfl⟩ := List.mem_map.mp hd
      exact okD_si k _ _
    · exact okD_si (k + 1) _ _
theorem mapV_gD {M1 M2 : Mac} {ps : List Pq} {rows : List Rw} (E : Pend M1 M2 ps rows) {i : Nat} (hi : i < rows.length) : RowP M1 M2 ps (gD ps i) (gD rows i) := E.row i hi
/-- the pipe of two machines is a machine -/
theorem both_good {B1 B2 : Nat} {M1 M2 : Mac} (G1 : Good B1 M1) (F1 : Fine M1) (G2 : Good B2 M2) (hL : M2.L = M1.L) {x : List Pq × List Rw} (E : Pend M1 M2 x.1 x.2) (hl : x.2.length = x.1.length) (h0 : 0 < x.2.length) (h1 : x.2.length ≤ 1000) : Good (B2 * B1 + B2) ⟨M1.L, M2.st ++ (fed M2 0 M1.st).1, x.2⟩ where
  al := G1.al
  st := by
    show (M2.st ++ (fed M2 0 M1.st).1).length ≤ _
    have a := (fed_ok G2 M1.st 0 G2.pos (by rw [hL]; exact F1.st)).2
    have b := G2.st
    have c : B2 * M1.st.length ≤ B2 * B1 := Nat.mul_le_mul_left _ G1.st
    rw [List.length_append]; omega
  pos := h0
  big := h1
  mv := fun i hi => by
    have r := E.row i hi
    rw [r.len]
    exact G1.mv _ (E.pin.l _ (gD_mem (by show i < x.1.length; have : i < x.2.length := hi; omega)))
  tg := fun i hi k hk => by
    have r := E.row i hi
    have hp := E.pin.l _ (gD_mem (xs := x.1) (i := i) (by have : i < x.2.length := hi; omega))
    exact Nat.lt_of_lt_of_eq (r.mv k (by rw [G1.mv _ hp]; exact hk)).2.1 hl.symm
  tx := fun i hi k hk => by
    have r := E.row i hi
    have hm := gD_mem (xs := x.1) (i := i) (by have : i < x.2.length := hi; omega)
    have hp := E.pin.l _ hm
    have hq := E.pin.r _ hm
    rw [(r.mv k (by rw [G1.mv _ hp]; exact hk)).1]
    have a := (fed_ok G2 (mvAt M1 (gD x.1 i).1 k).1 _ hq (by rw [hL]; exact F1.tx _ hp k hk)).2
    have c : B2 * (mvAt M1 (gD x.1 i).1 k).1.length ≤ B2 * B1 := Nat.mul_le_mul_left _ (G1.tx _ hp k hk)
    omega
  fx := fun i hi => by
    have r := E.row i hi
    have hm := gD_mem (xs := x.1) (i := i) (by have : i < x.2.length := hi; omega)
    have hp := E.pin.l _ hm
    have hq := E.pin.r _ hm
    rw [r.fx]
    obtain ⟨a, b, c⟩ := finP_len G2 hq (w := (fin M1 (gD x.1 i).1).1) (by rw [hL]; exact F1.fx _ hp)
    have d : B2 * (fin M1 (gD x.1 i).1).1.length ≤ B2 * B1 := Nat.mul_le_mul_left _ (G1.fx _ hp)
    show ((fed M2 _ _).1 ++ (fin M2 _).1).length ≤ _
    rw [List.length_append]; omega
theorem fed_both {B1 B2 : Nat} {M1 M2 : Mac} (G1 : Good B1 M1) (F1 : Fine M1) (G2 : Good B2 M2) (hL : M2.L = M1.L) {x : List Pq × List Rw} (E : Pend M1 M2 x.1 x.2) (hl : x.2.length = x.1.length) (ss : S) : ∀ (t : S) (i : Nat), i < x.1.length → (∀ c ∈ t, c ∈ M1.L) →
    (fed ⟨M1.L, ss, x.2⟩ i t).1 = (fed M2 (gD x.1 i).2 (fed M1 (gD x.1 i).1 t).1).1 ∧ (fed ⟨M1.L, ss, x.2⟩ i t).2 < x.1.length ∧
    gD x.1 (fed ⟨M1.L, ss, x.2⟩ i t).2 = ((fed M1 (gD x.1 i).1 t).2, (fed M2 (gD x.1 i).2 (fed M1 (gD x.1 i).1 t).1).2)
  | [], i, hi, _ => ⟨rfl, hi, rfl⟩
  | c :: t, i, hi, h => by
    have hc := idx_lt (h c (by simp))
    have hm := gD_mem hi
    have hp := E.pin.l _ hm
    have hr := E.row i (by omega)
    obtain ⟨m1, m2, m3⟩ := hr.mv (M1.L.idxOf c) (by rw [G1.mv _ hp]; exact hc)
    have ih := fed_both G1 F1 G2 hL E hl ss t (gD (gD x.2 i).1 (M1.L.idxOf c)).2 m2 (fun d hd => h d (List.mem_cons_of_mem _ hd))
    rw [m3] at ih
    dsimp only at ih
    rw [fed_cons, fed_cons, fed_app]
    have e : mvAt ⟨M1.L, ss, x.2⟩ i (M1.L.idxOf c) = gD (gD x.2 i).1 (M1.L.idxOf c) := rfl
    rw [e, m1]
    exact ⟨by rw [ih.1], ih.2.1, ih.2.2⟩
theorem told_both {B1 B2 : Nat} {M1 M2 : Mac} (G1 : Good B1 M1) (F1 : Fine M1) (G2 : Good B2 M2) (hL : M2.L = M1.L) {x : List Pq × List Rw} (E : Pend M1 M2 x.1 x.2) (hl : x.2.length = x.1.length) {t0 : List Pq} (h0 : x.1 = (0, (fed M2 0 M1.st).2) :: t0) (t : S) (ht : ∀ c ∈ t, c ∈ M1.L) :
    told ⟨M1.L, M2.st ++ (fed M2 0 M1.st).1, x.2⟩ t = told M2 (told M1 t).1 := by
  have g0 : gD x.1 0 = (0, (fed M2 0 M1.st).2) := by rw [h0]; rfl
  have l0 : 0 < x.1.length := by rw [h0]; simp
  obtain ⟨f1, f2, f3⟩ := fed_both G1 F1 G2 hL E hl (M2.st ++ (fed M2 0 M1.st).1) t 0 l0 ht
  rw [g0] at f1 f3
  dsimp only at f1 f3
  have hx := (E.row _ (by rw [hl]; exact f2)).fx
  rw [f3] at hx
  have hf : fin ⟨M1.L, M2.st ++ (fed M2 0 M1.st).1, x.2⟩ (fed ⟨M1.L, M2.st ++ (fed M2 0 M1.st).1, x.2⟩ 0 t).2 = finP M2 (fed M2 (fed M2 0 M1.st).2 (fed M1 0 t).1).2 (fin M1 (fed M1 0 t).2).1 := hx
  have a1 : (fed M2 0 (M1.st ++ (fed M1 0 t).1)).1 = (fed M2 0 M1.st).1 ++ (fed M2 (fed M2 0 M1.st).2 (fed M1 0 t).1).1 := by rw [fed_app]
  have a2 : (fed M2 0 (M1.st ++ (fed M1 0 t).1)).2 = (fed M2 (fed M2 0 M1.st).2 (fed M1 0 t).1).2 := by rw [fed_app]
  unfold told
  dsimp only
  rw [hf, f1]
  unfold finP
  dsimp only
  rw [fed_app M2 (M1.st ++ (fed M1 0 t).1), a1, a2]
  dsimp only
  simp only [List.append_assoc]
/-! errors of pipes -/
theorem piped_letters (n : Nat) {M1 M2 : Mac} (h : M1.L ≠ M2.L) (st : Store) : callF P (n + 1) 11 [encM M1, encM M2] st = .exc 2 [(1, .str M2.L)] st := by
  rw [c_piped]
  simp [t_piped, h, P_xf, xfs]
theorem pipe_err_l (n : Nat) {M1 M2 : Mac} (h : M1.L ≠ M2.L) (st : Store) : callF P (n + 2) 25 [encM M1, encM M2] st = .ok (.tup [.str [108, 101, 116, 116, 101, 114, 115], .str M2.L]) st := by
  have e := fun st => piped_letters n h st
  rw [c__law_pipe_error]
  simp (disch := trivial) [t__law_pipe_error, e, P_xf, xfs, P_sub, anc]
theorem pipe_err_m (n : Nat) {M1 M2 : Mac} (h : ∀ st, callF P (n + 1) 11 [encM M1, encM M2] st = .exc 1 [(0, .int 1000)] st) (st : Store) : callF P (n + 2) 25 [encM M1, encM M2] st = .ok (.tup [.str [109, 97, 110, 121], .int 1000]) st := by
  rw [c__law_pipe_error]
  simp (disch := trivial) [t__law_pipe_error, h, P_xf, xfs, P_sub, anc]
theorem piped_long (n : Nat) {B1 B2 : Nat} (hB : B2 ≤ 1000) (hB1 : B1 ≤ 2000) {M1 M2 : Mac} (G1 : Good B1 M1) (F1 : Fine M1) (G2 : Good B2 M2) (hL : M2.L = M1.L) (h1 : 1000 < (M2.st ++ (fed M2 0 M1.st).1).length) (st : Store) :
    callF P (n + 3) 11 [encM M1, encM M2] st = .exc 1 [(0, .int 1000)] st := by
  rw [c_piped]
  have st2 : ∀ c ∈ M1.st, c ∈ M2.L := by rw [hL]; exact F1.st
  have l1 := G1.st
  have l2 := G2.st
  have e0 := fun st => feed_ok (n + 1) hB G2 0 G2.pos M1.st st2 (by omega) st
  obtain ⟨f0, f1⟩ := fed_ok G2 M1.st 0 G2.pos st2
  have ct := fun t st => check_told_ok (n + 1) t st
  have b1 : B2 * M1.st.length ≤ 1000 * 2000 := Nat.mul_le_mul hB (by omega)
  have z0 : M2.st.length + (fed M2 0 M1.st).1.length ≤ 16777216 := by omega
  have h1' : 1000 < M2.st.length + (fed M2 0 M1.st).1.length := by rw [List.length_append] at h1; omega
  simp at e0
  simp [t_piped, hL, e0, z0, ct, h1']
/-! long pipes -/
def lp1 (t0 t1 t2 : S) : Mac := ⟨[97], t0, [([(t1, 0)], (t2, 0))]⟩
def lp2 (k : Nat) (s : Int) : Mac := ⟨[97], [], [([(List.replicate k 97, 0)], ([], s))]⟩
theorem e_lp1 (t0 t1 t2 : S) : encM (lp1 t0 t1 t2) = .tup [.str [97], .str t0, .tup [.tup [.tup [.tup [.str t1, .int 0]], .tup [.str t2, .int 0]]]] := (rfl)
theorem e_lp2 (k : Nat) (s : Int) : encM (lp2 k s) = .tup [.str [97], .str [], .tup [.tup [.tup [.tup [.str (List.replicate k 97), .int 0]], .tup [.str [], .int s]]]] := (rfl)
theorem alpha_a : isAlpha [97] = true := by decide
theorem lt_one {i : Nat} (h : i < [(([] : List Mv), (([] : S), (0 : Int)))].length) : i = 0 := by simp at h; exact h
theorem good_lp1 {B : Nat} {t0 t1 t2 : S} (h0 : t0.length ≤ B) (h1 : t1.length ≤ B) (h2 : t2.length ≤ B) : Good B (lp1 t0 t1 t2) :=
  good_of alpha_a h0 (by simp) (by simp) fun r hr => by
    rw [List.mem_singleton.mp hr]
    exact ⟨rfl, fun k hk => by have : k = 0 := by simpa using hk
                               subst this; exact Nat.zero_lt_one, fun k hk => by have : k = 0 := by simpa using hk
                                                                                 subst this; exact h1, h2⟩
theorem good_lp2 {k : Nat} (s : Int) : Good k (lp2 k s) :=
  good_of alpha_a (by simp) (by simp) (by simp) fun r hr => by
    rw [List.mem_singleton.mp hr]
    exact ⟨rfl, fun k hk => by have : k = 0 := by simpa using hk
                               subst this; exact Nat.zero_lt_one, fun j hk => by have : j = 0 := by simpa using hk
                                                                                 subst this; show (List.replicate k 97).length ≤ k; simp, by simp⟩
theorem fine_lp1 {t0 t1 t2 : S} (h0 : ∀ c ∈ t0, c = 97) (h1 : ∀ c ∈ t1, c = 97) (h2 : ∀ c ∈ t2, c = 97) : Fine (lp1 t0 t1 t2) where
  st := fun c hc => List.mem_singleton.mpr (h0 c hc)
  tx := fun i hi k hk c hc => by
    have : i = 0 := by simpa [lp1] using hi
    subst this
    have : k = 0 := by simpa [lp1] using hk
    subst this
    exact List.mem_singleton.mpr (h1 c hc)
  fx := fun i hi c hc => by
    have : i = 0 := by simpa [lp1] using hi
    subst this
    exact List.mem_singleton.mpr (h2 c hc)
  sta := fun i hi => by
    have : i = 0 := by simpa [lp1] using hi
    subst this
    exact ⟨Int.le_refl _, (by decide : (0 : Int) ≤ 9)⟩
theorem fed_lp2 (k : Nat) (s : Int) : ∀ m : Nat, fed (lp2 k s) 0 (List.replicate m 97) = (List.replicate (k * m) 97, 0)
  | 0 => rfl
  | m + 1 => by
    rw [List.replicate_succ, fed_cons]
    have e : mvAt (lp2 k s) 0 ((lp2 k s).L.idxOf 97) = (List.replicate k 97, 0) := rfl
    rw [e]
    dsimp only
    rw [fed_lp2 k s m]
    dsimp only
    rw [List.replicate_append_replicate, Nat.mul_succ, Nat.add_comm]
theorem pvMoves_le {M2 : Mac} {r : Nat} : ∀ {ms : List Mv} {ps : List Pq} {acc : List Mv} {x : List Pq × List Mv}, ps.length ≤ 1000 → pvMoves true M2 r ms ps acc = some x → x.1.length ≤ 1000
  | [], ps, acc, x, h, e => by cases e; exact h
  | m :: ms, ps, acc, x, h, e => by
    unfold pvMoves at e
    split at e
    · cases e
    · split at e
      · exact pvMoves_le h e
      · split at e
        · cases e
        · rename_i c
          exact pvMoves_le (by rw [List.length_append, List.length_singleton]; have : ¬ ps.length = 1000 := fun z => c ⟨rfl, z⟩; omega) e
theorem pvRun_le {M1 M2 : Mac} : ∀ {n : Nat} {ps : List Pq} {rows : List Rw} {x : List Pq × List Rw}, ps.length ≤ 1000 → pvRun true M1 M2 n ps rows = some x → x.1.length ≤ 1000
  | 0, ps, rows, x, h, e => by cases e; exact h
  | n + 1, ps, rows, x, h, e => by
    unfold pvRun at e
    split at e
    · cases q : pvMoves true M2 (gD ps rows.length).2 (gD M1.rows (gD ps rows.length).1).1 ps [] with
      | none => rw [q] at e; cases e
      | some y =>
        rw [q] at e
        dsimp only at e
        split at e
        · cases e
        · exact pvRun_le (pvMoves_le h q) e
    · cases e; exact h
/-- what comes of a pipe that comes to an end -/
theorem both_of {B1 B2 : Nat} {M1 M2 : Mac} (G1 : Good B1 M1) (F1 : Fine M1) (G2 : Good B2 M2) (hL : M2.L = M1.L) {x : List Pq × List Rw} (hx : pvRun true M1 M2 1000 [(0, (fed M2 0 M1.st).2)] [] = some x) :
    Good (B2 * B1 + B2) ⟨M1.L, M2.st ++ (fed M2 0 M1.st).1, x.2⟩ ∧ ∀ t : S, (∀ c ∈ t, c ∈ M1.L) → told ⟨M1.L, M2.st ++ (fed M2 0 M1.st).1, x.2⟩ t = told M2 (told M1 t).1 := by
  obtain ⟨f0, _⟩ := fed_ok G2 M1.st 0 G2.pos (by rw [hL]; exact F1.st)
  have P0 : Pend M1 M2 [(0, (fed M2 0 M1.st).2)] [] := ⟨⟨by simp, fun p hp => by rw [List.mem_singleton.mp hp]; exact G1.pos, fun p hp => by rw [List.mem_singleton.mp hp]; exact f0⟩, fun i hi => by simp at hi⟩
  have le : x.1.length ≤ 1000 := pvRun_le (by simp) hx
  obtain ⟨⟨t, e1⟩, e2, e3⟩ := pvRun_ok G1 F1 G2 hL (by simp) (by simp) (fun y hy => pvRun_le (by simp) hy) P0 hx
  rw [List.singleton_append] at e1
  have l0 : 0 < x.1.length := by rw [e1]; simp
  exact ⟨both_good G1 F1 G2 hL e2 e3 (by omega) (by omega), fun t ht => told_both G1 F1 G2 hL e2 e3 e1 t ht⟩
theorem pvRun_no1 {M1 M2 : Mac} {q0 : Pq} (h : pvMoves true M2 q0.2 (gD M1.rows q0.1).1 [q0] [] = none) (n : Nat) : pvRun true M1 M2 (n + 1) [q0] [] = none := by
  unfold pvRun
  rw [if_pos (by simp)]
  have e : gD [q0] ([] : List Rw).length = q0 := rfl
  rw [e, h]
theorem pvRun_no2 {M1 M2 : Mac} {q0 : Pq} {y : List Pq × List Mv} (h : pvMoves true M2 q0.2 (gD M1.rows q0.1).1 [q0] [] = some y) (h2 : 1000 < (finP M2 q0.2 (fin M1 q0.1).1).1.length) (n : Nat) : pvRun true M1 M2 (n + 1) [q0] [] = none := by
  unfold pvRun
  rw [if_pos (by simp)]
  have e : gD [q0] ([] : List Rw).length = q0 := rfl
  rw [e, h]
  exact if_pos ⟨rfl, h2⟩
theorem lp_many_w (n : Nat) {w w' : S} (m97 : ∀ c ∈ w, c = 97) (lw : w.length ≤ 143) (s : Int) (fl : fed (lp2 7 s) 0 w = (w', 0)) (lw' : w'.length = 1001) (i : Nat) (hi : i < 3) (st : Store) : callF P (n + 3) 11 [encM (lp1 (if i = 0 then w else []) (if i = 1 then w else []) (if i = 2 then w else [])), encM (lp2 7 s)] st = .exc 1 [(0, .int 1000)] st := by
  have m0 : ∀ c ∈ ([] : S), c = 97 := fun c hc => nomatch hc
  have l0 : ([] : S).length ≤ 143 := by simp
  have h3 : i = 0 ∨ i = 1 ∨ i = 2 := by omega
  have s0 : ([] ++ ([] : S)).length ≤ 1000 := by simp
  rcases h3 with rfl | rfl | rfl
  · refine piped_long n (B1 := 143) (by omega) (by omega) (good_lp1 lw l0 l0) (fine_lp1 m97 m0 m0) (good_lp2 s) rfl ?_ st
    show 1000 < ([] ++ (fed (lp2 7 s) 0 w).1).length
    rw [fl, List.nil_append, lw']; omega
  · show callF P (n + 3) 11 [encM (lp1 [] w []), encM (lp2 7 s)] st = _
    have pn := pvRun_no1 (M1 := lp1 [] w []) (M2 := lp2 7 s) (q0 := (0, 0)) (by
      show pvMoves true (lp2 7 s) 0 [(w, 0)] [(0, 0)] [] = none
      unfold pvMoves
      exact if_pos ⟨rfl, by rw [fl]; show 1000 < w'.length; omega⟩) 999
    rw [piped_ok n (B1 := 143) (B2 := 7) (by omega) (by omega) (good_lp1 l0 lw l0) (fine_lp1 m0 m97 m0) (good_lp2 s) rfl s0]
    show resW st _ _ (pvRun true (lp1 [] w []) (lp2 7 s) (999 + 1) [(0, 0)] []) = _
    rw [pn]; rfl
  · show callF P (n + 3) 11 [encM (lp1 [] [] w), encM (lp2 7 s)] st = _
    have pn := pvRun_no2 (M1 := lp1 [] [] w) (M2 := lp2 7 s) (q0 := (0, 0)) (y := ([(0, 0)], [([], 0)])) rfl (by
      show 1000 < ((fed (lp2 7 s) 0 w).1 ++ (fin (lp2 7 s) (fed (lp2 7 s) 0 w).2).1).length
      rw [fl, List.length_append]
      show 1000 < w'.length + _
      omega) 999
    rw [piped_ok n (B1 := 143) (B2 := 7) (by omega) (by omega) (good_lp1 l0 l0 lw) (fine_lp1 m0 m0 m97) (good_lp2 s) rfl s0]
    show resW st _ _ (pvRun true (lp1 [] [] w) (lp2 7 s) (999 + 1) [(0, 0)] []) = _
    rw [pn]; rfl
theorem lp_many (n : Nat) (i : Nat) (hi : i < 3) (s : Int) (st : Store) : callF P (n + 3) 11 [encM (lp1 (if i = 0 then List.replicate 143 97 else []) (if i = 1 then List.replicate 143 97 else []) (if i = 2 then List.replicate 143 97 else [])), encM (lp2 7 s)] st = .exc 1 [(0, .int 1000)] st :=
  lp_many_w n (fun c hc => (List.mem_replicate.mp hc).2) (by rw [List.length_replicate]; omega) s (fed_lp2 7 s 143) (by rw [List.length_replicate]) i hi st
theorem lp_due (n : Nat) (i : Nat) (s : Int) : ∃ M B, Good B M ∧ (∀ st, callF P (n + 3) 11 [encM (lp1 (if i = 0 then List.replicate 125 97 else []) (if i = 1 then List.replicate 125 97 else []) (if i = 2 then List.replicate 125 97 else [])), encM (lp2 8 s)] st = .ok (encM M) st) ∧
    ∀ st, callF P (n + 3) 20 [encM (lp1 (if i = 0 then List.replicate 125 97 else []) (if i = 1 then List.replicate 125 97 else []) (if i = 2 then List.replicate 125 97 else [])), encM (lp2 8 s)] st = .ok (encM M) st := by
  have key : ∀ t : S, (∃ m, m ≤ 125 ∧ t = List.replicate m 97) → (∀ c ∈ t, c = 97) ∧ t.length ≤ 125 ∧ (fed (lp2 8 s) 0 t).1.length ≤ 1000 ∧ (fed (lp2 8 s) 0 t).2 = 0 := by
    rintro t ⟨m, hm, rfl⟩
    exact ⟨fun c hc => (List.mem_replicate.mp hc).2, by rw [List.length_replicate]; omega, by rw [fed_lp2, List.length_replicate]; omega, by rw [fed_lp2]⟩
  have two : ∀ p : Prop, [Decidable p] → ∃ m, m ≤ 125 ∧ (if p then List.replicate 125 97 else []) = List.replicate m 97 := fun p _ => by
    by_cases h : p
    · exact ⟨125, by omega, if_pos h⟩
    · exact ⟨0, by omega, if_neg h⟩
  obtain ⟨a1, a2, a3, a4⟩ := key _ (two (i = 0))
  obtain ⟨b1, b2, b3, b4⟩ := key _ (two (i = 1))
  obtain ⟨c1, c2, c3, c4⟩ := key _ (two (i = 2))
  generalize (if i = 0 then List.replicate 125 97 else []) = t0 at *
  generalize (if i = 1 then List.replicate 125 97 else []) = t1 at *
  generalize (if i = 2 then List.replicate 125 97 else []) = t2 at *
  have G1 := good_lp1 a2 b2 c2
  have F1 := fine_lp1 a1 b1 c1
  have G2 := good_lp2 (k := 8) s
  have h1 : ((lp2 8 s).st ++ (fed (lp2 8 s) 0 (lp1 t0 t1 t2).st).1).length ≤ 1000 := a3
  obtain ⟨x, hx⟩ := pvRun_some G1 F1 G2 rfl (show 1 * 1 ≤ 1000 by omega) (fun i hi r hr k hk => by
    have : i = 0 := by simpa [lp1] using hi
    subst this
    have : k = 0 := by simpa [lp1] using hk
    subst this
    have : r = 0 := by simpa [lp2] using hr
    subst this
    exact b3) (fun i hi r hr => by
    have : i = 0 := by simpa [lp1] using hi
    subst this
    have : r = 0 := by simpa [lp2] using hr
    subst this
    show ((fed (lp2 8 s) 0 t2).1 ++ (fin (lp2 8 s) (fed (lp2 8 s) 0 t2).2).1).length ≤ 1000
    rw [c4]
    show ((fed (lp2 8 s) 0 t2).1 ++ []).length ≤ 1000
    rw [List.append_nil]; exact c3) 1000 (ps := [(0, (fed (lp2 8 s) 0 t0).2)]) (rows := []) ⟨by simp, fun p hp => by rw [List.mem_singleton.mp hp]; exact G1.pos, fun p hp => by rw [List.mem_singleton.mp hp, a4]; exact G2.pos⟩
  have q1 := fun st => piped_ok n (by omega) (by omega) G1 F1 G2 rfl h1 st
  have q2 := fun st => law_piped_ok (n + 1) (by omega) (by omega) G1 F1 G2 rfl h1 (x := x) hx st
  have hx' : pvRun true (lp1 t0 t1 t2) (lp2 8 s) 1000 [(0, (fed (lp2 8 s) 0 (lp1 t0 t1 t2).st).2)] [] = some x := hx
  rw [hx'] at q1
  exact ⟨_, _, (both_of G1 F1 G2 rfl hx).1, q1, q2⟩
theorem set3_0 (n : Nat) (v a b c : D) (st : Store) (m : Option Store) : setK n 0 v st m (some [a, b, c]) = some (st.set n (.lst [v, b, c])) := (rfl)
theorem set3_1 (n : Nat) (v a b c : D) (st : Store) (m : Option Store) : setK n 1 v st m (some [a, b, c]) = some (st.set n (.lst [a, v, c])) := (rfl)
theorem set3_2 (n : Nat) (v a b c : D) (st : Store) (m : Option Store) : setK n 2 v st m (some [a, b, c]) = some (st.set n (.lst [a, b, v])) := (rfl)
theorem long_ok (n : Nat) (x : Int) (hx : 0 ≤ x) (st : Store) : callF P (n + 8) 26 [.int x] st = .ok (.bl true) st := by
  rw [c__law_long_pipe]
  generalize hs : x / 6 % 10 = s
  have s10 : s.natAbs < 18446744073709551616 := by omega
  have h3 : x / 2 % 3 = 0 ∨ x / 2 % 3 = 1 ∨ x / 2 % 3 = 2 := by omega
  have h2 : x % 2 = 0 ∨ x % 2 = 1 := by omega
  have sm2 := fun st => same_ok 1 (n + 5) (.tup [.str [109, 97, 110, 121], .int 1000]) (okD_si 0 _ _) st
  have a0 := lp_due (n + 4) 0 s
  have a1 := lp_due (n + 4) 1 s
  have a2 := lp_due (n + 4) 2 s
  have m0 := fun st => pipe_err_m (n + 5) (lp_many (n + 3) 0 (by omega) s) st
  have m1 := fun st => pipe_err_m (n + 5) (lp_many (n + 3) 1 (by omega) s) st
  have m2 := fun st => pipe_err_m (n + 5) (lp_many (n + 3) 2 (by omega) s) st
  simp only [e_lp1, e_lp2] at a0 a1 a2 m0 m1 m2
  have r1 := rep_single 97 8
  have r2 := rep_single 97 125
  have r3 := rep_single 97 7
  have r4 := rep_single 97 143
  generalize List.replicate 8 97 = w1 at *
  generalize List.replicate 125 97 = w2 at *
  generalize List.replicate 7 97 = w3 at *
  generalize List.replicate 143 97 = w4 at *
  simp at a0 a1 a2 m0 m1 m2
  rcases h2 with h2 | h2
  · rcases h3 with h3 | h3 | h3
    · obtain ⟨M, ⟨B, G⟩, e1, e2⟩ := a0
      have sm := fun st => same_ok 5 (n + 1) (encM M) (okD_M G 0) st
      simp [t__law_long_pipe, h2, h3, hs, r1, r2, set3_0, e1, e2, sm]
    · obtain ⟨M, ⟨B, G⟩, e1, e2⟩ := a1
      have sm := fun st => same_ok 5 (n + 1) (encM M) (okD_M G 0) st
      simp [t__law_long_pipe, h2, h3, hs, r1, r2, set3_1, e1, e2, sm]
    · obtain ⟨M, ⟨B, G⟩, e1, e2⟩ := a2
      have sm := fun st => same_ok 5 (n + 1) (encM M) (okD_M G 0) st
      simp [t__law_long_pipe, h2, h3, hs, r1, r2, set3_2, e1, e2, sm]
  · rcases h3 with h3 | h3 | h3
    · simp [t__law_long_pipe, h2, h3, hs, r3, r4, set3_0, m0, sm2]
    · simp [t__law_long_pipe, h2, h3, hs, r3, r4, set3_1, m1, sm2]
    · simp [t__law_long_pipe, h2, h3, hs, r3, r4, set3_2, m2, sm2]
end Lk27
namespace Lk27
open PySem Dk
local macro_rules | `(tactic| trivial) => `(tactic| first | (simp; done) | (simp only [List.length_append, List.length_cons, List.length_nil, List.length_take, List.length_drop, List.length_map, List.length_set, List.length_tail, List.length_dropLast, List.length_mergeSort, List.length_reverse, List.length_replicate, List.length_range, Int.toNat_natCast, Int.reduceToNat]; omega) | omega)
/-! rings -/
def rgR (c m : Nat) (k : Nat) : Rw := ([([97], (k + 1) % c)], ([], ((k % m : Nat) : Int)))
def rgM (c m : Nat) : Mac := ⟨[97], [], (List.range c).map (rgR c m)⟩
theorem rg_len (c m : Nat) : (rgM c m).rows.length = c := by simp [rgM]
theorem gD_range {α : Type} [Inhabited α] (f : Nat → α) {n i : Nat} (h : i < n) : gD ((List.range n).map f) i = f i := by
  rw [gD_get (by simpa using h)]; simp
theorem rg_row {c m i : Nat} (h : i < c) : gD (rgM c m).rows i = rgR c m i := gD_range _ h
theorem rg_good {c m : Nat} (h0 : 0 < c) (h1 : c ≤ 1000) : Good 1 (rgM c m) :=
  good_of alpha_a (by simp) (by simpa using h0) (by simpa using h1) fun r hr => by
    obtain ⟨k, hk, rfl⟩ := List.mem_map.mp hr
    refine ⟨rfl, fun j hj => ?_, fun j hj => ?_, by simp [rgR]⟩
    · have : j = 0 := by simpa using hj
      subst this
      show (k + 1) % c < _
      simp only [List.length_map, List.length_range]
      exact Nat.mod_lt _ h0
    · have : j = 0 := by simpa using hj
      subst this
      show ([97] : S).length ≤ 1
      simp
theorem rg_fine {c m : Nat} (hm : 0 < m) (h9 : m ≤ 10) : Fine (rgM c m) where
  st := fun c hc => nomatch hc
  tx := fun i hi k hk d hd => by
    have hi' : i < c := by rw [rg_len] at hi; exact hi
    have : k = 0 := by simpa [rgM] using hk
    subst this
    unfold mvAt at hd
    rw [rg_row hi'] at hd
    exact hd
  fx := fun i hi d hd => by
    have hi' : i < c := by rw [rg_len] at hi; exact hi
    unfold fin at hd
    rw [rg_row hi'] at hd
    exact nomatch hd
  sta := fun i hi => by
    have hi' : i < c := by rw [rg_len] at hi; exact hi
    unfold fin
    rw [rg_row hi']
    show (0 : Int) ≤ ((i % m : Nat) : Int) ∧ ((i % m : Nat) : Int) ≤ 9
    have := Nat.mod_lt i hm
    omega
theorem ring_ok (n : Nat) {c m : Nat} (h0 : 0 < c) (h1 : c ≤ 1000) (hm : 0 < m) (h9 : m ≤ 10) (st : Store) : callF P (n + 1) 27 [.int c, .int m] st = .ok (encM (rgM c m)) st := by
  rw [c__law_ring]
  have ar : argI (.int (c : Int)) = some (c : Int) := argI_nat (by omega)
  have lm : (c : Int) < 1073741824 := by omega
  have lm2 : (m : Int) < 1073741824 := by omega
  simp [t__law_ring, ar]
  rw [rangeD_map, lcL_enc (fun k : Nat => D.int (k : Int)) (fun k => encRow (rgR c m k)) ?o _ ?b ?z]
  case o => trivial
  case z => rw [sz_lit]; simp; omega
  case b =>
    intro k hk
    simp [h0, hm, lm, lm2, encRow, encMv, rgR]
  have bl : ((List.range c).map fun k => encRow (rgR c m k)) = ((List.range c).map (rgR c m)).map encRow := by rw [List.map_map]; rfl
  rw [bl]
  have l2 : c ≤ 16777216 := by omega
  unfold rgM
  generalize hg : (List.range c).map (rgR c m) = rows at *
  have lr : rows.length = c := by rw [← hg]; simp
  simp [lr, l2, encM]
def rgF (c1 c2 : Nat) (k : Nat) : Pq := (k % c1, k % c2)
def rgG (N c2 m : Nat) (k : Nat) : Rw := ([([97], (k + 1) % N)], ([], ((k % c2 % m : Nat) : Int)))
def FF (c1 c2 n : Nat) : List Pq := (List.range n).map (rgF c1 c2)
def GG (N c2 m n : Nat) : List Rw := (List.range n).map (rgG N c2 m)
theorem FF_len (c1 c2 n : Nat) : (FF c1 c2 n).length = n := by simp [FF]
theorem GG_len (N c2 m n : Nat) : (GG N c2 m n).length = n := by simp [GG]
theorem FF_s (c1 c2 n : Nat) : FF c1 c2 (n + 1) = FF c1 c2 n ++ [rgF c1 c2 n] := by simp [FF, List.range_succ]
theorem GG_s (N c2 m n : Nat) : GG N c2 m (n + 1) = GG N c2 m n ++ [rgG N c2 m n] := by simp [GG, List.range_succ]
theorem rg_fed {c2 m r : Nat} (h : r < c2) : fed (rgM c2 m) r [97] = ([97], (r + 1) % c2) := by
  rw [fed_cons]
  have e : mvAt (rgM c2 m) r ((rgM c2 m).L.idxOf 97) = ([97], (r + 1) % c2) := by
    have : (rgM c2 m).L.idxOf 97 = 0 := rfl
    rw [this]
    unfold mvAt
    rw [rg_row h]; rfl
  rw [e, fed_nil]; rfl
/-- a turn of the rings -/
theorem rg_mv {c1 c2 m1 m2 j : Nat} (h1 : 0 < c1) (h2 : 0 < c2) : pvMoves true (rgM c2 m2) (rgF c1 c2 j).2 (gD (rgM c1 m1).rows (rgF c1 c2 j).1).1 (FF c1 c2 (j + 1)) [] =
    if rgF c1 c2 (j + 1) ∈ FF c1 c2 (j + 1) then some (FF c1 c2 (j + 1), [([97], (FF c1 c2 (j + 1)).idxOf (rgF c1 c2 (j + 1)))]) else if j + 1 = 1000 then none else some (FF c1 c2 (j + 2), [([97], j + 1)]) := by
  have l1 : (rgF c1 c2 j).1 < c1 := Nat.mod_lt _ h1
  have l2 : (rgF c1 c2 j).2 < c2 := Nat.mod_lt _ h2
  rw [rg_row l1]
  show pvMoves true _ _ [([97], ((rgF c1 c2 j).1 + 1) % c1)] _ _ = _
  have e1 : (((rgF c1 c2 j).1 + 1) % c1, ((rgF c1 c2 j).2 + 1) % c2) = rgF c1 c2 (j + 1) := by
    show ((j % c1 + 1) % c1, (j % c2 + 1) % c2) = ((j + 1) % c1, (j + 1) % c2)
    rw [Nat.mod_add_mod, Nat.mod_add_mod]
  unfold pvMoves
  dsimp only
  rw [rg_fed l2]
  dsimp only
  rw [if_neg (fun z => by have := z.2; simp at this), e1, FF_len]
  by_cases c : rgF c1 c2 (j + 1) ∈ FF c1 c2 (j + 1)
  · rw [if_pos c, if_pos c, pvMoves_nil]; rfl
  · rw [if_neg c, if_neg c]
    by_cases d : j + 1 = 1000
    · rw [if_pos d, if_pos ⟨rfl, d⟩]
    · rw [if_neg d, if_neg (fun z => d z.2), pvMoves_nil, FF_s c1 c2 (j + 1)]; rfl
theorem rg_fin {c1 c2 m1 m2 j : Nat} (h1 : 0 < c1) (h2 : 0 < c2) : finP (rgM c2 m2) (rgF c1 c2 j).2 (fin (rgM c1 m1) (rgF c1 c2 j).1).1 = ([], ((j % c2 % m2 : Nat) : Int)) := by
  have l1 : (rgF c1 c2 j).1 < c1 := Nat.mod_lt _ h1
  have l2 : (rgF c1 c2 j).2 < c2 := Nat.mod_lt _ h2
  have e : fin (rgM c1 m1) (rgF c1 c2 j).1 = ([], (((rgF c1 c2 j).1 % m1 : Nat) : Int)) := by unfold fin; rw [rg_row l1]; rfl
  rw [e]
  unfold finP
  dsimp only
  rw [fed_nil]
  have e2 : fin (rgM c2 m2) (rgF c1 c2 j).2 = ([], (((rgF c1 c2 j).2 % m2 : Nat) : Int)) := by unfold fin; rw [rg_row l2]; rfl
  dsimp only
  rw [e2]; rfl
theorem rg_step {c1 c2 m1 m2 j : Nat} (h1 : 0 < c1) (h2 : 0 < c2) (d : Nat) {rows : List Rw} (hr : rows.length = j) : pvRun true (rgM c1 m1) (rgM c2 m2) (d + 1) (FF c1 c2 (j + 1)) rows =
    if rgF c1 c2 (j + 1) ∈ FF c1 c2 (j + 1) then pvRun true (rgM c1 m1) (rgM c2 m2) d (FF c1 c2 (j + 1)) (rows ++ [([([97], (FF c1 c2 (j + 1)).idxOf (rgF c1 c2 (j + 1)))], ([], ((j % c2 % m2 : Nat) : Int)))]) else if j + 1 = 1000 then none
    else pvRun true (rgM c1 m1) (rgM c2 m2) d (FF c1 c2 (j + 2)) (rows ++ [([([97], j + 1)], ([], ((j % c2 % m2 : Nat) : Int)))]) := by
  rw [pvRun, if_pos (by rw [FF_len]; omega), hr]
  have g : gD (FF c1 c2 (j + 1)) j = rgF c1 c2 j := gD_range _ (by omega)
  rw [g, rg_mv h1 h2, rg_fin h1 h2]
  have nl : ¬ (true = true ∧ 1000 < ([] : S).length) := fun z => by have := z.2; simp at this
  by_cases c : rgF c1 c2 (j + 1) ∈ FF c1 c2 (j + 1)
  · rw [if_pos c, if_pos c]
    dsimp only
    rw [if_neg nl]
  · rw [if_neg c, if_neg c]
    by_cases e : j + 1 = 1000
    · rw [if_pos e, if_pos e]
    · rw [if_neg e, if_neg e]
      dsimp only
      rw [if_neg nl]
theorem FF_mem {c1 c2 n : Nat} {p : Pq} (h : p ∈ FF c1 c2 n) : ∃ k, k < n ∧ p = rgF c1 c2 k := by
  obtain ⟨k, hk, rfl⟩ := List.mem_map.mp h
  exact ⟨k, List.mem_range.mp hk, rfl⟩
/-- up to the last turn -/
theorem rg_run {c1 c2 m1 m2 N : Nat} (h1 : 0 < c1) (h2 : 0 < c2) (hN : 1000 ≤ N) (inj : ∀ i j, i < j → j < N → rgF c1 c2 j ≠ rgF c1 c2 i) : ∀ (d j : Nat), j + d = 999 → pvRun true (rgM c1 m1) (rgM c2 m2) (d + 1) (FF c1 c2 (j + 1)) (GG N c2 m2 j) = pvRun true (rgM c1 m1) (rgM c2 m2) 1 (FF c1 c2 1000) (GG N c2 m2 999)
  | 0, j, h => by
    have : j = 999 := by omega
    subst this; rfl
  | d + 1, j, h => by
    rw [rg_step h1 h2 (d + 1) (GG_len _ _ _ _), if_neg (fun z => by
      obtain ⟨k, hk, e⟩ := FF_mem z
      exact inj k (j + 1) hk (by omega) e), if_neg (by omega)]
    have e : GG N c2 m2 j ++ [([([97], j + 1)], (([] : S), ((j % c2 % m2 : Nat) : Int)))] = GG N c2 m2 (j + 1) := by
      rw [GG_s]
      unfold rgG
      rw [Nat.mod_eq_of_lt (show j + 1 < N by omega)]
    rw [e]
    exact rg_run h1 h2 hN inj d (j + 1) (by omega)
theorem rg_8 (m1 m2 : Nat) : pvRun true (rgM 8 m1) (rgM 125 m2) 1000 [(0, 0)] [] = some (FF 8 125 1000, GG 1000 125 m2 1000) := by
  have r := rg_run (c1 := 8) (c2 := 125) (m1 := m1) (m2 := m2) (N := 1000) (by omega) (by omega) (by omega) (fun i j h1 h2 e => by
    have e1 : j % 8 = i % 8 := congrArg Prod.fst e
    have e2 : j % 125 = i % 125 := congrArg Prod.snd e
    omega) 999 0 rfl
  have s := rg_step (c1 := 8) (c2 := 125) (m1 := m1) (m2 := m2) (j := 999) (by omega) (by omega) 0 (GG_len 1000 125 m2 999)
  have m : rgF 8 125 1000 = rgF 8 125 0 := rfl
  have f0 : FF 8 125 1000 = rgF 8 125 0 :: ((List.range 999).map Nat.succ).map (rgF 8 125) := by
    unfold FF
    rw [show (1000 : Nat) = 999 + 1 from rfl, List.range_succ_eq_map]; rfl
  have i : (FF 8 125 1000).idxOf (rgF 8 125 0) = 0 := by rw [f0]; simp
  rw [show 999 + 1 = 1000 from rfl, m, if_pos (by rw [f0]; exact List.mem_cons_self), i] at s
  have e : GG 1000 125 m2 999 ++ [([([97], 0)], (([] : S), ((999 % 125 % m2 : Nat) : Int)))] = GG 1000 125 m2 1000 := (GG_s 1000 125 m2 999).symm
  rw [e] at s
  exact r.trans s
theorem rg_7 (m1 m2 : Nat) : pvRun true (rgM 7 m1) (rgM 143 m2) 1000 [(0, 0)] [] = none := by
  have inj : ∀ i j, i < j → j < 1001 → rgF 7 143 j ≠ rgF 7 143 i := fun i j h1 h2 e => by
    have e1 : j % 7 = i % 7 := congrArg Prod.fst e
    have e2 : j % 143 = i % 143 := congrArg Prod.snd e
    omega
  have r := rg_run (c1 := 7) (c2 := 143) (m1 := m1) (m2 := m2) (N := 1001) (by omega) (by omega) (by omega) inj 999 0 rfl
  have s := rg_step (c1 := 7) (c2 := 143) (m1 := m1) (m2 := m2) (j := 999) (by omega) (by omega) 0 (GG_len 1001 143 m2 999)
  rw [if_neg (fun z => by
      obtain ⟨k, hk, e⟩ := FF_mem z
      exact inj k 1000 hk (by omega) e), if_pos rfl] at s
  exact r.trans s
theorem rings_ok (n : Nat) (x : Int) (st : Store) : callF P (n + 8) 28 [.int x] st = .ok (.bl true) st := by
  rw [c__law_rings]
  have sm2 := fun st => same_ok 1 (n + 5) (.tup [.str [109, 97, 110, 121], .int 1000]) (okD_si 0 _ _) st
  by_cases h : x % 2 = 1
  · have g1 := fun st => ring_ok (n + 6) (c := 7) (m := 1) (by omega) (by omega) (by omega) (by omega) st
    have g2 := fun st => ring_ok (n + 6) (c := 143) (m := 10) (by omega) (by omega) (by omega) (by omega) st
    have pe := fun st => piped_ok (n + 3) (by omega) (by omega) (rg_good (c := 7) (m := 1) (by omega) (by omega)) (rg_fine (by omega) (by omega)) (rg_good (c := 143) (m := 10) (by omega) (by omega)) rfl (show ([] ++ ([] : S)).length ≤ 1000 by simp) st
    have e : ∀ st, resW st (rgM 7 1) (rgM 143 10) (pvRun true (rgM 7 1) (rgM 143 10) 1000 [(0, (fed (rgM 143 10) 0 (rgM 7 1).st).2)] []) = .exc 1 [(0, .int 1000)] st := fun st => by
      show resW st _ _ (pvRun true (rgM 7 1) (rgM 143 10) 1000 [(0, 0)] []) = _
      rw [rg_7]; rfl
    have pr := fun st => pipe_err_m (n + 5) (fun st => (pe st).trans (e st)) st
    simp at g1 g2
    generalize encM (rgM 7 1) = d1 at *
    generalize encM (rgM 143 10) = d2 at *
    simp [t__law_rings, h, g1, g2, pr, sm2]
  · have g1 := fun st => ring_ok (n + 6) (c := 8) (m := 1) (by omega) (by omega) (by omega) (by omega) st
    have g2 := fun st => ring_ok (n + 6) (c := 125) (m := 10) (by omega) (by omega) (by omega) (by omega) st
    have R1 := rg_good (c := 8) (m := 1) (by omega) (by omega)
    have R2 := rg_good (c := 125) (m := 10) (by omega) (by omega)
    have F1 : Fine (rgM 8 1) := rg_fine (by omega) (by omega)
    have pe := fun st => piped_ok (n + 4) (by omega) (by omega) R1 F1 R2 rfl (show ([] ++ ([] : S)).length ≤ 1000 by simp) st
    have b := (both_of R1 F1 R2 rfl (rg_8 1 10)).1
    have e : ∀ st, resW st (rgM 8 1) (rgM 125 10) (pvRun true (rgM 8 1) (rgM 125 10) 1000 [(0, (fed (rgM 125 10) 0 (rgM 8 1).st).2)] []) = .ok (encM ⟨[97], [], GG 1000 125 10 1000⟩) st := fun st => by
      show resW st _ _ (pvRun true (rgM 8 1) (rgM 125 10) 1000 [(0, 0)] []) = _
      rw [rg_8]; rfl
    have pr := fun st => (pe st).trans (e st)
    have sm := fun st => same_ok 5 (n + 1) (encM ⟨[97], [], GG 1000 125 10 1000⟩) (okD_M b 0) st
    have ar : argI (.int 1000) = some 1000 := argI_nat (n := 1000) (by omega)
    simp at g1 g2
    generalize encM (rgM 8 1) = d1 at *
    generalize encM (rgM 125 10) = d2 at *
    have en : encM ⟨[97], [], GG 1000 125 10 1000⟩ = .tup [.str [97], .str [], .tup ((List.range 1000).map fun k => encRow (rgG 1000 125 10 k))] := by
      unfold encM GG
      rw [List.map_map]; rfl
    rw [en] at pr sm
    simp [t__law_rings, h, ar]
    rw [rangeD_map, lcL_enc (fun k : Nat => D.int (k : Int)) (fun k => encRow (rgG 1000 125 10 k)) ?o _ ?b ?z]
    case o => trivial
    case z => rw [sz_lit]; simp
    case b =>
      intro k hk
      simp [encRow, encMv, rgG]
    have bl : ∀ m, D.belL m ((List.range 1000).map fun k => encRow (rgG 1000 125 10 k)) = true := fun m => belL_map fun _ => bel_R _ _
    have lr : ((List.range 1000).map fun k => encRow (rgG 1000 125 10 k)).length = 1000 := by simp
    generalize ((List.range 1000).map fun k => encRow (rgG 1000 125 10 k)) = rr at *
    simp [g1, g2, pr, sm, bl, lr]
end Lk27
namespace Lk27
open PySem Dk
local macro_rules | `(tactic| trivial) => `(tactic| first | (simp; done) | (simp only [List.length_append, List.length_cons, List.length_nil, List.length_take, List.length_drop, List.length_map, List.length_set, List.length_tail, List.length_dropLast, List.length_mergeSort, List.length_reverse, List.length_replicate, List.length_range, Int.toNat_natCast, Int.reduceToNat]; omega) | omega)
/-! the law -/
theorem cell_oki (n : Nat) (ns : List Int) (k : Int) (h : 0 ≤ k) (st : Store) : callF P (n + 1) 12 [.scr ns, .int k] st = .ok (.int (cellV ns k.toNat)) st := by
  obtain ⟨j, rfl⟩ := Int.eq_ofNat_of_zero_le h
  exact cell_ok n ns j st
def eight : List S := [[97], [113], [97, 98], [99, 122], [97, 98, 99], [98, 120, 122], [97, 98, 99, 100], [104, 109, 116, 121]]
def three : List S := [[98], [97, 99], [101, 102, 103, 104]]
theorem letters_at (x : Int) (hx : 0 ≤ x) : ∃ L : S, atI [D.str [97], D.str [113], D.str [97, 98], D.str [99, 122], D.str [97, 98, 99], D.str [98, 120, 122], D.str [97, 98, 99, 100], D.str [104, 109, 116, 121]] (x % 8) = some (.str L) ∧ isAlpha L = true ∧ ∀ k, k < 3 → L ≠ gD three k := by
  obtain ⟨k, hk⟩ := Int.eq_ofNat_of_zero_le (show 0 ≤ x % 8 by omega)
  have h8 : k < 8 := by omega
  refine ⟨gD eight k, ?_, ?_, ?_⟩
  · rw [hk]
    exact atI_map (xs := eight) D.str h8
  · have : ∀ k, k < 8 → isAlpha (gD eight k) = true := by decide
    exact this k h8
  · have : ∀ k, k < 8 → ∀ j, j < 3 → gD eight k ≠ gD three j := by decide
    exact this k h8
theorem other_at (x : Int) (hx : 0 ≤ x) : ∃ k, k < 3 ∧ atI [D.str [98], D.str [97, 99], D.str [101, 102, 103, 104]] (x % 3) = some (.str (gD three k)) := by
  obtain ⟨k, hk⟩ := Int.eq_ofNat_of_zero_le (show 0 ≤ x % 3 by omega)
  have h8 : k < 3 := by omega
  exact ⟨k, h8, by rw [hk]; exact atI_map (xs := three) D.str h8⟩
/-- a machine that tells nothing -/
def plainM (L : S) : Mac := ⟨L, [], [(L.map fun _ => ([], 0), ([], 0))]⟩
theorem e_plain (L : S) : encM (plainM L) = .tup [.str L, .str [], .tup [.tup [.tup (L.map fun _ => .tup [.str [], .int 0]), .tup [.str [], .int 0]]]] := by
  unfold encM plainM
  simp only [List.map_cons, List.map_nil, encRow, List.map_map]
  rfl
theorem okD_ref (k : Nat) (e : Te) : okD (k + 1) (refD (some e)) := by
  cases e <;> refine ⟨by simp, fun d hd => ?_⟩ <;> simp only [List.mem_cons, List.not_mem_nil, or_false] at hd <;> rcases hd with rfl | rfl | rfl <;> cases k <;> trivial
@[simp] theorem bel_ref (n : Nat) (e : Option Te) : D.bel n (refD e) = true := by
  cases e with
  | none => rfl
  | some e => cases e <;> rfl
theorem rows_rep {B : Nat} {M : Mac} (G : Good B M) (F : Fine M) : Good B ⟨M.L, M.st, List.replicate 1000 (gD M.rows 0)⟩ ∧ Fine ⟨M.L, M.st, List.replicate 1000 (gD M.rows 0)⟩ := by
  have g : ∀ i, i < 1000 → gD (List.replicate 1000 (gD M.rows 0)) i = gD M.rows 0 := fun i hi => by rw [gD_get (by simpa using hi)]; exact List.getElem_replicate (by simpa using hi)
  have l : ∀ i, i < (List.replicate 1000 (gD M.rows 0)).length → i < 1000 := fun i hi => by simpa using hi
  constructor
  · refine good_of G.al G.st (by simp) (by simp) fun r hr => ?_
    rw [(List.mem_replicate.mp hr).2]
    have R := G.row G.pos
    exact ⟨R.len, fun k hk => by rw [List.length_replicate]; exact Nat.lt_of_lt_of_le (R.tg k hk) G.big, R.tx, R.fx⟩
  · exact ⟨F.st, fun i hi k hk => by
      unfold mvAt
      rw [g i (l i hi)]
      exact F.tx 0 G.pos k hk, fun i hi => by
      unfold fin
      rw [g i (l i hi)]
      exact F.fx 0 G.pos, fun i hi => by
      unfold fin
      rw [g i (l i hi)]
      exact F.sta 0 G.pos⟩
theorem fed_mem {B : Nat} {M : Mac} (G : Good B M) (F : Fine M) : ∀ (t : S) (r : Nat), r < M.rows.length → (∀ c ∈ t, c ∈ M.L) → ∀ c ∈ (fed M r t).1, c ∈ M.L
  | [], r, _, _ => fun c hc => nomatch hc
  | d :: t, r, hr, h => fun c hc => by
    have hk := idx_lt (h d (by simp))
    rw [fed_cons] at hc
    rcases List.mem_append.mp hc with z | z
    · exact F.tx r hr _ hk c z
    · exact fed_mem G F t _ (G.tg r hr _ hk) (fun e he => h e (List.mem_cons_of_mem _ he)) c z
theorem told_stream {B : Nat} (hB : B ≤ 50) {M : Mac} (G : Good B M) (F : Fine M) {t : S} (ht : t.length ≤ 8) (hm : ∀ c ∈ t, c ∈ M.L) : isStream M.L (told M t).1 = true := by
  obtain ⟨f1, f2⟩ := fed_ok G t 0 G.pos hm
  have f3 := G.fx _ f1
  have f4 := G.st
  have b1 : B * t.length ≤ 50 * 8 := Nat.mul_le_mul hB ht
  refine decide_eq_true ⟨?_, fun c hc => ?_⟩
  · show (M.st ++ (fed M 0 t).1 ++ (fin M (fed M 0 t).2).1).length ≤ 1000
    unfold fin
    rw [List.length_append, List.length_append]
    omega
  · have hc : c ∈ M.st ++ (fed M 0 t).1 ++ (fin M (fed M 0 t).2).1 := hc
    rcases List.mem_append.mp hc with z | z
    · rcases List.mem_append.mp z with z | z
      · exact F.st c z
      · exact fed_mem G F t 0 G.pos hm c z
    · exact F.fx _ f1 c z
theorem law_ok (ns : List Int) (st : Store) : ∃ st', callF P 40 30 [.scr ns] st = .ok (.bl true) st' := by
  rw [show (40 : Nat) = 39 + 1 from rfl, c_law]
  have co := fun k h st => cell_oki 38 ns k h st
  have x0 := cellV_nn ns 0
  have cn := cellV_nn ns
  generalize hx : cellV ns 0 = x at *
  obtain ⟨L, eL, aL, nL⟩ := letters_at x x0
  obtain ⟨L1, L4⟩ := alpha_len aL
  obtain ⟨m, hm⟩ := Int.eq_ofNat_of_zero_le (show 0 ≤ x / 8 % 5 by omega)
  obtain ⟨m2, hm2⟩ := Int.eq_ofNat_of_zero_le (show 0 ≤ x / 1920 % 5 by omega)
  obtain ⟨pp, p1, p2, p3, p4⟩ := parts_ok 37 ns 3 L L1 L4 (1 + m) (by omega) (by omega) st
  obtain ⟨qq, q1, q2, q3, q4⟩ := parts_ok 37 ns 28 L L1 L4 (1 + m2) (by omega) (by omega) (stP st pp)
  have m1 : ((1 + m : Nat) : Int) = 1 + (m : Int) := by omega
  have m21 : ((1 + m2 : Nat) : Int) = 1 + (m2 : Int) := by omega
  rw [m1] at p4
  rw [m21] at q4
  obtain ⟨w, w1, wm, w3⟩ := word_ok 38 (x / 40) (by omega) L L1 (by omega) 2 (by omega) st
  obtain ⟨v, v1, vm, v3⟩ := word_ok 38 (x / 9600) (by omega) L L1 (by omega) 2 (by omega) st
  have hp := hasP (st := st) (pp := pp) (by rw [p1]; exact p3)
  have hq := hasP (st := stP st pp) (pp := qq) (by rw [q1]; exact q3)
  obtain ⟨A, GA, LA, rA, eA, FA⟩ := late_ok 38 aL w1 hp (by rw [p1]; exact p2) (by omega) (by omega)
  obtain ⟨C, GC, LC, rC, eC, FC⟩ := early_ok 38 aL v1 hq (by rw [q1]; exact q2) (by omega) (by omega)
  have FA := FA wm
  have FC := FC vm
  rw [show ((3 : Nat) : Int) = 3 from rfl] at p4
  rw [show ((28 : Nat) : Int) = 28 from rfl] at q4
  rw [show ((2 : Nat) : Int) = 2 from rfl] at w3 v3
  generalize hl2 : (stP st pp).length = l2 at *
  generalize stP (stP st pp) qq = s0 at *
  have kA := fun st => check_fine 36 GA FA st
  have kC := fun st => check_fine 36 GC FC st
  have c1 := cn 1
  generalize hc1 : cellV ns 1 = y1 at *
  obtain ⟨W, e, We, Wl, Wc⟩ := spoilt_ok 37 GA FA (by omega) y1 c1 s0
  have rf := fun st => refusal_ok 35 W (by omega) st
  rw [We] at rf
  have sme := fun st => same_ok 1 37 (refD (some e)) (okD_ref 0 e) st
  have hL : C.L = A.L := by rw [LC, LA]
  have rr := rows_rep GA FA
  have kR := fun st => check_fine 36 rr.1 rr.2 st
  have eR : encM ⟨A.L, A.st, List.replicate 1000 (gD A.rows 0)⟩ = .tup [.str L, .str A.st, .tup (rep 1000 [encRow (gD A.rows 0)])] := by
    rw [rep_single]
    unfold encM
    rw [List.map_replicate, LA]
  rw [eR] at kR
  have a0 : atI (A.rows.map encRow) 0 = some (encRow (gD A.rows 0)) := row_at GA.pos
  have lR : (rep 1000 [encRow (gD A.rows 0)]).length = 1000 := by rw [rep_single, List.length_replicate]
  have bR : ∀ n, D.belL n (rep 1000 [encRow (gD A.rows 0)]) = true := fun n => by
    rw [rep_single, ← List.map_replicate]; exact bel_Rs n _
  clear rr eR
  simp [t_law, co, hx, hc1, eL, hm, hm2, p4, q4, w3, v3, eA, eC, kA, kC, Wc, rf, sme]
  generalize hX : kIff _ _ _ _ _ _ = X
  have hX2 : X = .ok (.nx [some (.scr ns), some (.int x), some (.str L), some (.loc st.length), some (encM A), some (.loc l2), some (encM C), none, none, none, none, some (eMa W), some (refD (some e)), none]) s0 := by
    subst hX
    cases e with
    | letters w => simp [refD]
    | row i => simp [refD]
    | many =>
      simp [refD, a0]
      generalize rep 1000 [encRow (gD A.rows 0)] = rw1 at *
      simp [kR, bR, lR]
  subst hX2
  clear hX
  obtain ⟨d, d8, dm, d3⟩ := word_ok 38 (cellV ns 2) (cn 2) L L1 (by omega) 8 (by omega) s0
  rw [show ((8 : Nat) : Int) = 8 from rfl] at d3
  have dA : ∀ c ∈ d, c ∈ A.L := by rw [LA]; exact dm
  have di : isStream A.L d = true := decide_eq_true ⟨by omega, dA⟩
  have t1 := fun st => told_by_ok 35 (by omega) GA d di st
  have t2 := fun st => told_law 37 (by omega) GA d di st
  have sm := fun w i st => same_ok 1 37 (.tup [.str w, .int i]) (okD_si 0 w i) st
  have sm2 := fun w i st => same_ok 1 37 (.tup [.str w, .str i]) (okD_ss 0 w i) st
  have ss := fun st => streams_ok 33 GC (cellV ns 53) (cn 53) st
  rw [LC] at ss
  obtain ⟨f1, f2⟩ := fed_ok GC A.st 0 GC.pos (by rw [hL]; exact FA.st)
  have gA := GA.st
  have gC := GC.st
  have h1 : (C.st ++ (fed C 0 A.st).1).length ≤ 1000 := by rw [List.length_append]; omega
  obtain ⟨px, hpx⟩ := pvRun_some GA FA GC hL (show A.rows.length * C.rows.length ≤ 1000 from Nat.le_trans (Nat.mul_le_mul (show A.rows.length ≤ 5 by omega) (show C.rows.length ≤ 5 by omega)) (by decide)) (fun i hi r hr k hk => by
    have a := (fed_ok GC (mvAt A i k).1 r hr (by rw [hL]; exact FA.tx i hi k hk)).2
    have b : (mvAt A i k).1.length ≤ 10 := GA.tx i hi k hk
    omega) (fun i hi r hr => by
    obtain ⟨_, b, c⟩ := finP_len GC hr (w := (fin A i).1) (by rw [hL]; exact FA.fx i hi)
    have e : (fin A i).1.length ≤ 10 := GA.fx i hi
    show ((fed C r (fin A i).1).1 ++ (fin C (fed C r (fin A i).1).2).1).length ≤ 1000
    rw [List.length_append]; omega) 1000 (ps := [(0, (fed C 0 A.st).2)]) (rows := []) ⟨by simp, fun p hp => by rw [List.mem_singleton.mp hp]; exact GA.pos, fun p hp => by rw [List.mem_singleton.mp hp]; exact f1⟩
  have u1 := fun st => piped_ok 36 (by omega) (by omega) GA FA GC hL h1 st
  rw [hpx] at u1
  simp only [resW_some] at u1
  have u2 := fun st => law_piped_ok 37 (by omega) (by omega) GA FA GC hL h1 hpx st
  obtain ⟨GB, TB⟩ := both_of GA FA GC hL hpx
  have TB := TB d dA
  have u3 := fun st => same_ok 5 33 _ (okD_M GB 0) st
  have u4 := fun st => told_by_ok 35 (by omega) GB d di st
  rw [TB] at u4
  have u5 := fun st => told_law 37 (by omega) GC (told A d).1 (by rw [hL]; exact told_stream (by omega) GA FA d8 dA) st
  generalize encM (Mac.mk A.L (C.st ++ (fed C 0 A.st).1) px.2) = eB at *
  simp [co, d3, t1, t2, sm, ss, u1, u2, u3, u4, u5]
  obtain ⟨k3, k33, e3⟩ := other_at (cellV ns 54) (cn 54)
  have nK := nL k3 k33
  simp only [e3]
  have pe1 := fun st => pipe_err_l 37 (M1 := A) (M2 := plainM (gD three k3)) (by rw [LA]; exact nK) st
  have pe2 := fun st => pipe_err_l 37 (M1 := plainM (gD three k3)) (M2 := C) (by rw [LC]; exact fun z => nK z.symm) st
  rw [e_plain] at pe1 pe2
  rw [LC] at pe2
  have eL3 : (plainM (gD three k3)).L = gD three k3 := rfl
  rw [eL3] at pe1
  have l3 : (gD three k3).length ≤ 4 := by
    have : ∀ k, k < 3 → (gD three k).length ≤ 4 := by decide
    exact this k3 k33
  generalize gD three k3 = O at *
  simp
  rw [lcL_enc (fun c : Nat => D.str [c]) (fun _ => D.tup [.str [], .int 0]) ?o O ?b ?z]
  case o => trivial
  case z => rw [sz_lit]; omega
  case b =>
    intro c hc
    simp
  have bO : ∀ n, D.belL n (O.map fun _ => D.tup [.str [], .int 0]) = true := fun n => belL_map fun _ => rfl
  have lO : (O.map fun _ => D.tup [.str [], .int 0]).length ≤ 16777216 := by rw [List.length_map]; omega
  generalize (O.map fun _ => D.tup [.str [], .int 0]) = Om at *
  have z0 := cn 55
  have r1 := fun st => rings_ok 31 (cellV ns 55 / 12) st
  have r2 := fun st => long_ok 31 (cellV ns 55 / 24) (by omega) st
  by_cases h : cellV ns 55 % 12 = 7
  · simp (disch := trivial) [bO, lO, pe1, pe2, sm2, co, h, r1, r2]
  · simp (disch := trivial) [bO, lO, pe1, pe2, sm2, co, h, r1, r2]
end Lk27
namespace Lk27
open PySem PySem.Spec PyProof.Rows L2 Dk
def top (i : Nat) : Stmt := PySem.Challenge.pw_shellbrook_k27_transducers_and_pipes.main.body.getD i (.Pass ⟨0, 0, 0, 0⟩)
def f0 : DfR := ⟨⟨1, 2, t_is_alphabet⟩, ⟨("is_alphabet", none), "is_alphabet", "is_alphabet", defArgs (top 10), defBody (top 10), defScope (top 10), [], []⟩, ["letters", "at"]⟩
def f1 : DfR := ⟨⟨1, 1, t_check_letters⟩, ⟨("check_letters", none), "check_letters", "check_letters", defArgs (top 11), defBody (top 11), defScope (top 11), [], []⟩, ["letters"]⟩
def f2 : DfR := ⟨⟨3, 4, t_check_text⟩, ⟨("check_text", none), "check_text", "check_text", defArgs (top 12), defBody (top 12), defScope (top 12), [], []⟩, ["letters", "text", "most", "at"]⟩
def f3 : DfR := ⟨⟨2, 2, t_check_stream⟩, ⟨("check_stream", none), "check_stream", "check_stream", defArgs (top 13), defBody (top 13), defScope (top 13), [], []⟩, ["letters", "text"]⟩
def f4 : DfR := ⟨⟨2, 3, t_is_told⟩, ⟨("is_told", none), "is_told", "is_told", defArgs (top 17), defBody (top 17), defScope (top 17), [], []⟩, ["letters", "text", "letter"]⟩
def f5 : DfR := ⟨⟨3, 7, t_is_good⟩, ⟨("is_good", none), "is_good", "is_good", defArgs (top 18), defBody (top 18), defScope (top 18), [], []⟩, ["letters", "rows", "row", "moves", "final", "text", "target"]⟩
def f6 : DfR := ⟨⟨1, 5, t_check_transducer⟩, ⟨("check_transducer", none), "check_transducer", "check_transducer", defArgs (top 19), defBody (top 19), defScope (top 19), [], []⟩, ["transducer", "at", "letters", "start", "rows"]⟩
def f7 : DfR := ⟨⟨3, 9, t_feed⟩, ⟨("feed", none), "feed", "feed", defArgs (top 20), defBody (top 20), defScope (top 20), [], []⟩, ["transducer", "row", "text", "told", "letter", "letters", "start", "rows", "said"]⟩
def f8 : DfR := ⟨⟨2, 6, t_told_by⟩, ⟨("told_by", none), "told_by", "told_by", defArgs (top 21), defBody (top 21), defScope (top 21), [], []⟩, ["transducer", "text", "told", "row", "said", "status"]⟩
def f9 : DfR := ⟨⟨1, 1, t_check_told⟩, ⟨("check_told", none), "check_told", "check_told", defArgs (top 25), defBody (top 25), defScope (top 25), [], []⟩, ["text"]⟩
def f10 : DfR := ⟨⟨3, 7, t_final_behind⟩, ⟨("final_behind", none), "final_behind", "final_behind", defArgs (top 26), defBody (top 26), defScope (top 26), [], []⟩, ["second", "row", "final", "told", "end", "said", "status"]⟩
def f11 : DfR := ⟨⟨2, 13, t_piped⟩, ⟨("piped", none), "piped", "piped", defArgs (top 27), defBody (top 27), defScope (top 27), [], []⟩, ["first", "second", "start", "pairs", "numbers", "rows", "told", "row", "moves", "left", "right", "text", "target"]⟩
def f12 : DfR := ⟨⟨2, 3, t__law_cell⟩, ⟨("_law_cell", none), "_law_cell", "_law_cell", defArgs (top 29), defBody (top 29), defScope (top 29), [], []⟩, ["script", "k", "mixed"]⟩
def f13 : DfR := ⟨⟨2, 3, t__law_same⟩, ⟨("_law_same", none), "_law_same", "_law_same", defArgs (top 30), defBody (top 30), defScope (top 30), [], []⟩, ["actual", "due", "k"]⟩
def f14 : DfR := ⟨⟨3, 6, t__law_word⟩, ⟨("_law_word", none), "_law_word", "_law_word", defArgs (top 31), defBody (top 31), defScope (top 31), [], []⟩, ["x", "letters", "most", "word", "count", "k"]⟩
def f15 : DfR := ⟨⟨4, 10, t__law_parts⟩, ⟨("_law_parts", none), "_law_parts", "_law_parts", defArgs (top 32), defBody (top 32), defScope (top 32), [], []⟩, ["script", "at", "letters", "count", "parts", "k", "moves", "j", "x", "status"]⟩
def f16 : DfR := ⟨⟨3, 10, t__law_late⟩, ⟨("_law_late", none), "_law_late", "_law_late", defArgs (top 33), defBody (top 33), defScope (top 33), [], []⟩, ["letters", "start", "parts", "rows", "moves", "final", "status", "held", "word", "goal"]⟩
def f17 : DfR := ⟨⟨3, 10, t__law_early⟩, ⟨("_law_early", none), "_law_early", "_law_early", defArgs (top 34), defBody (top 34), defScope (top 34), [], []⟩, ["letters", "start", "parts", "rows", "moves", "final", "status", "held", "word", "goal"]⟩
def f18 : DfR := ⟨⟨3, 6, t__law_fed⟩, ⟨("_law_fed", none), "_law_fed", "_law_fed", defArgs (top 35), defBody (top 35), defScope (top 35), [], []⟩, ["machine", "row", "text", "told", "letter", "said"]⟩
def f19 : DfR := ⟨⟨2, 5, t__law_told⟩, ⟨("_law_told", none), "_law_told", "_law_told", defArgs (top 36), defBody (top 36), defScope (top 36), [], []⟩, ["machine", "text", "final", "told", "row"]⟩
def f20 : DfR := ⟨⟨2, 15, t__law_piped⟩, ⟨("_law_piped", none), "_law_piped", "_law_piped", defArgs (top 37), defBody (top 37), defScope (top 37), [], []⟩, ["first", "second", "start", "pairs", "rows", "step", "told", "row", "moves", "final", "last", "left", "right", "said", "goal"]⟩
def f21 : DfR := ⟨⟨1, 2, t__law_strange⟩, ⟨("_law_strange", none), "_law_strange", "_law_strange", defArgs (top 38), defBody (top 38), defScope (top 38), [], []⟩, ["letters", "letter"]⟩
def f22 : DfR := ⟨⟨1, 2, t__law_refusal⟩, ⟨("_law_refusal", none), "_law_refusal", "_law_refusal", defArgs (top 39), defBody (top 39), defScope (top 39), [], []⟩, ["machine", "e"]⟩
def f23 : DfR := ⟨⟨2, 15, t__law_spoilt⟩, ⟨("_law_spoilt", none), "_law_spoilt", "_law_spoilt", defArgs (top 40), defBody (top 40), defScope (top 40), [], []⟩, ["machine", "x", "way", "at", "k", "side", "strange", "behind", "letters", "start", "rows", "moves", "final", "wrong", "row"]⟩
def f24 : DfR := ⟨⟨2, 3, t__law_stream_error⟩, ⟨("_law_stream_error", none), "_law_stream_error", "_law_stream_error", defArgs (top 41), defBody (top 41), defScope (top 41), [], []⟩, ["machine", "text", "e"]⟩
def f25 : DfR := ⟨⟨2, 3, t__law_pipe_error⟩, ⟨("_law_pipe_error", none), "_law_pipe_error", "_law_pipe_error", defArgs (top 42), defBody (top 42), defScope (top 42), [], []⟩, ["first", "second", "e"]⟩
def f26 : DfR := ⟨⟨1, 6, t__law_long_pipe⟩, ⟨("_law_long_pipe", none), "_law_long_pipe", "_law_long_pipe", defArgs (top 43), defBody (top 43), defScope (top 43), [], []⟩, ["x", "texts", "first", "second", "times", "count"]⟩
def f27 : DfR := ⟨⟨2, 4, t__law_ring⟩, ⟨("_law_ring", none), "_law_ring", "_law_ring", defArgs (top 44), defBody (top 44), defScope (top 44), [], []⟩, ["count", "many", "rows", "k"]⟩
def f28 : DfR := ⟨⟨1, 3, t__law_rings⟩, ⟨("_law_rings", none), "_law_rings", "_law_rings", defArgs (top 45), defBody (top 45), defScope (top 45), [], []⟩, ["x", "due", "k"]⟩
def f29 : DfR := ⟨⟨3, 6, t__law_streams⟩, ⟨("_law_streams", none), "_law_streams", "_law_streams", defArgs (top 46), defBody (top 46), defScope (top 46), [], []⟩, ["machine", "letters", "x", "at", "wrong", "text"]⟩
def f30 : DfR := ⟨⟨1, 14, t_law⟩, ⟨("law", none), "law", "law", defArgs (top 47), defBody (top 47), defScope (top 47), [], []⟩, ["script", "x", "letters", "parts", "first", "others", "second", "text", "both", "other", "plain", "wrong", "due", "letter"]⟩
def ds : List DfR := [f0, f1, f2, f3, f4, f5, f6, f7, f8, f9, f10, f11, f12, f13, f14, f15, f16, f17, f18, f19, f20, f21, f22, f23, f24, f25, f26, f27, f28, f29, f30]
def cls : List (PySem.Str × Option (List Nat)) := [("BrookError", none), ("TooMany", some [0]), ("BadLetters", some [1]), ("BadStream", some [2]), ("BadTransducer", some [3])]
def names : List PySem.Str := ["limit", "letters", "place", "row"]
def con : List (PySem.Str × D) := [("MOST_LETTERS", .int 4), ("LOWER", .str [97, 98, 99, 100, 101, 102, 103, 104, 105, 106, 107, 108, 109, 110, 111, 112, 113, 114, 115, 116, 117, 118, 119, 120, 121, 122]), ("MOST_STREAM", .int 1000), ("MOST_STATUS", .int 9), ("MOST_ROWS", .int 1000), ("MOST_TOLD", .int 1000), ("MOST_PAIRS", .int 1000)]
def blt : List PySem.Str := ["ValueError", "bool", "int", "isinstance", "len", "range", "str", "super", "tuple"]
def mtn : List PySem.Str := []
def ktp : List (PySem.Str × List S) := []
def E : Ex := ⟨PySem.Challenge.pw_shellbrook_k27_transducers_and_pipes, ds, cls, anc, names, con, blt, [], own, mtn, mts, ktp⟩
def lo0 : List PySem.Str := ["BrookError", "TooMany", "BadLetters", "BadStream", "BadTransducer", "LOWER", "MOST_LETTERS", "MOST_STREAM", "is_alphabet", "check_letters", "check_text", "check_stream", "MOST_ROWS", "MOST_STATUS", "is_told", "is_good", "check_transducer", "feed", "told_by", "MOST_PAIRS", "MOST_TOLD", "check_told", "final_behind", "piped", "_law_cell", "_law_same", "_law_word", "_law_parts", "_law_late", "_law_early"]
def lo1 : List PySem.Str := ["_law_fed", "_law_told", "_law_piped", "_law_strange", "_law_refusal", "_law_spoilt", "_law_stream_error", "_law_pipe_error", "_law_long_pipe", "_law_ring", "_law_rings", "_law_streams"]
def lo : List PySem.Str := lo0 ++ lo1
theorem xf_eq : (fun c : Nat => (cls[c]?).bind fun p : PySem.Str × Option (List Nat) => p.2) = fun c : Nat => (xfs[c]?).join := by
  funext c
  rw [show xfs = cls.map (fun p : PySem.Str × Option (List Nat) => p.2) from rfl, List.getElem?_map]
  cases cls[c]? <;> rfl
theorem P_eq : E.t.P = P := by
  show (⟨fds, P.mt, P.ini, fun c k => (anc.getD c []).contains k, fun c => (cls[c]?).bind fun p : PySem.Str × Option (List Nat) => p.2⟩ : Prog) = _
  rw [xf_eq]
  rfl
end Lk27
namespace Lk27
open PySem PySem.Spec PyProof.Rows L2 Dk
theorem chk0 : dfB E.t 0 f0 = true := by kernel_rfl
theorem chk1 : dfB E.t 1 f1 = true := by kernel_rfl
theorem chk2 : dfB E.t 2 f2 = true := by kernel_rfl
theorem chk3 : dfB E.t 3 f3 = true := by kernel_rfl
theorem chk4 : dfB E.t 4 f4 = true := by kernel_rfl
theorem chk5 : dfB E.t 5 f5 = true := by kernel_rfl
theorem chk6 : dfB E.t 6 f6 = true := by kernel_rfl
theorem chk7 : dfB E.t 7 f7 = true := by kernel_rfl
theorem chk8 : dfB E.t 8 f8 = true := by kernel_rfl
theorem chk9 : dfB E.t 9 f9 = true := by kernel_rfl
theorem chk10 : dfB E.t 10 f10 = true := by kernel_rfl
theorem chk11 : dfB E.t 11 f11 = true := by kernel_rfl
theorem chk12 : dfB E.t 12 f12 = true := by kernel_rfl
theorem chk13 : dfB E.t 13 f13 = true := by kernel_rfl
theorem chk14 : dfB E.t 14 f14 = true := by kernel_rfl
theorem chk15 : dfB E.t 15 f15 = true := by kernel_rfl
theorem chk16 : dfB E.t 16 f16 = true := by kernel_rfl
theorem chk17 : dfB E.t 17 f17 = true := by kernel_rfl
theorem chk18 : dfB E.t 18 f18 = true := by kernel_rfl
theorem chk19 : dfB E.t 19 f19 = true := by kernel_rfl
theorem chk20 : dfB E.t 20 f20 = true := by kernel_rfl
theorem chk21 : dfB E.t 21 f21 = true := by kernel_rfl
theorem chk22 : dfB E.t 22 f22 = true := by kernel_rfl
theorem chk23 : dfB E.t 23 f23 = true := by kernel_rfl
theorem chk24 : dfB E.t 24 f24 = true := by kernel_rfl
theorem chk25 : dfB E.t 25 f25 = true := by kernel_rfl
theorem chk26 : dfB E.t 26 f26 = true := by kernel_rfl
theorem chk27 : dfB E.t 27 f27 = true := by kernel_rfl
theorem chk28 : dfB E.t 28 f28 = true := by kernel_rfl
theorem chk29 : dfB E.t 29 f29 = true := by kernel_rfl
theorem chk30 : dfB E.t 30 f30 = true := by kernel_rfl
theorem chk : ∀ (i : Nat) r, ds[i]? = some r → dfB E.t i r = true := by
  intro i r h
  match i, h with
  | 0, h => cases h; exact chk0
  | 1, h => cases h; exact chk1
  | 2, h => cases h; exact chk2
  | 3, h => cases h; exact chk3
  | 4, h => cases h; exact chk4
  | 5, h => cases h; exact chk5
  | 6, h => cases h; exact chk6
  | 7, h => cases h; exact chk7
  | 8, h => cases h; exact chk8
  | 9, h => cases h; exact chk9
  | 10, h => cases h; exact chk10
  | 11, h => cases h; exact chk11
  | 12, h => cases h; exact chk12
  | 13, h => cases h; exact chk13
  | 14, h => cases h; exact chk14
  | 15, h => cases h; exact chk15
  | 16, h => cases h; exact chk16
  | 17, h => cases h; exact chk17
  | 18, h => cases h; exact chk18
  | 19, h => cases h; exact chk19
  | 20, h => cases h; exact chk20
  | 21, h => cases h; exact chk21
  | 22, h => cases h; exact chk22
  | 23, h => cases h; exact chk23
  | 24, h => cases h; exact chk24
  | 25, h => cases h; exact chk25
  | 26, h => cases h; exact chk26
  | 27, h => cases h; exact chk27
  | 28, h => cases h; exact chk28
  | 29, h => cases h; exact chk29
  | 30, h => cases h; exact chk30
  | n + 31, h => cases h
end Lk27
namespace Lk27
open PySem PySem.Spec PyProof.Rows L2 Dk
abbrev R : PySem.W.OpenRow := PySem.W.OpenLaw.row PySem.Challenge.rw_shellbrook_k27_transducers_and_pipes
def ob (s : PySem.W.SharedT) : AlK := E.obs 5 (HandSHeadRun.getT s)
theorem ob_eq (s : PySem.W.SharedT) : ob s = (E.hook 5).obs s.abs := Ex.obs_eq (HandSHeadRun.getT_eq s)
section
open HandSHeadRun PySem.W
/-- the state behind the head -/
noncomputable def XE (w : World) (os : OsState) : Option PySem.W.SharedT := endF (stepQ (denQ tabQ) R.prog w) 20000 R.prog w os
noncomputable def FE (s : PySem.W.SharedT) : PySem.W.Frag := frK 5 (HandSHeadRun.getT s)
theorem hr1 (w : World) (os : OsState) : (XE w os).map (fun s => looksF R.prog (boot_heap w.params) s.abs) = some true := by kernel_rfl
theorem hr2 (w : World) (os : OsState) : (XE w os).map (fun s => seenQ (PySem.W.view R.prog [47]) lo (importedModules R.prog.main.body) (fun s => xlAt (PySem.W.view R.prog [47]) [] s && recOk R.toRowW.records s) s.abs) = some (openGood (PySem.W.view R.prog [47]) lo) := by kernel_rfl
theorem hr3 (w : World) (os : OsState) : (XE w os).map (fun s => He.obsD [] E.dd (FE s)) = some (He.valD E.dd) := by kernel_rfl
theorem hr4 (w : World) (os : OsState) : (XE w os).map (fun s => E.exA (FE s)) = some true := by kernel_rfl
theorem hr5 (w : World) (os : OsState) : (XE w os).map (fun s => E.errL [0] (FE s)) = some true := by kernel_rfl
theorem hr6 (w : World) (os : OsState) : (XE w os).map (fun s => E.errL [1] (FE s)) = some true := by kernel_rfl
theorem hr7 (w : World) (os : OsState) : (XE w os).map (fun s => E.errL [2] (FE s)) = some true := by kernel_rfl
theorem hr8 (w : World) (os : OsState) : (XE w os).map (fun s => E.errL [3, 4] (FE s)) = some true := by kernel_rfl
end
theorem hrun (w : World) : HandSHeadRun.RunEq R (PySem.W.view R.prog [47]) (E.hook 5) ob 20000 lo w := by
  intro os
  exact map3 (hr1 w os) (hr2 w os) (map2 (hr3 w os) (Ex.split (E := E) (by decide) (hr4 w os) (hr5 w os) (hr6 w os) (hr7 w os) (hr8 w os)))
end Lk27
namespace Lk27
open PySem PySem.Spec PyProof.Rows L2 Dk
theorem plainD : ∀ r ∈ ds, r.d.dfl = [] ∧ r.d.kwd = [] := by
  intro r h
  have : (ds.all fun r => r.d.dfl.isEmpty && r.d.kwd.isEmpty) = true := by kernel_rfl
  have q := List.all_eq_true.mp this r h
  obtain ⟨q1, q2⟩ := Bool.and_eq_true_iff.mp q
  exact ⟨List.isEmpty_iff.mp q1, List.isEmpty_iff.mp q2⟩
theorem pure_ (ns : List Int) (h : ns.length ≤ 63) : ∃ st', callF E.t.P 40 30 [.scr ns] [] = .ok (.bl true) st' := by
  rw [P_eq]; exact law_ok ns []
end Lk27
open PySem PySem.W PySem.Calls PyProof.Rows
theorem PySem.Challenge.cw_shellbrook_k27_transducers_and_pipes_holds : PySem.Challenge.rw_shellbrook_k27_transducers_and_pipes.Holds := by
  w_on; o_law
  refine HandSHeadRun.head_any (r := OpenLaw.row PySem.Challenge.rw_shellbrook_k27_transducers_and_pipes) (q := view (OpenLaw.row PySem.Challenge.rw_shellbrook_k27_transducers_and_pipes).prog [47]) (H := Lk27.E.hook 5) (ob := Lk27.ob) (M := 20000) (loose := Lk27.lo) (d := HandSHeadRun.topDef (OpenLaw.row PySem.Challenge.rw_shellbrook_k27_transducers_and_pipes).prog 47) (kwd := []) Lk27.ob_eq
    (by kernel_rfl) (fun s => by kernel_rfl) Lk27.hrun (by kernel_rfl) (by kernel_rfl) (by kernel_rfl) (by rfl) (by first | assumption | decide +kernel) (by decide +kernel) ⟨rfl, rfl, rfl, rfl, rfl, by decide +kernel⟩ ?hw ?hc
  case hw => w_witness2
  case hc =>
    exact Dk.Ex.walk (l := PySem.Challenge.rw_shellbrook_k27_transducers_and_pipes) (n := 63) (k := 40) (i := 30) Lk27.E (r := Lk27.f30) rfl rfl (by decide) (by kernel_rfl) ⟨rfl, by decide, by decide⟩ rfl (by kernel_rfl) rfl Lk27.chk Lk27.plainD Lk27.pure_
