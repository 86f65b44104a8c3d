import PyProof.Rows.All
import Wide.All
import OpenK.AllK
import Wide.FinOn
import HandS.ForExc
import HandS.Words
import HandS.WordsExc
import HandS.More
import HandS.Lambda
import HandS.IsInst
import HandS.Deep
import HandS.Dict
import HandS.Flow
import HandS.TupAny
import HandS.Text
import HandS.ListItems
import HandS.ExcOwn
import HandS.Comp
import HandS.Iter
import HandS.Zip
import PyProof.ReprRoads
import HandS.Small
import HandS.ExcField
import HandS.ExcInit
import HandS.TryMany
import HandS.EndTab
import HandS.Defaults
import HandS.HeadHook1
import HandS.HeadHook2
import HandS.HeadHook3
import HandS.HeadHook4
import KE.KStateDown
import HandS.Head0
import HandS.Head1
import HandS.Head2
import PyProof.ReprBulk
import PySem.Challenge.RW_onecoat_k01_kinds_and_places
set_option Elab.async false
set_option linter.all false
set_option maxRecDepth 100000
/-! Ev0: the evaluator's data, terms and its definition (no program in sight). -/
namespace Ev
open PySem

/-- a dict's key -/
inductive DK where
  | i (i : Int) | s (s : List Nat)
  deriving DecidableEq, Repr
/-- a value as a tree; ref: a shared object that may change, by its number -/
inductive D where
  | non | bl (b : Bool) | int (i : Int) | str (s : List Nat)
  | tup (xs : List D) | lst (xs : List D) | dic (kvs : List (DK × D))
  | ref (i : Nat) | cdic (kvs : List (DK × D))
  deriving Repr
/-- what a call hands on: a value, or a lambda and what it captured -/
inductive Arg where
  | dat (d : D) | clo (l : Nat) (cs : List D)
  deriving Repr
inductive Cell where
  | lst (xs : List D) | dic (kvs : List (DK × D))
  deriving Repr
abbrev Mem := List Cell
/-- an exception: its class's number, its fields -/
structure Ex where
  c : Nat
  fl : List (List Nat × D)
  deriving Repr
inductive R (α : Type) where
  | ok (a : α) (m : Mem) | ex (x : Ex) (m : Mem) | bad
  deriving Repr
inductive Slot where
  | no | val (d : D) | own (c : Cell) | exc (x : Ex) | clo (l : Nat) (cs : List D)
  deriving Repr
abbrev Env := List Slot

mutual
def D.beq : D → D → Bool
  | .non, .non => true
  | .bl a, .bl b => a == b
  | .int a, .int b => a == b
  | .str a, .str b => a == b
  | .tup a, .tup b => beqL a b
  | .lst a, .lst b => beqL a b
  | .dic a, .dic b => beqK a b
  | .ref a, .ref b => a == b
  | .cdic a, .cdic b => beqK a b
  | _, _ => false
def beqL : List D → List D → Bool
  | [], [] => true
  | a :: x, b :: y => D.beq a b && beqL x y
  | _, _ => false
def beqK : List (DK × D) → List (DK × D) → Bool
  | [], [] => true
  | (k, a) :: x, (l, b) :: y => decide (k = l) && (D.beq a b && beqK x y)
  | _, _ => false
end
def Cell.beq : Cell → Cell → Bool
  | .lst a, .lst b => beqL a b
  | .dic a, .dic b => beqK a b
  | _, _ => false
mutual
theorem D.beq_self : ∀ d : D, D.beq d d = true
  | .non => by simp [D.beq]
  | .bl _ => by simp [D.beq]
  | .int _ => by simp [D.beq]
  | .str _ => by simp [D.beq]
  | .tup a => by simp [D.beq, beqL_self a]
  | .lst a => by simp [D.beq, beqL_self a]
  | .dic a => by simp [D.beq, beqK_self a]
  | .ref _ => by simp [D.beq]
  | .cdic a => by simp [D.beq, beqK_self a]
theorem beqL_self : ∀ xs : List D, beqL xs xs = true
  | [] => by simp [beqL]
  | a :: x => by simp [beqL, D.beq_self a, beqL_self x]
theorem beqK_self : ∀ xs : List (DK × D), beqK xs xs = true
  | [] => by simp [beqK]
  | (k, a) :: x => by simp [beqK, D.beq_self a, beqK_self x]
end
theorem Cell.beq_self : ∀ c : Cell, Cell.beq c c = true
  | .lst a => by simp [Cell.beq, beqL_self a]
  | .dic a => by simp [Cell.beq, beqK_self a]
mutual
theorem D.beq_eq : ∀ (a b : D), D.beq a b = true → a = b
  | .non, b, h => by cases b <;> simp_all [D.beq]
  | .bl _, b, h => by cases b <;> simp_all [D.beq]
  | .int _, b, h => by cases b <;> simp_all [D.beq]
  | .str _, b, h => by cases b <;> simp_all [D.beq]
  | .tup a, b, h => by
    cases b <;> simp only [D.beq, Bool.false_eq_true] at h
    rw [beqL_eq _ _ h]
  | .lst a, b, h => by
    cases b <;> simp only [D.beq, Bool.false_eq_true] at h
    rw [beqL_eq _ _ h]
  | .dic a, b, h => by
    cases b <;> simp only [D.beq, Bool.false_eq_true] at h
    rw [beqK_eq _ _ h]
  | .ref _, b, h => by cases b <;> simp_all [D.beq]
  | .cdic a, b, h => by
    cases b <;> simp only [D.beq, Bool.false_eq_true] at h
    rw [beqK_eq _ _ h]
theorem beqL_eq : ∀ (a b : List D), beqL a b = true → a = b
  | [], b, h => by cases b <;> simp_all [beqL]
  | a :: x, b, h => by
    cases b with
    | nil => simp [beqL] at h
    | cons c y =>
      simp only [beqL, Bool.and_eq_true] at h
      rw [D.beq_eq _ _ h.1, beqL_eq _ _ h.2]
theorem beqK_eq : ∀ (a b : List (DK × D)), beqK a b = true → a = b
  | [], b, h => by cases b <;> simp_all [beqK]
  | (k, a) :: x, b, h => by
    cases b with
    | nil => simp [beqK] at h
    | cons c y =>
      obtain ⟨l, c⟩ := c
      simp only [beqK, Bool.and_eq_true, decide_eq_true_eq] at h
      rw [h.1, D.beq_eq _ _ h.2.1, beqK_eq _ _ h.2.2]
end
theorem Cell.beq_eq : ∀ (a b : Cell), Cell.beq a b = true → a = b
  | .lst a, .lst b, h => by rw [beqL_eq a b h]
  | .dic a, .dic b, h => by rw [beqK_eq a b h]
  | .lst a, .dic b, h => by simp [Cell.beq] at h
  | .dic a, .lst b, h => by simp [Cell.beq] at h

/-! ### the data that == and repr see -/
mutual
def D.py (ρ : Nat → Option PyData) : D → Option PyData
  | .non => some .none
  | .bl b => some (.bool b)
  | .int i => some (.int i)
  | .str s => some (.str ⟨s.toArray⟩)
  | .tup xs => (pyL ρ xs).map .tuple
  | .lst xs => (pyL ρ xs).map .list
  | .dic kvs => (pyK ρ kvs).map .dict
  | .ref i => ρ i
  | .cdic _ => none
def pyL (ρ : Nat → Option PyData) : List D → Option (List PyData)
  | [] => some []
  | a :: x => match D.py ρ a, pyL ρ x with
    | some p, some q => some (p :: q)
    | _, _ => none
def pyK (ρ : Nat → Option PyData) : List (DK × D) → Option (List (PyData × PyData))
  | [] => some []
  | (k, a) :: x => match D.py ρ a, pyK ρ x with
    | some p, some q => some (((match k with | .i i => .int i | .s s => .str ⟨s.toArray⟩), p) :: q)
    | _, _ => none
end
def Cell.py (ρ : Nat → Option PyData) : Cell → Option PyData
  | .lst xs => (pyL ρ xs).map .list
  | .dic kvs => (pyK ρ kvs).map .dict
/-- what a shared object holds, n levels of shared ones within one another -/
def rho : Nat → Mem → Nat → Option PyData
  | 0, _, _ => none
  | n + 1, m, i => (m[i]?).bind (Cell.py (rho n m))
def pyOf (m : Mem) (d : D) : Option PyData := d.py (rho 9 m)
/-- what == wants of its data -/
def eqOk (p : PyData) : Bool := SeqAt.shaped p

/-! ### small reckonings -/
def lineMax : Nat := 16777216
def cellOf (m : Mem) : D → Option Cell
  | .lst xs => some (.lst xs)
  | .dic kvs => some (.dic kvs)
  | .ref i => m[i]?
  | _ => none
/-- the items of a list or a tuple -/
def seqOf (m : Mem) : D → Option (List D)
  | .tup xs => some xs
  | .lst xs => some xs
  | .ref i => match m[i]? with
    | some (.lst xs) => some xs
    | _ => none
  | _ => none
def dicOf (m : Mem) : D → Option (List (DK × D))
  | .dic kvs => some kvs
  | .ref i => match m[i]? with
    | some (.dic kvs) => some kvs
    | _ => none
  | _ => none
def truth (m : Mem) : D → Option Bool
  | .non => some false
  | .bl b => some b
  | .int i => some (i != 0)
  | .str s => if s.length ≤ lineMax then some (!s.isEmpty) else none
  | .tup xs => some (!xs.isEmpty)
  | .lst xs => some (!xs.isEmpty)
  | .dic _ => none
  | .ref i => match m[i]? with
    | some (.lst xs) => some (!xs.isEmpty)
    | some (.dic kvs) => some (!kvs.isEmpty)
    | none => none
  | .cdic _ => none
inductive Ty where
  | str | int | bool | list | tuple | dict
  deriving DecidableEq, Repr
def tyOf (m : Mem) : D → Option (List Ty)
  | .non => some []
  | .bl _ => some [.bool, .int]
  | .int _ => some [.int]
  | .str _ => some [.str]
  | .tup _ => some [.tuple]
  | .lst _ => some [.list]
  | .dic _ => some [.dict]
  | .ref i => match m[i]? with
    | some (.lst _) => some [.list]
    | some (.dic _) => some [.dict]
    | none => none
  | .cdic _ => none
def isTy (m : Mem) (d : D) (ts : List Ty) : Option Bool := (tyOf m d).map fun us => ts.any fun t => us.any fun u => decide (u = t)
/-- a flat value: what `in` looks at -/
def D.flat : D → Bool
  | .non | .bl _ | .int _ | .str _ => true
  | _ => false
def eqF : D → D → Bool
  | .non, .non => true
  | .bl a, .bl b => a == b
  | .bl a, .int b => (if a then 1 else 0) == b
  | .int a, .bl b => a == (if b then 1 else 0)
  | .int a, .int b => a == b
  | .str a, .str b => a == b
  | _, _ => false
def keyOf : D → Option DK
  | .int i => some (.i i)
  | .str s => some (.s s)
  | _ => none
def DK.d : DK → D
  | .i z => .int z
  | .s z => .str z
def getK (k : DK) : List (DK × D) → Option D
  | [] => none
  | (l, v) :: r => if l = k then some v else getK k r
def putK (k : DK) (v : D) (kvs : List (DK × D)) : List (DK × D) :=
  if (kvs.any fun p => decide (p.1 = k)) = true then kvs.map (fun p => if p.1 = k then (p.1, v) else p) else kvs ++ [(k, v)]
/-- the answers of == over the items -/
def eqAll (m : Mem) (x : D) (ys : List D) : Option (List Bool) :=
  match pyOf m x, pyL (rho 9 m) ys with
  | some p, some qs => if eqOk p && eqOk (.list qs) then some (qs.map fun q => PyData.eqv q p) else none
  | _, _ => none
def inD (m : Mem) (x y : D) : Option Bool :=
  match seqOf m y with
  | some ys => match y with
    | .tup _ => if x.flat && ys.all D.flat then some (ys.any fun z => eqF z x) else none
    | _ => (eqAll m x ys).map fun bs => bs.any id
  | none => match y, x with
    | .cdic kvs, .str z => some (getK (.s z) kvs).isSome
    | y, x => match dicOf m y, keyOf x with
      | some kvs, some k => some (getK k kvs).isSome
      | _, _ => none
/-- a place in a row of n -/
def ixOf (n : Nat) (i : Int) : Option Nat := if 0 ≤ i then (if i < n then some i.toNat else none) else if -(n : Int) ≤ i then some (i + n).toNat else none
def idxD (m : Mem) (x y : D) : Option D :=
  match x, y with
  | .str s, .int i => if s.length ≤ lineMax then (ixOf s.length i).bind fun j => (s[j]?).map fun c => .str [c] else none
  | .cdic kvs, .str z => getK (.s z) kvs
  | x, y => match seqOf m x, y with
    | some xs, .int i => (ixOf xs.length i).bind fun j => xs[j]?
    | _, _ => match dicOf m x, keyOf y with
      | some kvs, some k => getK k kvs
      | _, _ => none
def sIx (n d : Nat) : Option Int → Nat
  | none => d
  | some v => if v < 0 then (v + (n : Int)).toNat else min v.toNat n
def cut {α : Type} (xs : List α) (lo hi : Option Int) : List α := (xs.drop (sIx xs.length 0 lo)).take (sIx xs.length xs.length hi - sIx xs.length 0 lo)
inductive Bop where
  | add | sub | mul | mod | div | pow
  deriving DecidableEq, Repr
def mulOk (i j : Int) : Bool := decide (i.natAbs < 2 ^ 64) || decide (j.natAbs < 2 ^ 64)
def binD : Bop → D → D → Option D
  | .add, .int i, .int j => some (.int (i + j))
  | .sub, .int i, .int j => some (.int (i - j))
  | .mul, .int i, .int j => if mulOk i j then some (.int (i * j)) else none
  | .mod, .int i, .int j => if 0 < j then some (.int (i % j)) else none
  | .div, .int i, .int j => if 0 < j ∧ j < 1073741824 then some (.int (i / j)) else none
  | .pow, .int i, .int j => if 0 ≤ j ∧ j ≤ 1000000 ∧ i.natAbs < 2 ^ 64 then some (.int (i ^ j.toNat)) else none
  | .add, .str s, .str t => if s.length + t.length ≤ lineMax then some (.str (s ++ t)) else none
  | .add, .lst xs, .lst ys => if xs.length + ys.length ≤ lineMax then some (.lst (xs ++ ys)) else none
  | .add, .tup xs, .tup ys => if xs.length + ys.length ≤ lineMax then some (.tup (xs ++ ys)) else none
  | _, _, _ => none
inductive Cop where
  | eq | ne | lt | le | gt | ge | in_ | nin | is_ | isn
  deriving DecidableEq, Repr
def eqD (m : Mem) (a b : D) : Option Bool := match pyOf m a, pyOf m b with
  | some p, some q => if eqOk p && eqOk q then some (PyData.eqv p q) else none
  | _, _ => none
def D.isNon : D → Bool
  | .non => true
  | _ => false
def cmpD (m : Mem) : Cop → D → D → Option Bool
  | .eq, a, b => eqD m a b
  | .ne, a, b => (eqD m a b).map (! ·)
  | .lt, .int i, .int j => some (decide (i < j))
  | .le, .int i, .int j => some (decide (i ≤ j))
  | .gt, .int i, .int j => some (decide (j < i))
  | .ge, .int i, .int j => some (decide (j ≤ i))
  | .in_, a, b => inD m a b
  | .nin, a, b => (inD m a b).map (! ·)
  | .is_, a, .non => some a.isNon
  | .isn, a, .non => some (!a.isNon)
  | _, _, _ => none
inductive Bi where
  | len | max2 | min2 | int | tuple | str | repr | abs
  deriving DecidableEq, Repr
def decStr (i : Int) : List Nat := (toString i : PySem.Str).cps.toList
def biD (m : Mem) : Bi → List D → Option D
  | .len, [.str s] => if s.length ≤ lineMax then some (.int s.length) else none
  | .len, [d] => match seqOf m d with
    | some xs => some (.int xs.length)
    | none => (dicOf m d).map fun kvs => .int kvs.length
  | .max2, [.int i, .int j] => some (.int (if j > i then j else i))
  | .min2, [.int i, .int j] => some (.int (if j < i then j else i))
  | .int, [.int i] => some (.int i)
  | .int, [.str s] => if s.length ≤ 640 then (intText? ⟨s.toArray⟩).map .int else none
  | .int, [.bl b] => some (.int (if b then 1 else 0))
  | .tuple, [d] => (seqOf m d).map .tup
  | .str, [.int i] => if i.natAbs.log2 < 1920 then some (.str (toString i : PySem.Str).cps.toList) else none
  | .abs, [.int i] => some (.int (if i < 0 then -i else i))
  | .repr, [d] => match pyOf m d with
    | some p => if PyData.canLay0 p && PyData.showable p && decide (PyData.depth p ≤ 30) && decide ((PyData.shown p).length ≤ lineMax) then some (.str (PyData.shown p).cps.toList) else none
    | none => none
  | _, _ => none
/-- methods of shared objects and of data: what comes back, what the shared ones are then -/
inductive Me where
  | pop1 | append | get2 | count | index
  deriving DecidableEq, Repr
def meOk (m : Mem) : Me → D → Bool
  | .get2, d => (dicOf m d).isSome
  | _, .tup _ => false
  | _, d => (seqOf m d).isSome
def meD (m : Mem) : Me → D → List D → Option (D × Mem)
  | .pop1, .ref r, [.int i] => match m[r]? with
    | some (.lst xs) => if -(2 ^ 63) ≤ i ∧ i < 2 ^ 63 then (ixOf xs.length i).bind fun j => (xs[j]?).map fun x => (x, m.set r (.lst (xs.eraseIdx j))) else none
    | _ => none
  | .append, .ref r, [d] => match m[r]? with
    | some (.lst xs) => if xs.length < lineMax then some (.non, m.set r (.lst (xs ++ [d]))) else none
    | _ => none
  | .get2, d, [k, x] => match dicOf m d, keyOf k with
    | some kvs, some k => some ((getK k kvs).getD x, m)
    | _, _ => none
  | .count, d, [x] => match d with
    | .tup _ => none
    | _ => match seqOf m d with
      | some xs => (eqAll m x xs).map fun bs => (.int (bs.countP id), m)
      | none => none
  | .index, d, [x] => match d with
    | .tup _ => none
    | _ => match seqOf m d with
      | some xs => ((eqAll m x xs).bind fun bs => bs.findIdx? id).map fun (j : Nat) => (D.int (j : Int), m)
      | none => none
  | _, _, _ => none

/-! ### the terms -/
inductive Tg where
  | nm (i : Nat) | tp (ts : List Nat) | sk
  deriving Repr
mutual
inductive E where
  | var (i : Nat) | con (d : D) | glo (i : Nat)
  | tup (es : Es) | mk (l : L) | mkr (l : L)
  | bin (o : Bop) (a b : E) | neg (a : E) | cmp (o : Cop) (a b : O) | chain (o p : Cop) (a b c : E)
  | not (a : O) | and (a b : E) | or (a b : E) | ite (c : T) (a b : E)
  | idx (a : O) (b : E) | sl (a : E) (lo hi : Eo)
  | call (f : Nat) (es : As) | callk (f : Nat) (es : Es) (perm : List Nat) | app (i : Nat) (es : Es)
  | isin (a : O) (ts : List Ty) | bi (b : Bi) (es : Os) | attr (i : Nat) (f : List Nat) | meth (m : Me) (a : O) (es : Es) | all (l : L)
  deriving Repr
/-- an operand that is looked at alone: a value, or a list of one's own -/
inductive O where
  | ex (e : E) | peek (i : Nat)
  deriving Repr
/-- a test -/
inductive T where
  | val (o : O) | cmp (o : Cop) (a b : O) | not (t : T) | and (a b : T) | or (a b : T)
  deriving Repr
inductive Es where
  | nil | cons (e : E) (r : Es)
  deriving Repr
/-- a call's arguments: values, lambdas, lambdas handed on -/
inductive As where
  | nil | dat (e : E) (r : As) | lam (l : Nat) (caps : List Nat) (r : As) | pas (i : Nat) (r : As)
  deriving Repr
inductive Os where
  | nil | cons (e : O) (r : Os)
  deriving Repr
inductive Eo where
  | no | ex (e : E)
  deriving Repr
inductive To where
  | no | ex (e : T)
  deriving Repr
inductive L where
  | disp (es : Es) | copy (e : O) | comp (t : Tg) (s : Src) (c : To) (e : E) (vs : List Nat) | cat (a b : O) | slice (a : O) (lo hi : Eo)
  | ddisp (ks : List DK) (es : Es) | dict (l : L) | litems (a : E) | chars (a : E)
  deriving Repr
inductive Src where
  | it (e : E) | rng (a : E) | rng2 (a b : E) | enm (a : E) | zip (a b : E) | zip3 (a b c : O) | items (a : O)
  deriving Repr
end
mutual
inductive S where
  | asg (t : Tg) (e : E) | par (i j : Nat) (a b : E) | own (i : Nat) (l : L) | frz (i : Nat) | exp (e : E)
  | oapp (i : Nat) (e : E) | oext (i : Nat) (l : L) | oextv (i : Nat) (e : O) | oset (i : Nat) (k e : E) | opop (t : Nat) (i : Nat)
  | setr (a k e : E)
  | ife (c : T) (a b : Ss) | for_ (t : Tg) (s : Src) (b : Ss) | whl (n : Nat) (c : T) (b : Ss)
  | ret (e : E) | retn | raise (c : Nat) (fs : List (List Nat)) (es : Es) | try_ (b : Ss) (hs : Hs) | aug (i : Nat) (o : Bop) (e : E) | pass | brk | cnt
  deriving Repr
inductive Ss where
  | nil | cons (s : S) (r : Ss)
  deriving Repr
inductive Hs where
  | nil | cons (c : Nat) (i : Option Nat) (b : Ss) (r : Hs)
  deriving Repr
end

/-! ### what they come to -/
def R.bind {α β : Type} (r : R α) (f : α → Mem → R β) : R β := match r with
  | .ok a m => f a m
  | .ex x m => .ex x m
  | .bad => .bad
def R.of {α : Type} (o : Option α) (m : Mem) : R α := match o with
  | some a => .ok a m
  | none => .bad
inductive SR where
  | nx (e : Env) (m : Mem) | rt (d : D) (m : Mem) | bk (e : Env) (m : Mem) | ct (e : Env) (m : Mem) | ex (x : Ex) (e : Env) (m : Mem) | bad
  deriving Repr
def R.st {α : Type} (r : R α) (e : Env) (f : α → Mem → SR) : SR := match r with
  | .ok a m => f a m
  | .ex x m => .ex x e m
  | .bad => .bad
def getV (e : Env) (i : Nat) : Option D := match e[i]? with
  | some (.val d) => some d
  | _ => none
def getAll (e : Env) : List Nat → Option (List D)
  | [] => some []
  | i :: r => match getV e i, getAll e r with
    | some d, some ds => some (d :: ds)
    | _, _ => none
def noExc (e : Env) : Env := e.map fun s => match s with
  | .exc _ => .no
  | s => s
def setAll (e : Env) : List Nat → List D → Option Env
  | [], [] => some e
  | i :: r, d :: ds => setAll (e.set i (.val d)) r ds
  | _, _ => none
def setTg (m : Mem) (e : Env) : Tg → D → Option Env
  | .nm i, d => some (e.set i (.val d))
  | .sk, _ => some e
  | .tp ts, d => match d with
    | .tup ds => setAll e ts ds
    | _ => none
abbrev Guards := List (Nat × Cell)
def guardOk (m : Mem) : Guards → Bool
  | [] => true
  | (i, c) :: r => (match m[i]? with | some c' => Cell.beq c c' | none => false) && guardOk m r
def guardOf (m : Mem) : D → Guards
  | .ref i => match m[i]? with
    | some c => [(i, c)]
    | none => []
  | _ => []
def enumFrom (n : Int) : List D → List D
  | [] => []
  | d :: r => .tup [.int n, d] :: enumFrom (n + 1) r
def rangeD (a b : Int) : List D := (List.range (b - a).toNat).map fun (k : Nat) => D.int (a + (k : Int))
def zipD : List D → List D → List D
  | a :: x, b :: y => .tup [a, b] :: zipD x y
  | _, _ => []
def zipD3 : List D → List D → List D → List D
  | a :: x, b :: y, c :: z => .tup [a, b, c] :: zipD3 x y z
  | _, _, _ => []
/-- a comprehension's turns -/
def compL (g : Guards) (set : Mem → D → Option Env) (c : Env → Mem → R Bool) (f : Env → Mem → R D) : List D → Mem → R (List D)
  | [], m => if guardOk m g then .ok [] m else .bad
  | d :: r, m => if guardOk m g then (match set m d with
      | some e => match c e m with
        | .ok b m1 => if b then (match f e m1 with
            | .ok x m2 => match compL g set c f r m2 with
              | .ok xs m3 => .ok (x :: xs) m3
              | _ => .bad
            | _ => .bad) else compL g set c f r m1
        | _ => .bad
      | none => .bad) else .bad
def forL (g : Guards) (set : Mem → Env → D → Option Env) (f : Env → Mem → SR) : List D → Env → Mem → SR
  | [], e, m => if guardOk m g then .nx e m else .bad
  | d :: r, e, m => if guardOk m g then (match set m e d with
      | some e1 => match f e1 m with
        | .nx e2 m2 => forL g set f r e2 m2
        | .ct e2 m2 => forL g set f r e2 m2
        | .bk e2 m2 => .nx e2 m2
        | x => x
      | none => .bad) else .bad
def whileL (c : Env → Mem → R Bool) (f : Env → Mem → SR) : Nat → Env → Mem → SR
  | 0, _, _ => .bad
  | n + 1, e, m => (c e m).st e fun b m1 => if b then (match f e m1 with
      | .nx e2 m2 => whileL c f n e2 m2
      | .ct e2 m2 => whileL c f n e2 m2
      | .bk e2 m2 => .nx e2 m2
      | x => x) else .nx e m1
def permD {α : Type} (vs : List α) : List Nat → Option (List α)
  | [] => some []
  | i :: r => match vs[i]?, permD vs r with
    | some d, some ds => some (d :: ds)
    | _, _ => none
def wipeE (e : Env) : List Nat → Env
  | [] => e
  | i :: r => (wipeE e r).set i .no
def buildK : List DK → List D → List (DK × D) → Option (List (DK × D))
  | [], [], acc => some acc
  | k :: ks, d :: ds, acc => buildK ks ds (putK k d acc)
  | _, _, _ => none
def pairsK (m : Mem) : List D → List (DK × D) → Option (List (DK × D))
  | [], acc => some acc
  | .tup [k, d] :: r, acc => match keyOf k with
    | some k => pairsK m r (putK k d acc)
    | none => none
  | _ :: _, _ => none

section
variable (F : Nat → List Arg → Mem → R D) (C : Nat → Option D) (sub : Nat → Nat → Bool)
mutual
def evE : E → Env → Mem → R D
  | .var i, e, m => R.of (getV e i) m
  | .con d, _, m => .ok d m
  | .glo i, _, m => R.of (C i) m
  | .tup es, e, m => (evEs es e m).bind fun ds m => .ok (.tup ds) m
  | .mk l, e, m => (evL l e m).bind fun c m => .ok (match c with | .lst xs => .lst xs | .dic kvs => .dic kvs) m
  | .mkr l, e, m => (evL l e m).bind fun c m => .ok (.ref m.length) (m ++ [c])
  | .bin o a b, e, m => (evE a e m).bind fun x m => (evE b e m).bind fun y m => R.of (binD o x y) m
  | .neg a, e, m => (evE a e m).bind fun x m => match x with
    | .int i => .ok (.int (-i)) m
    | _ => .bad
  | .cmp o a b, e, m => (evO a e m).bind fun x m => (evO b e m).bind fun y m => R.of ((cmpD m o x y).map .bl) m
  | .chain o p a b c, e, m => (evE a e m).bind fun x m => (evE b e m).bind fun y m => match cmpD m o x y with
    | some true => (evE c e m).bind fun z m => R.of ((cmpD m p y z).map .bl) m
    | some false => .ok (.bl false) m
    | none => .bad
  | .not a, e, m => (evO a e m).bind fun x m => R.of ((truth m x).map fun b => .bl (!b)) m
  | .and a b, e, m => (evE a e m).bind fun x m => match truth m x with
    | some true => evE b e m
    | some false => .ok x m
    | none => .bad
  | .or a b, e, m => (evE a e m).bind fun x m => match truth m x with
    | some true => .ok x m
    | some false => evE b e m
    | none => .bad
  | .ite c a b, e, m => (evT c e m).bind fun x m => if x then evE a e m else evE b e m
  | .idx a b, e, m => (evO a e m).bind fun x m => (evE b e m).bind fun y m => R.of (idxD m x y) m
  | .sl a lo hi, e, m => (evE a e m).bind fun x m => (evEo lo e m).bind fun l m => (evEo hi e m).bind fun h m => match x with
    | .tup xs => .ok (.tup (cut xs l h)) m
    | .lst xs => .ok (.lst (cut xs l h)) m
    | .str s => if s.length ≤ lineMax then .ok (.str (cut s l h)) m else .bad
    | _ => .bad
  | .call f es, e, m => (evAs es e m).bind fun ds m => F f ds m
  | .callk f es perm, e, m => (evEs es e m).bind fun ds m => match permD ds perm with
    | some ds => F f (ds.map .dat) m
    | none => .bad
  | .app i es, e, m => match e[i]? with
    | some (.clo l cs) => (evEs es e m).bind fun ds m => F l (cs.map .dat ++ ds.map .dat) m
    | _ => .bad
  | .isin a ts, e, m => (evO a e m).bind fun x m => R.of ((isTy m x ts).map .bl) m
  | .bi b es, e, m => (evOs es e m).bind fun ds m => R.of (biD m b ds) m
  | .attr i f, e, m => match e[i]? with
    | some (.exc x) => R.of (x.fl.lookup f) m
    | _ => .bad
  | .meth o a es, e, m => (evO a e m).bind fun x m => if meOk m o x then (evEs es e m).bind fun ds m => (match meD m o x ds with
    | some (d, m) => .ok d m
    | none => .bad) else .bad
  | .all l, e, m => (evL l e m).bind fun c m => match c with
    | .lst xs => if xs.all fun x => (match x with | .bl _ => true | _ => false) then .ok (.bl (xs.all fun x => (match x with | .bl b => b | _ => false))) m else .bad
    | _ => .bad
/-- an operand that is looked at alone -/
def evO : O → Env → Mem → R D
  | .ex a, e, m => evE a e m
  | .peek i, e, m => match e[i]? with
    | some (.own (.lst xs)) => .ok (.lst xs) m
    | some (.own (.dic kvs)) => .ok (.dic kvs) m
    | _ => .bad
def evOs : Os → Env → Mem → R (List D)
  | .nil, _, m => .ok [] m
  | .cons a r, e, m => (evO a e m).bind fun x m => (evOs r e m).bind fun xs m => .ok (x :: xs) m
def evT : T → Env → Mem → R Bool
  | .val a, e, m => (evO a e m).bind fun x m => R.of (truth m x) m
  | .cmp o a b, e, m => (evO a e m).bind fun x m => (evO b e m).bind fun y m => R.of (cmpD m o x y) m
  | .not a, e, m => (evT a e m).bind fun b m => .ok (!b) m
  | .and a b, e, m => (evT a e m).bind fun x m => if x then evT b e m else .ok false m
  | .or a b, e, m => (evT a e m).bind fun x m => if x then .ok true m else evT b e m
def evTo : To → Env → Mem → R Bool
  | .no, _, m => .ok true m
  | .ex c, e, m => evT c e m
def evEs : Es → Env → Mem → R (List D)
  | .nil, _, m => .ok [] m
  | .cons a r, e, m => (evE a e m).bind fun x m => (evEs r e m).bind fun xs m => .ok (x :: xs) m
def evAs : As → Env → Mem → R (List Arg)
  | .nil, _, m => .ok [] m
  | .dat a r, e, m => (evE a e m).bind fun x m => (evAs r e m).bind fun xs m => .ok (.dat x :: xs) m
  | .lam l caps r, e, m => match getAll e caps with
    | some cs => (evAs r e m).bind fun xs m => .ok (.clo l cs :: xs) m
    | none => .bad
  | .pas i r, e, m => match e[i]? with
    | some (.clo l cs) => (evAs r e m).bind fun xs m => .ok (.clo l cs :: xs) m
    | _ => .bad
def evEo : Eo → Env → Mem → R (Option Int)
  | .no, _, m => .ok none m
  | .ex a, e, m => (evE a e m).bind fun x m => match x with
    | .int i => .ok (some i) m
    | _ => .bad
def evL : L → Env → Mem → R Cell
  | .disp es, e, m => (evEs es e m).bind fun ds m => .ok (.lst ds) m
  | .copy a, e, m => (evO a e m).bind fun x m => match seqOf m x with
    | some xs => .ok (.lst xs) m
    | none => match dicOf m x with
      | some kvs => .ok (.lst (kvs.map fun kv => kv.1.d)) m
      | none => .bad
  | .chars a, e, m => (evE a e m).bind fun x m => match x with
    | .str s => if s.length ≤ lineMax then .ok (.lst (s.map fun c => .str [c])) m else .bad
    | _ => .bad
  | .comp t s c f vs, e, m => (evSrc s e m).bind fun ig m =>
    if ig.1.length ≤ lineMax then (compL ig.2 (fun m d => setTg m (wipeE e vs) t d) (fun e m => evTo c e m) (fun e m => evE f e m) ig.1 m).bind fun xs m => .ok (.lst xs) m else .bad
  | .cat a b, e, m => (evO a e m).bind fun x m => (evO b e m).bind fun y m => match x, y with
    | .tup _, _ => .bad
    | _, .tup _ => .bad
    | x, y => match seqOf m x, seqOf m y with
      | some xs, some ys => if xs.length + ys.length ≤ lineMax then .ok (.lst (xs ++ ys)) m else .bad
      | _, _ => .bad
  | .slice a lo hi, e, m => (evO a e m).bind fun x m => (evEo lo e m).bind fun l m => (evEo hi e m).bind fun h m => match x with
    | .tup _ => .bad
    | x => match seqOf m x with
      | some xs => .ok (.lst (cut xs l h)) m
      | none => .bad
  | .ddisp ks es, e, m => (evEs es e m).bind fun ds m => match buildK ks ds [] with
    | some kvs => .ok (.dic kvs) m
    | none => .bad
  | .dict l, e, m => (evL l e m).bind fun c m => match c with
    | .lst xs => match pairsK m xs [] with
      | some kvs => .ok (.dic kvs) m
      | none => .bad
    | _ => .bad
  | .litems a, e, m => (evE a e m).bind fun x m => match x with
    | .ref i => match m[i]? with
      | some (.dic kvs) => .ok (.lst (kvs.map fun kv => .tup [kv.1.d, kv.2])) m
      | _ => .bad
    | _ => .bad
def evSrc : Src → Env → Mem → R (List D × Guards)
  | .it a, e, m => (evE a e m).bind fun x m => match x with
    | .str s => .ok (s.map fun c => .str [c], []) m
    | .dic kvs => .ok (kvs.map fun kv => kv.1.d, []) m
    | x => match seqOf m x with
      | some xs => .ok (xs, guardOf m x) m
      | none => .bad
  | .rng a, e, m => (evE a e m).bind fun x m => match x with
    | .int i => if -(2 ^ 62) ≤ i ∧ i < 2 ^ 62 then .ok (rangeD 0 i, []) m else .bad
    | _ => .bad
  | .rng2 a b, e, m => (evE a e m).bind fun x m => (evE b e m).bind fun y m => match x, y with
    | .int i, .int j => if -(2 ^ 62) ≤ i ∧ i < 2 ^ 62 ∧ -(2 ^ 62) ≤ j ∧ j < 2 ^ 62 then .ok (rangeD i j, []) m else .bad
    | _, _ => .bad
  | .enm a, e, m => (evE a e m).bind fun x m => match x with
    | .lst xs => .ok (enumFrom 0 xs, []) m
    | .ref i => match m[i]? with
      | some (.lst xs) => .ok (enumFrom 0 xs, guardOf m (.ref i)) m
      | _ => .bad
    | _ => .bad
  | .zip a b, e, m => (evE a e m).bind fun x m => (evE b e m).bind fun y m => match x, y with
    | .tup xs, .tup ys => .ok (zipD xs ys, []) m
    | .tup _, _ => .bad
    | _, .tup _ => .bad
    | x, y => match seqOf m x, seqOf m y with
      | some xs, some ys => .ok (zipD xs ys, guardOf m x ++ guardOf m y) m
      | _, _ => .bad
  | .zip3 _ _ _, _, _ => .bad
  | .items _, _, _ => .bad
end
mutual
def evS : S → Env → Mem → SR
  | .asg t a, e, m => (evE F C a e m).st e fun d m => match setTg m e t d with
    | some e => .nx e m
    | none => .bad
  | .par i j a b, e, m => (evE F C a e m).st e fun x m => (evE F C b e m).st e fun y m => .nx ((e.set i (.val x)).set j (.val y)) m
  | .own i l, e, m => (evL F C l e m).st e fun c m => .nx (e.set i (.own c)) m
  | .frz i, e, m => match e[i]? with
    | some (.own (.lst xs)) => .nx (e.set i (.val (.lst xs))) m
    | some (.own (.dic kvs)) => .nx (e.set i (.val (.dic kvs))) m
    | _ => .bad
  | .exp a, e, m => (evE F C a e m).st e fun _ m => .nx e m
  | .oapp i a, e, m => match e[i]? with
    | some (.own (.lst xs)) => (evE F C a e m).st e fun d m => if xs.length < lineMax then .nx (e.set i (.own (.lst (xs ++ [d])))) m else .bad
    | _ => .bad
  | .oext i l, e, m => match e[i]? with
    | some (.own (.lst xs)) => (evL F C l e m).st e fun c m => match c with
      | .lst ys => if xs.length + ys.length ≤ lineMax then .nx (e.set i (.own (.lst (xs ++ ys)))) m else .bad
      | _ => .bad
    | _ => .bad
  | .oextv _ _, _, _ => .bad
  | .oset i k a, e, m => (evE F C a e m).st e fun d m => (evE F C k e m).st e fun k m => match e[i]?, k with
    | some (.own (.lst xs)), .int z => match ixOf xs.length z with
      | some j => .nx (e.set i (.own (.lst (xs.set j d)))) m
      | none => .bad
    | some (.own (.dic kvs)), k => match keyOf k with
      | some k => if kvs.length < lineMax then .nx (e.set i (.own (.dic (putK k d kvs)))) m else .bad
      | none => .bad
    | _, _ => .bad
  | .opop t i, e, m => match e[i]? with
    | some (.own (.lst xs)) => match xs[xs.length - 1]? with
      | some d => .nx ((e.set i (.own (.lst xs.dropLast))).set t (.val d)) m
      | none => .bad
    | _ => .bad
  | .setr a k b, e, m => (evE F C b e m).st e fun d m => (evE F C a e m).st e fun x m => (evE F C k e m).st e fun k m => match x with
    | .ref r => match m[r]?, k with
      | some (.lst xs), .int z => match ixOf xs.length z with
        | some j => .nx e (m.set r (.lst (xs.set j d)))
        | none => .bad
      | some (.dic kvs), k => match keyOf k with
        | some k => if kvs.length < lineMax then .nx e (m.set r (.dic (putK k d kvs))) else .bad
        | none => .bad
      | _, _ => .bad
    | _ => .bad
  | .ife c a b, e, m => (evT F C c e m).st e fun x m => if x then evSs a e m else evSs b e m
  | .for_ t s b, e, m => (evSrc F C s e m).st e fun ig m => forL ig.2 (fun m e d => setTg m e t d) (fun e m => evSs b e m) ig.1 e m
  | .whl n c b, e, m => whileL (fun e m => evT F C c e m) (fun e m => evSs b e m) n e m
  | .ret a, e, m => (evE F C a e m).st e fun d m => .rt d m
  | .retn, _, m => .rt .non m
  | .raise c fs es, e, m => (evEs F C es e m).st e fun ds m => if fs.length = ds.length then .ex ⟨c, fs.zip ds⟩ e m else .bad
  | .try_ b hs, e, m => match evSs b e m with
    | .ex x e1 m1 => evHs hs x e1 m1
    | r => r
  | .aug i o a, e, m => match getV e i with
    | some x => (evE F C a e m).st e fun y m => match binD o x y with
      | some d => .nx (e.set i (.val d)) m
      | none => .bad
    | none => .bad
  | .pass, e, m => .nx e m
  | .brk, e, m => .bk e m
  | .cnt, e, m => .ct e m
def evSs : Ss → Env → Mem → SR
  | .nil, e, m => .nx e m
  | .cons s r, e, m => match evS s e m with
    | .nx e1 m1 => evSs r e1 m1
    | x => x
def evHs : Hs → Ex → Env → Mem → SR
  | .nil, x, e, m => .ex x e m
  | .cons c i b r, x, e, m => if sub x.c x.c then (if sub x.c c then (match i with
      | some i => match evSs b (e.set i (.exc x)) m with
        | .nx e1 m1 => .nx ((noExc e1).set i .no) m1
        | .bk e1 m1 => .bk ((noExc e1).set i .no) m1
        | .ct e1 m1 => .ct ((noExc e1).set i .no) m1
        | .rt d m1 => .rt d m1
        | _ => .bad
      | none => match evSs b e m with
        | .ex _ _ _ => .bad
        | y => y) else evHs r x e m) else .bad
end
end
/-- a def: how many parameters, how many names, its body -/
structure Fn where
  np : Nat
  ns : Nat
  body : Ss
/-- a text: its defs (and lambdas), its constants, which class is beneath which -/
structure Txt where
  fns : Nat → Option Fn
  con : Nat → Option D
  sub : Nat → Nat → Bool
def Arg.slot : Arg → Slot
  | .dat d => .val d
  | .clo l cs => .clo l cs
def argsE (n : Nat) (ds : List Arg) : Env := ds.map Arg.slot ++ List.replicate (n - ds.length) .no
def SR.out : SR → R D
  | .nx _ m => .ok .non m
  | .rt d m => .ok d m
  | .ex x _ m => .ex x m
  | _ => .bad
def evF (T : Txt) : Nat → Nat → List Arg → Mem → R D
  | 0, _, _, _ => .bad
  | k + 1, f, ds, m => match T.fns f with
    | some fn => if ds.length = fn.np then (evSs (evF T k) T.con T.sub fn.body (argsE fn.ns ds) m).out else .bad
    | none => .bad
end Ev
/-! Ev1: what a tree means in the abstract heap; how it is kept. -/
namespace Ev
open PySem PySem.Spec L2

def toStr (s : List Nat) : Str := ⟨s.toArray⟩
def toKey : DK → Key
  | .i z => .inl z
  | .s z => .inr (toStr z)
theorem toStr_inj {a b : List Nat} (h : toStr a = toStr b) : a = b := by
  unfold toStr at h
  injection h with h
  exact congrArg Array.toList h
theorem toKey_inj {a b : DK} (h : toKey a = toKey b) : a = b := by
  cases a <;> cases b <;> simp only [toKey] at h
  · injection h with h; rw [h]
  · cases h
  · cases h
  · injection h with h; rw [toStr_inj h]
theorem kV_toKey_i (z : Int) : kV (toKey (.i z)) = .int z := rfl
theorem kV_toKey_s (z : List Nat) : kV (toKey (.s z)) = .str (toStr z) := rfl

/-- what a lambda of the text is: its parts, whose names it captures (in the terms' order), its parameters -/
structure LamI where
  qual : Str
  params : Arguments
  body : Expr
  scope : Scope
  caps : List Str
  ps : List Str
/-- frozen lists and dicts; the shared objects by number -/
structure Gh where
  fz : Addr → Prop
  rf : List Addr

def CellO (c : Addr) (o : Obj) : HO := .ext fun h => h.get? c = some o
def LamO (f : Addr) (I : LamI) (cl : List (Str × Addr)) (pm : Value) (c' : Addr) (ctv : Value) : HO :=
  CellO f (PySem.W.kla_obj "<lambda>" I.qual I.params I.body I.scope cl pm c' ctv)

/-- a written dict's values by key -/
def KVs (K : PySem.W.Frag) (a : Addr) (vs : List (Key × V)) : Prop := ∀ z : Str, match valV vs (.inr z) with
  | some v => ∃ u, PySem.W.nsIn K a z = some (some u) ∧ RelV v u
  | none => PySem.W.nsIn K a z = some none
/-- a list that nobody writes: frozen, or of the module -/
def LsT (K : PySem.W.Frag) (G : Gh) (H : Hp) (a : Addr) (xs : List V) : Prop := (Rd H a (.lst xs) ∧ G.fz a) ∨
  ∃ (o : Obj) (its : Array Value) (n : Nat), K.lookup a = some o ∧ o.cls = .type "list" ∧ o.dict = none ∧ o.data = .seq its n ∧ its.size ≤ sizeLine ∧ Vals xs its.toList
theorem LsT.sq {K : PySem.W.Frag} {G : Gh} {H : Hp} {a : Addr} {xs : List V} (h : LsT K G H a xs) : SqL K H a xs := h.imp (fun z => z.1) id
section
variable (K : PySem.W.Frag) (w : World) (T : List (Addr × Str))
mutual
/-- the value v is the tree d -/
inductive Rep (G : Gh) (H : Hp) : V → D → Prop
  | non : Rep G H .non .non
  | bl (b : Bool) : Rep G H (.bl b) (.bl b)
  | int (i : Int) : Rep G H (.int i) (.int i)
  | str (s : List Nat) : Rep G H (.str (toStr s)) (.str s)
  | tup {a : Addr} {xs : List V} {ds : List D} : SqT K H a xs → RepL G H xs ds → Rep G H (.ref a) (.tup ds)
  | lst {a : Addr} {xs : List V} {ds : List D} : LsT K G H a xs → RepL G H xs ds → Rep G H (.ref a) (.lst ds)
  | dic {a : Addr} {ob : Obj} {ks : List (Key × V)} {ds : List (DK × D)} : H a = some (.frz ob (.dK ks)) → RepK G H ks ds → Rep G H (.ref a) (.dic ds)
  | cdic {a : Addr} {es : Array DictEntry} {n : Nat} {ks : List (Key × V)} {ds : List (DK × D)} : KDict K w a es n → KVs K a ks → RepK G H ks ds → Rep G H (.ref a) (.cdic ds)
  | ref {i : Nat} {a : Addr} : G.rf[i]? = some a → Rep G H (.ref a) (.ref i)
inductive RepL (G : Gh) (H : Hp) : List V → List D → Prop
  | nil : RepL G H [] []
  | cons {v : V} {d : D} {vs : List V} {ds : List D} : Rep G H v d → RepL G H vs ds → RepL G H (v :: vs) (d :: ds)
inductive RepK (G : Gh) (H : Hp) : List (Key × V) → List (DK × D) → Prop
  | nil : RepK G H [] []
  | cons {k : DK} {v : V} {d : D} {vs : List (Key × V)} {ds : List (DK × D)} : Rep G H v d → RepK G H vs ds → RepK G H ((toKey k, v) :: vs) ((k, d) :: ds)
end
/-- a shared object -/
def CellRep (G : Gh) (H : Hp) (a : Addr) : Cell → Prop
  | .lst ds => ∃ xs, H a = some (.lst xs) ∧ RepL K w G H xs ds
  | .dic ds => ∃ ks, H a = some (.dK ks) ∧ RepK K w G H ks ds
/-- the shared objects, the frozen ones -/
structure SI (G : Gh) (H : Hp) (m : Mem) : Prop where
  len : G.rf.length = m.length
  nd : G.rf.Nodup
  at_ : ∀ (i : Nat) (a : Addr) (c : Cell), G.rf[i]? = some a → m[i]? = some c → CellRep K w G H a c
  fz : ∀ a, G.fz a → ∃ o, H a = some o
  dj : ∀ a, G.fz a → a ∉ G.rf
  tab : LamX.Tabs T H
end
def isLD : HO → Prop
  | .lst _ => True
  | .dK _ => True
  | _ => False
/-- what a tree's meaning leans on -/
structure Lift (G : Gh) (H : Hp) (G' : Gh) (H' : Hp) : Prop where
  fz : ∀ a, G.fz a → G'.fz a
  rf : ∃ l, G'.rf = G.rf ++ l
  keep : ∀ a o, H a = some o → a ∉ G.rf → (∀ ps, o ≠ .tbl ps) → (isLD o → G.fz a) → H' a = some o
/-- the tables of the lambdas' code stay -/
theorem tabs_keep {T : List (Addr × Str)} {H H' : Hp} (t : LamX.Tabs T H) (k1 : ∀ b ps, H b = some (.tbl ps) → H' b = some (.tbl ps)) (k2 : ∀ b φ, H b = some (.ext φ) → H' b = some (.ext φ)) : LamX.Tabs T H' := fun p hp => by
  obtain ⟨ps, h1, h2, h3⟩ := t p hp
  refine ⟨ps, k1 _ _ h1, h2, fun pos cv hc => ?_⟩
  obtain ⟨c, e1, e2⟩ := h3 pos cv hc
  exact ⟨c, e1, k2 _ _ e2⟩
/-- from one heap to a later one -/
structure Ext (G : Gh) (H : Hp) (G' : Gh) (H' : Hp) : Prop where
  fz : ∀ a, G.fz a → G'.fz a
  rf : ∃ l, G'.rf = G.rf ++ l
  keep : ∀ a o, H a = some o → a ∉ G.rf → (∀ ps, o ≠ .tbl ps) → H' a = some o
  tb : ∀ a ps, H a = some (.tbl ps) → ∃ more, H' a = some (.tbl (ps ++ more))
  dom : ∀ a o, H a = some o → ∃ o', H' a = some o'
  nf : ∀ a, G'.fz a → G.fz a ∨ H a = none
  nr : ∀ a, a ∈ G'.rf → a ∈ G.rf ∨ H a = none

section
variable {K : PySem.W.Frag} {w : World} {T : List (Addr × Str)} {G G' G'' : Gh} {H H' H'' : Hp} {m m' : Mem}
theorem Ext.toLift (x : Ext G H G' H') : Lift G H G' H' := ⟨x.fz, x.rf, fun a o h n t _ => x.keep a o h n t⟩
theorem Ext.refl : Ext G H G H := ⟨fun _ h => h, ⟨[], by simp⟩, fun _ _ h _ _ => h, fun _ _ h => ⟨#[], by simpa using h⟩, fun _ o h => ⟨o, h⟩, fun _ h => .inl h, fun _ h => .inl h⟩
theorem Ext.back {a : Addr} (x : Ext G H G' H') (h : H' a = none) : H a = none := by
  cases e : H a with
  | none => rfl
  | some o => obtain ⟨o', e'⟩ := x.dom a o e; rw [h] at e'; cases e'
theorem Ext.trans (x : Ext G H G' H') (y : Ext G' H' G'' H'') : Ext G H G'' H'' where
  fz := fun a h => y.fz a (x.fz a h)
  rf := by
    obtain ⟨l, e⟩ := x.rf
    obtain ⟨l', e'⟩ := y.rf
    exact ⟨l ++ l', by rw [e', e, List.append_assoc]⟩
  keep := fun a o h n t => by
    have h1 := x.keep a o h n t
    refine y.keep a o h1 (fun hm => ?_) t
    rcases x.nr a hm with q | q
    · exact n q
    · rw [h] at q; cases q
  tb := fun a ps h => by
    obtain ⟨m1, e1⟩ := x.tb a ps h
    obtain ⟨m2, e2⟩ := y.tb a _ e1
    exact ⟨m1 ++ m2, by rw [e2, Array.append_assoc]⟩
  dom := fun a o h => by
    obtain ⟨o', h'⟩ := x.dom a o h
    exact y.dom a o' h'
  nf := fun a h => by
    rcases y.nf a h with q | q
    · exact x.nf a q
    · exact .inr (x.back q)
  nr := fun a h => by
    rcases y.nr a h with q | q
    · exact x.nr a q
    · exact .inr (x.back q)
theorem Lift.ref {i : Nat} {a : Addr} (x : Lift G H G' H') (h : G.rf[i]? = some a) : G'.rf[i]? = some a := by
  obtain ⟨l, e⟩ := x.rf
  rw [e, List.getElem?_append_left]
  · exact h
  · exact (List.getElem?_eq_some_iff.mp h).1
/-- what stands at a shared object's place -/
theorem SI.ld (s : SI K w T G H m) {a : Addr} (h : a ∈ G.rf) : ∃ o, H a = some o ∧ isLD o := by
  obtain ⟨i, hi⟩ := List.getElem?_of_mem h
  have hl : i < m.length := by rw [← s.len]; exact (List.getElem?_eq_some_iff.mp hi).1
  have := s.at_ i a m[i] hi (List.getElem?_eq_getElem hl)
  cases hc : m[i] with
  | lst ds => rw [hc] at this; obtain ⟨xs, e, _⟩ := this; exact ⟨_, e, trivial⟩
  | dic ds => rw [hc] at this; obtain ⟨xs, e, _⟩ := this; exact ⟨_, e, trivial⟩
theorem SI.out (s : SI K w T G H m) {a : Addr} {o : HO} (h : H a = some o) (n : ¬ isLD o) : a ∉ G.rf := fun hm => by
  obtain ⟨o', e, l⟩ := s.ld hm
  rw [h] at e; cases e; exact n l
theorem Lift.keepO (x : Lift G H G' H') (s : SI K w T G H m) {a : Addr} {o : HO} (h : H a = some o) (n : ¬ isLD o) (t : ∀ ps, o ≠ .tbl ps) : H' a = some o := x.keep a o h (s.out h n) t (fun z => (n z).elim)
theorem Lift.rd (x : Lift G H G' H') (s : SI K w T G H m) {a : Addr} {o : HO} (h : Rd H a o) (f : G.fz a) (t : ∀ ps, o ≠ .tbl ps) : Rd H' a o := by
  rcases h with h | ⟨ob, h⟩
  · exact .inl (x.keep a o h (s.dj a f) t (fun _ => f))
  · exact .inr ⟨ob, x.keep a _ h (s.dj a f) (fun ps q => nomatch q) (fun _ => f)⟩
theorem Lift.lsT (x : Lift G H G' H') (s : SI K w T G H m) {a : Addr} {xs : List V} (h : LsT K G H a xs) : LsT K G' H' a xs := by
  rcases h with ⟨h1, h2⟩ | h
  · exact .inl ⟨x.rd s h1 h2 (fun _ q => nomatch q), x.fz _ h2⟩
  · exact .inr h
theorem Lift.sqT (x : Lift G H G' H') (s : SI K w T G H m) {a : Addr} {xs : List V} (h : SqT K H a xs) : SqT K H' a xs := by
  rcases h with (h | ⟨ob, h⟩) | h
  · exact .inl (.inl (x.keepO s h (fun q => q) (fun ps q => nomatch q)))
  · exact .inl (.inr ⟨ob, x.keepO s h (fun q => q) (fun ps q => nomatch q)⟩)
  · exact .inr h
mutual
theorem Rep.lift (x : Lift G H G' H') (s : SI K w T G H m) : ∀ {v : V} {d : D}, Rep K w G H v d → Rep K w G' H' v d
  | _, _, .non => .non
  | _, _, .bl b => .bl b
  | _, _, .int i => .int i
  | _, _, .str z => .str z
  | _, _, .tup h r => .tup (x.sqT s h) (RepL.lift x s r)
  | _, _, .lst h r => .lst (x.lsT s h) (RepL.lift x s r)
  | _, _, .dic h r => .dic (x.keepO s h (fun q => q) (fun _ q => nomatch q)) (RepK.lift x s r)
  | _, _, .cdic h q r => .cdic h q (RepK.lift x s r)
  | _, _, .ref h => .ref (x.ref h)
theorem RepL.lift (x : Lift G H G' H') (s : SI K w T G H m) : ∀ {v : List V} {d : List D}, RepL K w G H v d → RepL K w G' H' v d
  | _, _, .nil => .nil
  | _, _, .cons h r => .cons (Rep.lift x s h) (RepL.lift x s r)
theorem RepK.lift (x : Lift G H G' H') (s : SI K w T G H m) : ∀ {v : List (Key × V)} {d : List (DK × D)}, RepK K w G H v d → RepK K w G' H' v d
  | _, _, .nil => .nil
  | _, _, .cons h r => .cons (Rep.lift x s h) (RepK.lift x s r)
end
theorem Ext.ref {i : Nat} {a : Addr} (x : Ext G H G' H') (h : G.rf[i]? = some a) : G'.rf[i]? = some a := x.toLift.ref h
theorem Ext.keepO (x : Ext G H G' H') (s : SI K w T G H m) {a : Addr} {o : HO} (h : H a = some o) (n : ¬ isLD o) (t : ∀ ps, o ≠ .tbl ps) : H' a = some o := x.toLift.keepO s h n t
theorem Ext.rd (x : Ext G H G' H') (s : SI K w T G H m) {a : Addr} {o : HO} (h : Rd H a o) (f : G.fz a) (t : ∀ ps, o ≠ .tbl ps) : Rd H' a o := x.toLift.rd s h f t
theorem Ext.sqT (x : Ext G H G' H') (s : SI K w T G H m) {a : Addr} {xs : List V} (h : SqT K H a xs) : SqT K H' a xs := x.toLift.sqT s h
theorem Rep.mono (x : Ext G H G' H') (s : SI K w T G H m) {v : V} {d : D} (r : Rep K w G H v d) : Rep K w G' H' v d := Rep.lift x.toLift s r
theorem RepL.mono (x : Ext G H G' H') (s : SI K w T G H m) {v : List V} {d : List D} (r : RepL K w G H v d) : RepL K w G' H' v d := RepL.lift x.toLift s r
theorem RepK.mono (x : Ext G H G' H') (s : SI K w T G H m) {v : List (Key × V)} {d : List (DK × D)} (r : RepK K w G H v d) : RepK K w G' H' v d := RepK.lift x.toLift s r
end
end Ev
/-! Ev2: readings by the evaluator; operators and small expressions. -/
namespace Ev
open PySem PySem.Spec L2

/-- the module as it stands behind its top, and its text -/
structure Md where
  P : Program
  w : World
  K : PySem.W.Frag
  mg : Str → Option Value
  base : Heap
  T : Txt
  Λ : Nat → Option LamI
  tabs : List (Addr × Str)
  nf : Nat → Bool
  fn : Nat → Str
  fa : Nat → Addr
  fd : Nat → FuncData
  ps : Nat → List Str
  cn : Nat → Str
  ca : Nat → Addr
  kn : Nat → Str
abbrev Md.Rep (M : Md) := Ev.Rep M.K M.w
abbrev Md.RepL (M : Md) := Ev.RepL M.K M.w
abbrev Md.RepK (M : Md) := Ev.RepK M.K M.w
abbrev Md.CellRep (M : Md) := Ev.CellRep M.K M.w
abbrev Md.SI (M : Md) := Ev.SI M.K M.w M.tabs
/-- where one stands: the level, the exception at hand, the heap at the def's entry, what is wished of exceptions -/
structure Fm where
  k : Nat
  xa : Option (Addr × Option Addr × Value)
  H0 : Hp
  W : WX
/-- an exception's fields -/
def ExRep (M : Md) (G : Gh) (H : Hp) (x : Ex) (d : Option Addr) : Prop :=
  ∀ f t, x.fl.lookup f = some t → ∃ a fs v, d = some a ∧ H a = some (.xd fs) ∧ fs.lookup (toStr f) = some v ∧ M.Rep G H v t
/-- what a call hands on -/
inductive RepA (M : Md) (G : Gh) (H : Hp) : V → Arg → Prop
  | dat {v : V} {d : D} : M.Rep G H v d → RepA M G H v (.dat d)
  | clo {f c' : Addr} {l : Nat} {I : LamI} {cl : List (Str × Addr)} {pm ctv : Value} {vs : List V} {ds : List D} : M.Λ l = some I → H f = some (LamO f I cl pm c' ctv) → H c' = some (LamX.CodeO c' I.qual) →
      (∀ (x : Str) (c : Addr), cl.lookup x = some c → ∃ (i : Nat) (o : Obj) (u : Value) (v : V), I.caps[i]? = some x ∧ H c = some (CellO c o) ∧ o.data = .cell (some u) ∧ RelV v u ∧ vs[i]? = some v ∧ ¬ G.fz c) →
      (∀ (i : Nat) (x : Str), I.caps[i]? = some x → ∃ c, cl.lookup x = some c) → (∀ x y c, cl.lookup x = some c → cl.lookup y = some c → x = y) → M.RepL G H vs ds → vs.length = I.caps.length → RepA M G H (.ref f) (.clo l ds)
structure ER (M : Md) (f : Fm) (G : Gh) (H : Hp) (σ : St) (e : Env) : Prop where
  len : e.length = σ.length
  val : ∀ (i : Nat) (d : D), e[i]? = some (.val d) → ∃ v, σ[i]? = some (some v) ∧ M.Rep G H v d
  own : ∀ (i : Nat) (c : Cell), e[i]? = some (.own c) → ∃ a, σ[i]? = some (some (.ref a)) ∧ M.CellRep G H a c ∧ ¬ G.fz a ∧ a ∉ G.rf ∧ f.H0 a = none
  inj : ∀ (i j : Nat) (c c' : Cell) (a : Addr), e[i]? = some (.own c) → e[j]? = some (.own c') → σ[i]? = some (some (.ref a)) → σ[j]? = some (some (.ref a)) → i = j
  exc : ∀ (i : Nat) (x : Ex), e[i]? = some (.exc x) → ∃ a d, f.xa = some (a, d, .ref (M.ca x.c)) ∧ σ[i]? = some (some (.ref a)) ∧ ExRep M G H x d ∧ M.T.sub x.c x.c = true
  clo : ∀ (i : Nat) (l : Nat) (cs : List D), e[i]? = some (.clo l cs) → ∃ v, σ[i]? = some (some v) ∧ RepA M G H v (.clo l cs)
def Fin {α β : Type} (M : Md) (f : Fm) (Rl : Hp → Gh → Hp → β → α → Prop) (G : Gh) (H : Hp) (σ : St) (r : R α) (Q : β → Hp → Prop) : Prop :=
  match r with
  | .ok a m => ∀ G' H' b, Ext G H G' H' → M.SI G' H' m → Rl H G' H' b a → Q b H'
  | .ex x m => ∀ G' H' d, Ext G H G' H' → M.SI G' H' m → ExRep M G' H' x d → f.W (.ref (M.ca x.c)) d σ H'
  | .bad => False
def Tm {α β : Type} (M : Md) (f : Fm) (Rl : Hp → Gh → Hp → β → α → Prop) (ev : Env → Mem → R α) : St → Hp → (β → Hp → Prop) → Prop :=
  fun σ H Q => ∃ G e m, M.SI G H m ∧ ER M f G H σ e ∧ Fin M f Rl G H σ (ev e m) Q
def rlE (M : Md) : Hp → Gh → Hp → V → D → Prop := fun _ G H v d => M.Rep G H v d
def rlEs (M : Md) : Hp → Gh → Hp → List V → List D → Prop := fun _ G H v d => M.RepL G H v d
/-- an operand that is looked at alone: a list or a dict may be one's own -/
def RepO (M : Md) (G : Gh) (H : Hp) (v : V) (d : D) : Prop := M.Rep G H v d ∨ (∃ a ds, v = .ref a ∧ d = .lst ds ∧ M.CellRep G H a (.lst ds) ∧ a ∉ G.rf) ∨ ∃ a ds, v = .ref a ∧ d = .dic ds ∧ M.CellRep G H a (.dic ds) ∧ a ∉ G.rf
def rlO (M : Md) : Hp → Gh → Hp → V → D → Prop := fun _ G H v d => RepO M G H v d
inductive RepOs (M : Md) (G : Gh) (H : Hp) : List V → List D → Prop
  | nil : RepOs M G H [] []
  | cons {v d vs ds} : RepO M G H v d → RepOs M G H vs ds → RepOs M G H (v :: vs) (d :: ds)
def rlT : Hp → Gh → Hp → Bool → Bool → Prop := fun _ _ _ b c => b = c
def rlI : Hp → Gh → Hp → Option Int → Option Int → Prop := fun _ _ _ b c => b = c
/-- a new list or dict, nobody else's -/
def rlL (M : Md) : Hp → Gh → Hp → V → Cell → Prop := fun H0 G H v c => ∃ a, v = .ref a ∧ H0 a = none ∧ M.CellRep G H a c ∧ ¬ G.fz a ∧ a ∉ G.rf
abbrev evE' (M : Md) (f : Fm) := evE (evF M.T f.k) M.T.con
abbrev evO' (M : Md) (f : Fm) := evO (evF M.T f.k) M.T.con
abbrev evT' (M : Md) (f : Fm) := evT (evF M.T f.k) M.T.con
abbrev evEs' (M : Md) (f : Fm) := evEs (evF M.T f.k) M.T.con
abbrev evOs' (M : Md) (f : Fm) := evOs (evF M.T f.k) M.T.con
abbrev evAs' (M : Md) (f : Fm) := evAs (evF M.T f.k) M.T.con
abbrev evEo' (M : Md) (f : Fm) := evEo (evF M.T f.k) M.T.con
abbrev evL' (M : Md) (f : Fm) := evL (evF M.T f.k) M.T.con
abbrev evSrc' (M : Md) (f : Fm) := evSrc (evF M.T f.k) M.T.con
abbrev tE (M : Md) (f : Fm) (e : E) : TE := Tm M f (rlE M) (evE' M f e)
abbrev tO (M : Md) (f : Fm) (e : O) : TE := Tm M f (rlO M) (evO' M f e)
abbrev tT (M : Md) (f : Fm) (e : T) : TT := Tm M f rlT (evT' M f e)
abbrev tEs (M : Md) (f : Fm) (e : Es) : TA := Tm M f (rlEs M) (evEs' M f e)
abbrev tOs (M : Md) (f : Fm) (e : Os) : TA := Tm M f (fun _ G H v d => RepOs M G H v d) (evOs' M f e)
abbrev tEo (M : Md) (f : Fm) (e : Eo) : TO := Tm M f rlI (evEo' M f e)
abbrev tL (M : Md) (f : Fm) (e : L) : TE := Tm M f (rlL M) (evL' M f e)

section
variable {M : Md} {f : Fm} {G G' : Gh} {H H' : Hp} {m : Mem} {σ : St} {e : Env}
theorem ExRep.mono {x : Ex} {d : Option Addr} (r : ExRep M G H x d) (xt : Ext G H G' H') (s : M.SI G H m) : ExRep M G' H' x d := fun fl t h => by
  obtain ⟨a, fs, v, e1, e2, e3, e4⟩ := r fl t h
  exact ⟨a, fs, v, e1, xt.keepO s e2 (fun q => q) (fun _ q => nomatch q), e3, Rep.mono xt s e4⟩
theorem CellRep.mono {a : Addr} {c : Cell} (r : M.CellRep G H a c) (xt : Ext G H G' H') (s : M.SI G H m) (n : a ∉ G.rf) : M.CellRep G' H' a c := by
  cases c with
  | lst ds => obtain ⟨xs, e1, r⟩ := r; exact ⟨xs, xt.keep a _ e1 n (fun _ q => nomatch q), RepL.mono xt s r⟩
  | dic ds => obtain ⟨xs, e1, r⟩ := r; exact ⟨xs, xt.keep a _ e1 n (fun _ q => nomatch q), RepK.mono xt s r⟩
theorem CellRep.there {a : Addr} {c : Cell} (r : M.CellRep G H a c) : ∃ o, H a = some o := by
  cases c with
  | lst ds => obtain ⟨xs, e1, r⟩ := r; exact ⟨_, e1⟩
  | dic ds => obtain ⟨xs, e1, r⟩ := r; exact ⟨_, e1⟩
theorem RepA.to {v : V} {a : Arg} (r : RepA M G H v a) (k1 : ∀ v d, M.Rep G H v d → M.Rep G' H' v d) (k2 : ∀ b φ, H b = some (.ext φ) → H' b = some (.ext φ)) (k3 : ∀ v d, M.RepL G H v d → M.RepL G' H' v d) (k4 : ∀ b φ, H b = some (.ext φ) → ¬ G.fz b → ¬ G'.fz b) : RepA M G' H' v a := by
  cases r with
  | dat r => exact .dat (k1 _ _ r)
  | clo h1 h2 h3 h4 h5 h6 h7 h8 =>
    exact .clo h1 (k2 _ _ h2) (k2 _ _ h3) (fun x c q => let ⟨i, o, u, v, a1, a2, a3, a4, a5, a6⟩ := h4 x c q; ⟨i, o, u, v, a1, k2 _ _ a2, a3, a4, a5, k4 _ _ a2 a6⟩) h5 h6 (k3 _ _ h7) h8
theorem RepA.mono {v : V} {a : Arg} (r : RepA M G H v a) (x : Ext G H G' H') (s : M.SI G H m) : RepA M G' H' v a :=
  r.to (fun _ _ q => Rep.mono x s q) (fun b φ e => x.keepO s e (fun q => q) (fun _ q => nomatch q)) (fun _ _ q => RepL.mono x s q) (fun b φ e n z => (x.nf b z).elim n fun q => by rw [e] at q; cases q)
theorem ER.mono (r : ER M f G H σ e) (xt : Ext G H G' H') (s : M.SI G H m) : ER M f G' H' σ e where
  len := r.len
  val := fun i d h => by
    obtain ⟨v, e1, e2⟩ := r.val i d h
    exact ⟨v, e1, Rep.mono xt s e2⟩
  own := fun i c h => by
    obtain ⟨a, e1, e2, e3, e4, e5⟩ := r.own i c h
    obtain ⟨o, ho⟩ := e2.there
    refine ⟨a, e1, e2.mono xt s e4, fun q => ?_, fun q => ?_, e5⟩
    · rcases xt.nf a q with z | z
      · exact e3 z
      · rw [ho] at z; cases z
    · rcases xt.nr a q with z | z
      · exact e4 z
      · rw [ho] at z; cases z
  inj := r.inj
  exc := fun i x h => by
    obtain ⟨a, d, e1, e2, e3⟩ := r.exc i x h
    exact ⟨a, d, e1, e2, e3.1.mono xt s, e3.2⟩
  clo := fun i l cs h => by
    obtain ⟨v, e1, e2⟩ := r.clo i l cs h
    exact ⟨v, e1, e2.mono xt s⟩
theorem RepO.mono {v : V} {d : D} (r : RepO M G H v d) (xt : Ext G H G' H') (s : M.SI G H m) : RepO M G' H' v d := by
  have far : ∀ a c, M.CellRep G H a c → a ∉ G.rf → a ∉ G'.rf := fun a c q n z => by
    obtain ⟨o, ho⟩ := CellRep.there q
    rcases xt.nr a z with z | z
    · exact n z
    · rw [ho] at z; cases z
  rcases r with r | ⟨a, ds, rfl, rfl, c, n⟩ | ⟨a, ds, rfl, rfl, c, n⟩
  · exact .inl (Rep.mono xt s r)
  · exact .inr (.inl ⟨a, ds, rfl, rfl, c.mono xt s n, far a _ c n⟩)
  · exact .inr (.inr ⟨a, ds, rfl, rfl, c.mono xt s n, far a _ c n⟩)
/-- what a later start asks -/
def RlMono {α β : Type} (Rl : Hp → Gh → Hp → β → α → Prop) : Prop := ∀ H H1 G' H' b a, (∀ c, H1 c = none → H c = none) → Rl H1 G' H' b a → Rl H G' H' b a
theorem rlE_mono : RlMono (rlE M) := fun _ _ _ _ _ _ _ h => h
theorem rlEs_mono : RlMono (rlEs M) := fun _ _ _ _ _ _ _ h => h
theorem rlO_mono : RlMono (rlO M) := fun _ _ _ _ _ _ _ h => h
theorem rlT_mono : RlMono rlT := fun _ _ _ _ _ _ _ h => h
theorem rlI_mono : RlMono rlI := fun _ _ _ _ _ _ _ h => h
theorem rlL_mono : RlMono (rlL M) := fun _ _ _ _ _ _ q h => let ⟨a, e, n, r⟩ := h; ⟨a, e, q a n, r⟩
theorem Fin.mono {α β : Type} {Rl : Hp → Gh → Hp → β → α → Prop} (hm : RlMono Rl) {r : R α} {Q : β → Hp → Prop} (h : Fin M f Rl G H σ r Q) (xt : Ext G H G' H') : Fin M f Rl G' H' σ r Q := by
  cases r with
  | ok a m => exact fun G2 H2 b x s q => h G2 H2 b (xt.trans x) s (hm _ _ _ _ _ _ (fun c n => xt.back n) q)
  | ex x m => exact fun G2 H2 b y s q => h G2 H2 b (xt.trans y) s q
  | bad => exact h
theorem Fin.bind {α β γ δ : Type} {R1 : Hp → Gh → Hp → β → α → Prop} {R2 : Hp → Gh → Hp → δ → γ → Prop} (hm : RlMono R2) {r : R α} {g : α → Mem → R γ} {Q : δ → Hp → Prop} {Q1 : β → Hp → Prop}
    (s : M.SI G H m) (er : ER M f G H σ e) (h : Fin M f R2 G H σ (r.bind g) Q)
    (k : ∀ a b G1 H1 m1, Ext G H G1 H1 → M.SI G1 H1 m1 → ER M f G1 H1 σ e → R1 H G1 H1 b a → Fin M f R2 G1 H1 σ (g a m1) Q → Q1 b H1) : Fin M f R1 G H σ r Q1 := by
  cases r with
  | ok a m1 => exact fun G1 H1 b x s1 q => k a b G1 H1 m1 x s1 (er.mono x s) q (Fin.mono hm h x)
  | ex x m1 => exact fun G1 H1 d y s1 q => h G1 H1 d y s1 q
  | bad => exact h
theorem Tm.bind {α β γ δ : Type} {R1 : Hp → Gh → Hp → β → α → Prop} {R2 : Hp → Gh → Hp → δ → γ → Prop} (hm : RlMono R2) {ev : Env → Mem → R α} {g : α → Mem → R γ} {Q : δ → Hp → Prop} {Q1 : β → Hp → Prop}
    (s : M.SI G H m) (er : ER M f G H σ e) (h : Fin M f R2 G H σ ((ev e m).bind g) Q)
    (k : ∀ a b G1 H1 m1, Ext G H G1 H1 → M.SI G1 H1 m1 → ER M f G1 H1 σ e → R1 H G1 H1 b a → Fin M f R2 G1 H1 σ (g a m1) Q → Q1 b H1) : Tm M f R1 ev σ H Q1 :=
  ⟨G, e, m, s, er, Fin.bind hm s er h k⟩
/-- the end of a reckoning without the heap -/
theorem Fin.of {β : Type} {Rl : Hp → Gh → Hp → β → D → Prop} {o : Option D} {Q : β → Hp → Prop} (s : M.SI G H m) (h : Fin M f Rl G H σ (R.of o m) Q) : ∃ d, o = some d ∧ ∀ b, Rl H G H b d → Q b H := by
  cases o with
  | none => exact h.elim
  | some d => exact ⟨d, rfl, fun b q => h G H b Ext.refl s q⟩
theorem Fin.ofB {Rl : Hp → Gh → Hp → Bool → Bool → Prop} {o : Option Bool} {Q : Bool → Hp → Prop} (s : M.SI G H m) (h : Fin M f Rl G H σ (R.of o m) Q) : ∃ d, o = some d ∧ ∀ b, Rl H G H b d → Q b H := by
  cases o with
  | none => exact h.elim
  | some d => exact ⟨d, rfl, fun b q => h G H b Ext.refl s q⟩
/-- consequence -/
theorem _root_.L2.PE.imp {X : Cx} {ex : Expr} {t t' : TE} (h : PE X ex t) (k : ∀ σ H Q, t' σ H Q → t σ H Q) : PE X ex t' := ⟨fun pins s σ H Q I q => h.run pins s σ H Q I (k σ H Q q)⟩
theorem _root_.L2.PT.imp {X : Cx} {ex : Expr} {t t' : TT} (h : PT X ex t) (k : ∀ σ H Q, t' σ H Q → t σ H Q) : PT X ex t' := ⟨fun pins s σ H Q I q => h.run pins s σ H Q I (k σ H Q q)⟩
theorem _root_.L2.PW.imp {X : Cx} {ex : Expr} {t t' : TT} (h : PW X ex t) (k : ∀ σ H Q, t' σ H Q → t σ H Q) : PW X ex t' := ⟨fun wh pins s σ H Q I q => h.run wh pins s σ H Q I (k σ H Q q)⟩
theorem _root_.L2.PA.imp {X : Cx} {ex : List Expr} {t t' : TA} (h : PA X ex t) (k : ∀ σ H Q, t' σ H Q → t σ H Q) : PA X ex t' := ⟨fun pos pins s σ H Q I q => h.run pos pins s σ H Q I (k σ H Q q)⟩
theorem _root_.L2.PS.imp {X : Cx} {st : Stmt} {t t' : TS} (h : PS X st t) (k : ∀ D σ H, t' D σ H → t D σ H) : PS X st t' := ⟨fun pins s σ H D I q => h.run pins s σ H D I (k D σ H q)⟩
theorem _root_.L2.PSs.imp {X : Cx} {st : List Stmt} {t t' : TS} (h : PSs X st t) (k : ∀ D σ H, t' D σ H → t D σ H) : PSs X st t' := ⟨fun pins s σ H D I q => h.run pins s σ H D I (k D σ H q)⟩
theorem _root_.L2.PO.imp {X : Cx} {e : Option Expr} {t t' : TO} (h : PO X e t) (k : ∀ σ H Q, t' σ H Q → t σ H Q) : PO X e t' := ⟨fun pins s σ H Q I q => h.run pins s σ H Q I (k σ H Q q)⟩
end

/-! ### the names of a block -/
structure CC where
  N : List Str
  sc : Scope
  vis : Str → Bool
  glb : Str → Bool
  loc : Str → Bool
  cof : Str → Bool
  qual : Str
  calm : Bool
  lm : Bool
  att : Bool
structure CtxOk (X : Cx) (c : CC) : Prop where
  sc : X.env.scope = c.sc
  ql : X.env.qual = c.qual
  N : X.N = c.N
  nd : X.N.Nodup
  vis : ∀ x, c.vis x = true → Vis X.env.scope x
  glb : ∀ x, c.glb x = true → Gl X x
  loc : ∀ x, c.loc x = true → Loc X.env.scope x ∧ (X.fn x = true ∨ X.env.scope.names.lookup x = some .local)
  cof : ∀ x, c.cof x = true → X.env.scope.names.lookup x = some .cell ∨ X.env.scope.names.lookup x = some .free

/-! ### names and constants -/
section
variable {M : Md} {f : Fm} {X : Cx} {c : CC}
theorem snd_var {i : Nat} {x : Str} {pos : Pos} (C : CtxOk X c) (hN : c.N[i]? = some x) (hv : c.vis x = true) (hd : (x == ("__debug__" : Str)) = false) (hcd : (x == ("__classdict__" : Str)) = false) :
    PE X (.Name x pos) (tE M f (.var i)) := by
  refine (pe_var (by rw [C.N]; exact hN) (C.vis x hv) hd hcd).imp fun σ H Q h => ?_
  obtain ⟨G, e, m, s, er, h⟩ := h
  simp only [evE', evE] at h
  obtain ⟨d, hd, q⟩ := Fin.of s h
  unfold getV at hd
  split at hd
  · rename_i d' hi
    cases hd
    obtain ⟨v, hv, r⟩ := er.val i d hi
    exact ⟨v, hv, q v r⟩
  · cases hd
theorem snd_con {v : V} {d : D} {ex : Expr} (h : PE X ex (tC v)) (r : ∀ G H, M.Rep G H v d) : PE X ex (tE M f (.con d)) := by
  refine h.imp fun σ H Q h => ?_
  obtain ⟨G, e, m, s, er, h⟩ := h
  simp only [evE', evE] at h
  exact h G H v Ext.refl s (r G H)
theorem snd_glo {i : Nat} {v : V} {d : D} {ex : Expr} (hc : M.T.con i = some d) (h : PE X ex (tC v)) (r : ∀ G H, M.Rep G H v d) : PE X ex (tE M f (.glo i)) := by
  refine h.imp fun σ H Q h => ?_
  obtain ⟨G, e, m, s, er, h⟩ := h
  simp only [evE', evE, hc] at h
  exact h G H v Ext.refl s (r G H)

/-! ### ints: operators -/
theorem Rep.inv_int {K : PySem.W.Frag} {w : World} {G : Gh} {H : Hp} {v : V} {i : Int} (h : Ev.Rep K w G H v (.int i)) : v = .int i := by cases h; rfl
theorem Rep.inv_bl {K : PySem.W.Frag} {w : World} {G : Gh} {H : Hp} {v : V} {b : Bool} (h : Ev.Rep K w G H v (.bl b)) : v = .bl b := by cases h; rfl
theorem Rep.inv_str {K : PySem.W.Frag} {w : World} {G : Gh} {H : Hp} {v : V} {s : List Nat} (h : Ev.Rep K w G H v (.str s)) : v = .str (toStr s) := by cases h; rfl
theorem Rep.inv_non {K : PySem.W.Frag} {w : World} {G : Gh} {H : Hp} {v : V} (h : Ev.Rep K w G H v .non) : v = .non := by cases h; rfl
/-- two values reckoned with -/
theorem snd_op {a b : Expr} {ia ib : E} {op : Operator} {o : Bop} {r : R2} {pos : Pos} (ho : OpR X (binaryOp op) r) (ha : PE X a (tE M f ia)) (hb : PE X b (tE M f ib))
    (k : ∀ G H m x y dx dy d Q, M.SI G H m → M.Rep G H x dx → M.Rep G H y dy → binD o dx dy = some d → (∀ G' H' v, Ext G H G' H' → M.SI G' H' m → M.Rep G' H' v d → Q v H') → r x y H Q) : PE X (.BinOp a op b pos) (tE M f (.bin o ia ib)) := by
  refine (pe_op ho ha hb).imp fun σ H Q h => ?_
  obtain ⟨G, e, m, s, er, h⟩ := h
  simp only [evE', evE] at h
  refine Tm.bind rlE_mono s er h fun dx x G1 H1 m1 x1 s1 er1 r1 h1 => Tm.bind rlE_mono s1 er1 h1 fun dy y G2 H2 m2 x2 s2 er2 r2 h2 => ?_
  cases hd : binD o dx dy with
  | none => rw [hd] at h2; exact h2.elim
  | some d =>
    rw [hd] at h2
    exact k G2 H2 m2 x y dx dy d Q s2 (Rep.mono x2 s1 r1) r2 hd h2
end
end Ev
/-! Ev3: operators by values: the evaluator's answer is the machine's. -/
namespace Ev
open PySem PySem.Spec L2

section
variable {M : Md} {f : Fm} {G G' : Gh} {H H' : Hp} {m : Mem} {σ : St} {e : Env}
/-! ### new objects -/
theorem Ext.new {p : Addr} {o : HO} (hp : H p = none) : Ext G H G (upd H p o) where
  fz := fun _ h => h
  rf := ⟨[], by simp⟩
  keep := fun a o' h _ _ => by rw [upd_ne (ne_of_none h hp)]; exact h
  tb := fun a ps h => ⟨#[], by rw [upd_ne (ne_of_none h hp), h]; simp⟩
  dom := fun a o' h => ⟨o', by rw [upd_ne (ne_of_none h hp)]; exact h⟩
  nf := fun _ h => .inl h
  nr := fun _ h => .inl h
theorem _root_.Ev.SI.mem_none (s : M.SI G H m) {p : Addr} (hp : H p = none) : p ∉ G.rf := fun hm => by
  obtain ⟨o, e, _⟩ := s.ld hm
  rw [hp] at e; cases e
theorem SI.step (s : M.SI G H m) (x : Ext G H G' H') (hr : G'.rf = G.rf) (k : ∀ a, a ∈ G.rf → H' a = H a) (hf : ∀ a, G'.fz a → ∃ o, H' a = some o) (hd : ∀ a, G'.fz a → a ∉ G.rf) (ht : ∀ a o, H a = some o → a ∉ G.rf → H' a = some o) : M.SI G' H' m where
  tab := tabs_keep s.tab (fun b ps e => ht b _ e (s.out e (fun z => z))) (fun b φ e => ht b _ e (s.out e (fun z => z)))
  len := by rw [hr]; exact s.len
  nd := by rw [hr]; exact s.nd
  at_ := fun i a c h1 h2 => by
    rw [hr] at h1
    have h := s.at_ i a c h1 h2
    have ha := k a (List.mem_of_getElem? h1)
    cases c with
    | lst ds => obtain ⟨xs, q, r⟩ := h; exact ⟨xs, by rw [ha]; exact q, RepL.mono x s r⟩
    | dic ds => obtain ⟨xs, q, r⟩ := h; exact ⟨xs, by rw [ha]; exact q, RepK.mono x s r⟩
  fz := hf
  dj := fun a h => by rw [hr]; exact hd a h
theorem SI.new {p : Addr} {o : HO} (s : M.SI G H m) (hp : H p = none) : M.SI G (upd H p o) m :=
  SI.step s (Ext.new hp) rfl (fun a ha => upd_ne (fun z => s.mem_none hp (z ▸ ha))) (fun a h => (Ext.new (G := G) hp).dom a _ (s.fz a h).choose_spec) s.dj (fun a o e _ => by rw [upd_ne (ne_of_none e hp)]; exact e)
def Gh.frz (G : Gh) (p : Addr) : Gh := ⟨fun a => G.fz a ∨ a = p, G.rf⟩
theorem Ext.newF {p : Addr} {o : HO} (hp : H p = none) : Ext G H (G.frz p) (upd H p o) where
  fz := fun _ h => .inl h
  rf := ⟨[], by simp [Gh.frz]⟩
  keep := (Ext.new (G := G) hp).keep
  tb := (Ext.new (G := G) hp).tb
  dom := (Ext.new (G := G) hp).dom
  nf := fun a h => by
    rcases h with h | rfl
    · exact .inl h
    · exact .inr hp
  nr := fun _ h => .inl h
theorem SI.newF {p : Addr} {o : HO} (s : M.SI G H m) (hp : H p = none) : M.SI (G.frz p) (upd H p o) m :=
  SI.step s (Ext.newF hp) rfl (fun a ha => upd_ne (fun z => s.mem_none hp (z ▸ ha))) (fun a h => by
    rcases h with h | rfl
    · exact (Ext.new (G := G) hp).dom a _ (s.fz a h).choose_spec
    · exact ⟨o, upd_same⟩) (fun a h => by
    rcases h with h | rfl
    · exact s.dj a h
    · exact s.mem_none hp) (fun a o e _ => by rw [upd_ne (ne_of_none e hp)]; exact e)
theorem Rep.tupN {p : Addr} {xs : List V} {ds : List D} (s : M.SI G H m) (hp : H p = none) (r : M.RepL G H xs ds) : M.Rep G (upd H p (.tup xs)) (.ref p) (.tup ds) :=
  .tup (.inl (.inl upd_same)) (RepL.mono (Ext.new hp) s r)
theorem Rep.lstN {p : Addr} {xs : List V} {ds : List D} (s : M.SI G H m) (hp : H p = none) (r : M.RepL G H xs ds) : M.Rep (G.frz p) (upd H p (.lst xs)) (.ref p) (.lst ds) :=
  .lst (.inl ⟨.inl upd_same, .inr rfl⟩) (RepL.mono (Ext.newF hp) s r)

/-! ### rows of values -/
theorem RepL.length {K : PySem.W.Frag} {w : World} : ∀ {xs : List V} {ds : List D}, Ev.RepL K w G H xs ds → xs.length = ds.length
  | _, _, .nil => rfl
  | _, _, .cons _ r => by rw [List.length_cons, List.length_cons, RepL.length r]
theorem RepL.app {K : PySem.W.Frag} {w : World} : ∀ {xs ys : List V} {ds es : List D}, Ev.RepL K w G H xs ds → Ev.RepL K w G H ys es → Ev.RepL K w G H (xs ++ ys) (ds ++ es)
  | _, _, _, _, .nil, r => r
  | _, _, _, _, .cons h q, r => .cons h (RepL.app q r)
theorem RepL.get {K : PySem.W.Frag} {w : World} : ∀ {xs : List V} {ds : List D} {i : Nat} {d : D}, Ev.RepL K w G H xs ds → ds[i]? = some d → ∃ v, xs[i]? = some v ∧ Ev.Rep K w G H v d
  | _, _, _, _, .nil, e => by simp at e
  | _, _, 0, _, .cons h _, e => by simp at e; subst e; exact ⟨_, rfl, h⟩
  | _, _, i + 1, d, .cons _ r, e => by
    obtain ⟨v, q, h⟩ := RepL.get (i := i) (d := d) r (by simpa using e)
    exact ⟨v, by simpa using q, h⟩
theorem RepL.take {K : PySem.W.Frag} {w : World} : ∀ {xs : List V} {ds : List D} (n : Nat), Ev.RepL K w G H xs ds → Ev.RepL K w G H (xs.take n) (ds.take n)
  | _, _, 0, _ => .nil
  | _, _, n + 1, .nil => .nil
  | _, _, n + 1, .cons h r => .cons h (RepL.take n r)
theorem RepL.drop {K : PySem.W.Frag} {w : World} : ∀ {xs : List V} {ds : List D} (n : Nat), Ev.RepL K w G H xs ds → Ev.RepL K w G H (xs.drop n) (ds.drop n)
  | _, _, 0, r => r
  | _, _, n + 1, .nil => .nil
  | _, _, n + 1, .cons h r => RepL.drop n r
theorem sIx_eq (n d : Nat) (o : Option Int) : sIx n d o = HT.sIx n d o := by cases o <;> rfl
theorem RepL.cut {K : PySem.W.Frag} {w : World} {xs : List V} {ds : List D} (lo hi : Option Int) (r : Ev.RepL K w G H xs ds) : Ev.RepL K w G H (cutV xs lo hi) (Ev.cut ds lo hi) := by
  unfold cutV Ev.cut
  rw [sIx_eq, sIx_eq, RepL.length r]
  exact RepL.take _ (RepL.drop _ r)
theorem RepL.eraseIdx {K : PySem.W.Frag} {w : World} : ∀ {xs : List V} {ds : List D} (n : Nat), Ev.RepL K w G H xs ds → Ev.RepL K w G H (xs.eraseIdx n) (ds.eraseIdx n)
  | _, _, _, .nil => .nil
  | _, _, 0, .cons h r => r
  | _, _, n + 1, .cons h r => .cons h (RepL.eraseIdx n r)
theorem RepL.set {K : PySem.W.Frag} {w : World} {v : V} {d : D} (q : Ev.Rep K w G H v d) : ∀ {xs : List V} {ds : List D} (n : Nat), Ev.RepL K w G H xs ds → Ev.RepL K w G H (xs.set n v) (ds.set n d)
  | _, _, _, .nil => .nil
  | _, _, 0, .cons h r => .cons q r
  | _, _, n + 1, .cons h r => .cons h (RepL.set q n r)
theorem RepL.dropLast {K : PySem.W.Frag} {w : World} : ∀ {xs : List V} {ds : List D}, Ev.RepL K w G H xs ds → Ev.RepL K w G H xs.dropLast ds.dropLast
  | _, _, .nil => .nil
  | _, _, .cons h .nil => .nil
  | _, _, .cons h (.cons h' r) => .cons h (RepL.dropLast (.cons h' r))
theorem sqL_rd {K : PySem.W.Frag} {H : Hp} {a : Addr} {xs : List V} (h : Rd H a (.lst xs)) : SqL K H a xs := .inl h
/-- a row: a list or a tuple -/
theorem RepO.seq (s : M.SI G H m) {v : V} {d : D} {ds : List D} (r : RepO M G H v d) (h : seqOf m d = some ds) : ∃ a xs, v = .ref a ∧ M.RepL G H xs ds ∧ (((∃ zs, d = .tup zs) ∧ SqT M.K H a xs) ∨ ((∀ zs, d ≠ .tup zs) ∧ SqL M.K H a xs)) := by
  rcases r with r | ⟨a, es, rfl, rfl, ⟨xs, e1, r⟩, _⟩ | ⟨a, es, rfl, rfl, ⟨xs, e1, r⟩, _⟩
  · cases r with
    | non => cases h
    | bl => cases h
    | int => cases h
    | str => cases h
    | tup q r => cases h; exact ⟨_, _, rfl, r, .inl ⟨⟨_, rfl⟩, q⟩⟩
    | lst q r => cases h; exact ⟨_, _, rfl, r, .inr ⟨(fun _ z => nomatch z), q.sq⟩⟩
    | dic => cases h
    | cdic => cases h
    | @ref i a q =>
      simp only [seqOf] at h
      split at h
      · rename_i ys hm
        cases h
        obtain ⟨xs, q1, q2⟩ := s.at_ i a _ q hm
        exact ⟨a, xs, rfl, q2, .inr ⟨(fun _ z => nomatch z), .inl (.inl q1)⟩⟩
      · cases h
  · cases h; exact ⟨a, xs, rfl, r, .inr ⟨(fun _ z => nomatch z), .inl (.inl e1)⟩⟩
  · cases h
theorem Rep.o {v : V} {d : D} (r : M.Rep G H v d) : RepO M G H v d := .inl r
end

/-! ### + -/
section
variable {X : Cx}
/-- lists, wherever they are read -/
theorem op_catL : OpR X (binaryOp .Add) (fun x y H Q => ∃ a b xs ys, x = .ref a ∧ y = .ref b ∧ SqL X.K H a xs ∧ SqL X.K H b ys ∧ xs.length + ys.length ≤ sizeLine ∧ ∀ p, H p = none → Q (.ref p) (upd H p (.lst (xs ++ ys)))) := by
  intro pins s σ H x y v u Q I rx ry h
  obtain ⟨a, b, xs, ys, rfl, rfl, ha, hb, hz, q⟩ := h
  cases rx
  cases ry
  obtain ⟨its, r1, ⟨⟨cls, dd, data, sl⟩, n, ho, hc, hdd, hd⟩, _⟩ := I.list ha
  obtain ⟨its2, r2, ⟨⟨cls2, dd2, data2, sl2⟩, n2, ho2, hc2, hdd2, hd2⟩, _⟩ := I.list hb
  simp only at hc hd hc2 hd2 hdd hdd2
  subst hc hd hc2 hd2 hdd hdd2
  refine PySem.concat_meets ⟨_, ho, rfl⟩ ⟨_, ho2, rfl⟩ PySem.noFill_list_add PySem.seq_list_add PySem.F.slot_list_add PySem.F.entry_list_add (PySem.F.args_list_add_2 _ _)
    (PyProof.Rows.list_addW a b its.toArray its2.toArray n n2 none none sl sl2 (by rw [List.size_toArray, List.size_toArray, ← r1.length, ← r2.length]; exact hz)) ⟨ho, ho2, ?_⟩
  have e : its.toArray ++ its2.toArray = (its ++ its2).toArray := by simp
  rw [e]
  exact ⟨.ref s.heap.objs.size, _, I.lnew (t' := s.toks) (r1.append r2) (by rw [List.length_append]; exact hz), rfl, q _ (I.hok.fresh (Nat.le_refl _))⟩
/-- tuples, the left one empty -/
theorem op_catT0 : OpR X (binaryOp .Add) (fun x y H Q => ∃ a b ys, x = .ref a ∧ y = .ref b ∧ SqT X.K H a [] ∧ SqT X.K H b ys ∧ Q (.ref b) H) := by
  intro pins s σ H x y v u Q I rx ry h
  obtain ⟨a, b, ys, rfl, rfl, ha, hb, q⟩ := h
  cases rx
  cases ry
  obtain ⟨its, r1, p1, _⟩ := I.tuple ha
  obtain ⟨its2, r2, p2, _⟩ := I.tuple hb
  obtain ⟨⟨cls, dd, data, sl⟩, ho, hc, n, hd⟩ := id p1
  obtain ⟨⟨cls2, dd2, data2, sl2⟩, ho2, hc2, n2, hd2⟩ := id p2
  simp only at hc hd hc2 hd2
  subst hc hd hc2 hd2
  have h0 : its = [] := r1.nil_iff.mpr rfl
  refine PySem.concat_meets ⟨_, ho, rfl⟩ ⟨_, ho2, rfl⟩ PySem.noFill_tuple_add PySem.seq_tuple_add PySem.F.slot_tuple_add PySem.F.entry_tuple_add (PySem.F.args_tuple_add_2 _ _)
      (PyProof.Rows.tuple_addW0 a b its.toArray its2.toArray n n2 dd dd2 sl sl2 (by simp [h0])) ⟨ho, ho2, ?_⟩
  exact ⟨.ref b, H, I, rfl, q⟩
end
section
variable {M : Md} {f : Fm} {X : Cx} {a b : Expr} {ia ib : E} {pos : Pos}
theorem lineMax_eq : lineMax = sizeLine := by rw [sizeLine_eq]; rfl
theorem toStr_app (s t : List Nat) : toStr s ++ toStr t = toStr (s ++ t) := by
  show (⟨_⟩ : Str) = ⟨_⟩
  simp [toStr]
theorem toStr_len (s : List Nat) : (toStr s).length = s.length := by
  show (toStr s).cps.size = _
  simp [toStr]
theorem snd_add (K : X.K = M.K) (ha : PE X a (tE M f ia)) (hb : PE X b (tE M f ib)) : PE X (.BinOp a .Add b pos) (tE M f (.bin .add ia ib)) := by
  refine snd_op (OpR.or op_add (OpR.or op_add_str (OpR.or op_catL (OpR.or op_catT0 op_catT)))) ha hb fun G H m x y dx dy d Q s rx ry hd k => ?_
  cases rx with
  | int i =>
    cases ry with
    | int j => cases hd; exact .inl ⟨i, j, rfl, rfl, k G H _ Ext.refl s (.int _)⟩
    | _ => cases hd
  | str z =>
    cases ry with
    | str y =>
      simp only [binD] at hd
      split at hd
      · rename_i hl
        cases hd
        refine .inr (.inl ⟨toStr z, toStr y, rfl, rfl, by rw [toStr_len, toStr_len, ← lineMax_eq]; exact hl, ?_⟩)
        rw [toStr_app]
        exact k G H _ Ext.refl s (.str _)
      · cases hd
    | _ => cases hd
  | @lst a xs ds hs r =>
    cases ry with
    | @lst b ys es hs' r' =>
      simp only [binD] at hd
      split at hd
      · rename_i hl
        cases hd
        rw [K]
        refine .inr (.inr (.inl ⟨a, b, xs, ys, rfl, rfl, hs.sq, hs'.sq, by rw [r.length, r'.length, ← lineMax_eq]; exact hl, fun p hp => ?_⟩))
        exact k _ _ _ (Ext.newF hp) (SI.newF s hp) (Rep.lstN s hp (r.app r'))
      · cases hd
    | _ => cases hd
  | @tup a xs ds hs r =>
    cases ry with
    | @tup b ys es hs' r' =>
      simp only [binD] at hd
      split at hd
      · rename_i hl
        cases hd
        cases r with
        | nil =>
          rw [K]
          exact .inr (.inr (.inr (.inl ⟨a, b, ys, rfl, rfl, hs, hs', k G H _ Ext.refl s (.tup hs' r')⟩)))
        | @cons v d vs ds h r =>
          rw [K]
          refine .inr (.inr (.inr (.inr ⟨a, b, v :: vs, ys, rfl, rfl, hs, hs', by simp, by rw [RepL.length (.cons h r), r'.length, ← lineMax_eq]; exact hl, fun e0 => ?_, fun _ p hp => ?_⟩)))
          · subst e0
            cases r'
            rw [List.append_nil] at k
            exact k G H _ Ext.refl s (.tup hs (.cons h r))
          · exact k _ _ _ (Ext.new hp) (SI.new s hp) (Rep.tupN s hp (RepL.app (.cons h r) r'))
      · cases hd
    | _ => cases hd
  | _ => cases hd
theorem snd_sub (ha : PE X a (tE M f ia)) (hb : PE X b (tE M f ib)) : PE X (.BinOp a .Sub b pos) (tE M f (.bin .sub ia ib)) := by
  refine snd_op op_sub ha hb fun G H m x y dx dy d Q s rx ry hd k => ?_
  cases rx <;> first | (cases hd; done) | skip
  cases ry <;> first | (cases hd; done) | skip
  cases hd
  exact ⟨_, _, rfl, rfl, k G H _ Ext.refl s (.int _)⟩
theorem snd_mul (ha : PE X a (tE M f ia)) (hb : PE X b (tE M f ib)) : PE X (.BinOp a .Mult b pos) (tE M f (.bin .mul ia ib)) := by
  refine snd_op op_mul ha hb fun G H m x y dx dy d Q s rx ry hd k => ?_
  cases rx <;> first | (cases hd; done) | skip
  cases ry <;> first | (cases hd; done) | skip
  rename_i i j
  simp only [binD] at hd
  split at hd
  · rename_i hl
    cases hd
    refine ⟨_, _, rfl, rfl, ?_, k G H _ Ext.refl s (.int _)⟩
    simp only [mulOk, Bool.or_eq_true, decide_eq_true_eq] at hl
    unfold CMul
    omega
  · cases hd
theorem snd_mod (ha : PE X a (tE M f ia)) (hb : PE X b (tE M f ib)) : PE X (.BinOp a .Mod b pos) (tE M f (.bin .mod ia ib)) := by
  refine snd_op op_mod ha hb fun G H m x y dx dy d Q s rx ry hd k => ?_
  cases rx <;> first | (cases hd; done) | skip
  cases ry <;> first | (cases hd; done) | skip
  simp only [binD] at hd
  split at hd
  · rename_i hl
    cases hd
    exact ⟨_, _, rfl, rfl, hl, k G H _ Ext.refl s (.int _)⟩
  · cases hd
theorem snd_div (ha : PE X a (tE M f ia)) (hb : PE X b (tE M f ib)) : PE X (.BinOp a .FloorDiv b pos) (tE M f (.bin .div ia ib)) := by
  refine snd_op op_fdiv ha hb fun G H m x y dx dy d Q s rx ry hd k => ?_
  cases rx <;> first | (cases hd; done) | skip
  cases ry <;> first | (cases hd; done) | skip
  simp only [binD] at hd
  split at hd
  · rename_i hl
    cases hd
    exact ⟨_, _, rfl, rfl, hl, k G H _ Ext.refl s (.int _)⟩
  · cases hd
theorem snd_pow (ha : PE X a (tE M f ia)) (hb : PE X b (tE M f ib)) : PE X (.BinOp a .Pow b pos) (tE M f (.bin .pow ia ib)) := by
  refine snd_op op_pow ha hb fun G H m x y dx dy d Q s rx ry hd k => ?_
  cases rx <;> first | (cases hd; done) | skip
  cases ry <;> first | (cases hd; done) | skip
  simp only [binD] at hd
  split at hd
  · rename_i hl
    cases hd
    exact ⟨_, _, rfl, rfl, hl, k G H _ Ext.refl s (.int _)⟩
  · cases hd
theorem snd_neg (ha : PE X a (tE M f ia)) : PE X (.UnaryOp .USub a pos) (tE M f (.neg ia)) := by
  refine (pe_un un_neg ha).imp fun σ H Q h => ?_
  obtain ⟨G, e, m, s, er, h⟩ := h
  simp only [evE', evE] at h
  refine Tm.bind rlE_mono s er h fun dx x G1 H1 m1 x1 s1 er1 r1 h1 => ?_
  split at h1
  · cases r1
    exact ⟨_, rfl, h1 _ _ _ Ext.refl s1 (.int _)⟩
  · exact h1.elim
end
end Ev
/-! Ev4: comparisons, tests. -/
namespace Ev
open PySem PySem.Spec L2

section
variable {M : Md} {f : Fm} {G G' : Gh} {H H' : Hp} {m : Mem} {σ : St} {e : Env}
/-! ### the data that == sees -/
section
variable {ρ : Nat → Option PyData}
def RhoOk (M : Md) (G : Gh) (H : Hp) (ρ : Nat → Option PyData) : Prop := ∀ i a p, G.rf[i]? = some a → ρ i = some p → p.canLay0 = true → Dp M.K H (.ref a) p
mutual
theorem py_dp (hρ : RhoOk M G H ρ) : ∀ (d : D) (v : V) (p : PyData), M.Rep G H v d → D.py ρ d = some p → p.canLay0 = true → Dp M.K H v p
  | .non, v, p, r, h, _ => by cases r; simp only [D.py, Option.some.injEq] at h; subst h; exact .non
  | .bl b, v, p, r, h, _ => by cases r; simp only [D.py, Option.some.injEq] at h; subst h; exact .bl b
  | .int i, v, p, r, h, _ => by cases r; simp only [D.py, Option.some.injEq] at h; subst h; exact .int i
  | .str s, v, p, r, h, _ => by cases r; simp only [D.py, Option.some.injEq] at h; subst h; exact .str _
  | .tup xs, v, p, r, h, c => by
    cases r with
    | tup q r =>
      simp only [D.py, Option.map_eq_some_iff] at h
      obtain ⟨ps, h, rfl⟩ := h
      exact .tup q (py_dpL hρ xs _ ps r h (by simpa [PyData.canLay0] using c))
  | .lst xs, v, p, r, h, c => by
    cases r with
    | lst q r =>
      simp only [D.py, Option.map_eq_some_iff] at h
      obtain ⟨ps, h, rfl⟩ := h
      exact .lst q.sq (py_dpL hρ xs _ ps r h (by simpa [PyData.canLay0] using c))
  | .dic xs, v, p, r, h, c => by
    simp only [D.py, Option.map_eq_some_iff] at h
    obtain ⟨ps, h, rfl⟩ := h
    simp [PyData.canLay0] at c
  | .ref i, v, p, r, h, c => by
    cases r with
    | ref q =>
      simp only [D.py] at h
      exact hρ i _ p q h c
  | .cdic _, v, p, r, h, c => by simp [D.py] at h
theorem py_dpL (hρ : RhoOk M G H ρ) : ∀ (ds : List D) (vs : List V) (ps : List PyData), M.RepL G H vs ds → pyL ρ ds = some ps → PyData.canLayAll0 ps = true → DpAll M.K H vs ps
  | [], vs, ps, r, h, _ => by cases r; simp only [pyL, Option.some.injEq] at h; subst h; exact .nil
  | d :: ds, vs, ps, r, h, c => by
    cases r with
    | cons r1 r2 =>
      simp only [pyL] at h
      split at h
      · rename_i p q h1 h2
        cases h
        simp only [PyData.canLayAll0, Bool.and_eq_true] at c
        exact .cons (py_dp hρ d _ p r1 h1 c.1) (py_dpL hρ ds _ q r2 h2 c.2)
      · cases h
end
end
theorem rho_ok (s : M.SI G H m) : ∀ n, RhoOk M G H (rho n m)
  | 0 => fun i a p _ h _ => by simp [rho] at h
  | n + 1 => fun i a p hi h c => by
    simp only [rho] at h
    cases hm : m[i]? with
    | none => rw [hm] at h; simp at h
    | some cl =>
      rw [hm] at h
      simp only [Option.bind_some] at h
      have q := s.at_ i a cl hi hm
      cases cl with
      | lst ds =>
        obtain ⟨xs, e1, r⟩ := q
        simp only [Cell.py, Option.map_eq_some_iff] at h
        obtain ⟨ps, h, rfl⟩ := h
        exact .lst (.inl (.inl e1)) (py_dpL (rho_ok s n) ds xs ps r h (by simpa [PyData.canLay0] using c))
      | dic ds =>
        simp only [Cell.py, Option.map_eq_some_iff] at h
        obtain ⟨ps, h, rfl⟩ := h
        simp [PyData.canLay0] at c
theorem eqOk_lay {p : PyData} (h : eqOk p = true) : p.canLay0 = true := SeqAt.canLay_of_shaped h
theorem RepO.dp (s : M.SI G H m) {v : V} {d : D} {p : PyData} (r : RepO M G H v d) (h : pyOf m d = some p) (c : p.canLay0 = true) : Dp M.K H v p := by
  rcases r with r | ⟨a, ds, rfl, rfl, ⟨xs, e1, r⟩, _⟩ | ⟨a, ds, rfl, rfl, ⟨xs, e1, r⟩, _⟩
  · exact py_dp (rho_ok s 9) d v p r h c
  · simp only [pyOf, D.py, Option.map_eq_some_iff] at h
    obtain ⟨ps, h, rfl⟩ := h
    exact .lst (.inl (.inl e1)) (py_dpL (rho_ok s 9) ds xs ps r h (by simpa [PyData.canLay0] using c))
  · simp only [pyOf, D.py, Option.map_eq_some_iff] at h
    obtain ⟨ps, h, rfl⟩ := h
    simp [PyData.canLay0] at c
theorem eqD_dp (s : M.SI G H m) {x y : V} {a b : D} {c : Bool} (ra : RepO M G H x a) (rb : RepO M G H y b) (h : eqD m a b = some c) : ∃ p q, Dp M.K H x p ∧ Dp M.K H y q ∧ SeqAt.shaped p = true ∧ SeqAt.shaped q = true ∧ PyData.eqv p q = c := by
  unfold eqD at h
  split at h
  · rename_i p q h1 h2
    split at h
    · rename_i ho
      simp only [Bool.and_eq_true] at ho
      cases h
      exact ⟨p, q, ra.dp s h1 (eqOk_lay ho.1), rb.dp s h2 (eqOk_lay ho.2), ho.1, ho.2, rfl⟩
    · cases h
  · cases h
/-! ### flat values -/
theorem Rep.flat {v : V} {d : D} (r : M.Rep G H v d) (h : d.flat = true) : flatV v = true := by cases r <;> first | rfl | (simp [D.flat] at h)
theorem eqV_F {x y : V} {a b : D} (ra : M.Rep G H x a) (rb : M.Rep G H y b) (ha : a.flat = true) (hb : b.flat = true) : eqV x y = eqF a b := by
  cases ra <;> first | (simp [D.flat] at ha; done) | skip
  all_goals (cases rb <;> first | (simp [D.flat] at hb; done) | skip)
  all_goals first | rfl | skip
  rename_i s t
  show (toStr s == toStr t) = (s == t)
  by_cases h : s = t
  · subst h; simp
  · rw [beq_eq_false_iff_ne.mpr h, beq_eq_false_iff_ne.mpr (fun z => h (toStr_inj z))]
theorem RepL.flat : ∀ {xs : List V} {ds : List D}, M.RepL G H xs ds → ds.all D.flat = true → xs.all flatV = true
  | _, _, .nil, _ => rfl
  | _, _, .cons r q, h => by
    simp only [List.all_cons, Bool.and_eq_true] at h ⊢
    exact ⟨Rep.flat r h.1, RepL.flat q h.2⟩
theorem inV_F {x : V} {a : D} (ra : M.Rep G H x a) (ha : a.flat = true) : ∀ {xs : List V} {ds : List D}, M.RepL G H xs ds → ds.all D.flat = true → (xs.any fun y => eqV y x) = ds.any fun z => eqF z a
  | _, _, .nil, _ => rfl
  | _, _, .cons r q, h => by
    simp only [List.all_cons, Bool.and_eq_true] at h
    rw [List.any_cons, List.any_cons, eqV_F r ra h.1 ha, inV_F ra ha q h.2]
theorem RepO.inv_flat {v : V} {d : D} (r : RepO M G H v d) (h : d.flat = true) : M.Rep G H v d := by
  rcases r with r | ⟨a, ds, rfl, rfl, _⟩ | ⟨a, ds, rfl, rfl, _⟩
  · exact r
  · cases h
  · cases h

/-! ### keys -/
theorem kV_rep {d : D} {k : DK} {v : V} (r : M.Rep G H v d) (h : keyOf d = some k) : v = kV (toKey k) := by
  cases r <;> simp [keyOf] at h <;> subst h <;> rfl
theorem RepK.val {k : DK} : ∀ {ks : List (Key × V)} {ds : List (DK × D)}, M.RepK G H ks ds → match getK k ds with
    | some d => ∃ v, valV ks (toKey k) = some v ∧ M.Rep G H v d
    | none => valV ks (toKey k) = none
  | _, _, .nil => rfl
  | _, _, .cons (k := l) (v := v) (d := d) (vs := vs) (ds := ds) r q => by
    have ih := RepK.val (k := k) q
    unfold getK
    by_cases h : l = k
    · subst h
      rw [if_pos rfl]
      exact ⟨v, by simp [valV], r⟩
    · rw [if_neg h]
      have hk : ¬ toKey l = toKey k := fun z => h (toKey_inj z)
      have e : valV ((toKey l, v) :: vs) (toKey k) = valV vs (toKey k) := by simp [valV, hk]
      rw [e]
      exact ih
theorem RepK.length : ∀ {ks : List (Key × V)} {ds : List (DK × D)}, M.RepK G H ks ds → ks.length = ds.length
  | _, _, .nil => rfl
  | _, _, .cons _ q => by rw [List.length_cons, List.length_cons, RepK.length q]
theorem RepK.any {k : DK} : ∀ {ks : List (Key × V)} {ds : List (DK × D)}, M.RepK G H ks ds → (ks.any fun p => decide (p.1 = toKey k)) = ds.any fun p => decide (p.1 = k)
  | _, _, .nil => rfl
  | _, _, .cons (k := l) r q => by
    rw [List.any_cons, List.any_cons, RepK.any q]
    congr 1
    exact decide_eq_decide.mpr ⟨toKey_inj, fun z => congrArg toKey z⟩
theorem RepK.map {k : DK} {v : V} {d : D} (q : M.Rep G H v d) : ∀ {ks : List (Key × V)} {ds : List (DK × D)}, M.RepK G H ks ds → M.RepK G H (ks.map fun p => if p.1 = toKey k then (p.1, v) else p) (ds.map fun p => if p.1 = k then (p.1, d) else p)
  | _, _, .nil => .nil
  | _, _, .cons (k := l) r p => by
    rw [List.map_cons, List.map_cons]
    by_cases h : l = k
    · subst h
      rw [if_pos rfl, if_pos rfl]
      exact .cons q (RepK.map q p)
    · rw [if_neg h, if_neg (fun z => h (toKey_inj z))]
      exact .cons r (RepK.map q p)
theorem RepK.app : ∀ {ks ls : List (Key × V)} {ds es : List (DK × D)}, M.RepK G H ks ds → M.RepK G H ls es → M.RepK G H (ks ++ ls) (ds ++ es)
  | _, _, _, _, .nil, r => r
  | _, _, _, _, .cons h q, r => .cons h (RepK.app q r)
theorem RepK.put {k : DK} {v : V} {d : D} (q : M.Rep G H v d) {ks : List (Key × V)} {ds : List (DK × D)} (r : M.RepK G H ks ds) : M.RepK G H (L2.putK ks (toKey k) v) (Ev.putK k d ds) := by
  unfold Ev.putK L2.putK
  rw [RepK.any r]
  split
  · exact RepK.map q r
  · exact RepK.app r (.cons q .nil)
end
end Ev
/-! Ev5: operands, arguments, comparisons, truth, and, or, not, if. -/
namespace Ev
open PySem PySem.Spec L2

def starB : Expr → Bool
  | .Starred .. => true
  | _ => false
theorem starEach_cons {ex : Expr} {es : List Expr} {env : PySem.Env} (h : starB ex = false) : starEach (ex :: es) env = (false, eval ex env) :: starEach es env := by
  cases ex <;> first | rfl | (simp [starB] at h)
def noStars : List Expr → Bool
  | [] => true
  | e :: r => !starB e && noStars r
theorem starEach_plain {env : PySem.Env} : ∀ {es : List Expr}, noStars es = true → (starEach es env).any (·.1) = false
  | [], _ => rfl
  | e :: r, h => by
    simp only [noStars, Bool.and_eq_true, Bool.not_eq_true'] at h
    rw [starEach_cons h.1, List.any_cons, starEach_plain h.2]
    rfl
theorem backTo_plain {env : PySem.Env} {pos : Pos} : ∀ {es : List Expr}, noStars es = true → (backTo pos (starEach es env)).any (·.1) = false
  | [], _ => rfl
  | e :: r, h => by
    simp only [noStars, Bool.and_eq_true, Bool.not_eq_true'] at h
    rw [starEach_cons h.1]
    have ih := backTo_plain (env := env) (pos := pos) h.2
    unfold backTo at ih ⊢
    rw [List.map_cons, List.any_cons, ih]
    rfl
def plainTest : Expr → Bool
  | .UnaryOp .Not _ _ => false
  | .BoolOp .. => false
  | .IfExp .. => false
  | .Compare .. => false
  | _ => true
theorem isTrue_plainTest {ex : Expr} {env : PySem.Env} (h : plainTest ex = true) : ∀ whole, isTrue ex env whole = (do let v ← whole; standAt ex.pos; holding [v] (truthy v)) := by
  intro whole
  cases ex with
  | UnaryOp op x p => cases op <;> first | rfl | (simp [plainTest] at h)
  | _ => first | rfl | (simp [plainTest] at h)
def setB : Expr → Bool
  | .Set .. => true
  | _ => false
theorem behind_plain {op : CmpOp} {b : Expr} (h : setB b = false) : behindInMarks op b = false := by
  cases b <;> first | rfl | (simp [setB] at h)

section
variable {M : Md} {f : Fm} {X : Cx} {a b : Expr} {ia ib ic : E} {pos : Pos}
/-! ### operands, arguments -/
theorem Fin.weaken {α β : Type} {R1 R2 : Hp → Gh → Hp → β → α → Prop} {G : Gh} {H : Hp} {σ : St} {r : R α} {Q : β → Hp → Prop} (h : Fin M f R2 G H σ r Q) (k : ∀ G' H' b a, R1 H G' H' b a → R2 H G' H' b a) : Fin M f R1 G H σ r Q := by
  cases r with
  | ok a m => exact fun G' H' b x s q => h G' H' b x s (k _ _ _ _ q)
  | ex x m => exact h
  | bad => exact h
theorem snd_oex (ha : PE X a (tE M f ia)) : PE X a (tO M f (.ex ia)) := by
  refine ha.imp fun σ H Q h => ?_
  obtain ⟨G, e, m, s, er, h⟩ := h
  simp only [evO', evO] at h
  exact ⟨G, e, m, s, er, Fin.weaken h fun _ _ _ _ q => .inl q⟩
theorem snd_peek {c : CC} {i : Nat} {x : Str} (C : CtxOk X c) (hN : c.N[i]? = some x) (hv : c.vis x = true) (hd : (x == ("__debug__" : Str)) = false) (hcd : (x == ("__classdict__" : Str)) = false) :
    PE X (.Name x pos) (tO M f (.peek i)) := by
  refine (pe_var (by rw [C.N]; exact hN) (C.vis x hv) hd hcd).imp fun σ H Q h => ?_
  obtain ⟨G, e, m, s, er, h⟩ := h
  simp only [evO', evO] at h
  split at h
  · rename_i xs hi
    obtain ⟨a, e1, e2, e3, e4, e5⟩ := er.own i _ hi
    exact ⟨_, e1, h G H _ Ext.refl s (.inr (.inl ⟨a, _, rfl, rfl, e2, e4⟩))⟩
  · rename_i xs hi
    obtain ⟨a, e1, e2, e3, e4, e5⟩ := er.own i _ hi
    exact ⟨_, e1, h G H _ Ext.refl s (.inr (.inr ⟨a, _, rfl, rfl, e2, e4⟩))⟩
  · exact h.elim
theorem snd_nil : PA X [] (tEs M f .nil) := by
  refine pa_nil.imp fun σ H Q h => ?_
  obtain ⟨G, e, m, s, er, h⟩ := h
  simp only [evEs', evEs] at h
  exact h G H [] Ext.refl s .nil
theorem snd_cons {es : List Expr} {ies : Es} (ha : PE X a (tE M f ia)) (hs : PA X es (tEs M f ies)) (hn : starB a = false) : PA X (a :: es) (tEs M f (.cons ia ies)) := by
  refine (pa_cons ha hs (starEach_cons hn)).imp fun σ H Q h => ?_
  obtain ⟨G, e, m, s, er, h⟩ := h
  simp only [evEs', evEs] at h
  refine Tm.bind rlEs_mono s er h fun dx x G1 H1 m1 x1 s1 er1 r1 h1 => Tm.bind rlEs_mono s1 er1 h1 fun ds xs G2 H2 m2 x2 s2 er2 r2 h2 => ?_
  exact h2 G2 H2 _ Ext.refl s2 (.cons (Rep.mono x2 s1 r1) r2)
theorem rlOs_mono : RlMono (fun _ G H v d => RepOs M G H v d) := fun _ _ _ _ _ _ _ h => h
theorem snd_onil : PA X [] (tOs M f .nil) := by
  refine pa_nil.imp fun σ H Q h => ?_
  obtain ⟨G, e, m, s, er, h⟩ := h
  simp only [evOs', evOs] at h
  exact h G H [] Ext.refl s .nil
theorem snd_ocons {es : List Expr} {io : O} {ies : Os} (ha : PE X a (tO M f io)) (hs : PA X es (tOs M f ies)) (hn : starB a = false) : PA X (a :: es) (tOs M f (.cons io ies)) := by
  refine (pa_cons ha hs (starEach_cons hn)).imp fun σ H Q h => ?_
  obtain ⟨G, e, m, s, er, h⟩ := h
  simp only [evOs', evOs] at h
  refine Tm.bind rlOs_mono s er h fun dx x G1 H1 m1 x1 s1 er1 r1 h1 => Tm.bind rlOs_mono s1 er1 h1 fun ds xs G2 H2 m2 x2 s2 er2 r2 h2 => ?_
  exact h2 G2 H2 _ Ext.refl s2 (.cons (RepO.mono r1 x2 s1) r2)
def Es.len : Es → Nat
  | .nil => 0
  | .cons _ r => r.len + 1
theorem R.bind_assoc {α β γ : Type} (r : R α) (g : α → Mem → R β) (k : β → Mem → R γ) : (r.bind g).bind k = r.bind fun a m => (g a m).bind k := by cases r <;> rfl
theorem R.bind_ok {α β : Type} {r : R α} {g : α → Mem → R β} {b : β} {m : Mem} (h : r.bind g = .ok b m) : ∃ a m1, r = .ok a m1 ∧ g a m1 = .ok b m := by
  cases r with
  | ok a m1 => exact ⟨a, m1, rfl, h⟩
  | ex x m1 => cases h
  | bad => cases h
theorem evEs_len {F : Nat → List Arg → Mem → R D} {C : Nat → Option D} : ∀ {ies : Es} {e : Env} {m m' : Mem} {ds : List D}, evEs F C ies e m = .ok ds m' → ds.length = ies.len
  | .nil, e, m, m', ds, h => by simp only [evEs, R.ok.injEq] at h; rw [← h.1]; rfl
  | .cons a r, e, m, m', ds, h => by
    simp only [evEs] at h
    obtain ⟨x, m1, _, h⟩ := R.bind_ok h
    obtain ⟨xs, m2, h2, h⟩ := R.bind_ok h
    simp only [R.ok.injEq] at h
    rw [← h.1, List.length_cons, evEs_len h2]
    rfl
/-- as Tm.bind, with what was reckoned -/
theorem Tm.bindR {α β γ δ : Type} {R1 : Hp → Gh → Hp → β → α → Prop} {R2 : Hp → Gh → Hp → δ → γ → Prop} (hm : RlMono R2) {ev : Env → Mem → R α} {g : α → Mem → R γ} {Q : δ → Hp → Prop} {Q1 : β → Hp → Prop} {G : Gh} {H : Hp} {σ : St} {e : Env} {m : Mem}
    (s : M.SI G H m) (er : ER M f G H σ e) (h : Fin M f R2 G H σ ((ev e m).bind g) Q)
    (k : ∀ a b G1 H1 m1, ev e m = .ok a m1 → Ext G H G1 H1 → M.SI G1 H1 m1 → ER M f G1 H1 σ e → R1 H G1 H1 b a → Fin M f R2 G1 H1 σ (g a m1) Q → Q1 b H1) : Tm M f R1 ev σ H Q1 := by
  refine ⟨G, e, m, s, er, ?_⟩
  cases hr : ev e m with
  | ok a m1 => rw [hr] at h; exact fun G1 H1 b x s1 q => k a b G1 H1 m1 hr x s1 (er.mono x s) q (Fin.mono hm h x)
  | ex x m1 => rw [hr] at h; exact fun G1 H1 d y s1 q => h G1 H1 d y s1 q
  | bad => rw [hr] at h; exact h
theorem snd_tup {es : List Expr} {ies : Es} {k : Nat} (hs : PA X es (tEs M f ies)) (hl : ies.len ≤ 1000) : PE X (.Tuple es k pos) (tE M f (.tup ies)) := by
  refine (pe_tup hs).imp fun σ H Q h => ?_
  obtain ⟨G, e, m, s, er, h⟩ := h
  simp only [evE', evE] at h
  refine Tm.bindR rlE_mono s er h fun ds xs G1 H1 m1 hr x1 s1 er1 r1 h1 => ?_
  have hz : xs.length ≤ sizeLine := by rw [RepL.length r1, evEs_len hr, sizeLine_eq]; omega
  exact ⟨hz, fun p hp => h1 _ _ _ (Ext.new hp) (SI.new s1 hp) (Rep.tupN s1 hp r1)⟩

/-! ### comparisons -/
theorem rlB_mono : RlMono rlT := rlT_mono
section
variable {op : CmpOp} {o : Cop} {r : R2} {oa ob : O}
theorem snd_cmp (ho : OpR X (compareOp op) r) (ha : PE X a (tO M f oa)) (hb : PE X b (tO M f ob)) (hm : setB b = false)
    (k : ∀ G H m x y dx dy c Q, M.SI G H m → RepO M G H x dx → RepO M G H y dy → cmpD m o dx dy = some c → Q (.bl c) H → r x y H Q) : PE X (.Compare a [op] [b] pos) (tE M f (.cmp o oa ob)) := by
  refine (pe_cmpR ho ha hb (behind_plain hm)).imp fun σ H Q h => ?_
  obtain ⟨G, e, m, s, er, h⟩ := h
  simp only [evE', evE] at h
  refine Tm.bind rlE_mono s er h fun dx x G1 H1 m1 x1 s1 er1 r1 h1 => Tm.bind rlE_mono s1 er1 h1 fun dy y G2 H2 m2 x2 s2 er2 r2 h2 => ?_
  cases hd : cmpD m2 o dx dy with
  | none => rw [hd] at h2; exact h2.elim
  | some c =>
    rw [hd] at h2
    exact k G2 H2 m2 x y dx dy c Q s2 (RepO.mono r1 x2 s1) r2 hd (h2 G2 H2 _ Ext.refl s2 (.bl c))
theorem snd_cmpT (ho : OpR X (compareOp op) r) (ha : PE X a (tO M f oa)) (hb : PE X b (tO M f ob)) (hm : setB b = false)
    (k : ∀ G H m x y dx dy c Q, M.SI G H m → RepO M G H x dx → RepO M G H y dy → cmpD m o dx dy = some c → Q (.bl c) H → r x y H Q) : PT X (.Compare a [op] [b] pos) (tT M f (.cmp o oa ob)) := by
  refine (pt_cmpR ho ha hb (behind_plain hm)).imp fun σ H Q h => ?_
  obtain ⟨G, e, m, s, er, h⟩ := h
  simp only [evT', evT] at h
  refine Tm.bind rlT_mono s er h fun dx x G1 H1 m1 x1 s1 er1 r1 h1 => ?_
  refine Tm.bind rlT_mono s1 er1 h1 fun dy y G2 H2 m2 x2 s2 er2 r2 h2 => ?_
  cases hd : cmpD m2 o dx dy with
  | none => rw [hd] at h2; exact h2.elim
  | some c =>
    rw [hd] at h2
    exact k G2 H2 m2 x y dx dy c _ s2 (RepO.mono r1 x2 s1) r2 hd ⟨c, rfl, h2 G2 H2 _ Ext.refl s2 rfl⟩
end
/-- the rule for each sign, by values -/
structure CmpK (M : Md) (X : Cx) (op : CmpOp) (o : Cop) where
  r : R2
  ho : OpR X (compareOp op) r
  k : ∀ G H m x y dx dy c Q, M.SI G H m → RepO M G H x dx → RepO M G H y dy → cmpD m o dx dy = some c → Q (.bl c) H → r x y H Q
def ck_eq (K : X.K = M.K) (hu : X.A.units + 100 < cLine) : CmpK M X .Eq .eq := ⟨_, op_eqD (by omega), fun G H m x y dx dy c Q s rx ry h q => by
  obtain ⟨p, q', d1, d2, h1, h2, e⟩ := eqD_dp s rx ry h
  rw [K]
  exact ⟨p, q', d1, d2, h1, h2, by rw [e]; exact q⟩⟩
def ck_ne (K : X.K = M.K) (hu : X.A.units + 100 < cLine) : CmpK M X .NotEq .ne := ⟨_, op_neD (by omega), fun G H m x y dx dy c Q s rx ry h q => by
  simp only [cmpD, Option.map_eq_some_iff] at h
  obtain ⟨c', h, rfl⟩ := h
  obtain ⟨p, q', d1, d2, h1, h2, e⟩ := eqD_dp s rx ry h
  rw [K]
  exact ⟨p, q', d1, d2, h1, h2, by rw [e]; exact q⟩⟩
theorem cmp_int {M : Md} {G : Gh} {H : Hp} {m : Mem} {x y : V} {dx dy : D} {c : Bool} {o : Cop} (ho : o = .lt ∨ o = .le ∨ o = .gt ∨ o = .ge) (rx : RepO M G H x dx) (ry : RepO M G H y dy) (h : cmpD m o dx dy = some c) : ∃ i j, x = .int i ∧ y = .int j ∧ dx = .int i ∧ dy = .int j := by
  have : ∃ i j, dx = .int i ∧ dy = .int j := by
    rcases ho with rfl | rfl | rfl | rfl <;> (unfold cmpD at h; split at h <;> first | (cases h; done) | (simp_all; done) | skip)
    all_goals first | exact ⟨_, _, rfl, rfl⟩ | (simp_all; done)
  obtain ⟨i, j, rfl, rfl⟩ := this
  have r1 := RepO.inv_flat rx rfl
  have r2 := RepO.inv_flat ry rfl
  cases r1
  cases r2
  exact ⟨i, j, rfl, rfl, rfl, rfl⟩
def ck_lt : CmpK M X .Lt .lt := ⟨_, op_lt, fun G H m x y dx dy c Q s rx ry h q => by
  obtain ⟨i, j, rfl, rfl, rfl, rfl⟩ := cmp_int (.inl rfl) rx ry h
  simp only [cmpD, Option.some.injEq] at h
  exact ⟨i, j, rfl, rfl, by rw [← h] at q; exact q⟩⟩
def ck_le : CmpK M X .LtE .le := ⟨_, op_le, fun G H m x y dx dy c Q s rx ry h q => by
  obtain ⟨i, j, rfl, rfl, rfl, rfl⟩ := cmp_int (.inr (.inl rfl)) rx ry h
  simp only [cmpD, Option.some.injEq] at h
  exact ⟨i, j, rfl, rfl, by rw [← h] at q; exact q⟩⟩
def ck_gt : CmpK M X .Gt .gt := ⟨_, op_gt, fun G H m x y dx dy c Q s rx ry h q => by
  obtain ⟨i, j, rfl, rfl, rfl, rfl⟩ := cmp_int (.inr (.inr (.inl rfl))) rx ry h
  simp only [cmpD, Option.some.injEq] at h
  exact ⟨i, j, rfl, rfl, by rw [← h] at q; exact q⟩⟩
def ck_ge : CmpK M X .GtE .ge := ⟨_, op_ge, fun G H m x y dx dy c Q s rx ry h q => by
  obtain ⟨i, j, rfl, rfl, rfl, rfl⟩ := cmp_int (.inr (.inr (.inr rfl))) rx ry h
  simp only [cmpD, Option.some.injEq] at h
  exact ⟨i, j, rfl, rfl, by rw [← h] at q; exact q⟩⟩
end
end Ev
/-! Ev6: in, is; and, or, not, if; tests; items; slices. -/
namespace Ev
open PySem PySem.Spec L2

section
variable {M : Md} {f : Fm} {G : Gh} {H : Hp} {m : Mem}
/-- a dict that is read by keys -/
theorem RepO.dic (s : M.SI G H m) {v : V} {d : D} {kvs : List (DK × D)} (r : RepO M G H v d) (h : dicOf m d = some kvs) : ∃ a ks, v = .ref a ∧ Rd H a (.dK ks) ∧ M.RepK G H ks kvs := by
  rcases r with r | ⟨a, es, rfl, rfl, ⟨xs, e1, r⟩, _⟩ | ⟨a, es, rfl, rfl, ⟨xs, e1, r⟩, _⟩
  · cases r with
    | non => cases h
    | bl => cases h
    | int => cases h
    | str => cases h
    | tup q r => cases h
    | lst q r => cases h
    | dic q r => cases h; exact ⟨_, _, rfl, .inr ⟨_, q⟩, r⟩
    | cdic => cases h
    | @ref i a q =>
      simp only [dicOf] at h
      split at h
      · rename_i ys hm
        cases h
        obtain ⟨xs, q1, q2⟩ := s.at_ i a _ q hm
        exact ⟨a, xs, rfl, .inl q1, q2⟩
      · cases h
  · cases h
  · cases h; exact ⟨a, xs, rfl, .inl e1, r⟩
theorem RepO.dget (s : M.SI G H m) {v x : V} {d dx : D} {kvs : List (DK × D)} {k : DK} (r : RepO M G H v d) (h : dicOf m d = some kvs) (rx : RepO M G H x dx) (hk : keyOf dx = some k) :
    ∃ a, v = .ref a ∧ IsD H a ∧ match getK k kvs with
      | some t => ∃ u, DGet H a x (some u) ∧ M.Rep G H u t
      | none => DGet H a x none := by
  obtain ⟨a, ks, rfl, q, rk⟩ := RepO.dic s r h
  have hx : dx.flat = true := by cases dx <;> simp_all [keyOf, D.flat]
  have ex := kV_rep (RepO.inv_flat rx hx) hk
  have hv := RepK.val (k := k) rk
  refine ⟨a, rfl, .inl ⟨ks, q⟩, ?_⟩
  split
  · rename_i t ht
    rw [ht] at hv
    obtain ⟨u, e1, e2⟩ := hv
    exact ⟨u, .inl ⟨ks, _, q, ex, e1.symm⟩, e2⟩
  · rename_i ht
    rw [ht] at hv
    exact .inl ⟨ks, _, q, ex, hv.symm⟩
theorem eqAll_dp (s : M.SI G H m) {x y : V} {a d : D} {ys : List D} {bs : List Bool} (rx : RepO M G H x a) (ry : RepO M G H y d) (hd : seqOf m d = some ys) (nt : ∀ zs, d ≠ .tup zs) (h : eqAll m a ys = some bs) :
    ∃ p qs, Dp M.K H x p ∧ Dp M.K H y (.list qs) ∧ SeqAt.shaped p = true ∧ SeqAt.shaped (.list qs) = true ∧ bs = qs.map fun q => PyData.eqv q p := by
  unfold eqAll at h
  split at h
  · rename_i p qs h1 h2
    split at h
    · rename_i ho
      simp only [Bool.and_eq_true] at ho
      cases h
      refine ⟨p, qs, rx.dp s h1 (eqOk_lay ho.1), ?_, ho.1, ho.2, rfl⟩
      obtain ⟨c, xs, rfl, r, q⟩ := RepO.seq s ry hd
      have hl : PyData.canLayAll0 qs = true := by simpa [PyData.canLay0] using eqOk_lay ho.2
      rcases q with ⟨⟨zs, e⟩, _⟩ | ⟨_, hs⟩
      · exact absurd e (nt zs)
      · exact .lst hs (py_dpL (rho_ok s 9) ys xs qs r h2 hl)
    · cases h
  · cases h
end
/-! ### in -/
section
variable {M : Md} {X : Cx}
theorem op_din (hu : X.A.units + 100 < cLine) : OpR X (compareOp .In) (fun x y H Q => ∃ a ov, y = .ref a ∧ DGet H a x ov ∧ Q (.bl ov.isSome) H) := by
  intro pins s σ H x y v u Q I rx ry h
  obtain ⟨a, ov, rfl, g, q⟩ := h
  cases ry
  exact d_in (by omega) I g rx fun s3 I3 => ⟨.bl ov.isSome, H, I3, rfl, q⟩
theorem op_dnin (hu : X.A.units + 100 < cLine) : OpR X (compareOp .NotIn) (fun x y H Q => ∃ a ov, y = .ref a ∧ DGet H a x ov ∧ Q (.bl (!ov.isSome)) H) := by
  intro pins s σ H x y v u Q I rx ry h
  obtain ⟨a, ov, rfl, g, q⟩ := h
  cases ry
  exact d_notIn (by omega) I g rx fun s3 I3 => ⟨.bl (!ov.isSome), H, I3, rfl, q⟩
theorem op_kin : OpR X (compareOp .In) (fun x y H Q => ∃ (d : Addr) (es : Array DictEntry) (n : Nat) (z : Str) (r : Option Value), KDict X.K X.w d es n ∧ x = .str z ∧ y = .ref d ∧ PySem.W.nsIn X.K d z = some r ∧ Q (.bl r.isSome) H) := by
  intro pins s σ H x y v u Q I rx ry h
  obtain ⟨d, es, n, z, r, D, h⟩ := h
  exact op_in_kd D pins s σ H x y v u Q I rx ry ⟨z, r, h⟩
theorem op_knin : OpR X (compareOp .NotIn) (fun x y H Q => ∃ (d : Addr) (es : Array DictEntry) (n : Nat) (z : Str) (r : Option Value), KDict X.K X.w d es n ∧ x = .str z ∧ y = .ref d ∧ PySem.W.nsIn X.K d z = some r ∧ Q (.bl (!r.isSome)) H) := by
  intro pins s σ H x y v u Q I rx ry h
  obtain ⟨d, es, n, z, r, D, h⟩ := h
  exact op_notIn_kd D pins s σ H x y v u Q I rx ry ⟨z, r, h⟩
inductive InK (M : Md) (G : Gh) (H : Hp) (x y : V) (c : Bool) : Prop
  | row (p : Addr) (xs : List V) (e : y = .ref p) (h : SqT M.K H p xs) (f1 : flatV x = true) (f2 : xs.all flatV = true) (q : inV x xs = c)
  | deep (p : PyData) (qs : List PyData) (h1 : Dp M.K H x p) (h2 : Dp M.K H y (.list qs)) (s1 : SeqAt.shaped p = true) (s2 : SeqAt.shaped (.list qs) = true) (q : (qs.any fun z => PyData.eqv z p) = c)
  | dic (a : Addr) (ov : Option V) (e : y = .ref a) (g : DGet H a x ov) (q : ov.isSome = c)
  | kd (d : Addr) (es : Array DictEntry) (n : Nat) (z : Str) (r : Option Value) (D : KDict M.K M.w d es n) (ex : x = .str z) (ey : y = .ref d) (h : PySem.W.nsIn M.K d z = some r) (q : r.isSome = c)
theorem inD_k {G : Gh} {H : Hp} {m : Mem} {x y : V} {dx dy : D} {c : Bool} (s : M.SI G H m) (rx : RepO M G H x dx) (ry : RepO M G H y dy) (h : inD m dx dy = some c) : InK M G H x y c := by
  unfold inD at h
  split at h
  · rename_i ys hs
    split at h
    · rename_i zs
      split at h
      · rename_i hf
        simp only [Bool.and_eq_true] at hf
        cases h
        obtain ⟨a, xs, rfl, r, q⟩ := RepO.seq s ry hs
        have ex := RepO.inv_flat rx hf.1
        rcases q with ⟨_, q⟩ | ⟨q, _⟩
        · exact .row a xs rfl q (Rep.flat ex hf.1) (RepL.flat r hf.2) (inV_F ex hf.1 r hf.2)
        · exact absurd rfl (q _)
      · cases h
    · rename_i nt
      simp only [Option.map_eq_some_iff] at h
      obtain ⟨bs, h, rfl⟩ := h
      obtain ⟨p, qs, h1, h2, s1, s2, rfl⟩ := eqAll_dp s rx ry hs (fun zs e => nt zs e) h
      exact .deep p qs h1 h2 s1 s2 (by rw [List.any_map]; rfl)
  · split at h
    · rename_i kvs z _
      cases h
      have ex := RepO.inv_flat rx rfl
      cases ex
      rcases ry with ry | ⟨_, _, _, e, _⟩ | ⟨_, _, _, e, _⟩
      · cases ry with
        | @cdic a es n ks ds D kv r =>
          have hv := RepK.val (k := .s z) r
          have hk := kv (toStr z)
          have et : toKey (.s z) = Sum.inr (toStr z) := rfl
          rw [et] at hv
          split at hv
          · rename_i t ht
            obtain ⟨u, e1, _⟩ := hv
            rw [e1] at hk
            obtain ⟨w', e2, _⟩ := hk
            exact .kd a es n (toStr z) (some w') D rfl rfl e2 (by rw [ht]; rfl)
          · rename_i ht
            rw [hv] at hk
            exact .kd a es n (toStr z) none D rfl rfl hk (by rw [ht]; rfl)
      · cases e
      · cases e
    · split at h
      · rename_i kvs k hd hk
        cases h
        obtain ⟨a, rfl, _, q⟩ := RepO.dget s ry hd rx hk
        split at q
        · rename_i t ht
          obtain ⟨u, g, _⟩ := q
          exact .dic a _ rfl g (by rw [ht]; rfl)
        · rename_i ht
          exact .dic a _ rfl q (by rw [ht]; rfl)
      · cases h
def ck_in (K : X.K = M.K) (hw : X.w = M.w) (hu : X.A.units + 100 < cLine) : CmpK M X .In .in_ := ⟨_, OpR.or op_in_seq (OpR.or (op_inD (by omega)) (OpR.or (op_din hu) op_kin)), fun G H m x y dx dy c Q s rx ry h q => by
  have k := inD_k s rx ry h
  cases k with
  | row p xs e h f1 f2 z => rw [K]; exact .inl ⟨p, xs, e, .inr h, f1, f2, by show Q (.bl (inV x xs)) H; rw [z]; exact q⟩
  | deep p qs h1 h2 s1 s2 z => rw [K]; exact .inr (.inl ⟨p, qs, h1, h2, s1, s2, by rw [z]; exact q⟩)
  | dic a ov e g z => exact .inr (.inr (.inl ⟨a, ov, e, g, by rw [z]; exact q⟩))
  | kd d es n zz r D ex ey h z => rw [K, hw]; exact .inr (.inr (.inr ⟨d, es, n, zz, r, D, ex, ey, h, by rw [z]; exact q⟩))⟩
def ck_nin (K : X.K = M.K) (hw : X.w = M.w) (hu : X.A.units + 100 < cLine) : CmpK M X .NotIn .nin := ⟨_, OpR.or op_notIn_seq (OpR.or (op_notInD (by omega)) (OpR.or (op_dnin hu) op_knin)), fun G H m x y dx dy c Q s rx ry h q => by
  simp only [cmpD, Option.map_eq_some_iff] at h
  obtain ⟨c', h, rfl⟩ := h
  have k := inD_k s rx ry h
  cases k with
  | row p xs e h f1 f2 z => rw [K]; exact .inl ⟨p, xs, e, .inr h, f1, f2, by show Q (.bl (!inV x xs)) H; rw [z]; exact q⟩
  | deep p qs h1 h2 s1 s2 z => rw [K]; exact .inr (.inl ⟨p, qs, h1, h2, s1, s2, by rw [z]; exact q⟩)
  | dic a ov e g z => exact .inr (.inr (.inl ⟨a, ov, e, g, by rw [z]; exact q⟩))
  | kd d es n zz r D ex ey h z => rw [K, hw]; exact .inr (.inr (.inr ⟨d, es, n, zz, r, D, ex, ey, h, by rw [z]; exact q⟩))⟩
/-! ### is None -/
theorem RepO.non_iff {G : Gh} {H : Hp} {x : V} {d : D} (r : RepO M G H x d) : decide (x = .non) = d.isNon := by
  rcases r with r | ⟨a, es, rfl, rfl, _⟩ | ⟨a, es, rfl, rfl, _⟩
  · cases r <;> rfl
  · rfl
  · rfl
def ck_is : CmpK M X .Is .is_ := ⟨_, op_isN, fun G H m x y dx dy c Q s rx ry h q => by
  have e : dy = .non := by unfold cmpD at h; split at h <;> simp_all
  subst e
  have ey := RepO.inv_flat ry rfl
  cases ey
  refine ⟨rfl, ?_⟩
  rw [RepO.non_iff rx]
  have : c = dx.isNon := (Option.some.inj h).symm
  rw [← this]
  exact q⟩
def ck_isn : CmpK M X .IsNot .isn := ⟨_, op_notN, fun G H m x y dx dy c Q s rx ry h q => by
  have e : dy = .non := by unfold cmpD at h; split at h <;> simp_all
  subst e
  have ey := RepO.inv_flat ry rfl
  cases ey
  refine ⟨rfl, ?_⟩
  rw [RepO.non_iff rx]
  have : c = !dx.isNon := (Option.some.inj h).symm
  rw [← this]
  exact q⟩
end
end Ev
/-! Ev7: truth, and, or, not, if; tests; items; slices. -/
namespace Ev
open PySem PySem.Spec L2

section
variable {M : Md} {f : Fm} {G : Gh} {H : Hp} {m : Mem} {X : Cx}
theorem isEmpty_len {α β : Type} : ∀ {xs : List α} {ys : List β}, xs.length = ys.length → xs.isEmpty = ys.isEmpty
  | [], [], _ => rfl
  | _ :: _, _ :: _, _ => rfl
theorem RepO.truth (s : M.SI G H m) {v : V} {d : D} {b : Bool} (r : RepO M G H v d) (h : Ev.truth m d = some b) : TruV M.K v H b := by
  rcases r with r | ⟨a, es, rfl, rfl, ⟨xs, e1, r⟩, _⟩ | ⟨a, es, rfl, rfl, ⟨xs, e1, r⟩, _⟩
  · cases r with
    | non => simp only [Ev.truth, Option.some.injEq] at h; exact h.symm
    | bl c => simp only [Ev.truth, Option.some.injEq] at h; exact h.symm
    | int i => simp only [Ev.truth, Option.some.injEq] at h; exact h.symm
    | str z =>
      simp only [Ev.truth] at h
      split at h
      · rename_i hl
        simp only [Option.some.injEq] at h
        refine ⟨by rw [toStr_len, ← lineMax_eq]; exact hl, ?_⟩
        rw [toStr_len, ← h]
        cases z with
        | nil => rfl
        | cons a l =>
          have : ((((a :: l).length : Nat) : Int) != 0) = true := by rw [bne_iff_ne]; simp only [List.length_cons]; omega
          rw [this]
          rfl
      · cases h
    | @tup a xs ds q r =>
      simp only [Ev.truth, Option.some.injEq] at h
      exact .inr (.inl ⟨xs, q, by rw [isEmpty_len (RepL.length r)]; exact h.symm⟩)
    | @lst a xs ds q r =>
      simp only [Ev.truth, Option.some.injEq] at h
      exact .inl ⟨xs, q.sq, by rw [isEmpty_len (RepL.length r)]; exact h.symm⟩
    | dic => cases h
    | cdic => cases h
    | @ref i a q =>
      simp only [Ev.truth] at h
      split at h
      · rename_i ys hm
        obtain ⟨xs, q1, q2⟩ := s.at_ i a _ q hm
        simp only [Option.some.injEq] at h
        exact .inl ⟨xs, .inl (.inl q1), by rw [isEmpty_len (RepL.length q2)]; exact h.symm⟩
      · rename_i ys hm
        obtain ⟨xs, q1, q2⟩ := s.at_ i a _ q hm
        simp only [Option.some.injEq] at h
        exact .inr (.inr ⟨xs, q1, by rw [isEmpty_len (RepK.length q2)]; exact h.symm⟩)
      · cases h
  · simp only [Ev.truth, Option.some.injEq] at h
    exact .inl ⟨xs, .inl (.inl e1), by rw [isEmpty_len (RepL.length r)]; exact h.symm⟩
  · cases h
end
section
variable {M : Md} {f : Fm} {X : Cx} {a b c : Expr} {ia ib ic : E} {oa ob : O} {ta tb : T} {pos : Pos} {rest : List Expr}
theorem snd_not (K : X.K = M.K) (ha : PE X a (tO M f oa)) : PE X (.UnaryOp .Not a pos) (tE M f (.not oa)) := by
  refine (pe_notT ha).imp fun σ H Q h => ?_
  obtain ⟨G, e, m, s, er, h⟩ := h
  simp only [evE', evE] at h
  refine Tm.bind rlE_mono s er h fun dx x G1 H1 m1 x1 s1 er1 r1 h1 => ?_
  cases ht : truth m1 dx with
  | none => rw [ht] at h1; exact h1.elim
  | some b =>
    rw [ht] at h1
    rw [K]
    exact ⟨b, RepO.truth s1 r1 ht, h1 G1 H1 _ Ext.refl s1 (.bl _)⟩
theorem snd_one {op : BoolOp} (ha : PE X a (tE M f ia)) : PE X (.BoolOp op [a] pos) (tE M f ia) := pe_one ha
theorem snd_and (K : X.K = M.K) (ha : PE X a (tE M f ia)) (hb : PE X (.BoolOp .And (b :: rest) pos) (tE M f ib)) : PE X (.BoolOp .And (a :: b :: rest) pos) (tE M f (.and ia ib)) := by
  refine (pe_andT ha hb).imp fun σ H Q h => ?_
  obtain ⟨G, e, m, s, er, h⟩ := h
  simp only [evE', evE] at h
  refine Tm.bind rlE_mono s er h fun dx x G1 H1 m1 x1 s1 er1 r1 h1 => ?_
  cases ht : truth m1 dx with
  | none => rw [ht] at h1; exact h1.elim
  | some b =>
    rw [ht] at h1
    rw [K]
    refine ⟨b, RepO.truth s1 (.inl r1) ht, ?_⟩
    cases b with
    | true => exact ⟨G1, e, m1, s1, er1, h1⟩
    | false => exact h1 G1 H1 _ Ext.refl s1 r1
theorem snd_or (K : X.K = M.K) (ha : PE X a (tE M f ia)) (hb : PE X (.BoolOp .Or (b :: rest) pos) (tE M f ib)) : PE X (.BoolOp .Or (a :: b :: rest) pos) (tE M f (.or ia ib)) := by
  refine (pe_orT ha hb).imp fun σ H Q h => ?_
  obtain ⟨G, e, m, s, er, h⟩ := h
  simp only [evE', evE] at h
  refine Tm.bind rlE_mono s er h fun dx x G1 H1 m1 x1 s1 er1 r1 h1 => ?_
  cases ht : truth m1 dx with
  | none => rw [ht] at h1; exact h1.elim
  | some b =>
    rw [ht] at h1
    rw [K]
    refine ⟨b, RepO.truth s1 (.inl r1) ht, ?_⟩
    cases b with
    | true => exact h1 G1 H1 _ Ext.refl s1 r1
    | false => exact ⟨G1, e, m1, s1, er1, h1⟩
/-! ### tests -/
theorem snd_val (K : X.K = M.K) (ha : PE X a (tO M f oa)) (hp : plainTest a = true) : PT X a (tT M f (.val oa)) := by
  refine (pt_truth ha (isTrue_plainTest hp)).imp fun σ H Q h => ?_
  obtain ⟨G, e, m, s, er, h⟩ := h
  simp only [evT', evT] at h
  refine Tm.bind rlT_mono s er h fun dx x G1 H1 m1 x1 s1 er1 r1 h1 => ?_
  cases ht : truth m1 dx with
  | none => rw [ht] at h1; exact h1.elim
  | some b =>
    rw [ht] at h1
    rw [K]
    exact ⟨b, RepO.truth s1 r1 ht, h1 G1 H1 _ Ext.refl s1 rfl⟩
theorem snd_tnot (ha : PT X a (tT M f ta)) : PT X (.UnaryOp .Not a pos) (tT M f (.not ta)) := by
  refine (pt_not ha).imp fun σ H Q h => ?_
  obtain ⟨G, e, m, s, er, h⟩ := h
  simp only [evT', evT] at h
  exact Tm.bind rlT_mono s er h fun dx x G1 H1 m1 x1 s1 er1 r1 h1 => h1 G1 H1 _ Ext.refl s1 (by cases (show x = dx from r1); rfl)
theorem snd_tone {op : BoolOp} (ha : PT X a (tT M f ta)) : PW X (.BoolOp op [a] pos) (tT M f ta) := by
  cases op with
  | And => exact pw_and1 ha
  | Or => exact pw_or1 ha
theorem snd_tand (ha : PT X a (tT M f ta)) (hb : PW X (.BoolOp .And (b :: rest) pos) (tT M f tb)) : PW X (.BoolOp .And (a :: b :: rest) pos) (tT M f (.and ta tb)) := by
  refine (pw_and ha hb).imp fun σ H Q h => ?_
  obtain ⟨G, e, m, s, er, h⟩ := h
  simp only [evT', evT] at h
  refine Tm.bind rlT_mono s er h fun dx x G1 H1 m1 x1 s1 er1 r1 h1 => ?_
  cases (show x = dx from r1)
  cases dx with
  | true => exact ⟨G1, e, m1, s1, er1, h1⟩
  | false => exact h1 G1 H1 _ Ext.refl s1 rfl
theorem snd_tor (ha : PT X a (tT M f ta)) (hb : PW X (.BoolOp .Or (b :: rest) pos) (tT M f tb)) : PW X (.BoolOp .Or (a :: b :: rest) pos) (tT M f (.or ta tb)) := by
  refine (pw_or ha hb).imp fun σ H Q h => ?_
  obtain ⟨G, e, m, s, er, h⟩ := h
  simp only [evT', evT] at h
  refine Tm.bind rlT_mono s er h fun dx x G1 H1 m1 x1 s1 er1 r1 h1 => ?_
  cases (show x = dx from r1)
  cases dx with
  | true => exact h1 G1 H1 _ Ext.refl s1 rfl
  | false => exact ⟨G1, e, m1, s1, er1, h1⟩
theorem snd_ite (hc : PT X c (tT M f ta)) (ha : PE X a (tE M f ia)) (hb : PE X b (tE M f ib)) : PE X (.IfExp c a b pos) (tE M f (.ite ta ia ib)) := by
  refine (pe_ifExp hc ha hb).imp fun σ H Q h => ?_
  obtain ⟨G, e, m, s, er, h⟩ := h
  simp only [evE', evE] at h
  refine Tm.bind rlE_mono s er h fun dx x G1 H1 m1 x1 s1 er1 r1 h1 => ?_
  cases (show x = dx from r1)
  cases dx with
  | true => exact ⟨G1, e, m1, s1, er1, h1⟩
  | false => exact ⟨G1, e, m1, s1, er1, h1⟩

/-! ### items -/
theorem ix_dict (hu : X.A.units + 100 < cLine) : IxR X (fun x y H Q => ∃ a v, x = .ref a ∧ DGet H a y (some v) ∧ Q v H) := by
  intro value slice pins s σ H x y v u Q I rx ry h hs
  obtain ⟨p, r, rfl, g, q⟩ := h
  obtain rfl : v = Value.ref p := rx
  exact PyProof.Rows.tail_any (dict_typeIs I g) PySem.F.slot_dict_getitem.lookup (d_getItem (by omega) I g ry fun w' s' I' r' => ⟨r, H, I', r', q⟩) hs
theorem ixOf_eq {α : Type} (xs : List α) (n : Nat) (i : Int) (hn : n = xs.length) : (ixOf n i).bind (fun j => xs[j]?) = atI xs i := by
  subst hn
  rfl
def noSlice : Expr → Bool
  | .Slice .. => false
  | .Tuple .. => false
  | _ => true
theorem plainIx_of {b : Expr} (h : noSlice b = true) : PlainIx b := by
  intro o i
  cases b <;> first | rfl | (simp [noSlice] at h)
theorem toStr_cps (z : List Nat) : (toStr z).cps.toList = z := rfl
theorem idxD_k {G : Gh} {H : Hp} {m : Mem} {x y : V} {dx dy d : D} {Q : VK} (s : M.SI G H m) (rx : RepO M G H x dx) (ry : M.Rep G H y dy) (h : idxD m dx dy = some d) (q : ∀ v, M.Rep G H v d → Q v H) :
    (rIx M.K x y H Q) ∨ (∃ a v, x = .ref a ∧ DGet H a y (some v) ∧ Q v H) ∨ rIxD M.K M.w x y H Q := by
  have row : ∀ xs i, seqOf m dx = some xs → dy = .int i → (ixOf xs.length i).bind (fun j => xs[j]?) = some d → rIx M.K x y H Q := by
    rintro xs i hs rfl hi
    cases ry
    obtain ⟨a, vs, rfl, r, q1⟩ := RepO.seq s rx hs
    obtain ⟨j, hj, hd⟩ := Option.bind_eq_some_iff.mp hi
    obtain ⟨v, hv, rv⟩ := RepL.get r hd
    have hat : atI vs i = some v := by
      rw [← ixOf_eq vs xs.length i (RepL.length r).symm, hj]
      exact hv
    rcases q1 with ⟨_, q1⟩ | ⟨_, q1⟩
    · exact .inr (.inl ⟨a, vs, i, v, rfl, rfl, q1, hat, q v rv⟩)
    · exact .inl ⟨a, vs, i, v, rfl, rfl, q1, hat, q v rv⟩
  have dicc : ∀ kvs k, dicOf m dx = some kvs → keyOf dy = some k → getK k kvs = some d → ∃ a v, x = .ref a ∧ DGet H a y (some v) ∧ Q v H := by
    intro kvs k hd hk hg
    obtain ⟨a, rfl, _, g⟩ := RepO.dget s rx hd (.inl ry) hk
    rw [hg] at g
    obtain ⟨u, g, ru⟩ := g
    exact ⟨a, u, rfl, g, q u ru⟩
  unfold idxD at h
  split at h
  · rename_i z i
    split at h
    · rename_i hl
      have ex := RepO.inv_flat rx rfl
      cases ex
      cases ry
      obtain ⟨j, hj, hd⟩ := Option.bind_eq_some_iff.mp h
      obtain ⟨cc, hc, rfl⟩ := Option.map_eq_some_iff.mp hd
      refine .inl (.inr (.inr ⟨toStr z, i, cc, rfl, rfl, by rw [toStr_len, ← lineMax_eq]; exact hl, ?_, q _ (.str [cc])⟩))
      rw [toStr_cps, ← ixOf_eq z z.length i rfl, hj]
      exact hc
    · cases h
  · rename_i kvs z
    cases ry
    rcases rx with rx | ⟨_, _, _, e, _⟩ | ⟨_, _, _, e, _⟩
    · cases rx with
      | @cdic a es n ks ds D kv r =>
        have hv := RepK.val (k := .s z) r
        have hk := kv (toStr z)
        have et : toKey (.s z) = Sum.inr (toStr z) := rfl
        rw [et, h] at hv
        obtain ⟨u, e1, ru⟩ := hv
        rw [e1] at hk
        obtain ⟨w', e2, rw'⟩ := hk
        exact .inr (.inr ⟨a, toStr z, u, rfl, rfl, ⟨es, n, w', D.at_, D.lit, e2, rw'⟩, q u ru⟩)
    · cases e
    · cases e
  · split at h
    · rename_i xs i hs _
      exact .inl (row _ _ (by assumption) rfl h)
    · split at h
      · rename_i kvs k hd hk
        exact .inr (.inl (dicc kvs k hd hk h))
      · cases h
theorem snd_idx (K : X.K = M.K) (hw : X.w = M.w) (hu : X.A.units + 100 < cLine) (ha : PE X a (tO M f oa)) (hb : PE X b (tE M f ib)) (hp : noSlice b = true) : PE X (.Subscript a b pos) (tE M f (.idx oa ib)) := by
  refine (pe_ix (IxR.or ix_seq (IxR.or (ix_dict hu) ix_kdict)) ha hb (plainIx_of hp)).imp fun σ H Q h => ?_
  obtain ⟨G, e, m, s, er, h⟩ := h
  simp only [evE', evE] at h
  refine Tm.bind rlE_mono s er h fun dx x G1 H1 m1 x1 s1 er1 r1 h1 => Tm.bind rlE_mono s1 er1 h1 fun dy y G2 H2 m2 x2 s2 er2 r2 h2 => ?_
  obtain ⟨d, hd, q⟩ := Fin.of s2 h2
  have k := idxD_k (Q := Q) s2 (RepO.mono r1 x2 s1) r2 hd q
  rw [K, hw]
  exact k
/-! ### slices of values -/
theorem snd_eno : PO X none (tEo M f .no) := by
  refine po_none.imp fun σ H Q h => ?_
  obtain ⟨G, e, m, s, er, h⟩ := h
  simp only [evEo', evEo] at h
  exact h G H none Ext.refl s rfl
theorem snd_eex (ha : PE X a (tE M f ia)) : PO X (some a) (tEo M f (.ex ia)) := by
  refine (po_some ha).imp fun σ H Q h => ?_
  obtain ⟨G, e, m, s, er, h⟩ := h
  simp only [evEo', evEo] at h
  refine Tm.bind rlI_mono s er h fun dx x G1 H1 m1 x1 s1 er1 r1 h1 => ?_
  split at h1
  · cases r1
    exact ⟨_, rfl, h1 G1 H1 _ Ext.refl s1 rfl⟩
  · exact h1.elim
theorem cutS_eq (z : List Nat) (lo hi : Option Int) : cutS (toStr z) lo hi = toStr (cut z lo hi) := by
  have : (toStr z).cps.toList = z := rfl
  show (⟨_⟩ : Str) = ⟨_⟩
  simp only [Ev.cut, sIx_eq]
  rfl
theorem snd_sl {lo hi : Option Expr} {il ih : Eo} {p2 : Pos} (K : X.K = M.K) (ha : PE X a (tE M f ia)) (hl : PO X lo (tEo M f il)) (hh : PO X hi (tEo M f ih)) : PE X (.Subscript a (.Slice lo hi none p2) pos) (tE M f (.sl ia il ih)) := by
  refine (pe_slice (SlR.or sl_tupA (SlR.or sl_list sl_str)) ha hl hh).imp fun σ H Q h => ?_
  obtain ⟨G, e, m, s, er, h⟩ := h
  simp only [evE', evE] at h
  refine Tm.bind rlE_mono s er h fun dx x G1 H1 m1 x1 s1 er1 r1 h1 => Tm.bind rlE_mono s1 er1 h1 fun l l' G2 H2 m2 x2 s2 er2 r2 h2 => Tm.bind rlE_mono s2 er2 h2 fun u u' G3 H3 m3 x3 s3 er3 r3 h3 => ?_
  cases (show l' = l from r2)
  cases (show u' = u from r3)
  have r4 := Rep.mono (x2.trans x3) s1 r1
  rw [K]
  split at h3
  · cases r4 with
    | @tup p xs ds q r =>
      refine .inl ⟨p, xs, rfl, q, fun w => ?_, fun w p hp => ?_⟩
      · refine h3 G3 H3 _ Ext.refl s3 (.tup q ?_)
        rename_i ds
        have e0 : cut ds l u = ds := by
          unfold cut
          rw [sIx_eq, sIx_eq, ← RepL.length r, w.1, w.2, List.drop_zero, Nat.sub_zero, RepL.length r, List.take_length]
        rw [e0]
        exact r
      · exact h3 _ _ _ (Ext.new hp) (SI.new s3 hp) (Rep.tupN s3 hp (RepL.cut l u r))
  · cases r4 with
    | @lst p xs ds q r =>
      exact .inr (.inl ⟨p, xs, rfl, q.sq, fun p hp => h3 _ _ _ (Ext.newF hp) (SI.newF s3 hp) (Rep.lstN s3 hp (RepL.cut l u r))⟩)
  · split at h3
    · rename_i z hl
      cases r4
      refine .inr (.inr ⟨toStr z, rfl, by rw [toStr_len, ← lineMax_eq]; exact hl, ?_⟩)
      rw [cutS_eq]
      exact h3 G3 H3 _ Ext.refl s3 (.str _)
    · exact h3.elim
  · exact h3.elim
end
end Ev
/-! Ev8: new lists and dicts; built-in calls; isinstance. -/
namespace Ev
open PySem PySem.Spec L2

section
variable {M : Md} {f : Fm} {G G' : Gh} {H H' : Hp} {m : Mem}
/-! ### a thing is frozen, or shared -/
theorem Lift.frz {a : Addr} : Lift G H (G.frz a) H := ⟨fun _ h => .inl h, ⟨[], by simp [Gh.frz]⟩, fun _ _ h _ _ _ => h⟩
def Gh.add (G : Gh) (a : Addr) : Gh := ⟨G.fz, G.rf ++ [a]⟩
theorem Lift.add {a : Addr} : Lift G H (G.add a) H := ⟨fun _ h => h, ⟨[a], rfl⟩, fun _ _ h _ _ _ => h⟩
theorem CellRep.lift (s : M.SI G H m) (x : Lift G H G' H) {a : Addr} {c : Cell} (r : M.CellRep G H a c) : M.CellRep G' H a c := by
  cases c with
  | lst ds => obtain ⟨xs, e, r⟩ := r; exact ⟨xs, e, RepL.lift x s r⟩
  | dic ds => obtain ⟨xs, e, r⟩ := r; exact ⟨xs, e, RepK.lift x s r⟩
theorem SI.frz (s : M.SI G H m) {a : Addr} {o : HO} (ha : H a = some o) (hn : a ∉ G.rf) : M.SI (G.frz a) H m where
  tab := s.tab
  len := s.len
  nd := s.nd
  at_ := fun i b c h1 h2 => CellRep.lift s Lift.frz (s.at_ i b c h1 h2)
  fz := fun b h => by
    rcases h with h | rfl
    · exact s.fz b h
    · exact ⟨o, ha⟩
  dj := fun b h => by
    rcases h with h | rfl
    · exact s.dj b h
    · exact hn
theorem SI.add (s : M.SI G H m) {a : Addr} {c : Cell} (r : M.CellRep G H a c) (hn : a ∉ G.rf) (hf : ¬ G.fz a) : M.SI (G.add a) H (m ++ [c]) where
  tab := s.tab
  len := by show (G.rf ++ [a]).length = _; rw [List.length_append, List.length_append, s.len]; rfl
  nd := by
    show (G.rf ++ [a]).Nodup
    rw [List.nodup_append]
    refine ⟨s.nd, by simp, fun x hx y hy z => ?_⟩
    rw [List.mem_singleton] at hy
    rw [← hy, ← z] at hn
    exact hn hx
  at_ := fun i b c' h1 h2 => by
    have h1' : (G.rf ++ [a])[i]? = some b := h1
    by_cases hi : i < m.length
    · rw [List.getElem?_append_left (by rw [s.len]; exact hi)] at h1'
      rw [List.getElem?_append_left hi] at h2
      exact CellRep.lift s Lift.add (s.at_ i b c' h1' h2)
    · have e : i = m.length := by
        have := (List.getElem?_eq_some_iff.mp h2).1
        rw [List.length_append, List.length_singleton] at this
        omega
      subst e
      rw [List.getElem?_append_right (by omega), Nat.sub_self] at h2
      rw [List.getElem?_append_right (by rw [s.len]; omega), s.len, Nat.sub_self] at h1'
      cases h1'
      cases h2
      exact CellRep.lift s Lift.add r
  fz := s.fz
  dj := fun b h hb => by
    rcases List.mem_append.mp hb with z | z
    · exact s.dj b h z
    · rw [List.mem_singleton] at z
      subst z
      exact hf h
/-- the step's new thing is frozen, or shared -/
theorem Ext.thenF {a : Addr} (x : Ext G H G' H') (h : H a = none) : Ext G H (G'.frz a) H' where
  fz := fun b q => .inl (x.fz b q)
  rf := x.rf
  keep := x.keep
  tb := x.tb
  dom := x.dom
  nf := fun b q => by
    rcases q with q | rfl
    · exact x.nf b q
    · exact .inr h
  nr := x.nr
theorem Ext.thenU {a : Addr} {o u : HO} (x : Ext G H G' H') (h : H a = none) (e : H' a = some o) (t : ∀ ps, o ≠ .tbl ps) : Ext G H G' (upd H' a u) where
  fz := x.fz
  rf := x.rf
  keep := fun b v q n k => by rw [upd_ne (ne_of_none q h)]; exact x.keep b v q n k
  tb := fun b ps q => by rw [upd_ne (ne_of_none q h)]; exact x.tb b ps q
  dom := fun b v q => by rw [upd_ne (ne_of_none q h)]; exact x.dom b v q
  nf := x.nf
  nr := x.nr
theorem Lift.lock {a : Addr} {o u : HO} (e : H a = some o) (l : isLD o) (hf : ¬ G.fz a) : Lift G H G (upd H a u) :=
  ⟨fun _ h => h, ⟨[], by simp⟩, fun b v q n t k => by
    rw [upd_ne (fun z : b = a => by subst z; rw [e] at q; cases q; exact hf (k l))]
    exact q⟩
theorem SI.lock (s : M.SI G H m) {a : Addr} {od : Obj} {xs : List (Key × V)} (e : H a = some (.dK xs)) (hn : a ∉ G.rf) (hf : ¬ G.fz a) : M.SI G (upd H a (.frz od (.dK xs))) m where
  len := s.len
  nd := s.nd
  at_ := fun i b c h1 h2 => by
    have hb : b ≠ a := fun z => hn (z ▸ List.mem_of_getElem? h1)
    have q := s.at_ i b c h1 h2
    cases c with
    | lst ds => obtain ⟨ys, e1, r⟩ := q; exact ⟨ys, by rw [upd_ne hb]; exact e1, RepL.lift (Lift.lock e trivial hf) s r⟩
    | dic ds => obtain ⟨ys, e1, r⟩ := q; exact ⟨ys, by rw [upd_ne hb]; exact e1, RepK.lift (Lift.lock e trivial hf) s r⟩
  fz := fun b h => by
    obtain ⟨o, q⟩ := s.fz b h
    exact ⟨o, by rw [upd_ne (fun z : b = a => hf (z ▸ h))]; exact q⟩
  dj := s.dj
  tab := tabs_keep s.tab (fun b ps q => by rw [upd_ne (fun z : b = a => by subst z; rw [e] at q; cases q)]; exact q) (fun b φ q => by rw [upd_ne (fun z : b = a => by subst z; rw [e] at q; cases q)]; exact q)
theorem Ext.thenA {a : Addr} (x : Ext G H G' H') (h : H a = none) : Ext G H (G'.add a) H' where
  fz := x.fz
  rf := by obtain ⟨l, e⟩ := x.rf; exact ⟨l ++ [a], by show G'.rf ++ [a] = _; rw [e, List.append_assoc]⟩
  keep := x.keep
  tb := x.tb
  dom := x.dom
  nf := x.nf
  nr := fun b q => by
    rcases List.mem_append.mp q with q | q
    · exact x.nr b q
    · rw [List.mem_singleton] at q
      subst q
      exact .inr h
end
section
variable {M : Md} {f : Fm} {X : Cx} {a b : Expr} {ia ib : E} {oa ob : O} {l : L} {ex : Expr} {pos p : Pos}
theorem snd_mk (h : PE X ex (tL M f l)) : PE X ex (tE M f (.mk l)) := by
  refine ⟨fun pins s σ H Q Iv hq => ?_⟩
  obtain ⟨G, e, m, si, er, hq⟩ := hq
  simp only [evE', evE] at hq
  have ht : tL M f l σ H fun v H1 => (∃ a xs, v = .ref a ∧ H1 a = some (.dK xs) ∧ ∀ od, Q v (upd H1 a (.frz od (.dK xs)))) ∨ Q v H1 := by
    refine ⟨G, e, m, si, er, ?_⟩
    have ev : evL' M f l e m = evL (evF M.T f.k) M.T.con l e m := rfl
    rw [ev]
    cases hr : evL (evF M.T f.k) M.T.con l e m with
    | ok c m1 =>
      rw [hr] at hq
      intro G1 H1 v x1 s1 r1
      obtain ⟨a, rfl, hn, cr, hf, ht⟩ := r1
      cases c with
      | lst ds =>
        obtain ⟨o, ho⟩ := CellRep.there cr
        refine .inr (hq (G1.frz a) H1 _ (x1.thenF hn) (SI.frz s1 ho ht) ?_)
        obtain ⟨xs, e1, r⟩ := cr
        exact .lst (.inl ⟨.inl e1, .inr rfl⟩) (RepL.lift Lift.frz s1 r)
      | dic ds =>
        obtain ⟨xs, e1, r⟩ := cr
        refine .inl ⟨a, xs, rfl, e1, fun od => hq G1 (upd H1 a (.frz od (.dK xs))) _ (x1.thenU hn e1 (fun _ z => nomatch z)) (SI.lock s1 e1 ht hf) (.dic upd_same (RepK.lift (Lift.lock e1 trivial hf) s1 r))⟩
    | ex x m1 => rw [hr] at hq; exact hq
    | bad => rw [hr] at hq; exact hq.elim
  refine thn (h.run pins s σ H _ Iv ht) fun u s1 ⟨v, H1, I1, r1, q1⟩ => ?_
  rcases q1 with ⟨a, xs, rfl, e1, q⟩ | q
  · obtain ⟨od, I2⟩ := I1.lock e1 trivial
    exact ⟨_, _, I2, r1, q od⟩
  · exact ⟨v, H1, I1, r1, q⟩
theorem snd_mkr (h : PE X ex (tL M f l)) : PE X ex (tE M f (.mkr l)) := by
  refine h.imp fun σ H Q h => ?_
  obtain ⟨G, e, m, s, er, h⟩ := h
  simp only [evE', evE] at h
  refine ⟨G, e, m, s, er, ?_⟩
  have ev : evL' M f l e m = evL (evF M.T f.k) M.T.con l e m := rfl
  rw [ev]
  cases hr : evL (evF M.T f.k) M.T.con l e m with
  | ok c m1 =>
    rw [hr] at h
    intro G1 H1 v x1 s1 r1
    obtain ⟨a, rfl, hn, cr, hf, ht⟩ := r1
    obtain ⟨o, ho⟩ := CellRep.there cr
    refine h (G1.add a) H1 _ (x1.thenA hn) (SI.add s1 cr ht hf) ?_
    refine .ref ?_
    show (G1.rf ++ [a])[m1.length]? = some a
    rw [List.getElem?_append_right (by rw [s1.len]; omega), s1.len, Nat.sub_self]
    rfl
  | ex x m1 => rw [hr] at h; exact h
  | bad => rw [hr] at h; exact h.elim
/-- a new list: what each making ends with -/
theorem newL {G : Gh} {H : Hp} {m : Mem} {σ : St} {Q : VK} {xs : List V} {ds : List D} {p : Addr} (s : M.SI G H m) (hp : H p = none) (r : M.RepL G H xs ds) (h : Fin M f (rlL M) G H σ (.ok (.lst ds) m) Q) : Q (.ref p) (upd H p (.lst xs)) :=
  h G (upd H p (.lst xs)) (.ref p) (Ext.new hp) (SI.new s hp) ⟨p, rfl, hp, ⟨xs, upd_same, RepL.mono (Ext.new hp) s r⟩, (fun q => by obtain ⟨o, e⟩ := s.fz p q; rw [hp] at e; cases e), s.mem_none hp⟩
theorem newD {G : Gh} {H : Hp} {m : Mem} {σ : St} {Q : VK} {xs : List (Key × V)} {ds : List (DK × D)} {p : Addr} (s : M.SI G H m) (hp : H p = none) (r : M.RepK G H xs ds) (h : Fin M f (rlL M) G H σ (.ok (.dic ds) m) Q) : Q (.ref p) (upd H p (.dK xs)) :=
  h G (upd H p (.dK xs)) (.ref p) (Ext.new hp) (SI.new s hp) ⟨p, rfl, hp, ⟨xs, upd_same, RepK.mono (Ext.new hp) s r⟩, (fun q => by obtain ⟨o, e⟩ := s.fz p q; rw [hp] at e; cases e), s.mem_none hp⟩
theorem snd_disp {es : List Expr} {ies : Es} (hs : PA X es (tEs M f ies)) (hl : ies.len ≤ 1000) : PE X (.List es pos) (tL M f (.disp ies)) := by
  refine (pe_lst hs).imp fun σ H Q h => ?_
  obtain ⟨G, e, m, s, er, h⟩ := h
  simp only [evL', evL] at h
  refine Tm.bindR rlL_mono s er h fun ds xs G1 H1 m1 hr x1 s1 er1 r1 h1 => ?_
  have hz : xs.length ≤ sizeLine := by rw [RepL.length r1, evEs_len hr, sizeLine_eq]; omega
  exact ⟨hz, fun p hp => newL s1 hp r1 h1⟩
theorem snd_cat (K : X.K = M.K) (ha : PE X a (tO M f oa)) (hb : PE X b (tO M f ob)) : PE X (.BinOp a .Add b pos) (tL M f (.cat oa ob)) := by
  refine (pe_op op_catL ha hb).imp fun σ H Q h => ?_
  obtain ⟨G, e, m, s, er, h⟩ := h
  simp only [evL', evL] at h
  refine Tm.bind rlL_mono s er h fun dx x G1 H1 m1 x1 s1 er1 r1 h1 => Tm.bind rlL_mono s1 er1 h1 fun dy y G2 H2 m2 x2 s2 er2 r2 h2 => ?_
  split at h2
  · exact h2.elim
  · exact h2.elim
  · rename_i n1 n2
    split at h2
    · rename_i xs ys h3 h4
      split at h2
      · rename_i hl
        obtain ⟨p, vs, rfl, rv, q1⟩ := RepO.seq s2 (RepO.mono r1 x2 s1) h3
        obtain ⟨q, ws, rfl, rw', q2⟩ := RepO.seq s2 r2 h4
        rcases q1 with ⟨⟨zs, e1⟩, _⟩ | ⟨_, q1⟩
        · exact absurd e1 (n1 zs)
        rcases q2 with ⟨⟨zs, e1⟩, _⟩ | ⟨_, q2⟩
        · exact absurd e1 (n2 zs)
        rw [K]
        exact ⟨p, q, vs, ws, rfl, rfl, q1, q2, by rw [RepL.length rv, RepL.length rw', ← lineMax_eq]; exact hl, fun p hp => newL s2 hp (RepL.app rv rw') h2⟩
      · exact h2.elim
    · exact h2.elim
theorem snd_slice {lo hi : Option Expr} {il ih : Eo} {p2 : Pos} (K : X.K = M.K) (ha : PE X a (tO M f oa)) (hl : PO X lo (tEo M f il)) (hh : PO X hi (tEo M f ih)) : PE X (.Subscript a (.Slice lo hi none p2) pos) (tL M f (.slice oa il ih)) := by
  refine (pe_slice sl_list ha hl hh).imp fun σ H Q h => ?_
  obtain ⟨G, e, m, s, er, h⟩ := h
  simp only [evL', evL] at h
  refine Tm.bind rlL_mono s er h fun dx x G1 H1 m1 x1 s1 er1 r1 h1 => Tm.bind rlL_mono s1 er1 h1 fun l l' G2 H2 m2 x2 s2 er2 r2 h2 => Tm.bind rlL_mono s2 er2 h2 fun u u' G3 H3 m3 x3 s3 er3 r3 h3 => ?_
  cases (show l' = l from r2)
  cases (show u' = u from r3)
  have r4 := RepO.mono r1 (x2.trans x3) s1
  split at h3
  · exact h3.elim
  · rename_i n1
    split at h3
    · rename_i xs h4
      obtain ⟨p, vs, rfl, rv, q1⟩ := RepO.seq s3 r4 h4
      rcases q1 with ⟨⟨zs, e1⟩, _⟩ | ⟨_, q1⟩
      · exact absurd e1 (n1 zs)
      rw [K]
      exact ⟨p, vs, rfl, q1, fun p hp => newL s3 hp (RepL.cut l u rv) h3⟩
    · exact h3.elim
/-! ### built-in calls -/
def nmOk (x : Str) : Bool := (x == ("__debug__" : Str)) == false && (x == ("__name__" : Str)) == false
theorem nmOk_d {x : Str} (h : nmOk x = true) : (x == ("__debug__" : Str)) = false := by simp only [nmOk, Bool.and_eq_true, beq_iff_eq] at h; exact h.1
theorem nmOk_n {x : Str} (h : nmOk x = true) : x ≠ ("__name__" : Str) := by
  simp only [nmOk, Bool.and_eq_true, beq_iff_eq] at h
  intro e
  rw [e] at h
  simp at h
theorem keyOf_rep {G : Gh} {H : Hp} : ∀ {ks : List (Key × V)} {ds : List (DK × D)}, M.RepK G H ks ds → M.RepL G H (ks.map fun kv => kV kv.1) (ds.map fun kv => kv.1.d)
  | _, _, .nil => .nil
  | _, _, .cons (k := k) _ q => by
    refine .cons ?_ (keyOf_rep q)
    cases k with
    | i z => exact .int z
    | s z => exact .str z
/-- list(..) of a list, a tuple, a dict -/
theorem snd_copy {p : Pos} (K : X.K = M.K) (hc : X.calm = true) (hg : Gl X "list") (hm : X.mg "list" = none) (ha : PE X a (tO M f oa)) (hs : starB a = false) : PE X (.Call (.Name "list" p) [a] [] pos) (tL M f (.copy oa)) := by
  refine (pe_callTy (x := "list") (T := "list") (CallR.or call_list_of (call_listD hc)) hg hm (by decide +kernel) (pa_cons ha pa_nil (starEach_cons hs)) (by decide) (by decide) (starEach_cons hs) rfl).imp fun σ H Q h => ?_
  obtain ⟨G, e, m, s, er, h⟩ := h
  simp only [evL', evL] at h
  refine Tm.bind rlL_mono s er h fun dx x G1 H1 m1 x1 s1 er1 r1 h1 => ?_
  split at h1
  · rename_i xs h2
    obtain ⟨p, vs, rfl, rv, q1⟩ := RepO.seq s1 r1 h2
    rw [K]
    refine .inl ⟨p, vs, rfl, ?_, fun l hl => newL s1 hl rv h1⟩
    rcases q1 with ⟨_, q⟩ | ⟨_, q⟩
    · exact .inr q
    · exact .inl q
  · split at h1
    · rename_i kvs h2
      obtain ⟨a, ks, rfl, q, rk⟩ := RepO.dic s1 r1 h2
      exact .inr ⟨a, ks, rfl, q, fun l hl => newL s1 hl (keyOf_rep rk) h1⟩
    · exact h1.elim
theorem h15 {ks : List DK} {ds : List D} : ∀ {acc kvs : List (DK × D)}, buildK ks ds acc = some kvs → True := fun _ => trivial
/-- a def of a built-in call by values -/
theorem snd_bi {x : Str} {id : String} {r : List V → Hp → VK → Prop} {b : Bi} {es : List Expr} {ios : Os} {p : Pos} (hc : CallR X (.builtin id) r) (hg : Gl X x) (hm : X.mg x = none) (hv : bootBuiltins x = some (.builtin id)) (hx : nmOk x = true) (ha : PA X (a :: es) (tOs M f ios)) (hs : noStars (a :: es) = true)
    (k : ∀ G H m vs ds d Q, M.SI G H m → RepOs M G H vs ds → biD m b ds = some d → (∀ G' H' v, Ext G H G' H' → M.SI G' H' m → M.Rep G' H' v d → Q v H') → r vs H Q) : PE X (.Call (.Name x p) (a :: es) [] pos) (tE M f (.bi b ios)) := by
  simp only [noStars, Bool.and_eq_true, Bool.not_eq_true'] at hs
  refine (pe_callB hc hg hm hv ha (nmOk_n hx) (nmOk_d hx) (starEach_cons hs.1) (backTo_plain hs.2)).imp fun σ H Q h => ?_
  obtain ⟨G, e, m, s, er, h⟩ := h
  simp only [evE', evE] at h
  refine Tm.bind rlE_mono s er h fun ds vs G1 H1 m1 x1 s1 er1 r1 h1 => ?_
  cases hd : biD m1 b ds with
  | none => rw [hd] at h1; exact h1.elim
  | some d => rw [hd] at h1; exact k G1 H1 m1 vs ds d Q s1 r1 hd h1
theorem snd_biT {x : Str} {T : String} {r : List V → Hp → VK → Prop} {b : Bi} {es : List Expr} {ios : Os} {p : Pos} (hc : CallR X (.type T) r) (hg : Gl X x) (hm : X.mg x = none) (hv : bootBuiltins x = some (.type T)) (hx : nmOk x = true) (ha : PA X (a :: es) (tOs M f ios)) (hs : noStars (a :: es) = true)
    (k : ∀ G H m vs ds d Q, M.SI G H m → RepOs M G H vs ds → biD m b ds = some d → (∀ G' H' v, Ext G H G' H' → M.SI G' H' m → M.Rep G' H' v d → Q v H') → r vs H Q) : PE X (.Call (.Name x p) (a :: es) [] pos) (tE M f (.bi b ios)) := by
  simp only [noStars, Bool.and_eq_true, Bool.not_eq_true'] at hs
  refine (pe_callTy hc hg hm hv ha (nmOk_n hx) (nmOk_d hx) (starEach_cons hs.1) (backTo_plain hs.2)).imp fun σ H Q h => ?_
  obtain ⟨G, e, m, s, er, h⟩ := h
  simp only [evE', evE] at h
  refine Tm.bind rlE_mono s er h fun ds vs G1 H1 m1 x1 s1 er1 r1 h1 => ?_
  cases hd : biD m1 b ds with
  | none => rw [hd] at h1; exact h1.elim
  | some d => rw [hd] at h1; exact k G1 H1 m1 vs ds d Q s1 r1 hd h1
theorem call_lenR : CallR X (.builtin "len") (fun xs H Q => ∃ a kvs, xs = [V.ref a] ∧ Rd H a (.dK kvs) ∧ Q (.int kvs.length) H) := by
  intro pins s σ H xs us Q I r h
  obtain ⟨a, kvs, rfl, ha, q⟩ := h
  obtain ⟨u, rfl, ru⟩ := vals1 r
  cases ru
  exact d_len I ha fun t s' I' => ⟨.int kvs.length, H, I', ⟨t, rfl⟩, q⟩
theorem RepOs.one {G : Gh} {H : Hp} {vs : List V} {d : D} (r : RepOs M G H vs [d]) : ∃ v, vs = [v] ∧ RepO M G H v d := by
  cases r with
  | cons h r => cases r; exact ⟨_, rfl, h⟩
theorem RepOs.two {G : Gh} {H : Hp} {vs : List V} {d c : D} (r : RepOs M G H vs [d, c]) : ∃ v u, vs = [v, u] ∧ RepO M G H v d ∧ RepO M G H u c := by
  cases r with
  | cons h r => cases r with
    | cons h' r => cases r; exact ⟨_, _, rfl, h, h'⟩
section
variable {ios : Os} {es : List Expr} {p : Pos}
theorem snd_len (K : X.K = M.K) (hg : Gl X "len") (hm : X.mg "len" = none) (ha : PA X (a :: es) (tOs M f ios)) (hs : noStars (a :: es) = true) : PE X (.Call (.Name "len" p) (a :: es) [] pos) (tE M f (.bi .len ios)) := by
  refine snd_bi (x := "len") (CallR.or call_len_str (CallR.or call_len_seq call_lenR)) hg hm (by decide +kernel) (by decide +kernel) ha hs fun G H m vs ds d Q s r hd k => ?_
  unfold biD at hd
  split at hd <;> first | (simp_all; done) | skip
  · rename_i z _
    obtain ⟨v, rfl, r1⟩ := RepOs.one r
    have ev := RepO.inv_flat r1 rfl
    cases ev
    split at hd
    · rename_i hl
      cases hd
      exact .inl ⟨toStr z, rfl, by rw [toStr_len, ← lineMax_eq]; exact hl, by rw [toStr_len]; exact k G H _ Ext.refl s (.int _)⟩
    · cases hd
  · rename_i dd _ _ _
    obtain ⟨v, rfl, r1⟩ := RepOs.one r
    split at hd
    · rename_i xs hx
      cases hd
      obtain ⟨q, ws, rfl, rv, q1⟩ := RepO.seq s r1 hx
      rw [K]
      refine .inr (.inl ⟨q, ws, rfl, ?_, by rw [RepL.length rv]; exact k G H _ Ext.refl s (.int _)⟩)
      rcases q1 with ⟨_, q⟩ | ⟨_, q⟩
      · exact .inr q
      · exact .inl q
    · obtain ⟨kvs, hk, rfl⟩ := Option.map_eq_some_iff.mp hd
      obtain ⟨q, ks, rfl, q1, rk⟩ := RepO.dic s r1 hk
      exact .inr (.inr ⟨q, ks, rfl, q1, by rw [RepK.length rk]; exact k G H _ Ext.refl s (.int _)⟩)
theorem snd_max2 (hc : X.calm = true) (hg : Gl X "max") (hm : X.mg "max" = none) (ha : PA X (a :: es) (tOs M f ios)) (hs : noStars (a :: es) = true) : PE X (.Call (.Name "max" p) (a :: es) [] pos) (tE M f (.bi .max2 ios)) := by
  refine snd_bi (x := "max") (call_max2 hc) hg hm (by decide +kernel) (by decide +kernel) ha hs fun G H m vs ds d Q s r hd k => ?_
  unfold biD at hd
  split at hd <;> first | (simp_all; done) | skip
  rename_i i j _
  obtain ⟨v, u, rfl, r1, r2⟩ := RepOs.two r
  have e1 := RepO.inv_flat r1 rfl
  have e2 := RepO.inv_flat r2 rfl
  cases e1
  cases e2
  cases hd
  exact ⟨i, j, rfl, k G H _ Ext.refl s (.int _)⟩
theorem snd_min2 (hc : X.calm = true) (hg : Gl X "min") (hm : X.mg "min" = none) (ha : PA X (a :: es) (tOs M f ios)) (hs : noStars (a :: es) = true) : PE X (.Call (.Name "min" p) (a :: es) [] pos) (tE M f (.bi .min2 ios)) := by
  refine snd_bi (x := "min") (call_min2 hc) hg hm (by decide +kernel) (by decide +kernel) ha hs fun G H m vs ds d Q s r hd k => ?_
  unfold biD at hd
  split at hd <;> first | (simp_all; done) | skip
  rename_i i j _
  obtain ⟨v, u, rfl, r1, r2⟩ := RepOs.two r
  have e1 := RepO.inv_flat r1 rfl
  have e2 := RepO.inv_flat r2 rfl
  cases e1
  cases e2
  cases hd
  exact ⟨i, j, rfl, k G H _ Ext.refl s (.int _)⟩
theorem snd_abs (hg : Gl X "abs") (hm : X.mg "abs" = none) (ha : PA X (a :: es) (tOs M f ios)) (hs : noStars (a :: es) = true) : PE X (.Call (.Name "abs" p) (a :: es) [] pos) (tE M f (.bi .abs ios)) := by
  refine snd_bi (x := "abs") call_abs hg hm (by decide +kernel) (by decide +kernel) ha hs fun G H m vs ds d Q s r hd k => ?_
  unfold biD at hd
  split at hd <;> first | (simp_all; done) | skip
  rename_i i _
  obtain ⟨v, rfl, r1⟩ := RepOs.one r
  have e1 := RepO.inv_flat r1 rfl
  cases e1
  cases hd
  exact ⟨i, rfl, k G H _ Ext.refl s (.int _)⟩
theorem snd_int (hg : Gl X "int") (hm : X.mg "int" = none) (ha : PA X (a :: es) (tOs M f ios)) (hs : noStars (a :: es) = true) : PE X (.Call (.Name "int" p) (a :: es) [] pos) (tE M f (.bi .int ios)) := by
  refine snd_biT (x := "int") (CallR.or call_int1 call_int_str) hg hm (by decide +kernel) (by decide +kernel) ha hs fun G H m vs ds d Q s r hd k => ?_
  unfold biD at hd
  split at hd <;> first | (simp_all; done) | skip
  · rename_i i _
    obtain ⟨v, rfl, r1⟩ := RepOs.one r
    have e1 := RepO.inv_flat r1 rfl
    cases e1
    cases hd
    exact .inl (.inl ⟨i, rfl, k G H _ Ext.refl s (.int _)⟩)
  · rename_i z _
    obtain ⟨v, rfl, r1⟩ := RepOs.one r
    have e1 := RepO.inv_flat r1 rfl
    cases e1
    split at hd
    · rename_i hl
      obtain ⟨i, hi, rfl⟩ := Option.map_eq_some_iff.mp hd
      exact .inr ⟨toStr z, i, rfl, hi, by rw [toStr_len]; exact hl, k G H _ Ext.refl s (.int _)⟩
    · cases hd
  · rename_i b _
    obtain ⟨v, rfl, r1⟩ := RepOs.one r
    have e1 := RepO.inv_flat r1 rfl
    cases e1
    cases hd
    exact .inl (.inr ⟨b, rfl, k G H _ Ext.refl s (.int _)⟩)
theorem snd_str (hg : Gl X "str") (hm : X.mg "str" = none) (ha : PA X (a :: es) (tOs M f ios)) (hs : noStars (a :: es) = true) : PE X (.Call (.Name "str" p) (a :: es) [] pos) (tE M f (.bi .str ios)) := by
  refine snd_biT (x := "str") call_str_int hg hm (by decide +kernel) (by decide +kernel) ha hs fun G H m vs ds d Q s r hd k => ?_
  unfold biD at hd
  split at hd <;> first | (simp_all; done) | skip
  rename_i i _
  obtain ⟨v, rfl, r1⟩ := RepOs.one r
  have e1 := RepO.inv_flat r1 rfl
  cases e1
  split at hd
  · rename_i hl
    cases hd
    exact ⟨i, rfl, hl, k G H _ Ext.refl s (.str (toString i : PySem.Str).cps.toList)⟩
  · cases hd
theorem snd_tuple (K : X.K = M.K) (hg : Gl X "tuple") (hm : X.mg "tuple" = none) (ha : PA X (a :: es) (tOs M f ios)) (hs : noStars (a :: es) = true) : PE X (.Call (.Name "tuple" p) (a :: es) [] pos) (tE M f (.bi .tuple ios)) := by
  refine snd_biT (x := "tuple") call_tuple_of hg hm (by decide +kernel) (by decide +kernel) ha hs fun G H m vs ds d Q s r hd k => ?_
  unfold biD at hd
  split at hd <;> first | (simp_all; done) | skip
  rename_i dd _
  obtain ⟨v, rfl, r1⟩ := RepOs.one r
  obtain ⟨xs, hx, rfl⟩ := Option.map_eq_some_iff.mp hd
  obtain ⟨q, ws, rfl, rv, q1⟩ := RepO.seq s r1 hx
  rw [K]
  rcases q1 with ⟨_, q1⟩ | ⟨_, q1⟩
  · exact ⟨q, ws, rfl, .inr ⟨q1, k G H _ Ext.refl s (.tup q1 rv)⟩⟩
  · exact ⟨q, ws, rfl, .inl ⟨q1, fun l hl => k _ _ _ (Ext.new hl) (SI.new s hl) (Rep.tupN s hl rv)⟩⟩
/-! ### all([..]) -/
def isBlD : D → Bool
  | .bl _ => true
  | _ => false
theorem bools {G : Gh} {H : Hp} : ∀ {xs : List V} {ds : List D}, M.RepL G H xs ds → (ds.all fun x => (match x with | .bl _ => true | _ => false)) = true → ∃ bs : List Bool, xs = bs.map V.bl ∧ ds = bs.map D.bl
  | _, _, .nil, _ => ⟨[], rfl, rfl⟩
  | _, _, .cons (d := d) h q, e => by
    simp only [List.all_cons, Bool.and_eq_true] at e
    obtain ⟨bs, e1, e2⟩ := bools q e.2
    cases h with
    | bl b => exact ⟨b :: bs, by rw [e1]; rfl, by rw [e2]; rfl⟩
    | _ => simp at e
theorem all_bl : ∀ bs : List Bool, ((bs.map D.bl).all fun x => (match x with | .bl b => b | _ => false)) = bs.all id
  | [] => rfl
  | b :: bs => by rw [List.map_cons, List.all_cons, List.all_cons, all_bl bs]; rfl
theorem snd_all (K : X.K = M.K) (hc : X.calm = true) (hg : Gl X "all") (hm : X.mg "all" = none) (ha : PE X a (tL M f l)) (hs : starB a = false) : PE X (.Call (.Name "all" p) [a] [] pos) (tE M f (.all l)) := by
  refine (pe_callB (x := "all") (cr_all hc) hg hm (by decide +kernel) (pa_cons ha pa_nil (starEach_cons hs)) (by decide) (by decide) (starEach_cons hs) rfl).imp fun σ H Q h => ?_
  obtain ⟨G, e, m, s, er, h⟩ := h
  simp only [evE', evE] at h
  refine Tm.bind rlE_mono s er h fun c v G1 H1 m1 x1 s1 er1 r1 h1 => ?_
  obtain ⟨q, rfl, hn, cr, hf, ht⟩ := r1
  split at h1
  · rename_i xs
    obtain ⟨vs, e1, rv⟩ := cr
    split at h1
    · rename_i hb
      obtain ⟨bs, rfl, rfl⟩ := bools rv hb
      rw [K]
      refine ⟨q, bs, rfl, .inl (.inl e1), ?_⟩
      rw [← all_bl]
      exact h1 G1 H1 _ Ext.refl s1 (.bl _)
    · exact h1.elim
  · exact h1.elim
end
end
end Ev
/-! Ev9: isinstance. -/
namespace Ev
open PySem PySem.Spec L2

def tyS : Ty → String
  | .str => "str" | .int => "int" | .bool => "bool" | .list => "list" | .tuple => "tuple" | .dict => "dict"
inductive Tn where
  | non | bool | int | str | tuple | list | dict
  deriving DecidableEq
def Tn.s : Tn → String
  | .non => "NoneType" | .bool => "bool" | .int => "int" | .str => "str" | .tuple => "tuple" | .list => "list" | .dict => "dict"
def Tn.tys : Tn → List Ty
  | .non => [] | .bool => [.bool, .int] | .int => [.int] | .str => [.str] | .tuple => [.tuple] | .list => [.list] | .dict => [.dict]
def Tn.is (n : Tn) (t : Ty) : Bool := n.tys.any fun u => decide (u = t)
theorem kitB_all : ([Tn.non, .bool, .int, .str, .tuple, .list, .dict].all fun n => [Ty.str, .int, .bool, .list, .tuple, .dict].all fun t => decide (kitB n.s (tyS t) = some (n.is t))) = true := by decide +kernel
theorem kit_is {K : PySem.W.Frag} (n : Tn) (t : Ty) : PySem.W.kitOne K (.type n.s) (.type (tyS t)) = some (n.is t) := by
  have h := List.all_eq_true.mp kitB_all n (by cases n <;> simp)
  have h2 := List.all_eq_true.mp h t (by cases t <;> simp)
  exact kit_ty (of_decide_eq_true h2)
theorem kit_any {K : PySem.W.Frag} (n : Tn) : ∀ ts : List Ty, PySem.W.kitAny K (.type n.s) (ts.map fun t => .type (tyS t)) = some (ts.any n.is)
  | [] => rfl
  | t :: ts => by
    rw [List.map_cons, List.any_cons]
    refine kitAny_cons (kit_is n t) (fun h => ?_) (fun h => ?_)
    · rw [kit_any n ts, h]; rfl
    · rw [h]; rfl
section
variable {M : Md} {f : Fm} {X : Cx} {a : Expr} {oa : O} {pos p : Pos}
theorem RepO.tn {G : Gh} {H : Hp} {m : Mem} (s : M.SI G H m) {v : V} {d : D} {us : List Ty} (r : RepO M G H v d) (h : tyOf m d = some us) : ∃ n : Tn, us = n.tys ∧ TyX M.K H v (.type n.s) := by
  rcases r with r | ⟨a, es, rfl, rfl, ⟨xs, e1, r⟩, _⟩ | ⟨a, es, rfl, rfl, ⟨xs, e1, r⟩, _⟩
  · cases r with
    | non => cases h; exact ⟨.non, rfl, .base .non⟩
    | bl b => cases h; exact ⟨.bool, rfl, .base (.bl b)⟩
    | int i => cases h; exact ⟨.int, rfl, .base (.int i)⟩
    | str z => cases h; exact ⟨.str, rfl, .base (.str _)⟩
    | tup q r =>
      cases h
      refine ⟨.tuple, rfl, ?_⟩
      rcases q with (q | ⟨o, q⟩) | ⟨o, its, n, q, c, _⟩
      · exact .base (.tup q)
      · exact .fTuple q
      · exact .kTuple q c
    | lst q r =>
      cases h
      refine ⟨.list, rfl, ?_⟩
      rcases q with ⟨q | ⟨o, q⟩, _⟩ | ⟨o, its, n, q, c, _⟩
      · exact .base (.lst q)
      · exact .base (.frz q)
      · exact .kList q c
    | dic q r =>
      cases h
      exact ⟨.dict, rfl, .fDict q⟩
    | cdic => cases h
    | @ref i a q =>
      simp only [tyOf] at h
      split at h
      · rename_i ys hm
        obtain ⟨xs, q1, q2⟩ := s.at_ i a _ q hm
        cases h
        exact ⟨.list, rfl, .base (.lst q1)⟩
      · rename_i ys hm
        obtain ⟨xs, q1, q2⟩ := s.at_ i a _ q hm
        cases h
        exact ⟨.dict, rfl, .base (.dK q1)⟩
      · cases h
  · cases h; exact ⟨.list, rfl, .base (.lst e1)⟩
  · cases h; exact ⟨.dict, rfl, .base (.dK e1)⟩
theorem isTy_is {G : Gh} {H : Hp} {m : Mem} (s : M.SI G H m) {v : V} {d : D} {ts : List Ty} {b : Bool} (r : RepO M G H v d) (h : isTy m d ts = some b) : ∃ n : Tn, b = ts.any n.is ∧ TyX M.K H v (.type n.s) := by
  obtain ⟨us, h1, rfl⟩ := Option.map_eq_some_iff.mp h
  obtain ⟨n, rfl, q⟩ := RepO.tn s r h1
  exact ⟨n, rfl, q⟩
theorem TyX.mono {K : PySem.W.Frag} {G G' : Gh} {H H' : Hp} {m : Mem} {w : World} : True := trivial
/-- isinstance(a, T) -/
theorem snd_isin1 {x : Str} {t : Ty} {p2 : Pos} (K : X.K = M.K) (hg : Gl X "isinstance") (hm : X.mg "isinstance" = none) (ha : PE X a (tO M f oa)) (hs : starB a = false) (hgx : Gl X x) (hmx : X.mg x = none) (hvx : bootBuiltins x = some (.type (tyS t))) (hx : nmOk x = true) :
    PE X (.Call (.Name "isinstance" p) [a, .Name x p2] [] pos) (tE M f (.isin oa [t])) := by
  refine (pe_callB (x := "isinstance") call_isi hg hm (by decide +kernel) (pa_cons ha (pa_cons (pe_bltn (v := .ty (tyS t)) hgx hmx hvx rfl (nmOk_n hx) (nmOk_d hx)) pa_nil rfl) (starEach_cons hs)) (by decide) (by decide) (starEach_cons hs) rfl).imp fun σ H Q h => ?_
  obtain ⟨G, e, m, s, er, h⟩ := h
  simp only [evE', evE] at h
  refine Tm.bind rlE_mono s er h fun dx v G1 H1 m1 x1 s1 er1 r1 h1 => ?_
  cases hd : isTy m1 dx [t] with
  | none => rw [hd] at h1; exact h1.elim
  | some b =>
    rw [hd] at h1
    obtain ⟨n, rfl, ty⟩ := isTy_is s1 r1 hd
    rw [K]
    refine ⟨v, .ty (tyS t), .type n.s, .type (tyS t), _, rfl, .ty _, ty, ?_, h1 G1 H1 _ Ext.refl s1 (.bl _)⟩
    rw [kit_is n t, List.any_cons, List.any_nil, Bool.or_false]
/-- the names of the types, as a tuple -/
def tnB (glb : Str → Bool) : List Ty → List Expr → Bool
  | [], [] => true
  | t :: ts, .Name x _ :: es => glb x && (nmOk x && (x == (tyS t : Str) && tnB glb ts es))
  | _, _ => false
theorem snd_tys {c : CC} (C : CtxOk X c) (hm : ∀ t : Ty, X.mg (tyS t : Str) = none) : ∀ {ts : List Ty} {es : List Expr}, tnB c.glb ts es = true → PA X es (fun _ H Q => Q (ts.map fun t => .ty (tyS t)) H)
  | [], [], _ => pa_nil
  | [], _ :: _, h => by simp [tnB] at h
  | _ :: _, [], h => by simp [tnB] at h
  | t :: ts, e :: es, h => by
    cases e with
    | Name x p =>
      simp only [tnB, Bool.and_eq_true, beq_iff_eq] at h
      obtain ⟨h1, h2, h3, h4⟩ := h
      have hv : bootBuiltins (tyS t : Str) = some (.type (tyS t)) := by cases t <;> decide +kernel
      subst h3
      exact pa_cons (pe_bltn (v := .ty (tyS t)) (C.glb _ h1) (hm t) hv rfl (nmOk_n h2) (nmOk_d h2)) (snd_tys C hm h4) rfl
    | _ => simp [tnB] at h
theorem cls_tys : ∀ ts : List Ty, Paired ClsV (ts.map fun t => .ty (tyS t)) (ts.map fun t => .type (tyS t))
  | [] => .nil
  | t :: ts => .cons (.ty _) (cls_tys ts)
theorem TyX.lay {K : PySem.W.Frag} {H : Hp} {v : V} {t : Value} {q : Addr} {o : HO} (r : TyX K H v t) (hq : H q = none) : TyX K (upd H q o) v t := by
  have k : ∀ {a : Addr} {u : HO}, H a = some u → upd H q o a = some u := fun e => by rw [upd_ne (ne_of_none e hq)]; exact e
  cases r with
  | base b =>
    refine .base ?_
    cases b with
    | non => exact .non
    | bl b => exact .bl b
    | int i => exact .int i
    | str z => exact .str z
    | flt z => exact .flt z
    | lst e => exact .lst (k e)
    | frz e => exact .frz (k e)
    | tup e => exact .tup (k e)
    | dK e => exact .dK (k e)
    | dT e => exact .dT (k e)
    | ins e h1 h2 h3 h4 h5 => exact .ins (k e) h1 h2 h3 h4 h5
  | byt b => exact .byt b
  | set e => exact .set (k e)
  | kList e c => exact .kList e c
  | kTuple e c => exact .kTuple e c
  | kDict e c => exact .kDict e c
  | fTuple e => exact .fTuple (k e)
  | fDict e => exact .fDict (k e)
theorem snd_isin {c : CC} (C : CtxOk X c) {ts : List Ty} {es : List Expr} {k : Nat} {p2 : Pos} (K : X.K = M.K) (hg : Gl X "isinstance") (hm : X.mg "isinstance" = none) (hmt : ∀ t : Ty, X.mg (tyS t : Str) = none) (ha : PE X a (tO M f oa)) (hs : starB a = false) (ht : tnB c.glb ts es = true) (hl : ts.length ≤ 100) :
    PE X (.Call (.Name "isinstance" p) [a, .Tuple es k p2] [] pos) (tE M f (.isin oa ts)) := by
  refine (pe_callB (x := "isinstance") call_isiT hg hm (by decide +kernel) (pa_cons ha (pa_cons (pe_tup (snd_tys C hmt ht)) pa_nil rfl) (starEach_cons hs)) (by decide) (by decide) (starEach_cons hs) rfl).imp fun σ H Q h => ?_
  obtain ⟨G, e, m, s, er, h⟩ := h
  simp only [evE', evE] at h
  refine Tm.bind rlE_mono s er h fun dx v G1 H1 m1 x1 s1 er1 r1 h1 => ?_
  cases hd : isTy m1 dx ts with
  | none => rw [hd] at h1; exact h1.elim
  | some b =>
    rw [hd] at h1
    obtain ⟨n, rfl, ty⟩ := isTy_is s1 r1 hd
    rw [K]
    refine ⟨by rw [List.length_map, sizeLine_eq]; omega, fun q hq => ⟨v, q, _, .type n.s, _, _, rfl, upd_same, cls_tys ts, TyX.lay ty hq, kit_any n ts, h1 _ _ _ (Ext.new hq) (SI.new s1 hq) (.bl _)⟩⟩
end
end Ev
/-! Ev10: methods. -/
namespace Ev
open PySem PySem.Spec L2

def bareCall : Expr → Bool
  | .Call _ [] [] _ => true
  | _ => false
theorem base_plain {o : Expr} {nm : Str} {env : PySem.Env} {t : Sem Value} (h : bareCall o = false) : attributeBase o nm env t = t := by
  cases o with
  | Call g as ks p =>
    cases as with
    | nil =>
      cases ks with
      | nil => simp [bareCall] at h
      | cons k ks => cases g <;> rfl
    | cons a as => cases g <;> rfl
  | _ => rfl
theorem few_plain {env : PySem.Env} {cpos : Pos} {es : List Expr} (h : noStars es = true) (hl : es.length < 30) : ((backTo cpos (starEach es env)).all (fun x => !x.1) && (backToKw cpos (keywordEach [] env)).all (fun x => x.1.isSome)
    && decide (es.length + ([] : List Keyword).length + (if ([] : List Keyword).isEmpty then 0 else 1) < 30)) = true := by
  have h1 : (backTo cpos (starEach es env)).all (fun x => !x.1) = true := by
    rw [List.all_eq_not_any_not]
    have := backTo_plain (env := env) (pos := cpos) h
    simp only [Bool.not_not]
    rw [this]
    rfl
  rw [h1]
  show (true && true && decide (es.length + 0 + 0 < 30)) = true
  simp only [Bool.and_self, Nat.add_zero, Bool.true_and, decide_eq_true_eq]
  exact hl
section
variable {M : Md} {f : Fm} {X : Cx} {a b c : Expr} {oa : O} {ib : E} {pos apos p : Pos}
/-- l.count(x), of data -/
theorem mt_countD (hu : X.A.units + 100 < cLine) : MtR X "list.count" (fun x xs H Q => ∃ (a : Addr) (y : V) (d : PyData) (ds : List PyData), x = V.ref a ∧ xs = [y] ∧ Dp X.K H (V.ref a) (.list ds) ∧ Dp X.K H y d ∧
    SeqAt.shaped (.list ds) = true ∧ SeqAt.shaped d = true ∧ Q (.int ((ds.map fun z => PyData.eqv z d).countP id : Nat)) H) := by
  intro pins s σ H x xs v us Q I rx rxs h
  obtain ⟨a, y, d, ds, rfl, rfl, hl, hy, sl, sd, q⟩ := h
  cases rx
  obtain ⟨u, rfl, ru⟩ := rxs.one
  obtain ⟨bs, r1⟩ := Dp.reads I d y u hy ru
  have hxs : PyData.canLayAll0 ds = true := by simpa [PyData.canLay0] using SeqAt.canLay_of_shaped sl
  have hd := SeqAt.depth_of_shaped sd
  cases hl with
  | lst hs ha =>
    obtain ⟨its, rv, ⟨⟨cls, dd, data, sls⟩, n, ho, hc, hdn, hdt⟩, hlen⟩ := I.list hs
    simp only at hc hdt
    subst hc hdt
    obtain ⟨as, h4⟩ := Dp.readsAll I ds _ its ha rv
    have hroom : X.A.units + 1 + min (PyData.depthAll ds) d.depth < cLine := by
      have : min (PyData.depthAll ds) d.depth ≤ d.depth := Nat.min_le_right _ _
      omega
    have hmap : its.map (SeqAt.readOf s.heap) = ds := SeqAt.readsAll_map ds its as hxs h4
    refine PySem.call_meets PySem.F.slot_list_count ⟨_, ho, rfl⟩ PySem.F.entry_list_count (PySem.F.args_list_count_2 _ _)
      (SeqAt.list_countAt a its.toArray n dd sls u (fun z => PyData.eqv (SeqAt.readOf s.heap z) d)) ⟨ho, SeqAt.items_eqAt (vs := its.toArray) (show ReadsAll s.heap its.toArray.toList ds as from h4) r1 hxs (SeqAt.canLay_of_shaped sd) hroom, ?_⟩
    have e : its.countP (fun z => PyData.eqv (SeqAt.readOf s.heap z) d) = (ds.map fun z => PyData.eqv z d).countP id := by
      rw [← hmap, List.map_map, List.countP_map]
      rfl
    refine ⟨.int ((its.countP fun z => PyData.eqv (SeqAt.readOf s.heap z) d : Nat) : Int), H, I.tok _, ⟨_, rfl⟩, ?_⟩
    rw [e]
    exact q
def meN : Me → Str
  | .pop1 => "pop" | .append => "append" | .get2 => "get" | .count => "count" | .index => "index"
theorem Ext.write (s : M.SI G H m) {a : Addr} {o : HO} (hm : a ∈ G.rf) : Ext G H G (upd H a o) := by
  obtain ⟨o0, ho0, ld0⟩ := s.ld hm
  refine ⟨fun _ h => h, ⟨[], by simp⟩, fun b u h n _ => by rw [upd_ne (fun z => by subst z; exact n hm)]; exact h, fun b ps h => ?_, fun b u h => ?_, fun _ h => .inl h, fun _ h => .inl h⟩
  · refine ⟨#[], ?_⟩
    rw [upd_ne (fun z => by subst z; rw [ho0] at h; cases h; exact ld0), h]
    simp
  · by_cases hb : b = a
    · exact ⟨o, by rw [hb]; exact upd_same⟩
    · exact ⟨u, by rw [upd_ne hb]; exact h⟩
theorem SI.write (s : M.SI G H m) {i : Nat} {a : Addr} {c : Cell} {o : HO} (hi : G.rf[i]? = some a) (r : M.CellRep G (upd H a o) a c) : M.SI G (upd H a o) (m.set i c) := by
  have hm : a ∈ G.rf := List.mem_of_getElem? hi
  have x : Ext G H G (upd H a o) := Ext.write s hm
  refine ⟨by rw [List.length_set]; exact s.len, s.nd, fun j b cl h1 h2 => ?_, fun b h => ?_, s.dj, tabs_keep s.tab (fun b ps e => ?_) (fun b φ e => ?_)⟩
  · by_cases hj : j = i
    · subst hj
      rw [hi] at h1
      cases h1
      rw [List.getElem?_set_self (by exact (List.getElem?_eq_some_iff.mp h2).1 |> fun z => by simpa using z)] at h2
      cases h2
      exact r
    · rw [List.getElem?_set_ne (fun z => hj z.symm)] at h2
      have q := s.at_ j b cl h1 h2
      have hb : b ≠ a := fun z => by
        subst z
        have l1 := (List.getElem?_eq_some_iff.mp h1).1
        have l2 := (List.getElem?_eq_some_iff.mp hi).1
        have e1 := (List.getElem?_eq_some_iff.mp h1).2
        have e2 := (List.getElem?_eq_some_iff.mp hi).2
        exact hj ((List.getElem?_inj l1 s.nd).mp (h1.trans hi.symm))
      cases cl with
      | lst ds => obtain ⟨xs, e1, r1⟩ := q; exact ⟨xs, by rw [upd_ne hb]; exact e1, RepL.mono x s r1⟩
      | dic ds => obtain ⟨xs, e1, r1⟩ := q; exact ⟨xs, by rw [upd_ne hb]; exact e1, RepK.mono x s r1⟩
  · exact x.dom b _ (s.fz b h).choose_spec
  · rw [upd_ne (fun z : b = a => s.out e (fun q => q) (by rw [z]; exact hm))]; exact e
  · rw [upd_ne (fun z : b = a => s.out e (fun q => q) (by rw [z]; exact hm))]; exact e
theorem SI.writeL (s : M.SI G H m) {i : Nat} {a : Addr} {xs : List V} {ds : List D} (hi : G.rf[i]? = some a) (r : M.RepL G H xs ds) : M.SI G (upd H a (.lst xs)) (m.set i (.lst ds)) :=
  SI.write s hi ⟨xs, upd_same, RepL.mono (Ext.write s (List.mem_of_getElem? hi)) s r⟩
theorem SI.writeD (s : M.SI G H m) {i : Nat} {a : Addr} {xs : List (Key × V)} {ds : List (DK × D)} (hi : G.rf[i]? = some a) (r : M.RepK G H xs ds) : M.SI G (upd H a (.dK xs)) (m.set i (.dic ds)) :=
  SI.write s hi ⟨xs, upd_same, RepK.mono (Ext.write s (List.mem_of_getElem? hi)) s r⟩
theorem RepO.ref {G : Gh} {H : Hp} {v : V} {i : Nat} (r : RepO M G H v (.ref i)) : ∃ a, v = .ref a ∧ G.rf[i]? = some a := by
  rcases r with r | ⟨_, _, _, e, _⟩ | ⟨_, _, _, e, _⟩
  · cases r with
    | ref q => exact ⟨_, rfl, q⟩
  · cases e
  · cases e
theorem RepO.tyL {G : Gh} {H : Hp} {m : Mem} (s : M.SI G H m) {v : V} {d : D} {me : Me} (r : RepO M G H v d) (h : meOk m me d = true) (hg : me ≠ .get2) : tyV M.K "list" v H := by
  have h' : (∀ zs, d ≠ .tup zs) ∧ (seqOf m d).isSome = true := by
    cases me <;> first | (exact absurd rfl hg) | skip
    all_goals
      cases d <;> first | (simp [meOk] at h; done) | exact ⟨(fun _ z => nomatch z), h⟩
  obtain ⟨ds, hd⟩ := Option.isSome_iff_exists.mp h'.2
  obtain ⟨p, vs, rfl, rv, q⟩ := RepO.seq s r hd
  rcases q with ⟨⟨zs, e⟩, _⟩ | ⟨_, q⟩
  · exact absurd e (h'.1 zs)
  · exact .inl ⟨rfl, vs, q⟩
/-- a list's method with one argument -/
theorem snd_me {me : Me} {id : String} {r : V → List V → Hp → VK → Prop} {nm : Str} (K : X.K = M.K) (hg : me ≠ .get2) (slot : PySem.Slot "list" nm id) (hty : typeOf (.builtin id) = pure (.type "method_descriptor")) (hm : MtR X id r)
    (ha : PE X a (tO M f oa)) (hb : PE X b (tE M f ib)) (hs : starB b = false) (hc : bareCall a = false) (hline : (apos.endLine == pos.line) = true)
    (k : ∀ G H m x y dx dy d m' Q, M.SI G H m → RepO M G H x dx → M.Rep G H y dy → meD m me dx [dy] = some (d, m') → (∀ G' H' v, Ext G H G' H' → M.SI G' H' m' → M.Rep G' H' v d → Q v H') → r x [y] H Q) :
    PE X (.Call (.Attribute a nm apos) [b] [] pos) (tE M f (.meth me oa (.cons ib .nil))) := by
  have hns : noStars [b] = true := by simp [noStars, hs]
  refine (pe_bm PySem.F.plainAttrs_list slot hty hm ha (pa_cons hb pa_nil (starEach_cons hs)) (base_plain hc) (few_plain hns (by simp)) hline (starEach_cons hs) rfl).imp fun σ H Q h => ?_
  obtain ⟨G, e, m, s, er, h⟩ := h
  simp only [evE', evE] at h
  refine Tm.bind rlE_mono s er h fun dx x G1 H1 m1 x1 s1 er1 r1 h1 => ?_
  split at h1
  · rename_i hok
    rw [K]
    refine ⟨RepO.tyL s1 r1 hok hg, ?_⟩
    simp only [evEs, R.bind_assoc] at h1
    refine Tm.bind rlE_mono s1 er1 h1 fun dy y G2 H2 m2 x2 s2 er2 r2 h2 => ?_
    simp only [R.bind] at h2
    split at h2
    · rename_i d m' hd
      refine k G2 H2 m2 x y dx dy d m' Q s2 (RepO.mono r1 x2 s1) r2 hd h2
    · exact h2.elim
  · exact h1.elim
theorem Rep.r {v : V} {d : D} (r : M.Rep G H v d) : M.Rep G H v d := r
theorem meD_pop {m : Mem} {dx dy d : D} {m' : Mem} (h : meD m .pop1 dx [dy] = some (d, m')) : ∃ r i xs j, dx = .ref r ∧ dy = .int i ∧ m[r]? = some (.lst xs) ∧ (-(2 ^ 63) ≤ i ∧ i < 2 ^ 63) ∧ ixOf xs.length i = some j ∧ xs[j]? = some d ∧ m' = m.set r (.lst (xs.eraseIdx j)) := by
  cases dx <;> first | (simp [meD] at h; done) | skip
  cases dy <;> first | (simp [meD] at h; done) | skip
  rename_i r i
  simp only [meD] at h
  split at h
  · rename_i xs hm
    split at h
    · rename_i hb
      obtain ⟨j, hj, h⟩ := Option.bind_eq_some_iff.mp h
      obtain ⟨x, hx, h⟩ := Option.map_eq_some_iff.mp h
      cases h
      exact ⟨r, i, xs, j, rfl, rfl, hm, hb, hj, hx, rfl⟩
    · cases h
  · cases h
theorem meD_app {m : Mem} {dx dy d : D} {m' : Mem} (h : meD m .append dx [dy] = some (d, m')) : ∃ r xs, dx = .ref r ∧ m[r]? = some (.lst xs) ∧ xs.length < lineMax ∧ d = .non ∧ m' = m.set r (.lst (xs ++ [dy])) := by
  cases dx <;> first | (simp [meD] at h; done) | skip
  rename_i r
  simp only [meD] at h
  split at h
  · rename_i xs hm
    split at h
    · rename_i hb
      cases h
      exact ⟨r, xs, rfl, hm, hb, rfl, rfl⟩
    · cases h
  · cases h
theorem snd_pop1 (K : X.K = M.K) (ha : PE X a (tO M f oa)) (hb : PE X b (tE M f ib)) (hs : starB b = false) (hc : bareCall a = false) (hline : (apos.endLine == pos.line) = true) : PE X (.Call (.Attribute a "pop" apos) [b] [] pos) (tE M f (.meth .pop1 oa (.cons ib .nil))) := by
  refine snd_me (me := .pop1) K (by decide) PySem.F.slot_list_pop PySem.F.type_list_pop mt_popAt ha hb hs hc hline fun G H m x y dx dy d m' Q s rx ry h k => ?_
  obtain ⟨r, i, xs, j, rfl, rfl, hm, hb, hj, hx, rfl⟩ := meD_pop h
  obtain ⟨p, rfl, hp⟩ := RepO.ref rx
  cases ry
  obtain ⟨vs, e1, rv⟩ := s.at_ r p _ hp hm
  obtain ⟨v, hv, rd⟩ := RepL.get rv hx
  have hl := RepL.length rv
  have hq : seqIndex? i vs.length = some j := (ixN_seq (by rw [hl]; exact hj)).1
  have w := Ext.write (o := .lst (vs.eraseIdx j)) s (List.mem_of_getElem? hp)
  exact ⟨p, vs, i, j, v, rfl, rfl, e1, hb.1, hb.2, hq, hv, k G _ v w (SI.writeL s hp (RepL.eraseIdx j rv)) (Rep.mono w s rd)⟩
theorem snd_appendR (K : X.K = M.K) (ha : PE X a (tO M f oa)) (hb : PE X b (tE M f ib)) (hs : starB b = false) (hc : bareCall a = false) (hline : (apos.endLine == pos.line) = true) : PE X (.Call (.Attribute a "append" apos) [b] [] pos) (tE M f (.meth .append oa (.cons ib .nil))) := by
  refine snd_me (me := .append) K (by decide) PySem.F.slot_list_append PySem.F.type_list_append mt_append ha hb hs hc hline fun G H m x y dx dy d m' Q s rx ry h k => ?_
  obtain ⟨r, xs, rfl, hm, hb, rfl, rfl⟩ := meD_app h
  obtain ⟨p, rfl, hp⟩ := RepO.ref rx
  obtain ⟨vs, e1, rv⟩ := s.at_ r p _ hp hm
  have w := Ext.write (o := .lst (vs ++ [y])) s (List.mem_of_getElem? hp)
  exact ⟨p, vs, y, rfl, rfl, e1, by rw [RepL.length rv, ← lineMax_eq]; exact hb, k G _ _ w (SI.writeL s hp (RepL.app rv (.cons ry .nil))) .non⟩
theorem meD_cnt {m : Mem} {dx dy d : D} {m' : Mem} (h : meD m .count dx [dy] = some (d, m')) : ∃ xs bs, (∀ zs, dx ≠ .tup zs) ∧ seqOf m dx = some xs ∧ eqAll m dy xs = some bs ∧ d = .int (bs.countP id : Nat) ∧ m' = m := by
  cases dx <;> first | (simp [meD] at h; done) | skip
  all_goals
    simp only [meD] at h
    split at h <;> first | (cases h; done) | skip
    rename_i xs hs
    obtain ⟨bs, hb, h⟩ := Option.map_eq_some_iff.mp h
    cases h
    exact ⟨xs, bs, (fun _ z => nomatch z), hs, hb, rfl, rfl⟩
theorem snd_count (K : X.K = M.K) (hu : X.A.units + 100 < cLine) (ha : PE X a (tO M f oa)) (hb : PE X b (tE M f ib)) (hs : starB b = false) (hc : bareCall a = false) (hline : (apos.endLine == pos.line) = true) : PE X (.Call (.Attribute a "count" apos) [b] [] pos) (tE M f (.meth .count oa (.cons ib .nil))) := by
  refine snd_me (me := .count) K (by decide) PySem.F.slot_list_count PySem.F.type_list_count (mt_countD hu) ha hb hs hc hline fun G H m x y dx dy d m' Q s rx ry h k => ?_
  obtain ⟨xs, bs, nt, hx, hb, rfl, rfl⟩ := meD_cnt h
  obtain ⟨p, qs, h1, h2, s1, s2, rfl⟩ := eqAll_dp s (.inl ry) rx hx nt hb
  obtain ⟨q, vs, rfl, rv, _⟩ := RepO.seq s rx hx
  rw [K]
  exact ⟨q, y, p, qs, rfl, rfl, h2, h1, s2, s1, k G H _ Ext.refl s (.int _)⟩
theorem meD_ix {m : Mem} {dx dy d : D} {m' : Mem} (h : meD m .index dx [dy] = some (d, m')) : ∃ xs bs j, (∀ zs, dx ≠ .tup zs) ∧ seqOf m dx = some xs ∧ eqAll m dy xs = some bs ∧ bs.findIdx? id = some j ∧ d = .int (j : Nat) ∧ m' = m := by
  cases dx <;> first | (simp [meD] at h; done) | skip
  all_goals
    simp only [meD] at h
    split at h <;> first | (cases h; done) | skip
    rename_i xs hs
    obtain ⟨j, hj, h⟩ := Option.map_eq_some_iff.mp h
    obtain ⟨bs, hb, hj⟩ := Option.bind_eq_some_iff.mp hj
    cases h
    exact ⟨xs, bs, j, (fun _ z => nomatch z), hs, hb, hj, rfl, rfl⟩
theorem snd_index (K : X.K = M.K) (hu : X.A.units + 100 < cLine) (ha : PE X a (tO M f oa)) (hb : PE X b (tE M f ib)) (hs : starB b = false) (hc : bareCall a = false) (hline : (apos.endLine == pos.line) = true) : PE X (.Call (.Attribute a "index" apos) [b] [] pos) (tE M f (.meth .index oa (.cons ib .nil))) := by
  refine snd_me (me := .index) K (by decide) PySem.F.slot_list_index PySem.F.type_list_index (mt_indexD (by omega)) ha hb hs hc hline fun G H m x y dx dy d m' Q s rx ry h k => ?_
  obtain ⟨xs, bs, j, nt, hx, hb, hj, rfl, rfl⟩ := meD_ix h
  obtain ⟨p, qs, h1, h2, s1, s2, rfl⟩ := eqAll_dp s (.inl ry) rx hx nt hb
  obtain ⟨q, vs, rfl, rv, _⟩ := RepO.seq s rx hx
  rw [K]
  rw [List.findIdx?_map] at hj
  obtain ⟨hl, hp, hn⟩ := List.findIdx?_eq_some_iff_getElem.mp hj
  refine ⟨q, y, p, qs, j, qs[j], rfl, rfl, h2, h1, s2, s1, List.getElem?_eq_getElem hl, hp, fun i z hi hz => ?_, k G H _ Ext.refl s (.int _)⟩
  obtain ⟨h3, rfl⟩ := List.getElem?_eq_some_iff.mp hz
  have := hn i hi
  simpa using this
/-- d.get(k, x) -/
theorem snd_get2 {ic : E} (hu : X.A.units + 100 < cLine) (ha : PE X a (tO M f oa)) (hb : PE X b (tE M f ib)) (hcc : PE X c (tE M f ic)) (hs : starB b = false) (hs' : starB c = false) (hc : bareCall a = false) (hline : (apos.endLine == pos.line) = true) :
    PE X (.Call (.Attribute a "get" apos) [b, c] [] pos) (tE M f (.meth .get2 oa (.cons ib (.cons ic .nil)))) := by
  have hns : noStars [b, c] = true := by simp [noStars, hs, hs']
  have tr : backTo pos (starEach [b, c] X.env) = [(false, eval b X.env), (false, eval c X.env)] := by
    rw [starEach_cons hs, starEach_cons hs']
    rfl
  refine (pe_dget2 (by omega) ha hb hcc ⟨base_plain hc, few_plain hns (by simp), hline, tr⟩).imp fun σ H Q h => ?_
  obtain ⟨G, e, m, s, er, h⟩ := h
  simp only [evE', evE] at h
  refine Tm.bind rlE_mono s er h fun dx x G1 H1 m1 x1 s1 er1 r1 h1 => ?_
  split at h1
  · rename_i hok
    obtain ⟨kvs, hk⟩ := Option.isSome_iff_exists.mp (show (dicOf m1 dx).isSome = true from hok)
    obtain ⟨q, ks, rfl, q1, rk⟩ := RepO.dic s1 r1 hk
    refine ⟨q, rfl, .inl ⟨ks, q1⟩, ?_⟩
    simp only [evEs, R.bind_assoc] at h1
    refine Tm.bind rlE_mono s1 er1 h1 fun dy y G2 H2 m2 x2 s2 er2 r2 h2 => Tm.bind rlE_mono s2 er2 h2 fun dz z G3 H3 m3 x3 s3 er3 r3 h3 => ?_
    simp only [R.bind, meD] at h3
    have r1' := RepO.mono (RepO.mono r1 x2 s1) x3 s2
    cases hk3 : dicOf m3 dx with
    | none => simp only [hk3] at h3; exact h3.elim
    | some kvs3 =>
      cases hky : keyOf dy with
      | none => simp only [hk3, hky] at h3; exact h3.elim
      | some ky =>
        simp only [hk3, hky] at h3
        obtain ⟨q', eq', _, g⟩ := RepO.dget s3 r1' hk3 (.inl (Rep.mono x3 s2 r2)) hky
        cases eq'
        cases hg : getK ky kvs3 with
        | none =>
          rw [hg] at g h3
          exact ⟨none, g, h3 G3 H3 _ Ext.refl s3 r3⟩
        | some t =>
          rw [hg] at g h3
          obtain ⟨u, g, ru⟩ := g
          exact ⟨some u, g, h3 G3 H3 _ Ext.refl s3 ru⟩
  · exact h1.elim
end
end Ev
/-! Ev11: heaps with things tracked for a while: a lambda, its cells. -/
namespace Ev
open PySem PySem.Spec L2

/-- tracked for a while: each by its very object -/
abbrev Ad := List (Addr × Obj)
def addH (L : Ad) (H : Hp) : Hp := fun b => match L.lookup b with
  | some o => some (CellO b o)
  | none => H b
def subH (L : Ad) (H : Hp) : Hp := fun b => if (L.lookup b).isSome then none else H b
theorem addH_at {L : Ad} {H : Hp} {b : Addr} {o : Obj} (h : L.lookup b = some o) : addH L H b = some (CellO b o) := by unfold addH; rw [h]
theorem addH_out {L : Ad} {H : Hp} {b : Addr} (h : L.lookup b = none) : addH L H b = H b := by unfold addH; rw [h]
theorem subH_at {L : Ad} {H : Hp} {b : Addr} {o : Obj} (h : L.lookup b = some o) : subH L H b = none := by unfold subH; rw [h]; rfl
theorem subH_out {L : Ad} {H : Hp} {b : Addr} (h : L.lookup b = none) : subH L H b = H b := by unfold subH; rw [h]; rfl
theorem cellO_ok {P : Program} {w : World} {H : Hp} {h : Heap} {b : Addr} {o : Obj} (e : h.get? b = some o) : ObjOk P w H h b (CellO b o) :=
  ⟨e, ⟨o, e⟩, fun h1 h2 q k => k o q⟩
theorem cellO_get {P : Program} {w : World} {H : Hp} {h : Heap} {b : Addr} {o : Obj} (x : ObjOk P w H h b (CellO b o)) : h.get? b = some o := x.1
def Free (L : Ad) (H : Hp) : Prop := ∀ b o, L.lookup b = some o → H b = none
def Held (L : Ad) (H : Hp) : Prop := ∀ b o, L.lookup b = some o → H b = some (CellO b o)
theorem addH_ext {L : Ad} {H : Hp} (n : Free L H) {b : Addr} {u : HO} (e : H b = some u) : addH L H b = some u := by
  cases q : L.lookup b with
  | none => rw [addH_out q]; exact e
  | some o => rw [n b o q] at e; cases e
theorem subH_ext {L : Ad} {H : Hp} (n : Held L H) {b : Addr} {u : HO} (e : H b = some u) (h : ∀ φ, u ≠ .ext φ) : subH L H b = some u := by
  cases q : L.lookup b with
  | none => rw [subH_out q]; exact e
  | some o => rw [n b o q] at e; cases e; exact absurd rfl (h _)
theorem subH_sub {L : Ad} {H : Hp} {b : Addr} {u : HO} (e : subH L H b = some u) : H b = some u := by
  cases q : L.lookup b with
  | none => rw [subH_out q] at e; exact e
  | some o => rw [subH_at q] at e; cases e
section
variable {P : Program} {w : World} {H H' : Hp} {h h' B : Heap} {L : Ad} {fs : List Addr}
theorem HOk.add (x : HOk P w H h) (n : Free L H) (k : ∀ b o, L.lookup b = some o → h.get? b = some o) : HOk P w (addH L H) h := fun b u e => by
  cases q : L.lookup b with
  | some o => rw [addH_at q] at e; cases e; exact cellO_ok (k b o q)
  | none =>
    rw [addH_out q] at e
    exact (x b u e).stay (fun _ _ _ z => z) (fun c z => addH_ext n z) (fun c xs z => addH_ext n z)
theorem HOk.sub (x : HOk P w H h) (n : Held L H) : HOk P w (subH L H) h := fun b u e =>
  (x b u (subH_sub e)).stay (fun _ _ _ z => z) (fun c z => subH_ext n z (fun _ q => nomatch q)) (fun c xs z => subH_ext n z (fun _ q => nomatch q))
/-- let go behind a call -/
theorem Un.sub (u : Un fs [] (addH L H) H' h h') (hok : HOk P w H' h') (n : Free L H) (g : ∀ b o, L.lookup b = some o → h.get? b = some o) (d : Held L H') : Un fs [] H (subH L H') h h' where
  keep := fun b o e z hb hx => by
    cases q : L.lookup b with
    | none => exact u.keep b o e (by rw [addH_out q]; exact z) hb hx
    | some o' =>
      have := cellO_get (hok b _ (d b o' q))
      rw [g b o' q] at e
      cases e
      exact this
  slot := fun b o e z hb hx => by
    cases q : L.lookup b with
    | none => exact u.slot b o e (by rw [addH_out q]; exact z) hb hx
    | some o' =>
      have := cellO_get (hok b _ (d b o' q))
      rw [g b o' q] at e
      cases e
      exact ⟨o.slots, this⟩
  free := fun b o e z hx => by
    cases q : L.lookup b with
    | none => rw [subH_out q]; exact u.free b o e (by rw [addH_out q]; exact z) hx
    | some o' => exact subH_at q
  there := u.there
  tups := fun b xs e => subH_ext d (u.tups b xs (addH_ext n e)) (fun _ q => nomatch q)
  frzs := fun b o v e => subH_ext d (u.frzs b o v (addH_ext n e)) (fun _ q => nomatch q)
  tbls := fun b ps e => by
    obtain ⟨m, q⟩ := u.tbls b ps (addH_ext n e)
    exact ⟨m, subH_ext d q (fun _ q => nomatch q)⟩
theorem UB.sub (u : UB fs (addH L H) H' h B h') (hok : HOk P w H' B) (n : Free L H) (g : ∀ b o, L.lookup b = some o → h.get? b = some o) (d : Held L H') : UB fs H (subH L H') h B h' where
  keep := fun b o e z hb => by
    cases q : L.lookup b with
    | none => exact u.keep b o e (by rw [addH_out q]; exact z) hb
    | some o' =>
      have := cellO_get (hok b _ (d b o' q))
      rw [g b o' q] at e
      cases e
      exact this
  slot := u.slot
  free := fun b o e z => by
    cases q : L.lookup b with
    | none => rw [subH_out q]; exact u.free b o e (by rw [addH_out q]; exact z)
    | some o' => exact subH_at q
  there := u.there
  tups := fun b xs e => subH_ext d (u.tups b xs (addH_ext n e)) (fun _ q => nomatch q)
  frzs := fun b o v e => subH_ext d (u.frzs b o v (addH_ext n e)) (fun _ q => nomatch q)
  tbls := fun b ps e => by
    obtain ⟨m, q⟩ := u.tbls b ps (addH_ext n e)
    exact ⟨m, subH_ext d q (fun _ q => nomatch q)⟩
theorem Free.sub : Free L (subH L H) := fun b o q => subH_at q
/-- tracked again behind a lambda's run -/
theorem Un.add (u : Un fs [] (subH L H) H' h h') (n : Held L H) (g : ∀ b o, L.lookup b = some o → h.get? b = some o) : Free L H' ∧ Un fs [] H (addH L H') h h' := by
  have f : Free L H' := fun b o q => u.free b o (g b o q) (subH_at q) (by simp)
  have hb : ∀ b, H b = none → L.lookup b = none := fun b e => by
    cases q : L.lookup b with
    | none => rfl
    | some o => rw [n b o q] at e; cases e
  refine ⟨f, fun b o e z hb' hx => u.keep b o e (by rw [subH_out (hb b z)]; exact z) hb' hx, fun b o e z hb' hx => u.slot b o e (by rw [subH_out (hb b z)]; exact z) hb' hx, fun b o e z hx => ?_, u.there,
    fun b xs e => addH_ext f (u.tups b xs (subH_ext n e (fun _ q => nomatch q))), fun b o v e => addH_ext f (u.frzs b o v (subH_ext n e (fun _ q => nomatch q))), fun b ps e => ?_⟩
  · rw [addH_out (hb b z)]
    exact u.free b o e (by rw [subH_out (hb b z)]; exact z) hx
  · obtain ⟨m, q⟩ := u.tbls b ps (subH_ext n e (fun _ q => nomatch q))
    exact ⟨m, addH_ext f q⟩
theorem UB.add (u : UB fs (subH L H) H' h B h') (n : Held L H) (g : ∀ b o, L.lookup b = some o → h.get? b = some o) : Free L H' ∧ UB fs H (addH L H') h B h' := by
  have f : Free L H' := fun b o q => u.free b o (g b o q) (subH_at q)
  have hb : ∀ b, H b = none → L.lookup b = none := fun b e => by
    cases q : L.lookup b with
    | none => rfl
    | some o => rw [n b o q] at e; cases e
  refine ⟨f, fun b o e z hb' => u.keep b o e (by rw [subH_out (hb b z)]; exact z) hb', u.slot, fun b o e z => ?_, u.there,
    fun b xs e => addH_ext f (u.tups b xs (subH_ext n e (fun _ q => nomatch q))), fun b o v e => addH_ext f (u.frzs b o v (subH_ext n e (fun _ q => nomatch q))), fun b ps e => ?_⟩
  · rw [addH_out (hb b z)]
    exact u.free b o e (by rw [subH_out (hb b z)]; exact z)
  · obtain ⟨m, q⟩ := u.tbls b ps (subH_ext n e (fun _ q => nomatch q))
    exact ⟨m, addH_ext f q⟩
end

/-! ### the tree's meaning with things let go or tracked -/
section
variable {K : PySem.W.Frag} {w : World} {T : List (Addr × Str)} {G G' : Gh} {H H' : Hp} {m m' : Mem}
/-- all but exact things and tables is the same -/
def KeepD (H H' : Hp) : Prop := ∀ a o, H a = some o → (∀ φ, o ≠ .ext φ) → (∀ ps, o ≠ .tbl ps) → H' a = some o
theorem KeepD.rd (k : KeepD H H') {a : Addr} {o : HO} (h : Rd H a o) (e : ∀ φ, o ≠ .ext φ) (t : ∀ ps, o ≠ .tbl ps) : Rd H' a o := by
  rcases h with h | ⟨ob, h⟩
  · exact .inl (k a o h e t)
  · exact .inr ⟨ob, k a _ h (fun _ q => nomatch q) (fun _ q => nomatch q)⟩
theorem KeepD.lsT (k : KeepD H H') {a : Addr} {xs : List V} (h : LsT K G H a xs) : LsT K G H' a xs := by
  rcases h with ⟨h1, h2⟩ | h
  · exact .inl ⟨k.rd h1 (fun _ q => nomatch q) (fun _ q => nomatch q), h2⟩
  · exact .inr h
theorem KeepD.sqT (k : KeepD H H') {a : Addr} {xs : List V} (h : SqT K H a xs) : SqT K H' a xs := by
  rcases h with (h | ⟨ob, h⟩) | h
  · exact .inl (.inl (k a _ h (fun _ q => nomatch q) (fun _ q => nomatch q)))
  · exact .inl (.inr ⟨ob, k a _ h (fun _ q => nomatch q) (fun _ q => nomatch q)⟩)
  · exact .inr h
mutual
theorem Rep.keep (k : KeepD H H') : ∀ {v : V} {d : D}, Rep K w G H v d → Rep K w G H' v d
  | _, _, .non => .non
  | _, _, .bl b => .bl b
  | _, _, .int i => .int i
  | _, _, .str z => .str z
  | _, _, .tup h r => .tup (k.sqT h) (RepL.keep k r)
  | _, _, .lst h r => .lst (k.lsT h) (RepL.keep k r)
  | _, _, .dic h r => .dic (k _ _ h (fun _ q => nomatch q) (fun _ q => nomatch q)) (RepK.keep k r)
  | _, _, .cdic h q r => .cdic h q (RepK.keep k r)
  | _, _, .ref h => .ref h
theorem RepL.keep (k : KeepD H H') : ∀ {v : List V} {d : List D}, RepL K w G H v d → RepL K w G H' v d
  | _, _, .nil => .nil
  | _, _, .cons h r => .cons (Rep.keep k h) (RepL.keep k r)
theorem RepK.keep (k : KeepD H H') : ∀ {v : List (Key × V)} {d : List (DK × D)}, RepK K w G H v d → RepK K w G H' v d
  | _, _, .nil => .nil
  | _, _, .cons h r => .cons (Rep.keep k h) (RepK.keep k r)
end
theorem CellRep.keep (k : KeepD H H') {a : Addr} {c : Cell} (r : CellRep K w G H a c) : CellRep K w G H' a c := by
  cases c with
  | lst ds => obtain ⟨xs, e, r⟩ := r; exact ⟨xs, k a _ e (fun _ q => nomatch q) (fun _ q => nomatch q), RepL.keep k r⟩
  | dic ds => obtain ⟨xs, e, r⟩ := r; exact ⟨xs, k a _ e (fun _ q => nomatch q) (fun _ q => nomatch q), RepK.keep k r⟩
theorem keepD_add {L : Ad} (n : Free L H) : KeepD H (addH L H) := fun a o e _ _ => addH_ext n e
theorem keepD_sub {L : Ad} (n : Held L H) : KeepD H (subH L H) := fun a o e h _ => subH_ext n e h
theorem SI.addH {L : Ad} (s : SI K w T G H m) (n : Free L H) : SI K w T G (Ev.addH L H) m where
  len := s.len
  nd := s.nd
  at_ := fun i a c h1 h2 => CellRep.keep (keepD_add n) (s.at_ i a c h1 h2)
  fz := fun a h => by obtain ⟨o, e⟩ := s.fz a h; exact ⟨o, addH_ext n e⟩
  dj := s.dj
  tab := tabs_keep s.tab (fun b ps e => addH_ext n e) (fun b φ e => addH_ext n e)
/-- the code objects that the tables tell are none of these -/
theorem SI.subH {L : Ad} (s : SI K w T G H m) (n : Held L H) (nf : ∀ b o, L.lookup b = some o → ¬ G.fz b) (nt : LamX.Tabs T (Ev.subH L H)) : SI K w T G (Ev.subH L H) m where
  len := s.len
  nd := s.nd
  at_ := fun i a c h1 h2 => CellRep.keep (keepD_sub n) (s.at_ i a c h1 h2)
  fz := fun a h => by
    obtain ⟨o, e⟩ := s.fz a h
    cases q : L.lookup a with
    | none => exact ⟨o, by rw [subH_out q]; exact e⟩
    | some u => exact absurd h (nf a u q)
  dj := s.dj
  tab := nt
end
end Ev
/-! Ev12: what a call hands on; a def's promise; calls of defs, lambdas among the arguments. -/
namespace Ev
open PySem PySem.Spec L2

inductive RepAs (M : Md) (G : Gh) (H : Hp) : List V → List Arg → Prop
  | nil : RepAs M G H [] []
  | cons {v a vs as} : RepA M G H v a → RepAs M G H vs as → RepAs M G H (v :: vs) (a :: as)
section
variable {M : Md} {G G' : Gh} {H H' : Hp} {m : Mem}
theorem RepA.addH {v : V} {a : Arg} {L : Ad} (r : RepA M G H v a) (n : Free L H) : RepA M G (Ev.addH L H) v a :=
  r.to (fun _ _ q => Rep.keep (keepD_add n) q) (fun b φ e => addH_ext n e) (fun _ _ q => RepL.keep (keepD_add n) q) (fun _ _ _ z => z)
theorem RepAs.mono {v : List V} {a : List Arg} (r : RepAs M G H v a) (x : Ext G H G' H') (s : M.SI G H m) : RepAs M G' H' v a := by
  induction r with
  | nil => exact .nil
  | cons h _ ih => exact .cons (h.mono x s) ih
theorem RepAs.len {v : List V} {a : List Arg} (r : RepAs M G H v a) : v.length = a.length := by
  induction r with
  | nil => rfl
  | cons h _ ih => rw [List.length_cons, List.length_cons, ih]
theorem RepAs.ofL : ∀ {v : List V} {d : List D}, M.RepL G H v d → RepAs M G H v (d.map .dat)
  | _, _, .nil => .nil
  | _, _, .cons h r => .cons (.dat h) (RepAs.ofL r)
theorem RepAs.app {v w : List V} {a b : List Arg} (r : RepAs M G H v a) (q : RepAs M G H w b) : RepAs M G H (v ++ w) (a ++ b) := by
  induction r with
  | nil => exact q
  | cons h _ ih => exact .cons h ih
/-- a def's promise: it does what the evaluator says -/
def spF (M : Md) (k : Nat) (fid : Nat) : Sp := fun vs H Q E => ∃ G ds m, M.SI G H m ∧ RepAs M G H vs ds ∧ vs.length = (M.ps fid).length ∧
  match evF M.T k fid ds m with
  | .ok d m' => ∀ G' H' v, Ext G H G' H' → M.SI G' H' m' → M.Rep G' H' v d → Q v H'
  | .ex x m' => ∀ G' H' dd, Ext G H G' H' → M.SI G' H' m' → ExRep M G' H' x dd → E (.ref (M.ca x.c)) dd H'
  | .bad => False
/-- the defs keep it at the depth k -/
structure FnG (M : Md) (k j fid : Nat) : Prop where
  run : ∀ (A : Around) (outer : List PySem.Env) (s : Shared) (H : Hp) (args : Args) (us : List Value) (vs : List V) (Q : VK) (E : XK), A.guards = some [] → Room j A → Env0 M.P M.w M.K M.mg M.base A outer s H → BindsTo s (M.fd fid) args ((M.ps fid).zip us) → Vals vs us →
    spF M k fid vs H Q E → codeAny (model M.P M.w) A (.call (.ref (M.fa fid)) args) (CR (CX M.P M.w) outer M.P M.w H s Q E) s
abbrev FnsOk (M : Md) (k : Nat) : Prop := ∀ fid, M.nf fid = true → FnG M k (2 * k + 2) fid
end
/-- a context of the module -/
structure XOk (M : Md) (X : Cx) (f : Fm) (c : CC) : Prop where
  P : X.prog = M.P
  w : X.w = M.w
  K : X.K = M.K
  mg : X.mg = M.mg
  base : X.base = M.base
  ctx : CtxOk X c
  un : X.A.units + 100 < cLine
  gd : X.A.guards = some []
  tk : Takes X f.W
/-- .. where calls may be made -/
structure XCall (M : Md) (X : Cx) (f : Fm) (c : CC) : Prop extends XOk M X f c where
  room : Room (2 * f.k + 2) X.A
  fns : FnsOk M f.k
  calm : X.calm = true
/-- the facts of the module's defs -/
structure MdOk (M : Md) : Prop where
  gf : ∀ i, M.nf i = true → M.mg (M.fn i) = some (.ref (M.fa i))
  kf : ∀ i, M.nf i = true → PySem.W.keepIn M.K (.ref (M.fa i)) = true
  bf : ∀ i, M.nf i = true → Binds M.K (M.fd i) (M.ps i) []
  np : ∀ i, M.nf i = true → ∃ fn, M.T.fns i = some fn ∧ fn.np = (M.ps i).length

section
variable {M : Md} {f : Fm} {X : Cx} {c : CC} {e : Expr} {es : List Expr} {ies : Es} {ias : As} {fid : Nat} {x : Str} {p pos : Pos}
theorem run_spF {k : Nat} {G : Gh} {H : Hp} {m : Mem} {σ : St} {vs : List V} {ds : List Arg} {Q : VK} (s : M.SI G H m) (r : RepAs M G H vs ds) (hl : vs.length = (M.ps fid).length) (h : Fin M f (rlE M) G H σ (evF M.T k fid ds m) Q) : spF M k fid vs H Q (WE f.W σ) := by
  refine ⟨G, ds, m, s, r, hl, ?_⟩
  cases hr : evF M.T k fid ds m with
  | ok d m' => rw [hr] at h; exact fun G' H' v x1 s1 q => h G' H' v x1 s1 q
  | ex y m' => rw [hr] at h; exact fun G' H' dd x1 s1 q => h G' H' dd x1 s1 q
  | bad => rw [hr] at h; exact h.elim
end
/-! ### a lambda is made -/
section
variable {X : Cx} {pins : List (Addr × Obj)} {σ : L2.St} {H : Hp} {s : Shared}
theorem clo_look {cells : List (Str × Addr)} {names : List (Str × NameKind)} {n : Str} {c : Addr} (h : (n, NameKind.free) ∈ names) (e : cells.lookup n = some c) : (cloFrom cells names []).lookup n = some c := by
  have h1 := cloFrom_has (cells := cells) (acc := []) h
  obtain ⟨c2, h2⟩ : ∃ c2, (cloFrom cells names []).lookup n = some c2 := by
    cases q : (cloFrom cells names []).lookup n with
    | some c2 => exact ⟨c2, rfl⟩
    | none => exact absurd h1 (by rw [List.lookup_eq_none_iff] at q; intro z; have := q _ z; simp at this)
  rcases cloFrom_mem (PySem.mem_of_lookup h2) with z | ⟨_, z⟩
  · exact absurd z (by simp)
  · rw [e] at z; rw [h2, z]; rfl
theorem clo_back {cells : List (Str × Addr)} {names : List (Str × NameKind)} {n : Str} {c : Addr} (h : (cloFrom cells names []).lookup n = some c) : (n, NameKind.free) ∈ names ∧ c = (cells.lookup n).getD 0 := by
  rcases cloFrom_mem (PySem.mem_of_lookup h) with z | z
  · exact absurd z (by simp)
  · exact z
/-- a lambda is made: it is pinned -/
theorem lam_new {T : List (Addr × Str)} {cc P : Addr} {params : Arguments} {body : Expr} {scope : Scope} {pos : Pos} {E : Value → Shared → Prop} {Q : Value → Shared → Prop} (Iv : Inv X pins σ H s) (TB : LamX.TabB X.base X.mg cc P) (hcode : X.env.code = .ref cc)
    (hin : (P, X.env.qual ++ "<lambda>") ∈ T) (huq : ∀ p ∈ T, p.1 = P → p.2 = X.env.qual ++ "<lambda>") (hT : LamX.Tabs T H) (hdf : defaultsOf params X.env = ([], [])) (hfr : ∀ y ∈ scope.names, y.2 = .free → ∃ c, X.env.cells.lookup y.1 = some c)
    (k : ∀ (f c' : Addr) (pm ctv : Value) (H1 : Hp) (s' : Shared) (o : Obj), o = PySem.W.kla_obj "<lambda>" (X.env.qual ++ "<lambda>") params body scope (cloFrom X.env.cells scope.names []) pm c' ctv → Inv X ((f, o) :: pins) σ H1 s' →
      (∀ b u, H b = some u → (∀ ps, u ≠ .tbl ps) → H1 b = some u) → (∀ b ps, H b = some (.tbl ps) → ∃ more, H1 b = some (.tbl (ps ++ more))) → LamX.Tabs T H1 → X.s_0.heap.objs.size ≤ f → H1 c' = some (LamX.CodeO c' (X.env.qual ++ "<lambda>")) → Q (.ref f) s') :
    wpAny (model X.prog X.w) X.A (eval (.Lambda params body scope pos) X.env) Q E s := by
  obtain ⟨tb, atP, triples, told⟩ := hT _ hin
  have keepP := Iv.hok P _ atP
  have getP : s.heap.get? P = some { cls := .none, data := .fields tb } := keepP
  have bmP : s.heap.BuiltinsAt X.mg P := TB.bm.keeps Iv.bk
  have notFrame : ∀ a, s.heap.objs.size ≤ a → a ∉ X.fs ∧ a ≠ X.env.locals := fun a ha => ⟨Iv.nofs ha, fun z => by
    have := Iv.lt
    rw [← z] at this
    exact Nat.lt_irrefl _ (Nat.lt_of_lt_of_le this ha)⟩
  have pinned : ∀ {H1 : Hp} {s1 : Shared} {a : Addr} {o : Obj}, Inv X pins σ H1 s1 → s1.heap.get? a = some o → H1 a = none → s.heap.objs.size ≤ a → (∀ v, o.data ≠ .cell v) → Inv X ((a, o) :: pins) σ H1 s1 := fun {H1 s1 a o} J g n ha hd => by
    obtain ⟨j1, j2, j3, j4, j5, j6, j7, j8, j9, j10, j11⟩ := J
    refine ⟨j1, j2, j3, j4, j5, j6, j7, j8, fun q hq => ?_, j10, j11⟩
    rcases List.mem_append.mp hq with hq | hq
    · exact j9 q (List.mem_append_left _ hq)
    · rcases List.mem_cons.mp hq with rfl | hq
      · exact ⟨g, n, (notFrame _ ha).2, (notFrame _ ha).1, hd⟩
      · exact j9 q (List.mem_append_right _ hq)
  refine PySem.W.kla_eval hdf ?_
  cases found : codeAmong pos tb.toList with
  | none =>
    refine PySem.W.kla_makeFunction (mg := X.mg) (c := cc) (P := P) (ps := tb) (closure_ok hfr) Iv.ok.glob (Iv.mod.glob.keeps Iv.bk) hcode (TB.code.keeps Iv.bk) getP triples found TB.gP bmP fun co ctv hq tk ext ge lt rec inT => ?_
    obtain ⟨co2, oc, flds, tok, e2, getC, dC, nmC⟩ := rec
    cases e2
    have grow : s.heap.objs.size ≤ hq.objs.size := Nat.le_trans ge (Nat.le_of_lt lt)
    have noC : H co = none := Iv.hok.fresh ge
    have J := LamX.inv_table (t' := tk) (more := #[rawInt pos.line, rawInt pos.col, .ref co]) (q := X.env.qual ++ "<lambda>") (h' := hq.push (PySem.W.kla_obj "<lambda>" (X.env.qual ++ "<lambda>") params body scope (cloFrom X.env.cells scope.names []) ((X.mg "__name__").getD .none) co ctv)) Iv atP
      (fun b o hb e => Heap.get?_push_of_some _ (ext b o hb e)) (Heap.get?_push_of_some _ inT) ge ⟨oc, flds, tok, Heap.get?_push_of_some _ getC, dC, nmC⟩
    have noF : upd (upd H P (.tbl (tb ++ #[rawInt pos.line, rawInt pos.col, .ref co]))) co (LamX.CodeO co (X.env.qual ++ "<lambda>")) hq.objs.size = none := by
      rw [upd_ne (Nat.ne_of_gt lt), upd_ne (Nat.ne_of_gt (Nat.lt_of_lt_of_le (Heap.lt_size getP) grow))]
      exact Iv.hok.fresh grow
    have stays : ∀ b u, H b = some u → (∀ ps, u ≠ .tbl ps) → upd (upd H P (.tbl (tb ++ #[rawInt pos.line, rawInt pos.col, .ref co]))) co (LamX.CodeO co (X.env.qual ++ "<lambda>")) b = some u := fun b u e n => by
      rw [upd_ne (ne_of_none e noC), upd_ne (fun z => n tb (by rw [z, atP] at e; exact (Option.some.inj e).symm))]
      exact e
    refine k hq.objs.size co _ ctv _ _ _ rfl (pinned J (Heap.get?_push_size _ rfl) noF grow (fun v q => nomatch q)) stays (fun b ps e => ?_) (fun q hq' => ?_) (Nat.le_trans Iv.sz grow) upd_same
    · by_cases hb : b = P
      · subst hb
        rw [atP] at e
        cases e
        exact ⟨_, by rw [upd_ne (ne_of_none atP noC), upd_same]⟩
      · exact ⟨#[], by rw [upd_ne (ne_of_none e noC), upd_ne hb, e]; simp⟩
    · by_cases hb : q.1 = P
      · rw [huq q hq' hb, hb]
        have shape : (tb ++ #[rawInt pos.line, rawInt pos.col, .ref co]).toList = tb.toList ++ [rawInt pos.line, rawInt pos.col, .ref co] := by simp
        refine ⟨_, by rw [upd_ne (ne_of_none atP noC), upd_same], by rw [shape]; exact PySem.TriplesOk_snoc _ _ _ _ triples, fun p' cv hcv => ?_⟩
        rw [shape] at hcv
        rcases LamX.among_app _ triples hcv with z | z
        · obtain ⟨c0, e1, e3⟩ := told p' cv z
          exact ⟨c0, e1, stays _ _ e3 (fun ps z => by unfold LamX.CodeO at z; cases z)⟩
        · exact ⟨co, z, upd_same⟩
      · obtain ⟨tq, a1, a2, a3⟩ := hT q hq'
        refine ⟨tq, by rw [upd_ne (ne_of_none a1 noC), upd_ne hb]; exact a1, a2, fun p' cv hcv => ?_⟩
        obtain ⟨c0, e1, e3⟩ := a3 p' cv hcv
        exact ⟨c0, e1, stays _ _ e3 (fun ps z => by unfold LamX.CodeO at z; cases z)⟩
  | some cv =>
    obtain ⟨co, e, known⟩ := told pos cv found
    subst e
    refine PySem.W.kla_makeFunctionHit (mg := X.mg) (c := cc) (P := P) (ps := tb) (closure_ok hfr) Iv.ok.glob (Iv.mod.glob.keeps Iv.bk) hcode (TB.code.keeps Iv.bk) getP triples found bmP fun ctv hq tk ext grow => ?_
    have J : Inv X pins σ H { s with heap := hq.push (PySem.W.kla_obj "<lambda>" (X.env.qual ++ "<lambda>") params body scope (cloFrom X.env.cells scope.names []) ((X.mg "__name__").getD .none) co ctv), toks := tk } := Iv.kept fun b o e => Heap.get?_push_of_some _ (ext b o e)
    exact k hq.objs.size co _ ctv H _ _ rfl (pinned J (Heap.get?_push_size _ rfl) (Iv.hok.fresh grow) grow (fun v q => nomatch q)) (fun b u e _ => e) (fun b ps e => ⟨#[], by rw [e]; simp⟩) hT (Nat.le_trans Iv.sz grow) known
end
end Ev
/-! Ev13: arguments with lambdas among them; the call of a def. -/
namespace Ev
open PySem PySem.Spec L2

/-- a lambda of the text, where it is made -/
structure LamAt (X : Cx) (I : LamI) : Prop where
  qual : I.qual = X.env.qual ++ "<lambda>"
  free : ∀ x, (x, NameKind.free) ∈ I.scope.names ↔ x ∈ I.caps
  vis : ∀ x ∈ I.caps, X.env.scope.names.lookup x = some .cell ∨ X.env.scope.names.lookup x = some .free
/-- lambdas may be made here -/
structure MakeOk (M : Md) (X : Cx) : Prop where
  tb : ∃ cc P, LamX.TabB X.base X.mg cc P ∧ X.env.code = .ref cc ∧ (P, X.env.qual ++ "<lambda>") ∈ M.tabs ∧ ∀ p ∈ M.tabs, p.1 = P → p.2 = X.env.qual ++ "<lambda>"
  fn : ∀ x, X.fn x = true
inductive RepP (M : Md) (X : Cx) (σ : St) (ps : Ad) (G : Gh) (H : Hp) : V → Arg → Prop
  | old {v : V} {a : Arg} : RepA M G H v a → RepP M X σ ps G H v a
  | lam {f c' : Addr} {l : Nat} {I : LamI} {pm ctv : Value} {vs : List V} {ds : List D} : M.Λ l = some I → LamAt X I → (f, PySem.W.kla_obj "<lambda>" I.qual I.params I.body I.scope (cloFrom X.env.cells I.scope.names []) pm c' ctv) ∈ ps →
      H c' = some (LamX.CodeO c' I.qual) → (∀ (i : Nat) (x : Str), I.caps[i]? = some x → ∃ (j : Nat) (v : V), X.N[j]? = some x ∧ σ[j]? = some (some v) ∧ vs[i]? = some v) → M.RepL G H vs ds → vs.length = I.caps.length → RepP M X σ ps G H (.ref f) (.clo l ds)
inductive RepPs (M : Md) (X : Cx) (σ : St) (ps : Ad) (G : Gh) (H : Hp) : List V → List Arg → Prop
  | nil : RepPs M X σ ps G H [] []
  | cons {v a vs as} : RepP M X σ ps G H v a → RepPs M X σ ps G H vs as → RepPs M X σ ps G H (v :: vs) (a :: as)
/-- pinned lambdas -/
def LamPins (X : Cx) (ps : Ad) : Prop := ∀ q ∈ ps, (∀ vs, q.2.data ≠ .fields vs) ∧ X.s_0.heap.objs.size ≤ q.1
def rlP (M : Md) (X : Cx) (σ : St) : Hp → Gh → Hp → Ad × List V → List Arg → Prop := fun _ G H b as => RepPs M X σ b.1 G H b.2 as ∧ LamPins X b.1 ∧ (b.1 = [] ∨ ∀ x, X.fn x = true)
theorem rlP_mono {M : Md} {X : Cx} {σ : St} : RlMono (rlP M X σ) := fun _ _ _ _ _ _ _ h => h
structure PAs (X : Cx) (es : List Expr) (t : St → Hp → (Ad → List V → Hp → Prop) → Prop) : Prop where
  run : ∀ (pos : Pos) (pins : Ad) (s : Shared) (σ : St) (H : Hp) (Q : Ad → List V → Hp → Prop), Inv X pins σ H s → t σ H Q →
    wpAny (model X.prog X.w) X.A (spliced (backTo pos (starEach es X.env))) (fun us s' => ∃ ps vs H', Inv X (ps ++ pins) σ H' s' ∧ Vals vs us ∧ Q ps vs H') X.xe s
abbrev tAs (M : Md) (f : Fm) (X : Cx) (as : As) : St → Hp → (Ad → List V → Hp → Prop) → Prop := fun σ H Q => Tm M f (rlP M X σ) (evAs' M f as) σ H fun b => Q b.1 b.2
section
variable {M : Md} {f : Fm} {G G' : Gh} {H H' : Hp} {m : Mem} {σ : St} {X : Cx} {ps qs : Ad} {e : Env}
theorem RepP.mono {v : V} {a : Arg} (r : RepP M X σ ps G H v a) (x : Ext G H G' H') (s : M.SI G H m) (k : ∀ q ∈ ps, q ∈ qs) : RepP M X σ qs G' H' v a := by
  cases r with
  | old r => exact .old (r.mono x s)
  | lam h1 h2 h3 h4 h5 h6 h7 => exact .lam h1 h2 (k _ h3) (x.keepO s h4 (fun q => q) (fun _ q => nomatch q)) h5 (RepL.mono x s h6) h7
theorem RepPs.mono {v : List V} {a : List Arg} (r : RepPs M X σ ps G H v a) (x : Ext G H G' H') (s : M.SI G H m) (k : ∀ q ∈ ps, q ∈ qs) : RepPs M X σ qs G' H' v a := by
  induction r with
  | nil => exact .nil
  | cons h _ ih => exact .cons (h.mono x s k) ih
/-- a step that keeps all but tables, which grow -/
theorem Ext.lam (k : ∀ b u, H b = some u → (∀ ps, u ≠ .tbl ps) → H' b = some u) (t : ∀ b ps, H b = some (.tbl ps) → ∃ more, H' b = some (.tbl (ps ++ more))) : Ext G H G H' where
  fz := fun _ h => h
  rf := ⟨[], by simp⟩
  keep := fun a o h _ n => k a o h n
  tb := t
  dom := fun a o h => by
    by_cases q : ∃ ps, o = .tbl ps
    · obtain ⟨ps, rfl⟩ := q
      obtain ⟨more, e⟩ := t a ps h
      exact ⟨_, e⟩
    · exact ⟨o, k a o h fun ps z => q ⟨ps, z⟩⟩
  nf := fun _ h => .inl h
  nr := fun _ h => .inl h
theorem SI.lam (s : M.SI G H m) (k : ∀ b u, H b = some u → (∀ ps, u ≠ .tbl ps) → H' b = some u) (t : ∀ b ps, H b = some (.tbl ps) → ∃ more, H' b = some (.tbl (ps ++ more))) (T : LamX.Tabs M.tabs H') : M.SI G H' m where
  len := s.len
  nd := s.nd
  at_ := fun i a c h1 h2 => CellRep.keep (fun b o e _ n => k b o e n) (s.at_ i a c h1 h2)
  fz := fun a h => (Ext.lam (G := G) k t).dom a _ (s.fz a h).choose_spec
  dj := s.dj
  tab := T
theorem getAll_rep (r : ER M f G H σ e) : ∀ {is : List Nat} {ds : List D}, getAll e is = some ds → ∃ vs, M.RepL G H vs ds ∧ vs.length = is.length ∧ ∀ (i j : Nat), is[i]? = some j → ∃ v, σ[j]? = some (some v) ∧ vs[i]? = some v
  | [], ds, h => by
    simp only [getAll, Option.some.injEq] at h
    subst h
    exact ⟨[], .nil, rfl, fun i j q => by simp at q⟩
  | a :: is, ds, h => by
    simp only [getAll] at h
    split at h
    · rename_i d ds' h1 h2
      cases h
      obtain ⟨vs, q1, q2, q3⟩ := getAll_rep r h2
      unfold getV at h1
      split at h1
      · rename_i d' hd
        cases h1
        obtain ⟨v, e1, e2⟩ := r.val a _ hd
        refine ⟨v :: vs, .cons e2 q1, by rw [List.length_cons, q2]; rfl, fun i j q => ?_⟩
        cases i with
        | zero => simp at q; subst q; exact ⟨v, e1, rfl⟩
        | succ i => exact q3 i j (by simpa using q)
      · cases h1
    · cases h
end
section
variable {M : Md} {f : Fm} {X : Cx} {c : CC} {a : Expr} {es : List Expr} {ia : E} {ies : Es} {ias : As} {fid : Nat} {x : Str} {p pos : Pos}
theorem pas_nil : PAs X [] (tAs M f X .nil) := by
  refine ⟨fun pos pins s σ H Q I h => ?_⟩
  obtain ⟨G, e, m, si, er, h⟩ := h
  simp only [evAs', evAs] at h
  exact Calls.spliced_nil ⟨[], [], H, I, .nil, h G H ([], []) Ext.refl si ⟨.nil, fun q hq => absurd hq (by simp), .inl rfl⟩⟩
theorem pas_dat (ha : PE X a (tE M f ia)) (hs : PAs X es (tAs M f X ias)) (hn : starB a = false) : PAs X (a :: es) (tAs M f X (.dat ia ias)) := by
  refine ⟨fun pos pins s σ H Q I h => ?_⟩
  rw [starEach_cons hn]
  show wpAny _ _ (spliced ((false, eval a X.env) :: backTo pos (starEach es X.env))) _ _ s
  obtain ⟨G, e, m, si, er, h⟩ := h
  simp only [evAs', evAs] at h
  refine Calls.spliced_cons (thn (ha.run pins s σ H (fun x H1 => tAs M f X ias σ H1 fun ps vs => Q ps (x :: vs)) I ?_) fun u s1 ⟨v, H1, I1, r1, q1⟩ => ?_)
  · refine Tm.bind rlP_mono si er h fun dx v G1 H1 m1 x1 s1 er1 r1 h1 => ?_
    refine Tm.bind rlP_mono s1 er1 h1 fun ds b G2 H2 m2 x2 s2 er2 r2 h2 => ?_
    exact h2 G2 H2 (b.1, v :: b.2) Ext.refl s2 ⟨.cons (.old (.dat (Rep.mono x2 s1 r1))) r2.1, r2.2⟩
  · exact thn (hs.run pos pins s1 σ H1 _ I1 q1) fun us s2 ⟨ps, vs, H2, I2, r2, q2⟩ => ⟨ps, v :: vs, H2, I2, .cons r1 r2, q2⟩
theorem pas_pas {i : Nat} (C : CtxOk X c) (hN : c.N[i]? = some x) (hv : c.vis x = true) (hd : (x == ("__debug__" : Str)) = false) (hcd : (x == ("__classdict__" : Str)) = false) (hs : PAs X es (tAs M f X ias)) : PAs X (.Name x p :: es) (tAs M f X (.pas i ias)) := by
  refine ⟨fun pos pins s σ H Q I h => ?_⟩
  rw [starEach_cons (show starB (.Name x p) = false from rfl)]
  show wpAny _ _ (spliced ((false, eval (.Name x p) X.env) :: backTo pos (starEach es X.env))) _ _ s
  obtain ⟨G, e, m, si, er, h⟩ := h
  simp only [evAs', evAs] at h
  split at h
  · rename_i l cs hi
    obtain ⟨v, hv', r⟩ := er.clo i l cs hi
    refine Calls.spliced_cons (thn ((pe_var (pos := p) (i := i) (by rw [C.N]; exact hN) (C.vis x hv) hd hcd).run pins s σ H (fun w H1 => w = v ∧ H1 = H) I ⟨v, hv', rfl, rfl⟩) fun u s1 ⟨v1, H1, I1, r1, e1, e2⟩ => ?_)
    subst e1 e2
    refine thn (hs.run pos pins s1 σ H1 (fun ps vs => Q ps (v1 :: vs)) I1 ?_) fun us s2 ⟨ps, vs, H2, I2, r2, q2⟩ => ⟨ps, v1 :: vs, H2, I2, .cons r1 r2, q2⟩
    refine Tm.bind rlP_mono si er h fun ds b G2 H2 m2 x2 s2 er2 r2 h2 => ?_
    exact h2 G2 H2 (b.1, v1 :: b.2) Ext.refl s2 ⟨.cons (.old (r.mono x2 si)) r2.1, r2.2⟩
  · exact h.elim
/-- the slots of what it captures -/
def capsB (N : List Str) : List Nat → List Str → Bool
  | [], [] => true
  | i :: is, x :: xs => (match N[i]? with | some y => y == x | none => false) && capsB N is xs
  | _, _ => false
theorem capsB_at {N : List Str} : ∀ {is : List Nat} {xs : List Str}, capsB N is xs = true → is.length = xs.length ∧ ∀ (i : Nat) (x : Str), xs[i]? = some x → ∃ j, is[i]? = some j ∧ N[j]? = some x
  | [], [], _ => ⟨rfl, fun i x q => by simp at q⟩
  | [], _ :: _, h => by simp [capsB] at h
  | _ :: _, [], h => by simp [capsB] at h
  | a :: is, y :: xs, h => by
    simp only [capsB, Bool.and_eq_true] at h
    obtain ⟨q1, q2⟩ := capsB_at h.2
    refine ⟨by rw [List.length_cons, List.length_cons, q1], fun i x q => ?_⟩
    cases i with
    | zero =>
      simp at q
      subst q
      have h1 := h.1
      split at h1
      · rename_i z hz
        exact ⟨a, rfl, by rw [hz, (beq_iff_eq.mp h1)]⟩
      · cases h1
    | succ i => simpa using q2 i x (by simpa using q)
theorem pas_lam {l : Nat} {is : List Nat} {I : LamI} {lp : Pos} (C : CtxOk X c) (mk : MakeOk M X) (hL : M.Λ l = some I) (ha : LamAt X I) (hcap : capsB c.N is I.caps = true) (hdf : defaultsOf I.params X.env = ([], [])) (hs : PAs X es (tAs M f X ias)) :
    PAs X (.Lambda I.params I.body I.scope lp :: es) (tAs M f X (.lam l is ias)) := by
  refine ⟨fun pos pins s σ H Q Iv h => ?_⟩
  rw [starEach_cons (show starB (.Lambda I.params I.body I.scope lp) = false from rfl)]
  show wpAny _ _ (spliced ((false, eval (.Lambda I.params I.body I.scope lp) X.env) :: backTo pos (starEach es X.env))) _ _ s
  obtain ⟨G, e, m, si, er, h⟩ := h
  simp only [evAs', evAs] at h
  split at h
  · rename_i cs hcs
    obtain ⟨cc, P, tb, hcode, hin, huq⟩ := mk.tb
    obtain ⟨hcl, hca⟩ := capsB_at hcap
    have hfree : ∀ y ∈ I.scope.names, y.2 = .free → ∃ c, X.env.cells.lookup y.1 = some c := fun y hy e => by
      obtain ⟨y1, y2⟩ := y
      cases e
      exact Iv.ok.has _ (ha.vis _ ((ha.free _).mp hy))
    refine Calls.spliced_cons (lam_new (T := M.tabs) Iv tb hcode hin huq si.tab hdf hfree fun g c' pm ctv H1 s1 o eo I1 k1 k2 T1 sz hco => ?_)
    have x1 : Ext G H G H1 := Ext.lam k1 k2
    have si1 : M.SI G H1 m := SI.lam si k1 k2 T1
    have er1 := er.mono x1 si
    obtain ⟨vs0, r0, l0, g0⟩ := getAll_rep er1 hcs
    refine thn (hs.run pos ((g, o) :: pins) s1 σ H1 (fun ps vs => Q (ps ++ [(g, o)]) (.ref g :: vs)) I1 ?_) fun us s2 ⟨ps, vs, H2, I2, r2, q2⟩ => ⟨ps ++ [(g, o)], .ref g :: vs, H2, by rw [List.append_assoc]; exact I2, .cons rfl r2, q2⟩
    refine Tm.bind rlP_mono si1 er1 (Fin.mono rlP_mono h x1) fun ds b G2 H2 m2 x2 s2 er2 r2 h2 => ?_
    refine h2 G2 H2 (b.1 ++ [(g, o)], .ref g :: b.2) Ext.refl s2 ⟨.cons (.lam (I := I) (pm := pm) (ctv := ctv) (c' := c') (vs := vs0) hL ha ?_ (x2.keepO si1 (by rw [ha.qual]; exact hco) (fun q => q) (fun _ q => nomatch q)) (fun i x q => ?_) (RepL.mono x2 si1 r0) (by rw [l0, hcl])) (r2.1.mono Ext.refl s2 fun q hq => List.mem_append_left _ hq), ?_, .inr mk.fn⟩
    · rw [ha.qual, ← eo]
      exact List.mem_append_right _ (List.mem_singleton.mpr rfl)
    · obtain ⟨j, e1, e2⟩ := hca i x q
      obtain ⟨v, e3, e4⟩ := g0 i j e1
      exact ⟨j, v, by rw [C.N]; exact e2, e3, e4⟩
    · intro q hq
      rcases List.mem_append.mp hq with hq | hq
      · exact r2.2.1 q hq
      · rw [List.mem_singleton] at hq
        subst hq
        exact ⟨fun vs z => (by rw [eo] at z; cases z), sz⟩
  · exact h.elim
end
end Ev
/-! Ev14: the call of a def of the text. -/
namespace Ev
open PySem PySem.Spec L2

def cellsOf (env : PySem.Env) (h : Heap) : Ad := env.cells.filterMap fun q => if env.cells.lookup q.1 = some q.2 then (h.get? q.2).map fun o => (q.2, o) else none
/-- what is tracked while the callee runs -/
def forCall (env : PySem.Env) (h : Heap) : Ad → Ad
  | [] => []
  | q :: ps => (q :: ps) ++ cellsOf env h
theorem lookup_mem {b : Addr} {o : Obj} : ∀ {L : Ad}, L.lookup b = some o → (b, o) ∈ L
  | [], h => by simp at h
  | (a, u) :: L, h => by
    rw [List.lookup_cons] at h
    split at h
    · rename_i e
      cases h
      rw [beq_iff_eq.mp e]
      exact List.mem_cons_self
    · exact List.mem_cons_of_mem _ (lookup_mem h)
theorem lookup_of_mem {L : Ad} {b : Addr} {o : Obj} (h : (b, o) ∈ L) : ∃ o', L.lookup b = some o' := by
  cases q : L.lookup b with
  | some o' => exact ⟨o', rfl⟩
  | none => rw [List.lookup_eq_none_iff] at q; have := q _ h; simp at this
section
variable {M : Md} {f : Fm} {X : Cx} {c : CC} {σ : St} {G G' : Gh} {H H' : Hp} {m : Mem} {s : Shared} {pins ps : Ad}
theorem cellsOf_mem {env : PySem.Env} {h : Heap} {b : Addr} {o : Obj} (q : (b, o) ∈ cellsOf env h) : ∃ x, env.cells.lookup x = some b ∧ h.get? b = some o := by
  obtain ⟨⟨x, c⟩, h1, h2⟩ := List.mem_filterMap.mp q
  simp only at h2
  split at h2
  · rename_i hl
    obtain ⟨o', e1, e2⟩ := Option.map_eq_some_iff.mp h2
    injection e2 with e2 e3
    subst e2 e3
    exact ⟨x, hl, e1⟩
  · cases h2
theorem cellsOf_in {env : PySem.Env} {h : Heap} {b : Addr} {o : Obj} {x : Str} (e : env.cells.lookup x = some b) (g : h.get? b = some o) : (b, o) ∈ cellsOf env h :=
  List.mem_filterMap.mpr ⟨(x, b), PySem.mem_of_lookup e, by simp only [e, if_pos, g, Option.map_some]⟩
/-- the facts of what is tracked -/
structure Trk (X : Cx) (H : Hp) (s : Shared) (L : Ad) : Prop where
  get : ∀ b o, L.lookup b = some o → s.heap.get? b = some o
  free : Free L H
  nofr : ∀ b o, L.lookup b = some o → b ∉ frs X.stack
  nob : ∀ b o, L.lookup b = some o → X.base.get? b = none
  nod : ∀ b o, L.lookup b = some o → ∀ vs, o.data ≠ .fields vs
theorem trk_of (Iv : Inv X (ps ++ pins) σ H s) (lp : LamPins X ps) (hfn : ps = [] ∨ ∀ x, X.fn x = true) : Trk X H s (forCall X.env s.heap ps) := by
  have young : ∀ b, X.s_0.heap.objs.size ≤ b → X.base.get? b = none := fun b hb => by
    cases q : X.base.get? b with
    | none => rfl
    | some o => exact absurd (Nat.lt_of_lt_of_le (Heap.lt_size q) (Nat.le_trans Iv.ok.bsz hb)) (Nat.lt_irrefl _)
  have old : ∀ b, b ∈ X.fs → ¬ X.s_0.heap.objs.size ≤ b := fun b hb hs => by
    obtain ⟨_, o, ho, _⟩ := Iv.ok.funs.mem hb
    exact absurd (Nat.lt_of_lt_of_le (Heap.lt_size ho) hs) (Nat.lt_irrefl _)
  have all : ∀ b o, (forCall X.env s.heap ps).lookup b = some o → s.heap.get? b = some o ∧ H b = none ∧ X.s_0.heap.objs.size ≤ b ∧ b ≠ X.env.locals ∧ ∀ vs, o.data ≠ .fields vs := fun b o q => by
    cases hps : ps with
    | nil => rw [hps] at q; exact absurd q (by simp [forCall])
    | cons p0 pr =>
      rw [hps] at q
      have hfn' : ∀ x, X.fn x = true := hfn.resolve_left (by rw [hps]; simp)
      rcases List.mem_append.mp (lookup_mem (show ((p0 :: pr) ++ cellsOf X.env s.heap).lookup b = some o from q)) with hm | hm
      · have hm' : (b, o) ∈ ps := by rw [hps]; exact hm
        obtain ⟨i1, i2, i3, i4, i5⟩ := Iv.pin (b, o) (List.mem_append_right _ (List.mem_append_left _ hm'))
        obtain ⟨l1, l2⟩ := lp _ hm'
        exact ⟨i1, i2, l2, i3, l1⟩
      · obtain ⟨x, e1, e2⟩ := cellsOf_mem hm
        obtain ⟨v, o', e3, e4⟩ := Iv.cell x b e1
        rw [e2] at e3
        cases e3
        exact ⟨e2, Iv.freeC x b e1, Iv.ok.cab x b (hfn' x) e1, Iv.cne x b e1, fun vs z => by rw [e4] at z; cases z⟩
  refine ⟨fun b o q => (all b o q).1, fun b o q => (all b o q).2.1, fun b o q hb => ?_, fun b o q => young b (all b o q).2.2.1, fun b o q => (all b o q).2.2.2.2⟩
  rcases List.mem_cons.mp (Iv.stkSub b hb) with z | z
  · exact (all b o q).2.2.2.1 z
  · exact old b z (all b o q).2.2.1
theorem Trk.env0 {L : Ad} (t : Trk X H s L) (e0 : Env0 X.prog X.w X.K X.mg X.base X.A X.stack s H) : Env0 X.prog X.w X.K X.mg X.base X.A X.stack s (addH L H) where
  frames := e0.frames
  mod := e0.mod
  bs := fun b o e => ⟨(e0.bs b o e).1, by
    cases q : L.lookup b with
    | none => rw [addH_out q]; exact (e0.bs b o e).2
    | some o' => rw [t.nob b o' q] at e; cases e⟩
  bsz := e0.bsz
  funs := e0.funs
  frf := fun b hb => by
    cases q : L.lookup b with
    | none => rw [addH_out q]; exact e0.frf b hb
    | some o' => exact absurd hb (t.nofr b o' q)
  hok := HOk.add e0.hok t.free t.get
  bare := e0.bare
/-- the arguments, as the callee has them -/
theorem RepP.tracked (Iv : Inv X (ps ++ pins) σ H s) (si : M.SI G H m) (t : Trk X H s (forCall X.env s.heap ps)) {v : V} {a : Arg} (r : RepP M X σ ps G H v a) : RepA M G (addH (forCall X.env s.heap ps) H) v a := by
  have inL : ∀ b o, (b, o) ∈ forCall X.env s.heap ps → s.heap.get? b = some o → addH (forCall X.env s.heap ps) H b = some (CellO b o) := fun b o hm g => by
    obtain ⟨o', e⟩ := lookup_of_mem hm
    have := t.get b o' e
    rw [g] at this
    cases this
    exact addH_at e
  cases r with
  | old r => exact r.addH t.free
  | @lam g c' l I pm ctv vs ds h1 h2 h3 h4 h5 h6 h7 =>
    obtain ⟨i1, _⟩ := Iv.pin _ (List.mem_append_right _ (List.mem_append_left _ h3))
    have inC : ∀ b o, (b, o) ∈ cellsOf X.env s.heap → (b, o) ∈ forCall X.env s.heap ps := fun b o hm => by
      cases hps : ps with
      | nil => rw [hps] at h3; exact absurd h3 (by simp)
      | cons p0 pr => exact List.mem_append_right _ hm
    have inP : ∀ q, q ∈ ps → q ∈ forCall X.env s.heap ps := fun q hq => by
      cases hps : ps with
      | nil => rw [hps] at hq; exact absurd hq (by simp)
      | cons p0 pr => rw [hps] at hq; exact List.mem_append_left _ hq
    have hcl : ∀ x c, (cloFrom X.env.cells I.scope.names []).lookup x = some c → x ∈ I.caps ∧ X.env.cells.lookup x = some c := fun x c q => by
      obtain ⟨q1, q2⟩ := clo_back q
      have hx := (h2.free x).mp q1
      obtain ⟨c2, hc2⟩ := Iv.ok.has x (h2.vis x hx)
      rw [hc2] at q2
      cases q2
      exact ⟨hx, hc2⟩
    refine .clo h1 (inL _ _ (inP _ h3) i1) (addH_ext t.free h4) (fun x c q => ?_) (fun i x q => ?_) (fun x y c q1 q2 => Iv.ok.inj x y c (hcl x c q1).2 (hcl y c q2).2) (RepL.keep (keepD_add t.free) h6) h7
    · obtain ⟨hx, hc⟩ := hcl x c q
      obtain ⟨i, hi⟩ := List.getElem?_of_mem hx
      obtain ⟨j, v, e1, e2, e3⟩ := h5 i x hi
      obtain ⟨mm, hn, hl⟩ := Iv.loc
      obtain ⟨u, ru, lk⟩ := hl j x v e1 e2 (.inr (h2.vis x hx))
      rcases lk with ⟨k1, _⟩ | ⟨_, c2, k1, o, k2, k3⟩
      · have k1' : X.env.scope.names.lookup x = some .local := k1
        rcases h2.vis x hx with z | z <;> rw [z] at k1' <;> cases k1'
      · rw [hc] at k1
        cases k1
        exact ⟨i, o, u, v, hi, inL _ _ (inC _ _ (cellsOf_in hc k2)) k2, k3, ru, e3, fun z => by obtain ⟨w1, w2⟩ := si.fz c z; rw [Iv.freeC x c hc] at w2; cases w2⟩
    · have hx : x ∈ I.caps := List.mem_of_getElem? q
      obtain ⟨c2, hc2⟩ := Iv.ok.has x (h2.vis x hx)
      exact ⟨c2, clo_look ((h2.free x).mpr hx) hc2⟩
theorem RepPs.tracked (Iv : Inv X (ps ++ pins) σ H s) (si : M.SI G H m) (t : Trk X H s (forCall X.env s.heap ps)) {v : List V} {a : List Arg} (r : RepPs M X σ ps G H v a) : RepAs M G (addH (forCall X.env s.heap ps) H) v a := by
  induction r with
  | nil => exact .nil
  | cons h _ ih => exact .cons (h.tracked Iv si t) ih
/-- the tables tell none of what was tracked -/
theorem tabs_sub {P : Program} {w : World} {T : List (Addr × Str)} {h : Heap} {L : Ad} (t : LamX.Tabs T H) (hok : HOk P w H h) (d : Held L H) (nod : ∀ b o, L.lookup b = some o → ∀ vs, o.data ≠ .fields vs) : LamX.Tabs T (subH L H) := fun p hp => by
  obtain ⟨tb, h1, h2, h3⟩ := t p hp
  refine ⟨tb, subH_ext d h1 (fun φ z => nomatch z), h2, fun pos cv hcv => ?_⟩
  obtain ⟨c, e1, e2⟩ := h3 pos cv hcv
  refine ⟨c, e1, ?_⟩
  cases q : L.lookup c with
  | none => rw [subH_out q]; exact e2
  | some o =>
    have e3 := d c o q
    have g := cellO_get (hok c _ e3)
    obtain ⟨⟨oc, vs, tk, g2, g3, _⟩, _⟩ := hok c _ e2
    rw [g] at g2
    cases g2
    exact absurd g3 (nod c _ q vs)
/-- behind the callee: what was tracked for it is let go -/
theorem letgo {P : Program} {w : World} {h : Heap} {L : Ad} {m' : Mem} (n : Free L H) (nod : ∀ b o, L.lookup b = some o → ∀ vs, o.data ≠ .fields vs) (si : M.SI G H m) (x : Ext G (addH L H) G' H') (s' : M.SI G' H' m') (hok : HOk P w H' h) :
    Held L H' ∧ Ext G H G' (subH L H') ∧ M.SI G' (subH L H') m' := by
  have nrf : ∀ b o, L.lookup b = some o → b ∉ G.rf := fun b o q z => by
    obtain ⟨u, e, _⟩ := si.ld z
    rw [n b o q] at e
    cases e
  have d : Held L H' := fun b o q => x.keep b _ (addH_at q) (nrf b o q) (fun _ z => nomatch z)
  have none_of : ∀ b, addH L H b = none → H b = none := fun b e => by
    cases q : L.lookup b with
    | none => rw [addH_out q] at e; exact e
    | some o => rw [addH_at q] at e; cases e
  have out : ∀ b u, H b = some u → L.lookup b = none := fun b u e => by
    cases q : L.lookup b with
    | none => rfl
    | some o => rw [n b o q] at e; cases e
  refine ⟨d, ⟨x.fz, x.rf, fun a o e na nt => ?_, fun a tb e => ?_, fun a o e => ?_, fun a e => ?_, fun a e => ?_⟩, SI.subH s' d (fun b o q z => ?_) (tabs_sub s'.tab hok d nod)⟩
  · rw [subH_out (out a o e)]
    exact x.keep a o (addH_ext n e) na nt
  · obtain ⟨more, q⟩ := x.tb a tb (addH_ext n e)
    exact ⟨more, by rw [subH_out (out a _ e)]; exact q⟩
  · obtain ⟨o', q⟩ := x.dom a o (addH_ext n e)
    exact ⟨o', by rw [subH_out (out a _ e)]; exact q⟩
  · exact (x.nf a e).imp id (none_of a)
  · exact (x.nr a e).imp id (none_of a)
  · rcases x.nf b z with k | k
    · obtain ⟨u, e⟩ := si.fz b k
      rw [n b o q] at e
      cases e
    · rw [addH_at q] at k; cases k
theorem ExRep.keep (k : KeepD H H') {x : Ex} {d : Option Addr} (r : ExRep M G H x d) : ExRep M G H' x d := fun fl t h => by
  obtain ⟨a, fs, v, e1, e2, e3, e4⟩ := r fl t h
  exact ⟨a, fs, v, e1, k a _ e2 (fun _ q => nomatch q) (fun _ q => nomatch q), e3, Rep.keep k e4⟩
theorem cx_sub {P : Program} {w : World} {outer : List PySem.Env} {L : Ad} {E : XK} {u : Value} {s' : Shared} (n : Free L H) (g : ∀ b o, L.lookup b = some o → s.heap.get? b = some o) {E' : XK} (hE : ∀ cls d H' B, E' cls d H' → HOk P w H' B → Held L H' ∧ E cls d (subH L H'))
    (cx : L2.CX P w outer (addH L H) s E' u s') : L2.CX P w outer H s E u s' := by
  obtain ⟨a, B, H', cls, d, e1, fl, hok, ub, na, os, ag, q⟩ := cx
  obtain ⟨hd, q'⟩ := hE cls d H' B q hok
  refine ⟨a, B, subH L H', cls, d, e1, fl, HOk.sub hok hd, UB.sub ub hok n g hd, ?_, os, ag, q'⟩
  cases z : L.lookup a with
  | none => rw [subH_out z]; exact na
  | some o => exact subH_at z
theorem run_callA (XC : XCall M X f c) (D : MdOk M) {fid : Nat} (hfid : M.nf fid = true) {vs : List V} {us : List Value} {as : List Arg} {Q : VK} (Iv : Inv X (ps ++ pins) σ H s) (r : Vals vs us) (rp : RepPs M X σ ps G H vs as) (lp : LamPins X ps) (hfn : ps = [] ∨ ∀ x, X.fn x = true)
    (si : M.SI G H m) (hl : vs.length = (M.ps fid).length) (h : Fin M f (rlE M) G H σ (evF M.T f.k fid as m) Q) : wpAny (model X.prog X.w) X.A (call (.ref (M.fa fid)) us) (EP X pins σ Q) X.xe s := by
  have t := trk_of Iv lp hfn
  have F := XC.fns fid hfid
  have e0 := t.env0 Iv.env0
  have ra := rp.tracked Iv si t
  have hsp : spF M f.k fid vs (addH (forCall X.env s.heap ps) H) (fun v H' => ∃ G' m' d, Ext G (addH (forCall X.env s.heap ps) H) G' H' ∧ M.SI G' H' m' ∧ M.Rep G' H' v d ∧ evF M.T f.k fid as m = .ok d m')
      (fun cls dd H' => ∃ G' m' y, Ext G (addH (forCall X.env s.heap ps) H) G' H' ∧ M.SI G' H' m' ∧ ExRep M G' H' y dd ∧ cls = .ref (M.ca y.c) ∧ evF M.T f.k fid as m = .ex y m') := by
    refine ⟨G, as, m, SI.addH si t.free, ra, hl, ?_⟩
    cases hr : evF M.T f.k fid as m with
    | ok d m' => exact fun G' H' v x1 s1 q => ⟨G', m', d, x1, s1, q, rfl⟩
    | ex y m' => exact fun G' H' dd x1 s1 q => ⟨G', m', y, x1, s1, q, rfl, rfl⟩
    | bad => rw [hr] at h; exact h
  have hul : us.length = (M.ps fid).length := by rw [← r.length]; exact hl
  have bd := D.bf fid hfid s us (by rw [← XC.K]; exact Iv.kIn) (by rw [List.append_nil]; exact hul)
  rw [List.append_nil] at bd
  have e0' : Env0 M.P M.w M.K M.mg M.base X.A X.stack s (addH (forCall X.env s.heap ps) H) := by
    have := e0
    rw [XC.P, XC.w, XC.K, XC.mg, XC.base] at this
    exact this
  have hrun := F.run X.A X.stack s (addH (forCall X.env s.heap ps) H) ⟨us, []⟩ us vs _ _ XC.gd XC.room e0' bd r hsp
  rw [← XC.P, ← XC.w] at hrun
  refine wpAny_call (codeAny_mono hrun fun rr s' hq => ?_)
  have Ip : Inv X pins σ H s := Iv.pins_of fun q hq => by
    obtain ⟨i1, i2, i3, i4, i5⟩ := Iv.pin q (List.mem_append_right _ (List.mem_append_right _ hq))
    exact ⟨i1, i2, i3, i4, i5⟩
  cases rr with
  | error er =>
    refine passAt XC.tk σ pins H s er s' Ip (cx_sub t.free t.get (fun cls dd H' B ⟨G', m', y, x1, s1, q, ec, ev⟩ hok => ?_) hq)
    obtain ⟨hd, x2, s2⟩ := letgo t.free t.nod si x1 s1 hok
    rw [ev] at h
    rw [ec]
    exact ⟨hd, h G' (subH _ H') dd x2 s2 (q.keep (keepD_sub hd))⟩
  | ok fl =>
    cases fl with
    | ret u =>
      obtain ⟨v, H', os, bare, un, hok, rv, G', m', d, x1, s1, q, ev⟩ := hq
      obtain ⟨hd, x2, s2⟩ := letgo t.free t.nod si x1 s1 hok
      rw [ev] at h
      exact ⟨v, subH _ H', Ip.call' os (Un.sub un hok t.free t.get hd) (HOk.sub hok hd) bare (fun b z => absurd z (by simp)), rv, h G' (subH _ H') v x2 s2 (Rep.keep (keepD_sub hd) q)⟩
    | next => exact False.elim hq
    | brk => exact False.elim hq
    | cont => exact False.elim hq
end
end Ev
/-! Ev15: calls of defs by places and by names; a lambda is called. -/
namespace Ev
open PySem PySem.Spec L2

section
variable {M : Md} {f : Fm} {X : Cx} {c : CC} {a : Expr} {es : List Expr} {ia : E} {ies : Es} {ias : As} {fid : Nat} {x : Str} {p pos : Pos} {kws : List Keyword}
theorem evF_np {T : Txt} {k fid : Nat} {as : List Arg} {m : Mem} {fn : Fn} (h : evF T k fid as m ≠ .bad) (hf : T.fns fid = some fn) : as.length = fn.np := by
  cases k with
  | zero => exact absurd rfl h
  | succ k =>
    unfold evF at h
    rw [hf] at h
    simp only at h
    split at h
    · rename_i e; exact e
    · exact absurd rfl h
theorem Fin.nb {α β : Type} {Rl : Hp → Gh → Hp → β → α → Prop} {G : Gh} {H : Hp} {σ : St} {r : R α} {Q : β → Hp → Prop} (h : Fin M f Rl G H σ r Q) : r ≠ .bad := fun e => by rw [e] at h; exact h
theorem RepPs.len {σ : St} {ps : Ad} {G : Gh} {H : Hp} {v : List V} {as : List Arg} (r : RepPs M X σ ps G H v as) : v.length = as.length := by
  induction r with
  | nil => rfl
  | cons h _ ih => rw [List.length_cons, List.length_cons, ih]
theorem snd_call (XC : XCall M X f c) (D : MdOk M) (hfid : M.nf fid = true) (hx : M.fn fid = x) (hg : c.glb x = true) (hdb : (x == ("__debug__" : Str)) = false) (ha : PAs X (a :: es) (tAs M f X ias)) (hs : noStars (a :: es) = true) :
    PE X (.Call (.Name x p) (a :: es) [] pos) (tE M f (.call fid ias)) := by
  simp only [noStars, Bool.and_eq_true, Bool.not_eq_true'] at hs
  refine ⟨fun pins s σ H Q Iv h => ?_⟩
  subst hx
  have hmg : X.mg (M.fn fid) = some (.ref (M.fa fid)) := by rw [XC.mg]; exact D.gf fid hfid
  refine wpAny_Call_Name_kw (ld_glob Iv (XC.ctx.glb _ hg) hmg ?_ hdb)
  obtain ⟨G, e, m, si, er, h⟩ := h
  simp only [evE', evE] at h
  have ht : tAs M f X ias σ H fun ps vs H1 => ∃ G1 m1 as, M.SI G1 H1 m1 ∧ RepPs M X σ ps G1 H1 vs as ∧ LamPins X ps ∧ (ps = [] ∨ ∀ x, X.fn x = true) ∧ Fin M f (rlE M) G1 H1 σ (evF M.T f.k fid as m1) Q :=
    Tm.bind rlE_mono si er h fun as b G1 H1 m1 x1 s1 er1 r1 h1 => ⟨G1, m1, as, s1, r1.1, r1.2.1, r1.2.2, h1⟩
  refine PySem.W.callWith_K (h₀ := X.base) Iv.ok.mod.kin (by rw [XC.K]; exact D.kf fid hfid) (thn (ha.run pos pins s σ H _ Iv ht) fun us s1 ⟨ps, vs, H1, I1, r, G1, m1, as, s1', r1, lp, hfn, h1⟩ => ⟨I1.kIn, ?_⟩) (starEach_cons hs.1) (backTo_plain hs.2)
  obtain ⟨fn, e1, e2⟩ := D.np fid hfid
  exact run_callA XC D hfid I1 r r1 lp hfn s1' (by rw [r1.len, evF_np h1.nb e1, e2]) h1
/-- f() -/
theorem snd_call0 (XC : XCall M X f c) (D : MdOk M) (hfid : M.nf fid = true) (hx : M.fn fid = x) (hg : c.glb x = true) (hdb : (x == ("__debug__" : Str)) = false) : PE X (.Call (.Name x p) [] [] pos) (tE M f (.call fid .nil)) := by
  refine ⟨fun pins s σ H Q Iv h => ?_⟩
  subst hx
  have hmg : X.mg (M.fn fid) = some (.ref (M.fa fid)) := by rw [XC.mg]; exact D.gf fid hfid
  refine wpAny_Call_Name_kw (ld_glob Iv (XC.ctx.glb _ hg) hmg ?_ hdb)
  obtain ⟨G, e, m, si, er, h⟩ := h
  simp only [evE', evE, evAs, R.bind] at h
  obtain ⟨fn, e1, e2⟩ := D.np fid hfid
  exact PySem.W.callWith_K0 Iv.kIn (by rw [XC.K]; exact D.kf fid hfid) (run_callA (ps := []) (us := []) (vs := []) XC D hfid Iv .nil .nil (fun q hq => absurd hq (by simp)) (.inl rfl) si (by rw [← e2, ← evF_np h.nb e1]; rfl) h)
/-! ### arguments by name -/
def kwB : List Keyword → List Str → Bool
  | [], [] => true
  | ⟨some y, _, _⟩ :: r, z :: s => y == z && kwB r s
  | _, _ => false
def kwE : List Keyword → List Expr
  | [] => []
  | ⟨_, e, _⟩ :: r => e :: kwE r
theorem kw_facts {env : PySem.Env} {pos : Pos} : ∀ {kws : List Keyword} {ks : List Str}, kwB kws ks = true → (backToKw pos (keywordEach kws env)).all (·.1.isSome) = true ∧ (backToKw pos (keywordEach kws env)).filterMap (·.1) = ks ∧ (backToKw pos (keywordEach kws env)).any (·.1.isNone) = false
  | [], [], _ => ⟨rfl, rfl, rfl⟩
  | [], _ :: _, h => by simp [kwB] at h
  | ⟨none, _, _⟩ :: _, _, h => by simp [kwB] at h
  | ⟨some _, _, _⟩ :: _, [], h => by simp [kwB] at h
  | ⟨some y, e, q⟩ :: r, z :: s, h => by
    simp only [kwB, Bool.and_eq_true, beq_iff_eq] at h
    obtain ⟨i1, i2, i3⟩ := kw_facts (env := env) (pos := pos) h.2
    unfold backToKw at i1 i2 i3 ⊢
    simp only [keywordEach, List.map_cons, List.all_cons, List.any_cons, List.filterMap_cons]
    exact ⟨by rw [i1]; rfl, by rw [i2, h.1], by rw [i3]; rfl⟩
theorem snd_knil : PK X [] (tEs M f .nil) := by
  refine ⟨fun pos pins s σ H Q Iv h => pk_nil.run pos pins s σ H Q Iv ?_⟩
  obtain ⟨G, e, m, si, er, h⟩ := h
  simp only [evEs', evEs] at h
  exact h G H [] Ext.refl si .nil
theorem snd_kcons {nm : Option Str} {q : Pos} (ha : PE X a (tE M f ia)) (hs : PK X kws (tEs M f ies)) : PK X (⟨nm, a, q⟩ :: kws) (tEs M f (.cons ia ies)) := by
  refine ⟨fun pos pins s σ H Q Iv h => (pk_cons ha hs).run pos pins s σ H Q Iv ?_⟩
  obtain ⟨G, e, m, si, er, h⟩ := h
  simp only [evEs', evEs] at h
  refine Tm.bind rlEs_mono si er h fun dx v G1 H1 m1 x1 s1 er1 r1 h1 => Tm.bind rlEs_mono s1 er1 h1 fun ds vs G2 H2 m2 x2 s2 er2 r2 h2 => ?_
  exact h2 G2 H2 _ Ext.refl s2 (.cons (Rep.mono x2 s1 r1) r2)
/-- how names bind -/
def KwOk (M : Md) (fid : Nat) (ks : List Str) (perm : List Nat) : Prop := ∀ ws : List Value, ws.length = ks.length → ∃ us, permD ws perm = some us ∧ us.length = (M.ps fid).length ∧ bindArgs (M.fd fid) ⟨[], ks.zip ws⟩ = pure ((M.ps fid).zip us)
theorem permD_vals {vs : List V} {ws : List Value} (r : Vals vs ws) : ∀ {pm : List Nat} {us : List Value}, permD ws pm = some us → ∃ vs', permD vs pm = some vs' ∧ Vals vs' us
  | [], us, h => by simp only [permD, Option.some.injEq] at h; subst h; exact ⟨[], rfl, .nil⟩
  | i :: pm, us, h => by
    simp only [permD] at h
    split at h
    · rename_i u us' h1 h2
      cases h
      obtain ⟨vs', q1, q2⟩ := permD_vals r h2
      cases hv : vs[i]? with
      | none => rw [Vals.none_of r hv] at h1; cases h1
      | some v =>
        obtain ⟨u', e1, e2⟩ := Vals.get r hv
        rw [e1] at h1
        cases h1
        exact ⟨v :: vs', by simp only [permD, hv, q1], .cons e2 q2⟩
    · cases h
theorem permD_rep {G : Gh} {H : Hp} {vs : List V} {ds : List D} (r : M.RepL G H vs ds) : ∀ {pm : List Nat} {ds' : List D}, permD ds pm = some ds' → ∃ vs', permD vs pm = some vs' ∧ M.RepL G H vs' ds'
  | [], us, h => by simp only [permD, Option.some.injEq] at h; subst h; exact ⟨[], rfl, .nil⟩
  | i :: pm, us, h => by
    simp only [permD] at h
    split at h
    · rename_i u us' h1 h2
      cases h
      obtain ⟨vs', q1, q2⟩ := permD_rep r h2
      obtain ⟨v, e1, e2⟩ := RepL.get r h1
      exact ⟨v :: vs', by simp only [permD, e1, q1], .cons e2 q2⟩
    · cases h
theorem permD_len {α : Type} {vs : List α} : ∀ {pm : List Nat} {us : List α}, permD vs pm = some us → us.length = pm.length
  | [], us, h => by simp only [permD, Option.some.injEq] at h; subst h; rfl
  | i :: pm, us, h => by
    simp only [permD] at h
    split at h
    · rename_i h2; cases h; rw [List.length_cons, List.length_cons, permD_len h2]
    · cases h
/-- f(k = .., ..) -/
theorem snd_callk {ks : List Str} {perm : List Nat} (XC : XCall M X f c) (D : MdOk M) (hfid : M.nf fid = true) (hx : M.fn fid = x) (hg : c.glb x = true) (hdb : (x == ("__debug__" : Str)) = false) (hk : PK X kws (tEs M f ies)) (hkw : kwB kws ks = true) (hok : KwOk M fid ks perm) (hlen : ies.len = ks.length) :
    PE X (.Call (.Name x p) [] kws pos) (tE M f (.callk fid ies perm)) := by
  refine ⟨fun pins s σ H Q Iv h => ?_⟩
  subst hx
  have hmg : X.mg (M.fn fid) = some (.ref (M.fa fid)) := by rw [XC.mg]; exact D.gf fid hfid
  obtain ⟨k1, k2, k3⟩ := kw_facts (env := X.env) (pos := pos) hkw
  refine wpAny_Call_Name_kw (ld_glob Iv (XC.ctx.glb _ hg) hmg ?_ hdb)
  obtain ⟨G, e, m, si, er, h⟩ := h
  simp only [evE', evE] at h
  have ht : tEs M f ies σ H fun vs H1 => ∃ G1 m1 ds, evEs' M f ies e m = .ok ds m1 ∧ M.SI G1 H1 m1 ∧ M.RepL G1 H1 vs ds ∧ Fin M f (rlE M) G1 H1 σ (match permD ds perm with | some ds => evF M.T f.k fid (ds.map .dat) m1 | none => .bad) Q :=
    Tm.bindR rlE_mono si er h fun ds vs G1 H1 m1 hr x1 s1 er1 r1 h1 => ⟨G1, m1, ds, hr, s1, r1, h1⟩
  refine PySem.W.callWith_KW0 (h₀ := X.base) Iv.ok.mod.kin (by rw [XC.K]; exact D.kf fid hfid) k1 (thn (hk.run pos pins s σ H _ Iv ht) fun ws s1 ⟨vs, H1, I1, rv, G1, m1, ds, hr, s1', r1, h1⟩ => ⟨I1.kIn, ?_⟩) (by rw [k3]; rfl)
  rw [k2]
  have hwl : ws.length = ks.length := by rw [← rv.length, RepL.length r1, evEs_len hr, hlen]
  obtain ⟨us, u1, u2, u3⟩ := hok ws hwl
  split at h1
  · rename_i ds' hd
    obtain ⟨vs', p1, p2⟩ := permD_vals rv u1
    obtain ⟨vs2, p3, p4⟩ := permD_rep r1 hd
    rw [p1] at p3
    cases p3
    have hl : vs'.length = (M.ps fid).length := by rw [p2.length]; exact u2
    have hsp := run_spF (k := f.k) (fid := fid) (f := f) (σ := σ) (Q := Q) s1' (RepAs.ofL p4) hl h1
    have F := XC.fns fid hfid
    have e0 := I1.env0
    have e0' : Env0 M.P M.w M.K M.mg M.base X.A X.stack s1 H1 := by
      rw [XC.P, XC.w, XC.K, XC.mg, XC.base] at e0
      exact e0
    have hrun := F.run X.A X.stack s1 H1 ⟨[], ks.zip ws⟩ us vs' Q (WE f.W σ) XC.gd XC.room e0' (BindsTo.of_eq u3) p2 hsp
    rw [← XC.P, ← XC.w] at hrun
    refine wpAny_call (codeAny_mono hrun fun rr s' hq => ?_)
    cases rr with
    | error er => exact passAt XC.tk σ pins H1 s1 er s' I1 hq
    | ok fl =>
      cases fl with
      | ret u => exact I1.after hq
      | next => exact False.elim hq
      | brk => exact False.elim hq
      | cont => exact False.elim hq
  · exact h1.elim
end
end Ev
/-! Ev16: a lambda is called. -/
namespace Ev
open PySem PySem.Spec L2

/-- the context of a lambda's body -/
abbrev envL (I : LamI) (L g c' : Addr) (cl : List (Str × Addr)) : PySem.Env := PySem.W.envX I.qual I.scope L g (.ref c') cl
def lamC (M : Md) (A : Around) (outer : List PySem.Env) (s : Shared) (H : Hp) (E : XK) (I : LamI) (N : List Str) (g c' : Addr) (cl : List (Str × Addr)) : Cx where
  prog := M.P
  w := M.w
  K := M.K
  mg := M.mg
  base := M.base
  A := A.deeper (envL I s.heap.objs.size g c' cl)
  N := N
  s_0 := s
  H_0 := H
  env := envL I s.heap.objs.size g c' cl
  outer := outer
  stack := envL I s.heap.objs.size g c' cl :: outer
  ex := []
  fn := fun _ => false
  calm := true
  pn := []
  xe := fun e s' => wpAny (model M.P M.w) (A.deeper (envL I s.heap.objs.size g c' cl)) (leaving (envL I s.heap.objs.size g c' cl) e) (fun _ s'' => L2.CX M.P M.w outer H s E e s'') (fun e' s'' => L2.CX M.P M.w outer H s E e' s'') s'
theorem lamC_takes {M : Md} {A : Around} {outer : List PySem.Env} {s : Shared} {H : Hp} {E : XK} {I : LamI} {N : List Str} {g c' : Addr} {cl : List (Str × Addr)} : Takes (lamC M A outer s H E I N g c' cl) (fun cls d _ H => E cls d H) := takes_of rfl rfl rfl rfl
/-- the facts of a lambda of the text -/
structure LamFact (I : LamI) : Prop where
  kind : I.scope.kind = .function
  co : I.scope.isCoroutine = false
  gen : I.scope.isGenerator = false
  nocell : ∀ y ∈ I.scope.names, y.2 ≠ .cell
  free : ∀ x, (x, NameKind.free) ∈ I.scope.names ↔ x ∈ I.caps
  par : ∀ x ∈ I.ps, I.scope.names.lookup x = some .local
  capf : ∀ x ∈ I.caps, I.scope.names.lookup x = some .free
  bind : ∀ (q : Str) (cl : List (Str × Addr)) (pm cv ctv : Value) (us : List Value), us.length = I.ps.length → bindArgs (PySem.W.kla_fn "<lambda>" q I.params I.body I.scope cl pm cv ctv) ⟨us, []⟩ = pure (I.ps.zip us)
  nd : (I.caps ++ I.ps).Nodup
/-- the lambdas do as the evaluator says, at the depth k -/
def LamsOk (M : Md) (k : Nat) : Prop := ∀ l I, M.Λ l = some I → LamFact I ∧ ∀ k', k = k' + 1 → ∃ fn ib N, M.T.fns l = some fn ∧ fn.body = .cons (.ret ib) .nil ∧ fn.np = I.caps.length + I.ps.length ∧ N.take (I.caps.length + I.ps.length) = I.caps ++ I.ps ∧ fn.ns = N.length ∧ N.Nodup ∧
  ∀ (A : Around) (outer : List PySem.Env) (s : Shared) (H : Hp) (E : XK) (g c' : Addr) (cl : List (Str × Addr)), (A.deeper (envL I s.heap.objs.size g c' cl)).guards = some [] → Room (2 * k' + 2) (A.deeper (envL I s.heap.objs.size g c' cl)) →
    PE (lamC M A outer s H E I N g c' cl) I.body (tE M ⟨k', none, H, fun cls d _ H' => E cls d H'⟩ ib)
section
variable {M : Md} {f : Fm} {X : Cx} {c : CC} {σ : St} {G G' : Gh} {H H' : Hp} {m : Mem} {s : Shared} {pins : Ad}
/-- the slots at the entry -/
theorem ER.start {N : List Str} {vs : List V} {as : List Arg} {f : Fm} (r : RepAs M G H vs as) (hl : as.length ≤ N.length) : ER M f G H (L2.start N vs) (argsE N.length as) := by
  have len := r.len
  have at_ : ∀ (i : Nat) (sl : Slot), (argsE N.length as)[i]? = some sl → sl ≠ .no → ∃ v a, vs[i]? = some v ∧ as[i]? = some a ∧ sl = a.slot ∧ RepA M G H v a := fun i sl q n => by
    unfold argsE at q
    by_cases hi : i < as.length
    · rw [List.getElem?_append_left (by rw [List.length_map]; exact hi), List.getElem?_map] at q
      obtain ⟨a, e1, e2⟩ := Option.map_eq_some_iff.mp q
      clear q hl
      suffices h : ∃ v, vs[i]? = some v ∧ RepA M G H v a by
        obtain ⟨v, h1, h2⟩ := h
        exact ⟨v, a, h1, e1, e2.symm, h2⟩
      clear hi n e2 len
      induction r generalizing i with
      | nil => simp at e1
      | cons h _ ih =>
        cases i with
        | zero => simp at e1; subst e1; exact ⟨_, rfl, h⟩
        | succ i => simpa using ih i (by simpa using e1)
    · rw [List.getElem?_append_right (by rw [List.length_map]; omega)] at q
      have := List.mem_of_getElem? q
      rw [List.mem_replicate] at this
      exact absurd this.2 n
  have st : ∀ (i : Nat) (v : V), vs[i]? = some v → (L2.start N vs)[i]? = some (some v) := fun i v q => by
    unfold L2.start
    rw [List.getElem?_append_left (by rw [List.length_map]; exact (List.getElem?_eq_some_iff.mp q).1), List.getElem?_map, q]
    rfl
  refine ⟨?_, fun i d q => ?_, fun i cc q => ?_, fun i j cc cc' a q => ?_, fun i x q => ?_, fun i l cs q => ?_⟩
  · unfold argsE L2.start
    rw [List.length_append, List.length_append, List.length_map, List.length_map, List.length_replicate, List.length_replicate, len]
  · obtain ⟨v, a, e1, e2, e3, e4⟩ := at_ i _ q (by simp)
    cases a with
    | dat d' => simp only [Arg.slot, Slot.val.injEq] at e3; subst e3; cases e4 with | dat e4 => exact ⟨v, st i v e1, e4⟩
    | clo => simp [Arg.slot] at e3
  · obtain ⟨v, a, e1, e2, e3, e4⟩ := at_ i _ q (by simp)
    cases a <;> simp [Arg.slot] at e3
  · obtain ⟨v, a, e1, e2, e3, e4⟩ := at_ i _ q (by simp)
    cases a <;> simp [Arg.slot] at e3
  · obtain ⟨v, a, e1, e2, e3, e4⟩ := at_ i _ q (by simp)
    cases a <;> simp [Arg.slot] at e3
  · obtain ⟨v, a, e1, e2, e3, e4⟩ := at_ i _ q (by simp)
    cases a with
    | dat d' => simp [Arg.slot] at e3
    | clo l' cs' => simp only [Arg.slot, Slot.clo.injEq] at e3; obtain ⟨rfl, rfl⟩ := e3; exact ⟨v, st i v e1, e4⟩
/-- behind a lambda's run: its cells are tracked again -/
theorem takeback {L : Ad} {m' : Mem} (d : Held L H) (fr : Free L H') (x : Ext G (subH L H) G' H') (s' : M.SI G' H' m') : Ext G H G' (addH L H') ∧ M.SI G' (addH L H') m' := by
  have n1 : ∀ a, L.lookup a ≠ none → G'.fz a → False := fun a q z => by
    obtain ⟨u, e⟩ := s'.fz a z
    obtain ⟨o, q⟩ := Option.ne_none_iff_exists'.mp q
    rw [fr a o q] at e
    cases e
  have n2 : ∀ a, L.lookup a ≠ none → a ∈ G'.rf → False := fun a q z => by
    obtain ⟨u, e, _⟩ := s'.ld z
    obtain ⟨o, q⟩ := Option.ne_none_iff_exists'.mp q
    rw [fr a o q] at e
    cases e
  refine ⟨⟨x.fz, x.rf, fun a o e na nt => ?_, fun a tb e => ?_, fun a o e => ?_, fun a e => ?_, fun a e => ?_⟩, SI.addH s' fr⟩
  · cases q : L.lookup a with
    | none => rw [addH_out q]; exact x.keep a o (by rw [subH_out q]; exact e) na nt
    | some u => rw [d a u q] at e; cases e; exact addH_at q
  · cases q : L.lookup a with
    | none => rw [addH_out q]; exact x.tb a tb (by rw [subH_out q]; exact e)
    | some u => rw [d a u q] at e; cases e
  · cases q : L.lookup a with
    | none => rw [addH_out q]; exact x.dom a o (by rw [subH_out q]; exact e)
    | some u => exact ⟨_, addH_at q⟩
  · cases q : L.lookup a with
    | none => have := x.nf a e; rw [subH_out q] at this; exact this
    | some u => exact (n1 a (by rw [q]; simp) e).elim
  · cases q : L.lookup a with
    | none => have := x.nr a e; rw [subH_out q] at this; exact this
    | some u => exact (n2 a (by rw [q]; simp) e).elim
theorem cx_add {P : Program} {w : World} {outer : List PySem.Env} {L : Ad} {E : XK} {u : Value} {s' : Shared} (d : Held L H) (g : ∀ b o, L.lookup b = some o → s.heap.get? b = some o) (nfr : ∀ b o, L.lookup b = some o → b ∉ frs outer)
    {E' : XK} (hE : ∀ cls dd H', Free L H' → E' cls dd H' → E cls dd (addH L H')) (cx : L2.CX P w outer (subH L H) s E' u s') : L2.CX P w outer H s E u s' := by
  obtain ⟨a, B, H', cls, dd, e1, fl, hok, ub, na, os, ag, q⟩ := cx
  obtain ⟨fr, ub'⟩ := UB.add ub d g
  refine ⟨a, B, addH L H', cls, dd, e1, fl, HOk.add hok fr (fun b o z => ub.keep b o (g b o z) (subH_at z) (nfr b o z)), ub', ?_, os, ag, hE cls dd H' fr q⟩
  cases z : L.lookup a with
  | none => rw [addH_out z]; exact na
  | some o =>
    have : B.get? a = some o := ub.keep a o (g a o z) (subH_at z) (nfr a o z)
    rw [fl.2.1] at this
    cases this
theorem RepA.inv_clo {v : V} {l : Nat} {ds : List D} (r : RepA M G H v (.clo l ds)) : ∃ (g c' : Addr) (I : LamI) (cl : List (Str × Addr)) (pm ctv : Value) (vs : List V), v = .ref g ∧ M.Λ l = some I ∧ H g = some (LamO g I cl pm c' ctv) ∧ H c' = some (LamX.CodeO c' I.qual) ∧
    (∀ (x : Str) (c : Addr), cl.lookup x = some c → ∃ (i : Nat) (o : Obj) (u : Value) (v : V), I.caps[i]? = some x ∧ H c = some (CellO c o) ∧ o.data = .cell (some u) ∧ RelV v u ∧ vs[i]? = some v ∧ ¬ G.fz c) ∧
    (∀ (i : Nat) (x : Str), I.caps[i]? = some x → ∃ c, cl.lookup x = some c) ∧ (∀ x y c, cl.lookup x = some c → cl.lookup y = some c → x = y) ∧ M.RepL G H vs ds ∧ vs.length = I.caps.length := by
  cases r with
  | clo h1 h2 h3 h4 h5 h6 h7 h8 => exact ⟨_, _, _, _, _, _, _, rfl, h1, h2, h3, h4, h5, h6, h7, h8⟩
theorem nodup_at {α : Type} {N : List α} (hn : N.Nodup) {i j : Nat} {x : α} (a : N[i]? = some x) (b : N[j]? = some x) : i = j :=
  (List.getElem?_inj (List.getElem?_eq_some_iff.mp a).1 hn).mp (a.trans b.symm)
theorem rev_look {ps : List Str} {us : List Value} {i : Nat} {x : Str} {u : Value} (nd : ps.Nodup) (hl : us.length = ps.length) (h1 : ps[i]? = some x) (h2 : us[i]? = some u) : (ps.zip us).reverse.lookup x = some u := by
  have hm : (x, u) ∈ (ps.zip us).reverse := by
    rw [List.mem_reverse]
    exact List.mem_of_getElem? (i := i) (by rw [List.getElem?_zip_eq_some]; exact ⟨h1, h2⟩)
  cases q : (ps.zip us).reverse.lookup x with
  | none => rw [List.lookup_eq_none_iff] at q; have := q _ hm; simp at this
  | some u' =>
    have hm' := PySem.mem_of_lookup q
    rw [List.mem_reverse] at hm'
    obtain ⟨j, hj⟩ := List.getElem?_of_mem hm'
    rw [List.getElem?_zip_eq_some] at hj
    have := nodup_at nd h1 hj.1
    subst this
    rw [h2] at hj
    rw [hj.2]
theorem run_app (XC : XCall M X f c) (lam : LamsOk M f.k) {v : V} {l : Nat} {cs ds : List D} {vs : List V} {us : List Value} {Q : VK} (Iv : Inv X pins σ H s) (ra : RepA M G H v (.clo l cs)) (r : Vals vs us) (rl : M.RepL G H vs ds) (si : M.SI G H m)
    (h : Fin M f (rlE M) G H σ (evF M.T f.k l (cs.map .dat ++ ds.map .dat) m) Q) : ∃ g, v = .ref g ∧ (∀ {s2 : Shared}, True) ∧ PySem.W.FnAt g s.heap ∧ wpAny (model X.prog X.w) X.A (call (.ref g) us) (EP X pins σ Q) X.xe s := by
  obtain ⟨g, c', I, cl, pm, ctv, ws, rfl, hI, hg, hc, hcl, hcaps, hinj, rw_, lw⟩ := ra.inv_clo
  obtain ⟨LF, hb⟩ := lam l I hI
  have objg : s.heap.get? g = some (PySem.W.kla_obj "<lambda>" I.qual I.params I.body I.scope cl pm c' ctv) := cellO_get (Iv.hok g _ hg)
  refine ⟨g, rfl, fun {_} => trivial, ⟨_, _, _, _, objg⟩, ?_⟩
  cases hk : f.k with
  | zero => rw [hk] at h; exact h.elim
  | succ k' =>
    obtain ⟨fn, ib, N, t1, t2, t3, t4, t5, t6, run⟩ := hb k' hk
    rw [hk] at h
    have hcall := h
    unfold evF at hcall
    rw [t1] at hcall
    simp only at hcall
    have hlen : (cs.map Arg.dat ++ ds.map Arg.dat).length = fn.np := evF_np h.nb t1
    rw [if_pos hlen] at hcall
    simp only [t2, evSs, evS] at hcall
    have lcs : ws.length = cs.length := RepL.length rw_
    have lds : vs.length = ds.length := RepL.length rl
    have hpl : us.length = I.ps.length := by
      rw [← r.length, lds]
      rw [List.length_append, List.length_map, List.length_map, t3, ← lw, lcs] at hlen
      omega
    obtain ⟨⟨oc, fl, tk, hoc, hdc, hvc⟩, _, _⟩ := Iv.hok c' _ hc
    -- what is let go while it runs
    have hLm : ∀ b o, (cellsOf (envL I 0 g c' cl) s.heap).lookup b = some o → ∃ x, cl.lookup x = some b ∧ s.heap.get? b = some o := fun b o q => cellsOf_mem (lookup_mem q)
    have get : ∀ b o, (cellsOf (envL I 0 g c' cl) s.heap).lookup b = some o → s.heap.get? b = some o := fun b o q => (hLm b o q).elim fun _ z => z.2
    have held : Held (cellsOf (envL I 0 g c' cl) s.heap) H := fun b o q => by
      obtain ⟨x, e1, e2⟩ := hLm b o q
      obtain ⟨i, o', u, v, a1, a2, a3, a4, a5, a6⟩ := hcl x b e1
      have := cellO_get (Iv.hok b _ a2)
      rw [e2] at this
      cases this
      exact a2
    have nfz : ∀ b o, (cellsOf (envL I 0 g c' cl) s.heap).lookup b = some o → ¬ G.fz b := fun b o q => by
      obtain ⟨x, e1, e2⟩ := hLm b o q
      obtain ⟨i, o', u, v, a1, a2, a3, a4, a5, a6⟩ := hcl x b e1
      exact a6
    have nod : ∀ b o, (cellsOf (envL I 0 g c' cl) s.heap).lookup b = some o → ∀ vs, o.data ≠ .fields vs := fun b o q vs z => by
      obtain ⟨x, e1, e2⟩ := hLm b o q
      obtain ⟨i, o', u, v, a1, a2, a3, a4, a5, a6⟩ := hcl x b e1
      have := cellO_get (Iv.hok b _ a2)
      rw [e2] at this
      cases this
      rw [a3] at z
      cases z
    have nfr : ∀ b o, (cellsOf (envL I 0 g c' cl) s.heap).lookup b = some o → b ∉ frs X.stack := fun b o q z => by
      have := Iv.stkFree b z
      rw [held b o q] at this
      cases this
    have inL : ∀ x c, cl.lookup x = some c → ∃ o, (cellsOf (envL I 0 g c' cl) s.heap).lookup c = some o := fun x c q => by
      obtain ⟨i, o', u, v, a1, a2, a3, a4, a5, a6⟩ := hcl x c q
      exact lookup_of_mem (cellsOf_in (env := envL I 0 g c' cl) q (cellO_get (Iv.hok c _ a2)))
    generalize hL : cellsOf (envL I 0 g c' cl) s.heap = L at hLm get held nfz nod nfr inL
    have e0 := Iv.env0
    have e0' : Env0 M.P M.w M.K M.mg M.base X.A X.stack s (subH L H) := by
      rw [XC.P, XC.w, XC.K, XC.mg, XC.base] at e0
      have sub0 : ∀ b, H b = none → subH L H b = none := fun b e => by
        cases q : L.lookup b with
        | none => rw [subH_out q]; exact e
        | some o => exact subH_at q
      exact ⟨e0.frames, e0.mod, fun b o e => ⟨(e0.bs b o e).1, sub0 b (e0.bs b o e).2⟩, e0.bsz, e0.funs, fun b hb => sub0 b (e0.frf b hb), HOk.sub e0.hok held, e0.bare⟩
    have si' : M.SI G (subH L H) m := SI.subH si held nfz (tabs_sub si.tab Iv.hok held nod)
    have rws : M.RepL G (subH L H) ws cs := RepL.keep (keepD_sub held) rw_
    have rvs : M.RepL G (subH L H) vs ds := RepL.keep (keepD_sub held) rl
    have ras : RepAs M G (subH L H) (ws ++ vs) (cs.map .dat ++ ds.map .dat) := RepAs.app (RepAs.ofL rws) (RepAs.ofL rvs)
    have hN : (cs.map Arg.dat ++ ds.map Arg.dat).length ≤ N.length := by
      rw [hlen, t3]
      have := congrArg List.length t4
      rw [List.length_take, List.length_append] at this
      omega
    have rc : codeAny (model M.P M.w) X.A (.call (.ref g) ⟨us, []⟩) (CR (L2.CX M.P M.w) X.stack M.P M.w (subH L H) s (fun v H' => ∃ G' m' d, Ext G (subH L H) G' H' ∧ M.SI G' H' m' ∧ M.Rep G' H' v d ∧ evF M.T (k' + 1) l (cs.map .dat ++ ds.map .dat) m = .ok d m')
        (fun cls dd H' => ∃ G' m' y, Ext G (subH L H) G' H' ∧ M.SI G' H' m' ∧ ExRep M G' H' y dd ∧ cls = .ref (M.ca y.c) ∧ evF M.T (k' + 1) l (cs.map .dat ++ ds.map .dat) m = .ex y m')) s := by
      refine PySem.W.kla_callFunE XC.room.depth objg rfl LF.co LF.gen rfl ⟨c', oc, fl, tk, rfl, hoc, hdc, hvc⟩ ?_
      rw [show bindArgs (PySem.W.kla_fn "<lambda>" I.qual I.params I.body I.scope cl pm (.ref c') ctv) ⟨us, []⟩ = pure (I.ps.zip us) from LF.bind _ _ _ _ _ us hpl]
      refine wpAny_pure (wpAny_newFunctionEnv LF.nocell (fun y hy => LF.par _ (List.of_mem_zip hy).1) (fun h₁ hns hsb => ⟨Iv.nolimit.fresh _ hsb, ?_⟩) LF.kind)
      show codeAny _ _ (.expr I.body (envL I s.heap.objs.size g c' cl)) _ _
      have kp : ∀ b o, s.heap.get? b = some o → h₁.get? b = some o := fun b o e => hsb.extBut b o (Nat.ne_of_lt (Heap.lt_size e)) (Heap.get?_push_of_some _ e)
      have cells : ∀ x c, cl.lookup x = some c → ∃ o u, s.heap.get? c = some o ∧ o.data = .cell (some u) ∧ ∃ i v, I.caps[i]? = some x ∧ ws[i]? = some v ∧ RelV v u := fun x c q => by
        obtain ⟨i, o', u, v, a1, a2, a3, a4, a5, a6⟩ := hcl x c q
        exact ⟨o', u, cellO_get (Iv.hok c _ a2), a3, i, v, a1, a5, a4⟩
      have J : Inv (lamC M X.A X.stack s (subH L H) (fun cls dd H' => ∃ G' m' y, Ext G (subH L H) G' H' ∧ M.SI G' H' m' ∧ ExRep M G' H' y dd ∧ cls = .ref (M.ca y.c) ∧ evF M.T (k' + 1) l (cs.map .dat ++ ds.map .dat) m = .ex y m') I N g c' cl) [] (L2.start N (ws ++ vs)) (subH L H)
          { s with heap := h₁, toks := s.toks + (I.ps.zip us).length } := by
        refine ⟨⟨e0'.mod, LF.kind, rfl, rfl, Nat.le_refl _, hinj, fun x hx => ?_, fun x c z _ => Bool.noConfusion (show false = true from z), fun _ => XC.room.hd, Around.frames_deeper e0'.frames, .inr ⟨rfl, rfl⟩, fun b z => absurd (show b ∈ ([] : List Addr) from z) (by simp), e0'.bs, e0'.bsz, fun b _ _ z => absurd (show b ∈ ([] : List Addr) from z) (by simp),
            fun b z => absurd (show b ∈ ([] : List Addr) from z) (by simp), e0'.funs, e0'.frf⟩, rfl, e0'.bare, Un.kept kp, ⟨_, hns, fun i x v e1 e2 e3 => ?_⟩, fun x c e => ?_, e0'.hok.fresh (Nat.le_refl _), fun x c e => ?_,
            fun q hq => absurd (show q ∈ ([] : Ad) ++ [] from hq) (by simp), e0'.hok.kept kp, ?_⟩
        · have hx : I.scope.names.lookup x = some .cell ∨ I.scope.names.lookup x = some .free := hx
          rcases hx with hx | hx
          · exact absurd rfl (LF.nocell _ (PySem.mem_of_lookup hx))
          · obtain ⟨i, hi⟩ := List.getElem?_of_mem ((LF.free x).mp (PySem.mem_of_lookup hx))
            exact hcaps i x hi
        · -- the values of the names
          have hi : i < (ws ++ vs).length ∧ (ws ++ vs)[i]? = some v := by
            have e2' : (L2.start N (ws ++ vs))[i]? = some (some v) := e2
            unfold L2.start at e2'
            by_cases hi : i < (ws ++ vs).length
            · rw [List.getElem?_append_left (by rw [List.length_map]; exact hi), List.getElem?_map] at e2'
              obtain ⟨v', q1, q2⟩ := Option.map_eq_some_iff.mp e2'
              cases q2
              exact ⟨hi, q1⟩
            · rw [List.getElem?_append_right (by rw [List.length_map]; omega)] at e2'
              have := List.mem_of_getElem? e2'
              rw [List.mem_replicate] at this
              exact absurd this.2 (by simp)
          have hx : (I.caps ++ I.ps)[i]? = some x := by
            rw [← t4, List.getElem?_take, if_pos]
            · exact e1
            · have := hi.1
              rw [List.length_append, lw, r.length, hpl] at this
              exact this
          by_cases hlt : i < I.caps.length
          · rw [List.getElem?_append_left hlt] at hx
            obtain ⟨cx, hcx⟩ := hcaps i x hx
            obtain ⟨o, u, g1, g2, i2, v2, q1, q2, q3⟩ := cells x cx hcx
            have hnd : I.caps.Nodup := (List.nodup_append.mp LF.nd).1
            have : i2 = i := nodup_at hnd q1 hx
            subst this
            rw [List.getElem?_append_left (by rw [lw]; exact hlt), q2] at hi
            cases hi.2
            exact ⟨u, q3, .inr ⟨.inr (LF.capf x (List.mem_of_getElem? hx)), cx, hcx, o, kp _ _ g1, g2⟩⟩
          · rw [List.getElem?_append_right (by omega)] at hx
            have hi2 := hi.2
            rw [List.getElem?_append_right (by rw [lw]; omega), lw] at hi2
            obtain ⟨u, q1, q2⟩ := Vals.get r hi2
            exact ⟨u, q2, .inl ⟨LF.par x (List.mem_of_getElem? hx), rev_look (List.nodup_append.mp LF.nd).2.1 hpl hx q1⟩⟩
        · obtain ⟨o, u, g1, g2, _⟩ := cells x c e
          exact ⟨some u, o, kp _ _ g1, g2⟩
        · obtain ⟨o, q⟩ := inL x c e
          exact subH_at q
        · show (L2.start N (ws ++ vs)).length = N.length
          unfold L2.start
          rw [List.length_append, List.length_map, List.length_replicate]
          have : (ws ++ vs).length ≤ N.length := by rw [RepAs.len ras]; exact hN
          omega
      have er : ER M ⟨k', none, subH L H, fun cls dd _ H' => ∃ G' m' y, Ext G (subH L H) G' H' ∧ M.SI G' H' m' ∧ ExRep M G' H' y dd ∧ cls = .ref (M.ca y.c) ∧ evF M.T (k' + 1) l (cs.map .dat ++ ds.map .dat) m = .ex y m'⟩ G (subH L H) (L2.start N (ws ++ vs)) (argsE N.length (cs.map .dat ++ ds.map .dat)) := ER.start ras hN
      have hev : ∀ r0, evE (evF M.T k') M.T.con ib (argsE N.length (cs.map .dat ++ ds.map .dat)) m = r0 → evF M.T (k' + 1) l (cs.map .dat ++ ds.map .dat) m = r0 := fun r0 e => by
        unfold evF
        rw [t1]
        simp only
        rw [if_pos hlen]
        simp only [t2, evSs, evS, t5, e]
        cases r0 <;> rfl
      have gd' : (X.A.deeper (envL I s.heap.objs.size g c' cl)).guards = some [] := by
        exact XC.gd
      have room' : Room (2 * k' + 2) (X.A.deeper (envL I s.heap.objs.size g c' cl)) := by
        have := XC.room
        rw [hk] at this
        exact (Room.deeper (this.mono (by omega : 2 * k' + 2 + 1 ≤ 2 * (k' + 1) + 2)) _)
      refine PySem.W.kla_codeExpr (wpAny_mono ((run X.A X.stack s (subH L H) _ g c' cl gd' room').run [] _ _ (subH L H) (fun v H' => ∃ G' m' d, Ext G (subH L H) G' H' ∧ M.SI G' H' m' ∧ M.Rep G' H' v d ∧ evF M.T (k' + 1) l (cs.map .dat ++ ds.map .dat) m = .ok d m') J ⟨G, _, m, si', er, ?_⟩) (fun v s' hq => ?_) fun e s' hq => hq)
      · cases hr : evE' M ⟨k', none, subH L H, fun cls dd _ H' => ∃ G' m' y, Ext G (subH L H) G' H' ∧ M.SI G' H' m' ∧ ExRep M G' H' y dd ∧ cls = .ref (M.ca y.c) ∧ evF M.T (k' + 1) l (cs.map .dat ++ ds.map .dat) m = .ex y m'⟩ ib (argsE N.length (cs.map .dat ++ ds.map .dat)) m with
        | ok d m' => exact fun G' H' v x1 s1 q => ⟨G', m', d, x1, s1, q, hev _ hr⟩
        | ex y m' => exact fun G' H' dd x1 s1 q => ⟨G', m', y, x1, s1, q, rfl, hev _ hr⟩
        | bad => have := hev _ hr; rw [this] at h; exact h.elim
      · obtain ⟨w', H', J', rv, q⟩ := hq
        exact ⟨w', H', J'.os, J'.bare, J'.base, J'.hok, rv, q⟩
    rw [← XC.P, ← XC.w] at rc
    refine wpAny_call (codeAny_mono rc fun rr s' hq => ?_)
    cases rr with
    | error er =>
      refine passAt XC.tk σ pins H s er s' Iv (cx_add held get nfr (fun cls dd H' fr ⟨G', m', y, x1, s1, q, ec, ev⟩ => ?_) hq)
      obtain ⟨x2, s2⟩ := takeback held fr x1 s1
      rw [ev] at h
      rw [ec]
      exact h G' (addH _ H') dd x2 s2 (q.keep (keepD_add fr))
    | ok fl =>
      cases fl with
      | ret u =>
        obtain ⟨v, H', os, bare, un, hok, rv, G', m', d, x1, s1, q, ev⟩ := hq
        obtain ⟨fr, un'⟩ := Un.add un held get
        obtain ⟨x2, s2⟩ := takeback held fr x1 s1
        rw [ev] at h
        refine ⟨v, addH L H', Iv.call' os un' (HOk.add hok fr fun b o z => un.keep b o (get b o z) (subH_at z) (nfr b o z) (by simp)) bare (fun b z => absurd z (by simp)), rv, h G' (addH L H') v x2 s2 (Rep.keep (keepD_add fr) q)⟩
      | next => exact False.elim hq
      | brk => exact False.elim hq
      | cont => exact False.elim hq
end
end Ev
/-! Ev17: what is walked; targets; a lambda's call as an expression. -/
namespace Ev
open PySem PySem.Spec L2

section
variable {M : Md} {f : Fm} {X : Cx} {c : CC} {a b : Expr} {es : List Expr} {ia ib : E} {ies : Es} {x : Str} {p pos : Pos}
/-! ### x(..) of a lambda -/
theorem snd_app0 (XC : XCall M X f c) (lam : LamsOk M f.k) {i : Nat} (hN : c.N[i]? = some x) (hv : c.vis x = true) (hd : (x == ("__debug__" : Str)) = false) (hcd : (x == ("__classdict__" : Str)) = false) : PE X (.Call (.Name x p) [] [] pos) (tE M f (.app i .nil)) := by
  refine ⟨fun pins s σ H Q Iv h => ?_⟩
  obtain ⟨G, e, m, si, er, h⟩ := h
  simp only [evE', evE, evEs, R.bind] at h
  split at h
  · rename_i l cs hi
    obtain ⟨v, hv', r⟩ := er.clo i l cs hi
    refine wpAny_Call_Name_kw (thn ((pe_var (pos := p) (i := i) (by rw [XC.ctx.N]; exact hN) (XC.ctx.vis x hv) hd hcd).run pins s σ H (fun w H1 => w = v ∧ H1 = H) Iv ⟨v, hv', rfl, rfl⟩) fun u s1 ⟨v1, H1, I1, r1, e1, e2⟩ => ?_)
    subst e1 e2
    obtain ⟨g, eg, _, fa, run⟩ := run_app (vs := []) (us := []) XC lam I1 r .nil .nil si h
    subst eg
    obtain rfl : u = Value.ref g := r1
    exact PySem.W.callWith_F0 fa run
  · exact h.elim
theorem snd_app (XC : XCall M X f c) (lam : LamsOk M f.k) {i : Nat} (hN : c.N[i]? = some x) (hv : c.vis x = true) (hd : (x == ("__debug__" : Str)) = false) (hcd : (x == ("__classdict__" : Str)) = false) (ha : PA X (a :: es) (tEs M f ies)) (hs : noStars (a :: es) = true) :
    PE X (.Call (.Name x p) (a :: es) [] pos) (tE M f (.app i ies)) := by
  simp only [noStars, Bool.and_eq_true, Bool.not_eq_true'] at hs
  refine ⟨fun pins s σ H Q Iv h => ?_⟩
  obtain ⟨G, e, m, si, er, h⟩ := h
  simp only [evE', evE] at h
  split at h
  · rename_i l cs hi
    obtain ⟨v, hv', r⟩ := er.clo i l cs hi
    refine wpAny_Call_Name_kw (thn ((pe_var (pos := p) (i := i) (by rw [XC.ctx.N]; exact hN) (XC.ctx.vis x hv) hd hcd).run pins s σ H (fun w H1 => w = v ∧ H1 = H) Iv ⟨v, hv', rfl, rfl⟩) fun u s1 ⟨v1, H1, I1, r1, e1, e2⟩ => ?_)
    subst e1 e2
    obtain ⟨g, c', I, cl, pm, ctv, ws, eg, hI, hg, _⟩ := r.inv_clo
    subst eg
    obtain rfl : u = Value.ref g := r1
    have ht : tEs M f ies σ H1 fun vs H2 => ∃ G1 m1 ds, Ext G H1 G1 H2 ∧ M.SI G1 H2 m1 ∧ M.RepL G1 H2 vs ds ∧ Fin M f (rlE M) G1 H2 σ (evF M.T f.k l (cs.map .dat ++ ds.map .dat) m1) Q :=
      Tm.bind rlE_mono si er h fun ds vs G1 H2 m1 x1 s1 er1 r1 h1 => ⟨G1, m1, ds, x1, s1, r1, h1⟩
    refine PySem.W.callWith_F ⟨_, _, _, _, cellO_get (I1.hok g _ hg)⟩ (thn (ha.run pos pins s1 σ H1 _ I1 ht) fun us s2 ⟨vs, H2, I2, rv, G1, m1, ds, x1, s2', r1, h1⟩ => ?_) (starEach_cons hs.1) (backTo_plain hs.2)
    obtain ⟨g2, eg, _, fa, run⟩ := run_app XC lam I2 (r.mono x1 si) rv r1 s2' h1
    cases eg
    exact ⟨fa, run⟩
  · exact h.elim
end
/-! ### keeping, over a statement's steps -/
structure Kp (G : Gh) (H : Hp) (G' : Gh) (H' : Hp) : Prop extends Lift G H G' H' where
  dom : ∀ a o, H a = some o → ∃ o', H' a = some o'
  nr : ∀ a, a ∈ G'.rf → a ∈ G.rf ∨ H a = none
section
variable {M : Md} {f : Fm} {G G' G'' : Gh} {H H' H'' : Hp} {m m' : Mem} {σ : St} {e : Env}
theorem Ext.kp (x : Ext G H G' H') : Kp G H G' H' := ⟨x.toLift, x.dom, x.nr⟩
theorem Kp.refl : Kp G H G H := Ext.kp Ext.refl
theorem Kp.trans (x : Kp G H G' H') (y : Kp G' H' G'' H'') : Kp G H G'' H'' where
  fz := fun a h => y.fz a (x.fz a h)
  rf := by
    obtain ⟨l, e⟩ := x.rf
    obtain ⟨l', e'⟩ := y.rf
    exact ⟨l ++ l', by rw [e', e, List.append_assoc]⟩
  keep := fun a o h n t k => y.keep a o (x.keep a o h n t k) (fun hm => (x.nr a hm).elim n fun q => by rw [h] at q; cases q) t (fun z => x.fz a (k z))
  dom := fun a o h => by
    obtain ⟨o', h'⟩ := x.dom a o h
    exact y.dom a o' h'
  nr := fun a h => by
    rcases y.nr a h with q | q
    · exact x.nr a q
    · refine .inr ?_
      cases e : H a with
      | none => rfl
      | some o => obtain ⟨o', e'⟩ := x.dom a o e; rw [q] at e'; cases e'
theorem RepL.kp {vs : List V} {ds : List D} (r : M.RepL G H vs ds) (x : Kp G H G' H') (s : M.SI G H m) : M.RepL G' H' vs ds := RepL.lift x.toLift s r
/-- the list at hand is as it was -/
theorem guard_one {i : Nat} {cc : Cell} (h : guardOk m' [(i, cc)] = true) : m'[i]? = some cc := by
  simp only [guardOk, Bool.and_true] at h
  split at h
  · rename_i c' hc
    rw [hc, Cell.beq_eq _ _ h]
  · cases h
theorem guard_app : ∀ {g1 g2 : Guards}, guardOk m' (g1 ++ g2) = true → guardOk m' g1 = true ∧ guardOk m' g2 = true
  | [], _, h => ⟨rfl, h⟩
  | (i, c) :: g1, g2, h => by
    simp only [List.cons_append, guardOk, Bool.and_eq_true] at h ⊢
    obtain ⟨q1, q2⟩ := guard_app h.2
    exact ⟨⟨h.1, q1⟩, q2⟩
/-- a row that is walked stays while it is guarded -/
theorem row_kept (s : M.SI G H m) {v : V} {d : D} {ds : List D} (r : M.Rep G H v d) (hd : seqOf m d = some ds) (x : Kp G H G' H') (s' : M.SI G' H' m') (g : guardOk m' (guardOf m d) = true) :
    ∃ a xs, v = .ref a ∧ M.RepL G' H' xs ds ∧ (((∃ zs, d = .tup zs) ∧ SqT M.K H' a xs) ∨ ((∀ zs, d ≠ .tup zs) ∧ SqL M.K H' a xs)) := by
  cases r with
  | non => cases hd
  | bl => cases hd
  | int => cases hd
  | str => cases hd
  | tup q r => cases hd; exact ⟨_, _, rfl, RepL.lift x.toLift s r, .inl ⟨⟨_, rfl⟩, x.toLift.sqT s q⟩⟩
  | lst q r => cases hd; exact ⟨_, _, rfl, RepL.lift x.toLift s r, .inr ⟨(fun _ z => nomatch z), q.imp (fun z => x.toLift.rd s z.1 z.2 (fun _ q => nomatch q)) id⟩⟩
  | dic => cases hd
  | cdic => cases hd
  | @ref i a q =>
    simp only [seqOf] at hd
    split at hd
    · rename_i ys hm
      cases hd
      simp only [guardOf, hm] at g
      obtain ⟨xs, q1, q2⟩ := s'.at_ i a _ (x.toLift.ref q) (guard_one g)
      exact ⟨a, xs, rfl, q2, .inr ⟨(fun _ z => nomatch z), .inl (.inl q1)⟩⟩
    · cases hd
theorem row_addr (s : M.SI G H m) {v : V} {d : D} {ds : List D} (r : M.Rep G H v d) (hd : seqOf m d = some ds) : ∃ a, v = .ref a := by
  obtain ⟨a, xs, e, _⟩ := RepO.seq s (.inl r) hd
  exact ⟨a, e⟩
/-- an iterator over these trees -/
def SrcRep (M : Md) (G : Gh) (H : Hp) (J : It) (dg : List D × Guards) : Prop :=
  ∀ G' H' m', Kp G H G' H' → M.SI G' H' m' → guardOk m' dg.2 = true → (∀ i d, dg.1[i]? = some d → J.go i H' ∧ ∀ x H'', J.yld i H' x H'' → Ext G' H' G' H'' ∧ M.SI G' H'' m' ∧ M.Rep G' H'' x d) ∧ ∀ i, dg.1.length ≤ i → J.stop i H'
abbrev tSrc (M : Md) (f : Fm) (s : Src) : TI := Tm M f (fun _ G H J dg => SrcRep M G H J dg) (evSrc' M f s)
theorem rlSrc_mono : RlMono (fun _ G H J dg => SrcRep M G H J dg) := fun _ _ _ _ _ _ _ h => h
theorem src_tup (s : M.SI G H m) {a : Addr} {ds : List D} (r : M.Rep G H (.ref a) (.tup ds)) : SrcRep M G H (Itt M.K a) (ds, []) := fun G' H' m' x s' g => by
  obtain ⟨a', xs, e1, r1, q⟩ := row_kept s r rfl x s' rfl
  cases e1
  rcases q with ⟨_, q⟩ | ⟨q, _⟩
  · refine ⟨fun i d hd => ?_, fun i hi => ⟨xs, q, by rw [RepL.length r1]; exact hi⟩⟩
    obtain ⟨v, e1, e2⟩ := RepL.get r1 hd
    refine ⟨⟨xs, v, q, e1⟩, fun y H'' hy => ?_⟩
    obtain ⟨rfl, hy⟩ := hy
    have := hy xs q
    rw [e1] at this
    cases this
    exact ⟨Ext.refl, s', e2⟩
  · exact absurd rfl (q _)
theorem src_lst (s : M.SI G H m) {a : Addr} {d : D} {ds : List D} (r : M.Rep G H (.ref a) d) (hd : seqOf m d = some ds) (nt : ∀ zs, d ≠ .tup zs) : SrcRep M G H (Itl M.K a) (ds, guardOf m d) := fun G' H' m' x s' g => by
  obtain ⟨a', xs, e1, r1, q⟩ := row_kept s r hd x s' g
  cases e1
  rcases q with ⟨⟨zs, q⟩, _⟩ | ⟨_, q⟩
  · exact absurd q (nt zs)
  · refine ⟨fun i d hd => ?_, fun i hi => ⟨xs, q, by rw [RepL.length r1]; exact hi⟩⟩
    obtain ⟨v, e1, e2⟩ := RepL.get r1 hd
    refine ⟨⟨xs, v, q, e1⟩, fun y H'' hy => ?_⟩
    obtain ⟨rfl, hy⟩ := hy
    have := hy xs q
    rw [e1] at this
    cases this
    exact ⟨Ext.refl, s', e2⟩
theorem src_dic (s : M.SI G H m) {a : Addr} {ob : Obj} {ks : List (Key × V)} {ds : List (DK × D)} (q : H a = some (.frz ob (.dK ks))) (r : M.RepK G H ks ds) : SrcRep M G H (Itk a ob ks) (ds.map fun kv => kv.1.d, []) := fun G' H' m' x s' g => by
  have q' : H' a = some (.frz ob (.dK ks)) := x.toLift.keepO s q (fun q => q) (fun _ q => nomatch q)
  have rk : M.RepL G' H' (ks.map fun kv => kV kv.1) (ds.map fun kv => kv.1.d) := keyOf_rep (RepK.lift x.toLift s r)
  have ln : ks.length = ds.length := RepK.length r
  refine ⟨fun i d hd => ?_, fun i hi => ⟨q', by rw [ln]; simpa using hi⟩⟩
  obtain ⟨v, e1, e2⟩ := RepL.get rk hd
  have hi : i < ks.length := by
    have := (List.getElem?_eq_some_iff.mp e1).1
    simpa using this
  refine ⟨⟨q', hi⟩, fun y H'' hy => ?_⟩
  obtain ⟨rfl, k, u, h1, rfl⟩ := hy
  rw [List.getElem?_map, h1] at e1
  cases e1
  exact ⟨Ext.refl, s', e2⟩
theorem src_str {z : List Nat} : SrcRep M G H (Its (toStr z)) (z.map fun c => .str [c], []) := fun G' H' m' x s' g => by
  refine ⟨fun i d hd => ?_, fun i hi => by show (toStr z).cps.size ≤ i; simpa [toStr] using hi⟩
  rw [List.getElem?_map] at hd
  obtain ⟨cc, h1, rfl⟩ := Option.map_eq_some_iff.mp hd
  refine ⟨by show i < (toStr z).cps.size; have := (List.getElem?_eq_some_iff.mp h1).1; simpa [toStr] using this, fun y H'' hy => ?_⟩
  obtain ⟨rfl, c2, h2, rfl⟩ := hy
  have : c2 = cc := by
    have h3 : z[i]? = some c2 := by simpa [toStr] using h2
    rw [h1] at h3
    exact (Option.some.inj h3).symm
  subst this
  exact ⟨Ext.refl, s', .str [c2]⟩
theorem src_rng {lo hi : Int} : SrcRep M G H (Itr lo (hi - lo).toNat) (rangeD lo hi, []) := fun G' H' m' x s' g => by
  refine ⟨fun i d hd => ?_, fun i h => by show (hi - lo).toNat ≤ i; simpa [rangeD] using h⟩
  unfold rangeD at hd
  rw [List.getElem?_map] at hd
  obtain ⟨k, h1, rfl⟩ := Option.map_eq_some_iff.mp hd
  have hi := (List.getElem?_eq_some_iff.mp h1).1
  have hk : k = i := by
    have := (List.getElem?_eq_some_iff.mp h1).2
    rw [List.getElem_range] at this
    exact this.symm
  subst hk
  rw [List.length_range] at hi
  refine ⟨hi, fun y H'' hy => ?_⟩
  obtain ⟨rfl, rfl⟩ := hy
  exact ⟨Ext.refl, s', .int _⟩
theorem enum_at : ∀ {ds : List D} {n : Int} {i : Nat} {d : D}, (enumFrom n ds)[i]? = some d → ∃ x, ds[i]? = some x ∧ d = .tup [.int (n + i), x]
  | [], _, _, _, h => by simp [enumFrom] at h
  | x :: ds, n, 0, d, h => by simp [enumFrom] at h; exact ⟨x, rfl, by rw [← h]; simp⟩
  | x :: ds, n, i + 1, d, h => by
    simp only [enumFrom, List.getElem?_cons_succ] at h
    obtain ⟨y, h1, h2⟩ := enum_at h
    refine ⟨y, by simpa using h1, ?_⟩
    rw [h2]
    have : n + 1 + (i : Int) = n + ((i + 1 : Nat) : Int) := by omega
    rw [this]
theorem enum_len : ∀ {ds : List D} {n : Int}, (enumFrom n ds).length = ds.length
  | [], _ => rfl
  | x :: ds, n => by simp only [enumFrom, List.length_cons]; rw [enum_len]
theorem src_enm (s : M.SI G H m) {a : Addr} {d : D} {ds : List D} (r : M.Rep G H (.ref a) d) (hd : seqOf m d = some ds) (nt : ∀ zs, d ≠ .tup zs) : SrcRep M G H (Ite M.K a) (enumFrom 0 ds, guardOf m d) := fun G' H' m' x s' g => by
  obtain ⟨a', xs, e1, r1, q⟩ := row_kept s r hd x s' g
  cases e1
  rcases q with ⟨⟨zs, q⟩, _⟩ | ⟨_, q⟩
  · exact absurd q (nt zs)
  · refine ⟨fun i d hd => ?_, fun i hi => ⟨xs, q, by rw [RepL.length r1]; rw [enum_len] at hi; exact hi⟩⟩
    obtain ⟨y, h1, rfl⟩ := enum_at hd
    obtain ⟨v, e1, e2⟩ := RepL.get r1 h1
    refine ⟨⟨xs, v, q, e1⟩, fun y H'' hy => ?_⟩
    obtain ⟨T, w, rfl, hT, rfl, hw⟩ := hy
    have := hw xs q
    rw [e1] at this
    cases this
    exact ⟨Ext.new hT, SI.new s' hT, Rep.tupN s' hT (.cons (by rw [Int.zero_add]; exact .int _) (.cons e2 .nil))⟩
theorem zip_at : ∀ {as bs : List D} {i : Nat} {d : D}, (zipD as bs)[i]? = some d → ∃ x y, as[i]? = some x ∧ bs[i]? = some y ∧ d = .tup [x, y]
  | [], _, _, _, h => by simp [zipD] at h
  | _ :: _, [], _, _, h => by simp [zipD] at h
  | x :: as, y :: bs, 0, d, h => by simp [zipD] at h; exact ⟨x, y, rfl, rfl, h.symm⟩
  | x :: as, y :: bs, i + 1, d, h => by
    simp only [zipD, List.getElem?_cons_succ] at h
    obtain ⟨u, v, h1, h2, h3⟩ := zip_at h
    exact ⟨u, v, by simpa using h1, by simpa using h2, h3⟩
theorem zip_len : ∀ {as bs : List D} {i : Nat}, (zipD as bs).length ≤ i → as.length ≤ i ∨ bs.length ≤ i
  | [], _, _, _ => .inl (Nat.zero_le _)
  | _ :: _, [], _, _ => .inr (Nat.zero_le _)
  | x :: as, y :: bs, i, h => by
    simp only [zipD, List.length_cons] at h ⊢
    cases i with
    | zero => omega
    | succ i => rcases zip_len (as := as) (bs := bs) (i := i) (by omega) with z | z <;> omega
theorem src_zipT (s : M.SI G H m) {a b : Addr} {xs ys : List D} (ra : M.Rep G H (.ref a) (.tup xs)) (rb : M.Rep G H (.ref b) (.tup ys)) : SrcRep M G H (RZ.ItzT M.K a b) (zipD xs ys, []) := fun G' H' m' x s' g => by
  obtain ⟨a', us, e1, r1, q1⟩ := row_kept s ra rfl x s' rfl
  cases e1
  obtain ⟨b', ws, e2, r2, q2⟩ := row_kept s rb rfl x s' rfl
  cases e2
  rcases q1 with ⟨_, q1⟩ | ⟨q1, _⟩
  · rcases q2 with ⟨_, q2⟩ | ⟨q2, _⟩
    · refine ⟨fun i d hd => ?_, fun i hi => ⟨us, ws, q1, q2, by rw [RepL.length r1, RepL.length r2]; exact zip_len hi⟩⟩
      obtain ⟨y, z, h1, h2, rfl⟩ := zip_at hd
      obtain ⟨u, a1, a2⟩ := RepL.get r1 h1
      obtain ⟨v, b1, b2⟩ := RepL.get r2 h2
      refine ⟨⟨us, ws, u, v, q1, q2, a1, b1⟩, fun y H'' hy => ?_⟩
      obtain ⟨T, p, q, rfl, hT, rfl, hp, hq⟩ := hy
      have := hp us q1
      rw [a1] at this
      cases this
      have := hq ws q2
      rw [b1] at this
      cases this
      exact ⟨Ext.new hT, SI.new s' hT, Rep.tupN s' hT (.cons a2 (.cons b2 .nil))⟩
    · exact absurd rfl (q2 _)
  · exact absurd rfl (q1 _)
theorem src_zip (s : M.SI G H m) {a b : Addr} {da db : D} {xs ys : List D} (ra : M.Rep G H (.ref a) da) (rb : M.Rep G H (.ref b) db) (ha : seqOf m da = some xs) (hb : seqOf m db = some ys) (na : ∀ zs, da ≠ .tup zs) (nb : ∀ zs, db ≠ .tup zs) :
    SrcRep M G H (Itz M.K a b) (zipD xs ys, guardOf m da ++ guardOf m db) := fun G' H' m' x s' g => by
  obtain ⟨g1, g2⟩ := guard_app g
  obtain ⟨a', us, e1, r1, q1⟩ := row_kept s ra ha x s' g1
  cases e1
  obtain ⟨b', ws, e2, r2, q2⟩ := row_kept s rb hb x s' g2
  cases e2
  rcases q1 with ⟨⟨zs, q1⟩, _⟩ | ⟨_, q1⟩
  · exact absurd q1 (na zs)
  · rcases q2 with ⟨⟨zs, q2⟩, _⟩ | ⟨_, q2⟩
    · exact absurd q2 (nb zs)
    · refine ⟨fun i d hd => ?_, fun i hi => ⟨us, ws, q1, q2, by rw [RepL.length r1, RepL.length r2]; exact zip_len hi⟩⟩
      obtain ⟨y, z, h1, h2, rfl⟩ := zip_at hd
      obtain ⟨u, a1, a2⟩ := RepL.get r1 h1
      obtain ⟨v, b1, b2⟩ := RepL.get r2 h2
      refine ⟨⟨us, ws, u, v, q1, q2, a1, b1⟩, fun y H'' hy => ?_⟩
      obtain ⟨T, p, q, rfl, hT, rfl, hp, hq⟩ := hy
      have := hp us q1
      rw [a1] at this
      cases this
      have := hq ws q2
      rw [b1] at this
      cases this
      exact ⟨Ext.new hT, SI.new s' hT, Rep.tupN s' hT (.cons a2 (.cons b2 .nil))⟩
end
section
variable {M : Md} {f : Fm} {X : Cx} {a b tg : Expr} {ia ib : E} {p pos : Pos}
/-! ### the sources -/
theorem snd_it (K : X.K = M.K) (ha : PE X a (tE M f ia)) : PI X tg a (tSrc M f (.it ia)) := by
  refine ⟨fun pins s σ H R Iv h => ?_⟩
  obtain ⟨G, e, m, si, er, h⟩ := h
  simp only [evSrc', evSrc] at h
  cases hr : evE (evF M.T f.k) M.T.con ia e m with
  | bad => rw [hr] at h; exact h.elim
  | ex y m1 =>
    rw [hr] at h
    exact (pi_tup ha).run pins s σ H R Iv ⟨G, e, m, si, er, by rw [show evE' M f ia e m = _ from hr]; exact h⟩
  | ok d m1 =>
    rw [hr] at h
    have row : ∀ ds, seqOf m1 d = some ds → (∀ zs, d ≠ .tup zs) → (Fin M f (fun _ G H J dg => SrcRep M G H J dg) G H σ (.ok (ds, guardOf m1 d) m1) R) → wpAny (model X.prog X.w) X.A (eval a X.env) (fun v s1 => wpAny (model X.prog X.w) X.A (pyIter v) (PIE X pins σ tg R) X.xe s1) X.xe s := fun ds hd nt h => by
      refine (pi_list ha).run pins s σ H R Iv ⟨G, e, m, si, er, ?_⟩
      rw [show evE' M f ia e m = _ from hr]
      intro G1 H1 v x1 s1 r
      obtain ⟨q, rfl⟩ := row_addr s1 r hd
      obtain ⟨q2, xs, e1, _, q3⟩ := RepO.seq s1 (.inl r) hd
      cases e1
      rw [K]
      rcases q3 with ⟨⟨zs, q3⟩, _⟩ | ⟨_, q3⟩
      · exact absurd q3 (nt zs)
      · exact ⟨q, rfl, ⟨xs, q3⟩, h G1 H1 _ x1 s1 (src_lst s1 r hd nt)⟩
    cases d with
    | tup ds =>
      refine (pi_tup ha).run pins s σ H R Iv ⟨G, e, m, si, er, ?_⟩
      rw [show evE' M f ia e m = _ from hr]
      intro G1 H1 v x1 s1 r
      obtain ⟨q, rfl⟩ := row_addr s1 r rfl
      obtain ⟨q2, xs, e1, _, q3⟩ := RepO.seq s1 (.inl r) rfl
      cases e1
      rw [K]
      rcases q3 with ⟨_, q3⟩ | ⟨q3, _⟩
      · exact ⟨q, rfl, ⟨xs, q3⟩, h G1 H1 _ x1 s1 (src_tup s1 r)⟩
      · exact absurd rfl (q3 _)
    | lst ds => exact row ds rfl (fun _ z => nomatch z) h
    | ref i =>
      simp only [Ev.R.bind] at h
      split at h
      · rename_i xs hx
        exact row xs hx (fun _ z => nomatch z) h
      · exact h.elim
    | dic ds =>
      refine (pi_keys ha).run pins s σ H R Iv ⟨G, e, m, si, er, ?_⟩
      rw [show evE' M f ia e m = _ from hr]
      intro G1 H1 v x1 s1 r
      cases r with
      | dic q r => exact ⟨_, _, rfl, .inl ⟨_, q, h G1 H1 _ x1 s1 (src_dic s1 q r)⟩⟩
    | str z =>
      refine (pi_str ha).run pins s σ H R Iv ⟨G, e, m, si, er, ?_⟩
      rw [show evE' M f ia e m = _ from hr]
      intro G1 H1 v x1 s1 r
      cases r
      exact ⟨_, rfl, h G1 H1 _ x1 s1 src_str⟩
    | non => exact h.elim
    | bl => exact h.elim
    | int => exact h.elim
    | cdic => exact h.elim
theorem snd_rng (hg : Gl X "range") (hm : X.mg "range" = none) (ha : PE X a (tE M f ia)) (hs : starB a = false) : PI X tg (.Call (.Name "range" p) [a] [] pos) (tSrc M f (.rng ia)) := by
  refine ⟨fun pins s σ H R Iv h => (pi_range1 hg hm (pa_cons ha pa_nil (starEach_cons hs)) (starEach_cons hs)).run pins s σ H R Iv ?_⟩
  obtain ⟨G, e, m, si, er, h⟩ := h
  simp only [evSrc', evSrc] at h
  refine Tm.bind rlSrc_mono si er h fun d v G1 H1 m1 x1 s1 er1 r1 h1 => ?_
  split at h1
  · rename_i i
    cases r1
    split at h1
    · rename_i hb
      refine ⟨i, rfl, hb.1, hb.2, ?_⟩
      have := h1 G1 H1 (Itr 0 (i - 0).toNat) Ext.refl s1 src_rng
      rw [Int.sub_zero] at this
      exact this
    · exact h1.elim
  · exact h1.elim
theorem snd_rng2 (hg : Gl X "range") (hm : X.mg "range" = none) (ha : PE X a (tE M f ia)) (hb : PE X b (tE M f ib)) (hs : noStars [a, b] = true) : PI X tg (.Call (.Name "range" p) [a, b] [] pos) (tSrc M f (.rng2 ia ib)) := by
  simp only [noStars, Bool.and_eq_true, Bool.not_eq_true'] at hs
  have e1 : starEach [a, b] X.env = [(false, eval a X.env), (false, eval b X.env)] := by rw [starEach_cons hs.1, starEach_cons hs.2.1]; rfl
  have e2 : starEach [b] X.env = [(false, eval b X.env)] := by rw [starEach_cons hs.2.1]; rfl
  refine ⟨fun pins s σ H R Iv h => (pi_range2 hg hm (pa_cons ha (pa_cons hb pa_nil (starEach_cons hs.2.1)) (starEach_cons hs.1)) e1 e2).run pins s σ H R Iv ?_⟩
  obtain ⟨G, e, m, si, er, h⟩ := h
  simp only [evSrc', evSrc] at h
  refine Tm.bind rlSrc_mono si er h fun d v G1 H1 m1 x1 s1 er1 r1 h1 => Tm.bind rlSrc_mono s1 er1 h1 fun d2 v2 G2 H2 m2 x2 s2 er2 r2 h2 => ?_
  split at h2
  · rename_i i j
    cases r1
    cases r2
    split at h2
    · rename_i hb
      exact ⟨i, j, rfl, hb, h2 G2 H2 (Itr i (j - i).toNat) Ext.refl s2 src_rng⟩
    · exact h2.elim
  · exact h2.elim
section
variable {elts : List Expr} {kk : Nat} {tpos : Pos}
theorem snd_enm (K : X.K = M.K) (hg : Gl X "enumerate") (hm : X.mg "enumerate" = none) (ha : PE X a (tE M f ia)) (hs : starB a = false) : PI X (.Tuple elts kk tpos) (.Call (.Name "enumerate" p) [a] [] pos) (tSrc M f (.enm ia)) := by
  refine ⟨fun pins s σ H R Iv h => (pi_enum hg hm (pa_cons ha pa_nil (starEach_cons hs)) (starEach_cons hs)).run pins s σ H R Iv ?_⟩
  obtain ⟨G, e, m, si, er, h⟩ := h
  simp only [evSrc', evSrc] at h
  refine Tm.bind rlSrc_mono si er h fun d v G1 H1 m1 x1 s1 er1 r1 h1 => ?_
  have fin : ∀ ds, seqOf m1 d = some ds → (∀ zs, d ≠ .tup zs) → Fin M f (fun _ G H J dg => SrcRep M G H J dg) G1 H1 σ (.ok (enumFrom 0 ds, guardOf m1 d) m1) R → ∃ a xs, [v] = [V.ref a] ∧ SqL X.K H1 a xs ∧ R (Ite X.K a) H1 := fun ds hd nt h => by
    obtain ⟨q, xs, rfl, _, q3⟩ := RepO.seq s1 (.inl r1) hd
    rw [K]
    rcases q3 with ⟨⟨zs, q3⟩, _⟩ | ⟨_, q3⟩
    · exact absurd q3 (nt zs)
    · exact ⟨q, xs, rfl, q3, h G1 H1 _ Ext.refl s1 (src_enm s1 r1 hd nt)⟩
  split at h1
  · exact fin _ rfl (fun _ z => nomatch z) h1
  · rename_i i
    split at h1
    · rename_i xs hx
      exact fin xs (by simp only [seqOf, hx]) (fun _ z => nomatch z) h1
    · exact h1.elim
  · exact h1.elim
theorem snd_zip (K : X.K = M.K) (hg : Gl X "zip") (hm : X.mg "zip" = none) (ha : PE X a (tE M f ia)) (hb : PE X b (tE M f ib)) (hs : noStars [a, b] = true) : PI X (.Tuple elts kk tpos) (.Call (.Name "zip" p) [a, b] [] pos) (tSrc M f (.zip ia ib)) := by
  have hs0 := hs
  simp only [noStars, Bool.and_eq_true, Bool.not_eq_true'] at hs
  refine ⟨fun pins s σ H R Iv h => (RZ.pi_zipA hg hm (pa_cons ha (pa_cons hb pa_nil (starEach_cons hs.2.1)) (starEach_cons hs.1)) (starEach_cons hs.1) (backTo_plain (by simp only [noStars, hs.2.1]; rfl))).run pins s σ H R Iv ?_⟩
  obtain ⟨G, e, m, si, er, h⟩ := h
  simp only [evSrc', evSrc] at h
  refine Tm.bind rlSrc_mono si er h fun d v G1 H1 m1 x1 s1 er1 r1 h1 => Tm.bind rlSrc_mono s1 er1 h1 fun d2 v2 G2 H2 m2 x2 s2 er2 r2 h2 => ?_
  have r1' := Rep.mono x2 s1 r1
  rw [K]
  split at h2
  · obtain ⟨q, xs, rfl, _, q3⟩ := RepO.seq s2 (.inl r1') rfl
    obtain ⟨q', xs', rfl, _, q4⟩ := RepO.seq s2 (.inl r2) rfl
    rcases q3 with ⟨_, q3⟩ | ⟨q3, _⟩
    · rcases q4 with ⟨_, q4⟩ | ⟨q4, _⟩
      · exact ⟨q, q', xs, xs', rfl, .inr ⟨q3, q4, h2 G2 H2 _ Ext.refl s2 (src_zipT s2 r1' r2)⟩⟩
      · exact absurd rfl (q4 _)
    · exact absurd rfl (q3 _)
  · exact h2.elim
  · exact h2.elim
  · rename_i n0 n1 n2
    split at h2
    · rename_i ds es h3 h4
      obtain ⟨q, xs, rfl, _, q3⟩ := RepO.seq s2 (.inl r1') h3
      obtain ⟨q', xs', rfl, _, q4⟩ := RepO.seq s2 (.inl r2) h4
      rcases q3 with ⟨⟨zs, q3⟩, _⟩ | ⟨nt, q3⟩
      · exact (n0 zs q3).elim
      · rcases q4 with ⟨⟨zs', q4⟩, _⟩ | ⟨nt', q4⟩
        · exact (n1 zs' q4).elim
        · exact ⟨q, q', xs, xs', rfl, .inl ⟨q3, q4, h2 G2 H2 _ Ext.refl s2 (src_zip s2 r1' r2 h3 h4 nt nt')⟩⟩
    · exact h2.elim
end
end
end Ev
/-! Ev18: targets; comprehensions. -/
namespace Ev
open PySem PySem.Spec L2

section
variable {M : Md} {f : Fm} {G G' : Gh} {H H' : Hp} {m m' : Mem} {σ σ' : St} {e e1 : Env}
theorem get_set {α : Type} {l : List α} {i j : Nat} {x y : α} (h : (l.set i x)[j]? = some y) : (j = i ∧ y = x) ∨ (j ≠ i ∧ l[j]? = some y) := by
  by_cases hj : j = i
  · subst hj
    have hl : j < l.length := by
      have := (List.getElem?_eq_some_iff.mp h).1
      rwa [List.length_set] at this
    rw [List.getElem?_set_self hl] at h
    exact .inl ⟨rfl, (Option.some.inj h).symm⟩
  · rw [List.getElem?_set_ne (fun z => hj z.symm)] at h
    exact .inr ⟨hj, h⟩
theorem set_get {α : Type} {l : List α} {i : Nat} {x y : α} (h : (l.set i x)[i]? = some y) {β : Type} {k : List β} (hl : l.length = k.length) {u : β} : (k.set i u)[i]? = some u := by
  rw [List.getElem?_set_self]
  have := (List.getElem?_eq_some_iff.mp h).1
  rw [List.length_set] at this
  omega
theorem ER.set (r : ER M f G H σ e) {i : Nat} {v : V} {d : D} (h : M.Rep G H v d) : ER M f G H (σ.set i (some v)) (e.set i (.val d)) where
  len := by rw [List.length_set, List.length_set]; exact r.len
  val := fun j d' q => by
    rcases get_set q with ⟨rfl, e2⟩ | ⟨hj, q'⟩
    · cases e2; exact ⟨v, set_get q r.len, h⟩
    · obtain ⟨w, a1, a2⟩ := r.val j d' q'
      exact ⟨w, by rw [List.getElem?_set_ne (fun z => hj z.symm)]; exact a1, a2⟩
  own := fun j c q => by
    rcases get_set q with ⟨rfl, e2⟩ | ⟨hj, q'⟩
    · cases e2
    · obtain ⟨a, a1, a2⟩ := r.own j c q'
      exact ⟨a, by rw [List.getElem?_set_ne (fun z => hj z.symm)]; exact a1, a2⟩
  inj := fun j k c c' a q1 q2 s1 s2 => by
    rcases get_set q1 with ⟨rfl, e2⟩ | ⟨hj, q1'⟩
    · cases e2
    · rcases get_set q2 with ⟨rfl, e2⟩ | ⟨hk, q2'⟩
      · cases e2
      · rw [List.getElem?_set_ne (fun z => hj z.symm)] at s1
        rw [List.getElem?_set_ne (fun z => hk z.symm)] at s2
        exact r.inj j k c c' a q1' q2' s1 s2
  exc := fun j x q => by
    rcases get_set q with ⟨rfl, e2⟩ | ⟨hj, q'⟩
    · cases e2
    · obtain ⟨a, d, a1, a2, a3⟩ := r.exc j x q'
      exact ⟨a, d, a1, by rw [List.getElem?_set_ne (fun z => hj z.symm)]; exact a2, a3⟩
  clo := fun j l cs q => by
    rcases get_set q with ⟨rfl, e2⟩ | ⟨hj, q'⟩
    · cases e2
    · obtain ⟨w, a1, a2⟩ := r.clo j l cs q'
      exact ⟨w, by rw [List.getElem?_set_ne (fun z => hj z.symm)]; exact a1, a2⟩
/-- a slot is forgotten -/
theorem ER.wipe1 (r : ER M f G H σ e) {i : Nat} {o : Option V} : ER M f G H (σ.set i o) (e.set i .no) where
  len := by rw [List.length_set, List.length_set]; exact r.len
  val := fun j d' q => by
    rcases get_set q with ⟨rfl, e2⟩ | ⟨hj, q'⟩
    · cases e2
    · obtain ⟨w, a1, a2⟩ := r.val j d' q'
      exact ⟨w, by rw [List.getElem?_set_ne (fun z => hj z.symm)]; exact a1, a2⟩
  own := fun j c q => by
    rcases get_set q with ⟨rfl, e2⟩ | ⟨hj, q'⟩
    · cases e2
    · obtain ⟨a, a1, a2⟩ := r.own j c q'
      exact ⟨a, by rw [List.getElem?_set_ne (fun z => hj z.symm)]; exact a1, a2⟩
  inj := fun j k c c' a q1 q2 s1 s2 => by
    rcases get_set q1 with ⟨rfl, e2⟩ | ⟨hj, q1'⟩
    · cases e2
    · rcases get_set q2 with ⟨rfl, e2⟩ | ⟨hk, q2'⟩
      · cases e2
      · rw [List.getElem?_set_ne (fun z => hj z.symm)] at s1
        rw [List.getElem?_set_ne (fun z => hk z.symm)] at s2
        exact r.inj j k c c' a q1' q2' s1 s2
  exc := fun j x q => by
    rcases get_set q with ⟨rfl, e2⟩ | ⟨hj, q'⟩
    · cases e2
    · obtain ⟨a, d, a1, a2, a3⟩ := r.exc j x q'
      exact ⟨a, d, a1, by rw [List.getElem?_set_ne (fun z => hj z.symm)]; exact a2, a3⟩
  clo := fun j l cs q => by
    rcases get_set q with ⟨rfl, e2⟩ | ⟨hj, q'⟩
    · cases e2
    · obtain ⟨w, a1, a2⟩ := r.clo j l cs q'
      exact ⟨w, by rw [List.getElem?_set_ne (fun z => hj z.symm)]; exact a1, a2⟩
theorem ER.wipe (r : ER M f G H σ e) : ∀ vs : List Nat, ER M f G H (L2.wipe σ vs) (wipeE e vs)
  | [] => r
  | v :: vs => (ER.wipe r vs).wipe1
theorem ER.fm {f' : Fm} (r : ER M f G H σ e) (h1 : f'.H0 = f.H0) (h2 : f'.xa = f.xa) : ER M f' G H σ e :=
  ⟨r.len, r.val, fun i c q => by rw [h1]; exact r.own i c q, r.inj, fun i x q => by rw [h2]; exact r.exc i x q, r.clo⟩
/-! ### targets -/
def tgIds : Tg → List Nat
  | .nm i => [i]
  | .tp ts => ts
  | .sk => []
def Same (σ σ' : St) (is : List Nat) : Prop := σ'.length = σ.length ∧ ∀ j, j ∉ is → σ'[j]? = σ[j]?
def tTg (M : Md) (f : Fm) (t : Tg) : TG := fun v σ H Q => ∃ G e m d e1, M.SI G H m ∧ ER M f G H σ e ∧ M.Rep G H v d ∧ setTg m e t d = some e1 ∧ ∀ σ', ER M f G H σ' e1 → Same σ σ' (tgIds t) → Q σ' H
def tTgs (M : Md) (f : Fm) (ts : List Nat) : TGs := fun vs σ H Q => ∃ G e m ds e1, M.SI G H m ∧ ER M f G H σ e ∧ M.RepL G H vs ds ∧ setAll e ts ds = some e1 ∧ ∀ σ', ER M f G H σ' e1 → Same σ σ' ts → Q σ' H
theorem Same.refl {is : List Nat} : Same σ σ is := ⟨rfl, fun _ _ => rfl⟩
theorem Same.set {i : Nat} {o : Option V} {is : List Nat} (h : i ∈ is) : Same σ (σ.set i o) is := ⟨List.length_set .., fun j hj => List.getElem?_set_ne (fun z : i = j => hj (by rw [← z]; exact h))⟩
theorem Same.trans {σ2 : St} {is : List Nat} (a : Same σ σ' is) (b : Same σ' σ2 is) : Same σ σ2 is := ⟨by rw [b.1, a.1], fun j hj => by rw [b.2 j hj, a.2 j hj]⟩
theorem Same.mono {is js : List Nat} (a : Same σ σ' is) (h : ∀ i ∈ is, i ∈ js) : Same σ σ' js := ⟨a.1, fun j hj => a.2 j fun z => hj (h j z)⟩
theorem wipe_at : ∀ {vs : List Nat} {σ : St} {j : Nat}, (L2.wipe σ vs)[j]? = if j ∈ vs then (if j < σ.length then some none else none) else σ[j]?
  | [], σ, j => by simp [L2.wipe]
  | v :: vs, σ, j => by
    show ((L2.wipe σ vs).set v none)[j]? = _
    by_cases hj : j = v
    · subst hj
      rw [if_pos List.mem_cons_self]
      by_cases hl : j < σ.length
      · rw [if_pos hl, List.getElem?_set_self (by rw [wipe_length]; exact hl)]
      · rw [if_neg hl, List.getElem?_eq_none (by rw [List.length_set, wipe_length]; omega)]
    · rw [List.getElem?_set_ne (fun z => hj z.symm), wipe_at]
      by_cases hm : j ∈ vs
      · rw [if_pos hm, if_pos (List.mem_cons_of_mem _ hm)]
      · rw [if_neg hm, if_neg (fun z => by rcases List.mem_cons.mp z with z | z; exact hj z; exact hm z)]
theorem wipe_same {vs : List Nat} (h : Same (L2.wipe σ vs) σ' vs) : L2.wipe σ' vs = L2.wipe σ vs := by
  refine List.ext_getElem? fun j => ?_
  have hl : σ'.length = σ.length := by rw [h.1, wipe_length]
  rw [wipe_at, wipe_at, hl]
  by_cases hj : j ∈ vs
  · rw [if_pos hj, if_pos hj]
  · rw [if_neg hj, if_neg hj, h.2 j hj, wipe_at, if_neg hj]
end
section
variable {M : Md} {f : Fm} {X : Cx} {c : CC} {x : Str} {pos : Pos}
theorem _root_.L2.PG.imp {tg : Expr} {t t' : TG} (h : PG X tg t) (k : ∀ v σ H Q, t' v σ H Q → t v σ H Q) : PG X tg t' := ⟨fun pins s σ H v u Q I r q => h.run pins s σ H v u Q I r (k v σ H Q q)⟩
theorem _root_.L2.PGs.imp {tg : List Expr} {t t' : TGs} (h : PGs X tg t) (k : ∀ v σ H Q, t' v σ H Q → t v σ H Q) : PGs X tg t' := ⟨fun pins s σ H v u Q I r q => h.run pins s σ H v u Q I r (k v σ H Q q)⟩
theorem snd_tnm {i : Nat} (C : CtxOk X c) (hN : c.N[i]? = some x) (hl : c.loc x = true) : PG X (.Name x pos) (tTg M f (.nm i)) := by
  obtain ⟨h1, h2⟩ := C.loc x hl
  refine (pg_name C.nd (by rw [C.N]; exact hN) h1 h2).imp fun v σ H Q h => ?_
  obtain ⟨G, e, m, d, e1, si, er, r, hs, k⟩ := h
  simp only [setTg, Option.some.injEq] at hs
  subst hs
  exact k _ (er.set r) (Same.set (by simp [tgIds]))
/-- the names of a target's tuple -/
def tgB (N : List Str) (loc : Str → Bool) : List Expr → List Nat → Bool
  | [], [] => true
  | .Name x _ :: es, i :: is => (match N[i]? with | some y => y == x | none => false) && (loc x && tgB N loc es is)
  | _, _ => false
theorem snd_tgs (C : CtxOk X c) : ∀ {es : List Expr} {is : List Nat}, tgB c.N c.loc es is = true → PGs X es (tTgs M f is)
  | [], [], _ => pgs_nil.imp fun vs σ H Q h => by
    obtain ⟨G, e, m, ds, e1, si, er, r, hs, k⟩ := h
    cases ds with
    | nil => cases r; simp only [setAll, Option.some.injEq] at hs; subst hs; exact ⟨rfl, k σ er Same.refl⟩
    | cons => simp [setAll] at hs
  | [], _ :: _, h => by simp [tgB] at h
  | e :: es, [], h => by cases e <;> simp [tgB] at h
  | e :: es, i :: is, h => by
    cases e with
    | Name x p =>
      simp only [tgB, Bool.and_eq_true] at h
      obtain ⟨hN, hl, hr⟩ := h
      split at hN
      · rename_i y hy
        have := beq_iff_eq.mp hN
        subst this
        obtain ⟨h1, h2⟩ := C.loc y hl
        refine (pgs_cons (pg_name (pos := p) C.nd (by rw [C.N]; exact hy) h1 h2) (snd_tgs C hr) rfl).imp fun vs σ H Q h => ?_
        obtain ⟨G, e, m, ds, e1, si, er, r, hs, k⟩ := h
        cases ds with
        | nil => simp [setAll] at hs
        | cons d ds =>
          cases r with
          | cons rv rr =>
            exact ⟨_, _, rfl, G, _, m, ds, e1, si, er.set rv, rr, hs, fun σ' er' sm => k σ' er' ((Same.set List.mem_cons_self).trans (sm.mono fun _ z => List.mem_cons_of_mem _ z))⟩
      · cases hN
    | _ => simp [tgB] at h
theorem tgB_len {env : PySem.Env} {N : List Str} {loc : Str → Bool} : ∀ {es : List Expr} {is : List Nat}, tgB N loc es is = true → (assignEach es env).length = is.length ∧ (assignEach es env).findIdx? (·.1) = none
  | [], [], _ => ⟨rfl, rfl⟩
  | [], _ :: _, h => by simp [tgB] at h
  | e :: es, [], h => by cases e <;> simp [tgB] at h
  | e :: es, i :: is, h => by
    cases e with
    | Name x p =>
      simp only [tgB, Bool.and_eq_true] at h
      obtain ⟨q1, q2⟩ := tgB_len (env := env) h.2.2
      refine ⟨by show (assignEach es env).length + 1 = is.length + 1; rw [q1], ?_⟩
      show List.findIdx? (·.1) ((false, assign (.Name x p) env) :: assignEach es env) = none
      rw [List.findIdx?_cons, q2]
      rfl
    | _ => simp [tgB] at h
theorem snd_ttp {es : List Expr} {is : List Nat} {k : Nat} (C : CtxOk X c) (hc : X.calm = true) (K : X.K = M.K) (h : tgB c.N c.loc es is = true) : PG X (.Tuple es k pos) (tTg M f (.tp is)) := by
  obtain ⟨q1, q2⟩ := tgB_len (env := X.env) h
  refine (pg_tup hc (snd_tgs (M := M) (f := f) C h) q1 q2).imp fun v σ H Q h => ?_
  obtain ⟨G, e, m, d, e1, si, er, r, hs, k⟩ := h
  simp only [setTg] at hs
  split at hs
  · rename_i ds
    cases r with
    | tup q r =>
      have hl : ∀ {is : List Nat} {ds : List D} {e e1 : Env}, setAll e is ds = some e1 → ds.length = is.length := by
        intro is
        induction is with
        | nil => intro ds e e1 h; cases ds <;> simp [setAll] at h ⊢
        | cons i is ih => intro ds e e1 h; cases ds with
          | nil => simp [setAll] at h
          | cons d ds => simp only [setAll] at h; rw [List.length_cons, List.length_cons, ih h]
      rw [K]
      exact ⟨_, _, rfl, q, by rw [RepL.length r, hl hs], G, e, m, ds, e1, si, er, r, hs, k⟩
  · cases hs
end
end Ev
/-! Ev19: comprehensions. -/
namespace Ev
open PySem PySem.Spec L2

abbrev Fm.quiet (f : Fm) : Fm := { f with W := fun _ _ _ _ => False }
section
variable {M : Md} {f : Fm} {G G' : Gh} {H H' : Hp} {m m' : Mem} {σ σ' : St} {e e1 : Env}
theorem SI.own {o u : HO} {a : Addr} (s : M.SI G H m) (e : H a = some o) (l : isLD o) (hn : a ∉ G.rf) (hf : ¬ G.fz a) : M.SI G (upd H a u) m where
  len := s.len
  nd := s.nd
  at_ := fun i b c h1 h2 => by
    have hb : b ≠ a := fun z => hn (z ▸ List.mem_of_getElem? h1)
    have q := s.at_ i b c h1 h2
    cases c with
    | lst ds => obtain ⟨ys, e1, r⟩ := q; exact ⟨ys, by rw [upd_ne hb]; exact e1, RepL.lift (Lift.lock e l hf) s r⟩
    | dic ds => obtain ⟨ys, e1, r⟩ := q; exact ⟨ys, by rw [upd_ne hb]; exact e1, RepK.lift (Lift.lock e l hf) s r⟩
  fz := fun b h => by
    obtain ⟨o, q⟩ := s.fz b h
    exact ⟨o, by rw [upd_ne (fun z : b = a => hf (z ▸ h))]; exact q⟩
  dj := s.dj
  tab := tabs_keep s.tab (fun b ps q => by rw [upd_ne (fun z : b = a => by subst z; rw [e] at q; cases q; exact l)]; exact q) (fun b φ q => by rw [upd_ne (fun z : b = a => by subst z; rw [e] at q; cases q; exact l)]; exact q)
abbrev tTo (M : Md) (f : Fm) (t : To) : TT := Tm M f rlT (evTo (evF M.T f.k) M.T.con t)
theorem lc_read {t : Tg} {s : Src} {cc : To} {ie : E} {vs : List Nat} {Q : VK} (hsub : ∀ i ∈ tgIds t, i ∈ vs) (h : tL M f (.comp t s cc ie vs) σ H Q) : tLc (tSrc M f s) (tTg M f.quiet t) (tTo M f.quiet cc) (tE M f.quiet ie) vs σ H Q := by
  obtain ⟨G, e, m, si, er, h⟩ := h
  simp only [evL', evL] at h
  refine Tm.bind rlL_mono si er h fun dg J G1 H1 m1 x1 s1 er1 sr h1 => ?_
  obtain ⟨ds, gs⟩ := dg
  simp only at h1
  split at h1
  · rename_i hlen
    intro dl hD
    have srcAt := sr
    refine ⟨fun i μ H' => ∃ (G' : Gh) (m' : Mem) (av : List V) (ad rest : List D), ds.drop i = rest ∧ μ = rest.length ∧ ad.length + rest.length ≤ lineMax ∧ H' dl = some (.lst av) ∧ dl ∉ G'.rf ∧ ¬ G'.fz dl ∧ Ext G1 H1 G' H' ∧ M.SI G' H' m' ∧ M.RepL G' H' av ad ∧
      Fin M f (rlL M) G1 H1 σ ((compL gs (fun m d => setTg m (wipeE e vs) t d) (fun e m => evTo (evF M.T f.k) M.T.con cc e m) (fun e m => evE (evF M.T f.k) M.T.con ie e m) rest m').bind fun xs m => .ok (.lst (ad ++ xs)) m) Q, ⟨ds.length, G1, m1, [], [], ds, rfl, rfl, by simpa using hlen, upd_same, s1.mem_none hD, fun z => (s1.fz dl z).elim fun o q => (by rw [hD] at q; cases q), Ext.new hD, SI.new s1 hD, .nil, by simpa using h1⟩, ?_⟩
    intro i μ H' ⟨G', m', av, ad, rest, hdr, hμ, hsz, hDl, hDr, hDf, x', s', rv, hf⟩
    cases rest with
    | nil =>
      simp only [compL] at hf
      split at hf
      · rename_i hg
        refine .inl ⟨(sr G' H' m' x'.kp s' hg).2 i ?_, ?_⟩
        · have := congrArg List.length hdr
          rw [List.length_drop] at this
          simp at this
          simp only
          omega
        · simp only [Ev.R.bind, List.append_nil] at hf
          exact hf G' H' (.ref dl) x' s' ⟨dl, rfl, hD, ⟨av, hDl, rv⟩, hDf, hDr⟩
      · exact hf.elim
    | cons d rest =>
      simp only [compL] at hf
      split at hf
      · rename_i hg
        split at hf
        · rename_i e1 hset
          have hdi : ds[i]? = some d := by
            have := congrArg (fun l => l[0]?) hdr
            simpa using this
          have hdr2 : ds.drop (i + 1) = rest := by
            have := congrArg (List.drop 1) hdr
            rw [List.drop_drop] at this
            simpa [Nat.add_comm] using this
          obtain ⟨hgo, hy⟩ := (sr G' H' m' x'.kp s' hg).1 i d hdi
          refine .inr ⟨hgo, fun H' => ∃ μ', μ' < μ ∧ _, fun H' q => q, fun v H2 hv => ?_⟩
          obtain ⟨x2, s2, r2⟩ := hy v H2 hv
          have x12 := x'.trans x2
          refine ⟨G', wipeE e vs, m', d, e1, s2, (ER.fm (f' := f.quiet) (er1.mono x12 s1) rfl rfl).wipe vs, r2, hset, fun σ2 er2 sm => ⟨wipe_same (sm.mono hsub), G', e1, m', s2, er2, ?_⟩⟩
          have hD2 : H2 dl = some (.lst av) := x2.keep dl _ hDl hDr (fun _ z => nomatch z)
          split at hf
          · rename_i b m3 hc
            show Fin M f.quiet rlT G' H2 σ2 (evTo (evF M.T f.k) M.T.con cc e1 m') _
            rw [hc]
            intro G3 H3 b' x3 s3 hb
            cases (show b' = b from hb)
            have hD3 : H3 dl = some (.lst av) := x3.keep dl _ hD2 hDr (fun _ z => nomatch z)
            have hDr3 : dl ∉ G3.rf := fun z => (x3.nr dl z).elim hDr fun q => by rw [hD2] at q; cases q
            have hDf3 : ¬ G3.fz dl := fun z => (x3.nf dl z).elim hDf fun q => by rw [hD2] at q; cases q
            cases b with
            | false =>
              simp only [Bool.false_eq_true, if_false] at hf ⊢
              exact ⟨rest.length, by rw [hμ]; simp, G3, m3, av, ad, rest, hdr2, rfl, by simp only [List.length_cons] at hsz; omega, hD3, hDr3, hDf3, x12.trans x3, s3, RepL.mono (x2.trans x3) s' rv, hf⟩
            | true =>
              simp only [if_true] at hf ⊢
              refine ⟨G3, e1, m3, s3, er2.mono x3 s2, ?_⟩
              show Fin M f.quiet (rlE M) G3 H3 σ2 (evE (evF M.T f.k) M.T.con ie e1 m3) _
              split at hf
              · rename_i y m4 he
                rw [he]
                intro G4 H4 w x4 s4 rw_
                have hD4 : H4 dl = some (.lst av) := x4.keep dl _ hD3 hDr3 (fun _ z => nomatch z)
                have hDr4 : dl ∉ G4.rf := fun z => (x4.nr dl z).elim hDr3 fun q => by rw [hD3] at q; cases q
                have hDf4 : ¬ G4.fz dl := fun z => (x4.nf dl z).elim hDf3 fun q => by rw [hD3] at q; cases q
                have x14 := (x12.trans x3).trans x4
                have lk : Lift G4 H4 G4 (upd H4 dl (.lst (av ++ [w]))) := Lift.lock hD4 trivial hDf4
                have rv4 : M.RepL G4 H4 av ad := RepL.mono ((x2.trans x3).trans x4) s' rv
                refine ⟨av, hD4, ?_, rest.length, by rw [hμ]; simp, G4, m4, av ++ [w], ad ++ [y], rest, hdr2, rfl, by simp only [List.length_cons, List.length_append, List.length_nil] at hsz ⊢; omega, upd_same, hDr4, hDf4, x14.thenU hD hD4 (fun _ z => nomatch z), SI.own s4 hD4 trivial hDr4 hDf4,
                  RepL.app (RepL.lift lk s4 rv4) (.cons (Rep.lift lk s4 rw_) .nil), ?_⟩
                · rw [RepL.length rv4, ← lineMax_eq]
                  simp only [List.length_cons] at hsz
                  omega
                · split at hf
                  · rename_i xs m5 hr
                    rw [hr]
                    simp only [Ev.R.bind] at hf ⊢
                    rw [List.append_assoc]
                    exact hf
                  · exact hf.elim
              · exact hf.elim
          · exact hf.elim
        · exact hf.elim
      · exact hf.elim
  · exact h1.elim
end
section
variable {M : Md} {f : Fm} {X : Cx} {elt tg iter : Expr} {ifs : List Expr} {scope : Scope} {own : List (Str × Nat)} {pos : Pos} {t : Tg} {s : Src} {cc : To} {ie : E}
theorem folded_plain {e : Expr} (h : setB e = false) : ∀ x, foldedSetIterable e X.env x = pure x := by
  intro x
  cases e <;> first | rfl | (simp [setB] at h)
theorem snd_comp (hc : X.calm = true) (hN : X.N.Nodup) (hi : PI X tg iter (tSrc M f s)) (ok : BlkOk X.N X.env.scope scope own)
    (hg : ∀ (s : Shared) (H : Hp) (C : Addr) (cl : List (Str × Addr)) (fp : List Addr), PG (X.blk s H scope (compEnvC scope cl C X.env) fp) tg (tTg M f.quiet t)) (ht : ∀ (s : Shared) (H : Hp) (C : Addr) (cl : List (Str × Addr)) (fp : List Addr), PTs (X.blk s H scope (compEnvC scope cl C X.env) fp) ifs (tTo M f.quiet cc))
    (he : ∀ (s : Shared) (H : Hp) (C : Addr) (cl : List (Str × Addr)) (fp : List Addr), PE (X.blk s H scope (compEnvC scope cl C X.env) fp) elt (tE M f.quiet ie)) (hs : setB iter = false) (hsub : ∀ i ∈ tgIds t, i ∈ own.map (·.2)) :
    PE X (.ListComp elt [⟨tg, iter, ifs, 0⟩] scope pos) (tL M f (.comp t s cc ie (own.map (·.2)))) :=
  (pe_lc hc hN hi ok hg ht he (folded_plain hs)).imp fun σ H Q h => lc_read hsub h
theorem snd_tsno : PTs X [] (tTo M f .no) := by
  refine ⟨fun pins s σ H Q Iv h => pts_nil.run pins s σ H Q Iv ?_⟩
  obtain ⟨G, e, m, si, er, h⟩ := h
  simp only [evTo] at h
  exact h G H true Ext.refl si rfl
theorem snd_tsex {a : Expr} {ta : T} (ha : PT X a (tT M f ta)) : PTs X [a] (tTo M f (.ex ta)) := by
  refine ⟨fun pins s σ H Q Iv h => (pts_one ha).run pins s σ H Q Iv ?_⟩
  obtain ⟨G, e, m, si, er, h⟩ := h
  simp only [evTo] at h
  exact ⟨G, e, m, si, er, h⟩
end
end Ev
/-! Ev20: repr; dicts made; items listed. -/
namespace Ev
open PySem PySem.Spec L2

section
variable {M : Md} {f : Fm} {X : Cx} {c : CC} {a b : Expr} {es : List Expr} {ia ib : E} {ies : Es} {l : L} {x : Str} {p pos apos cpos : Pos}
/-! ### repr of data without dicts -/
theorem call_reprD (gd : X.A.guards = some []) (hu : X.A.units + 100 < cLine) : CallR X (.builtin "repr") (fun xs H Q => ∃ v d, xs = [v] ∧ Dp X.K H v d ∧ d.canLay0 = true ∧ d.showable = true ∧ d.shown.length ≤ sizeLine ∧ d.depth ≤ 30 ∧ Q (.str d.shown) H) := by
  intro pins s σ H xs us Q Iv r h
  obtain ⟨v, d, rfl, dp, lay, sh, sz, dep, q⟩ := h
  obtain ⟨u, rfl, ru⟩ := vals1 r
  obtain ⟨as, rd⟩ := Dp.reads Iv d v u dp ru
  have fin : ∀ h' tk tk', (∀ b o, s.heap.get? b = some o → h'.get? b = some o) → EP X pins σ Q (.str d.shown tk') { s with heap := h', toks := tk } := fun h' tk tk' k => ⟨.str d.shown, H, Iv.kept k, ⟨_, rfl⟩, q⟩
  have fin0 : ∀ tk', EP X pins σ Q (.str d.shown tk') { s with toks := s.toks + 1 } := fun tk' => ⟨.str d.shown, H, Iv.tok _, ⟨_, rfl⟩, q⟩
  cases u with
  | ref g => exact repr_of_reads' rd sh (fun z => by rw [PyData.hasDict_of_canLay d lay] at z; cases z) gd (by omega) (fun _ _ e => e) (fun h' u tk k => fin h' tk u k) sz
  | none => cases rd with | none => exact PySem.P.repr_of_none (fin0 _)
  | bool b => cases rd with | bool => exact PySem.P.repr_of_bool (fin0 _)
  | int i t => cases rd with | int => exact PySem.P.repr_of_int (by simpa [PyData.showable] using sh) (fin0 _)
  | str z t => cases rd with | str => exact PySem.P.repr_of_str (fin0 _) sz
  | _ => cases rd
theorem snd_repr {ios : Os} (K : X.K = M.K) (gd : X.A.guards = some []) (hu : X.A.units + 100 < cLine) (hg : Gl X "repr") (hm : X.mg "repr" = none) (ha : PA X (a :: es) (tOs M f ios)) (hs : noStars (a :: es) = true) : PE X (.Call (.Name "repr" p) (a :: es) [] pos) (tE M f (.bi .repr ios)) := by
  refine snd_bi (x := "repr") (call_reprD gd hu) hg hm (by decide +kernel) (by decide +kernel) ha hs fun G H m vs ds d Q s r hd k => ?_
  unfold biD at hd
  split at hd <;> first | (simp_all; done) | skip
  rename_i dd _
  obtain ⟨v, rfl, r1⟩ := RepOs.one r
  split at hd
  · rename_i pd hp
    split at hd
    · rename_i hb
      simp only [Bool.and_eq_true, decide_eq_true_eq] at hb
      cases hd
      rw [K]
      refine ⟨v, pd, rfl, RepO.dp s r1 hp hb.1.1.1, hb.1.1.1, hb.1.1.2, by rw [← lineMax_eq]; exact hb.2, hb.1.2, ?_⟩
      have := k G H (.str (toStr (PyData.shown pd).cps.toList)) Ext.refl s (.str _)
      have e : toStr (PyData.shown pd).cps.toList = PyData.shown pd := by simp [toStr]
      rw [e] at this
      exact this
    · cases hd
  · cases hd
/-! ### d.items() as a list -/
theorem items_rep {G : Gh} {H : Hp} : ∀ {ks : List (Key × V)} {kvs : List (DK × D)} {ts : List Addr}, M.RepK G H ks kvs → Paired (fun (t : Addr) (q : Key × V) => H t = some (.tup [kV q.1, q.2])) ts ks → M.RepL G H (ts.map V.ref) (kvs.map fun kv => .tup [kv.1.d, kv.2])
  | _, _, _, .nil, .nil => .nil
  | _, _, _, .cons (k := k) hv r, .cons h1 h2 => by
    refine .cons (.tup (.inl (.inl h1)) (.cons ?_ (.cons hv .nil))) (items_rep r h2)
    cases k with
    | i z => exact .int z
    | s z => exact .str z
theorem snd_litems (hc : X.calm = true) (hg : Gl X "list") (hm : X.mg "list" = none) (ha : PE X a (tE M f ia)) (hbc : bareCall a = false) (hline : (apos.endLine == cpos.line) = true) : PE X (.Call (.Name "list" p) [.Call (.Attribute a "items" apos) [] [] cpos] [] pos) (tL M f (.litems ia)) := by
  refine (LiI.pe_listItems hc ha hg hm (by decide +kernel) (base_plain hbc) hline (starEach_cons rfl)).imp fun σ H Q h => ?_
  obtain ⟨G, e, m, s, er, h⟩ := h
  simp only [evL', evL] at h
  refine Tm.bind rlL_mono s er h fun dx v G1 H1 m1 x1 s1 er1 r1 h1 => ?_
  split at h1
  · rename_i i
    split at h1
    · rename_i kvs hm1
      cases r1 with
      | @ref i d q =>
        obtain ⟨ks, e1, rk⟩ := s1.at_ i d _ q hm1
        refine ⟨d, ks, rfl, e1, fun H' p ts k hp hts hpt hl hpr => ?_⟩
        have xt : Ext G1 H1 G1 H' := Ext.lam (fun b u e _ => k b u e) (fun b ps e => ⟨#[], by rw [k _ _ e]; simp⟩)
        have st : M.SI G1 H' m1 := SI.lam s1 (fun b u e _ => k b u e) (fun b ps e => ⟨#[], by rw [k _ _ e]; simp⟩) (tabs_keep s1.tab (fun b ps e => k _ _ e) (fun b φ e => k _ _ e))
        have rl : M.RepL G1 H' (ts.map V.ref) (kvs.map fun kv => .tup [kv.1.d, kv.2]) := by
          exact items_rep (RepK.mono xt s1 rk) hpr
        exact h1 G1 H' (.ref p) xt st ⟨p, rfl, hp, ⟨_, hl, rl⟩, (fun z => by obtain ⟨o, w⟩ := s1.fz p z; rw [hp] at w; cases w), s1.mem_none hp⟩
    · exact h1.elim
  · exact h1.elim
/-! ### dict(a new list of pairs) -/
theorem pairs_rep {G : Gh} {H : Hp} {m : Mem} (s : M.SI G H m) : ∀ {vs : List V} {ds : List D} {acc : List (DK × D)} {ak : List (Key × V)} {kvs : List (DK × D)}, M.RepL G H vs ds → M.RepK G H ak acc → pairsK m ds acc = some kvs →
    ∃ (ps : List Addr) (ks : List (Key × V)), vs = ps.map V.ref ∧ Paired (fun p kv => SqT M.K H p [kV kv.1, kv.2]) ps ks ∧ M.RepK G H (mergeK ak ks) kvs
  | [], [], acc, ak, kvs, _, ra, h => by simp only [pairsK, Option.some.injEq] at h; subst h; exact ⟨[], [], rfl, .nil, ra⟩
  | v :: vs, d :: ds, acc, ak, kvs, r, ra, h => by
    obtain ⟨k, d', rfl⟩ : ∃ k d', d = .tup [k, d'] := by
      cases d with
      | tup zs =>
        match zs, h with
        | [k, d'], _ => exact ⟨k, d', rfl⟩
        | [], h => simp [pairsK] at h
        | [_], h => simp [pairsK] at h
        | _ :: _ :: _ :: _, h => simp [pairsK] at h
      | _ => simp [pairsK] at h
    simp only [pairsK] at h
    cases hk : keyOf k with
    | none => rw [hk] at h; cases h
    | some k' =>
      rw [hk] at h
      simp only at h
      cases r with
      | cons rv rr =>
        cases rv with
        | tup q rw_ =>
          cases rw_ with
          | cons r1 r2 =>
            cases r2 with
            | cons r2 r3 =>
              cases r3
              rename_i pa w1 w2
              have hkv := kV_rep r1 hk
              obtain ⟨ps, ks, e1, e2, e3⟩ := pairs_rep s rr (RepK.put (k := k') r2 ra) h
              refine ⟨pa :: ps, (toKey k', w2) :: ks, by rw [e1]; rfl, .cons ?_ e2, e3⟩
              rw [hkv] at q
              exact q
  | [], _ :: _, _, _, _, r, _, _ => by cases r
  | _ :: _, [], _, _, _, r, _, _ => by cases r
theorem snd_dict (K : X.K = M.K) (hc : X.calm = true) (hg : Gl X "dict") (hm : X.mg "dict" = none) (ha : PE X a (tL M f l)) (hs : starB a = false) : PE X (.Call (.Name "dict" p) [a] [] pos) (tL M f (.dict l)) := by
  refine (pe_callTy (x := "dict") (T := "dict") (call_dictP hc) hg hm (by decide +kernel) (pa_cons ha pa_nil (starEach_cons hs)) (by decide) (by decide) (starEach_cons hs) rfl).imp fun σ H Q h => ?_
  obtain ⟨G, e, m, s, er, h⟩ := h
  simp only [evL', evL] at h
  refine Tm.bind rlL_mono s er h fun cc v G1 H1 m1 x1 s1 er1 r1 h1 => ?_
  obtain ⟨q, rfl, hn, cr, hf, ht⟩ := r1
  split at h1
  · rename_i xs
    split at h1
    · rename_i kvs hp
      obtain ⟨vs, e1, rv⟩ := cr
      obtain ⟨ps, ks, rfl, h2, h3⟩ := pairs_rep s1 rv .nil hp
      rw [K]
      exact ⟨q, ps, ks, rfl, .inl (.inl e1), h2, fun p hp => newD s1 hp h3 h1⟩
    · exact h1.elim
  · exact h1.elim
/-! ### a written dict -/
def keyE : DK → Expr → Bool
  | .i z, .Constant (.int y) _ _ => z == y
  | .s z, .Constant (.str y) _ _ => z == y.cps.toList
  | _, _ => false
def keysB : List DK → List (Option Expr) → Bool
  | [], [] => true
  | k :: ks, some e :: es => keyE k e && keysB ks es
  | _, _ => false
/-- each value by itself -/
inductive EsOk (M : Md) (f : Fm) (X : Cx) : List Expr → Es → Prop
  | nil : EsOk M f X [] .nil
  | cons {a : Expr} {es : List Expr} {ia : E} {ies : Es} : PE X a (tE M f ia) → EsOk M f X es ies → EsOk M f X (a :: es) (.cons ia ies)
theorem EsOk.pa : ∀ {es : List Expr} {ies : Es}, EsOk M f X es ies → noStars es = true → PA X es (tEs M f ies)
  | _, _, .nil, _ => snd_nil
  | _, _, .cons h r, hs => by
    simp only [noStars, Bool.and_eq_true, Bool.not_eq_true'] at hs
    exact snd_cons h (EsOk.pa r hs.2) hs.1
def trsOf (M : Md) (f : Fm) : List DK → Es → List (TE × TE)
  | k :: ks, .cons ia r => (tC (kV (toKey k)), tE M f ia) :: trsOf M f ks r
  | _, _ => []
theorem keyE_pe {k : DK} {e : Expr} (h : keyE k e = true) : PE X e (tC (kV (toKey k))) := by
  cases k with
  | i z =>
    unfold keyE at h
    split at h <;> first | (simp at h; done) | skip
    · rename_i heq; cases heq; rw [beq_iff_eq] at h; subst h; exact pe_int
    · rename_i heq; cases heq
  | s z =>
    unfold keyE at h
    split at h <;> first | (simp at h; done) | skip
    · rename_i heq; cases heq
    · rename_i y _ _ heq
      cases heq
      rw [beq_iff_eq] at h
      subst h
      exact pe_str (x := y)
theorem pps_of {pos : Pos} : ∀ {ks : List DK} {keys : List (Option Expr)} {es : List Expr} {ies : Es}, keysB ks keys = true → EsOk M f X es ies → ies.len = ks.length → PPs X pos keys es (trsOf M f ks ies)
  | [], [], _, _, _, .nil, _ => pps_nil
  | [], _ :: _, _, _, h, _, _ => by simp [keysB] at h
  | [], [], _, _, _, .cons _ _, h => by simp [Es.len] at h
  | k :: ks, [], _, _, h, _, _ => by simp [keysB] at h
  | k :: ks, none :: _, _, _, h, _, _ => by simp [keysB] at h
  | k :: ks, some e :: keys, _, _, h, .nil, hl => by simp [Es.len] at hl
  | k :: ks, some e :: keys, _, _, h, .cons ha r, hl => by
    simp only [keysB, Bool.and_eq_true] at h
    exact pps_cons (keyE_pe h.1) ha (pps_of h.2 r (by simpa [Es.len] using hl))
theorem pairs_read {σ : St} {e : Env} : ∀ {ies : Es} {ks : List DK} {G : Gh} {H : Hp} {m : Mem} {R : List V → Hp → Prop} {Kp : List (V × V) → Hp → Prop}, M.SI G H m → ER M f G H σ e → ies.len = ks.length → Fin M f (rlEs M) G H σ (evEs' M f ies e m) R →
    (∀ vs H2, R vs H2 → Kp ((ks.zip vs).map (fun kv => (kV (toKey kv.1), kv.2))) H2) → tPairs (trsOf M f ks ies) σ H Kp
  | .nil, [], G, H, m, R, _, s, er, hl, h, k => by
    simp only [evEs', evEs] at h
    exact k [] H (h G H [] Ext.refl s .nil)
  | .nil, _ :: _, _, _, _, _, _, _, _, hl, _, _ => by simp [Es.len] at hl
  | .cons ia r, [], _, _, _, _, _, _, _, hl, _, _ => by simp [Es.len] at hl
  | .cons ia r, kk :: ks, G, H, m, R, Kp, s, er, hl, h, k => by
    simp only [evEs', evEs] at h
    show tE M f ia σ H fun y H2 => tPairs (trsOf M f ks r) σ H2 fun ps H3 => Kp ((kV (toKey kk), y) :: ps) H3
    refine Tm.bind rlEs_mono s er h fun dx v G1 H1 m1 x1 s1 er1 r1 h1 => ?_
    have h2 : Fin M f (rlEs M) G1 H1 σ (evEs' M f r e m1) fun vs H2 => R (v :: vs) H2 := by
      refine Fin.bind rlEs_mono s1 er1 h1 fun ds vs G2 H2 m2 x2 s2 er2 r2 h2 => ?_
      exact h2 G2 H2 _ Ext.refl s2 (.cons (Rep.mono x2 s1 r1) r2)
    exact pairs_read (ks := ks) s1 er1 (by simpa [Es.len] using hl) h2 fun vs H2 hr => k (v :: vs) H2 hr
theorem build_rep {G : Gh} {H : Hp} : ∀ {ks : List DK} {vs : List V} {ds : List D} {ak : List (Key × V)} {acc kvs : List (DK × D)}, M.RepL G H vs ds → M.RepK G H ak acc → buildK ks ds acc = some kvs → M.RepK G H (mergeK ak ((ks.zip vs).map fun kv => (toKey kv.1, kv.2))) kvs
  | [], _, _, _, _, _, .nil, ra, h => by simp only [buildK, Option.some.injEq] at h; subst h; exact ra
  | [], _, _, _, _, _, .cons _ _, _, h => by simp [buildK] at h
  | k :: ks, _, _, _, _, _, .nil, _, h => by simp [buildK] at h
  | k :: ks, _, _, _, _, _, .cons hv r, ra, h => by
    simp only [buildK] at h
    show M.RepK _ _ (mergeK (L2.putK _ (toKey k) _) ((ks.zip _).map fun kv => (toKey kv.1, kv.2))) _
    exact build_rep r (RepK.put (k := k) hv ra) h
theorem snd_ddisp {ks : List DK} {keys : List (Option Expr)} (hk : keysB ks keys = true) (ha : EsOk M f X es ies) (hlen : ies.len = ks.length) (hl : keys.length = es.length) (h0 : keys ≠ []) (h15 : keys.length ≤ 15) : PE X (.Dict keys es pos) (tL M f (.ddisp ks ies)) := by
  have hall : keys.all (·.isSome) = true := by
    clear hl h0 h15 hlen
    induction ks generalizing keys with
    | nil => cases keys with
      | nil => rfl
      | cons => simp [keysB] at hk
    | cons k ks ih => cases keys with
      | nil => simp [keysB] at hk
      | cons o keys => cases o with
        | none => simp [keysB] at hk
        | some e =>
          simp only [keysB, Bool.and_eq_true] at hk
          simp only [List.all_cons, Option.isSome_some, Bool.true_and]
          exact ih hk.2
  have lk : keys.length = ks.length := by
    clear hl h0 h15 hall hlen
    induction ks generalizing keys with
    | nil => cases keys with
      | nil => rfl
      | cons => simp [keysB] at hk
    | cons k ks ih => cases keys with
      | nil => simp [keysB] at hk
      | cons o keys => cases o with
        | none => simp [keysB] at hk
        | some e =>
          simp only [keysB, Bool.and_eq_true] at hk
          rw [List.length_cons, List.length_cons, ih hk.2]
  refine (pe_disp (pps_of hk ha hlen) hall hl h0 h15).imp fun σ H Q h => ?_
  obtain ⟨G, e, m, s, er, h⟩ := h
  simp only [evL', evL] at h
  intro p hp
  have h2 : Fin M f (rlEs M) G (upd H p (.dK [])) σ (evEs' M f ies e m) fun vs H2 => H2 p = some (.dK []) ∧ ∃ kvs : List (Key × V), (ks.zip vs).map (fun kv => (kV (toKey kv.1), kv.2)) = kvs.map (fun kv => (kV kv.1, kv.2)) ∧ kvs.length ≤ 15 ∧ Q (.ref p) (upd H2 p (.dK (mergeK [] kvs))) := by
    cases hr : evEs' M f ies e m with
    | bad => rw [show evEs (evF M.T f.k) M.T.con ies e m = _ from hr] at h; exact h.elim
    | ex y m1 =>
      rw [show evEs (evF M.T f.k) M.T.con ies e m = _ from hr] at h
      exact fun G' H' dd x1 s1 q => h G' H' dd ((Ext.new hp).trans x1) s1 q
    | ok ds m1 =>
      rw [show evEs (evF M.T f.k) M.T.con ies e m = _ from hr] at h
      intro G2 H2 vs x2 s2 rv
      have pr : p ∉ G.rf := s.mem_none hp
      have pf : ¬ G.fz p := fun z => by obtain ⟨o, w⟩ := s.fz p z; rw [hp] at w; cases w
      have e2 : H2 p = some (.dK []) := x2.keep p _ upd_same pr (fun _ z => nomatch z)
      have pr2 : p ∉ G2.rf := fun z => (x2.nr p z).elim pr fun w => by rw [upd_same] at w; cases w
      have pf2 : ¬ G2.fz p := fun z => (x2.nf p z).elim pf fun w => by rw [upd_same] at w; cases w
      refine ⟨e2, (ks.zip vs).map (fun kv => (toKey kv.1, kv.2)), by rw [List.map_map]; rfl, by rw [List.length_map, List.length_zip]; omega, ?_⟩
      simp only [Ev.R.bind] at h
      split at h
      · rename_i kvs hb
        have rk := build_rep rv (.nil : M.RepK G2 H2 [] []) hb
        have lkk : Lift G2 H2 G2 (upd H2 p (.dK (mergeK [] ((ks.zip vs).map fun kv => (toKey kv.1, kv.2))))) := Lift.lock e2 trivial pf2
        exact h G2 _ (.ref p) (((Ext.new hp).trans x2).thenU hp e2 (fun _ z => nomatch z)) (SI.own s2 e2 trivial pr2 pf2) ⟨p, rfl, hp, ⟨_, upd_same, RepK.lift lkk s2 rk⟩, pf2, pr2⟩
      · exact h.elim
  exact pairs_read (ks := ks) (SI.new s hp) (er.mono (Ext.new hp) s) hlen h2 fun vs H2 ⟨e2, kvs, e3, e4, e5⟩ => ⟨e2, kvs, e3, e4, e5⟩
end
end Ev
/-! Ev21: statements. -/
namespace Ev
open PySem PySem.Spec L2

structure Pst (M : Md) (f : Fm) (G0 : Gh) (G : Gh) (H : Hp) (σ' : St) (e' : Env) (m' : Mem) (G' : Gh) (H' : Hp) : Prop where
  g0 : Ext G0 f.H0 G' H'
  kp : Kp G H G' H'
  si : M.SI G' H' m'
  er : ER M f G' H' σ' e'
def FinS (M : Md) (f : Fm) (G0 : Gh) (G : Gh) (H : Hp) (r : SR) (D : Ends) : Prop := match r with
  | .nx e m => ∀ σ' G' H', Pst M f G0 G H σ' e m G' H' → D.nx σ' H'
  | .bk e m => ∀ σ' G' H', Pst M f G0 G H σ' e m G' H' → D.bk σ' H'
  | .ct e m => ∀ σ' G' H', Pst M f G0 G H σ' e m G' H' → D.ct σ' H'
  | .rt d m => ∀ v G' H', Ext G0 f.H0 G' H' → M.SI G' H' m → M.Rep G' H' v d → D.rt v H'
  | .ex x e m => ∀ σ' G' H' dd, Pst M f G0 G H σ' e m G' H' → ExRep M G' H' x dd → f.W (.ref (M.ca x.c)) dd σ' H'
  | .bad => False
def tSR (M : Md) (f : Fm) (G0 : Gh) (ev : Env → Mem → SR) : TS := fun D σ H => ∃ G e m, Ext G0 f.H0 G H ∧ M.SI G H m ∧ ER M f G H σ e ∧ FinS M f G0 G H (ev e m) D
abbrev evS' (M : Md) (f : Fm) := evS (evF M.T f.k) M.T.con M.T.sub
abbrev evSs' (M : Md) (f : Fm) := evSs (evF M.T f.k) M.T.con M.T.sub
abbrev tS (M : Md) (f : Fm) (G0 : Gh) (s : S) : TS := tSR M f G0 (evS' M f s)
abbrev tSs (M : Md) (f : Fm) (G0 : Gh) (s : Ss) : TS := tSR M f G0 (evSs' M f s)
section
variable {M : Md} {f : Fm} {G0 G G' G1 : Gh} {H H' H1 : Hp} {m m' : Mem} {σ σ' : St} {e e' : Env} {D D' : Ends} {r : SR}
theorem Pst.back (p : Pst M f G0 G1 H1 σ' e' m' G' H') (k : Kp G H G1 H1) : Pst M f G0 G H σ' e' m' G' H' := ⟨p.g0, k.trans p.kp, p.si, p.er⟩
theorem FinS.mono (h : FinS M f G0 G H r D) (k : Kp G H G1 H1) : FinS M f G0 G1 H1 r D := by
  cases r with
  | nx e m => exact fun σ' G' H' p => h σ' G' H' (p.back k)
  | bk e m => exact fun σ' G' H' p => h σ' G' H' (p.back k)
  | ct e m => exact fun σ' G' H' p => h σ' G' H' (p.back k)
  | rt d m => exact h
  | ex x e m => exact fun σ' G' H' dd p q => h σ' G' H' dd (p.back k) q
  | bad => exact h
/-- an expression ahead -/
theorem FinS.st {α β : Type} {Rl : Hp → Gh → Hp → β → α → Prop} {r : R α} {g : α → Mem → SR} {Q1 : β → Hp → Prop} (g0 : Ext G0 f.H0 G H) (si : M.SI G H m) (er : ER M f G H σ e) (h : FinS M f G0 G H (r.st e g) D)
    (k : ∀ a b G1 H1 m1, Ext G H G1 H1 → Ext G0 f.H0 G1 H1 → M.SI G1 H1 m1 → ER M f G1 H1 σ e → Rl H G1 H1 b a → FinS M f G0 G1 H1 (g a m1) D → Q1 b H1) : Fin M f Rl G H σ r Q1 := by
  cases r with
  | ok a m1 => exact fun G1 H1 b x s1 q => k a b G1 H1 m1 x (g0.trans x) s1 (er.mono x si) q (FinS.mono h x.kp)
  | ex y m1 => exact fun G1 H1 dd x s1 q => h σ G1 H1 dd ⟨g0.trans x, x.kp, s1, er.mono x si⟩ q
  | bad => exact h
theorem TmS.st {α β : Type} {Rl : Hp → Gh → Hp → β → α → Prop} {ev : Env → Mem → R α} {g : α → Mem → SR} {Q1 : β → Hp → Prop} (g0 : Ext G0 f.H0 G H) (si : M.SI G H m) (er : ER M f G H σ e) (h : FinS M f G0 G H ((ev e m).st e g) D)
    (k : ∀ a b G1 H1 m1, Ext G H G1 H1 → Ext G0 f.H0 G1 H1 → M.SI G1 H1 m1 → ER M f G1 H1 σ e → Rl H G1 H1 b a → FinS M f G0 G1 H1 (g a m1) D → Q1 b H1) : Tm M f Rl ev σ H Q1 := ⟨G, e, m, si, er, FinS.st g0 si er h k⟩
theorem FinS.nx (h : FinS M f G0 G H (.nx e m) D) (g0 : Ext G0 f.H0 G H) (si : M.SI G H m) (er : ER M f G H σ e) : D.nx σ H := h σ G H ⟨g0, Kp.refl, si, er⟩
end
section
variable {M : Md} {f : Fm} {G0 : Gh} {X : Cx} {c : CC} {st : Stmt} {sts : List Stmt} {s : S} {ss : Ss} {a b tg : Expr} {ia ib : E} {pos p1 p2 : Pos} {x y : Str}
theorem snd_snil : PSs X [] (tSs M f G0 .nil) := by
  refine pss_nil.imp fun D σ H h => ?_
  obtain ⟨G, e, m, g0, si, er, h⟩ := h
  simp only [evSs', evSs] at h
  exact h.nx g0 si er
theorem snd_scons (h1 : PS X st (tS M f G0 s)) (h2 : PSs X sts (tSs M f G0 ss)) : PSs X (st :: sts) (tSs M f G0 (.cons s ss)) := by
  refine (pss_cons h1 h2).imp fun D σ H h => ?_
  obtain ⟨G, e, m, g0, si, er, h⟩ := h
  simp only [evSs', evSs] at h
  refine ⟨G, e, m, g0, si, er, ?_⟩
  show FinS M f G0 G H (evS (evF M.T f.k) M.T.con M.T.sub s e m) _
  cases hr : evS (evF M.T f.k) M.T.con M.T.sub s e m with
  | nx e1 m1 =>
    rw [hr] at h
    exact fun σ' G' H' p => ⟨G', e1, m1, p.g0, p.si, p.er, FinS.mono h p.kp⟩
  | bk e1 m1 => rw [hr] at h; exact h
  | ct e1 m1 => rw [hr] at h; exact h
  | rt d m1 => rw [hr] at h; exact h
  | ex y e1 m1 => rw [hr] at h; exact h
  | bad => rw [hr] at h; exact h
theorem snd_pass : PS X (.Pass pos) (tS M f G0 .pass) := by
  refine ps_pass.imp fun D σ H h => ?_
  obtain ⟨G, e, m, g0, si, er, h⟩ := h
  simp only [evS', evS] at h
  exact h.nx g0 si er
theorem snd_brk : PS X (.Break pos) (tS M f G0 .brk) := by
  refine ps_break.imp fun D σ H h => ?_
  obtain ⟨G, e, m, g0, si, er, h⟩ := h
  simp only [evS', evS] at h
  exact h σ G H ⟨g0, Kp.refl, si, er⟩
theorem snd_cnt : PS X (.Continue pos) (tS M f G0 .cnt) := by
  refine ps_continue.imp fun D σ H h => ?_
  obtain ⟨G, e, m, g0, si, er, h⟩ := h
  simp only [evS', evS] at h
  exact h σ G H ⟨g0, Kp.refl, si, er⟩
theorem snd_ret (ha : PE X a (tE M f ia)) : PS X (.Return (some a) pos) (tS M f G0 (.ret ia)) := by
  refine (ps_ret ha).imp fun D σ H h => ?_
  obtain ⟨G, e, m, g0, si, er, h⟩ := h
  simp only [evS', evS] at h
  exact TmS.st g0 si er h fun d v G1 H1 m1 x1 g1 s1 er1 r1 h1 => h1 v G1 H1 g1 s1 r1
theorem snd_retn : PS X (.Return none pos) (tS M f G0 .retn) := by
  refine ps_retN.imp fun D σ H h => ?_
  obtain ⟨G, e, m, g0, si, er, h⟩ := h
  simp only [evS', evS] at h
  exact h .non G H g0 si .non
def compB : Expr → Bool
  | .ListComp .. => true
  | .SetComp .. => true
  | .DictComp .. => true
  | _ => false
theorem noswap {e : Expr} {t : Option Expr} {l : Nat} {env : PySem.Env} (h : compB e = false) : swapsWith e t l env = pure false := by
  cases e <;> first | rfl | (simp [compB] at h)
theorem snd_exp (ha : PE X a (tE M f ia)) (hc : compB a = false) : PS X (.Expr a pos) (tS M f G0 (.exp ia)) := by
  refine (ps_expr ha (noswap hc)).imp fun D σ H h => ?_
  obtain ⟨G, e, m, g0, si, er, h⟩ := h
  simp only [evS', evS] at h
  exact TmS.st g0 si er h fun d v G1 H1 m1 x1 g1 s1 er1 r1 h1 => h1.nx g1 s1 er1
theorem snd_ife {t : T} {sa sb : Ss} {as bs : List Stmt} (hc : PT X a (tT M f t)) (ha : PSs X as (tSs M f G0 sa)) (hb : PSs X bs (tSs M f G0 sb)) : PS X (.If a as bs pos) (tS M f G0 (.ife t sa sb)) := by
  refine (ps_if hc ha hb).imp fun D σ H h => ?_
  obtain ⟨G, e, m, g0, si, er, h⟩ := h
  simp only [evS', evS] at h
  refine TmS.st g0 si er h fun d v G1 H1 m1 x1 g1 s1 er1 r1 h1 => ?_
  cases (show v = d from r1)
  cases d with
  | true => exact ⟨G1, e, m1, g1, s1, er1, h1⟩
  | false => exact ⟨G1, e, m1, g1, s1, er1, h1⟩
/-! ### stores -/
/-- name = value: how the value is read tells nothing of the name -/
theorem asg_read {i : Nat} {D : Ends} {σ : St} {H : Hp} (h : tS M f G0 (.asg (.nm i) ia) D σ H) : tAsg (tE M f ia) (gName i) D σ H := by
  obtain ⟨G, e, m, g0, si, er, h⟩ := h
  simp only [evS', evS, setTg] at h
  exact TmS.st g0 si er h fun d v G1 H1 m1 x1 g1 s1 er1 r1 h1 => h1.nx g1 s1 (er1.set r1)
theorem snd_asg {i : Nat} (C : CtxOk X c) (hN : c.N[i]? = some x) (hl : c.loc x = true) (ha : PE X a (tE M f ia)) (hc : swapsWith a (some (.Name x p1)) pos.line X.env = pure false) : PS X (.Assign [.Name x p1] a pos) (tS M f G0 (.asg (.nm i) ia)) := by
  obtain ⟨h1, h2⟩ := C.loc x hl
  exact (ps_set C.nd (by rw [C.N]; exact hN) h1 ha hc h2).imp fun D σ H h => asg_read h
def tupB : Expr → Bool
  | .Tuple .. => true
  | _ => false
theorem noswapped {tgs : List Expr} {e : Expr} {env : PySem.Env} (h : tupB e = false) : swappedStores tgs e env = pure none := by
  unfold swappedStores
  split
  · rename_i hh
    split at hh <;> first | (simp [tupB] at h; done) | (cases hh; done)
  · rfl
theorem snd_asgt {is : List Nat} {es : List Expr} {k : Nat} (C : CtxOk X c) (hcalm : X.calm = true) (K : X.K = M.K) (ht : tgB c.N c.loc es is = true) (ha : PE X a (tE M f ia)) (hc : compB a = false) (hw : swappedStores [.Tuple es k p1] a X.env = pure none) : PS X (.Assign [.Tuple es k p1] a pos) (tS M f G0 (.asg (.tp is) ia)) := by
  refine (ps_asg ha (snd_ttp (M := M) (f := f) C hcalm K ht) (show swapsWithSole [.Tuple es k p1] a pos.line X.env = pure false from by unfold swapsWithSole; exact noswap hc) hw rfl).imp fun D σ H h => ?_
  obtain ⟨G, e, m, g0, si, er, h⟩ := h
  simp only [evS', evS] at h
  refine TmS.st g0 si er h fun d v G1 H1 m1 x1 g1 s1 er1 r1 h1 => ?_
  cases hs : setTg m1 e (.tp is) d with
  | none => rw [hs] at h1; exact h1.elim
  | some e1 => rw [hs] at h1; exact ⟨G1, e, m1, d, e1, s1, er1, r1, hs, fun σ' er' _ => h1.nx g1 s1 er'⟩
theorem snd_par {i j : Nat} {kt k2 : Nat} {pt px py pt2 : Pos} (C : CtxOk X c) (hcalm : X.calm = true) (hi : c.N[i]? = some x) (hj : c.N[j]? = some y) (hij : i ≠ j) (hx : c.sc.names.lookup x = some .local) (hy : c.sc.names.lookup y = some .local)
    (ha : PE X a (tE M f ia)) (hb : PE X b (tE M f ib)) (hs : noStars [a, b] = true) (hw : swappedStores [.Tuple [.Name x px, .Name y py] kt pt] (.Tuple [a, b] k2 pt2) X.env = pure (some [x, y])) :
    PS X (.Assign [.Tuple [.Name x px, .Name y py] kt pt] (.Tuple [a, b] k2 pt2) pos) (tS M f G0 (.par i j ia ib)) := by
  simp only [noStars, Bool.and_eq_true, Bool.not_eq_true'] at hs
  refine (ps_par hcalm C.nd (by rw [C.N]; exact hi) (by rw [C.N]; exact hj) hij (by rw [C.sc]; exact hx) (by rw [C.sc]; exact hy) (pa_cons ha (pa_cons hb pa_nil (starEach_cons hs.2.1)) (starEach_cons hs.1)) hw rfl).imp fun D σ H h => ?_
  obtain ⟨G, e, m, g0, si, er, h⟩ := h
  simp only [evS', evS] at h
  refine TmS.st g0 si er h fun d v G1 H1 m1 x1 g1 s1 er1 r1 h1 => TmS.st g1 s1 er1 h1 fun d2 v2 G2 H2 m2 x2 g2 s2 er2 r2 h2 => ?_
  exact ⟨v, v2, rfl, h2.nx g2 s2 ((er2.set (Rep.mono x2 s1 r1)).set r2)⟩
/-! ### lists of one's own -/
theorem ER.setOwn {G : Gh} {H : Hp} {σ : St} {e : Env} (r : ER M f G H σ e) {i : Nat} {a : Addr} {cc : Cell} (h : M.CellRep G H a cc) (hf : ¬ G.fz a) (hr : a ∉ G.rf) (h0 : f.H0 a = none) (hn : ∀ (j : Nat) (c' : Cell), e[j]? = some (.own c') → σ[j]? ≠ some (some (.ref a))) : ER M f G H (σ.set i (some (.ref a))) (e.set i (.own cc)) where
  len := by rw [List.length_set, List.length_set]; exact r.len
  val := fun j d' q => by
    rcases get_set q with ⟨rfl, e2⟩ | ⟨hj, q'⟩
    · cases e2
    · obtain ⟨w, a1, a2⟩ := r.val j d' q'
      exact ⟨w, by rw [List.getElem?_set_ne (fun z => hj z.symm)]; exact a1, a2⟩
  own := fun j c q => by
    rcases get_set q with ⟨rfl, e2⟩ | ⟨hj, q'⟩
    · cases e2; exact ⟨a, set_get q r.len, h, hf, hr, h0⟩
    · obtain ⟨a, a1, a2⟩ := r.own j c q'
      exact ⟨a, by rw [List.getElem?_set_ne (fun z => hj z.symm)]; exact a1, a2⟩
  inj := fun j k c c' b q1 q2 s1 s2 => by
    rcases get_set q1 with ⟨rfl, e1⟩ | ⟨hj, q1'⟩
    · rcases get_set q2 with ⟨rfl, e2⟩ | ⟨hk, q2'⟩
      · rfl
      · rw [set_get q1 r.len] at s1
        cases s1
        rw [List.getElem?_set_ne (fun z => hk z.symm)] at s2
        exact absurd s2 (hn k c' q2')
    · rcases get_set q2 with ⟨rfl, e2⟩ | ⟨hk, q2'⟩
      · rw [set_get q2 r.len] at s2
        cases s2
        rw [List.getElem?_set_ne (fun z => hj z.symm)] at s1
        exact absurd s1 (hn j c q1')
      · rw [List.getElem?_set_ne (fun z => hj z.symm)] at s1
        rw [List.getElem?_set_ne (fun z => hk z.symm)] at s2
        exact r.inj j k c c' b q1' q2' s1 s2
  exc := fun j x q => by
    rcases get_set q with ⟨rfl, e2⟩ | ⟨hj, q'⟩
    · cases e2
    · obtain ⟨a, d, a1, a2, a3⟩ := r.exc j x q'
      exact ⟨a, d, a1, by rw [List.getElem?_set_ne (fun z => hj z.symm)]; exact a2, a3⟩
  clo := fun j l cs q => by
    rcases get_set q with ⟨rfl, e2⟩ | ⟨hj, q'⟩
    · cases e2
    · obtain ⟨w, a1, a2⟩ := r.clo j l cs q'
      exact ⟨w, by rw [List.getElem?_set_ne (fun z => hj z.symm)]; exact a1, a2⟩
theorem own_read {i : Nat} {l : L} {D : Ends} {σ : St} {H : Hp} (h : tS M f G0 (.own i l) D σ H) : tAsg (tL M f l) (gName i) D σ H := by
  obtain ⟨G, e, m, g0, si, er, h⟩ := h
  simp only [evS', evS] at h
  refine TmS.st g0 si er h fun d v G1 H1 m1 x1 g1 s1 er1 r1 h1 => ?_
  obtain ⟨a, rfl, hn, cr, hf, hr⟩ := r1
  refine h1.nx g1 s1 (er1.setOwn cr hf hr (g0.back hn) fun j c' q z => ?_)
  obtain ⟨a', a1, a2, _⟩ := er.own j c' q
  rw [a1] at z
  cases z
  obtain ⟨o, ho⟩ := CellRep.there a2
  rw [hn] at ho
  cases ho
theorem snd_own {i : Nat} {l : L} (C : CtxOk X c) (hN : c.N[i]? = some x) (hl : c.loc x = true) (ha : PE X a (tL M f l)) (hc : swapsWith a (some (.Name x p1)) pos.line X.env = pure false) : PS X (.Assign [.Name x p1] a pos) (tS M f G0 (.own i l)) := by
  obtain ⟨h1, h2⟩ := C.loc x hl
  exact (ps_set C.nd (by rw [C.N]; exact hN) h1 ha hc h2).imp fun D σ H h => own_read h
end
end Ev
/-! Ev22: statements that write; loops. -/
namespace Ev
open PySem PySem.Spec L2

section
variable {M : Md} {f : Fm} {G0 G G' : Gh} {H H' : Hp} {m m' : Mem} {σ : St} {e : Env} {i : Nat}
/-- one's own thing at slot i changes -/
theorem ER.chg (er : ER M f G H σ e) (si : M.SI G H m) (lf : Lift G H G' H') (hfz : ∀ b φ, H b = some (.ext φ) → ¬ G.fz b → ¬ G'.fz b) {c0 : Cell} {a : Addr} (h0 : e[i]? = some (.own c0)) (ha : σ[i]? = some (some (.ref a)))
    (hown : ∀ (j : Nat) (c : Cell) (b : Addr), j ≠ i → e[j]? = some (.own c) → σ[j]? = some (some (.ref b)) → M.CellRep G' H' b c ∧ ¬ G'.fz b ∧ b ∉ G'.rf) {sl : Slot}
    (hsl : (∃ d, sl = .val d ∧ M.Rep G' H' (.ref a) d) ∨ (∃ c, sl = .own c ∧ M.CellRep G' H' a c ∧ ¬ G'.fz a ∧ a ∉ G'.rf)) : ER M f G' H' σ (e.set i sl) where
  len := by rw [List.length_set]; exact er.len
  val := fun j d q => by
    rcases get_set q with ⟨rfl, e2⟩ | ⟨hj, q'⟩
    · rcases hsl with ⟨d', rfl, r⟩ | ⟨c, rfl, _⟩
      · cases e2; exact ⟨_, ha, r⟩
      · cases e2
    · obtain ⟨v, a1, a2⟩ := er.val j d q'
      exact ⟨v, a1, Rep.lift lf si a2⟩
  own := fun j c q => by
    rcases get_set q with ⟨rfl, e2⟩ | ⟨hj, q'⟩
    · rcases hsl with ⟨d', rfl, r⟩ | ⟨c', rfl, r1, r2, r3⟩
      · cases e2
      · cases e2
        obtain ⟨b, b1, _, _, _, b5⟩ := er.own j c0 h0
        rw [ha] at b1
        cases b1
        exact ⟨a, ha, r1, r2, r3, b5⟩
    · obtain ⟨b, b1, _, _, _, b5⟩ := er.own j c q'
      obtain ⟨r1, r2, r3⟩ := hown j c b hj q' b1
      exact ⟨b, b1, r1, r2, r3, b5⟩
  inj := fun j k c c' b q1 q2 s1 s2 => by
    have old : ∀ (j : Nat) (c : Cell), (e.set i sl)[j]? = some (.own c) → ∃ c, e[j]? = some (.own c) := fun j c q => by
      rcases get_set q with ⟨rfl, e2⟩ | ⟨hj, q'⟩
      · exact ⟨c0, h0⟩
      · exact ⟨c, q'⟩
    obtain ⟨d1, z1⟩ := old j c q1
    obtain ⟨d2, z2⟩ := old k c' q2
    exact er.inj j k d1 d2 b z1 z2 s1 s2
  exc := fun j x q => by
    rcases get_set q with ⟨rfl, e2⟩ | ⟨hj, q'⟩
    · rcases hsl with ⟨d', rfl, r⟩ | ⟨c, rfl, _⟩ <;> cases e2
    · obtain ⟨b, d, a1, a2, a3⟩ := er.exc j x q'
      refine ⟨b, d, a1, a2, fun fl t h => ?_, a3.2⟩
      obtain ⟨b2, fs, v, e1, e2, e3, e4⟩ := a3.1 fl t h
      exact ⟨b2, fs, v, e1, lf.keepO si e2 (fun q => q) (fun _ q => nomatch q), e3, Rep.lift lf si e4⟩
  clo := fun j l cs q => by
    rcases get_set q with ⟨rfl, e2⟩ | ⟨hj, q'⟩
    · rcases hsl with ⟨d', rfl, r⟩ | ⟨c, rfl, _⟩ <;> cases e2
    · obtain ⟨v, a1, a2⟩ := er.clo j l cs q'
      exact ⟨v, a1, a2.to (fun _ _ r => Rep.lift lf si r) (fun b φ e => lf.keepO si e (fun q => q) (fun _ q => nomatch q)) (fun _ _ r => RepL.lift lf si r) hfz⟩
theorem Kp.lock {a : Addr} {o u : HO} (e : H a = some o) (l : isLD o) (hf : ¬ G.fz a) : Kp G H G (upd H a u) :=
  ⟨Lift.lock e l hf, fun b v q => by
    by_cases hb : b = a
    · exact ⟨u, by rw [hb]; exact upd_same⟩
    · exact ⟨v, by rw [upd_ne hb]; exact q⟩, fun b h => .inl h⟩
theorem Kp.frz {a : Addr} : Kp G H (G.frz a) H := ⟨Lift.frz, fun b v q => ⟨v, q⟩, fun b h => .inl h⟩
/-- one's own list is written -/
theorem own_write {a : Addr} {c0 c' : Cell} {u : HO} (g0 : Ext G0 f.H0 G H) (si : M.SI G H m) (er : ER M f G H σ e) (h0 : e[i]? = some (.own c0)) (ha : σ[i]? = some (some (.ref a))) (r : M.CellRep G (upd H a u) a c') :
    Pst M f G0 G H σ (e.set i (.own c')) m G (upd H a u) := by
  obtain ⟨b, b1, b2, b3, b4, b5⟩ := er.own i c0 h0
  rw [ha] at b1
  cases b1
  obtain ⟨o, ho, ld, nt⟩ : ∃ o, H a = some o ∧ isLD o ∧ ∀ ps, o ≠ .tbl ps := by
    cases c0 with
    | lst ds => obtain ⟨xs, q, _⟩ := b2; exact ⟨_, q, trivial, fun _ z => nomatch z⟩
    | dic ds => obtain ⟨xs, q, _⟩ := b2; exact ⟨_, q, trivial, fun _ z => nomatch z⟩
  refine ⟨g0.thenU b5 ho nt, Kp.lock ho ld b3, SI.own si ho ld b4 b3, er.chg si (Lift.lock ho ld b3) (fun _ _ _ z => z) h0 ha (fun j c d hj hc hd => ?_) (.inr ⟨c', rfl, r, b3, b4⟩)⟩
  obtain ⟨d', d1, d2, d3, d4, _⟩ := er.own j c hc
  rw [hd] at d1
  cases d1
  have hne : d ≠ a := fun z => hj (er.inj j i c c0 a hc h0 (by rw [hd, z]) ha)
  refine ⟨?_, d3, d4⟩
  cases c with
  | lst ds => obtain ⟨xs, q, r⟩ := d2; exact ⟨xs, by rw [upd_ne hne]; exact q, RepL.lift (Lift.lock ho ld b3) si r⟩
  | dic ds => obtain ⟨xs, q, r⟩ := d2; exact ⟨xs, by rw [upd_ne hne]; exact q, RepK.lift (Lift.lock ho ld b3) si r⟩
end
section
variable {M : Md} {f : Fm} {G0 : Gh} {X : Cx} {c : CC} {st : Stmt} {sts : List Stmt} {s : S} {ss : Ss} {a b tg : Expr} {ia ib ik : E} {pos p1 p2 apos : Pos} {x y : Str} {l : L} {o : O}
theorem FinS.bind_nx {G : Gh} {H : Hp} {ss : Ss} {e1 : Env} {m1 : Mem} {D : Ends} (h : FinS M f G0 G H (match (SR.nx e1 m1 : SR) with | .nx e1 m1 => evSs' M f ss e1 m1 | x => x) D) : FinS M f G0 G H (evSs' M f ss e1 m1) D := h
/-- a list of one's own becomes a value: no row of the text -/
theorem snd_frz {i : Nat} (h2 : PSs X sts (tSs M f G0 ss)) : PSs X sts (tSs M f G0 (.cons (.frz i) ss)) := by
  refine ⟨fun pins s σ H D Iv h => ?_⟩
  obtain ⟨G, e, m, g0, si, er, h⟩ := h
  simp only [evSs', evSs, evS] at h
  cases hi : e[i]? with
  | none => rw [hi] at h; exact h.elim
  | some sl =>
    rw [hi] at h
    cases sl with
    | own cc =>
      cases cc with
      | lst xs =>
        obtain ⟨a, a1, a2, a3, a4, a5⟩ := er.own i _ hi
        obtain ⟨vs, q, r⟩ := a2
        refine h2.run pins s σ H D Iv ⟨G.frz a, _, _, g0.thenF a5, SI.frz si q a4, er.chg si Lift.frz (fun b φ hb n z => ?_) hi a1 (fun j cc b hj hc hb => ?_) (.inl ⟨_, rfl, .lst (.inl ⟨.inl q, .inr rfl⟩) (RepL.lift Lift.frz si r)⟩), FinS.mono h Kp.frz⟩
        · rcases z with z | rfl
          · exact n z
          · rw [q] at hb; cases hb
        · obtain ⟨d', d1, d2, d3, d4, _⟩ := er.own j cc hc
          rw [hb] at d1
          cases d1
          refine ⟨CellRep.lift si Lift.frz d2, fun z => ?_, d4⟩
          rcases z with z | rfl
          · exact d3 z
          · exact hj (er.inj j i cc _ _ hc hi hb a1)
      | dic xs =>
        obtain ⟨a, a1, a2, a3, a4, a5⟩ := er.own i _ hi
        obtain ⟨ks, q, r⟩ := a2
        obtain ⟨od, I2⟩ := Iv.lock q trivial
        have lk : Lift G H G (upd H a (.frz od (.dK ks))) := Lift.lock q trivial a3
        refine h2.run pins s σ _ D I2 ⟨G, _, _, g0.thenU a5 q (fun _ z => nomatch z), SI.own si q trivial a4 a3, er.chg si lk (fun _ _ _ z => z) hi a1 (fun j cc b hj hc hb => ?_) (.inl ⟨_, rfl, .dic upd_same (RepK.lift lk si r)⟩), FinS.mono h (Kp.lock q trivial a3)⟩
        obtain ⟨d', d1, d2, d3, d4, _⟩ := er.own j cc hc
        rw [hb] at d1
        cases d1
        have hne : b ≠ a := fun z => hj (er.inj j i cc _ a hc hi (by rw [hb, z]) a1)
        refine ⟨?_, d3, d4⟩
        cases cc with
        | lst ds => obtain ⟨xs, q, r⟩ := d2; exact ⟨xs, by rw [upd_ne hne]; exact q, RepL.lift lk si r⟩
        | dic ds => obtain ⟨xs, q, r⟩ := d2; exact ⟨xs, by rw [upd_ne hne]; exact q, RepK.lift lk si r⟩
    | no => exact h.elim
    | val d => exact h.elim
    | exc x => exact h.elim
    | clo l cs => exact h.elim
/-- out.append(e), out one's own -/
theorem snd_oapp {i : Nat} {xp : Pos} (C : CtxOk X c) (hN : c.N[i]? = some x) (hv : c.vis x = true) (hd : (x == ("__debug__" : Str)) = false) (hcd : (x == ("__classdict__" : Str)) = false) (K : X.K = M.K) (ha : PE X a (tE M f ia)) (hs : starB a = false) (hline : (apos.endLine == p1.line) = true) :
    PS X (.Expr (.Call (.Attribute (.Name x xp) "append" apos) [a] [] p1) pos) (tS M f G0 (.oapp i ia)) := by
  have hns : noStars [a] = true := by simp only [noStars, hs]; rfl
  refine (ps_expr (pe_bm PySem.F.plainAttrs_list PySem.F.slot_list_append PySem.F.type_list_append mt_append (pe_var (pos := xp) (i := i) (by rw [C.N]; exact hN) (C.vis x hv) hd hcd) (pa_cons ha pa_nil (starEach_cons hs)) (base_plain rfl) (few_plain hns (by simp)) hline (starEach_cons hs) rfl) (noswap rfl)).imp fun D σ H h => ?_
  obtain ⟨G, e, m, g0, si, er, h⟩ := h
  simp only [evS', evS] at h
  split at h
  · rename_i xs hi
    obtain ⟨q, a1, a2, a3, a4, a5⟩ := er.own i _ hi
    obtain ⟨vs, e1, rv⟩ := a2
    rw [K]
    refine ⟨_, a1, .inl ⟨rfl, vs, .inl (.inl e1)⟩, TmS.st g0 si er h fun d v G1 H1 m1 x1 g1 s1 er1 r1 h1 => ?_⟩
    split at h1
    · rename_i hlen
      have e2 : H1 q = some (.lst vs) := x1.keep q _ e1 a4 (fun _ z => nomatch z)
      have a3' : ¬ G1.fz q := fun z => (x1.nf q z).elim a3 fun w => by rw [e1] at w; cases w
      have lk : Lift G1 H1 G1 (upd H1 q (.lst (vs ++ [v]))) := Lift.lock e2 trivial a3'
      refine ⟨q, vs, v, rfl, rfl, e2, by rw [RepL.length rv, ← lineMax_eq]; exact hlen, ?_⟩
      exact h1 σ G1 _ (own_write g1 s1 er1 hi a1 ⟨_, upd_same, RepL.lift lk s1 (RepL.app (RepL.mono x1 si rv) (.cons r1 .nil))⟩)
    · exact h1.elim
  · exact h.elim
theorem snd_oext {i : Nat} {xp : Pos} (C : CtxOk X c) (hN : c.N[i]? = some x) (hv : c.vis x = true) (hd : (x == ("__debug__" : Str)) = false) (hcd : (x == ("__classdict__" : Str)) = false) (K : X.K = M.K) (ha : PE X a (tL M f l)) (hs : starB a = false) (hline : (apos.endLine == p1.line) = true) :
    PS X (.Expr (.Call (.Attribute (.Name x xp) "extend" apos) [a] [] p1) pos) (tS M f G0 (.oext i l)) := by
  have hns : noStars [a] = true := by simp only [noStars, hs]; rfl
  refine (ps_expr (pe_bm PySem.F.plainAttrs_list PySem.F.slot_list_extend PySem.F.type_list_extend mt_extend (pe_var (pos := xp) (i := i) (by rw [C.N]; exact hN) (C.vis x hv) hd hcd) (pa_cons ha pa_nil (starEach_cons hs)) (base_plain rfl) (few_plain hns (by simp)) hline (starEach_cons hs) rfl) (noswap rfl)).imp fun D σ H h => ?_
  obtain ⟨G, e, m, g0, si, er, h⟩ := h
  simp only [evS', evS] at h
  split at h
  · rename_i xs hi
    obtain ⟨q, a1, a2, a3, a4, a5⟩ := er.own i _ hi
    obtain ⟨vs, e1, rv⟩ := a2
    rw [K]
    refine ⟨_, a1, .inl ⟨rfl, vs, .inl (.inl e1)⟩, TmS.st g0 si er h fun d v G1 H1 m1 x1 g1 s1 er1 r1 h1 => ?_⟩
    obtain ⟨b, rfl, hn, cr, hf, hr⟩ := r1
    split at h1
    · rename_i ys
      split at h1
      · rename_i hlen
        obtain ⟨ws, e3, rw_⟩ := cr
        have e2 : H1 q = some (.lst vs) := x1.keep q _ e1 a4 (fun _ z => nomatch z)
        have a3' : ¬ G1.fz q := fun z => (x1.nf q z).elim a3 fun w => by rw [e1] at w; cases w
        have lk : Lift G1 H1 G1 (upd H1 q (.lst (vs ++ ws))) := Lift.lock e2 trivial a3'
        refine ⟨q, b, vs, ws, rfl, rfl, e2, e3, by rw [RepL.length rv, RepL.length rw_, ← lineMax_eq]; exact hlen, ?_⟩
        exact h1 σ G1 _ (own_write g1 s1 er1 hi a1 ⟨_, upd_same, RepL.lift lk s1 (RepL.app (RepL.mono x1 si rv) rw_)⟩)
      · exact h1.elim
    · exact h1.elim
  · exact h.elim
/-! ### o[k] = v of a shared thing -/
theorem _root_.L2.PSet.or {t t' : TSet} (h : PSet X t) (h' : PSet X t') : PSet X (fun o i v H Q => t o i v H Q ∨ t' o i v H Q) := fun pins s σ H o i v ov iv u Q I ro ri rv q => by
  rcases q with q | q
  · exact h pins s σ H o i v ov iv u Q I ro ri rv q
  · exact h' pins s σ H o i v ov iv u Q I ro ri rv q
theorem snd_setr {ea ek : Expr} (hu : X.A.units + 100 < cLine) (ha : PE X ea (tE M f ia)) (hk : PE X ek (tE M f ik)) (hb : PE X b (tE M f ib)) (hsl : noSlice ek = true) (hc : compB b = false) (ht : tupB b = false) : PS X (.Assign [.Subscript ea ek p1] b pos) (tS M f G0 (.setr ia ik ib)) := by
  have has : ∀ v, assign (.Subscript ea ek p1) X.env v = (do
      let ov ← holding [v] (eval ea X.env)
      let iv ← holding [v, ov] (eval ek X.env)
      standAt p1
      holding [v, ov, iv] (setItem ov iv v)
      release [v, ov, iv] []) := by
    intro v
    cases ek <;> first | rfl | (simp [noSlice] at hsl)
  refine (ps_asg hb (pg_sub ha hk (L2.PSet.or set_list (set_dict (by omega))) has) (show swapsWithSole [.Subscript ea ek p1] b pos.line X.env = pure false from by unfold swapsWithSole; exact noswap hc) (noswapped ht) rfl).imp fun D σ H h => ?_
  obtain ⟨G, e, m, g0, si, er, h⟩ := h
  simp only [evS', evS] at h
  refine TmS.st g0 si er h fun d v G1 H1 m1 x1 g1 s1 er1 r1 h1 => TmS.st g1 s1 er1 h1 fun dx o G2 H2 m2 x2 g2 s2 er2 r2 h2 => TmS.st g2 s2 er2 h2 fun dk kk G3 H3 m3 x3 g3 s3 er3 r3 h3 => ?_
  have r1' := Rep.mono (x2.trans x3) s1 r1
  split at h3
  · rename_i r
    cases r2 with
    | @ref _ p hp =>
      have hp3 := x3.ref hp
      have hm : p ∈ G3.rf := List.mem_of_getElem? hp3
      split at h3
      · rename_i xs z hmr
        cases r3
        obtain ⟨vs, e1, rv⟩ := s3.at_ r p _ hp3 hmr
        split at h3
        · rename_i j hj
          have wr := Ext.write (o := .lst (vs.set j v)) s3 hm
          refine .inl ⟨p, vs, z, j, rfl, rfl, e1, by rw [RepL.length rv]; exact hj, ?_⟩
          exact h3 σ G3 _ ⟨g3.trans wr, wr.kp, SI.writeL s3 hp3 (RepL.set r1' j rv), er3.mono wr s3⟩
        · exact h3.elim
      · rename_i kvs hmr
        obtain ⟨ks, e1, rk⟩ := s3.at_ r p _ hp3 hmr
        split at h3
        · rename_i k' hk'
          split at h3
          · rename_i hlen
            have wr := Ext.write (o := .dK (L2.putK ks (toKey k') v)) s3 hm
            rw [kV_rep r3 hk']
            refine .inr ⟨p, _, rfl, DPut.k e1 (by rw [RepK.length rk, ← lineMax_eq]; exact hlen), ?_⟩
            exact h3 σ G3 _ ⟨g3.trans wr, wr.kp, SI.writeD s3 hp3 (RepK.put r1' rk), er3.mono wr s3⟩
          · exact h3.elim
        · exact h3.elim
      · exact h3.elim
  · exact h3.elim
/-! ### for, while -/
theorem snd_for {t : Tg} {sr : Src} {sb : Ss} {iter : Expr} {body : List Stmt} (hp : PassesOwn (model X.prog X.w) X.A X.env X.xe) (hc : X.calm = true) (hi : PI X tg iter (tSrc M f sr)) (hg : PG X tg (tTg M f t)) (hb : PSs X body (tSs M f G0 sb)) (hs : setB iter = false) :
    PS X (.For tg iter body [] pos) (tS M f G0 (.for_ t sr sb)) := by
  refine (ps_for hp hc hi hg hb (folded_plain hs)).imp fun D σ H h => ?_
  obtain ⟨G, e, m, g0, si, er, h⟩ := h
  simp only [evS', evS] at h
  refine TmS.st g0 si er h fun dg J G1 H1 m1 x1 g1 s1 er1 sr1 h1 => ?_
  obtain ⟨ds, gs⟩ := dg
  refine ⟨fun i μ σ' H' => ∃ (G' : Gh) (e' : Env) (m' : Mem) (rest : List Ev.D), ds.drop i = rest ∧ μ = rest.length ∧ Ext G0 f.H0 G' H' ∧ Kp G1 H1 G' H' ∧ M.SI G' H' m' ∧ ER M f G' H' σ' e' ∧
    FinS M f G0 G' H' (forL gs (fun m e d => setTg m e t d) (fun e m => evSs (evF M.T f.k) M.T.con M.T.sub sb e m) rest e' m') D, ⟨ds.length, G1, e, m1, ds, rfl, rfl, g1, Kp.refl, s1, er1, h1⟩, ?_⟩
  intro i μ σ' H' ⟨G', e', m', rest, hdr, hμ, g', k', s', er', hf⟩
  cases rest with
  | nil =>
    simp only [forL] at hf
    split at hf
    · rename_i hgd
      refine .inl ⟨(sr1 G' H' m' k' s' hgd).2 i ?_, hf.nx g' s' er'⟩
      have := congrArg List.length hdr
      rw [List.length_drop] at this
      simp at this
      simp only
      omega
    · exact hf.elim
  | cons d rest =>
    simp only [forL] at hf
    split at hf
    · rename_i hgd
      have hdi : ds[i]? = some d := by
        have := congrArg (fun l => l[0]?) hdr
        simpa using this
      have hdr2 : ds.drop (i + 1) = rest := by
        have := congrArg (List.drop 1) hdr
        rw [List.drop_drop] at this
        simpa [Nat.add_comm] using this
      obtain ⟨hgo, hy⟩ := (sr1 G' H' m' k' s' hgd).1 i d hdi
      split at hf
      · rename_i e1 hset
        refine .inr ⟨hgo, fun σ'' H'' => ∃ μ', μ' < μ ∧ _, fun σ'' H'' q => q, fun v H2 hv => ?_⟩
        obtain ⟨x2, s2, r2⟩ := hy v H2 hv
        refine ⟨G', e', m', d, e1, s2, er'.mono x2 s', r2, hset, fun σ2 er2 _ => ⟨G', e1, m', g'.trans x2, s2, er2, ?_⟩⟩
        have hf := FinS.mono hf x2.kp
        show FinS M f G0 G' H2 (evSs (evF M.T f.k) M.T.con M.T.sub sb e1 m') _
        cases hr : evSs (evF M.T f.k) M.T.con M.T.sub sb e1 m' with
        | nx e2 m2 =>
          rw [hr] at hf
          exact fun σ'' G'' H'' p => ⟨rest.length, by rw [hμ]; simp, G'', e2, m2, rest, hdr2, rfl, p.g0, (k'.trans x2.kp).trans p.kp, p.si, p.er, FinS.mono hf p.kp⟩
        | ct e2 m2 =>
          rw [hr] at hf
          exact fun σ'' G'' H'' p => ⟨rest.length, by rw [hμ]; simp, G'', e2, m2, rest, hdr2, rfl, p.g0, (k'.trans x2.kp).trans p.kp, p.si, p.er, FinS.mono hf p.kp⟩
        | bk e2 m2 => rw [hr] at hf; exact hf
        | rt d2 m2 => rw [hr] at hf; exact hf
        | ex y e2 m2 => rw [hr] at hf; exact hf
        | bad => rw [hr] at hf; exact hf
      · exact hf.elim
    · exact hf.elim
theorem snd_whl {n : Nat} {t : T} {sb : Ss} {body : List Stmt} (hp : PassesOwn (model X.prog X.w) X.A X.env X.xe) (hc : PT X a (tT M f t)) (hb : PSs X body (tSs M f G0 sb)) : PS X (.While a body [] pos) (tS M f G0 (.whl n t sb)) := by
  refine (ps_while hp hc hb).imp fun D σ H h => ?_
  obtain ⟨G, e, m, g0, si, er, h⟩ := h
  simp only [evS', evS] at h
  refine ⟨fun μ σ' H' => ∃ (G' : Gh) (e' : Env) (m' : Mem), Ext G0 f.H0 G' H' ∧ M.SI G' H' m' ∧ ER M f G' H' σ' e' ∧ FinS M f G0 G' H' (whileL (fun e m => evT (evF M.T f.k) M.T.con t e m) (fun e m => evSs (evF M.T f.k) M.T.con M.T.sub sb e m) μ e' m') D, ⟨n, G, e, m, g0, si, er, h⟩, ?_⟩
  intro μ σ' H' ⟨G', e', m', g', s', er', hf⟩
  cases μ with
  | zero => exact hf.elim
  | succ μ =>
    simp only [whileL] at hf
    refine TmS.st g' s' er' hf fun d v G1 H1 m1 x1 g1 s1 er1 r1 h1 => ?_
    cases (show v = d from r1)
    cases d with
    | false => exact h1.nx g1 s1 er1
    | true =>
      simp only [if_true] at h1 ⊢
      refine ⟨fun σ'' H'' => ∃ μ', μ' < μ + 1 ∧ _, fun σ'' H'' q => q, G1, e', m1, g1, s1, er1, ?_⟩
      show FinS M f G0 G1 H1 (evSs (evF M.T f.k) M.T.con M.T.sub sb e' m1) _
      cases hr : evSs (evF M.T f.k) M.T.con M.T.sub sb e' m1 with
      | nx e2 m2 => rw [hr] at h1; exact fun σ'' G'' H'' p => ⟨μ, by omega, G'', e2, m2, p.g0, p.si, p.er, FinS.mono h1 p.kp⟩
      | ct e2 m2 => rw [hr] at h1; exact fun σ'' G'' H'' p => ⟨μ, by omega, G'', e2, m2, p.g0, p.si, p.er, FinS.mono h1 p.kp⟩
      | bk e2 m2 => rw [hr] at h1; exact h1
      | rt d2 m2 => rw [hr] at h1; exact h1
      | ex y e2 m2 => rw [hr] at h1; exact h1
      | bad => rw [hr] at h1; exact h1
end
end Ev
/-! Ev23: raise; try with clauses of both kinds; a caught exception's field. -/
namespace Ev
open PySem PySem.Spec L2

/-- clauses: the class, the name's slot, the suite's reading -/
abbrev Cls3 := List (Value × Option Nat × (Addr → Value → Option Addr → TS))
def Ends.gone (D : Ends) (i : Nat) : Ends := { nx := fun σ' H' => D.nx (σ'.set i none) H', rt := D.rt, bk := fun σ' H' => D.bk (σ'.set i none) H', ct := fun σ' H' => D.ct (σ'.set i none) H' }
def wMix (K : PySem.W.Frag) (Wo : WX) (D : Ends) : Cls3 → WX
  | [] => Wo
  | (cv, oi, ts) :: r => fun cls d σ H => ∃ hit, PySem.W.exmOne K cls cv = some hit ∧ (hit = true → ∀ a, H a = none → match oi with
      | none => ts a cls d D σ H
      | some i => ts a cls d (Ends.gone D i) (σ.set i (some (.ref a))) H) ∧ (hit = false → wMix K Wo D r cls d σ H)
inductive MixOk (X : Cx) : List ExceptHandler → Cls3 → Prop
  | nil : MixOk X [] []
  | plain {x : Str} {cv : Value} {ts : Addr → Value → Option Addr → TS} {b0 : Stmt} {su : List Stmt} {np q : Pos} {hds : List ExceptHandler} {l : Cls3} (hc : Names X x cv)
      (hsu : ∀ (a : Addr) (oe : Obj) (cls : Value) (d : Option Addr) (pn : Ad), Zc cls d oe → (∃ vs, oe.data = .fields vs) → PSs (X.suite a ((a, oe) :: pn)) (b0 :: su) (ts a cls d)) (r : MixOk X hds l) :
      MixOk X (.ExceptHandler (some (.Name x np)) none (b0 :: su) q :: hds) ((cv, none, ts) :: l)
  | named {x n : Str} {i : Nat} {cv : Value} {ts : Addr → Value → Option Addr → TS} {b0 : Stmt} {su : List Stmt} {np q : Pos} {hds : List ExceptHandler} {l : Cls3} (hc : Names X x cv) (hi : X.N[i]? = some n) (hl : X.env.kindOf n = some .local)
      (hsu : ∀ (a : Addr) (oe : Obj) (cls : Value) (d : Option Addr) (pn : Ad), Zc cls d oe → (∃ vs, oe.data = .fields vs) → PSs (X.suite a ((a, oe) :: pn)) (b0 :: su) (ts a cls d)) (r : MixOk X hds l) :
      MixOk X (.ExceptHandler (some (.Name x np)) (some n) (b0 :: su) q :: hds) ((cv, some i, ts) :: l)
section
variable {X : Cx} {body : List Stmt} {hd0 : ExceptHandler} {hds : List ExceptHandler} {l : Cls3} {pos : Pos} {tb : WX → TS} {Wo : WX}
theorem ps_try_mix (stk : X.stack = X.env :: X.outer) (frm : X.env.frame = some X.env.locals) (hN : X.N.Nodup) (tk : Takes X Wo)
    (hb : ∀ (W : WX) (pn : Ad) (xe : Value → Shared → Prop), Takes (X.tr pn xe) W → PassesOwn (model X.prog X.w) X.A X.env xe → PSs (X.tr pn xe) body (tb W))
    (hh : MixOk X (hd0 :: hds) l) : PS X (.Try body (hd0 :: hds) [] [] pos) (fun D σ H => tb (wMix X.K Wo D l) D σ H) := by
  refine ⟨fun pins s σ H D Iv h => ?_⟩
  have okX := Iv.ok
  have frs_ : X.A.frames = some (X.env :: X.outer) := by rw [okX.frames, stk]
  refine wpAny_Try_except ?_
  have caught : Takes (X.tr (X.pn ++ pins) (fun ev s1 => wpAny (model X.prog X.w) X.A (noteFrame ev X.env) (fun _ s2 => wpAny (model X.prog X.w) X.A (setFlight ev none) (fun _ s3 => wpAny (model X.prog X.w) X.A (handleBy ev X.env (hd0 :: hds)) (SP X pins D) X.xe s3) X.xe s2) X.xe s1)) (wMix X.K Wo D l) := by
    rintro u s' ⟨xa, gr, sI, pins', σ1, H1, cls, dd, rfl, Jtr, onGround, ups, sky, free, sameOs, bare, wish⟩
    have Jx : Inv X pins σ1 H1 sI := Jtr.ofTry okX
    rw [show (X.tr (X.pn ++ pins) _).stack = X.env :: X.outer from stk] at sky onGround
    show wpAny (model X.prog X.w) X.A (noteFrame (.ref xa) X.env) _ _ _
    refine Sky.land Zc.steady frs_ frm sky fun ha fla upa => ?_
    have onGround' : ∀ b o, sI.heap.get? b = some o → b ∉ frs X.stack → gr.get? b = some o := by rw [stk]; exact onGround
    have Ja : Inv X pins σ1 H1 { s' with heap := ha } := Jx.landed onGround' fla.1 (ups.trans upa) sameOs bare
    obtain ⟨oa, va, geta, za, da⟩ := fla.there
    have far : xa ∉ frs (X.env :: X.outer) := fun hm => by
      obtain ⟨_, o', e', hnf⟩ := fla.2.2.1.mem hm
      rw [geta] at e'
      cases e'
      exact hnf _ da
    have notL : xa ≠ X.env.locals := fun z => far (List.mem_filterMap.mpr ⟨X.env, List.mem_cons_self, by rw [frm, z]⟩)
    have notF : xa ∉ X.fs := fun hm => by
      obtain ⟨ev, hev, q⟩ := List.mem_filterMap.mp hm
      exact far (List.mem_filterMap.mpr ⟨ev, List.mem_cons_of_mem _ hev, q⟩)
    have Sa := Ja.suite geta da free notL notF
    have named : ∀ {x : Str} {cv : Value} {np : Pos} {Qc : Value → Shared → Prop} {Ec : Value → Shared → Prop}, Names X x cv → Qc cv { s' with heap := ha } → wpAny (model X.prog X.w) (X.A.mark (some (.ref xa))) (eval (.Name x np) X.env) Qc Ec { s' with heap := ha } := by
      intro x cv np Qc Ec nm q
      obtain ⟨g, db, hm | ⟨hm, hv, hnn⟩⟩ := nm
      · exact ld_glob (X := X.suite xa ((xa, oa) :: (X.pn ++ pins))) Sa g hm q db
      · exact ld_blt (X := X.suite xa ((xa, oa) :: (X.pn ++ pins))) Sa g hm hv q hnn db
    have tyOf_ : PySem.W.Looks (model X.prog X.w) ha (typeOf (.ref xa)) cls := fun A Q E s k q => wpAny_typeOf_ref (k _ _ geta) (by rw [za.1]; exact q)
    have walk : ∀ {hs' : List ExceptHandler} {l' : Cls3}, MixOk X hs' l' → wMix X.K Wo D l' cls dd σ1 H1 → wpAny (model X.prog X.w) X.A (handleBy (.ref xa) X.env hs') (SP X pins D) X.xe { s' with heap := ha } := by
      intro hs' l' mo
      induction mo with
      | nil =>
        intro wi
        refine wpAny_handleBy_nil ?_
        obtain ⟨_, _, _, o2, v2, T2, oT, t2, g2, _, d2, f2, _⟩ := id fla
        unfold PySem.passOn
        refine wpAny_bind (wpAny_field g2 d2 f2 ?_)
        rw [if_neg (show ¬ ((Value.ref T2 == Value.none) = true) from by simp)]
        have up_again : wpAny (model X.prog X.w) X.A (setFlight (.ref xa) X.env.frame) (fun _ s4 => wpAny (model X.prog X.w) X.A (throw (.ref xa) : Sem Flow) (SP X pins D) X.xe s4) X.xe { s' with heap := ha } := by
          rw [frm]
          refine HandSPX.setFlight_upZ fla fun hq hhq upq => wpAny_throw (tk _ _ ?_)
          exact ⟨xa, gr, sI, pins, σ1, H1, cls, dd, rfl, Jx, onGround', (ups.trans upa).trans upq, .inr (.inr (by rw [stk]; exact hhq)), free, sameOs, bare, wi⟩
        first
          | exact wpAny_bind (wpAny_pure (wpAny_bind up_again))
          | exact wpAny_bind up_again
      | @plain x cv ts b0 su np q hd2 l2 nm hsu r ih =>
        rintro ⟨hit, hx, yes, no⟩
        have mt := PySem.W.exm_one (M := model X.prog X.w) (Ja.kIn) tyOf_ hx
        refine wpAny_handleBy_cons (codeAny_handlers_test ?_) (by intro q; cases q)
        refine named nm (mt.here ?_)
        cases hit with
        | false =>
          show wpAny _ X.A (handleBy (.ref xa) X.env hd2) _ _ _
          exact ih (no rfl)
        | true =>
          refine codeAny_handlers_suite (HandSPX.lands_againZ fla fun hb4 flb upb => ?_)
          have Jb : Inv X pins σ1 H1 { s' with heap := hb4 } := Jx.landed onGround' flb.1 ((ups.trans upa).trans upb) sameOs bare
          obtain ⟨ob, vb, getb, zb, db⟩ := flb.there
          refine wpAny_mono ((hsu xa ob cls dd (X.pn ++ pins) zb ⟨_, db⟩).run [] _ _ H1 _ (Jb.suite getb db free notL notF) (yes rfl xa free)) (fun fl s6 res => ?_) (fun _ _ z => False.elim z)
          cases fl with
          | next => obtain ⟨σ6, H6, S6, q6⟩ := res; exact ⟨σ6, H6, S6.unsuite okX, q6⟩
          | brk => obtain ⟨σ6, H6, S6, q6⟩ := res; exact ⟨σ6, H6, S6.unsuite okX, q6⟩
          | cont => obtain ⟨σ6, H6, S6, q6⟩ := res; exact ⟨σ6, H6, S6.unsuite okX, q6⟩
          | ret u => obtain ⟨v6, σ6, H6, S6, r6, q6⟩ := res; exact ⟨v6, σ6, H6, S6.unsuite okX, r6, q6⟩
      | @named x n i cv ts b0 su np q hd2 l2 nm hi hl hsu r ih =>
        rintro ⟨hit, hx, yes, no⟩
        have mt := PySem.W.exm_one (M := model X.prog X.w) (Ja.kIn) tyOf_ hx
        refine wpAny_handleBy_cons (codeAny_handlers_test ?_) (by intro q; cases q)
        refine named nm (mt.here ?_)
        cases hit with
        | false =>
          show wpAny _ X.A (handleBy (.ref xa) X.env hd2) _ _ _
          exact ih (no rfl)
        | true =>
          refine codeAny_handlers_suite_as (HandSPX.lands_againZ fla fun hb4 flb upb => ?_)
          have Jb : Inv X pins σ1 H1 { s' with heap := hb4 } := Jx.landed onGround' flb.1 ((ups.trans upa).trans upb) sameOs bare
          obtain ⟨ob, vb, getb, zb, db⟩ := flb.there
          have locn : Loc X.env.scope n := .inl hl
          refine store_ok (X := X.suite xa ((xa, ob) :: (X.pn ++ pins))) (v := .ref xa) (Jb.suite getb db free notL notF) hN hi locn rfl (fun s5 S5 => ?_) (.inr hl)
          refine wpAny_mono ((hsu xa ob cls dd (X.pn ++ pins) zb ⟨_, db⟩).run [] s5 _ H1 _ S5 (yes rfl xa free)) (fun fl s6 res => ?_) (fun _ _ z => False.elim z)
          cases fl with
          | next => obtain ⟨σ6, H6, S6, q6⟩ := res; exact gone_ok (S6.unsuite okX) hN hi hl fun s7 J7 => ⟨_, H6, J7, q6⟩
          | brk => obtain ⟨σ6, H6, S6, q6⟩ := res; exact gone_ok (S6.unsuite okX) hN hi hl fun s7 J7 => ⟨_, H6, J7, q6⟩
          | cont => obtain ⟨σ6, H6, S6, q6⟩ := res; exact gone_ok (S6.unsuite okX) hN hi hl fun s7 J7 => ⟨_, H6, J7, q6⟩
          | ret u => obtain ⟨v6, σ6, H6, S6, r6, q6⟩ := res; exact gone_ok (S6.unsuite okX) hN hi hl fun s7 J7 => ⟨v6, _, H6, J7, r6, q6⟩
    exact walk hh wish
  refine wpAny_mono ((hb _ (X.pn ++ pins) _ caught PassesOwn.looking).run [] s σ H D (Iv.toTry _) h) (fun fl s1 res => ?_) (fun e s1 he => he)
  cases fl with
  | next => obtain ⟨σ6, H6, S6, q6⟩ := res; exact wpAny_execs_nil ⟨σ6, H6, S6.ofTry okX, q6⟩
  | brk => obtain ⟨σ6, H6, S6, q6⟩ := res; exact ⟨σ6, H6, S6.ofTry okX, q6⟩
  | cont => obtain ⟨σ6, H6, S6, q6⟩ := res; exact ⟨σ6, H6, S6.ofTry okX, q6⟩
  | ret u => obtain ⟨v6, σ6, H6, S6, r6, q6⟩ := res; exact ⟨v6, σ6, H6, S6.ofTry okX, r6, q6⟩
end
end Ev
/-! Ev24: raise, try, a caught exception's field; a comprehension stored. -/
namespace Ev
open PySem PySem.Spec L2

/-- an __init__ of one field -/
def spX (C : Addr) (fld : Str) : Sp := fun vs H Q _ => ∃ a v, vs = [.ref a, v] ∧ H a = some (exo a C none) ∧ ∀ dx, H dx = none → dx ≠ a → Q .non (upd (upd H dx (exd dx [(fld, v)])) a (exo a C (some dx)))
/-- an exception class of the text with one field -/
structure ExOk (M : Md) (c : Nat) (fld : List Nat) : Prop where
  oc : OexC M.K (M.ca c)
  mg : M.mg (M.cn c) = some (.ref (M.ca c))
  ini : ∃ fI fd ps, PySem.W.findIn M.K (.ref (M.ca c)) "__init__" = some (some (.ref fI)) ∧ PySem.W.typeIn M.K (.ref fI) = some (.type "function") ∧ FnOk M.P M.w M.K M.mg M.base (CX M.P M.w) 1 fI fd ps (spX (M.ca c) (toStr fld)) ∧ Binds M.K fd ps []
/-- which class is beneath which; fields are read -/
structure ClsOk (M : Md) (fl : List (List Nat)) : Prop where
  sub : ∀ c d, M.T.sub c c = true → M.T.sub d d = true → PySem.W.exmOne M.K (.ref (M.ca c)) (.ref (M.ca d)) = some (M.T.sub c d)
  xf : ∀ c, M.T.sub c c = true → XfC M.K (M.ca c)
  no : ∀ c f, M.T.sub c c = true → f ∈ fl → PySem.W.findIn M.K (.ref (M.ca c)) (toStr f) = some none
section
variable {M : Md} {f : Fm} {G0 : Gh} {X : Cx} {c : CC} {a : Expr} {ia : E} {pos p1 p2 : Pos} {x : Str}
theorem Ext.same {G : Gh} {H H' : Hp} (k : ∀ b u, H b = some u → H' b = some u) : Ext G H G H' := Ext.lam (fun b u e _ => k b u e) (fun b ps e => ⟨#[], by rw [k _ _ e]; simp⟩)
theorem SI.same {G : Gh} {H H' : Hp} {m : Mem} (s : M.SI G H m) (k : ∀ b u, H b = some u → H' b = some u) : M.SI G H' m := SI.lam s (fun b u e _ => k b u e) (fun b ps e => ⟨#[], by rw [k _ _ e]; simp⟩) (tabs_keep s.tab (fun b ps e => k _ _ e) (fun b φ e => k _ _ e))
theorem R.bind_st {α β : Type} {r : R α} {g : α → Mem → R β} {e : Env} {k : β → Mem → SR} : (r.bind g).st e k = r.st e fun a m => (g a m).st e k := by cases r <;> rfl
theorem snd_raise {cl : Nat} {fld : List Nat} (XC : XCall M X f c) (eo : ExOk M cl fld) (hg : c.glb (M.cn cl) = true) (hdb : ((M.cn cl) == ("__debug__" : Str)) = false) (ha : PE X a (tE M f ia)) (hs : starB a = false) :
    PS X (.Raise (some (.Call (.Name (M.cn cl) p1) [a] [] p2)) none pos) (tS M f G0 (.raise cl [fld] (.cons ia .nil))) := by
  obtain ⟨fI, fd, ps, i1, i2, i3, i4⟩ := eo.ini
  have F1 : FnOk X.prog X.w X.K X.mg X.base (CX X.prog X.w) 1 fI fd ps (spX (M.ca cl) (toStr fld)) := by rw [XC.P, XC.w, XC.K, XC.mg, XC.base]; exact i3
  refine (ps_raise XC.calm XC.tk (pmk_oex (X := X) (C := M.ca cl) (by rw [XC.K]; exact eo.oc) (by rw [XC.K]; exact i1) (by rw [XC.K]; exact i2) F1 (XC.room.mono (by omega)) (by rw [XC.K]; exact i4) .nil (fun _ _ _ _ _ _ _ ⟨_, _, _, _, _, _, _, _, _, _, _, _, z⟩ => z.elim) (XC.ctx.glb _ hg) (by rw [XC.mg]; exact eo.mg)
    (pa_cons ha pa_nil (starEach_cons hs)) hdb (starEach_cons hs) rfl)).imp fun D σ H h => ?_
  obtain ⟨G, e, m, g0, si, er, h⟩ := h
  simp only [evS', evS, evEs, R.bind_st] at h
  show tE M f ia σ H fun v H1 => [v].length ≤ 1000 ∧ ∀ a, H1 a = none → spX (M.ca cl) (toStr fld) [.ref a, v] (upd H1 a (exo a (M.ca cl) none)) _ _
  refine TmS.st g0 si er h fun d v G1 H1 m1 x1 g1 s1 er1 r1 h1 => ⟨by simp, fun q hq => ⟨q, v, rfl, upd_same, fun dx hdx hne => ⟨rfl, dx, [(toStr fld, v)], upd_same, by rw [upd_ne hne, upd_same], ?_, ?_⟩⟩⟩
  · rw [upd_ne hne] at hdx; exact hdx
  · rw [upd_ne hne] at hdx
    have kp : ∀ b u, H1 b = some u → upd (del (upd (upd (upd H1 q (exo q (M.ca cl) none)) dx (exd dx [(toStr fld, v)])) q (exo q (M.ca cl) (some dx))) q) dx (.xd [(toStr fld, v)]) b = some u := fun b u e => by
      have n1 : b ≠ q := ne_of_none e hq
      have n2 : b ≠ dx := ne_of_none e hdx
      rw [upd_ne n2, del_ne n1, upd_ne n1, upd_ne n2, upd_ne n1]
      exact e
    have h2 : FinS M f G0 G1 H1 (.ex ⟨cl, [fld].zip [d]⟩ e m1) D := h1
    have xs := Ext.same (G := G1) kp
    refine h2 σ G1 _ (some dx) ⟨g1.trans xs, xs.kp, SI.same s1 kp, er1.mono xs s1⟩ fun fl t hl => ?_
    simp only [List.zip_cons_cons, List.zip_nil_right, List.lookup_cons, List.lookup_nil] at hl
    split at hl
    · rename_i he
      cases hl
      rw [beq_iff_eq] at he
      subst he
      exact ⟨dx, _, v, rfl, upd_same, by simp, Rep.mono xs s1 r1⟩
    · cases hl
/-! ### a caught exception's field -/
theorem snd_attr {i : Nat} {fld : List Nat} {fl : List (List Nat)} {xa : Addr} {oe : Obj} {cls : Value} {d : Option Addr} {pn : Ad} {xp : Pos} (CO : ClsOk M fl) (K : X.K = M.K) (hf : fld ∈ fl)
    (hfm : f.xa = some (xa, d, cls)) (C : CtxOk X c) (hN : c.N[i]? = some x) (hv : c.vis x = true) (hd : (x == ("__debug__" : Str)) = false) (hcd : (x == ("__classdict__" : Str)) = false) (hz : Zc cls d oe) (hoe : ∃ vs, oe.data = .fields vs) :
    PE (X.suite xa ((xa, oe) :: pn)) (.Attribute (.Name x xp) (toStr fld) pos) (tE M f (.attr i fld)) := by
  refine ⟨fun pins s σ H Q Iv h => ?_⟩
  obtain ⟨G, e, m, si, er, h⟩ := h
  simp only [evE', evE] at h
  split at h
  · rename_i y hi
    obtain ⟨b, d', e1, e2, e3⟩ := er.exc i y hi
    rw [hfm] at e1
    cases e1
    obtain ⟨t, ht, q⟩ := Fin.of si h
    obtain ⟨a2, fs, v, q1, q2, q3, q4⟩ := e3.1 fld t ht
    subst q1
    have T : XfC X.K (M.ca y.c) := by rw [K]; exact CO.xf y.c e3.2
    have no : PySem.W.findIn X.K (.ref (M.ca y.c)) (toStr fld) = some none := by rw [K]; exact CO.no y.c fld e3.2 hf
    exact (pe_xf (X := X) (te := tVar i) T no hz hoe (pe_var (X := X.suite _ ((_, oe) :: pn)) (pos := xp) (i := i) (by rw [← hN, ← C.N]) (C.vis x hv) hd hcd) (base_plain rfl)).run pins s σ H Q Iv ⟨_, e2, rfl, rfl, a2, fs, v, rfl, q2, q3, q v q4⟩
  · exact h.elim
/-! ### try -/
theorem noExc_at {e : Env} {j : Nat} {s : Slot} (h : (noExc e)[j]? = some s) (n : s ≠ .no) : e[j]? = some s ∧ ∀ x, s ≠ .exc x := by
  unfold noExc at h
  rw [List.getElem?_map] at h
  obtain ⟨t, h1, h2⟩ := Option.map_eq_some_iff.mp h
  cases t with
  | exc x => exact absurd h2.symm n
  | no => exact absurd h2.symm n
  | val d => cases h2; exact ⟨h1, fun x z => nomatch z⟩
  | own d => cases h2; exact ⟨h1, fun x z => nomatch z⟩
  | clo l cs => cases h2; exact ⟨h1, fun x z => nomatch z⟩
theorem ER.noExc {f' : Fm} {G : Gh} {H : Hp} {σ : St} {e : Env} (r : ER M f G H σ e) (h0 : f'.H0 = f.H0) : ER M f' G H σ (Ev.noExc e) where
  len := by unfold Ev.noExc; rw [List.length_map]; exact r.len
  val := fun j d q => r.val j d (noExc_at q (by simp)).1
  own := fun j c q => by rw [h0]; exact r.own j c (noExc_at q (by simp)).1
  inj := fun j k c c' a q1 q2 => r.inj j k c c' a (noExc_at q1 (by simp)).1 (noExc_at q2 (by simp)).1
  exc := fun j x q => absurd rfl ((noExc_at q (by simp)).2 x)
  clo := fun j l cs q => r.clo j l cs (noExc_at q (by simp)).1
/-- a caught exception stands at slot i -/
theorem ER.caught {f' : Fm} {G : Gh} {H : Hp} {σ : St} {e : Env} {i : Nat} {xa : Addr} {d : Option Addr} {y : Ex} (r : ER M f G H σ e) (hx : f.xa = none) (h0 : f'.H0 = f.H0) (h1 : f'.xa = some (xa, d, .ref (M.ca y.c))) (ey : ExRep M G H y d) (hy : M.T.sub y.c y.c = true) : ER M f' G H (σ.set i (some (.ref xa))) (e.set i (.exc y)) where
  len := by rw [List.length_set, List.length_set]; exact r.len
  val := fun j d' q => by
    rcases get_set q with ⟨rfl, e2⟩ | ⟨hj, q'⟩
    · cases e2
    · obtain ⟨w, a1, a2⟩ := r.val j d' q'
      exact ⟨w, by rw [List.getElem?_set_ne (fun z => hj z.symm)]; exact a1, a2⟩
  own := fun j c q => by
    rw [h0]
    rcases get_set q with ⟨rfl, e2⟩ | ⟨hj, q'⟩
    · cases e2
    · obtain ⟨a, a1, a2⟩ := r.own j c q'
      exact ⟨a, by rw [List.getElem?_set_ne (fun z => hj z.symm)]; exact a1, a2⟩
  inj := fun j k c c' a q1 q2 s1 s2 => by
    rcases get_set q1 with ⟨rfl, e2⟩ | ⟨hj, q1'⟩
    · cases e2
    · rcases get_set q2 with ⟨rfl, e2⟩ | ⟨hk, q2'⟩
      · cases e2
      · rw [List.getElem?_set_ne (fun z => hj z.symm)] at s1
        rw [List.getElem?_set_ne (fun z => hk z.symm)] at s2
        exact r.inj j k c c' a q1' q2' s1 s2
  exc := fun j x q => by
    rcases get_set q with ⟨rfl, e2⟩ | ⟨hj, q'⟩
    · cases e2
      exact ⟨xa, d, h1, set_get q r.len, ey, hy⟩
    · obtain ⟨a, d2, a1, _⟩ := r.exc j x q'
      rw [hx] at a1
      cases a1
  clo := fun j l cs q => by
    rcases get_set q with ⟨rfl, e2⟩ | ⟨hj, q'⟩
    · cases e2
    · obtain ⟨w, a1, a2⟩ := r.clo j l cs q'
      exact ⟨w, by rw [List.getElem?_set_ne (fun z => hj z.symm)]; exact a1, a2⟩
abbrev fmS (f : Fm) (oi : Option Nat) (a : Addr) (cls : Value) (d : Option Addr) : Fm := ⟨f.k, (match oi with | some _ => some (a, d, cls) | none => none), f.H0, fun _ _ _ _ => False⟩
def clsOf (M : Md) (f : Fm) (G0 : Gh) : Hs → Cls3
  | .nil => []
  | .cons cl oi b r => (.ref (M.ca cl), oi, fun a cls d => tSs M (fmS f oi a cls d) G0 b) :: clsOf M f G0 r
def hsB (sub : Nat → Nat → Bool) : Hs → Bool
  | .nil => true
  | .cons cl _ _ r => sub cl cl && hsB sub r
theorem Pst.fm {f' : Fm} {G G' : Gh} {H H' : Hp} {σ' : St} {e' : Env} {m' : Mem} (p : Pst M f G0 G H σ' e' m' G' H') (h0 : f'.H0 = f.H0) (hx : f'.xa = f.xa) : Pst M f' G0 G H σ' e' m' G' H' := ⟨by rw [h0]; exact p.g0, p.kp, p.si, p.er.fm h0 hx⟩
/-- what the clauses do, told by the evaluator -/
theorem hs_read {fl : List (List Nat)} (CO : ClsOk M fl) (hx : f.xa = none) {y : Ex} {dd : Option Addr} {D : Ends} {σ : St} {G : Gh} {H : Hp} {e : Env} {m : Mem} (g0 : Ext G0 f.H0 G H) (si : M.SI G H m) (er : ER M f G H σ e) (ey : ExRep M G H y dd) :
    ∀ {hs : Hs}, hsB M.T.sub hs = true → FinS M f G0 G H (evHs (evF M.T f.k) M.T.con M.T.sub hs y e m) D → wMix M.K f.W D (clsOf M f G0 hs) (.ref (M.ca y.c)) dd σ H
  | .nil, _, h => by
    simp only [evHs] at h
    exact h σ G H dd ⟨g0, Kp.refl, si, er⟩ ey
  | .cons cl oi b r, hb, h => by
    simp only [hsB, Bool.and_eq_true] at hb
    simp only [evHs] at h
    split at h
    · rename_i hy
      refine ⟨M.T.sub y.c cl, CO.sub y.c cl hy hb.1, fun hit a hna => ?_, fun miss => ?_⟩
      · rw [if_pos hit] at h
        cases oi with
        | none =>
          simp only at h
          refine ⟨G, e, m, g0, si, ER.fm (f' := fmS f none a (.ref (M.ca y.c)) dd) er rfl hx.symm, ?_⟩
          show FinS M (fmS f none a (.ref (M.ca y.c)) dd) G0 G H (evSs (evF M.T f.k) M.T.con M.T.sub b e m) D
          cases hr : evSs (evF M.T f.k) M.T.con M.T.sub b e m with
          | nx e1 m1 => rw [hr] at h; exact fun σ' G' H' p => h σ' G' H' (p.fm rfl hx)
          | bk e1 m1 => rw [hr] at h; exact fun σ' G' H' p => h σ' G' H' (p.fm rfl hx)
          | ct e1 m1 => rw [hr] at h; exact fun σ' G' H' p => h σ' G' H' (p.fm rfl hx)
          | rt d m1 => rw [hr] at h; exact h
          | ex z e1 m1 => rw [hr] at h; exact h.elim
          | bad => rw [hr] at h; exact h.elim
        | some i =>
          simp only at h
          refine ⟨G, e.set i (.exc y), m, g0, si, ER.caught (f' := fmS f (some i) a (.ref (M.ca y.c)) dd) er hx rfl rfl ey hy, ?_⟩
          have back : ∀ {σ' G' H' e' m'}, Pst M (fmS f (some i) a (.ref (M.ca y.c)) dd) G0 G H σ' e' m' G' H' → Pst M f G0 G H (σ'.set i none) ((Ev.noExc e').set i .no) m' G' H' := fun {σ' G' H' e' m'} p => ⟨p.g0, p.kp, p.si, (ER.noExc (f' := f) p.er rfl).wipe1⟩
          show FinS M (fmS f (some i) a (.ref (M.ca y.c)) dd) G0 G H (evSs (evF M.T f.k) M.T.con M.T.sub b (e.set i (.exc y)) m) (Ends.gone D i)
          cases hr : evSs (evF M.T f.k) M.T.con M.T.sub b (e.set i (.exc y)) m with
          | nx e1 m1 => rw [hr] at h; exact fun σ' G' H' p => h _ G' H' (back p)
          | bk e1 m1 => rw [hr] at h; exact fun σ' G' H' p => h _ G' H' (back p)
          | ct e1 m1 => rw [hr] at h; exact fun σ' G' H' p => h _ G' H' (back p)
          | rt d m1 => rw [hr] at h; exact h
          | ex z e1 m1 => rw [hr] at h; exact h.elim
          | bad => rw [hr] at h; exact h.elim
      · rw [if_neg (by rw [miss]; simp)] at h
        exact hs_read CO hx g0 si er ey hb.2 h
    · exact h.elim
theorem snd_try {fl : List (List Nat)} {sb : Ss} {hs : Hs} {body : List Stmt} {hd0 : ExceptHandler} {hds : List ExceptHandler} (CO : ClsOk M fl) (XC : XOk M X f c) (hx : f.xa = none) (stk : X.stack = X.env :: X.outer) (frm : X.env.frame = some X.env.locals)
    (hb : ∀ (W : WX) (pn : Ad) (xe : Value → Shared → Prop), Takes (X.tr pn xe) W → PassesOwn (model X.prog X.w) X.A X.env xe → PSs (X.tr pn xe) body (tSs M { f with W := W } G0 sb)) (hh : MixOk X (hd0 :: hds) (clsOf M f G0 hs)) (hsub : hsB M.T.sub hs = true) :
    PS X (.Try body (hd0 :: hds) [] [] pos) (tS M f G0 (.try_ sb hs)) := by
  refine (ps_try_mix (tb := fun W => tSs M { f with W := W } G0 sb) stk frm XC.ctx.nd XC.tk hb hh).imp fun D σ H h => ?_
  obtain ⟨G, e, m, g0, si, er, h⟩ := h
  simp only [evS', evS] at h
  rw [XC.K]
  refine ⟨G, e, m, g0, si, er.fm rfl rfl, ?_⟩
  show FinS M { f with W := wMix M.K f.W D (clsOf M f G0 hs) } G0 G H (evSs (evF M.T f.k) M.T.con M.T.sub sb e m) D
  cases hr : evSs (evF M.T f.k) M.T.con M.T.sub sb e m with
  | nx e1 m1 => rw [hr] at h; exact fun σ' G' H' p => h σ' G' H' (p.fm rfl rfl)
  | bk e1 m1 => rw [hr] at h; exact fun σ' G' H' p => h σ' G' H' (p.fm rfl rfl)
  | ct e1 m1 => rw [hr] at h; exact fun σ' G' H' p => h σ' G' H' (p.fm rfl rfl)
  | rt d m1 => rw [hr] at h; exact h
  | ex y e1 m1 =>
    rw [hr] at h
    intro σ' G' H' dd p ey
    have er' : ER M f G' H' σ' e1 := p.er.fm rfl rfl
    exact hs_read CO hx p.g0 p.si er' ey hsub (FinS.mono h p.kp)
  | bad => rw [hr] at h; exact h.elim
/-! ### a comprehension stored -/
theorem mk_read {l : L} {σ : St} {H : Hp} {Q : VK} (hl : ∀ e m cc m', evL (evF M.T f.k) M.T.con l e m = .ok cc m' → ∃ ds, cc = .lst ds) (h : tE M f (.mk l) σ H Q) : tL M f l σ H Q := by
  obtain ⟨G, e, m, si, er, h⟩ := h
  simp only [evE', evE] at h
  refine ⟨G, e, m, si, er, ?_⟩
  show Fin M f (rlL M) G H σ (evL (evF M.T f.k) M.T.con l e m) Q
  cases hr : evL (evF M.T f.k) M.T.con l e m with
  | ok cc m1 =>
    rw [hr] at h
    intro G1 H1 v x1 s1 r1
    obtain ⟨a, rfl, hn, cr, hf, ht⟩ := r1
    obtain ⟨ds, rfl⟩ := hl e m cc m1 hr
    obtain ⟨o, ho⟩ := CellRep.there cr
    refine h (G1.frz a) H1 _ (x1.thenF hn) (SI.frz s1 ho ht) ?_
    obtain ⟨xs, e1, r⟩ := cr
    exact .lst (.inl ⟨.inl e1, .inr rfl⟩) (RepL.lift Lift.frz s1 r)
  | ex y m1 => rw [hr] at h; exact h
  | bad => rw [hr] at h; exact h.elim
theorem comp_lst {F : Nat → List Arg → Mem → R D} {Cn : Nat → Option D} {t : Tg} {s : Src} {cc : To} {ie : E} {vs : List Nat} : ∀ e m c m', evL F Cn (.comp t s cc ie vs) e m = .ok c m' → ∃ ds, c = .lst ds := fun e m c m' h => by
  simp only [evL] at h
  obtain ⟨a, m1, _, h⟩ := R.bind_ok h
  split at h
  · obtain ⟨b, m2, _, h⟩ := R.bind_ok h
    cases h
    exact ⟨_, rfl⟩
  · cases h
end
end Ev
/-! Ev25: a term is held against the text's tree. -/
namespace Ev
open PySem PySem.Spec L2

/-- the tables that a check asks -/
structure Bk where
  nf : Nat → Bool
  fn : Nat → Str
  nk : Nat → Bool
  kn : Nat → Str
  cn : Nat → Str
  sub : Nat → Nat → Bool
  fl : List (List Nat)
  exf : Nat → List Nat
  kw : List (Nat × List Str × List Nat)
def mkCC (N : List Str) (sc : Scope) (q : Str) (cw calm mk att : Bool) : CC where
  N := N
  sc := sc
  vis := fun x => match sc.names.lookup x with
    | some .local => true
    | some .cell => true
    | some .free => true
    | _ => false
  glb := fun x => match sc.names.lookup x with
    | some .globalImplicit => true
    | _ => false
  loc := fun x => match sc.names.lookup x with
    | some .local => true
    | some .cell => cw
    | _ => false
  cof := fun x => match sc.names.lookup x with
    | some .cell => true
    | some .free => true
    | _ => false
  qual := q
  calm := calm
  lm := mk
  att := att
def dbgB (x : Str) : Bool := (x == ("__debug__" : Str)) == false && (x == ("__classdict__" : Str)) == false
def nmB (c : CC) (i : Nat) (x : Str) : Bool := (match c.N[i]? with | some y => y == x | none => false) && (c.vis x && dbgB x)
def bnB (c : CC) (x : Str) (s : String) : Bool := x == Str.ofString s && c.glb x
def conB : D → Expr → Bool
  | .non, .Constant .none _ _ => true
  | .bl b, .Constant (.bool b') _ _ => b == b'
  | .int i, .Constant (.int j) _ _ => i == j
  | .str s, .Constant (.str t) _ _ => s == t.cps.toList
  | _, _ => false
def opB : Bop → Operator → Bool
  | .add, .Add => true
  | .sub, .Sub => true
  | .mul, .Mult => true
  | .mod, .Mod => true
  | .div, .FloorDiv => true
  | .pow, .Pow => true
  | _, _ => false
def copB : Cop → CmpOp → Bool
  | .eq, .Eq => true
  | .ne, .NotEq => true
  | .lt, .Lt => true
  | .le, .LtE => true
  | .gt, .Gt => true
  | .ge, .GtE => true
  | .in_, .In => true
  | .nin, .NotIn => true
  | .is_, .Is => true
  | .isn, .IsNot => true
  | _, _ => false
def lnB (a b : Pos) : Bool := a.endLine == b.line
def isNonE : Expr → Bool
  | .Constant .none _ _ => true
  | _ => false
def cmpTest : Expr → Bool
  | .Compare _ [_] [_] _ => true
  | _ => false
/-- the scope that a comprehension's block runs in -/
def blkSc (scope sc : Scope) : Scope := relS scope sc
def blkCC (c : CC) (scope : Scope) : CC := { mkCC c.N (blkSc scope c.sc) c.qual true c.calm false false with
  loc := fun x => match (blkSc scope c.sc).names.lookup x with
    | some .local => true
    | some .cell => decide (scope.names.lookup x = some .cell)
    | _ => false }
abbrev Sites := List (Nat × LamI)
def nd (b : Bool) (o : Option Sites) : Option Sites := if b = true then o else none
def bt (a b : Option Sites) : Option Sites := match a, b with
  | some x, some y => some (x ++ y)
  | _, _ => none
theorem nd_some {b : Bool} {o : Option Sites} {l : Sites} (h : nd b o = some l) : b = true ∧ o = some l := by
  unfold nd at h
  split at h
  · rename_i hb; exact ⟨hb, h⟩
  · cases h
theorem bt_some {a b : Option Sites} {l : Sites} (h : bt a b = some l) : ∃ x y, a = some x ∧ b = some y ∧ l = x ++ y := by
  unfold bt at h
  split at h
  · cases h; exact ⟨_, _, rfl, rfl, rfl⟩
  · cases h
def ty1 (c : CC) (ts : List Ty) (z : Str) : Bool := match ts with
  | [t] => bnB c z (tyS t)
  | _ => false
def biS : Bi → String
  | .len => "len" | .max2 => "max" | .min2 => "min" | .int => "int" | .tuple => "tuple" | .str => "str" | .repr => "repr" | .abs => "abs"
def biC (c : CC) : Bi → Bool
  | .max2 => c.calm
  | .min2 => c.calm
  | _ => true
def meA : Me → Nat
  | .get2 => 2
  | _ => 1
def atB (c : CC) (i : Nat) (x : Str) : Bool := match c.N[i]? with
  | some y => y == x
  | none => false
/-- the names that a lambda captures, by their slots -/
def capN (c : CC) (is : List Nat) : List Str := is.map fun i => c.N.getD i default
def lamOf (c : CC) (is : List Nat) (ps : Arguments) (bd : Expr) (sc : Scope) : LamI := ⟨c.qual ++ "<lambda>", ps, bd, sc, capN c is, ps.args.map (·.arg)⟩
def lamFree (c : CC) (sc : Scope) (caps : List Str) : Bool :=
  (sc.names.all fun y => !decide (y.2 = .free) || caps.any fun x => decide (x = y.1)) && caps.all fun x => (sc.names.any fun y => decide (y.1 = x ∧ y.2 = .free)) && c.cof x
def ownOf (c : CC) (vs : List Nat) : List (Str × Nat) := vs.map fun i => (c.N.getD i default, i)
def kwAny (B : Bk) (g : Nat) (perm : List Nat) (kws : List Keyword) (es : Es) : Bool := B.kw.any fun p => decide (p.1 = g ∧ p.2.2 = perm) && (kwB kws p.2.1 && decide (es.len = p.2.1.length))
section
variable (B : Bk)
mutual
def ckE (c : CC) : E → Expr → Option Sites
  | .var i, a => match a with
    | .Name x _ => nd ((nmB c i x)) (some [])
    | _ => none
  | .con d, a => nd ((conB d a)) (some [])
  | .glo i, a => match a with
    | .Name x _ => nd ((B.nk i) && (B.kn i == x) && (c.glb x) && (dbgB x)) (some [])
    | _ => none
  | .tup es, a => match a with
    | .Tuple as _ _ => nd ((decide (es.len ≤ 1000))) (ckEs c es as)
    | _ => none
  | .mk l, a => ckL c l a
  | .mkr l, a => ckL c l a
  | .bin o p q, a => match a with
    | .BinOp x op y _ => nd ((opB o op)) (bt (ckE c p x) (ckE c q y))
    | _ => none
  | .neg p, a => match a with
    | .UnaryOp .USub x _ => ckE c p x
    | _ => none
  | .cmp o p q, a => match a with
    | .Compare x [op] [y] _ => nd ((copB o op) && (!setB y)) (bt (ckO c p x) (ckO c q y))
    | _ => none
  | .chain _ _ _ _ _, _ => none
  | .not p, a => match a with
    | .UnaryOp .Not x _ => ckO c p x
    | _ => none
  | .and p q, a => match a with
    | .BoolOp .And [x, y] _ => bt (ckE c p x) (ckE c q y)
    | .BoolOp .And (x :: y :: z :: r) pos => bt (ckE c p x) (ckE c q (.BoolOp .And (y :: z :: r) pos))
    | _ => none
  | .or p q, a => match a with
    | .BoolOp .Or [x, y] _ => bt (ckE c p x) (ckE c q y)
    | .BoolOp .Or (x :: y :: z :: r) pos => bt (ckE c p x) (ckE c q (.BoolOp .Or (y :: z :: r) pos))
    | _ => none
  | .ite t p q, a => match a with
    | .IfExp z x y _ => bt (ckT c t z) (bt (ckE c p x) (ckE c q y))
    | _ => none
  | .idx p q, a => match a with
    | .Subscript x y _ => nd ((noSlice y)) (bt (ckO c p x) (ckE c q y))
    | _ => none
  | .sl p lo hi, a => match a with
    | .Subscript x (.Slice l h none _) _ => bt (ckE c p x) (bt (ckEo c lo l) (ckEo c hi h))
    | _ => none
  | .call g as, a => match a with
    | .Call (.Name x _) es [] _ => nd ((B.nf g) && (B.fn g == x) && (c.glb x) && (dbgB x) && c.calm) (ckAs c as es)
    | _ => none
  | .callk g es perm, a => match a with
    | .Call (.Name x _) [] kws _ => nd (B.nf g && (B.fn g == x && (c.glb x && (dbgB x && (c.calm && kwAny B g perm kws es))))) (ckEs c es (kwE kws))
    | _ => none
  | .app i es, a => match a with
    | .Call (.Name x _) as [] _ => nd (c.calm && (nmB c i x)) (ckEs c es as)
    | _ => none
  | .isin o ts, a => match a with
    | .Call (.Name x _) [y, .Name z _] [] _ => nd (bnB c x "isinstance" && (ty1 c ts z && !starB y)) (ckO c o y)
    | .Call (.Name x _) [y, .Tuple zs _ _] [] _ => nd ((bnB c x "isinstance") && (tnB c.glb ts zs) && (decide (ts.length ≤ 100)) && (!starB y)) (ckO c o y)
    | _ => none
  | .bi b os, a => match a with
    | .Call (.Name x _) (y :: ys) [] _ => nd (bnB c x (biS b) && biC c b) (ckOs c os (y :: ys))
    | _ => none
  | .attr i f, a => match a with
    | .Attribute (.Name x _) nm _ => nd (c.att && (nmB c i x) && (nm == toStr f) && (B.fl.any fun g => decide (g = f))) (some [])
    | _ => none
  | .meth m o es, a => match a with
    | .Call (.Attribute x nm ap) as [] p => nd (lnB ap p && (!bareCall x && (nm == meN m && decide (es.len = meA m)))) (bt (ckO c o x) (ckEs c es as))
    | _ => none
  | .all l, a => match a with
    | .Call (.Name x _) [y] [] _ => nd (c.calm && (bnB c x "all") && (!starB y)) (ckL c l y)
    | _ => none
def ckO (c : CC) : O → Expr → Option Sites
  | .ex e, a => ckE c e a
  | .peek i, a => match a with
    | .Name x _ => nd ((nmB c i x)) (some [])
    | _ => none
def ckT (c : CC) : T → Expr → Option Sites
  | .val o, a => nd (plainTest a) (ckO c o a)
  | .cmp o p q, a => match a with
    | .Compare x [op] [y] _ => nd (copB o op && !setB y) (bt (ckO c p x) (ckO c q y))
    | _ => none
  | .not t, a => match a with
    | .UnaryOp .Not x _ => ckT c t x
    | _ => none
  | .and s t, a => match a with
    | .BoolOp .And [x, y] _ => bt (ckT c s x) (ckT c t y)
    | .BoolOp .And (x :: y :: z :: r) pos => bt (ckT c s x) (ckT c t (.BoolOp .And (y :: z :: r) pos))
    | _ => none
  | .or s t, a => match a with
    | .BoolOp .Or [x, y] _ => bt (ckT c s x) (ckT c t y)
    | .BoolOp .Or (x :: y :: z :: r) pos => bt (ckT c s x) (ckT c t (.BoolOp .Or (y :: z :: r) pos))
    | _ => none
def ckTo (c : CC) : To → List Expr → Option Sites
  | .no, [] => some []
  | .ex t, [a] => ckT c t a
  | _, _ => none
def ckEs (c : CC) : Es → List Expr → Option Sites
  | .nil, [] => some []
  | .cons e r, a :: as => nd ((!starB a)) (bt (ckE c e a) (ckEs c r as))
  | _, _ => none
def ckOs (c : CC) : Os → List Expr → Option Sites
  | .nil, [] => some []
  | .cons e r, a :: as => nd ((!starB a)) (bt (ckO c e a) (ckOs c r as))
  | _, _ => none
def ckAs (c : CC) : As → List Expr → Option Sites
  | .nil, [] => some []
  | .dat e r, a :: as => nd ((!starB a)) (bt (ckE c e a) (ckAs c r as))
  | .lam l is r, a :: as => match a with
    | .Lambda ps bd sc _ => nd (c.lm && (ps.kw_defaults.isEmpty && (ps.defaults.isEmpty && (capsB c.N is (capN c is) && lamFree c sc (capN c is))))) (bt (some [(l, lamOf c is ps bd sc)]) (ckAs c r as))
    | _ => none
  | .pas i r, a :: as => match a with
    | .Name x _ => nd (nmB c i x) (ckAs c r as)
    | _ => none
  | _, _ => none
def ckEo (c : CC) : Eo → Option Expr → Option Sites
  | .no, none => some []
  | .ex e, some a => ckE c e a
  | _, _ => none
def ckL (c : CC) : L → Expr → Option Sites
  | .disp es, a => match a with
    | .List as _ => nd ((decide (es.len ≤ 1000))) (ckEs c es as)
    | .Call (.Name x _) [] [] _ => none
    | _ => none
  | .copy o, a => match a with
    | .Call (.Name x _) [y] [] _ => nd (c.calm && (bnB c x "list") && (!starB y)) (ckO c o y)
    | _ => none
  | .comp t s cc e vs, a => match a with
    | .ListComp elt [⟨tg, iter, ifs, 0⟩] scope _ => nd (c.calm && (!setB iter && ((tgIds t).all (fun i => vs.any fun j => decide (j = i)) && blkC c.N c.sc scope (ownOf c vs))))
        (bt (ckSrc c s tg iter) (bt (ckTg (blkCC c scope) t tg) (bt (ckTo (blkCC c scope) cc ifs) (ckE (blkCC c scope) e elt))))
    | _ => none
  | .cat p q, a => match a with
    | .BinOp x .Add y _ => bt (ckO c p x) (ckO c q y)
    | _ => none
  | .slice p lo hi, a => match a with
    | .Subscript x (.Slice l h none _) _ => bt (ckO c p x) (bt (ckEo c lo l) (ckEo c hi h))
    | _ => none
  | .ddisp ks es, a => match a with
    | .Dict keys as _ => nd ((keysB ks keys) && (decide (es.len = ks.length)) && (decide (keys.length = as.length)) && !keys.isEmpty && (decide (keys.length ≤ 15))) (ckEs c es as)
    | _ => none
  | .dict l, a => match a with
    | .Call (.Name x _) [y] [] _ => nd (c.calm && (bnB c x "dict") && (!starB y)) (ckL c l y)
    | _ => none
  | .litems e, a => match a with
    | .Call (.Name x _) [.Call (.Attribute y nm ap) [] [] cp] [] _ => nd (c.calm && (bnB c x "list") && (nm == Str.ofString "items") && (!bareCall y) && (lnB ap cp)) (ckE c e y)
    | _ => none
  | .chars _, _ => none
def ckSrc (c : CC) : Src → Expr → Expr → Option Sites
  | .it e, _, a => ckE c e a
  | .rng e, _, a => match a with
    | .Call (.Name x _) [y] [] _ => nd ((bnB c x "range") && (!starB y)) (ckE c e y)
    | _ => none
  | .rng2 e g, _, a => match a with
    | .Call (.Name x _) [y, z] [] _ => nd ((bnB c x "range") && (noStars [y, z])) (bt (ckE c e y) (ckE c g z))
    | _ => none
  | .enm e, tg, a => match tg, a with
    | .Tuple _ _ _, .Call (.Name x _) [y] [] _ => nd ((bnB c x "enumerate") && (!starB y)) (ckE c e y)
    | _, _ => none
  | .zip e g, tg, a => match tg, a with
    | .Tuple _ _ _, .Call (.Name x _) [y, z] [] _ => nd ((bnB c x "zip") && (noStars [y, z])) (bt (ckE c e y) (ckE c g z))
    | _, _ => none
  | .zip3 _ _ _, _, _ => none
  | .items _, _, _ => none
def ckTg (c : CC) : Tg → Expr → Option Sites
  | .nm i, a => match a with
    | .Name x _ => nd (atB c i x && c.loc x) (some [])
    | _ => none
  | .tp is, a => match a with
    | .Tuple es _ _ => nd (c.calm && (tgB c.N c.loc es is)) (some [])
    | _ => none
  | .sk, _ => none
end
end
end Ev
/-! Ev26: a term that was held against the text tells what the text does: expressions. -/
namespace Ev
open PySem PySem.Spec L2

def bns : List String := ["len", "max", "min", "int", "tuple", "str", "repr", "abs", "isinstance", "all", "list", "dict", "range", "enumerate", "zip", "bool"]
structure BkOk (M : Md) (B : Bk) : Prop where
  md : MdOk M
  nf : ∀ i, B.nf i = M.nf i
  fn : ∀ i, B.fn i = M.fn i
  kn : ∀ i, B.nk i = true → ∃ v u d, M.mg (B.kn i) = some u ∧ RelV v u ∧ M.T.con i = some d ∧ ∀ G H, M.Rep G H v d
  kw : ∀ p ∈ B.kw, M.nf p.1 = true → KwOk M p.1 p.2.1 p.2.2
  bn : ∀ s ∈ bns, M.mg (Str.ofString s) = none
structure Good (M : Md) (B : Bk) (X : Cx) (f : Fm) (c : CC) : Prop extends XOk M X f c where
  call : c.calm = true → X.calm = true ∧ Room (2 * f.k + 2) X.A ∧ FnsOk M f.k ∧ LamsOk M f.k
  lam : c.lm = true → MakeOk M X
  att : c.att = true → ∀ (i : Nat) (fld : List Nat) (x : Str) (xp pos : Pos), fld ∈ B.fl → c.N[i]? = some x → c.vis x = true → (x == ("__debug__" : Str)) = false → (x == ("__classdict__" : Str)) = false → PE X (.Attribute (.Name x xp) (toStr fld) pos) (tE M f (.attr i fld))
section
variable {M : Md} {B : Bk} {X : Cx} {f : Fm} {c : CC} {x : Str}
theorem dbgB_ok (h : dbgB x = true) : (x == ("__debug__" : Str)) = false ∧ (x == ("__classdict__" : Str)) = false := by
  simp only [dbgB, Bool.and_eq_true, beq_iff_eq] at h
  exact h
theorem nmB_ok {i : Nat} (h : nmB c i x = true) : c.N[i]? = some x ∧ c.vis x = true ∧ (x == ("__debug__" : Str)) = false ∧ (x == ("__classdict__" : Str)) = false := by
  simp only [nmB, Bool.and_eq_true] at h
  obtain ⟨h1, h2, h3⟩ := h
  obtain ⟨h4, h5⟩ := dbgB_ok h3
  refine ⟨?_, h2, h4, h5⟩
  split at h1
  · rename_i y hy
    rw [beq_iff_eq] at h1
    rw [hy, h1]
  · cases h1
theorem bnB_ok {s : String} (h : bnB c x s = true) : x = Str.ofString s ∧ c.glb x = true := by
  simp only [bnB, Bool.and_eq_true, beq_iff_eq] at h
  exact h
theorem Good.callG (G : Good M B X f c) (h : c.calm = true) : XCall M X f c ∧ LamsOk M f.k := by
  obtain ⟨h1, h2, h3, h4⟩ := G.call h
  exact ⟨{ G.toXOk with room := h2, fns := h3, calm := h1 }, h4⟩
theorem mkCC_ok {N : List Str} {sc : Scope} {q : Str} {cw calm mk att : Bool} (h1 : X.env.scope = sc) (h2 : X.env.qual = q) (h3 : X.N = N) (h4 : N.Nodup) (h5 : cw = true → ∀ x, X.fn x = true) : CtxOk X (mkCC N sc q cw calm mk att) where
  sc := h1
  ql := h2
  N := h3
  nd := by rw [h3]; exact h4
  vis := fun x h => by
    simp only [mkCC] at h
    rw [h1]
    unfold Vis
    split at h <;> simp_all
  glb := fun x h => by
    simp only [mkCC] at h
    show X.env.scope.names.lookup x = some .globalImplicit
    rw [h1]
    split at h <;> simp_all
  loc := fun x h => by
    simp only [mkCC] at h
    rw [h1]
    unfold L2.Loc
    split at h <;> simp_all
  cof := fun x h => by
    simp only [mkCC] at h
    rw [h1]
    split at h <;> simp_all
theorem CtxOk.blk (C : CtxOk X c) (s : Shared) (H : Hp) (scope : Scope) (Ca : Addr) (cl : List (Str × Addr)) (fp : List Addr) : CtxOk (X.blk s H scope (compEnvC scope cl Ca X.env) fp) (blkCC c scope) := by
  have e : (compEnvC scope cl Ca X.env).scope = blkSc scope c.sc := by
    show relabel scope X.env = relS scope c.sc
    rw [← C.sc]
    rfl
  have base : CtxOk (X.blk s H scope (compEnvC scope cl Ca X.env) fp) (mkCC c.N (blkSc scope c.sc) c.qual false c.calm false false) := mkCC_ok e C.ql C.N (by rw [← C.N]; exact C.nd) (fun z => by cases z)
  refine ⟨base.sc, base.ql, base.N, base.nd, base.vis, base.glb, fun x h => ?_, base.cof⟩
  simp only [blkCC] at h
  show L2.Loc (compEnvC scope cl Ca X.env).scope x ∧ ((scope.names.lookup x == some .cell) = true ∨ (compEnvC scope cl Ca X.env).scope.names.lookup x = some .local)
  rw [e]
  unfold L2.Loc
  split at h <;> simp_all
theorem takes_no {X : Cx} : Takes X (fun _ _ _ _ => False) := fun _ _ ⟨_, _, _, _, _, _, _, _, _, _, _, _, _, _, _, _, z⟩ => z.elim
theorem Good.blkG (G : Good M B X f c) (s : Shared) (H : Hp) (scope : Scope) (C : Addr) (cl : List (Str × Addr)) (fp : List Addr) : Good M B (X.blk s H scope (compEnvC scope cl C X.env) fp) f.quiet (blkCC c scope) where
  P := G.P
  w := G.w
  K := G.K
  mg := G.mg
  base := G.base
  ctx := G.ctx.blk s H scope C cl fp
  un := G.un
  gd := G.gd
  tk := takes_no
  call := G.call
  lam := fun z => by cases z
  att := fun z => by cases z
theorem con_pe {d : D} {a : Expr} (h : conB d a = true) : PE X a (tE M f (.con d)) := by
  unfold conB at h
  split at h <;> first | (cases h; done) | skip
  · exact snd_con pe_non fun _ _ => .non
  · rw [beq_iff_eq] at h; subst h; exact snd_con pe_bl fun _ _ => .bl _
  · rw [beq_iff_eq] at h; subst h; exact snd_con pe_int fun _ _ => .int _
  · rename_i s t _ _
    rw [beq_iff_eq] at h
    subst h
    exact snd_con (v := .str t) pe_str fun _ _ => by
      have e : t = toStr t.cps.toList := by simp [toStr]
      have := Ev.Rep.str (K := M.K) (w := M.w) (G := ‹Gh›) (H := ‹Hp›) t.cps.toList
      rw [← e] at this
      exact this
abbrev Has (M : Md) (ls : Sites) : Prop := ∀ s ∈ ls, M.Λ s.1 = some s.2
theorem Has.l {x y : Sites} (h : Has M (x ++ y)) : Has M x := fun s hs => h s (List.mem_append_left _ hs)
theorem Has.r {x y : Sites} (h : Has M (x ++ y)) : Has M y := fun s hs => h s (List.mem_append_right _ hs)
theorem ckEs_plain : ∀ {es : Es} {as : List Expr} {ls : Sites}, ckEs B c es as = some ls → noStars as = true ∧ es.len = as.length
  | .nil, [], _, _ => ⟨rfl, rfl⟩
  | .nil, _ :: _, _, h => by simp [ckEs] at h
  | .cons _ _, [], _, h => by simp [ckEs] at h
  | .cons e r, a :: as, _, h => by
    simp only [ckEs] at h
    obtain ⟨h1, h⟩ := nd_some h
    obtain ⟨x, y, _, h2, _⟩ := bt_some h
    obtain ⟨i1, i2⟩ := ckEs_plain h2
    exact ⟨by simp only [noStars, h1, i1]; rfl, by simp only [Es.len, List.length_cons, i2]⟩
theorem ckOs_plain : ∀ {es : Os} {as : List Expr} {ls : Sites}, ckOs B c es as = some ls → noStars as = true
  | .nil, [], _, _ => rfl
  | .nil, _ :: _, _, h => by simp [ckOs] at h
  | .cons _ _, [], _, h => by simp [ckOs] at h
  | .cons e r, a :: as, _, h => by
    simp only [ckOs] at h
    obtain ⟨h1, h⟩ := nd_some h
    obtain ⟨x, y, _, h2, _⟩ := bt_some h
    simp only [noStars, h1, ckOs_plain h2]
    rfl
theorem ckAs_plain : ∀ {es : As} {as : List Expr} {ls : Sites}, ckAs B c es as = some ls → noStars as = true
  | .nil, [], _, _ => rfl
  | .nil, _ :: _, _, h => by simp [ckAs] at h
  | .dat _ _, [], _, h => by simp [ckAs] at h
  | .lam _ _ _, [], _, h => by simp [ckAs] at h
  | .pas _ _, [], _, h => by simp [ckAs] at h
  | .dat e r, a :: as, _, h => by
    simp only [ckAs] at h
    obtain ⟨h1, h⟩ := nd_some h
    obtain ⟨x, y, _, h2, _⟩ := bt_some h
    simp only [noStars, h1, ckAs_plain h2]
    rfl
  | .lam l is r, a :: as, _, h => by
    simp only [ckAs] at h
    split at h
    · obtain ⟨h1, h⟩ := nd_some h
      obtain ⟨x, y, _, h2, _⟩ := bt_some h
      simp only [noStars, ckAs_plain h2]
      rfl
    · cases h
  | .pas i r, a :: as, _, h => by
    simp only [ckAs] at h
    split at h
    · obtain ⟨h1, h⟩ := nd_some h
      simp only [noStars, ckAs_plain h]
      rfl
    · cases h
theorem Good.u (G : Good M B X f c) : X.A.units + 100 < cLine := G.un
theorem Good.bn (G : Good M B X f c) (K : BkOk M B) {s : String} (h : s ∈ bns) : X.mg (Str.ofString s) = none := by rw [G.mg]; exact K.bn s h
def opOk (G : Good M B X f c) {o : Bop} {op : Operator} (h : opB o op = true) {a b : Expr} {ia ib : E} {pos : Pos} (ha : PE X a (tE M f ia)) (hb : PE X b (tE M f ib)) : PE X (.BinOp a op b pos) (tE M f (.bin o ia ib)) := by
  cases o <;> cases op <;> first | (simp [opB] at h; done) | skip
  · exact snd_add G.K ha hb
  · exact snd_sub ha hb
  · exact snd_mul ha hb
  · exact snd_mod ha hb
  · exact snd_div ha hb
  · exact snd_pow ha hb
theorem copOk (G : Good M B X f c) {o : Cop} {op : CmpOp} (h : copB o op = true) : Nonempty (CmpK M X op o) := by
  cases o <;> cases op <;> first | (simp [copB] at h; done) | skip
  · exact ⟨ck_eq G.K G.un⟩
  · exact ⟨ck_ne G.K G.un⟩
  · exact ⟨ck_lt⟩
  · exact ⟨ck_le⟩
  · exact ⟨ck_gt⟩
  · exact ⟨ck_ge⟩
  · exact ⟨ck_in G.K G.w G.un⟩
  · exact ⟨ck_nin G.K G.w G.un⟩
  · exact ⟨ck_is⟩
  · exact ⟨ck_isn⟩
theorem biOk (G : Good M B X f c) (K : BkOk M B) {b : Bi} {x : Str} {a : Expr} {as : List Expr} {os : Os} {p pos : Pos} (hn : bnB c x (biS b) = true) (hc : biC c b = true) (ha : PA X (a :: as) (tOs M f os)) (hs : noStars (a :: as) = true) : PE X (.Call (.Name x p) (a :: as) [] pos) (tE M f (.bi b os)) := by
  obtain ⟨rfl, hg⟩ := bnB_ok hn
  have hg := G.ctx.glb _ hg
  cases b with
  | len => exact snd_len G.K hg (G.bn K (by simp [bns])) ha hs
  | max2 => exact snd_max2 (G.call hc).1 hg (G.bn K (by simp [bns])) ha hs
  | min2 => exact snd_min2 (G.call hc).1 hg (G.bn K (by simp [bns])) ha hs
  | int => exact snd_int hg (G.bn K (by simp [bns])) ha hs
  | tuple => exact snd_tuple G.K hg (G.bn K (by simp [bns])) ha hs
  | str => exact snd_str hg (G.bn K (by simp [bns])) ha hs
  | repr => exact snd_repr G.K G.gd G.un hg (G.bn K (by simp [bns])) ha hs
  | abs => exact snd_abs hg (G.bn K (by simp [bns])) ha hs
theorem meOk_ (G : Good M B X f c) {m : Me} {nm : Str} {x : Expr} {o : O} {es : Es} {as : List Expr} {ap p : Pos} (hl : lnB ap p = true) (hb : bareCall x = false) (hn : nm = meN m) (hk : es.len = meA m) (ho : PE X x (tO M f o)) (ha : EsOk M f X as es) (hs : noStars as = true) :
    PE X (.Call (.Attribute x nm ap) as [] p) (tE M f (.meth m o es)) := by
  subst hn
  cases ha with
  | nil => cases m <;> simp [Es.len, meA] at hk
  | @cons a as ia ies h1 r =>
    simp only [noStars, Bool.and_eq_true, Bool.not_eq_true'] at hs
    cases r with
    | nil =>
      cases m with
      | pop1 => exact snd_pop1 G.K ho h1 hs.1 hb hl
      | append => exact snd_appendR G.K ho h1 hs.1 hb hl
      | count => exact snd_count G.K G.un ho h1 hs.1 hb hl
      | index => exact snd_index G.K G.un ho h1 hs.1 hb hl
      | get2 => simp [Es.len, meA] at hk
    | @cons a2 as2 ia2 ies2 h2 r2 =>
      simp only [noStars, Bool.and_eq_true, Bool.not_eq_true'] at hs
      cases r2 with
      | nil =>
        cases m with
        | get2 => exact snd_get2 G.un ho h1 h2 hs.1 hs.2.1 hb hl
        | _ => simp [Es.len, meA] at hk
      | cons _ _ => cases m <;> simp [Es.len, meA] at hk
end
end Ev
set_option maxHeartbeats 0
/-! Ev27: expressions: the theorem. -/
namespace Ev
open PySem PySem.Spec L2

theorem ownOf_snd {c : CC} : ∀ vs : List Nat, (ownOf c vs).map (·.2) = vs
  | [] => rfl
  | v :: vs => by show v :: (ownOf c vs).map (·.2) = _; rw [ownOf_snd vs]
theorem blkOk_of {X : Cx} {c : CC} {scope : Scope} {vs : List Nat} (C : CtxOk X c) (h : blkC c.N c.sc scope (ownOf c vs) = true) : BlkOk X.N X.env.scope scope (ownOf c vs) := by
  rw [C.N, C.sc]
  exact blkOk_by h
theorem lamAt_of {X : Cx} {c : CC} {is : List Nat} {ps : Arguments} {bd : Expr} {sc : Scope} (C : CtxOk X c) (h : lamFree c sc (capN c is) = true) : LamAt X (lamOf c is ps bd sc) := by
  simp only [lamFree, Bool.and_eq_true, List.all_eq_true, Bool.or_eq_true, Bool.not_eq_true', decide_eq_false_iff_not, List.any_eq_true, decide_eq_true_eq] at h
  obtain ⟨h1, h2⟩ := h
  refine ⟨by show c.qual ++ _ = _; rw [C.ql], fun x => ⟨fun hx => ?_, fun hx => ?_⟩, fun x hx => C.cof x (h2 x hx).2⟩
  · rcases h1 _ hx with z | ⟨y, hy, e⟩
    · exact absurd rfl z
    · have e : y = x := e
      subst e
      exact hy
  · obtain ⟨⟨y1, y2⟩, hy, e1, e2⟩ := (h2 x hx).1
    simp only at e1 e2
    subst e1 e2
    exact hy
theorem defs_nil {ps : Arguments} {env : PySem.Env} (h1 : ps.kw_defaults.isEmpty = true) (h2 : ps.defaults.isEmpty = true) : defaultsOf ps env = ([], []) := by
  obtain ⟨a, b, c, d, e, f, g⟩ := ps
  simp only [List.isEmpty_iff] at h1 h2
  subst h1 h2
  rfl
section
variable {M : Md} {B : Bk}
theorem pk_of {X : Cx} {f : Fm} : ∀ {kws : List Keyword} {es : Es}, EsOk M f X (kwE kws) es → PK X kws (tEs M f es)
  | [], _, h => by cases h; exact snd_knil
  | ⟨nm, e, q⟩ :: kws, _, h => by
    cases h with
    | cons h r => exact snd_kcons h (pk_of r)
theorem okTg (K : BkOk M B) : ∀ (t : Tg) {X : Cx} {f : Fm} {c : CC} {a : Expr} {ls : Sites}, Good M B X f c → ckTg B c t a = some ls → PG X a (tTg M f t)
  | .nm i, X, f, c, a, ls, G, h => by
    simp only [ckTg] at h
    split at h
    · have h := (nd_some h).1
      simp only [Bool.and_eq_true] at h
      obtain ⟨h1, h2⟩ := h
      unfold atB at h1
      split at h1
      · rename_i y hy
        rw [beq_iff_eq] at h1
        exact snd_tnm G.ctx (by rw [hy, h1]) h2
      · cases h1
    · cases h
  | .tp is, X, f, c, a, ls, G, h => by
    simp only [ckTg] at h
    split at h
    · have h := (nd_some h).1
      simp only [Bool.and_eq_true] at h
      exact snd_ttp G.ctx (G.call h.1).1 G.K h.2
    · cases h
  | .sk, X, f, c, a, ls, G, h => by simp [ckTg] at h
mutual
theorem okE (K : BkOk M B) : ∀ (e : E) {X : Cx} {f : Fm} {c : CC} {a : Expr} {ls : Sites}, Good M B X f c → ckE B c e a = some ls → Has M ls → PE X a (tE M f e)
  | .var i, X, f, c, a, ls, G, h, hL => by
    simp only [ckE] at h
    split at h
    · obtain ⟨h1, h2, h3, h4⟩ := nmB_ok (nd_some h).1
      exact snd_var G.ctx h1 h2 h3 h4
    · cases h
  | .con d, X, f, c, a, ls, G, h, hL => by
    simp only [ckE] at h
    exact con_pe (nd_some h).1
  | .glo i, X, f, c, a, ls, G, h, hL => by
    simp only [ckE] at h
    split at h
    · have h := (nd_some h).1
      simp only [Bool.and_eq_true, decide_eq_true_eq, beq_iff_eq] at h
      obtain ⟨⟨⟨h1, h2⟩, h3⟩, h4⟩ := h
      obtain ⟨v, u, d, e1, e2, e3, e4⟩ := K.kn i h1
      rw [h2] at e1
      exact snd_glo e3 (pe_glob (G.ctx.glb _ h3) (by rw [G.mg]; exact e1) e2 (dbgB_ok h4).1) e4
    · cases h
  | .tup es, X, f, c, a, ls, G, h, hL => by
    simp only [ckE] at h
    split at h
    · replace h := nd_some h; obtain ⟨h1, h⟩ := h
      simp only [decide_eq_true_eq] at h1
      exact snd_tup ((okEs K es G h hL).pa (ckEs_plain h).1) h1
    · cases h
  | .mk l, X, f, c, a, ls, G, h, hL => by
    simp only [ckE] at h
    exact snd_mk (okL K l G h hL)
  | .mkr l, X, f, c, a, ls, G, h, hL => by
    simp only [ckE] at h
    exact snd_mkr (okL K l G h hL)
  | .bin o p q, X, f, c, a, ls, G, h, hL => by
    simp only [ckE] at h
    split at h
    · replace h := nd_some h; obtain ⟨h1, h⟩ := h
      obtain ⟨x, y, h2, h3, rfl⟩ := bt_some h
      exact opOk G h1 (okE K p G h2 hL.l) (okE K q G h3 hL.r)
    · cases h
  | .neg p, X, f, c, a, ls, G, h, hL => by
    simp only [ckE] at h
    split at h
    · exact snd_neg (okE K p G h hL)
    · cases h
  | .cmp o p q, X, f, c, a, ls, G, h, hL => by
    simp only [ckE] at h
    split at h
    · replace h := nd_some h; obtain ⟨h1, h⟩ := h
      simp only [Bool.and_eq_true, Bool.not_eq_true'] at h1
      obtain ⟨x, y, h2, h3, rfl⟩ := bt_some h
      obtain ⟨ck⟩ := copOk G h1.1
      exact snd_cmp ck.ho (okO K p G h2 hL.l) (okO K q G h3 hL.r) h1.2 ck.k
    · cases h
  | .chain _ _ _ _ _, X, f, c, a, ls, G, h, hL => by simp [ckE] at h
  | .not p, X, f, c, a, ls, G, h, hL => by
    simp only [ckE] at h
    split at h
    · exact snd_not G.K (okO K p G h hL)
    · cases h
  | .and p q, X, f, c, a, ls, G, h, hL => by
    simp only [ckE] at h
    split at h
    · obtain ⟨x, y, h2, h3, rfl⟩ := bt_some h
      exact snd_and G.K (okE K p G h2 hL.l) (snd_one (okE K q G h3 hL.r))
    · obtain ⟨x, y, h2, h3, rfl⟩ := bt_some h
      exact snd_and G.K (okE K p G h2 hL.l) (okE K q G h3 hL.r)
    · cases h
  | .or p q, X, f, c, a, ls, G, h, hL => by
    simp only [ckE] at h
    split at h
    · obtain ⟨x, y, h2, h3, rfl⟩ := bt_some h
      exact snd_or G.K (okE K p G h2 hL.l) (snd_one (okE K q G h3 hL.r))
    · obtain ⟨x, y, h2, h3, rfl⟩ := bt_some h
      exact snd_or G.K (okE K p G h2 hL.l) (okE K q G h3 hL.r)
    · cases h
  | .ite t p q, X, f, c, a, ls, G, h, hL => by
    simp only [ckE] at h
    split at h
    · obtain ⟨x, y, h2, h3, rfl⟩ := bt_some h
      obtain ⟨u, v, h4, h5, rfl⟩ := bt_some h3
      exact snd_ite (okT K t G h2 hL.l).1 (okE K p G h4 hL.r.l) (okE K q G h5 hL.r.r)
    · cases h
  | .idx p q, X, f, c, a, ls, G, h, hL => by
    simp only [ckE] at h
    split at h
    · replace h := nd_some h; obtain ⟨h1, h⟩ := h
      obtain ⟨x, y, h2, h3, rfl⟩ := bt_some h
      exact snd_idx G.K G.w G.un (okO K p G h2 hL.l) (okE K q G h3 hL.r) h1
    · cases h
  | .sl p lo hi, X, f, c, a, ls, G, h, hL => by
    simp only [ckE] at h
    split at h
    · obtain ⟨x, y, h2, h3, rfl⟩ := bt_some h
      obtain ⟨u, v, h4, h5, rfl⟩ := bt_some h3
      exact snd_sl G.K (okE K p G h2 hL.l) (okEo K lo G h4 hL.r.l) (okEo K hi G h5 hL.r.r)
    · cases h
  | .call g es, X, f, c, a, ls, G, h, hL => by
    simp only [ckE] at h
    split at h
    · rename_i x p as pos
      replace h := nd_some h; obtain ⟨h1, h⟩ := h
      simp only [Bool.and_eq_true, decide_eq_true_eq, beq_iff_eq] at h1
      obtain ⟨⟨⟨⟨h2, h3⟩, h4⟩, h5⟩, h6⟩ := h1
      have hn : M.fn g = x := by rw [← K.fn]; exact h3
      have hg : M.nf g = true := by rw [← K.nf]; exact h2
      have XC := (G.callG h6).1
      cases as with
      | nil =>
        cases es with
        | nil => exact snd_call0 XC K.md hg hn h4 (dbgB_ok h5).1
        | _ => simp [ckAs] at h
      | cons a as => exact snd_call XC K.md hg hn h4 (dbgB_ok h5).1 (okAs K es G h hL) (ckAs_plain h)
    · cases h
  | .callk g es perm, X, f, c, a, ls, G, h, hL => by
    simp only [ckE] at h
    split at h
    · rename_i x p kws pos
      replace h := nd_some h; obtain ⟨h1, h⟩ := h
      simp only [Bool.and_eq_true, decide_eq_true_eq, beq_iff_eq] at h1
      obtain ⟨h2, h3, h4, h5, h6, h7⟩ := h1
      have hn : M.fn g = x := by rw [← K.fn]; exact h3
      have hg : M.nf g = true := by rw [← K.nf]; exact h2
      unfold kwAny at h7
      simp only [List.any_eq_true, Bool.and_eq_true, decide_eq_true_eq] at h7
      obtain ⟨⟨p1, p2, p3⟩, hm, ⟨e1, e2⟩, e3, e4⟩ := h7
      simp only at e1 e2 e3 e4
      subst e1 e2
      exact snd_callk (G.callG h6).1 K.md hg hn h4 (dbgB_ok h5).1 (pk_of (okEs K es G h hL)) e3 (K.kw _ hm hg) e4
    · cases h
  | .app i es, X, f, c, a, ls, G, h, hL => by
    simp only [ckE] at h
    split at h
    · rename_i x p as pos
      replace h := nd_some h; obtain ⟨h1, h⟩ := h
      simp only [Bool.and_eq_true] at h1
      obtain ⟨n1, n2, n3, n4⟩ := nmB_ok h1.2
      obtain ⟨XC, lam⟩ := G.callG h1.1
      cases as with
      | nil =>
        cases es with
        | nil => exact snd_app0 XC lam n1 n2 n3 n4
        | cons _ _ => simp [ckEs] at h
      | cons a as => exact snd_app XC lam n1 n2 n3 n4 ((okEs K es G h hL).pa (ckEs_plain h).1) (ckEs_plain h).1
    · cases h
  | .isin o ts, X, f, c, a, ls, G, h, hL => by
    simp only [ckE] at h
    split at h
    · replace h := nd_some h; obtain ⟨h1, h⟩ := h
      simp only [Bool.and_eq_true, Bool.not_eq_true'] at h1
      obtain ⟨h2, h3, h4⟩ := h1
      obtain ⟨rfl, hg⟩ := bnB_ok h2
      unfold ty1 at h3
      split at h3
      · rename_i t
        obtain ⟨rfl, hg2⟩ := bnB_ok h3
        exact snd_isin1 G.K (G.ctx.glb _ hg) (G.bn K (by simp [bns])) (okO K o G h hL) h4 (G.ctx.glb _ hg2) (G.bn K (by cases t <;> simp [bns, tyS])) (by cases t <;> decide +kernel) (by cases t <;> decide +kernel)
      · cases h3
    · replace h := nd_some h; obtain ⟨h1, h⟩ := h
      simp only [Bool.and_eq_true, Bool.not_eq_true', decide_eq_true_eq] at h1
      obtain ⟨⟨⟨h2, h3⟩, h5⟩, h4⟩ := h1
      obtain ⟨rfl, hg⟩ := bnB_ok h2
      exact snd_isin G.ctx G.K (G.ctx.glb _ hg) (G.bn K (by simp [bns])) (fun t => G.bn K (by cases t <;> simp [bns, tyS])) (okO K o G h hL) h4 h3 h5
    · cases h
  | .bi b os, X, f, c, a, ls, G, h, hL => by
    simp only [ckE] at h
    split at h
    · replace h := nd_some h; obtain ⟨h1, h⟩ := h
      simp only [Bool.and_eq_true] at h1
      exact biOk G K h1.1 h1.2 (okOs K os G h hL) (ckOs_plain h)
    · cases h
  | .attr i fl, X, f, c, a, ls, G, h, hL => by
    simp only [ckE] at h
    split at h
    · have h := (nd_some h).1
      simp only [Bool.and_eq_true, beq_iff_eq, List.any_eq_true, decide_eq_true_eq] at h
      obtain ⟨⟨⟨h1, h2⟩, h3⟩, g, h4, h5⟩ := h
      subst h3 h5
      obtain ⟨n1, n2, n3, n4⟩ := nmB_ok h2
      exact G.att h1 i _ _ _ _ h4 n1 n2 n3 n4
    · cases h
  | .meth m o es, X, f, c, a, ls, G, h, hL => by
    simp only [ckE] at h
    split at h
    · replace h := nd_some h; obtain ⟨h1, h⟩ := h
      simp only [Bool.and_eq_true, Bool.not_eq_true', beq_iff_eq, decide_eq_true_eq] at h1
      obtain ⟨x, y, h2, h3, rfl⟩ := bt_some h
      exact meOk_ G h1.1 h1.2.1 h1.2.2.1 h1.2.2.2 (okO K o G h2 hL.l) (okEs K es G h3 hL.r) (ckEs_plain h3).1
    · cases h
  | .all l, X, f, c, a, ls, G, h, hL => by
    simp only [ckE] at h
    split at h
    · replace h := nd_some h; obtain ⟨h1, h⟩ := h
      simp only [Bool.and_eq_true, Bool.not_eq_true'] at h1
      obtain ⟨⟨h2, h3⟩, h4⟩ := h1
      obtain ⟨rfl, hg⟩ := bnB_ok h3
      exact snd_all G.K (G.call h2).1 (G.ctx.glb _ hg) (G.bn K (by simp [bns])) (okL K l G h hL) h4
    · cases h
termination_by structural t => t
theorem okO (K : BkOk M B) : ∀ (o : O) {X : Cx} {f : Fm} {c : CC} {a : Expr} {ls : Sites}, Good M B X f c → ckO B c o a = some ls → Has M ls → PE X a (tO M f o)
  | .ex e, X, f, c, a, ls, G, h, hL => by
    simp only [ckO] at h
    exact snd_oex (okE K e G h hL)
  | .peek i, X, f, c, a, ls, G, h, hL => by
    simp only [ckO] at h
    split at h
    · obtain ⟨h1, h2, h3, h4⟩ := nmB_ok (nd_some h).1
      exact snd_peek G.ctx h1 h2 h3 h4
    · cases h
termination_by structural t => t
theorem okT (K : BkOk M B) : ∀ (t : T) {X : Cx} {f : Fm} {c : CC} {a : Expr} {ls : Sites}, Good M B X f c → ckT B c t a = some ls → Has M ls → PT X a (tT M f t) ∧ ((∃ op as pos, a = .BoolOp op as pos) → PW X a (tT M f t))
  | .val o, X, f, c, a, ls, G, h, hL => by
    simp only [ckT] at h
    replace h := nd_some h; obtain ⟨h1, h⟩ := h
    exact ⟨snd_val G.K (okO K o G h hL) h1, fun ⟨op, as, pos, e⟩ => by subst e; simp [plainTest] at h1⟩
  | .cmp o p q, X, f, c, a, ls, G, h, hL => by
    simp only [ckT] at h
    split at h
    · replace h := nd_some h; obtain ⟨h1, h⟩ := h
      simp only [Bool.and_eq_true, Bool.not_eq_true'] at h1
      obtain ⟨u, v, h2, h3, rfl⟩ := bt_some h
      obtain ⟨ck⟩ := copOk G h1.1
      exact ⟨snd_cmpT ck.ho (okO K p G h2 hL.l) (okO K q G h3 hL.r) h1.2 ck.k, fun ⟨op, as, pos, e⟩ => nomatch e⟩
    · cases h
  | .not t, X, f, c, a, ls, G, h, hL => by
    simp only [ckT] at h
    split at h
    · exact ⟨snd_tnot (okT K t G h hL).1, fun ⟨op, as, pos, e⟩ => nomatch e⟩
    · cases h
  | .and s t, X, f, c, a, ls, G, h, hL => by
    simp only [ckT] at h
    split at h
    · obtain ⟨x, y, h2, h3, rfl⟩ := bt_some h
      have w := snd_tand (pos := ‹Pos›) (okT K s G h2 hL.l).1 (snd_tone (op := .And) (okT K t G h3 hL.r).1)
      exact ⟨w.pt, fun _ => w⟩
    · obtain ⟨x, y, h2, h3, rfl⟩ := bt_some h
      have w := snd_tand (okT K s G h2 hL.l).1 ((okT K t G h3 hL.r).2 ⟨_, _, _, rfl⟩)
      exact ⟨w.pt, fun _ => w⟩
    · cases h
  | .or s t, X, f, c, a, ls, G, h, hL => by
    simp only [ckT] at h
    split at h
    · obtain ⟨x, y, h2, h3, rfl⟩ := bt_some h
      have w := snd_tor (pos := ‹Pos›) (okT K s G h2 hL.l).1 (snd_tone (op := .Or) (okT K t G h3 hL.r).1)
      exact ⟨w.pt, fun _ => w⟩
    · obtain ⟨x, y, h2, h3, rfl⟩ := bt_some h
      have w := snd_tor (okT K s G h2 hL.l).1 ((okT K t G h3 hL.r).2 ⟨_, _, _, rfl⟩)
      exact ⟨w.pt, fun _ => w⟩
    · cases h
termination_by structural t => t
theorem okTo (K : BkOk M B) : ∀ (t : To) {X : Cx} {f : Fm} {c : CC} {as : List Expr} {ls : Sites}, Good M B X f c → ckTo B c t as = some ls → Has M ls → PTs X as (tTo M f t)
  | .no, X, f, c, [], ls, G, h, hL => snd_tsno
  | .no, X, f, c, _ :: _, ls, G, h, hL => by simp [ckTo] at h
  | .ex t, X, f, c, [a], ls, G, h, hL => by
    simp only [ckTo] at h
    exact snd_tsex (okT K t G h hL).1
  | .ex t, X, f, c, [], ls, G, h, hL => by simp [ckTo] at h
  | .ex t, X, f, c, _ :: _ :: _, ls, G, h, hL => by simp [ckTo] at h
termination_by structural t => t
theorem okEs (K : BkOk M B) : ∀ (es : Es) {X : Cx} {f : Fm} {c : CC} {as : List Expr} {ls : Sites}, Good M B X f c → ckEs B c es as = some ls → Has M ls → EsOk M f X as es
  | .nil, X, f, c, [], ls, G, h, hL => .nil
  | .nil, X, f, c, _ :: _, ls, G, h, hL => by simp [ckEs] at h
  | .cons _ _, X, f, c, [], ls, G, h, hL => by simp [ckEs] at h
  | .cons e r, X, f, c, a :: as, ls, G, h, hL => by
    simp only [ckEs] at h
    obtain ⟨x, y, h2, h3, rfl⟩ := bt_some (nd_some h).2
    exact .cons (okE K e G h2 hL.l) (okEs K r G h3 hL.r)
termination_by structural t => t
theorem okOs (K : BkOk M B) : ∀ (es : Os) {X : Cx} {f : Fm} {c : CC} {as : List Expr} {ls : Sites}, Good M B X f c → ckOs B c es as = some ls → Has M ls → PA X as (tOs M f es)
  | .nil, X, f, c, [], ls, G, h, hL => snd_onil
  | .nil, X, f, c, _ :: _, ls, G, h, hL => by simp [ckOs] at h
  | .cons _ _, X, f, c, [], ls, G, h, hL => by simp [ckOs] at h
  | .cons e r, X, f, c, a :: as, ls, G, h, hL => by
    simp only [ckOs] at h
    replace h := nd_some h; obtain ⟨h1, h⟩ := h
    simp only [Bool.not_eq_true'] at h1
    obtain ⟨x, y, h2, h3, rfl⟩ := bt_some h
    exact snd_ocons (okO K e G h2 hL.l) (okOs K r G h3 hL.r) h1
termination_by structural t => t
theorem okAs (K : BkOk M B) : ∀ (es : As) {X : Cx} {f : Fm} {c : CC} {as : List Expr} {ls : Sites}, Good M B X f c → ckAs B c es as = some ls → Has M ls → PAs X as (tAs M f X es)
  | .nil, X, f, c, [], ls, G, h, hL => pas_nil
  | .nil, X, f, c, _ :: _, ls, G, h, hL => by simp [ckAs] at h
  | .dat _ _, X, f, c, [], ls, G, h, hL => by simp [ckAs] at h
  | .lam _ _ _, X, f, c, [], ls, G, h, hL => by simp [ckAs] at h
  | .pas _ _, X, f, c, [], ls, G, h, hL => by simp [ckAs] at h
  | .dat e r, X, f, c, a :: as, ls, G, h, hL => by
    simp only [ckAs] at h
    replace h := nd_some h; obtain ⟨h1, h⟩ := h
    simp only [Bool.not_eq_true'] at h1
    obtain ⟨x, y, h2, h3, rfl⟩ := bt_some h
    exact pas_dat (okE K e G h2 hL.l) (okAs K r G h3 hL.r) h1
  | .lam l is r, X, f, c, a :: as, ls, G, h, hL => by
    simp only [ckAs] at h
    split at h
    · rename_i ps bd sc pos
      replace h := nd_some h; obtain ⟨h1, h⟩ := h
      simp only [Bool.and_eq_true] at h1
      obtain ⟨g1, g2, g3, g4, g5⟩ := h1
      obtain ⟨x, y, h2, h3, rfl⟩ := bt_some h
      cases h2
      have hI : M.Λ l = some (lamOf c is ps bd sc) := hL (l, lamOf c is ps bd sc) (List.mem_append_left _ (List.mem_singleton.mpr rfl))
      exact pas_lam (I := lamOf c is ps bd sc) G.ctx (G.lam g1) hI (lamAt_of G.ctx g5) g4 (defs_nil g2 g3) (okAs K r G h3 hL.r)
    · cases h
  | .pas i r, X, f, c, a :: as, ls, G, h, hL => by
    simp only [ckAs] at h
    split at h
    · replace h := nd_some h; obtain ⟨h1, h⟩ := h
      obtain ⟨n1, n2, n3, n4⟩ := nmB_ok h1
      exact pas_pas G.ctx n1 n2 n3 n4 (okAs K r G h hL)
    · cases h
termination_by structural t => t
theorem okEo (K : BkOk M B) : ∀ (e : Eo) {X : Cx} {f : Fm} {c : CC} {a : Option Expr} {ls : Sites}, Good M B X f c → ckEo B c e a = some ls → Has M ls → PO X a (tEo M f e)
  | .no, X, f, c, none, ls, G, h, hL => snd_eno
  | .no, X, f, c, some _, ls, G, h, hL => by simp [ckEo] at h
  | .ex e, X, f, c, some a, ls, G, h, hL => by
    simp only [ckEo] at h
    exact snd_eex (okE K e G h hL)
  | .ex e, X, f, c, none, ls, G, h, hL => by simp [ckEo] at h
termination_by structural t => t
theorem okL (K : BkOk M B) : ∀ (l : L) {X : Cx} {f : Fm} {c : CC} {a : Expr} {ls : Sites}, Good M B X f c → ckL B c l a = some ls → Has M ls → PE X a (tL M f l)
  | .disp es, X, f, c, a, ls, G, h, hL => by
    simp only [ckL] at h
    split at h
    · replace h := nd_some h; obtain ⟨h1, h⟩ := h
      simp only [decide_eq_true_eq] at h1
      exact snd_disp ((okEs K es G h hL).pa (ckEs_plain h).1) h1
    · cases h
    · cases h
  | .copy o, X, f, c, a, ls, G, h, hL => by
    simp only [ckL] at h
    split at h
    · replace h := nd_some h; obtain ⟨h1, h⟩ := h
      simp only [Bool.and_eq_true, Bool.not_eq_true'] at h1
      obtain ⟨⟨h2, h3⟩, h4⟩ := h1
      obtain ⟨rfl, hg⟩ := bnB_ok h3
      exact snd_copy G.K (G.call h2).1 (G.ctx.glb _ hg) (G.bn K (by simp [bns])) (okO K o G h hL) h4
    · cases h
  | .comp t s cc e vs, X, f, c, a, ls, G, h, hL => by
    simp only [ckL] at h
    split at h
    · rename_i elt tg iter ifs scope pos
      replace h := nd_some h; obtain ⟨h1, h⟩ := h
      simp only [Bool.and_eq_true, Bool.not_eq_true', List.all_eq_true, List.any_eq_true, decide_eq_true_eq] at h1
      obtain ⟨g1, g2, g3, g4⟩ := h1
      obtain ⟨x, y, h2, h3, rfl⟩ := bt_some h
      obtain ⟨u, v, h4, h5, rfl⟩ := bt_some h3
      obtain ⟨p, q, h6, h7, rfl⟩ := bt_some h5
      have := snd_comp (M := M) (f := f) (X := X) (own := ownOf c vs) (pos := pos) (G.call g1).1 G.ctx.nd (okSrc K s G h2 hL.l) (blkOk_of G.ctx g4)
        (fun s2 H2 C2 cl2 fp2 => okTg K t (G.blkG s2 H2 scope C2 cl2 fp2) h4) (fun s2 H2 C2 cl2 fp2 => okTo K cc (G.blkG s2 H2 scope C2 cl2 fp2) h6 hL.r.r.l) (fun s2 H2 C2 cl2 fp2 => okE K e (G.blkG s2 H2 scope C2 cl2 fp2) h7 hL.r.r.r) g2
        (fun i hi => by obtain ⟨j, hj, e⟩ := g3 i hi; rw [ownOf_snd, ← e]; exact hj)
      rw [ownOf_snd] at this
      exact this
    · cases h
  | .cat p q, X, f, c, a, ls, G, h, hL => by
    simp only [ckL] at h
    split at h
    · obtain ⟨x, y, h2, h3, rfl⟩ := bt_some h
      exact snd_cat G.K (okO K p G h2 hL.l) (okO K q G h3 hL.r)
    · cases h
  | .slice p lo hi, X, f, c, a, ls, G, h, hL => by
    simp only [ckL] at h
    split at h
    · obtain ⟨x, y, h2, h3, rfl⟩ := bt_some h
      obtain ⟨u, v, h4, h5, rfl⟩ := bt_some h3
      exact snd_slice G.K (okO K p G h2 hL.l) (okEo K lo G h4 hL.r.l) (okEo K hi G h5 hL.r.r)
    · cases h
  | .ddisp ks es, X, f, c, a, ls, G, h, hL => by
    simp only [ckL] at h
    split at h
    · replace h := nd_some h; obtain ⟨h1, h⟩ := h
      simp only [Bool.and_eq_true, Bool.not_eq_true', decide_eq_true_eq] at h1
      obtain ⟨⟨⟨⟨g1, g2⟩, g3⟩, g4⟩, g5⟩ := h1
      exact snd_ddisp g1 (okEs K es G h hL) g2 g3 (by intro z; subst z; cases g4) g5
    · cases h
  | .dict l, X, f, c, a, ls, G, h, hL => by
    simp only [ckL] at h
    split at h
    · replace h := nd_some h; obtain ⟨h1, h⟩ := h
      simp only [Bool.and_eq_true, Bool.not_eq_true'] at h1
      obtain ⟨⟨h2, h3⟩, h4⟩ := h1
      obtain ⟨rfl, hg⟩ := bnB_ok h3
      exact snd_dict G.K (G.call h2).1 (G.ctx.glb _ hg) (G.bn K (by simp [bns])) (okL K l G h hL) h4
    · cases h
  | .litems e, X, f, c, a, ls, G, h, hL => by
    simp only [ckL] at h
    split at h
    · replace h := nd_some h; obtain ⟨h1, h⟩ := h
      simp only [Bool.and_eq_true, Bool.not_eq_true', beq_iff_eq] at h1
      obtain ⟨⟨⟨⟨h2, h3⟩, h4⟩, h5⟩, h6⟩ := h1
      obtain ⟨rfl, hg⟩ := bnB_ok h3
      subst h4
      exact snd_litems (G.call h2).1 (G.ctx.glb _ hg) (G.bn K (by simp [bns])) (okE K e G h hL) h5 h6
    · cases h
  | .chars _, X, f, c, a, ls, G, h, hL => by simp [ckL] at h
termination_by structural t => t
theorem okSrc (K : BkOk M B) : ∀ (s : Src) {X : Cx} {f : Fm} {c : CC} {tg a : Expr} {ls : Sites}, Good M B X f c → ckSrc B c s tg a = some ls → Has M ls → PI X tg a (tSrc M f s)
  | .it e, X, f, c, tg, a, ls, G, h, hL => by
    simp only [ckSrc] at h
    exact snd_it G.K (okE K e G h hL)
  | .rng e, X, f, c, tg, a, ls, G, h, hL => by
    simp only [ckSrc] at h
    split at h
    · replace h := nd_some h; obtain ⟨h1, h⟩ := h
      simp only [Bool.and_eq_true, Bool.not_eq_true'] at h1
      obtain ⟨rfl, hg⟩ := bnB_ok h1.1
      exact snd_rng (G.ctx.glb _ hg) (G.bn K (by simp [bns])) (okE K e G h hL) h1.2
    · cases h
  | .rng2 e g, X, f, c, tg, a, ls, G, h, hL => by
    simp only [ckSrc] at h
    split at h
    · replace h := nd_some h; obtain ⟨h1, h⟩ := h
      simp only [Bool.and_eq_true] at h1
      obtain ⟨rfl, hg⟩ := bnB_ok h1.1
      obtain ⟨x, y, h2, h3, rfl⟩ := bt_some h
      exact snd_rng2 (G.ctx.glb _ hg) (G.bn K (by simp [bns])) (okE K e G h2 hL.l) (okE K g G h3 hL.r) h1.2
    · cases h
  | .enm e, X, f, c, tg, a, ls, G, h, hL => by
    simp only [ckSrc] at h
    split at h
    · replace h := nd_some h; obtain ⟨h1, h⟩ := h
      simp only [Bool.and_eq_true, Bool.not_eq_true'] at h1
      obtain ⟨rfl, hg⟩ := bnB_ok h1.1
      exact snd_enm G.K (G.ctx.glb _ hg) (G.bn K (by simp [bns])) (okE K e G h hL) h1.2
    · cases h
  | .zip e g, X, f, c, tg, a, ls, G, h, hL => by
    simp only [ckSrc] at h
    split at h
    · replace h := nd_some h; obtain ⟨h1, h⟩ := h
      simp only [Bool.and_eq_true] at h1
      obtain ⟨rfl, hg⟩ := bnB_ok h1.1
      obtain ⟨x, y, h2, h3, rfl⟩ := bt_some h
      exact snd_zip G.K (G.ctx.glb _ hg) (G.bn K (by simp [bns])) (okE K e G h2 hL.l) (okE K g G h3 hL.r) h1.2
    · cases h
  | .zip3 _ _ _, X, f, c, tg, a, ls, G, h, hL => by simp [ckSrc] at h
  | .items _, X, f, c, tg, a, ls, G, h, hL => by simp [ckSrc] at h
termination_by structural t => t
end
end
end Ev
/-! Ev28: statements held against the text: stores of pairs. -/
namespace Ev
open PySem PySem.Spec L2

section
variable {env : PySem.Env} {x y : Str} {a b : Expr} {px py pt pt2 : Pos} {kt k2 : Nat}
theorem swap_par (hk : env.blockKind = .function) (hx : env.kindOf x = some .local) (hy : env.kindOf y = some .local) (hne : x ≠ y) (hl : (py.line == px.line) = true) (hs : noStars [a, b] = true) (hf : [a, b].all (foldedForSure 8) = false) (hc : [a, b].all (constantsAlone 8) = false) :
    swappedStores [.Tuple [.Name x px, .Name y py] kt pt] (.Tuple [a, b] k2 pt2) env = pure (some [x, y]) := by
  have bne : ¬ (x == y) = true := fun z => hne (beq_iff_eq.mp z)
  have ed : [x, y].eraseDups.length = 2 := by
    have : [x, y].eraseDups = [x, y] := by
      rw [List.eraseDups_cons]
      have : List.filter (fun b => !b == x) [y] = [y] := by
        simp only [List.filter_cons, List.filter_nil]
        rw [if_pos]
        simp only [Bool.not_eq_true', beq_eq_false_iff_ne, ne_eq]
        exact fun z => hne z.symm
      rw [this]
      rfl
    rw [this]
    rfl
  unfold swappedStores
  simp only [hk, hx, hy, hf, hc, hl, Expr.pos, List.head?_cons, Option.map_some, Option.getD_some, List.filterMap_cons, List.filterMap_nil, beq_self_eq_true, Bool.and_self, if_true, if_false, List.length_cons, List.length_nil, ed, bne_self_eq_false, Bool.or_false, Bool.false_eq_true, Nat.zero_add, Nat.reduceAdd, Bool.true_or, Bool.not_true, Bool.or_self, pure_bind]
  rw [if_neg]
  intro z
  simp only [noStars, Bool.and_eq_true, Bool.not_eq_true'] at hs
  obtain ⟨h1, h2, _⟩ := hs
  simp only [List.any_cons, List.any_nil, Bool.or_false, Bool.or_eq_true] at z
  rcases z with z | z
  · cases a <;> first | (simp at z; done) | (simp [starB] at h1; done)
  · cases b <;> first | (simp at z; done) | (simp [starB] at h2; done)
/-- a name among them is no plain local one -/
theorem swap_none (hk : env.blockKind = .function) (hn : env.kindOf x ≠ some .local ∨ env.kindOf y ≠ some .local) : swappedStores [.Tuple [.Name x px, .Name y py] kt pt] (.Tuple [a, b] k2 pt2) env = pure none := by
  have e1 : ((env.kindOf x == some .local) && (env.kindOf y == some .local)) = false := by
    rcases hn with h | h
    · rw [show (env.kindOf x == some NameKind.local) = false from by rw [beq_eq_false_iff_ne]; exact h]; rfl
    · rw [show (env.kindOf y == some NameKind.local) = false from by rw [beq_eq_false_iff_ne]; exact h, Bool.and_false]
  unfold swappedStores
  simp only [hk, Expr.pos, List.head?_cons, Option.map_some, Option.getD_some, List.length_cons, List.length_nil, bne_self_eq_false, Bool.or_false, Nat.zero_add, Nat.reduceAdd, beq_self_eq_true, Bool.true_or, Bool.not_true, Bool.or_self, Bool.false_eq_true, if_false, pure_bind]
  split
  · rfl
  · rw [if_pos]
    rw [Bool.or_eq_true]
    left
    simp only [bne_iff_ne, ne_eq]
    intro z
    cases hx : (env.kindOf x == some NameKind.local) <;> cases hy : (env.kindOf y == some NameKind.local) <;> simp_all [List.filterMap_cons]
    all_goals (by_cases hq : py.line = px.line <;> simp_all)
end
end Ev
/-! Ev29: statements held against the text: the checks. -/
namespace Ev
open PySem PySem.Spec L2

/-- a list of one's own is held where the comprehension is stored: one line, a local name, not the block's own -/
def lcB (c : CC) (x : Str) (px : Pos) (scope : Scope) (p : Pos) : Bool := decide (c.sc.names.lookup x = some .local) && (px.line == p.line && !(scope.names.any fun (n, k) => n == x && (k == .local || k == .cell)))
/-- the store is plain: no comprehension, or one that is not swapped -/
def plainB (c : CC) (x : Str) (px : Pos) (a : Expr) : Bool := match a with
  | .ListComp _ _ scope p => !lcB c x px scope p
  | .SetComp .. => false
  | .DictComp .. => false
  | _ => true
def isLc : Expr → Bool
  | .ListComp _ [⟨_, _, _, 0⟩] _ _ => true
  | _ => false
/-- the list that a value's term makes -/
def lcOf : E → Option L
  | .mk (.comp t s cc e vs) => some (.comp t s cc e vs)
  | .mkr (.comp t s cc e vs) => some (.comp t s cc e vs)
  | _ => none
/-- a statement that stores a comprehension: the name's slot, the list -/
def lcOfS : S → Option (Nat × L)
  | .own i (.comp t s cc e vs) => some (i, .comp t s cc e vs)
  | .asg (.nm i) (.mk (.comp t s cc e vs)) => some (i, .comp t s cc e vs)
  | .asg (.nm i) (.mkr (.comp t s cc e vs)) => some (i, .comp t s cc e vs)
  | _ => none
def parB (a b : Expr) : Bool := noStars [a, b] && (!([a, b].all (foldedForSure 8)) && !([a, b].all (constantsAlone 8)))
def locB (c : CC) (x : Str) : Bool := decide (c.sc.names.lookup x = some .local)
section
variable (B : Bk)
mutual
def ckS (c : CC) : S → Stmt → Option Sites
  | .asg t e, st => match t, st with
    | .nm i, .Assign [.Name x px] a _ => nd (atB c i x && (c.loc x && plainB c x px a)) (ckE B c e a)
    | .tp is, .Assign [.Tuple es k pt] a _ => nd (c.calm && (tgB c.N c.loc es is && (!compB a && (!tupB a || (match es, a with
        | [.Name x _, .Name y _], .Tuple [_, _] _ _ => !(locB c x && locB c y)
        | _, _ => false))))) (ckE B c e a)
    | _, _ => none
  | .par i j e g, st => match st with
    | .Assign [.Tuple [.Name x px, .Name y py] _ _] (.Tuple [a, b] _ _) _ => nd (c.calm && (atB c i x && (atB c j y && (decide (i ≠ j) && (locB c x && (locB c y && (!(x == y) && ((py.line == px.line) && parB a b)))))))) (bt (ckE B c e a) (ckE B c g b))
    | _ => none
  | .own i l, st => match st with
    | .Assign [.Name x px] a _ => nd (atB c i x && (c.loc x && plainB c x px a)) (ckL B c l a)
    | _ => none
  | .frz _, _ => none
  | .exp e, st => match st with
    | .Expr a _ => nd (!compB a) (ckE B c e a)
    | _ => none
  | .oapp i e, st => match st with
    | .Expr (.Call (.Attribute (.Name x _) nm ap) [a] [] p) _ => nd (nm == Str.ofString "append" && (nmB c i x && (!starB a && lnB ap p))) (ckE B c e a)
    | _ => none
  | .oext i l, st => match st with
    | .Expr (.Call (.Attribute (.Name x _) nm ap) [a] [] p) _ => nd (nm == Str.ofString "extend" && (nmB c i x && (!starB a && lnB ap p))) (ckL B c l a)
    | _ => none
  | .oextv _ _, _ => none
  | .oset _ _ _, _ => none
  | .opop _ _, _ => none
  | .setr a k e, st => match st with
    | .Assign [.Subscript x y _] b _ => nd (noSlice y && (!compB b && !tupB b)) (bt (ckE B c a x) (bt (ckE B c k y) (ckE B c e b)))
    | _ => none
  | .ife t a b, st => match st with
    | .If x as bs _ => bt (ckT B c t x) (bt (ckSs c a as) (ckSs c b bs))
    | _ => none
  | .for_ t s b, st => match st with
    | .For tg it bd [] _ => nd (c.calm && !setB it) (bt (ckSrc B c s tg it) (bt (ckTg B c t tg) (ckSs c b bd)))
    | _ => none
  | .whl _ t b, st => match st with
    | .While x bd [] _ => nd c.calm (bt (ckT B c t x) (ckSs c b bd))
    | _ => none
  | .ret e, st => match st with
    | .Return (some a) _ => ckE B c e a
    | _ => none
  | .retn, st => match st with
    | .Return none _ => some []
    | _ => none
  | .raise cl fs es, st => match fs, es, st with
    | [fl], .cons e .nil, .Raise (some (.Call (.Name x _) [a] [] _)) none _ => nd (c.calm && (B.cn cl == x && (c.glb x && (dbgB x && (B.sub cl cl && (decide (B.exf cl = fl) && (!starB a && !fl.isEmpty))))))) (ckE B c e a)
    | _, _, _ => none
  | .try_ b hs, st => match st with
    | .Try bd (hd :: hds) [] [] _ => nd (c.calm && hsB B.sub hs) (bt (ckSs c b bd) (ckHs c hs (hd :: hds)))
    | _ => none
  | .aug _ _ _, _ => none
  | .pass, st => match st with
    | .Pass _ => some []
    | _ => none
  | .brk, st => match st with
    | .Break _ => some []
    | _ => none
  | .cnt, st => match st with
    | .Continue _ => some []
    | _ => none
def ckSs (c : CC) : Ss → List Stmt → Option Sites
  | .nil, [] => some []
  | .nil, _ :: _ => none
  | .cons s r, sts => match s with
    | .frz _ => ckSs c r sts
    | s => match sts with
      | st :: sts => match lcOfS s, st with
        | some (i, l), .Assign [.Name x px] (.ListComp el [⟨tg, it, ifs, 0⟩] sc p) _ => if lcB c x px sc p = true then nd (atB c i x) (bt (ckL B c l (.ListComp el [⟨tg, it, ifs, 0⟩] sc p)) (ckSs c r sts)) else bt (ckS c s st) (ckSs c r sts)
        | _, _ => bt (ckS c s st) (ckSs c r sts)
      | [] => none
def ckHs (c : CC) : Hs → List ExceptHandler → Option Sites
  | .nil, [] => some []
  | .cons cl oi b r, h :: hs => match oi, h with
    | none, .ExceptHandler (some (.Name x _)) none (b0 :: su) _ => nd (B.cn cl == x && (c.glb x && (dbgB x && B.sub cl cl))) (bt (ckSs { c with calm := false, lm := false, att := false } b (b0 :: su)) (ckHs c r hs))
    | some i, .ExceptHandler (some (.Name x _)) (some n) (b0 :: su) _ => nd (B.cn cl == x && (c.glb x && (dbgB x && (B.sub cl cl && (atB c i n && locB c n))))) (bt (ckSs { c with calm := false, lm := false, att := true } b (b0 :: su)) (ckHs c r hs))
    | _, _ => none
  | _, _ => none
end
end
end Ev
/-! Ev30: contexts of statements: def bodies, try bodies, except suites. -/
namespace Ev
open PySem PySem.Spec L2

/-- exceptions of the text -/
structure ExcOk (M : Md) (B : Bk) : Prop where
  cls : ClsOk M B.fl
  sub : M.T.sub = B.sub
  cn : ∀ cl, B.cn cl = M.cn cl
  ex : ∀ cl, B.sub cl cl = true → B.exf cl ≠ [] → ExOk M cl (B.exf cl)
  mg : ∀ cl, B.sub cl cl = true → M.mg (M.cn cl) = some (.ref (M.ca cl))
structure GoodS (M : Md) (B : Bk) (X : Cx) (f : Fm) (c : CC) : Prop extends Good M B X f c where
  po : c.calm = true → PassesOwn (model X.prog X.w) X.A X.env X.xe
  stk : c.calm = true → X.stack = X.env :: X.outer
  frm : c.calm = true → X.env.frame = some X.env.locals
  xn : c.calm = true → f.xa = none
  kd : X.env.blockKind = .function
  ca : c.calm = true → c.att = false
section
variable {M : Md} {B : Bk} {X : Cx} {f : Fm} {c : CC}
theorem CtxOk.tr (C : CtxOk X c) {pn : Ad} {xe : Value → Shared → Prop} : CtxOk (X.tr pn xe) c := ⟨C.sc, C.ql, C.N, C.nd, C.vis, C.glb, C.loc, C.cof⟩
theorem MakeOk.tr (h : MakeOk M X) {pn : Ad} {xe : Value → Shared → Prop} : MakeOk M (X.tr pn xe) := ⟨h.tb, h.fn⟩
theorem GoodS.tr (G : GoodS M B X f c) (hc : c.calm = true) {W : WX} {pn : Ad} {xe : Value → Shared → Prop} (tk : Takes (X.tr pn xe) W) (po : PassesOwn (model X.prog X.w) X.A X.env xe) : GoodS M B (X.tr pn xe) { f with W := W } c where
  P := G.P
  w := G.w
  K := G.K
  mg := G.mg
  base := G.base
  ctx := G.ctx.tr
  un := G.un
  gd := G.gd
  tk := tk
  call := G.call
  lam := fun h => (G.lam h).tr
  att := fun h => by rw [G.ca hc] at h; cases h
  po := fun _ => po
  stk := G.stk
  frm := G.frm
  xn := G.xn
  kd := G.kd
  ca := G.ca
theorem CtxOk.suite (C : CtxOk X c) {a : Addr} {pn : Ad} {cl lm at_ : Bool} : CtxOk (X.suite a pn) { c with calm := cl, lm := lm, att := at_ } := ⟨C.sc, C.ql, C.N, C.nd, C.vis, C.glb, C.loc, C.cof⟩
/-- an except suite -/
theorem GoodS.suite (G : GoodS M B X f c) (E : ExcOk M B) {oi : Option Nat} {a : Addr} {oe : Obj} {cls : Value} {d : Option Addr} {pn : Ad} (hz : Zc cls d oe) (hf : ∃ vs, oe.data = .fields vs) : GoodS M B (X.suite a ((a, oe) :: pn)) (fmS f oi a cls d) { c with calm := false, lm := false, att := oi.isSome } where
  P := G.P
  w := G.w
  K := G.K
  mg := G.mg
  base := G.base
  ctx := G.ctx.suite
  un := G.un
  gd := G.gd
  tk := takes_no
  call := fun h => by cases h
  lam := fun h => by cases h
  att := fun h i fld x xp pos hfl hN hv hd hcd => by
    cases oi with
    | none => cases h
    | some j => exact snd_attr (c := c) E.cls G.K hfl rfl G.ctx hN hv hd hcd hz hf
  po := fun h => by cases h
  stk := fun h => by cases h
  frm := fun h => by cases h
  xn := fun h => by cases h
  kd := G.kd
  ca := fun h => by cases h
end
end Ev
set_option maxHeartbeats 0
/-! Ev31: statements: the theorem. -/
namespace Ev
open PySem PySem.Spec L2

section
variable {M : Md} {B : Bk} {X : Cx} {f : Fm} {c : CC} {x : Str} {G0 : Gh}
theorem atB_ok {i : Nat} (h : atB c i x = true) : c.N[i]? = some x := by
  unfold atB at h
  split at h
  · rename_i y hy
    rw [beq_iff_eq] at h
    rw [hy, h]
  · cases h
theorem locB_ok (h : locB c x = true) : c.sc.names.lookup x = some .local := by simpa [locB] using h
theorem loc_of (h : c.sc.names.lookup x = some .local) (C : CtxOk X c) : X.env.kindOf x = some .local := by
  show X.env.scope.names.lookup x = _
  rw [C.sc]
  exact h
theorem plain_ok (C : CtxOk X c) {px pos : Pos} {a : Expr} (h : plainB c x px a = true) (hk : X.env.blockKind = .function) : swapsWith a (some (.Name x px)) pos.line X.env = pure false := by
  cases a <;> first | (exact noswap rfl) | (simp [plainB] at h; done) | skip
  rename_i elt gens scope p
  simp only [plainB, lcB, Bool.not_eq_true', Bool.and_eq_false_iff, decide_eq_false_iff_not] at h
  show (do return X.env.blockKind == .function && X.env.kindOf x == some .local && px.line == p.line && !(scope.names.any fun (n, k) => n == x && (k == .local || k == .cell)) : Sem Bool) = pure false
  rw [hk]
  have : (X.env.kindOf x == some NameKind.local && px.line == p.line && !(scope.names.any fun (n, k) => n == x && (k == .local || k == .cell))) = false := by
    rcases h with h | h | h
    · have : (X.env.kindOf x == some NameKind.local) = false := by
        rw [beq_eq_false_iff_ne]
        show X.env.scope.names.lookup x ≠ _
        rw [C.sc]
        exact h
      rw [this]; rfl
    · rw [h, Bool.and_false]; rfl
    · rw [h, Bool.and_false]
  simp only [beq_self_eq_true, Bool.true_and]
  rw [this]
theorem mkr_read {l : L} {σ : St} {H : Hp} {Q : VK} (h : tE M f (.mkr l) σ H Q) : tL M f l σ H Q := by
  obtain ⟨G, e, m, si, er, h⟩ := h
  simp only [evE', evE] at h
  refine ⟨G, e, m, si, er, ?_⟩
  show Fin M f (rlL M) G H σ (evL (evF M.T f.k) M.T.con l e m) Q
  cases hr : evL (evF M.T f.k) M.T.con l e m with
  | ok cc m1 =>
    rw [hr] at h
    intro G1 H1 v x1 s1 r1
    obtain ⟨a, rfl, hn, cr, hf, ht⟩ := r1
    refine h (G1.add a) H1 _ (x1.thenA hn) (SI.add s1 cr ht hf) ?_
    refine .ref ?_
    show (G1.rf ++ [a])[m1.length]? = some a
    rw [List.getElem?_append_right (by rw [s1.len]; omega), s1.len, Nat.sub_self]
    rfl
  | ex y m1 => rw [hr] at h; exact h
  | bad => rw [hr] at h; exact h.elim
theorem lc_set (K : BkOk M B) (G : GoodS M B X f c) {i : Nat} {y : Str} {py pos p : Pos} {t : Tg} {sr : Src} {cc : To} {ie : E} {vs : List Nat} {el tg it : Expr} {ifs : List Expr} {sc : Scope} {ls : Sites} (hl : ckL B c (.comp t sr cc ie vs) (.ListComp el [⟨tg, it, ifs, 0⟩] sc p) = some ls) (hL : Has M ls)
    (hi : c.N[i]? = some y) (hb : lcB c y py sc p = true) : PS X (.Assign [.Name y py] (.ListComp el [⟨tg, it, ifs, 0⟩] sc p) pos) (tAsg (tL M f (.comp t sr cc ie vs)) (gName i)) := by
  simp only [ckL] at hl
  replace hl := nd_some hl; obtain ⟨h1, h⟩ := hl
  simp only [Bool.and_eq_true, Bool.not_eq_true', List.all_eq_true, List.any_eq_true, decide_eq_true_eq] at h1
  obtain ⟨g1, g2, g3, g4⟩ := h1
  obtain ⟨x, z, h2, h3, rfl⟩ := bt_some h
  obtain ⟨u, v, h4, h5, rfl⟩ := bt_some h3
  obtain ⟨q, r, h6, h7, rfl⟩ := bt_some h5
  simp only [lcB, Bool.and_eq_true, Bool.not_eq_true', decide_eq_true_eq] at hb
  obtain ⟨b1, b2, b3⟩ := hb
  have hy : X.env.scope.names.lookup y = some .local := by rw [G.ctx.sc]; exact b1
  refine ⟨fun pins s σ H D Iv hh => ?_⟩
  refine (ps_setLc (own := ownOf c vs) (G.call g1).1 G.ctx.nd (by rw [G.ctx.N]; exact hi) hy (sw_true Iv.ok.kind hy b2 b3) (okSrc K sr G.toGood h2 hL.l) (blkOk_of G.ctx g4)
    (fun s2 H2 C2 cl2 fp2 => okTg K t (G.toGood.blkG s2 H2 sc C2 cl2 fp2) h4) (fun s2 H2 C2 cl2 fp2 => okTo K cc (G.toGood.blkG s2 H2 sc C2 cl2 fp2) h6 hL.r.r.l) (fun s2 H2 C2 cl2 fp2 => okE K ie (G.toGood.blkG s2 H2 sc C2 cl2 fp2) h7 hL.r.r.r) (folded_plain g2)).run pins s σ H D Iv ?_
  rw [ownOf_snd]
  exact lc_read (fun i hi => by obtain ⟨j, hj, e⟩ := g3 i hi; rw [← e]; exact hj) hh
theorem lcOfS_read {s : S} {i : Nat} {l : L} (h : lcOfS s = some (i, l)) : (∃ t sr cc ie vs, l = .comp t sr cc ie vs) ∧ ∀ D σ H, tS M f G0 s D σ H → tAsg (tL M f l) (gName i) D σ H := by
  unfold lcOfS at h
  split at h
  · cases h; exact ⟨⟨_, _, _, _, _, rfl⟩, fun D σ H hh => own_read hh⟩
  · cases h; exact ⟨⟨_, _, _, _, _, rfl⟩, fun D σ H hh => mk_read comp_lst (asg_read hh)⟩
  · cases h; exact ⟨⟨_, _, _, _, _, rfl⟩, fun D σ H hh => mkr_read (asg_read hh)⟩
  · cases h
theorem ckSs_cases {s : S} {r : Ss} {sts : List Stmt} {ls : Sites} (h : ckSs B c (.cons s r) sts = some ls) : (∃ i, s = .frz i ∧ ckSs B c r sts = some ls) ∨ ∃ st sts', sts = st :: sts' ∧ (bt (ckS B c s st) (ckSs B c r sts') = some ls ∨
    ∃ i l y py el tg it ifs sc p pos, lcOfS s = some (i, l) ∧ st = .Assign [.Name y py] (.ListComp el [⟨tg, it, ifs, 0⟩] sc p) pos ∧ lcB c y py sc p = true ∧ atB c i y = true ∧ bt (ckL B c l (.ListComp el [⟨tg, it, ifs, 0⟩] sc p)) (ckSs B c r sts') = some ls) := by
  cases s
  case frz i => simp only [ckSs] at h; exact .inl ⟨_, rfl, h⟩
  all_goals
    simp only [ckSs] at h
    split at h
    · refine .inr ⟨_, _, rfl, ?_⟩
      split at h
      · split at h
        · exact .inr ⟨_, _, _, _, _, _, _, _, _, _, _, ‹lcOfS _ = some _›, rfl, ‹_›, (nd_some h).1, (nd_some h).2⟩
        · exact .inl h
      · exact .inl h
    · cases h
mutual
theorem okS (K : BkOk M B) (E : ExcOk M B) : ∀ (s : S) {X : Cx} {f : Fm} {c : CC} {st : Stmt} {ls : Sites}, GoodS M B X f c → ckS B c s st = some ls → Has M ls → PS X st (tS M f G0 s)
  | .asg t e, X, f, c, st, ls, G, h, hL => by
    simp only [ckS] at h
    split at h
    · replace h := nd_some h; obtain ⟨h1, h⟩ := h
      simp only [Bool.and_eq_true] at h1
      exact snd_asg G.ctx (atB_ok h1.1) h1.2.1 (okE K e G.toGood h hL) (plain_ok G.ctx h1.2.2 G.kd)
    · replace h := nd_some h; obtain ⟨h1, h⟩ := h
      simp only [Bool.and_eq_true, Bool.not_eq_true', Bool.or_eq_true] at h1
      obtain ⟨g1, g2, g3, g4⟩ := h1
      refine snd_asgt G.ctx (G.call g1).1 G.K g2 (okE K e G.toGood h hL) g3 ?_
      rcases g4 with g4 | g4
      · exact noswapped g4
      · split at g4
        · rename_i x _ y _ a b _ _
          refine swap_none G.kd ?_
          simp only [Bool.not_eq_true', Bool.and_eq_false_iff] at g4
          rcases g4 with g4 | g4
          · left; intro z; rw [show X.env.kindOf x = X.env.scope.names.lookup x from rfl, G.ctx.sc] at z; simp [locB, z] at g4
          · right; intro z; rw [show X.env.kindOf y = X.env.scope.names.lookup y from rfl, G.ctx.sc] at z; simp [locB, z] at g4
        · cases g4
    · cases h
  | .par i j e g, X, f, c, st, ls, G, h, hL => by
    simp only [ckS] at h
    split at h
    · replace h := nd_some h; obtain ⟨h1, h⟩ := h
      simp only [Bool.and_eq_true, Bool.not_eq_true', decide_eq_true_eq, parB] at h1
      obtain ⟨g1, g2, g3, g4, g5, g6, g7, g8, g9, g10, g11⟩ := h1
      obtain ⟨u, v, h2, h3, rfl⟩ := bt_some h
      exact snd_par G.ctx (G.call g1).1 (atB_ok g2) (atB_ok g3) g4 (locB_ok g5) (locB_ok g6) (okE K e G.toGood h2 hL.l) (okE K g G.toGood h3 hL.r) g9
        (swap_par G.kd (loc_of (locB_ok g5) G.ctx) (loc_of (locB_ok g6) G.ctx) (by intro z; subst z; simp at g7) g8 g9 g10 g11)
    · cases h
  | .own i l, X, f, c, st, ls, G, h, hL => by
    simp only [ckS] at h
    split at h
    · replace h := nd_some h; obtain ⟨h1, h⟩ := h
      simp only [Bool.and_eq_true] at h1
      exact snd_own G.ctx (atB_ok h1.1) h1.2.1 (okL K l G.toGood h hL) (plain_ok G.ctx h1.2.2 G.kd)
    · cases h
  | .frz _, X, f, c, st, ls, G, h, hL => by simp [ckS] at h
  | .exp e, X, f, c, st, ls, G, h, hL => by
    simp only [ckS] at h
    split at h
    · replace h := nd_some h; obtain ⟨h1, h⟩ := h
      simp only [Bool.not_eq_true'] at h1
      exact snd_exp (okE K e G.toGood h hL) h1
    · cases h
  | .oapp i e, X, f, c, st, ls, G, h, hL => by
    simp only [ckS] at h
    split at h
    · replace h := nd_some h; obtain ⟨h1, h⟩ := h
      simp only [Bool.and_eq_true, Bool.not_eq_true', beq_iff_eq] at h1
      obtain ⟨rfl, g2, g3, g4⟩ := h1
      obtain ⟨n1, n2, n3, n4⟩ := nmB_ok g2
      exact snd_oapp G.ctx n1 n2 n3 n4 G.K (okE K e G.toGood ‹_› hL) g3 g4
    · cases h
  | .oext i l, X, f, c, st, ls, G, h, hL => by
    simp only [ckS] at h
    split at h
    · replace h := nd_some h; obtain ⟨h1, h⟩ := h
      simp only [Bool.and_eq_true, Bool.not_eq_true', beq_iff_eq] at h1
      obtain ⟨rfl, g2, g3, g4⟩ := h1
      obtain ⟨n1, n2, n3, n4⟩ := nmB_ok g2
      exact snd_oext G.ctx n1 n2 n3 n4 G.K (okL K l G.toGood ‹_› hL) g3 g4
    · cases h
  | .oextv _ _, X, f, c, st, ls, G, h, hL => by simp [ckS] at h
  | .oset _ _ _, X, f, c, st, ls, G, h, hL => by simp [ckS] at h
  | .opop _ _, X, f, c, st, ls, G, h, hL => by simp [ckS] at h
  | .aug _ _ _, X, f, c, st, ls, G, h, hL => by simp [ckS] at h
  | .setr a k e, X, f, c, st, ls, G, h, hL => by
    simp only [ckS] at h
    split at h
    · replace h := nd_some h; obtain ⟨h1, h⟩ := h
      simp only [Bool.and_eq_true, Bool.not_eq_true'] at h1
      obtain ⟨u, v, h2, h3, rfl⟩ := bt_some h
      obtain ⟨p, q, h4, h5, rfl⟩ := bt_some h3
      exact snd_setr G.un (okE K a G.toGood h2 hL.l) (okE K k G.toGood h4 hL.r.l) (okE K e G.toGood h5 hL.r.r) h1.1 h1.2.1 h1.2.2
    · cases h
  | .ife t a b, X, f, c, st, ls, G, h, hL => by
    simp only [ckS] at h
    split at h
    · obtain ⟨u, v, h2, h3, rfl⟩ := bt_some h
      obtain ⟨p, q, h4, h5, rfl⟩ := bt_some h3
      exact snd_ife (okT K t G.toGood h2 hL.l).1 (okSs K E a G h4 hL.r.l) (okSs K E b G h5 hL.r.r)
    · cases h
  | .for_ t s b, X, f, c, st, ls, G, h, hL => by
    simp only [ckS] at h
    split at h
    · replace h := nd_some h; obtain ⟨h1, h⟩ := h
      simp only [Bool.and_eq_true, Bool.not_eq_true'] at h1
      obtain ⟨u, v, h2, h3, rfl⟩ := bt_some h
      obtain ⟨p, q, h4, h5, rfl⟩ := bt_some h3
      exact snd_for (G.po h1.1) (G.call h1.1).1 (okSrc K s G.toGood h2 hL.l) (okTg K t G.toGood h4) (okSs K E b G h5 hL.r.r) h1.2
    · cases h
  | .whl n t b, X, f, c, st, ls, G, h, hL => by
    simp only [ckS] at h
    split at h
    · replace h := nd_some h; obtain ⟨h1, h⟩ := h
      obtain ⟨u, v, h2, h3, rfl⟩ := bt_some h
      exact snd_whl (G.po h1) (okT K t G.toGood h2 hL.l).1 (okSs K E b G h3 hL.r)
    · cases h
  | .ret e, X, f, c, st, ls, G, h, hL => by
    simp only [ckS] at h
    split at h
    · exact snd_ret (okE K e G.toGood h hL)
    · cases h
  | .retn, X, f, c, st, ls, G, h, hL => by
    simp only [ckS] at h
    split at h
    · exact snd_retn
    · cases h
  | .raise cl fs es, X, f, c, st, ls, G, h, hL => by
    simp only [ckS] at h
    split at h
    · replace h := nd_some h; obtain ⟨h1, h⟩ := h
      simp only [Bool.and_eq_true, Bool.not_eq_true', beq_iff_eq, decide_eq_true_eq] at h1
      obtain ⟨g1, g2, g3, g4, g5, g6, g7, g8⟩ := h1
      rw [E.cn] at g2
      subst g2
      have eo := E.ex cl g5 (by rw [g6]; intro z; rw [z] at g8; cases g8)
      rw [g6] at eo
      exact snd_raise (G.callG g1).1 eo g3 (dbgB_ok g4).1 (okE K _ G.toGood ‹_› hL) g7
    · cases h
  | .try_ b hs, X, f, c, st, ls, G, h, hL => by
    simp only [ckS] at h
    split at h
    · replace h := nd_some h; obtain ⟨h1, h⟩ := h
      simp only [Bool.and_eq_true] at h1
      obtain ⟨u, v, h2, h3, rfl⟩ := bt_some h
      exact snd_try E.cls G.toXOk (G.xn h1.1) (G.stk h1.1) (G.frm h1.1) (fun W pn xe tk po => okSs K E b (G.tr h1.1 tk po) h2 hL.l) (okHs K E hs G h3 hL.r) (by rw [E.sub]; exact h1.2)
    · cases h
  | .pass, X, f, c, st, ls, G, h, hL => by
    simp only [ckS] at h
    split at h
    · exact snd_pass
    · cases h
  | .brk, X, f, c, st, ls, G, h, hL => by
    simp only [ckS] at h
    split at h
    · exact snd_brk
    · cases h
  | .cnt, X, f, c, st, ls, G, h, hL => by
    simp only [ckS] at h
    split at h
    · exact snd_cnt
    · cases h
termination_by structural t => t
theorem okSs (K : BkOk M B) (E : ExcOk M B) : ∀ (s : Ss) {X : Cx} {f : Fm} {c : CC} {sts : List Stmt} {ls : Sites}, GoodS M B X f c → ckSs B c s sts = some ls → Has M ls → PSs X sts (tSs M f G0 s)
  | .nil, X, f, c, [], ls, G, h, hL => snd_snil
  | .nil, X, f, c, _ :: _, ls, G, h, hL => by simp [ckSs] at h
  | .cons s r, X, f, c, sts, ls, G, h, hL => by
    have other : ∀ {st : Stmt} {sts : List Stmt} {ls : Sites}, bt (ckS B c s st) (ckSs B c r sts) = some ls → Has M ls → PSs X (st :: sts) (tSs M f G0 (.cons s r)) := fun {st sts ls} h hL => by
      obtain ⟨u, v, h2, h3, rfl⟩ := bt_some h
      exact snd_scons (okS K E s G h2 hL.l) (okSs K E r G h3 hL.r)
    rcases ckSs_cases h with ⟨i, e, h⟩ | ⟨st, sts', e, h | ⟨i, l, y, py, el, tg, it, ifs, sc, p, pos, e1, e2, e3, e4, h⟩⟩
    · rw [e]
      exact snd_frz (okSs K E r G h hL)
    · rw [e]
      exact other h hL
    · obtain ⟨u, v, h2, h3, rfl⟩ := bt_some h
      rw [e, e2]
      obtain ⟨⟨t, sr, cc, ie, vs, e5⟩, rd⟩ := lcOfS_read (M := M) (f := f) (G0 := G0) e1
      subst e5
      exact snd_scons ((lc_set K G h2 hL.l (atB_ok e4) e3).imp rd) (okSs K E r G h3 hL.r)
termination_by structural t => t
theorem okHs (K : BkOk M B) (E : ExcOk M B) : ∀ (hs : Hs) {X : Cx} {f : Fm} {c : CC} {hds : List ExceptHandler} {ls : Sites}, GoodS M B X f c → ckHs B c hs hds = some ls → Has M ls → MixOk X hds (clsOf M f G0 hs)
  | .nil, X, f, c, [], ls, G, h, hL => .nil
  | .nil, X, f, c, _ :: _, ls, G, h, hL => by simp [ckHs] at h
  | .cons cl oi b r, X, f, c, [], ls, G, h, hL => by simp [ckHs] at h
  | .cons cl oi b r, X, f, c, hd :: hds, ls, G, h, hL => by
    simp only [ckHs] at h
    split at h
    · replace h := nd_some h; obtain ⟨h1, h⟩ := h
      simp only [Bool.and_eq_true, beq_iff_eq] at h1
      obtain ⟨g1, g2, g3, g4⟩ := h1
      obtain ⟨u, v, h2, h3, rfl⟩ := bt_some h
      rw [E.cn] at g1
      subst g1
      exact .plain ⟨G.ctx.glb _ g2, (dbgB_ok g3).1, .inl (by rw [G.mg]; exact E.mg cl g4)⟩ (fun a oe cls d pn hz hf => okSs K E b (G.suite E (oi := none) hz hf) h2 hL.l) (okHs K E r G h3 hL.r)
    · replace h := nd_some h; obtain ⟨h1, h⟩ := h
      simp only [Bool.and_eq_true, beq_iff_eq] at h1
      obtain ⟨g1, g2, g3, g4, g5, g6⟩ := h1
      obtain ⟨u, v, h2, h3, rfl⟩ := bt_some h
      rw [E.cn] at g1
      subst g1
      rename_i i _ _ _ _ _ _ _
      exact .named ⟨G.ctx.glb _ g2, (dbgB_ok g3).1, .inl (by rw [G.mg]; exact E.mg cl g4)⟩ (by rw [G.ctx.N]; exact atB_ok g5) (loc_of (locB_ok g6) G.ctx) (fun a oe cls d pn hz hf => okSs K E b (G.suite E (oi := some _) hz hf) h2 hL.l) (okHs K E r G h3 hL.r)
    · cases h
termination_by structural t => t
end
end
end Ev
/-! Ev32: a def whose body was held against its term keeps its promise. -/
namespace Ev
open PySem PySem.Spec L2

/-- what is known of a def of the text -/
structure FnFact (M : Md) (B : Bk) (fid : Nat) (name qual : Str) (params : Arguments) (body : List Stmt) (scope : Scope) (N : List Str) (fn : Fn) (lm : Bool) : Prop where
  at_ : ∃ (oc : Value) (od : Option Addr) (osl : Array (Option Value)) (dV kV doc pm cdv ct : Value) (an : Option Addr), M.K.lookup (M.fa fid) = some ⟨oc, od, .func (PySem.W.fnOf name qual params body scope dV kV doc pm an cdv ct), osl⟩ ∧
    M.fd fid = PySem.W.fnOf name qual params body scope dV kV doc pm an cdv ct ∧ PySem.W.codeIn M.K cdv qual = true ∧
    (lm = true → ∃ cc P, cdv = .ref cc ∧ LamX.TabB M.base M.mg cc P ∧ (P, qual ++ ".<locals>." ++ "<lambda>") ∈ M.tabs ∧ ∀ p ∈ M.tabs, p.1 = P → p.2 = qual ++ ".<locals>." ++ "<lambda>")
  sc : FnScope N (M.ps fid) scope
  tf : M.T.fns fid = some fn
  ns : fn.ns = N.length
  np : fn.np = (M.ps fid).length
  ck : ∃ ls, ckSs B (mkCC N scope (qual ++ ".<locals>.") true true lm false) fn.body body = some ls ∧ Has M ls
  ak : scope.kind.isAnnotationScope = false
section
variable {M : Md} {B : Bk}
theorem fnG_of (K : BkOk M B) (E : ExcOk M B) {fid : Nat} {name qual : Str} {params : Arguments} {body : List Stmt} {scope : Scope} {N : List Str} {fn : Fn} {lm : Bool} (F : FnFact M B fid name qual params body scope N fn lm) {k : Nat} (fns : FnsOk M k) (lams : LamsOk M k) : FnG M (k + 1) (2 * (k + 1) + 2) fid := by
  refine ⟨fun A outer s H args us vs Q E1 gd hr e0 hb r hsp => ?_⟩
  obtain ⟨oc, od, osl, dV, kV, doc, pm, cdv, ct, an, lk, hfd, hcd, hlm⟩ := F.at_
  obtain ⟨ls, hck, hhas⟩ := F.ck
  obtain ⟨G, ds, m, si, ra, hl, hev⟩ := hsp
  rw [hfd] at hb
  refine LamX.run_ofS (CX := CX M.P M.w) (N := N) (ps := M.ps fid) (k := 2 * k + 3) lk hcd F.sc (hr.mono (by omega)) e0 hb r hl fun room => ?_
  have gs : GoodS M B (cxOf (CX M.P M.w) M.P M.w M.K M.mg M.base N qual scope (M.fa fid) cdv A outer s H E1) ⟨k, none, H, fun cls d _ H' => E1 cls d H'⟩ (mkCC N scope (qual ++ ".<locals>.") true true lm false) :=
    { P := rfl, w := rfl, K := rfl, mg := rfl, base := rfl
      ctx := mkCC_ok rfl rfl rfl F.sc.nd (fun _ _ => rfl)
      un := by have := room.un; show (A.deeper (PyProof.Rows.envOfC qual scope s.heap.objs.size (M.fa fid) cdv)).units + 100 < cLine; omega
      gd := gd
      tk := takes_of rfl rfl rfl rfl
      call := fun _ => ⟨rfl, room.mono (by show 2 * k + 2 ≤ 2 * k + 3; omega), fns, lams⟩
      lam := fun h => by
        obtain ⟨cc, P, e, tb, h1, h2⟩ := hlm h
        exact ⟨⟨cc, P, tb, e, h1, h2⟩, fun _ => rfl⟩
      att := fun h => by cases h
      po := fun _ => passes_of rfl
      stk := fun _ => rfl
      frm := fun _ => rfl
      xn := fun _ => rfl
      kd := by
        show (if scope.kind.isAnnotationScope then ScopeKind.function else scope.kind) = .function
        rw [F.ak]
        exact F.sc.kind
      ca := fun _ => rfl }
  refine ⟨_, okSs (G0 := G) K E fn.body gs hck hhas, G, argsE fn.ns ds, m, Ext.refl, si, ?_, ?_⟩
  · rw [F.ns]
    have : ds.length ≤ N.length := by
      have h1 := congrArg List.length F.sc.pre
      rw [List.length_take] at h1
      rw [← ra.len, hl]
      omega
    exact ER.start ra this
  · have hlen : ds.length = fn.np := by rw [← ra.len, hl, F.np]
    have hcall : evF M.T (k + 1) fid ds m = (evSs (evF M.T k) M.T.con M.T.sub fn.body (argsE fn.ns ds) m).out := by
      show (match M.T.fns fid with | some fn => if ds.length = fn.np then (evSs (evF M.T k) M.T.con M.T.sub fn.body (argsE fn.ns ds) m).out else .bad | none => .bad) = _
      rw [F.tf]
      simp only
      rw [if_pos hlen]
    rw [hcall] at hev
    show FinS M ⟨k, none, H, fun cls d _ H' => E1 cls d H'⟩ G G H (evSs (evF M.T k) M.T.con M.T.sub fn.body (argsE fn.ns ds) m) _
    cases hr : evSs (evF M.T k) M.T.con M.T.sub fn.body (argsE fn.ns ds) m with
    | nx e1 m1 => rw [hr] at hev; exact fun σ' G' H' p => hev G' H' .non p.g0 p.si .non
    | rt d m1 => rw [hr] at hev; exact fun v G' H' x1 s1 q => hev G' H' v x1 s1 q
    | ex y e1 m1 => rw [hr] at hev; exact fun σ' G' H' dd p q => hev G' H' dd p.g0 p.si q
    | bk e1 m1 => rw [hr] at hev; exact hev.elim
    | ct e1 m1 => rw [hr] at hev; exact hev.elim
    | bad => rw [hr] at hev; exact hev.elim
end
end Ev
/-! Ev33: all defs and lambdas keep their promises, at every depth. -/
namespace Ev
open PySem PySem.Spec L2

/-- a lambda's body was held against its term -/
def LamCk (M : Md) (B : Bk) (l : Nat) (I : LamI) : Prop := LamFact I ∧ ∃ fn ib N, M.T.fns l = some fn ∧ fn.body = .cons (.ret ib) .nil ∧ fn.np = I.caps.length + I.ps.length ∧ N.take (I.caps.length + I.ps.length) = I.caps ++ I.ps ∧ fn.ns = N.length ∧ N.Nodup ∧
  ∃ ls, ckE B (mkCC N I.scope (I.qual ++ ".<locals>.") false true false false) ib I.body = some ls ∧ Has M ls
section
variable {M : Md} {B : Bk}
theorem lams_of (K : BkOk M B) (hl : ∀ l I, M.Λ l = some I → LamCk M B l I) {k : Nat} (fns : FnsOk M k) (lams : LamsOk M k) : LamsOk M (k + 1) := fun l I hI => by
  obtain ⟨LF, fn, ib, N, t1, t2, t3, t4, t5, t6, ls, ck, has⟩ := hl l I hI
  refine ⟨LF, fun k' hk => ?_⟩
  cases hk
  refine ⟨fn, ib, N, t1, t2, t3, t4, t5, t6, fun A outer s H E g c' cl gd room => ?_⟩
  have gs : Good M B (lamC M A outer s H E I N g c' cl) ⟨k, none, H, fun cls d _ H' => E cls d H'⟩ (mkCC N I.scope (I.qual ++ ".<locals>.") false true false false) :=
    { P := rfl, w := rfl, K := rfl, mg := rfl, base := rfl
      ctx := mkCC_ok rfl rfl rfl t6 (fun z => by cases z)
      un := by have := room.un; show (A.deeper (envL I s.heap.objs.size g c' cl)).units + 100 < cLine; omega
      gd := gd
      tk := lamC_takes
      call := fun _ => ⟨rfl, room, fns, lams⟩
      lam := fun h => by cases h
      att := fun h => by cases h }
  exact okE K ib gs ck has
theorem all_ok (K : BkOk M B) (E : ExcOk M B) (hf : ∀ fid, M.nf fid = true → ∃ name qual params body scope N fn lm, FnFact M B fid name qual params body scope N fn lm) (hl : ∀ l I, M.Λ l = some I → LamCk M B l I) : ∀ k, FnsOk M k ∧ LamsOk M k
  | 0 => ⟨fun fid _ => ⟨fun A outer s H args us vs Q E gd hr e0 hb r hsp => by obtain ⟨G, ds, m, _, _, _, h⟩ := hsp; exact h.elim⟩, fun l I hI => ⟨(hl l I hI).1, fun k' hk => by cases hk⟩⟩
  | k + 1 => by
    obtain ⟨h1, h2⟩ := all_ok K E hf hl k
    refine ⟨fun fid hfid => ?_, lams_of K hl h1 h2⟩
    obtain ⟨name, qual, params, body, scope, N, fn, lm, F⟩ := hf fid hfid
    exact fnG_of K E F h1 h2
end
end Ev
/-! Ev34: the end of a row: the law is called with the script; tables of code are tracked, the script is frozen or of the module. -/
namespace Ev
open PySem PySem.Spec L2

/-- the first abstract heap -/
def H0 (K : PySem.W.Frag) (a : Addr) (so : Obj) (xs : List V) (tabs : List Addr) : Hp := fun b =>
  if b ∈ tabs then some (.tbl #[]) else if b = a then (if (K.lookup a).isSome then none else some (.frz so (.lst xs))) else none
section
variable {P : Program} {w : World} {K : PySem.W.Frag} {mg mb : Str → Option Value} {fa a : Addr} {cs : List (Addr × Addr)} {s1 : Shared} {vals : List Value} {ns : List Int}
theorem law_end (inK : K.In s1.heap) (gl : s1.heap.Ns mainGlobals mg) (bl : s1.heap.Ns builtinsNs mb) (boot : ∀ x : Str, x ≠ "__name__" → mb x = bootBuiltins x) (lim : s1.heap.NoLimit) (nogen : s1.gens = #[])
    (tabs : ∀ q ∈ cs, s1.heap.get? q.2 = some { cls := .none, data := .fields #[] }) (tabsK : ∀ q ∈ cs, K.lookup q.2 = none) (heads : ∀ q ∈ cs, PySem.W.CodeHd s1.heap q.1 q.2)
    (bmod : ∃ (bm : Addr) (ob : Obj), mg "__builtins__" = some (.ref bm) ∧ bm ≠ builtinsNs ∧ s1.heap.get? bm = some ob ∧ ob.cls = .type "module" ∧ ob.dict = some builtinsNs ∧ ob.data = .plain)
    (scr : s1.heap.get? a = some { cls := .type "list", data := .seq vals.toArray }) (areI : PyProof.Rows.IntsAre vals ns) (len : ns.length ≤ sizeLine)
    (run : ∀ (base : Heap), L2.Mod K mg base → (∀ q ∈ cs, LamX.TabB base mg q.1 q.2) → Env0 P w K mg base callerA [] s1 (H0 K a { cls := .type "list", data := .seq vals.toArray } (ns.map V.int) (cs.map (·.2))) →
      (∀ q ∈ cs, H0 K a { cls := .type "list", data := .seq vals.toArray } (ns.map V.int) (cs.map (·.2)) q.2 = some (.tbl #[])) →
      (H0 K a { cls := .type "list", data := .seq vals.toArray } (ns.map V.int) (cs.map (·.2)) a = some (.frz { cls := .type "list", data := .seq vals.toArray } (.lst (ns.map V.int))) ∨
        ∃ (o : Obj) (its : Array Value) (n : Nat), K.lookup a = some o ∧ o.cls = .type "list" ∧ o.dict = none ∧ o.data = .seq its n ∧ its.size ≤ sizeLine ∧ Vals (ns.map V.int) its.toList) →
      codeAny (model P w) callerA (.call (.ref fa) ⟨[.ref a], []⟩) (CR (L2.CX P w) [] P w (H0 K a { cls := .type "list", data := .seq vals.toArray } (ns.map V.int) (cs.map (·.2))) s1 (fun v _ => v = .bl true) (fun _ _ _ => False)) s1) :
    codeAny (model P w) callerA (.call (.ref fa) ⟨[.ref a], []⟩) (fun r s' => r = .ok (.ret (.bool true)) ∧ OldK s1.heap s'.heap ∧ s'.os = s1.os ∧ PyProof.Rows.AllBare s'.gens) s1 := by
  generalize hS : ({ cls := .type "list", data := .seq vals.toArray } : Obj) = so at *
  have so_d : so.data = .seq vals.toArray := by rw [← hS]
  generalize hHH : H0 K a so (ns.map V.int) (cs.map (·.2)) = HH at *
  have atT : ∀ b, b ∈ cs.map (·.2) → s1.heap.get? b = some { cls := .none, data := .fields #[] } := fun b hb => by
    obtain ⟨q, hq, e⟩ := List.mem_map.mp hb
    rw [← e]
    exact tabs q hq
  have hT : ∀ b, b ∈ cs.map (·.2) → HH b = some (.tbl #[]) := fun b hb => by rw [← hHH]; exact if_pos hb
  have hO : ∀ b u, HH b = some u → (b ∈ cs.map (·.2) ∧ u = .tbl #[]) ∨ (b = a ∧ u = .frz so (.lst (ns.map V.int)) ∧ K.lookup a = none) := fun b u e => by
    rw [← hHH] at e
    unfold H0 at e
    split at e
    · rename_i hb; cases e; exact .inl ⟨hb, rfl⟩
    · split at e
      · rename_i hb
        split at e
        · cases e
        · rename_i hk
          cases e
          refine .inr ⟨hb, rfl, ?_⟩
          cases z : K.lookup a with
          | none => rfl
          | some o => rw [z] at hk; exact absurd rfl hk
      · cases e
  have aNo : a ∉ cs.map (·.2) := fun z => by
    have q := atT a z
    rw [scr] at q
    have d := congrArg Obj.data (Option.some.inj q)
    rw [so_d] at d
    cases d
  -- what is neither a list nor an empty table is not tracked
  have plain : ∀ b o, s1.heap.get? b = some o → (∀ v n, o.data ≠ .seq v n) → o.data ≠ .fields #[] → HH b = none := fun b o e h1 h2 => by
    cases q : HH b with
    | none => rfl
    | some u =>
      rcases hO b u q with ⟨hb, _⟩ | ⟨rfl, _⟩
      · rw [atT b hb] at e; cases e; exact absurd rfl h2
      · rw [scr] at e; cases e; exact absurd so_d (h1 _ _)
  have stay : ∀ b o, s1.heap.get? b = some o → HH b = none → (hidT s1.heap HH).get? b = some o := fun b o e n => hidT_get e n
  have nsStay : ∀ b m, s1.heap.Ns b m → (hidT s1.heap HH).Ns b m := fun b m ⟨o, es, ep, e, d, r⟩ => ⟨o, es, ep, stay b o e (plain b o e (fun v n z => by rw [d] at z; cases z) (fun z => by rw [d] at z; cases z)), d, r⟩
  have baseK : K.In (hidT s1.heap HH) := fun b o e => stay b o (inK b o e) (by
    cases q : HH b with
    | none => rfl
    | some u =>
      rcases hO b u q with ⟨hb, _⟩ | ⟨rfl, _, z⟩
      · obtain ⟨p, hp, ep⟩ := List.mem_map.mp hb
        rw [← ep, tabsK p hp] at e
        cases e
      · rw [z] at e; cases e)
  have modB : L2.Mod K mg (hidT s1.heap HH) := ⟨baseK, nsStay _ _ gl, ⟨mb, nsStay _ _ bl, boot⟩, let ⟨mc, h1, h2⟩ := lim; ⟨mc, nsStay _ _ h1, h2⟩⟩
  have tabB : ∀ q ∈ cs, LamX.TabB (hidT s1.heap HH) mg q.1 q.2 := fun q hq => by
    have emp := tabs q hq
    refine ⟨?_, ?_, fun z => ?_⟩
    · obtain ⟨o, us, file, tf, flags, tg, inF, text, tt, e1, r1, r2, r3, rest⟩ := heads q hq
      refine ⟨o, us, file, tf, flags, tg, inF, text, tt, stay _ o e1 (plain _ o e1 (fun v n z => ?_) fun z => ?_), r1, r2, r3, rest⟩
      · rw [r2] at z; cases z
      · rw [r2] at z; cases z; simp at r3
    · obtain ⟨bm, ob, b1, b2, b3, b4, b5, b6⟩ := bmod
      refine ⟨bm, ob, b1, b2, fun z => ?_, fun z => ?_, stay bm ob b3 (plain bm ob b3 (fun v n z => by rw [b6] at z; cases z) fun z => by rw [b6] at z; cases z), b4, b5, b6⟩
      · obtain ⟨o, es, ep, e, hd, _⟩ := gl
        rw [z, e] at b3
        cases b3
        rw [hd] at b6
        cases b6
      · rw [z, emp] at b3
        cases b3
        cases b6
    · obtain ⟨o, es, ep, e, hd, _⟩ := gl
      rw [z, emp] at e
      cases e
      cases hd
  have rv := vals_ints areI
  have held : HOk P w HH s1.heap := fun b u e => by
    rcases hO b u e with ⟨hb, rfl⟩ | ⟨rfl, rfl, _⟩
    · exact atT b hb
    · exact ⟨scr, by rw [List.length_map]; exact len, vals, _, rv, by rw [scr, ← hS]⟩
  have entry : Env0 P w K mg (hidT s1.heap HH) callerA [] s1 HH := ⟨rfl, modB, fun b o e => of_hidT e, Nat.le_of_eq (hidT_size _ _), trivial, fun b hb => absurd (show b ∈ ([] : List Addr) from hb) (by simp), held, .of_eq nogen⟩
  have script : HH a = some (.frz so (.lst (ns.map V.int))) ∨ ∃ (o : Obj) (its : Array Value) (n : Nat), K.lookup a = some o ∧ o.cls = .type "list" ∧ o.dict = none ∧ o.data = .seq its n ∧ its.size ≤ sizeLine ∧ Vals (ns.map V.int) its.toList := by
    cases hk : K.lookup a with
    | some o =>
      have e := inK a o hk
      rw [scr] at e
      cases e
      rw [← hS] at hk ⊢
      refine .inr ⟨_, vals.toArray, _, rfl, rfl, rfl, rfl, by rw [List.size_toArray, areI.length]; exact len, by simpa using rv⟩
    | none =>
      refine .inl ?_
      rw [← hHH]
      unfold H0
      rw [if_neg aNo, if_pos rfl, hk]
      rfl
  refine codeAny_mono (run _ modB tabB entry (fun q hq => hT q.2 (List.mem_map.mpr ⟨q, hq, rfl⟩)) script) fun r s' h => ?_
  cases r with
  | error e => obtain ⟨_, _, _, _, _, _, _, _, _, _, _, _, z⟩ := h; exact z.elim
  | ok fl =>
    cases fl with
    | next => exact False.elim h
    | brk => exact False.elim h
    | cont => exact False.elim h
    | ret u =>
      obtain ⟨v, H', os, bare, un, hok', r', q⟩ := h
      have q' : v = .bl true := q
      subst q'
      obtain rfl : u = Value.bool true := r'
      have same : ∀ b o, b ∉ cs.map (·.2) → s1.heap.get? b = some o → s'.heap.get? b = some o := fun b o nb e => by
        cases z : HH b with
        | none => exact un.keep b o e z (by intro y; exact absurd (show b ∈ ([] : List Addr) from y) (by simp)) (by simp)
        | some u =>
          rcases hO b u z with ⟨hb, _⟩ | ⟨rfl, rfl, _⟩
          · exact absurd hb nb
          · have after := un.frzs _ _ _ z
            obtain ⟨g2, _⟩ := hok' _ _ after
            rw [scr] at e
            cases e
            exact g2
      have grow : ∀ q ∈ cs, ∃ more : Array Value, s'.heap.get? q.2 = some { cls := .none, data := .fields more } := fun q hq => by
        obtain ⟨more, z⟩ := un.tbls q.2 #[] (hT q.2 (List.mem_map.mpr ⟨q, hq, rfl⟩))
        exact ⟨_, hok' q.2 _ z⟩
      refine ⟨rfl, ⟨fun b o e => ?_, fun b o e => ?_⟩, os, bare⟩
      · by_cases hb : b ∈ cs.map (·.2)
        · obtain ⟨q, hq, rfl⟩ := List.mem_map.mp hb
          obtain ⟨more, hm⟩ := grow q hq
          rw [tabs q hq] at e
          cases e
          exact .inr (.inl ⟨((heads q hq).tab (tabs q hq)).isCodeTable, rfl, #[], more, rfl, by rw [Array.empty_append]; exact hm⟩)
        · exact .inl (same b o hb e)
      · by_cases hb : b ∈ cs.map (·.2)
        · obtain ⟨q, hq, rfl⟩ := List.mem_map.mp hb
          obtain ⟨more, hm⟩ := grow q hq
          exact ⟨_, hm⟩
        · exact ⟨o, same b o hb e⟩
end
end Ev
/-! Ev35: how arguments bind. -/
namespace Ev
open PySem PySem.Spec L2
/-! ### binding -/
theorem filter_none_nil {α : Type} {p : α → Bool} : ∀ {l : List α}, (∀ x ∈ l, p x = false) → l.filter p = []
  | [], _ => rfl
  | a :: l, h => by
    rw [List.filter_cons, if_neg (by rw [h a List.mem_cons_self]; decide)]
    exact filter_none_nil fun x hx => h x (List.mem_cons_of_mem _ hx)
theorem look_zip : ∀ {ps : List Str} {us : List Value}, us.length = ps.length → ∀ x ∈ ps, ((ps.zip us).lookup x).isNone = false
  | [], _, _, x, hx => by cases hx
  | p :: ps, [], h, x, hx => by cases h
  | p :: ps, u :: us, h, x, hx => by
    rw [List.zip_cons_cons, List.lookup_cons]
    cases e : x == p with
    | true => rfl
    | false =>
      rcases List.mem_cons.mp hx with rfl | hx
      · simp at e
      · exact look_zip (by simpa using h) x hx
theorem look_app {α β : Type} [BEq α] {x : α} : ∀ {l r : List (α × β)}, (l.lookup x).isNone = true → (l ++ r).lookup x = r.lookup x
  | [], _, _ => rfl
  | (a, b) :: l, r, h => by
    rw [List.cons_append, List.lookup_cons]
    rw [List.lookup_cons] at h
    cases e : x == a with
    | true => rw [e] at h; cases h
    | false => rw [e] at h; exact look_app h
theorem fm_zip : ∀ {ps : List Str} {us : List Value}, ps.Nodup → us.length = ps.length → (ps.filterMap fun n => ((ps.zip us).lookup n).map (n, ·)) = ps.zip us
  | [], us, _, h => by simp
  | p :: ps, [], _, h => by cases h
  | p :: ps, u :: us, nd, h => by
    obtain ⟨n1, n2⟩ := List.nodup_cons.mp nd
    rw [List.zip_cons_cons, List.filterMap_cons]
    simp only [List.lookup_cons, beq_self_eq_true, Option.map_some]
    congr 1
    rw [← fm_zip n2 (us := us) (by simpa using h)]
    have key : ∀ (l : List Str), (∀ x ∈ l, x ≠ p) → (l.filterMap fun n => (match n == p with | true => some u | false => (ps.zip us).lookup n).map (n, ·)) = l.filterMap fun n => ((ps.zip us).lookup n).map (n, ·) := fun l hl => by
      induction l with
      | nil => rfl
      | cons a l ih =>
        have : (a == p) = false := by rw [beq_eq_false_iff_ne]; exact hl a List.mem_cons_self
        rw [List.filterMap_cons, List.filterMap_cons, this]
        simp only [ih fun x hx => hl x (List.mem_cons_of_mem _ hx)]
    have := key ps (fun x hx e => n1 (e ▸ hx))
    rw [fm_zip n2 (by simpa using h)] at this ⊢
    exact this
/-- plain parameters: no defaults, nothing more -/
def plainP (p : Arguments) : Bool := p.posonlyargs.isEmpty && (p.kwonlyargs.isEmpty && (p.kwarg.isNone && (p.vararg.isNone && decide ((p.args.map (·.arg)).Nodup))))
def parN (p : Arguments) : List Str := p.args.map (·.arg)
section
variable {fd : FuncData}
theorem bind_pos (hp : plainP fd.params = true) (hd : fd.defaults = .none) {us : List Value} (hl : us.length = (parN fd.params).length) : bindArgs fd ⟨us, []⟩ = pure ((parN fd.params).zip us) := by
  obtain ⟨x1, x2, p, x4, x5, x6, x7, d, x9, x10, x11, x12, x13, x14, x15⟩ := fd
  obtain ⟨p1, p2, p3, p4, p5, p6, p7⟩ := p
  simp only [plainP, Bool.and_eq_true, List.isEmpty_iff, Option.isNone_iff_eq_none, decide_eq_true_eq] at hp
  obtain ⟨rfl, rfl, rfl, rfl, nd⟩ := hp
  simp only at hd
  subst hd
  simp only [parN] at hl ⊢
  have hn : seqItems? Value.none = pure none := rfl
  unfold bindArgs
  simp only [List.map_nil, List.nil_append, List.append_nil, hn, pure_bind, Option.getD_none, List.length_nil, Nat.zero_sub, List.drop_nil, Nat.sub_zero, List.forIn_nil]
  have h1 : ¬ (us.length > (p2.map (·.arg)).length) := by omega
  have h2 : (List.filter (fun n => ((p2.map (·.arg)).zip us |>.lookup n).isNone) ((p2.map (·.arg)).take (p2.map (·.arg)).length)) = [] := by
    rw [List.take_length]
    exact filter_none_nil (look_zip hl)
  simp only [h1, h2, false_and, decide_false, Bool.false_and, Bool.false_eq_true, if_false, ↓reduceIte, List.isEmpty_nil, Bool.not_true]
  rw [List.drop_length, List.zip_nil_left, List.forIn_nil, pure_bind, fm_zip nd hl]
theorem grow_loop {β : Type} {f : Str × Value → (List (Str × Value) × List β) → Sem (ForInStep (List (Str × Value) × List β))} : ∀ {l acc : List (Str × Value)},
    (∀ x ∈ l, ∀ acc, (acc.lookup x.1).isNone = true → f x (acc, []) = pure (.yield (acc ++ [x], []))) → (l.map (·.1)).Nodup → (∀ x ∈ l, (acc.lookup x.1).isNone = true) → forIn l (acc, []) f = pure (acc ++ l, [])
  | [], acc, _, _, _ => by rw [List.forIn_nil, List.append_nil]
  | x :: l, acc, h, nd, na => by
    rw [List.map_cons] at nd
    obtain ⟨n1, n2⟩ := List.nodup_cons.mp nd
    rw [List.forIn_cons, h x List.mem_cons_self acc (na x List.mem_cons_self), pure_bind]
    simp only
    rw [grow_loop (fun y hy => h y (List.mem_cons_of_mem _ hy)) n2 fun y hy => ?_, List.append_assoc]
    · rfl
    · rw [look_app (na y (List.mem_cons_of_mem _ hy)), List.lookup_cons]
      have : (y.1 == x.1) = false := by
        rw [beq_eq_false_iff_ne]
        intro e
        exact n1 (e ▸ List.mem_map.mpr ⟨y, hy, rfl⟩)
      rw [this]
      rfl
theorem bind_kw (hp : plainP fd.params = true) (hd : fd.defaults = .none) {ks : List Str} {ws us : List Value} (nk : ks.Nodup) (hk : ∀ k ∈ ks, (parN fd.params).contains k = true) (hl : ws.length = ks.length) (hs : ∀ p ∈ parN fd.params, ((ks.zip ws).lookup p).isNone = false)
    (hu : ((parN fd.params).filterMap fun n => ((ks.zip ws).lookup n).map (n, ·)) = (parN fd.params).zip us) : bindArgs fd ⟨[], ks.zip ws⟩ = pure ((parN fd.params).zip us) := by
  obtain ⟨x1, x2, p, x4, x5, x6, x7, d, x9, x10, x11, x12, x13, x14, x15⟩ := fd
  obtain ⟨p1, p2, p3, p4, p5, p6, p7⟩ := p
  simp only [plainP, Bool.and_eq_true, List.isEmpty_iff, Option.isNone_iff_eq_none, decide_eq_true_eq] at hp
  obtain ⟨rfl, rfl, rfl, rfl, nd⟩ := hp
  simp only at hd
  subst hd
  simp only [parN] at hk hs hu ⊢
  have hn : seqItems? Value.none = pure none := rfl
  unfold bindArgs
  simp only [List.map_nil, List.nil_append, List.append_nil, hn, pure_bind, Option.getD_none, List.length_nil, Nat.zero_sub, List.drop_nil, Nat.sub_zero, List.forIn_nil, List.zip_nil_right]
  have nz : ((ks.zip ws).map (·.1)).Nodup := by
    rw [List.map_fst_zip (by omega)]
    exact nk
  rw [grow_loop (acc := []) (fun x hx acc ha => ?_) nz fun _ _ => rfl]
  · simp only [List.nil_append, pure_bind]
    have h1 : ¬ (0 > (p2.map (·.arg)).length) := by omega
    have h2 : (List.filter (fun n => ((ks.zip ws).lookup n).isNone) ((p2.map (·.arg)).take (p2.map (·.arg)).length)) = [] := by
      rw [List.take_length]
      exact filter_none_nil hs
    simp only [h1, h2, false_and, decide_false, Bool.false_and, Bool.false_eq_true, if_false, ↓reduceIte, List.isEmpty_nil, Bool.not_true]
    rw [hu]
  · have hx1 : x.1 ∈ ks := (List.of_mem_zip hx).1
    rw [if_pos (by rw [hk x.1 hx1]; rfl)]
    cases e : acc.lookup x.1 with
    | none => rfl
    | some v => rw [e] at ha; cases ha
/-- the order of keywords -/
theorem perm_zip : ∀ {perm : List Nat} {ps ks : List Str} {ws : List Value}, permD ks perm = some ps → ks.Nodup → ws.length = ks.length → ∃ us, permD ws perm = some us ∧ us.length = ps.length ∧ (ps.filterMap fun n => ((ks.zip ws).lookup n).map (n, ·)) = ps.zip us ∧ ∀ p ∈ ps, ((ks.zip ws).lookup p).isNone = false
  | [], ps, ks, ws, h, _, _ => by
    simp only [permD, Option.some.injEq] at h
    subst h
    exact ⟨[], rfl, rfl, rfl, fun p hp => by cases hp⟩
  | i :: perm, ps, ks, ws, h, nk, hl => by
    simp only [permD] at h
    split at h
    · rename_i x r hx hr
      cases h
      obtain ⟨us, e1, e2, e3, e4⟩ := perm_zip hr nk hl
      have hi : i < ws.length := by rw [hl]; exact (List.getElem?_eq_some_iff.mp hx).1
      have key : (ks.zip ws).lookup x = some ws[i] := by
        clear e1 e2 e3 e4 hr
        induction ks generalizing i ws with
        | nil => simp at hx
        | cons k ks ih =>
          cases ws with
          | nil => simp at hi
          | cons w ws =>
            rw [List.zip_cons_cons, List.lookup_cons]
            obtain ⟨n1, n2⟩ := List.nodup_cons.mp nk
            cases i with
            | zero => simp at hx; subst hx; simp
            | succ i =>
              have hx' : ks[i]? = some x := by simpa using hx
              have : (x == k) = false := by
                rw [beq_eq_false_iff_ne]
                intro e
                exact n1 (e ▸ List.mem_of_getElem? hx')
              rw [this]
              simpa using ih (i := i) (ws := ws) n2 (by simpa using hl) hx' (by simpa using hi)
      refine ⟨ws[i] :: us, by simp only [permD, List.getElem?_eq_getElem hi, e1], by rw [List.length_cons, List.length_cons, e2], ?_, fun p hp => ?_⟩
      · rw [List.filterMap_cons, key, List.zip_cons_cons, ← e3]
        rfl
      · rcases List.mem_cons.mp hp with rfl | hp
        · rw [key]; rfl
        · exact e4 p hp
    · cases h
theorem bind_perm (hp : plainP fd.params = true) (hd : fd.defaults = .none) {ks : List Str} {perm : List Nat} {ws : List Value} (hk : permD ks perm = some (parN fd.params)) (nk : ks.Nodup) (hin : ∀ k ∈ ks, (parN fd.params).contains k = true) (hl : ws.length = ks.length) :
    ∃ us, permD ws perm = some us ∧ us.length = (parN fd.params).length ∧ bindArgs fd ⟨[], ks.zip ws⟩ = pure ((parN fd.params).zip us) := by
  obtain ⟨us, e1, e2, e3, e4⟩ := perm_zip hk nk hl
  exact ⟨us, e1, e2, bind_kw hp hd nk hin hl e4 e3⟩
end
end Ev
/-! Ev36: own exception classes. -/
namespace Ev
open PySem PySem.Spec L2
/-- an __init__ that keeps its one argument -/
theorem init_ok {P : Program} {w : World} {K : PySem.W.Frag} {mg : Str → Option Value} {base : Heap} {name qual : Str} {params : Arguments} {body : List Stmt} {scope : Scope} {dV kV doc pm cdv ct oc : Value} {an od : Option Addr} {osl : Array (Option Value)} {C f : Addr} {self x fld : Str} {p1 p2 p3 p4 : Pos}
    (lk : K.lookup f = some ⟨oc, od, .func (PySem.W.fnOf name qual params body scope dV kV doc pm an cdv ct), osl⟩) (hcd : PySem.W.codeIn K cdv qual = true) (S : FnScope [self, x] [self, x] scope) (hb : body = [.Assign [.Attribute (.Name self p1) fld p2] (.Name x p3) p4])
    (v1 : scope.names.lookup self = some .local) (v2 : scope.names.lookup x = some .local) (d1 : (self == ("__debug__" : Str)) = false ∧ (self == ("__classdict__" : Str)) = false) (d2 : (x == ("__debug__" : Str)) = false ∧ (x == ("__classdict__" : Str)) = false)
    (T : OexC K C) (no : PySem.W.findIn K (.ref C) fld = some none) : FnOk P w K mg base (L2.CX P w) 1 f (PySem.W.fnOf name qual params body scope dV kV doc pm an cdv ct) [self, x] (spX C fld) := by
  refine fn_of lk hcd S (fun vs H Q E h => by obtain ⟨a, v, rfl, _⟩ := h; rfl) fun A outer s H vs Q E hr hsp => ?_
  obtain ⟨a, v, rfl, ha, hq⟩ := hsp
  subst hb
  refine ⟨_, pss_cons (ps_ost (pe_var (i := 0) rfl (by unfold Vis; exact .inl v1) d1.1 d1.2) (pe_var (i := 1) rfl (by unfold Vis; exact .inl v2) d2.1 d2.2)) pss_nil, ?_⟩
  refine ⟨v, rfl, .ref a, rfl, a, C, rfl, T, no, .inl ⟨ha, fun dx hdx hne => hq dx hdx hne⟩⟩
def oexB (K : PySem.W.Frag) (C : Addr) : Bool := (match K.lookup C with
  | some o => (match o.data with
    | .cls cd => (match cd.mro with
      | .ref C' :: bm => (match o.cls, o.slots.toList with
        | .type t, [_, _, _, _, some (.builtin n), _] => decide (C' = C) && (decide (t = "type") && (decide (n = "ValueError.__new__") && (!cd.hasDel && (cd.hasDict && PySem.HandSPX.refsVE bm))))
        | _, _ => false)
      | _ => false)
    | _ => false)
  | none => false) && (decide (PySem.W.findIn K (.ref C) "__setattr__" = some (some (.builtin "object.__setattr__"))) && (decide (PySem.W.subIn K (.ref C) (.type "BaseException") = some true) && (decide (PySem.W.typeIn K (.ref C) = some (.type "type")) && PySem.W.keepIn K (.ref C))))
theorem oexB_ok {K : PySem.W.Frag} {C : Addr} (h : oexB K C = true) : OexC K C := by
  unfold oexB at h
  simp only [Bool.and_eq_true, decide_eq_true_eq] at h
  obtain ⟨h1, h2, h3, h4, h5⟩ := h
  refine ⟨?_, h2, h3, h4, h5⟩
  cases q : K.lookup C with
  | none => rw [q] at h1; cases h1
  | some o =>
    obtain ⟨oc, od, dt, sl⟩ := o
    rw [q] at h1
    cases dt with
    | cls cd =>
      obtain ⟨nm, bs, mro, ns, qn, hd, sn, sub, ab, col, del⟩ := cd
      simp only at h1
      split at h1
      · rename_i C' bm
        split at h1
        · rename_i t k0 k1 k2 k3 n k5 hs
          simp only [Bool.and_eq_true, decide_eq_true_eq, Bool.not_eq_true'] at h1
          obtain ⟨rfl, rfl, rfl, rfl, rfl, hv⟩ := h1
          have hsl : sl = #[k0, k1, k2, k3, some (.builtin "ValueError.__new__"), k5] := by
            obtain ⟨l⟩ := sl
            simp only at hs
            rw [hs]
          subst hsl
          exact ⟨nm, qn, ns, bs, bm, sn, sub, ab, col, od, k0, k1, k2, k3, k5, rfl, hv⟩
        · cases h1
      · cases h1
    | _ => cases h1
end Ev
/-! Ev37: constants of the module. -/
namespace Ev
open PySem PySem.Spec L2
mutual
/-- the value that the module holds is the tree -/
def conR (K : PySem.W.Frag) : D → Value → Bool
  | .non, .none => true
  | .bl b, .bool c => b == c
  | .int i, .int j _ => decide (i = j)
  | .str s, .str t _ => decide (s = t.cps.toList)
  | .tup ds, .ref a => (match K.lookup a with
    | some o => (match o.cls, o.data with
      | .type c, .seq its _ => decide (c = "tuple") && (decide (its.size ≤ sizeLine) && conRL K ds its.toList)
      | _, _ => false)
    | none => false)
  | .lst ds, .ref a => (match K.lookup a with
    | some o => (match o.cls, o.data with
      | .type c, .seq its _ => decide (c = "list") && (o.dict.isNone && (decide (its.size ≤ sizeLine) && conRL K ds its.toList))
      | _, _ => false)
    | none => false)
  | _, _ => false
def conRL (K : PySem.W.Frag) : List D → List Value → Bool
  | [], [] => true
  | d :: ds, u :: us => conR K d u && conRL K ds us
  | _, _ => false
end
section
variable {K : PySem.W.Frag} {w : World}
theorem toStr_list (t : Str) : toStr t.cps.toList = t := by simp [toStr]
mutual
theorem conR_ok : ∀ {d : D} {u : Value}, conR K d u = true → ∃ v, RelV v u ∧ ∀ G H, Rep K w G H v d
  | .non, u, h => by
    cases u <;> simp only [conR, Bool.false_eq_true] at h
    exact ⟨.non, rfl, fun _ _ => .non⟩
  | .bl b, u, h => by
    cases u <;> simp only [conR, Bool.false_eq_true] at h
    rw [beq_iff_eq] at h
    subst h
    exact ⟨.bl b, rfl, fun _ _ => .bl b⟩
  | .int i, u, h => by
    cases u <;> simp only [conR, Bool.false_eq_true] at h
    rename_i j t
    have h := of_decide_eq_true h
    subst h
    exact ⟨.int i, ⟨t, rfl⟩, fun _ _ => .int i⟩
  | .str s, u, h => by
    cases u <;> simp only [conR, Bool.false_eq_true] at h
    rename_i z t
    have h := of_decide_eq_true h
    subst h
    refine ⟨.str (toStr z.cps.toList), ⟨t, by rw [toStr_list]⟩, fun _ _ => .str _⟩
  | .tup ds, u, h => by
    cases u <;> simp only [conR, Bool.false_eq_true] at h
    rename_i a
    cases q : K.lookup a with
    | none => rw [q] at h; cases h
    | some o =>
      obtain ⟨oc, od, dt, sl⟩ := o
      rw [q] at h
      simp only at h
      split at h
      · rename_i c its n
        simp only [Bool.and_eq_true, decide_eq_true_eq] at h
        obtain ⟨rfl, h2, h3⟩ := h
        obtain ⟨vs, r1, r2⟩ := conRL_ok h3
        exact ⟨.ref a, rfl, fun G H => .tup (.inr ⟨_, its, _, q, rfl, rfl, h2, r1⟩) (r2 G H)⟩
      · cases h
  | .lst ds, u, h => by
    cases u <;> simp only [conR, Bool.false_eq_true] at h
    rename_i a
    cases q : K.lookup a with
    | none => rw [q] at h; cases h
    | some o =>
      obtain ⟨oc, od, dt, sl⟩ := o
      rw [q] at h
      simp only at h
      split at h
      · rename_i c its n
        simp only [Bool.and_eq_true, decide_eq_true_eq, Option.isNone_iff_eq_none] at h
        obtain ⟨rfl, rfl, h2, h3⟩ := h
        obtain ⟨vs, r1, r2⟩ := conRL_ok h3
        exact ⟨.ref a, rfl, fun G H => .lst (.inr ⟨_, its, _, q, rfl, rfl, rfl, h2, r1⟩) (r2 G H)⟩
      · cases h
  | .dic _, u, h => by cases u <;> simp only [conR, Bool.false_eq_true] at h
  | .ref _, u, h => by cases u <;> simp only [conR, Bool.false_eq_true] at h
  | .cdic _, u, h => by cases u <;> simp only [conR, Bool.false_eq_true] at h
theorem conRL_ok : ∀ {ds : List D} {us : List Value}, conRL K ds us = true → ∃ vs, Vals vs us ∧ ∀ G H, RepL K w G H vs ds
  | [], [], _ => ⟨[], .nil, fun _ _ => .nil⟩
  | [], _ :: _, h => by simp [conRL] at h
  | _ :: _, [], h => by simp [conRL] at h
  | d :: ds, u :: us, h => by
    simp only [conRL, Bool.and_eq_true] at h
    obtain ⟨v, r1, r2⟩ := conR_ok h.1
    obtain ⟨vs, q1, q2⟩ := conRL_ok h.2
    exact ⟨v :: vs, .cons r1 q1, fun G H => .cons (r2 G H) (q2 G H)⟩
end
/-- a table of the module, by its entries -/
def cdE (K : PySem.W.Frag) : List (DK × D) → List DictEntry → Bool
  | [], [] => true
  | (.s k, d) :: r, e :: es => (match e.key with
    | .str x _ => decide (k = x.cps.toList)
    | _ => false) && (conR K d e.val && cdE K r es)
  | _, _ => false
def cdB (K : PySem.W.Frag) (a : Addr) (kvs : List (DK × D)) : Bool := match K.lookup a with
  | some o => (match o.data with
    | .dict es _ => cdE K kvs es.toList
    | _ => false)
  | none => false
theorem cdE_ok : ∀ {kvs : List (DK × D)} {es : List DictEntry}, cdE K kvs es = true → ∃ ks : List (Key × V), (∀ G H, RepK K w G H ks kvs) ∧ es.any (·.refKey) = false ∧ ∀ z : Str, match valV ks (.inr z) with
    | some v => ∃ e, es.find? (·.key.isStr z) = some e ∧ RelV v e.val
    | none => es.find? (·.key.isStr z) = none
  | [], [], _ => ⟨[], fun _ _ => .nil, rfl, fun z => rfl⟩
  | [], _ :: _, h => by simp [cdE] at h
  | (.i _, _) :: _, _, h => by simp [cdE] at h
  | (.s _, _) :: _, [], h => by simp [cdE] at h
  | (.s k, d) :: r, e :: es, h => by
    simp only [cdE, Bool.and_eq_true] at h
    obtain ⟨h1, h2, h3⟩ := h
    obtain ⟨v, r1, r2⟩ := conR_ok (w := w) h2
    obtain ⟨ks, q1, q2, q3⟩ := cdE_ok h3
    split at h1
    · rename_i x t hk
      have h1 := of_decide_eq_true h1
      subst h1
      refine ⟨(.inr x, v) :: ks, fun G H => ?_, ?_, fun z => ?_⟩
      · have := RepK.cons (k := .s x.cps.toList) (r2 G H) (q1 G H)
        have e : toKey (.s x.cps.toList) = .inr x := by show Sum.inr (toStr x.cps.toList) = _; rw [toStr_list]
        rw [e] at this
        exact this
      · rw [List.any_cons, q2]
        unfold DictEntry.refKey
        rw [hk]
        rfl
      · by_cases hz : x = z
        · subst hz
          rw [valV_pos (p := (Sum.inr x, v)) rfl]
          refine ⟨e, ?_, r1⟩
          rw [List.find?_cons, hk]
          simp [Value.isStr]
        · rw [valV_neg (p := (Sum.inr x, v)) (fun q => hz (by injection q))]
          have e1 : e.key.isStr z = false := by
            rw [hk]
            show (x == z) = false
            rw [beq_eq_false_iff_ne]
            exact hz
          rw [List.find?_cons, e1]
          exact q3 z
    · cases h1
theorem cdB_ok {a : Addr} {es : Array DictEntry} {n : Nat} {kvs : List (DK × D)} (D : KDict K w a es n) (h : cdB K a kvs = true) : ∀ G H, Rep K w G H (.ref a) (.cdic kvs) := by
  unfold cdB at h
  rw [D.at_] at h
  obtain ⟨ks, q1, q2, q3⟩ := cdE_ok (w := w) h
  intro G H
  refine .cdic D (fun z => ?_) (q1 G H)
  have hz := q3 z
  have ns : PySem.W.nsIn K a z = (match es.toList.find? (·.key.isStr z) with
    | some e => some (some e.val)
    | none => if es.toList.any (·.refKey) then none else some none) := by
    unfold PySem.W.nsIn
    rw [D.at_]
    rfl
  cases e : valV ks (.inr z) with
  | some v =>
    rw [e] at hz
    obtain ⟨en, h1, h2⟩ := hz
    exact ⟨en.val, by rw [ns, h1], h2⟩
  | none =>
    rw [e] at hz
    show PySem.W.nsIn K a z = some none
    rw [ns, hz, q2]
    rfl
end
end Ev
/-! Ev38: a law's tables; what is checked of them; the module's facts. -/
namespace Ev
open PySem PySem.Spec L2

/-- a def of the text: its number, its name, which statement it is, the slots' names, its term, whether it makes lambdas -/
structure Df where
  id : Nat
  name : String
  at_ : Nat
  N : List String
  fn : Fn
  lm : Bool
/-- an exception class: its number, its name, which statement, where its __init__ stands in it, its one field (empty: it has no __init__ of its own) -/
structure Cl where
  id : Nat
  name : String
  at_ : Nat
  j : Nat
  fld : List Nat
structure Kn where
  id : Nat
  name : String
  d : D
structure LmN where
  id : Nat
  N : List String
  fn : Fn
structure Tx where
  P : Program
  T : Txt
  dfs : List Df
  lms : List LmN
  cls : List Cl
  kns : List Kn
  fl : List (List Nat)
  kw : List (Nat × List String × List Nat)
abbrev so (s : String) : Str := Str.ofString s
def Df.nm (d : Df) : Str := so d.name
def Cl.nm (c : Cl) : Str := so c.name
def Kn.nm (k : Kn) : Str := so k.name
def lamQ (d : Df) : Str := d.nm ++ ".<locals>." ++ "<lambda>"
namespace Tx
variable (t : Tx)
def top (i : Nat) : Stmt := t.P.main.body.getD i (.Pass ⟨0, 0, 0, 0⟩)
def dd (d : Df) : He.DefD := ⟨(d.nm, none), d.nm, d.nm, defArgs (t.top d.at_), defBody (t.top d.at_), defScope (t.top d.at_), [], []⟩
def ini (c : Cl) : Stmt := inClass (t.top c.at_) c.j
def di (c : Cl) : He.DefD := ⟨(c.nm, some "__init__"), "__init__", c.nm ++ so ".__init__", defArgs (t.ini c), defBody (t.ini c), defScope (t.ini c), [], []⟩
def dfOf (i : Nat) : Option Df := t.dfs.find? fun d => d.id == i
def clOf (i : Nat) : Option Cl := t.cls.find? fun d => d.id == i
def knOf (i : Nat) : Option Kn := t.kns.find? fun d => d.id == i
def lmOf (i : Nat) : Option LmN := t.lms.find? fun d => d.id == i
def fnN (i : Nat) : Str := match t.dfOf i with
  | some d => d.nm
  | none => default
def cnN (i : Nat) : Str := match t.clOf i with
  | some d => d.nm
  | none => default
def knN (i : Nat) : Str := match t.knOf i with
  | some d => d.nm
  | none => default
def bk : Bk where
  nf := fun i => (t.dfOf i).isSome
  fn := t.fnN
  nk := fun i => (t.knOf i).isSome
  kn := t.knN
  cn := t.cnN
  sub := t.T.sub
  fl := t.fl
  exf := fun i => match t.clOf i with
    | some d => d.fld
    | none => []
  kw := t.kw.map fun p => (p.1, p.2.1.map so, p.2.2)
def ccD (d : Df) : CC := mkCC (d.N.map so) (defScope (t.top d.at_)) (d.nm ++ ".<locals>.") true true d.lm false
def ckD (d : Df) : Option Sites := ckSs t.bk (t.ccD d) d.fn.body (defBody (t.top d.at_))
def sites : Sites := t.dfs.flatMap fun d => (t.ckD d).getD []
def parO (i : Nat) : List Str := match t.dfOf i with
  | some d => parN (defArgs (t.top d.at_))
  | none => []
end Tx
def fdOf (K : PySem.W.Frag) (a : Addr) : FuncData := match K.lookup a with
  | some ⟨_, _, .func fd, _⟩ => fd
  | _ => default
def Tx.md (t : Tx) (w : World) (K : PySem.W.Frag) (mg : Str → Option Value) (base : Heap) : Md where
  P := t.P
  w := w
  K := K
  mg := mg
  base := base
  T := t.T
  Λ := fun l => t.sites.lookup l
  tabs := (t.dfs.filter (·.lm)).map fun d => ((He.cT K (d.nm, none)).2, lamQ d)
  nf := fun i => (t.dfOf i).isSome
  fn := t.fnN
  fa := fun i => He.fAd K (t.fnN i, none)
  fd := fun i => fdOf K (He.fAd K (t.fnN i, none))
  ps := t.parO
  cn := t.cnN
  ca := fun i => He.ga K (t.cnN i)
  kn := t.knN

/-! ### the checks -/
def scopeB (N P : List Str) (sc : Scope) : Bool := decide (sc.kind = .function) && (!sc.isCoroutine && (!sc.isGenerator && (decide N.Nodup && (decide (N.take P.length = P) &&
  (P.all (fun x => match sc.names.lookup x with | some .local => true | some .cell => true | _ => false) && sc.names.all fun y => decide (y.2 ≠ .free))))))
theorem scopeB_ok {N P : List Str} {sc : Scope} (h : scopeB N P sc = true) : FnScope N P sc := by
  simp only [scopeB, Bool.and_eq_true, decide_eq_true_eq, Bool.not_eq_true', List.all_eq_true] at h
  obtain ⟨h1, h2, h3, h4, h5, h6, h7⟩ := h
  refine ⟨h1, h2, h3, h4, h5, fun x hx => ?_, fun y hy => h7 y hy⟩
  have := h6 x hx
  split at this
  · rename_i e; exact .inl e
  · rename_i e; exact .inr e
  · cases this
def Tx.okD (t : Tx) (d : Df) : Bool := (t.ckD d).isSome && (scopeB (d.N.map so) (parN (defArgs (t.top d.at_))) (defScope (t.top d.at_)) && (plainP (defArgs (t.top d.at_)) && (decide (d.fn.ns = d.N.length) && (decide (d.fn.np = (parN (defArgs (t.top d.at_))).length) && !(defScope (t.top d.at_)).kind.isAnnotationScope))))
def bodyOf : Ss → Option E
  | .cons (.ret e) .nil => some e
  | _ => none
theorem bodyOf_ok {s : Ss} {e : E} (h : bodyOf s = some e) : s = .cons (.ret e) .nil := by
  unfold bodyOf at h
  split at h
  · cases h; rfl
  · cases h
def isNilO : Option Sites → Bool
  | some [] => true
  | _ => false
def Tx.okL (t : Tx) (s : Nat × LamI) : Bool := match t.lmOf s.1 with
  | some m => (match bodyOf m.fn.body with
    | some ib => isNilO (ckE t.bk (mkCC (m.N.map so) s.2.scope (s.2.qual ++ ".<locals>.") false true false false) ib s.2.body)
    | none => false) && (decide (m.fn.np = s.2.caps.length + s.2.ps.length) && (decide ((m.N.map so).take (s.2.caps.length + s.2.ps.length) = s.2.caps ++ s.2.ps) && (decide (m.fn.ns = m.N.length) && (decide (m.N.map so).Nodup &&
      (decide (s.2.scope.kind = .function) && (!s.2.scope.isCoroutine && (!s.2.scope.isGenerator && (s.2.scope.names.all (fun y => decide (y.2 ≠ .cell) && (!decide (y.2 = .free) || s.2.caps.contains y.1)) && (s.2.caps.all (fun x => s.2.scope.names.contains (x, .free) && decide (s.2.scope.names.lookup x = some .free)) &&
        (s.2.ps.all (fun x => decide (s.2.scope.names.lookup x = some .local)) && (plainP s.2.params && (decide (s.2.ps = parN s.2.params) && decide (s.2.caps ++ s.2.ps).Nodup))))))))))))
  | none => false
def Tx.okC (t : Tx) (c : Cl) : Bool := c.fld.isEmpty || (match defBody (t.ini c), parN (defArgs (t.ini c)) with
  | [.Assign [.Attribute (.Name self _) f _] (.Name x _) _], [self', x'] => decide (self = self') && (decide (x = x') && (decide (f = toStr c.fld) && (scopeB [self, x] [self, x] (defScope (t.ini c)) && (decide ((defScope (t.ini c)).names.lookup self = some .local) && (decide ((defScope (t.ini c)).names.lookup x = some .local) && (dbgB self && (dbgB x && plainP (defArgs (t.ini c)))))))))
  | _, _ => false)
def Tx.okK (t : Tx) (p : Nat × List String × List Nat) : Bool := match t.dfOf p.1 with
  | some d => decide (permD (p.2.1.map so) p.2.2 = some (parN (defArgs (t.top d.at_)))) && (decide (p.2.1.map so).Nodup && (p.2.1.map so).all fun k => (parN (defArgs (t.top d.at_))).contains k)
  | none => true
/-- all that the kernel looks at, with no heap in sight -/
def Tx.okB (t : Tx) : Bool := t.dfs.all t.okD && (decide (t.sites.map (·.1)).Nodup && (t.sites.all t.okL && (t.cls.all t.okC && (t.kw.all t.okK && (decide (t.cls.map (·.id)).Nodup && decide (t.dfs.map (·.nm)).Nodup)))))

/-! ### what the head is asked -/
def Kn.isC (k : Kn) : Bool := match k.d with
  | .cdic _ => true
  | _ => false
def keyS : DK → Str
  | .s k => toStr k
  | .i _ => default
def Kn.keys (k : Kn) : List Str := match k.d with
  | .cdic kvs => kvs.map fun p => keyS p.1
  | _ => []
namespace Tx
variable (t : Tx)
def fas : List He.Fa := t.dfs.map (fun d => .glo d.nm) ++ (t.cls.map (fun c => .glo c.nm) ++ bns.map fun s => .free (so s))
def defs : List He.DefD := t.dfs.map t.dd ++ (t.cls.filter (fun c => !c.fld.isEmpty)).map t.di
def ts : List He.Tab := (t.kns.filter (·.isC)).map fun k => (fun K => He.ga K k.nm, k.keys)
def tf : List He.Defn := (t.dfs.filter (·.lm)).map fun d => (d.nm, none)
def exK (K : PySem.W.Frag) (k : Kn) : Bool := match k.d with
  | .cdic kvs => He.eqO (PySem.W.nsIn K mainGlobals k.nm) (some (some (.ref (He.ga K k.nm)))) && cdB K (He.ga K k.nm) kvs
  | d => (match PySem.W.nsIn K mainGlobals k.nm with
    | some (some u) => conR K d u
    | _ => false)
def exC (K : PySem.W.Frag) (c : Cl) : Bool := xfB K (He.ga K c.nm) && (t.fl.all (fun f => He.eqO (PySem.W.findIn K (.ref (He.ga K c.nm)) (toStr f)) (some none)) && (t.cls.all (fun c' => decide (PySem.W.exmOne K (.ref (He.ga K c.nm)) (.ref (He.ga K c'.nm)) = some (t.T.sub c.id c'.id))) &&
  (c.fld.isEmpty || (oexB K (He.ga K c.nm) && (He.eqO (PySem.W.findIn K (.ref (He.ga K c.nm)) "__init__") (some (some (.ref (He.ma K (He.ga K c.nm) "__init__")))) && (decide (PySem.W.typeIn K (.ref (He.ma K (He.ga K c.nm) "__init__")) = some (.type "function")) &&
    He.eqO (PySem.W.findIn K (.ref (He.ga K c.nm)) (toStr c.fld)) (some none)))))))
def ex (K : PySem.W.Frag) : Bool := t.kns.all (exK K) && (t.cls.all (t.exC K) && decide ((t.tf.map fun p => (He.cT K p).2)).Nodup)
end Tx
end Ev
/-! Ev39: the module's facts from the head's. -/
namespace Ev
open PySem PySem.Spec L2

/-- the tables agree with the terms -/
structure Eqs (t : Tx) : Prop where
  fn : t.dfs.map (fun d => t.T.fns d.id) = t.dfs.map (fun d => some d.fn)
  lm : t.lms.map (fun d => t.T.fns d.id) = t.lms.map (fun d => some d.fn)
  kn : t.kns.map (fun d => t.T.con d.id) = t.kns.map (fun d => some d.d)
  sub : ∀ c, t.T.sub c c = true → (t.clOf c).isSome = true
theorem map_at {α β : Type} {f g : α → β} : ∀ {l : List α}, l.map f = l.map g → ∀ x ∈ l, f x = g x
  | [], _, _, h => by cases h
  | a :: l, e, x, h => by
    rw [List.map_cons, List.map_cons] at e
    injection e with e1 e2
    rcases List.mem_cons.mp h with rfl | h
    · exact e1
    · exact map_at e2 x h
theorem nodup_inj {α β : Type} {f : α → β} : ∀ {l : List α}, (l.map f).Nodup → ∀ x ∈ l, ∀ y ∈ l, f x = f y → x = y
  | [], _, _, h, _, _, _ => by cases h
  | a :: l, nd, x, hx, y, hy, e => by
    rw [List.map_cons] at nd
    obtain ⟨n1, n2⟩ := List.nodup_cons.mp nd
    rcases List.mem_cons.mp hx with ex | hx'
    · rcases List.mem_cons.mp hy with ey | hy'
      · rw [ex, ey]
      · exact absurd (List.mem_map.mpr ⟨y, hy', by rw [← e, ex]⟩) n1
    · rcases List.mem_cons.mp hy with ey | hy'
      · exact absurd (List.mem_map.mpr ⟨x, hx', by rw [e, ey]⟩) n1
      · exact nodup_inj n2 x hx' y hy' e
section
variable {t : Tx} {w : World} {K : PySem.W.Frag} {mg : Str → Option Value} {base h : Heap} {i : Nat}
theorem dfOf_ok {d : Df} (e : t.dfOf i = some d) : d ∈ t.dfs ∧ d.id = i ∧ t.fnN i = d.nm ∧ t.parO i = parN (defArgs (t.top d.at_)) := by
  have h1 := List.mem_of_find?_eq_some e
  have h2 := List.find?_some e
  refine ⟨h1, by simpa using h2, ?_, ?_⟩
  · unfold Tx.fnN; rw [e]
  · unfold Tx.parO; rw [e]
theorem clOf_ok {d : Cl} (e : t.clOf i = some d) : d ∈ t.cls ∧ d.id = i ∧ t.cnN i = d.nm := by
  have h1 := List.mem_of_find?_eq_some e
  have h2 := List.find?_some e
  refine ⟨h1, by simpa using h2, ?_⟩
  unfold Tx.cnN; rw [e]
theorem knOf_ok {d : Kn} (e : t.knOf i = some d) : d ∈ t.kns ∧ d.id = i ∧ t.knN i = d.nm := by
  have h1 := List.mem_of_find?_eq_some e
  have h2 := List.find?_some e
  refine ⟨h1, by simpa using h2, ?_⟩
  unfold Tx.knN; rw [e]
theorem lmOf_ok {d : LmN} (e : t.lmOf i = some d) : d ∈ t.lms ∧ d.id = i := by
  have h1 := List.mem_of_find?_eq_some e
  have h2 := List.find?_some e
  exact ⟨h1, by simpa using h2⟩
theorem sub_of {sb : List (Nat × List Nat)} (h : ∀ c d, t.T.sub c d = ((sb.lookup c).getD []).contains d) (hs : sb.all (fun p => (t.clOf p.1).isSome) = true) (c : Nat) (hc : t.T.sub c c = true) : (t.clOf c).isSome = true := by
  rw [h] at hc
  cases e : sb.lookup c with
  | none => rw [e] at hc; cases hc
  | some l =>
    have key : ∀ {l : List (Nat × List Nat)} {y : List Nat}, l.lookup c = some y → (c, y) ∈ l := fun {l} => by
      induction l with
      | nil => intro y h; cases h
      | cons a l ih =>
        intro y h
        rw [List.lookup_cons] at h
        split at h
        · rename_i e
          cases h
          rw [beq_iff_eq.mp e]
          exact List.mem_cons_self
        · exact List.mem_cons_of_mem _ (ih h)
    exact List.all_eq_true.mp hs _ (key e)
abbrev Tx.Says (t : Tx) (w : World) (h : Heap) (K : PySem.W.Frag) : Prop := He.SaysX t.fas t.defs t.ts t.tf t.ex w h K
theorem funD_fd {x qual : Str} {params : Arguments} {body : List Stmt} {scope : Scope} {f : Addr} {fd : FuncData} (F : FunD K x qual params body scope [] [] f fd) :
    ∃ oc od kV doc pm an cdv ct osl, fd = PySem.W.fnOf x qual params body scope .none kV doc pm an cdv ct ∧ K.lookup f = some ⟨oc, od, .func (PySem.W.fnOf x qual params body scope .none kV doc pm an cdv ct), osl⟩ ∧ PySem.W.codeIn K cdv qual = true ∧ fdOf K f = PySem.W.fnOf x qual params body scope .none kV doc pm an cdv ct := by
  obtain ⟨oc, od, dV, kV, doc, pm, an, cdv, ct, osl, rfl, lk, hcd, hd, _⟩ := F.ex
  have : dV = .none := by
    rcases hd with ⟨_, hd⟩ | ⟨hd, _⟩
    · exact hd
    · exact absurd rfl hd
  subst this
  exact ⟨oc, od, kV, doc, pm, an, cdv, ct, osl, rfl, lk, hcd, by unfold fdOf; rw [lk]⟩
theorem says_def (c : t.Says w h K) {d : Df} (hd : d ∈ t.dfs) : ∃ fd, FunD K d.nm d.nm (defArgs (t.top d.at_)) (defBody (t.top d.at_)) (defScope (t.top d.at_)) [] [] (He.fAd K (d.nm, none)) fd :=
  He.SaysD.defs c.t.d (d := t.dd d) (List.mem_append_left _ (List.mem_map.mpr ⟨d, hd, rfl⟩))
theorem says_ini (c : t.Says w h K) {d : Cl} (hd : d ∈ t.cls) (hf : d.fld.isEmpty = false) : ∃ fd, FunD K "__init__" (d.nm ++ so ".__init__") (defArgs (t.ini d)) (defBody (t.ini d)) (defScope (t.ini d)) [] [] (He.ma K (He.ga K d.nm) "__init__") fd :=
  He.SaysD.defs c.t.d (d := t.di d) (List.mem_append_right _ (List.mem_map.mpr ⟨d, List.mem_filter.mpr ⟨hd, by rw [hf]; rfl⟩, rfl⟩))
theorem says_glo (c : t.Says w h K) (X : K.In h) (G : h.Ns mainGlobals mg) {x : Str} (hx : He.Fa.glo x ∈ t.fas) : mg x = some (.ref (He.ga K x)) := He.glo_ok X G (He.SaysD.facts c.t.d hx)
theorem ckD_of (O : t.okB = true) {d : Df} (hd : d ∈ t.dfs) : t.okD d = true := by
  simp only [Tx.okB, Bool.and_eq_true, List.all_eq_true] at O
  exact O.1 d hd
theorem md_ok (c : t.Says w h K) (X : K.In h) (G : h.Ns mainGlobals mg) (O : t.okB = true) (Q : Eqs t) : MdOk (t.md w K mg base) where
  gf := fun i hi => by
    obtain ⟨d, e⟩ := Option.isSome_iff_exists.mp hi
    obtain ⟨h1, h2, h3, h4⟩ := dfOf_ok e
    show mg (t.fnN i) = some (.ref (He.fAd K (t.fnN i, none)))
    rw [h3]
    exact says_glo c X G (List.mem_append_left _ (List.mem_map.mpr ⟨d, h1, rfl⟩))
  kf := fun i hi => by
    obtain ⟨d, e⟩ := Option.isSome_iff_exists.mp hi
    obtain ⟨h1, h2, h3, h4⟩ := dfOf_ok e
    obtain ⟨fd, F⟩ := says_def c h1
    show PySem.W.keepIn K (.ref (He.fAd K (t.fnN i, none))) = true
    rw [h3]
    exact F.kp
  bf := fun i hi => by
    obtain ⟨d, e⟩ := Option.isSome_iff_exists.mp hi
    obtain ⟨h1, h2, h3, h4⟩ := dfOf_ok e
    obtain ⟨fd, F⟩ := says_def c h1
    obtain ⟨oc, od, kV, doc, pm, an, cdv, ct, osl, rfl, lk, hcd, hfd⟩ := funD_fd F
    show Binds K (fdOf K (He.fAd K (t.fnN i, none))) (t.parO i) []
    rw [h3, h4, hfd]
    have ok := ckD_of O h1
    simp only [Tx.okD, Bool.and_eq_true] at ok
    exact Binds.all fun us hl => bind_pos (fd := PySem.W.fnOf d.nm d.nm (defArgs (t.top d.at_)) (defBody (t.top d.at_)) (defScope (t.top d.at_)) .none kV doc pm an cdv ct) ok.2.2.1 rfl hl
  np := fun i hi => by
    obtain ⟨d, e⟩ := Option.isSome_iff_exists.mp hi
    obtain ⟨h1, h2, h3, h4⟩ := dfOf_ok e
    have ok := ckD_of O h1
    simp only [Tx.okD, Bool.and_eq_true, decide_eq_true_eq] at ok
    have q := map_at Q.fn d h1
    refine ⟨d.fn, by rw [← h2]; exact q, ?_⟩
    show d.fn.np = (t.parO i).length
    rw [h4]
    exact ok.2.2.2.2.1
theorem bk_ok (c : t.Says w h K) (X : K.In h) (G : h.Ns mainGlobals mg) (O : t.okB = true) (Q : Eqs t) : BkOk (t.md w K mg base) t.bk where
  md := md_ok c X G O Q
  nf := fun i => rfl
  fn := fun i => rfl
  kn := fun i hi => by
    obtain ⟨k, e⟩ := Option.isSome_iff_exists.mp hi
    obtain ⟨h1, h2, h3⟩ := knOf_ok e
    have hx := c.more
    simp only [Tx.ex, Bool.and_eq_true, List.all_eq_true] at hx
    have hk := hx.1 k h1
    have q : t.T.con i = some k.d := by rw [← h2]; exact map_at Q.kn k h1
    show ∃ v u d, mg (t.knN i) = some u ∧ RelV v u ∧ t.T.con i = some d ∧ ∀ G H, Ev.Rep K w G H v d
    rw [h3, q]
    have gen : ∀ d, k.d = d → (match PySem.W.nsIn K mainGlobals k.nm with | some (some u) => conR K d u | _ => false) = true → ∃ v u d', mg k.nm = some u ∧ RelV v u ∧ some k.d = some d' ∧ ∀ G H, Ev.Rep K w G H v d' := fun d hd z => by
      split at z
      · rename_i u hu
        obtain ⟨v, r1, r2⟩ := conR_ok (w := w) z
        exact ⟨v, u, d, PySem.W.mg_of X G hu, r1, by rw [hd], r2⟩
      · cases z
    cases hd : k.d with
    | cdic kvs =>
      unfold Tx.exK at hk
      rw [hd] at hk
      simp only [Bool.and_eq_true] at hk
      have hmem : k ∈ t.kns.filter (·.isC) := List.mem_filter.mpr ⟨h1, by unfold Kn.isC; rw [hd]⟩
      obtain ⟨j, hj, ej⟩ := List.mem_iff_getElem.mp (List.mem_map.mpr ⟨k, hmem, rfl⟩ : (fun K => He.ga K k.nm, k.keys) ∈ t.ts)
      obtain ⟨es, n, KD⟩ := c.t.tab j (t := (fun K => He.ga K k.nm, k.keys)) (by unfold Tx.ts; rw [List.getElem?_eq_getElem hj, ej])
      exact ⟨.ref (He.ga K k.nm), _, _, PySem.W.mg_of X G (He.eqO_ok hk.1), rfl, rfl, cdB_ok KD hk.2⟩
    | _ =>
      unfold Tx.exK at hk
      rw [hd] at hk
      have := gen _ hd hk
      rw [hd] at this
      exact this
  kw := fun p hp hn => by
    obtain ⟨p0, hp0, rfl⟩ := List.mem_map.mp hp
    obtain ⟨d, e⟩ := Option.isSome_iff_exists.mp hn
    obtain ⟨h1, h2, h3, h4⟩ := dfOf_ok e
    obtain ⟨fd, F⟩ := says_def c h1
    obtain ⟨oc, od, kV, doc, pm, an, cdv, ct, osl, rfl, lk, hcd, hfd⟩ := funD_fd F
    have ok := ckD_of O h1
    simp only [Tx.okD, Bool.and_eq_true] at ok
    simp only [Tx.okB, Bool.and_eq_true, List.all_eq_true] at O
    have hk := O.2.2.2.2.1 p0 hp0
    unfold Tx.okK at hk
    rw [e] at hk
    simp only [Bool.and_eq_true, decide_eq_true_eq, List.all_eq_true] at hk
    intro ws hl
    show ∃ us, permD ws p0.2.2 = some us ∧ us.length = (t.parO p0.1).length ∧ bindArgs (fdOf K (He.fAd K (t.fnN p0.1, none))) ⟨[], (p0.2.1.map so).zip ws⟩ = pure ((t.parO p0.1).zip us)
    rw [h3, h4, hfd]
    exact bind_perm (fd := PySem.W.fnOf d.nm d.nm (defArgs (t.top d.at_)) (defBody (t.top d.at_)) (defScope (t.top d.at_)) .none kV doc pm an cdv ct) ok.2.2.1 rfl hk.1 hk.2.1 (fun k hk' => hk.2.2 k hk') hl
  bn := fun s hs => He.free_ok X G (He.SaysD.facts c.t.d (List.mem_append_right _ (List.mem_append_right _ (List.mem_map.mpr ⟨s, hs, rfl⟩))))
theorem exc_ok (c : t.Says w h K) (X : K.In h) (G : h.Ns mainGlobals mg) (O : t.okB = true) (Q : Eqs t) : ExcOk (t.md w K mg base) t.bk := by
  have hx := c.more
  simp only [Tx.ex, Bool.and_eq_true, List.all_eq_true] at hx
  have cl : ∀ i, t.T.sub i i = true → ∃ k, k ∈ t.cls ∧ k.id = i ∧ t.cnN i = k.nm ∧ t.exC K k = true ∧ t.clOf i = some k := fun i hi => by
    obtain ⟨k, e⟩ := Option.isSome_iff_exists.mp (Q.sub i hi)
    obtain ⟨h1, h2, h3⟩ := clOf_ok e
    exact ⟨k, h1, h2, h3, hx.2.1 k h1, e⟩
  have glo : ∀ i, t.T.sub i i = true → mg (t.cnN i) = some (.ref (He.ga K (t.cnN i))) := fun i hi => by
    obtain ⟨k, h1, h2, h3, h4⟩ := cl i hi
    rw [h3]
    exact says_glo c X G (List.mem_append_right _ (List.mem_append_left _ (List.mem_map.mpr ⟨k, h1, rfl⟩)))
  refine ⟨⟨fun a b ha hb => ?_, fun a ha => ?_, fun a f ha hf => ?_⟩, rfl, fun _ => rfl, fun a ha hne => ?_, glo⟩
  · obtain ⟨k, h1, h2, h3, h4, _⟩ := cl a ha
    obtain ⟨k', h1', h2', h3', h4', _⟩ := cl b hb
    simp only [Tx.exC, Bool.and_eq_true, List.all_eq_true, decide_eq_true_eq] at h4
    have := h4.2.2.1 k' h1'
    show PySem.W.exmOne K (.ref (He.ga K (t.cnN a))) (.ref (He.ga K (t.cnN b))) = some (t.T.sub a b)
    rw [h3, h3', this, h2, h2']
  · obtain ⟨k, h1, h2, h3, h4, _⟩ := cl a ha
    simp only [Tx.exC, Bool.and_eq_true, List.all_eq_true, decide_eq_true_eq] at h4
    show XfC K (He.ga K (t.cnN a))
    rw [h3]
    exact xfB_ok h4.1
  · obtain ⟨k, h1, h2, h3, h4, _⟩ := cl a ha
    simp only [Tx.exC, Bool.and_eq_true, List.all_eq_true, decide_eq_true_eq] at h4
    show PySem.W.findIn K (.ref (He.ga K (t.cnN a))) (toStr f) = some none
    rw [h3]
    exact He.eqO_ok (h4.2.1 f hf)
  · obtain ⟨k, h1, h2, h3, h4, h5⟩ := cl a ha
    have hexf : t.bk.exf a = k.fld := by
      show (match t.clOf a with | some d => d.fld | none => []) = k.fld
      rw [h5]
    rw [hexf] at hne ⊢
    have hem : k.fld.isEmpty = false := by
      cases q : k.fld with
      | nil => exact absurd q hne
      | cons _ _ => rfl
    simp only [Tx.exC, Bool.and_eq_true, List.all_eq_true, decide_eq_true_eq, Bool.or_eq_true, hem, Bool.false_eq_true, false_or] at h4
    obtain ⟨_, _, _, g1, g2, g3, g4⟩ := h4
    have T := oexB_ok g1
    refine ⟨?_, glo a ha, ?_⟩
    · show OexC K (He.ga K (t.cnN a))
      rw [h3]
      exact T
    · obtain ⟨fd, F⟩ := says_ini c h1 hem
      obtain ⟨oc, od, kV, doc, pm, an, cdv, ct, osl, rfl, lk, hcd, hfd⟩ := funD_fd F
      have okc : t.okC k = true := by
        simp only [Tx.okB, Bool.and_eq_true, List.all_eq_true] at O
        exact O.2.2.2.1 k h1
      unfold Tx.okC at okc
      rw [hem, Bool.false_or] at okc
      show ∃ fI fd ps, PySem.W.findIn K (.ref (He.ga K (t.cnN a))) "__init__" = some (some (.ref fI)) ∧ PySem.W.typeIn K (.ref fI) = some (.type "function") ∧ FnOk t.P w K mg base (L2.CX t.P w) 1 fI fd ps (spX (He.ga K (t.cnN a)) (toStr k.fld)) ∧ Binds K fd ps []
      rw [h3]
      generalize hB : defBody (t.ini k) = bd at *
      generalize hA : parN (defArgs (t.ini k)) = pn at *
      split at okc
      · rename_i self p1 fl p2 x p3 p4 self' x'
        simp only [Bool.and_eq_true, decide_eq_true_eq] at okc
        obtain ⟨rfl, rfl, rfl, k1, k2, k3, k4, k5, k6⟩ := okc
        refine ⟨_, _, [self, x], He.eqO_ok g2, g3, init_ok lk hcd (scopeB_ok k1) rfl k2 k3 (dbgB_ok k4) (dbgB_ok k5) T (He.eqO_ok g4), ?_⟩
        refine Binds.all fun us hl => ?_
        have := bind_pos (fd := PySem.W.fnOf "__init__" (k.nm ++ so ".__init__") (defArgs (t.ini k)) [.Assign [.Attribute (.Name self p1) (toStr k.fld) p2] (.Name x p3) p4] (defScope (t.ini k)) .none kV doc pm an cdv ct) (us := us) k6 rfl (by show us.length = (parN (defArgs (t.ini k))).length; rw [hA]; exact hl)
        rw [this]
        show pure ((parN (defArgs (t.ini k))).zip us) = _
        rw [hA]
      · cases okc
end
end Ev
/-! Ev40: defs and lambdas: their facts; the law's end. -/
namespace Ev
open PySem PySem.Spec L2

section
variable {t : Tx} {w : World} {K : PySem.W.Frag} {mg : Str → Option Value} {base h : Heap} {i : Nat}
def Tx.cs (t : Tx) (K : PySem.W.Frag) : List (Addr × Addr) := t.tf.map (He.cT K)
theorem lookup_of_nodup {α β : Type} [BEq α] [LawfulBEq α] : ∀ {l : List (α × β)}, (l.map (·.1)).Nodup → ∀ p ∈ l, l.lookup p.1 = some p.2
  | [], _, _, h => by cases h
  | (a, b) :: l, nd, p, h => by
    rw [List.map_cons] at nd
    obtain ⟨n1, n2⟩ := List.nodup_cons.mp nd
    rw [List.lookup_cons]
    rcases List.mem_cons.mp h with rfl | h
    · simp
    · have : (p.1 == a) = false := by
        rw [beq_eq_false_iff_ne]
        intro e
        exact n1 (e ▸ List.mem_map.mpr ⟨p, h, rfl⟩)
      rw [this]
      exact lookup_of_nodup n2 p h
theorem mem_of_look {α β : Type} [BEq α] [LawfulBEq α] {x : α} {y : β} : ∀ {l : List (α × β)}, l.lookup x = some y → (x, y) ∈ l
  | [], h => by cases h
  | (a, b) :: l, h => by
    rw [List.lookup_cons] at h
    split at h
    · rename_i e
      cases h
      rw [beq_iff_eq.mp e]
      exact List.mem_cons_self
    · exact List.mem_cons_of_mem _ (mem_of_look h)
theorem has_sites (O : t.okB = true) {d : Df} (hd : d ∈ t.dfs) {ls : Sites} (e : t.ckD d = some ls) : Has (t.md w K mg base) ls := fun s hs => by
  simp only [Tx.okB, Bool.and_eq_true, decide_eq_true_eq] at O
  refine lookup_of_nodup O.2.1 s ?_
  exact List.mem_flatMap.mpr ⟨d, hd, by rw [e]; exact hs⟩
theorem fn_fact (c : t.Says w h K) (X : K.In h) (G : h.Ns mainGlobals mg) (O : t.okB = true) (Q : Eqs t) (TB : ∀ q ∈ t.cs K, LamX.TabB base mg q.1 q.2) (hi : (t.dfOf i).isSome = true) :
    ∃ name qual params body scope N fn lm, FnFact (t.md w K mg base) t.bk i name qual params body scope N fn lm := by
  obtain ⟨d, e⟩ := Option.isSome_iff_exists.mp hi
  obtain ⟨h1, h2, h3, h4⟩ := dfOf_ok e
  obtain ⟨fd, F⟩ := says_def c h1
  obtain ⟨oc, od, kV, doc, pm, an, cdv, ct, osl, rfl, lk, hcd, hfd⟩ := funD_fd F
  have ok := ckD_of O h1
  simp only [Tx.okD, Bool.and_eq_true, decide_eq_true_eq, Bool.not_eq_true'] at ok
  obtain ⟨o1, o2, o3, o4, o5, o6⟩ := ok
  obtain ⟨ls, hls⟩ := Option.isSome_iff_exists.mp o1
  refine ⟨d.nm, d.nm, defArgs (t.top d.at_), defBody (t.top d.at_), defScope (t.top d.at_), d.N.map so, d.fn, d.lm, ?_⟩
  refine ⟨⟨oc, od, osl, .none, kV, doc, pm, cdv, ct, an, ?_, ?_, hcd, fun hlm => ?_⟩, ?_, ?_, by rw [List.length_map]; exact o4, ?_, ⟨ls, hls, has_sites O h1 hls⟩, o6⟩
  · show K.lookup (He.fAd K (t.fnN i, none)) = _
    rw [h3]
    exact lk
  · show fdOf K (He.fAd K (t.fnN i, none)) = _
    rw [h3]
    exact hfd
  · obtain ⟨cc, rfl⟩ := He.codeIn_ref hcd
    have hco : He.codeOf K (d.nm, none) = cc := He.codeOf_eq (p := (d.nm, none)) lk rfl
    have hT : (d.nm, (none : Option Str)) ∈ t.tf := List.mem_map.mpr ⟨d, List.mem_filter.mpr ⟨h1, hlm⟩, rfl⟩
    have tb := TB (He.cT K (d.nm, none)) (List.mem_map.mpr ⟨_, hT, rfl⟩)
    refine ⟨cc, (He.cT K (d.nm, none)).2, rfl, ?_, List.mem_map.mpr ⟨d, List.mem_filter.mpr ⟨h1, hlm⟩, rfl⟩, fun p hp ep => ?_⟩
    · have e1 : (He.cT K (d.nm, none)).1 = cc := hco
      rw [← e1]
      exact tb
    · obtain ⟨d', hd', rfl⟩ := List.mem_map.mp hp
      have hT' : (d'.nm, (none : Option Str)) ∈ t.tf := List.mem_map.mpr ⟨d', hd', rfl⟩
      have hx := c.more
      simp only [Tx.ex, Bool.and_eq_true, decide_eq_true_eq] at hx
      have := nodup_inj hx.2.2 _ hT' _ hT ep
      have e2 : d'.nm = d.nm := congrArg Prod.fst this
      show lamQ d' = lamQ d
      unfold lamQ
      rw [e2]
  · show FnScope (d.N.map so) (t.parO i) _
    rw [h4]
    exact scopeB_ok o2
  · show t.T.fns i = _
    rw [← h2]
    exact map_at Q.fn d h1
  · show d.fn.np = (t.parO i).length
    rw [h4]
    exact o5
theorem lam_ck (O : t.okB = true) (Q : Eqs t) {l : Nat} {I : LamI} (hl : (t.md w K mg base).Λ l = some I) : LamCk (t.md w K mg base) t.bk l I := by
  have hm : (l, I) ∈ t.sites := mem_of_look hl
  simp only [Tx.okB, Bool.and_eq_true, List.all_eq_true] at O
  have ok := O.2.2.1 _ hm
  unfold Tx.okL at ok
  split at ok
  · rename_i m hmo
    obtain ⟨m1, m2⟩ := lmOf_ok hmo
    simp only [Bool.and_eq_true, decide_eq_true_eq, List.all_eq_true, Bool.not_eq_true', Bool.or_eq_true, decide_eq_false_iff_not, List.contains_iff_mem] at ok
    obtain ⟨c1, c2, c3, c4, c5, c6, c7, c8, c9, c10, c11, c12, c13, c14⟩ := ok
    split at c1
    · rename_i ib hib
      refine ⟨⟨c6, c7, c8, fun y hy => (c9 y hy).1, fun x => ⟨fun hx => ?_, fun hx => (c10 x hx).1⟩, c11, fun x hx => (c10 x hx).2, fun q cl pm cv ctv us hu => ?_, c14⟩, m.fn, ib, m.N.map so, ?_, bodyOf_ok hib, c2, c3, by rw [List.length_map]; exact c4, c5, [], ?_, fun s hs => by cases hs⟩
      · rcases (c9 _ hx).2 with z | z
        · exact absurd rfl z
        · exact z
      · rw [c13] at hu ⊢
        exact bind_pos (fd := PySem.W.kla_fn "<lambda>" q I.params I.body I.scope cl pm cv ctv) c12 rfl hu
      · show t.T.fns l = _
        rw [← show m.id = l from m2]
        exact map_at Q.lm m m1
      · unfold isNilO at c1
        split at c1
        · assumption
        · cases c1
    · cases c1
  · cases ok
end
end Ev
/-! Ev41: a law by the evaluator. -/
namespace Ev
open PySem PySem.Spec PySem.Calls PyProof.Rows L2

theorem repL_ints {K : PySem.W.Frag} {w : World} {G : Gh} {H : Hp} : ∀ ns : List Int, RepL K w G H (ns.map V.int) (ns.map D.int)
  | [] => .nil
  | n :: ns => .cons (.int n) (repL_ints ns)
theorem law_walkE {l : PySem.W.OpenLaw} {n k nn lid : Nat} {q : Program} {loose : List Str} {XP : (Str → Option Value) → Heap → Prop} {d : DefRec} {t : Tx} {x : Str}
    (hn : l.most = some n) (hn2 : n ≤ sizeLine) (hdf : d.params.defaults = []) (hP : l.prog = t.P) (hnf : (t.dfOf lid).isSome = true) (hname : t.fnN lid = d.name) (hpar : t.parO lid = [x]) (hr : Room (2 * k + 2) callerA) (O : t.okB = true) (Q : Eqs t)
    (law : ∀ ns : List Int, ns.length ≤ n → (∀ z ∈ ns, Builtin.Int.intBits z ≤ 1048576) → ∃ m, evF t.T k lid [.dat (.lst (ns.map .int))] [] = .ok (.bl true) m) :
    PySem.W.WalkO q loose XP (He.hookX nn t.fas t.defs t.ts t.tf t.ex).says l.row.toRowW d [] (fun f vs => PySem.call f vs) := by
  refine Att.attach_callB hn hdf fun w s₀ s₁ mg mb fa o pm cd doc a vs ns G Y ho hd hcd hmg hobj hints hlen hbits hg => ?_
  obtain ⟨K, KX, c⟩ := Y
  have hcs : ∀ p ∈ t.cs K, ∃ f ∈ t.tf, p = He.cT K f := fun p hp => by
    obtain ⟨f, hf, e⟩ := List.mem_map.mp hp
    exact ⟨f, hf, e.symm⟩
  rw [hP]
  have hdm : ∀ base, MdOk (t.md w K mg base) := fun base => md_ok c KX G.T.g O Q
  have efa : fa = He.fAd K (t.fnN lid, none) := by
    have := (hdm s₁.heap).gf lid hnf
    have e2 : mg (t.fnN lid) = some (.ref (He.fAd K (t.fnN lid, none))) := this
    rw [hname, hmg] at e2
    rw [hname]
    injection e2 with e2
    injection e2
  refine law_end (cs := t.cs K) KX G.T.g G.T.b G.T.builtins G.T.nolimit hg (fun p hp => ?_) (fun p hp => ?_) (fun p hp => ?_) G.T.bmain hobj hints (Nat.le_trans hlen hn2) fun base MB TB E0 hT hs => ?_
  · obtain ⟨f, hf, rfl⟩ := hcs p hp
    exact c.empty f hf
  · obtain ⟨f, hf, rfl⟩ := hcs p hp
    exact c.out f hf
  · obtain ⟨f, hf, rfl⟩ := hcs p hp
    exact PySem.W.codeHd_of_K KX (c.hd f hf)
  · generalize hHH : H0 K a { cls := .type "list", data := .seq vs.toArray } (ns.map V.int) ((t.cs K).map (·.2)) = HH at *
    have all := all_ok (M := t.md w K mg base) (bk_ok c KX G.T.g O Q) (exc_ok c KX G.T.g O Q) (fun fid hf => fn_fact c KX G.T.g O Q TB hf) (fun l I hl => lam_ck O Q hl) k
    have F := all.1 lid hnf
    rw [efa]
    have hb : BindsTo s₁ ((t.md w K mg base).fd lid) ⟨[.ref a], []⟩ (((t.md w K mg base).ps lid).zip [.ref a]) := by
      obtain ⟨df, e⟩ := Option.isSome_iff_exists.mp hnf
      obtain ⟨h1, h2, h3, h4⟩ := dfOf_ok e
      have := (hdm base).bf lid hnf
      have := this s₁ [.ref a] KX (by show ([.ref a] ++ [] : List Value).length = (t.parO lid).length; rw [hpar]; rfl)
      simpa using this
    refine F.run callerA [] s₁ HH ⟨[.ref a], []⟩ [.ref a] [.ref a] _ _ rfl hr E0 hb (.cons rfl .nil) ?_
    have tabs : LamX.Tabs (t.md w K mg base).tabs HH := fun p hp => by
      obtain ⟨df, hdf', rfl⟩ := List.mem_map.mp hp
      obtain ⟨g1, g2⟩ := List.mem_filter.mp hdf'
      have := hT (He.cT K (df.nm, none)) (List.mem_map.mpr ⟨_, List.mem_map.mpr ⟨df, hdf', rfl⟩, rfl⟩)
      exact ⟨#[], this, trivial, fun pos cv h => by cases h⟩
    obtain ⟨m, hm⟩ := law ns hlen hbits
    have fin : ∀ G : Gh, (t.md w K mg base).SI G HH [] → Ev.Rep K w G HH (.ref a) (.lst (ns.map .int)) → spF (t.md w K mg base) k lid [.ref a] HH (fun v _ => v = .bl true) (fun _ _ _ => False) := fun G si r => by
      refine ⟨G, [.dat (.lst (ns.map .int))], [], si, .cons (.dat r) .nil, ?_, ?_⟩
      · show 1 = (t.parO lid).length
        rw [hpar]
        rfl
      · show (match evF t.T k lid [.dat (.lst (ns.map .int))] [] with | .ok d m' => _ | .ex x m' => _ | .bad => _)
        rw [hm]
        intro G' H' v _ _ r
        cases r
        rfl
    rcases hs with hs | ⟨o, its, n', e1, e2, e3, e4, e5, e6⟩
    · refine fin ⟨fun b => b = a, []⟩ (by
        refine ⟨rfl, List.nodup_nil, fun i a c h => by simp at h, fun b hb => ?_, fun b _ z => by simp at z, tabs⟩
        have hb : b = a := hb
        subst hb
        exact ⟨_, hs⟩) (.lst (.inl ⟨.inr ⟨_, hs⟩, rfl⟩) (repL_ints ns))
    · refine fin ⟨fun b => False, []⟩ ⟨rfl, List.nodup_nil, fun i a c h => by simp at h, fun b hb => hb.elim, fun b _ z => by simp at z, tabs⟩ (.lst (.inr ⟨o, its, n', e1, e2, e3, e4, e5, e6⟩) (repL_ints ns))
end Ev
/-! terms of law_k01 -/
namespace Fs
open Ev
/-- _law_start (script) -/
def f0 : Fn := ⟨1, 1, (.cons (.ret (.mkr (.disp (.cons (.mkr (.copy (.ex (.var 0)))) (.cons (.con (.int (0))) (.cons (.con (.int (0))) (.cons (.con (.int (43))) .nil))))))) .nil)⟩
/-- _law_below (stream many cell digit mixed) -/
def f1w1c : Ev.T := (.and (.cmp .eq (.ex (.idx (.ex (.var 0)) (.con (.int (1))))) (.ex (.con (.int (0))))) (.cmp .ne (.ex (.idx (.ex (.var 0)) (.con (.int (0))))) (.ex (.mk (.disp .nil)))))
def f1w1b : Ss := (.cons (.asg (.nm 2) (.meth .pop1 (.ex (.idx (.ex (.var 0)) (.con (.int (0))))) (.cons (.con (.int (0))) .nil))) (.cons (.setr (.var 0) (.con (.int (3))) (.bin .mod (.bi .int (.cons (.ex (.bin .add (.bin .add (.bin .mul (.idx (.ex (.var 0)) (.con (.int (3)))) (.con (.int (69031)))) (.var 2)) (.con (.int (13))))) .nil)) (.con (.int (2147483647))))) (.cons (.setr (.var 0) (.con (.int (1))) (.ite (.cmp .ge (.ex (.var 2)) (.ex (.bin .pow (.con (.int (10))) (.con (.int (18)))))) (.var 2) (.con (.int (0))))) .nil)))
def f1 : Fn := ⟨2, 5, (.cons (.setr (.var 0) (.con (.int (2))) (.bin .add (.idx (.ex (.var 0)) (.con (.int (2)))) (.con (.int (1))))) (.cons (.whl 100 f1w1c f1w1b) (.cons (.ife (.cmp .gt (.ex (.idx (.ex (.var 0)) (.con (.int (1))))) (.ex (.con (.int (0))))) (.cons (.asg (.nm 3) (.bin .mod (.bi .int (.cons (.ex (.idx (.ex (.var 0)) (.con (.int (1))))) .nil)) (.var 1))) (.cons (.setr (.var 0) (.con (.int (1))) (.bin .div (.idx (.ex (.var 0)) (.con (.int (1)))) (.var 1))) (.cons (.ret (.var 3)) .nil))) .nil) (.cons (.asg (.nm 4) (.bin .mod (.bi .int (.cons (.ex (.bin .pow (.bin .add (.bin .add (.idx (.ex (.var 0)) (.con (.int (3)))) (.bin .mul (.con (.int (9049))) (.idx (.ex (.var 0)) (.con (.int (2)))))) (.con (.int (130073)))) (.con (.int (5))))) .nil)) (.con (.int (2147483629))))) (.cons (.ret (.bin .mod (.bin .mod (.bi .int (.cons (.ex (.bin .pow (.bin .add (.bin .add (.bin .mul (.var 4) (.con (.int (44089)))) (.bin .mul (.con (.int (60077))) (.idx (.ex (.var 0)) (.con (.int (2)))))) (.con (.int (47)))) (.con (.int (3))))) .nil)) (.con (.int (1000000007)))) (.var 1))) .nil)))))⟩
/-- _law_mixed (stream some left k) -/
def f2m1e : E := (.meth .pop1 (.ex (.var 2)) (.cons (.call 1 (.dat (.var 0) (.dat (.bi .len (.cons (.ex (.var 2)) .nil)) .nil))) .nil))
def f2 : Fn := ⟨2, 4, (.cons (.asg (.nm 2) (.mkr (.copy (.ex (.var 1))))) (.cons (.ret (.mk (.comp (.nm 3) (.rng (.bi .len (.cons (.ex (.var 2)) .nil))) .no f2m1e [3]))) .nil))⟩
/-- is_row (thing) -/
def f13 : Fn := ⟨1, 1, (.cons (.ret (.isin (.ex (.var 0)) [.list, .tuple])) .nil)⟩
/-- kind_in (thing depth first second) -/
def f14 : Fn := ⟨2, 4, (.cons (.ife (.val (.ex (.isin (.ex (.var 0)) [.str]))) (.cons (.ret (.ite (.cmp .in_ (.ex (.var 0)) (.ex (.glo 1))) (.var 0) (.con .non))) .nil) .nil) (.cons (.ife (.or (.cmp .eq (.ex (.var 1)) (.ex (.con (.int (0))))) (.or (.not (.val (.ex (.call 13 (.dat (.var 0) .nil))))) (.cmp .ne (.ex (.bi .len (.cons (.ex (.var 0)) .nil))) (.ex (.con (.int (3))))))) (.cons (.ret (.con .non)) .nil) .nil) (.cons (.ife (.or (.not (.val (.ex (.isin (.ex (.idx (.ex (.var 0)) (.con (.int (0))))) [.str])))) (.cmp .nin (.ex (.idx (.ex (.var 0)) (.con (.int (0))))) (.ex (.tup (.cons (.con (.str [102, 117, 110])) (.cons (.con (.str [112, 97, 105, 114])) .nil)))))) (.cons (.ret (.con .non)) .nil) .nil) (.cons (.par 2 3 (.call 14 (.dat (.idx (.ex (.var 0)) (.con (.int (1)))) (.dat (.bin .sub (.var 1) (.con (.int (1)))) .nil))) (.call 14 (.dat (.idx (.ex (.var 0)) (.con (.int (2)))) (.dat (.bin .sub (.var 1) (.con (.int (1)))) .nil)))) (.cons (.ife (.or (.cmp .is_ (.ex (.var 2)) (.ex (.con .non))) (.cmp .is_ (.ex (.var 3)) (.ex (.con .non)))) (.cons (.ret (.con .non)) .nil) .nil) (.cons (.ret (.tup (.cons (.idx (.ex (.var 0)) (.con (.int (0)))) (.cons (.var 2) (.cons (.var 3) .nil))))) .nil))))))⟩
/-- need_kind (thing found) -/
def f15 : Fn := ⟨1, 2, (.cons (.asg (.nm 1) (.call 14 (.dat (.var 0) (.dat (.glo 3) .nil)))) (.cons (.ife (.cmp .is_ (.ex (.var 1)) (.ex (.con .non))) (.cons (.raise 12 [[116, 104, 105, 110, 103]] (.cons (.var 0) .nil)) .nil) .nil) (.cons (.ret (.var 1)) .nil)))⟩
/-- depth_in (kind) -/
def f16 : Fn := ⟨1, 1, (.cons (.ife (.val (.ex (.isin (.ex (.var 0)) [.str]))) (.cons (.ret (.con (.int (0)))) .nil) .nil) (.cons (.ret (.bin .add (.con (.int (1))) (.bi .max2 (.cons (.ex (.call 16 (.dat (.idx (.ex (.var 0)) (.con (.int (1)))) .nil))) (.cons (.ex (.call 16 (.dat (.idx (.ex (.var 0)) (.con (.int (2)))) .nil))) .nil))))) .nil))⟩
/-- head_in (kind) -/
def f17 : Fn := ⟨1, 1, (.cons (.ife (.cmp .eq (.ex (.var 0)) (.ex (.con (.str [97, 110, 121])))) (.cons (.ret (.con .non)) .nil) .nil) (.cons (.ret (.ite (.val (.ex (.isin (.ex (.var 0)) [.str]))) (.var 0) (.idx (.ex (.var 0)) (.con (.int (0)))))) .nil))⟩
/-- ground_in (head) -/
def f18 : Fn := ⟨1, 1, (.cons (.ret (.ite (.cmp .in_ (.ex (.var 0)) (.ex (.tup (.cons (.con (.str [110, 117, 109])) (.cons (.con (.str [116, 114, 117, 116, 104])) .nil))))) (.var 0) (.tup (.cons (.var 0) (.cons (.con (.str [97, 110, 121])) (.cons (.con (.str [97, 110, 121])) .nil)))))) .nil)⟩
/-- is_kind (thing) -/
def f19 : Fn := ⟨1, 1, (.cons (.ret (.cmp .isn (.ex (.call 14 (.dat (.var 0) (.dat (.glo 3) .nil)))) (.ex (.con .non)))) .nil)⟩
/-- depth_of (kind) -/
def f20 : Fn := ⟨1, 1, (.cons (.ret (.call 16 (.dat (.call 15 (.dat (.var 0) .nil)) .nil))) .nil)⟩
/-- marks_in (kind) -/
def f21 : Fn := ⟨1, 1, (.cons (.ife (.val (.ex (.isin (.ex (.var 0)) [.str]))) (.cons (.ret (.con (.int (1)))) .nil) .nil) (.cons (.ret (.bin .add (.bin .add (.con (.int (1))) (.call 21 (.dat (.idx (.ex (.var 0)) (.con (.int (1)))) .nil))) (.call 21 (.dat (.idx (.ex (.var 0)) (.con (.int (2)))) .nil)))) .nil))⟩
/-- marks_of (kind) -/
def f22 : Fn := ⟨1, 1, (.cons (.ret (.call 21 (.dat (.call 15 (.dat (.var 0) .nil)) .nil))) .nil)⟩
/-- head_of (kind) -/
def f23 : Fn := ⟨1, 1, (.cons (.ret (.call 17 (.dat (.call 15 (.dat (.var 0) .nil)) .nil))) .nil)⟩
/-- need_head (head) -/
def f24 : Fn := ⟨1, 1, (.cons (.ife (.or (.not (.val (.ex (.isin (.ex (.var 0)) [.str])))) (.cmp .nin (.ex (.var 0)) (.ex (.glo 0)))) (.cons (.raise 10 [[116, 104, 105, 110, 103]] (.cons (.var 0) .nil)) .nil) .nil) .nil)⟩
/-- ground_of (head) -/
def f25 : Fn := ⟨1, 1, (.cons (.exp (.call 24 (.dat (.var 0) .nil))) (.cons (.ret (.call 18 (.dat (.var 0) .nil))) .nil))⟩
/-- need_place (place word) -/
def f26l1 : Ss := (.cons (.ife (.or (.not (.val (.ex (.isin (.ex (.var 1)) [.str])))) (.cmp .nin (.ex (.var 1)) (.ex (.glo 2)))) (.cons (.raise 24 [[116, 104, 105, 110, 103]] (.cons (.var 0) .nil)) .nil) .nil) .nil)
def f26 : Fn := ⟨1, 2, (.cons (.ife (.not (.val (.ex (.call 13 (.dat (.var 0) .nil))))) (.cons (.raise 24 [[116, 104, 105, 110, 103]] (.cons (.var 0) .nil)) .nil) .nil) (.cons (.for_ (.nm 1) (.it (.var 0)) f26l1) (.cons (.ret (.bi .tuple (.cons (.ex (.var 0)) .nil))) .nil)))⟩
/-- part_in (kind place word head index) -/
def f27l1 : Ss := (.cons (.asg (.tp [3, 4]) (.idx (.ex (.glo 2)) (.var 2))) (.cons (.ife (.or (.val (.ex (.isin (.ex (.var 0)) [.str]))) (.cmp .ne (.ex (.idx (.ex (.var 0)) (.con (.int (0))))) (.ex (.var 3)))) (.cons (.ret (.con .non)) .nil) .nil) (.cons (.asg (.nm 0) (.idx (.ex (.var 0)) (.var 4))) .nil)))
def f27 : Fn := ⟨2, 5, (.cons (.for_ (.nm 2) (.it (.var 1)) f27l1) (.cons (.ret (.var 0)) .nil))⟩
/-- part_at (kind place plain) -/
def f28 : Fn := ⟨2, 3, (.cons (.asg (.nm 2) (.call 15 (.dat (.var 0) .nil))) (.cons (.ret (.call 27 (.dat (.var 2) (.dat (.call 26 (.dat (.var 1) .nil)) .nil)))) .nil))⟩
/-- _law_fhead (kind) -/
def f29 : Fn := ⟨1, 1, (.cons (.ife (.cmp .eq (.ex (.var 0)) (.ex (.con (.str [97, 110, 121])))) (.cons (.ret (.con .non)) .nil) .nil) (.cons (.ret (.ite (.val (.ex (.isin (.ex (.var 0)) [.str]))) (.var 0) (.idx (.ex (.var 0)) (.con (.int (0)))))) .nil))⟩
/-- _law_fground (head) -/
def f30 : Fn := ⟨1, 1, (.cons (.ret (.ite (.cmp .in_ (.ex (.var 0)) (.ex (.tup (.cons (.con (.str [110, 117, 109])) (.cons (.con (.str [116, 114, 117, 116, 104])) .nil))))) (.var 0) (.tup (.cons (.var 0) (.cons (.con (.str [97, 110, 121])) (.cons (.con (.str [97, 110, 121])) .nil)))))) .nil)⟩
/-- _law_fkind (stream deep kind) -/
def f31 : Fn := ⟨2, 3, (.cons (.asg (.nm 2) (.call 1 (.dat (.var 0) (.dat (.con (.int (9))) .nil)))) (.cons (.ife (.or (.cmp .lt (.ex (.var 2)) (.ex (.con (.int (3))))) (.and (.cmp .lt (.ex (.var 1)) (.ex (.con (.int (1))))) (.cmp .gt (.ex (.var 2)) (.ex (.con (.int (6))))))) (.cons (.ret (.con (.str [97, 110, 121]))) .nil) .nil) (.cons (.ife (.or (.cmp .lt (.ex (.var 2)) (.ex (.con (.int (5))))) (.cmp .lt (.ex (.var 1)) (.ex (.con (.int (1)))))) (.cons (.ret (.call 38 (.dat (.var 0) (.dat (.mk (.disp (.cons (.con (.str [110, 117, 109])) (.cons (.con (.str [110, 117, 109])) (.cons (.con (.str [116, 114, 117, 116, 104])) .nil))))) .nil)))) .nil) .nil) (.cons (.ret (.tup (.cons (.ite (.cmp .lt (.ex (.var 2)) (.ex (.con (.int (8))))) (.con (.str [102, 117, 110])) (.con (.str [112, 97, 105, 114]))) (.cons (.call 31 (.dat (.var 0) (.dat (.bin .sub (.var 1) (.con (.int (1)))) .nil))) (.cons (.call 31 (.dat (.var 0) (.dat (.bin .sub (.var 1) (.con (.int (1)))) .nil))) .nil))))) .nil))))⟩
/-- _law_fdeep (kind) -/
def f32 : Fn := ⟨1, 1, (.cons (.ret (.ite (.val (.ex (.isin (.ex (.var 0)) [.str]))) (.con (.int (0))) (.bin .add (.con (.int (1))) (.bi .max2 (.cons (.ex (.call 32 (.dat (.idx (.ex (.var 0)) (.con (.int (1)))) .nil))) (.cons (.ex (.call 32 (.dat (.idx (.ex (.var 0)) (.con (.int (2)))) .nil))) .nil)))))) .nil)⟩
/-- _law_fraised (run found e) -/
def f33 : Fn := ⟨1, 3, (.cons (.asg (.nm 1) (.con .non)) (.cons (.try_ (.cons (.exp (.app 0 .nil)) .nil) (.cons 12 (some 2) (.cons (.asg (.nm 1) (.tup (.cons (.con (.str [107, 105, 110, 100])) (.cons (.attr 2 [116, 104, 105, 110, 103]) .nil)))) .nil) (.cons 14 (some 2) (.cons (.asg (.nm 1) (.tup (.cons (.con (.str [108, 97, 98, 101, 108])) (.cons (.attr 2 [116, 104, 105, 110, 103]) .nil)))) .nil) (.cons 3 (some 2) (.cons (.asg (.nm 1) (.tup (.cons (.con (.str [99, 104, 97, 105, 110])) (.cons (.attr 2 [105, 110, 100, 101, 120]) .nil)))) .nil) (.cons 4 (some 2) (.cons (.asg (.nm 1) (.tup (.cons (.con (.str [99, 111, 97, 116])) (.cons (.attr 2 [116, 104, 105, 110, 103]) .nil)))) .nil) (.cons 22 (some 2) (.cons (.asg (.nm 1) (.tup (.cons (.con (.str [111, 116, 104, 101, 114])) (.cons (.attr 2 [116, 104, 105, 110, 103]) .nil)))) .nil) (.cons 30 (some 2) (.cons (.asg (.nm 1) (.tup (.cons (.con (.str [116, 97, 114, 103, 101, 116])) (.cons (.attr 2 [116, 104, 105, 110, 103]) .nil)))) .nil) (.cons 8 (some 2) (.cons (.asg (.nm 1) (.tup (.cons (.con (.str [101, 110, 100, 115])) (.cons (.attr 2 [116, 104, 105, 110, 103]) .nil)))) .nil) (.cons 16 (some 2) (.cons (.asg (.nm 1) (.tup (.cons (.con (.str [109, 97, 110, 121])) (.cons (.attr 2 [116, 104, 105, 110, 103]) .nil)))) .nil) (.cons 10 (some 2) (.cons (.asg (.nm 1) (.tup (.cons (.con (.str [104, 101, 97, 100])) (.cons (.attr 2 [116, 104, 105, 110, 103]) .nil)))) .nil) (.cons 24 (some 2) (.cons (.asg (.nm 1) (.tup (.cons (.con (.str [112, 108, 97, 99, 101])) (.cons (.attr 2 [116, 104, 105, 110, 103]) .nil)))) .nil) (.cons 13 (some 2) (.cons (.asg (.nm 1) (.tup (.cons (.con (.str [107, 105, 110, 100, 115])) (.cons (.attr 2 [105, 110, 100, 101, 120]) .nil)))) .nil) (.cons 15 (some 2) (.cons (.asg (.nm 1) (.tup (.cons (.con (.str [108, 97, 98, 101, 108, 115])) (.cons (.attr 2 [105, 110, 100, 101, 120]) .nil)))) .nil) (.cons 21 (some 2) (.cons (.asg (.nm 1) (.tup (.cons (.con (.str [111, 114, 100, 101, 114])) (.cons (.attr 2 [116, 104, 105, 110, 103]) .nil)))) .nil) (.cons 25 (some 2) (.cons (.asg (.nm 1) (.tup (.cons (.con (.str [112, 114, 111, 98, 101])) (.cons (.attr 2 [116, 104, 105, 110, 103]) .nil)))) .nil) (.cons 28 (some 2) (.cons (.asg (.nm 1) (.tup (.cons (.con (.str [115, 105, 100, 101])) (.cons (.attr 2 [116, 104, 105, 110, 103]) .nil)))) .nil) (.cons 17 (some 2) (.cons (.asg (.nm 1) (.tup (.cons (.con (.str [109, 105, 100, 100, 108, 101])) (.cons (.attr 2 [116, 104, 105, 110, 103]) .nil)))) .nil) (.cons 46 (some 2) (.cons (.asg (.nm 1) (.tup (.cons (.con (.str [116, 111, 111, 109, 97, 110, 121])) (.cons (.attr 2 [109, 97, 110, 121]) .nil)))) .nil) (.cons 32 (some 2) (.cons (.asg (.nm 1) (.tup (.cons (.con (.str [116, 101, 120, 116])) (.cons (.attr 2 [112, 108, 97, 99, 101]) .nil)))) .nil) (.cons 0 none (.cons (.asg (.nm 1) (.tup (.cons (.con (.str [101, 108, 115, 101])) (.cons (.con .non) .nil)))) .nil) .nil)))))))))))))))))))) (.cons (.ret (.var 1)) .nil)))⟩
/-- _law_frefuses (run kind thing found) -/
def f34 : Fn := ⟨3, 4, (.cons (.asg (.nm 3) (.call 33 (.pas 0 .nil))) (.cons (.exp (.call 42 (.dat (.var 2) .nil))) (.cons (.ret (.and (.cmp .isn (.ex (.var 3)) (.ex (.con .non))) (.and (.cmp .eq (.ex (.idx (.ex (.var 3)) (.con (.int (0))))) (.ex (.var 1))) (.call 40 (.dat (.idx (.ex (.var 3)) (.con (.int (1)))) (.dat (.var 2) .nil)))))) .nil)))⟩
/-- _law_fasked (stream run things due turn passed kept told thing) -/
def f35m1e : E := (.call 41 (.dat (.var 0) (.dat (.var 8) .nil)))
def f35l1 : Ss := (.cons (.asg (.nm 5) (.mk (.comp (.nm 8) (.it (.var 2)) .no f35m1e [8]))) (.cons (.asg (.nm 6) (.bi .repr (.cons (.ex (.var 5)) .nil))) (.cons (.asg (.nm 7) (.app 1 (.cons (.var 5) .nil))) (.cons (.ife (.or (.not (.val (.ex (.call 40 (.dat (.var 7) (.dat (.var 3) .nil)))))) (.cmp .ne (.ex (.bi .repr (.cons (.ex (.var 5)) .nil))) (.ex (.var 6)))) (.cons (.ret (.con (.bl false))) .nil) .nil) (.cons (.ife (.or (.not (.val (.ex (.call 44 (.dat (.var 7) .nil))))) (.cmp .ne (.ex (.bi .repr (.cons (.ex (.var 5)) .nil))) (.ex (.var 6)))) (.cons (.ret (.con (.bl false))) .nil) .nil) .nil)))))
def f35 : Fn := ⟨4, 9, (.cons (.for_ (.nm 4) (.rng (.con (.int (2)))) f35l1) (.cons (.ret (.con (.bl true))) .nil))⟩
/-- _law_fno_kind (stream deep turn some) -/
def f36l1 : Ss := (.cons (.asg (.nm 1) (.ite (.val (.ex (.call 37 (.dat (.var 0) (.dat (.con (.int (2))) .nil))))) (.tup (.cons (.con (.str [102, 117, 110])) (.cons (.var 1) (.cons (.con (.str [97, 110, 121])) .nil)))) (.tup (.cons (.con (.str [112, 97, 105, 114])) (.cons (.con (.str [97, 110, 121])) (.cons (.var 1) .nil)))))) .nil)
def f36 : Fn := ⟨1, 4, (.cons (.asg (.nm 1) (.con (.str [110, 117, 109]))) (.cons (.for_ (.nm 2) (.rng (.con (.int (7)))) f36l1) (.cons (.own 3 (.disp (.cons (.con .non) (.cons (.con (.int (0))) (.cons (.con (.bl true)) (.cons (.con (.str [])) (.cons (.con (.str [65, 110, 121])) (.cons (.con (.str [110, 117, 109, 98, 101, 114])) (.cons (.con (.str [102, 117, 110])) (.cons (.mk (.disp .nil)) (.cons (.tup (.cons (.con (.str [102, 117, 110])) .nil)) (.cons (.tup (.cons (.con (.str [102, 117, 110])) (.cons (.con (.str [110, 117, 109])) .nil))) (.cons (.tup (.cons (.con (.str [102, 117, 110])) (.cons (.con (.str [110, 117, 109])) (.cons (.con (.str [110, 117, 109])) (.cons (.con (.str [110, 117, 109])) .nil))))) (.cons (.var 1) .nil)))))))))))))) (.cons (.oext 3 (.disp (.cons (.tup (.cons (.con (.str [110, 117, 109])) (.cons (.con (.str [110, 117, 109])) (.cons (.con (.str [110, 117, 109])) .nil)))) (.cons (.tup (.cons (.con (.str [102, 117, 110])) (.cons (.con (.str [110, 117, 109])) (.cons (.con .non) .nil)))) (.cons (.tup (.cons (.con (.str [112, 97, 105, 114])) (.cons (.con (.int (0))) (.cons (.con (.str [97, 110, 121])) .nil)))) (.cons (.mk (.ddisp [(.s [102, 117, 110])] (.cons (.con (.int (1))) .nil))) (.cons (.tup (.cons (.mk (.disp (.cons (.con (.str [102, 117, 110])) .nil))) (.cons (.con (.str [97, 110, 121])) (.cons (.con (.str [97, 110, 121])) .nil)))) .nil))))))) (.cons (.frz 3) (.cons (.ret (.call 39 (.dat (.call 38 (.dat (.var 0) (.dat (.var 3) .nil))) .nil))) .nil))))))⟩
/-- _law_chance (stream many) -/
def f37 : Fn := ⟨2, 2, (.cons (.ret (.cmp .eq (.ex (.call 1 (.dat (.var 0) (.dat (.var 1) .nil)))) (.ex (.con (.int (0)))))) .nil)⟩
/-- _law_pick (stream some) -/
def f38 : Fn := ⟨2, 2, (.cons (.ret (.idx (.ex (.var 1)) (.call 1 (.dat (.var 0) (.dat (.bi .len (.cons (.ex (.var 1)) .nil)) .nil))))) .nil)⟩
/-- _law_copied (thing found key part) -/
def f39m1e : E := (.tup (.cons (.var 2) (.cons (.call 39 (.dat (.idx (.ex (.var 0)) (.var 2)) .nil)) .nil)))
def f39m2e : E := (.call 39 (.dat (.var 3) .nil))
def f39 : Fn := ⟨1, 4, (.cons (.ife (.val (.ex (.isin (.ex (.var 0)) [.dict]))) (.cons (.ret (.mkr (.dict (.comp (.nm 2) (.it (.var 0)) .no f39m1e [2])))) .nil) .nil) (.cons (.ife (.not (.val (.ex (.isin (.ex (.var 0)) [.list, .tuple])))) (.cons (.ret (.var 0)) .nil) .nil) (.cons (.asg (.nm 1) (.mkr (.comp (.nm 3) (.it (.var 0)) .no f39m2e [3]))) (.cons (.ret (.ite (.val (.ex (.isin (.ex (.var 0)) [.list]))) (.var 1) (.bi .tuple (.cons (.ex (.var 1)) .nil)))) .nil))))⟩
/-- _law_same (found due x y) -/
def f40m1e : E := (.call 40 (.dat (.var 2) (.dat (.var 3) .nil)))
def f40 : Fn := ⟨2, 4, (.cons (.ife (.val (.ex (.isin (.ex (.var 1)) [.list, .tuple]))) (.cons (.ife (.or (.cmp .ne (.ex (.isin (.ex (.var 0)) [.list])) (.ex (.isin (.ex (.var 1)) [.list]))) (.cmp .ne (.ex (.isin (.ex (.var 0)) [.tuple])) (.ex (.isin (.ex (.var 1)) [.tuple])))) (.cons (.ret (.con (.bl false))) .nil) .nil) (.cons (.ret (.and (.cmp .eq (.ex (.bi .len (.cons (.ex (.var 0)) .nil))) (.ex (.bi .len (.cons (.ex (.var 1)) .nil)))) (.all (.comp (.tp [2, 3]) (.zip (.var 0) (.var 1)) .no f40m1e [2, 3])))) .nil)) .nil) (.cons (.ife (.val (.ex (.isin (.ex (.var 1)) [.dict]))) (.cons (.ret (.and (.isin (.ex (.var 0)) [.dict]) (.call 40 (.dat (.mk (.litems (.var 0))) (.dat (.mk (.litems (.var 1))) .nil))))) .nil) .nil) (.cons (.ife (.val (.ex (.isin (.ex (.var 1)) [.int]))) (.cons (.ret (.and (.isin (.ex (.var 0)) [.int]) (.and (.cmp .eq (.ex (.isin (.ex (.var 0)) [.bool])) (.ex (.isin (.ex (.var 1)) [.bool]))) (.cmp .eq (.ex (.var 0)) (.ex (.var 1)))))) .nil) .nil) (.cons (.ife (.cmp .is_ (.ex (.var 1)) (.ex (.con .non))) (.cons (.ret (.cmp .is_ (.ex (.var 0)) (.ex (.con .non)))) .nil) .nil) (.cons (.ife (.val (.ex (.isin (.ex (.var 1)) [.str]))) (.cons (.ret (.and (.isin (.ex (.var 0)) [.str]) (.cmp .eq (.ex (.var 0)) (.ex (.var 1))))) .nil) .nil) (.cons (.ret (.and (.not (.ex (.isin (.ex (.var 0)) [.int, .str, .list, .tuple, .dict]))) (.cmp .eq (.ex (.var 0)) (.ex (.var 1))))) .nil))))))⟩
/-- _law_loose (stream thing found key part) -/
def f41m1e : E := (.tup (.cons (.var 3) (.cons (.call 41 (.dat (.var 0) (.dat (.idx (.ex (.var 1)) (.var 3)) .nil))) .nil)))
def f41m2e : E := (.call 41 (.dat (.var 0) (.dat (.var 4) .nil)))
def f41 : Fn := ⟨2, 5, (.cons (.ife (.val (.ex (.isin (.ex (.var 1)) [.dict]))) (.cons (.ret (.mk (.dict (.comp (.nm 3) (.it (.call 2 (.dat (.var 0) (.dat (.mk (.copy (.ex (.var 1)))) .nil)))) .no f41m1e [3])))) .nil) .nil) (.cons (.ife (.not (.val (.ex (.isin (.ex (.var 1)) [.list, .tuple])))) (.cons (.ret (.var 1)) .nil) .nil) (.cons (.asg (.nm 2) (.mk (.comp (.nm 4) (.it (.var 1)) .no f41m2e [4]))) (.cons (.ret (.ite (.cmp .eq (.ex (.call 1 (.dat (.var 0) (.dat (.con (.int (2))) .nil)))) (.ex (.con (.int (0))))) (.var 2) (.bi .tuple (.cons (.ex (.var 2)) .nil)))) .nil))))⟩
/-- _law_spoilt (thing key part) -/
def f42l1 : Ss := (.cons (.exp (.call 42 (.dat (.idx (.ex (.var 0)) (.var 1)) .nil))) .nil)
def f42l2 : Ss := (.cons (.exp (.call 42 (.dat (.var 2) .nil))) .nil)
def f42 : Fn := ⟨1, 3, (.cons (.ife (.val (.ex (.isin (.ex (.var 0)) [.dict]))) (.cons (.for_ (.nm 1) (.it (.mk (.copy (.ex (.var 0))))) f42l1) (.cons (.setr (.var 0) (.con (.str [76, 65, 84, 69])) (.bin .add (.meth .get2 (.ex (.var 0)) (.cons (.con (.str [76, 65, 84, 69])) (.cons (.con (.int (0))) .nil))) (.con (.int (1))))) .nil)) .nil) (.cons (.ife (.val (.ex (.isin (.ex (.var 0)) [.list, .tuple]))) (.cons (.for_ (.nm 2) (.it (.var 0)) f42l2) .nil) .nil) (.cons (.ife (.val (.ex (.isin (.ex (.var 0)) [.list]))) (.cons (.exp (.meth .append (.ex (.var 0)) (.cons (.con (.str [76, 65, 84, 69])) .nil))) .nil) .nil) .nil)))⟩
/-- _law_is_once (thing many key part) -/
def f43m1c : Ev.T := (.cmp .ne (.ex (.var 2)) (.ex (.con (.str [76, 65, 84, 69]))))
def f43m1e : E := (.call 43 (.dat (.idx (.ex (.var 0)) (.var 2)) .nil))
def f43m2e : E := (.call 43 (.dat (.var 3) .nil))
def f43 : Fn := ⟨1, 4, (.cons (.ife (.val (.ex (.isin (.ex (.var 0)) [.dict]))) (.cons (.ret (.and (.cmp .eq (.ex (.idx (.ex (.var 0)) (.con (.str [76, 65, 84, 69])))) (.ex (.con (.int (1))))) (.all (.comp (.nm 2) (.it (.var 0)) (.ex f43m1c) f43m1e [2])))) .nil) .nil) (.cons (.ife (.val (.ex (.isin (.ex (.var 0)) [.list, .tuple]))) (.cons (.asg (.nm 1) (.bi .int (.cons (.ex (.isin (.ex (.var 0)) [.list])) .nil))) (.cons (.ret (.and (.cmp .eq (.ex (.meth .count (.ex (.mk (.copy (.ex (.var 0))))) (.cons (.con (.str [76, 65, 84, 69])) .nil))) (.ex (.var 1))) (.all (.comp (.nm 3) (.it (.var 0)) .no f43m2e [3])))) .nil)) .nil) (.cons (.ret (.con (.bl true))) .nil)))⟩
/-- _law_apart (thing) -/
def f44 : Fn := ⟨1, 1, (.cons (.exp (.call 42 (.dat (.var 0) .nil))) (.cons (.ret (.call 43 (.dat (.var 0) .nil))) .nil))⟩
/-- _law_fmarks (kind) -/
def f45 : Fn := ⟨1, 1, (.cons (.ret (.ite (.val (.ex (.isin (.ex (.var 0)) [.str]))) (.con (.int (1))) (.bin .add (.bin .add (.con (.int (1))) (.call 45 (.dat (.idx (.ex (.var 0)) (.con (.int (1)))) .nil))) (.call 45 (.dat (.idx (.ex (.var 0)) (.con (.int (2)))) .nil))))) .nil)⟩
/-- _law_fplaces (kind found words word part place inner) -/
def f46m1e : E := (.tup (.cons (.bin .add (.tup (.cons (.var 3) .nil)) (.var 5)) (.cons (.var 6) .nil)))
def f46l1 : Ss := (.cons (.oext 1 (.comp (.tp [5, 6]) (.it (.call 46 (.dat (.var 4) .nil))) .no f46m1e [5, 6])) .nil)
def f46 : Fn := ⟨1, 7, (.cons (.own 1 (.disp (.cons (.tup (.cons (.tup .nil) (.cons (.var 0) .nil))) .nil))) (.cons (.ife (.not (.val (.ex (.isin (.ex (.var 0)) [.str])))) (.cons (.asg (.nm 2) (.ite (.cmp .eq (.ex (.idx (.ex (.var 0)) (.con (.int (0))))) (.ex (.con (.str [102, 117, 110])))) (.tup (.cons (.con (.str [105, 110])) (.cons (.con (.str [111, 117, 116])) .nil))) (.tup (.cons (.con (.str [108, 101, 102, 116])) (.cons (.con (.str [114, 105, 103, 104, 116])) .nil))))) (.cons (.for_ (.tp [3, 4]) (.zip (.var 2) (.sl (.var 0) (.ex (.con (.int (1)))) .no)) f46l1) .nil)) .nil) (.cons (.frz 1) (.cons (.ret (.var 1)) .nil))))⟩
/-- _law_fheld (stream kind due passed kept told places place part word inner at other) -/
def f47m1c : Ev.T := (.cmp .eq (.ex (.var 11)) (.ex (.bin .add (.var 7) (.tup (.cons (.var 9) .nil)))))
def f47m1e : E := (.var 12)
def f47l1 : Ss := (.cons (.ife (.not (.val (.ex (.call 35 (.dat (.var 0) (.lam 10470 [] (.dat (.mk (.disp (.cons (.var 1) (.cons (.var 7) .nil)))) (.dat (.var 8) .nil)))))))) (.cons (.ret (.con (.bl false))) .nil) .nil) (.cons (.asg (.nm 9) (.call 38 (.dat (.var 0) (.dat (.mk (.disp (.cons (.con (.str [105, 110])) (.cons (.con (.str [111, 117, 116])) (.cons (.con (.str [108, 101, 102, 116])) (.cons (.con (.str [114, 105, 103, 104, 116])) .nil)))))) .nil)))) (.cons (.asg (.nm 10) (.mk (.comp (.tp [11, 12]) (.it (.var 6)) (.ex f47m1c) f47m1e [11, 12]))) (.cons (.asg (.nm 2) (.ite (.cmp .ne (.ex (.var 10)) (.ex (.mk (.disp .nil)))) (.idx (.ex (.var 10)) (.con (.int (0)))) (.con .non))) (.cons (.ife (.not (.val (.ex (.call 40 (.dat (.callk 28 (.cons (.mk (.cat (.ex (.mk (.copy (.ex (.var 7))))) (.ex (.mk (.disp (.cons (.var 9) .nil)))))) (.cons (.var 1) .nil)) [1, 0]) (.dat (.var 2) .nil)))))) (.cons (.ret (.con (.bl false))) .nil) .nil) .nil)))))
def f47 : Fn := ⟨2, 13, (.cons (.asg (.nm 2) (.mk (.disp (.cons (.con (.bl true)) (.cons (.call 32 (.dat (.var 1) .nil)) (.cons (.call 45 (.dat (.var 1) .nil)) (.cons (.call 29 (.dat (.var 1) .nil)) .nil))))))) (.cons (.asg (.nm 3) (.call 41 (.dat (.var 0) (.dat (.var 1) .nil)))) (.cons (.asg (.nm 4) (.bi .repr (.cons (.ex (.var 3)) .nil))) (.cons (.asg (.nm 5) (.mk (.disp (.cons (.call 19 (.dat (.var 3) .nil)) (.cons (.call 20 (.dat (.var 3) .nil)) (.cons (.call 22 (.dat (.var 3) .nil)) (.cons (.call 23 (.dat (.var 3) .nil)) .nil))))))) (.cons (.ife (.or (.not (.val (.ex (.call 40 (.dat (.var 5) (.dat (.var 2) .nil)))))) (.cmp .ne (.ex (.bi .repr (.cons (.ex (.var 3)) .nil))) (.ex (.var 4)))) (.cons (.ret (.con (.bl false))) .nil) .nil) (.cons (.ife (.not (.val (.ex (.call 40 (.dat (.mk (.disp (.cons (.callk 19 (.cons (.var 1) .nil) [0]) (.cons (.callk 20 (.cons (.var 1) .nil) [0]) (.cons (.callk 22 (.cons (.var 1) .nil) [0]) (.cons (.callk 23 (.cons (.var 1) .nil) [0]) .nil)))))) (.dat (.var 2) .nil)))))) (.cons (.ret (.con (.bl false))) .nil) .nil) (.cons (.asg (.nm 6) (.call 46 (.dat (.var 1) .nil))) (.cons (.for_ (.tp [7, 8]) (.it (.mk (.slice (.ex (.call 2 (.dat (.var 0) (.dat (.var 6) .nil)))) .no (.ex (.con (.int (6))))))) f47l1) (.cons (.ret (.con (.bl true))) .nil)))))))))⟩
/-- _law_frefused (stream no kind way place head) -/
def f48 : Fn := ⟨1, 6, (.cons (.asg (.tp [1, 2]) (.tup (.cons (.call 36 (.dat (.var 0) .nil)) (.cons (.call 31 (.dat (.var 0) (.dat (.con (.int (2))) .nil))) .nil)))) (.cons (.ife (.not (.val (.ex (.call 40 (.dat (.call 19 (.dat (.var 1) .nil)) (.dat (.con (.bl false)) .nil)))))) (.cons (.ret (.con (.bl false))) .nil) .nil) (.cons (.asg (.nm 3) (.call 1 (.dat (.var 0) (.dat (.con (.int (4))) .nil)))) (.cons (.ife (.and (.cmp .eq (.ex (.var 3)) (.ex (.con (.int (0))))) (.not (.val (.ex (.call 34 (.lam 10482 [1] (.dat (.con (.str [107, 105, 110, 100])) (.dat (.var 1) .nil)))))))) (.cons (.ret (.con (.bl false))) .nil) .nil) (.cons (.ife (.and (.cmp .eq (.ex (.var 3)) (.ex (.con (.int (1))))) (.not (.val (.ex (.call 34 (.lam 10483 [1] (.dat (.con (.str [107, 105, 110, 100])) (.dat (.var 1) .nil)))))))) (.cons (.ret (.con (.bl false))) .nil) .nil) (.cons (.ife (.and (.cmp .eq (.ex (.var 3)) (.ex (.con (.int (2))))) (.not (.val (.ex (.call 34 (.lam 10484 [1] (.dat (.con (.str [107, 105, 110, 100])) (.dat (.var 1) .nil)))))))) (.cons (.ret (.con (.bl false))) .nil) .nil) (.cons (.ife (.and (.cmp .eq (.ex (.var 3)) (.ex (.con (.int (3))))) (.not (.val (.ex (.call 34 (.lam 10485 [1] (.dat (.con (.str [107, 105, 110, 100])) (.dat (.var 1) .nil)))))))) (.cons (.ret (.con (.bl false))) .nil) .nil) (.cons (.asg (.nm 4) (.call 38 (.dat (.var 0) (.dat (.mkr (.disp (.cons (.con .non) (.cons (.con (.int (0))) (.cons (.con (.str [105, 110])) (.cons (.mkr (.disp (.cons (.con (.str [105, 110])) (.cons (.con (.int (1))) .nil)))) (.cons (.mkr (.disp (.cons (.con (.str [117, 112])) .nil))) (.cons (.mkr (.disp (.cons (.mkr (.disp (.cons (.con (.str [105, 110])) .nil))) .nil))) (.cons (.mkr (.ddisp [(.s [105, 110])] (.cons (.con (.int (1))) .nil))) (.cons (.con (.bl true)) (.cons (.mkr (.disp (.cons (.con .non) .nil))) (.cons (.tup (.cons (.con (.str [])) .nil)) .nil)))))))))))) .nil)))) (.cons (.ife (.not (.val (.ex (.call 34 (.lam 10481 [2, 4] (.dat (.con (.str [112, 108, 97, 99, 101])) (.dat (.var 4) .nil))))))) (.cons (.ret (.con (.bl false))) .nil) .nil) (.cons (.asg (.nm 5) (.call 38 (.dat (.var 0) (.dat (.mkr (.disp (.cons (.con .non) (.cons (.con (.str [97, 110, 121])) (.cons (.con (.str [])) (.cons (.con (.int (0))) (.cons (.mkr (.disp (.cons (.con (.str [102, 117, 110])) .nil))) (.cons (.con (.bl true)) (.cons (.con (.str [102, 117, 110, 115])) (.cons (.tup (.cons (.con (.str [110, 117, 109])) .nil)) (.cons (.ite (.not (.val (.ex (.isin (.ex (.var 2)) [.str])))) (.var 2) (.con (.str [110, 111, 110, 101]))) .nil))))))))))) .nil)))) (.cons (.ret (.call 34 (.lam 10480 [5] (.dat (.con (.str [104, 101, 97, 100])) (.dat (.var 5) .nil))))) .nil)))))))))))⟩
/-- law (script stream deep turn kind head) -/
def f49l1 : Ss := (.cons (.asg (.nm 2) (.call 38 (.dat (.var 1) (.dat (.mk (.disp (.cons (.tup (.cons (.con (.str [102, 117, 110])) (.cons (.var 2) (.cons (.con (.str [97, 110, 121])) .nil)))) (.cons (.tup (.cons (.con (.str [112, 97, 105, 114])) (.cons (.con (.str [110, 117, 109])) (.cons (.var 2) .nil)))) (.cons (.tup (.cons (.con (.str [102, 117, 110])) (.cons (.var 2) (.cons (.var 2) .nil)))) .nil))))) .nil)))) .nil)
def f49m1e : E := (.call 31 (.dat (.var 1) (.dat (.bin .add (.con (.int (1))) (.call 1 (.dat (.var 1) (.dat (.con (.int (6))) .nil)))) .nil)))
def f49l2 : Ss := (.cons (.ife (.or (.not (.val (.ex (.call 47 (.dat (.var 1) (.dat (.var 4) .nil)))))) (.not (.val (.ex (.call 48 (.dat (.var 1) .nil)))))) (.cons (.ret (.con (.bl false))) .nil) .nil) .nil)
def f49l3 : Ss := (.cons (.ife (.not (.val (.ex (.call 35 (.dat (.var 1) (.lam 10490 [5] (.dat (.mk (.disp .nil)) (.dat (.call 30 (.dat (.var 5) .nil)) .nil)))))))) (.cons (.ret (.con (.bl false))) .nil) .nil) .nil)
def f49 : Fn := ⟨1, 6, (.cons (.asg (.nm 1) (.call 0 (.dat (.var 0) .nil))) (.cons (.asg (.nm 2) (.call 38 (.dat (.var 1) (.dat (.mk (.disp (.cons (.con (.str [110, 117, 109])) (.cons (.con (.str [97, 110, 121])) (.cons (.con (.str [116, 114, 117, 116, 104])) .nil))))) .nil)))) (.cons (.for_ (.nm 3) (.rng (.con (.int (6)))) f49l1) (.cons (.for_ (.nm 4) (.it (.mk (.cat (.ex (.mk (.disp (.cons (.var 2) .nil)))) (.ex (.mk (.comp (.nm 3) (.rng (.con (.int (4)))) .no f49m1e [3])))))) f49l2) (.cons (.for_ (.nm 5) (.it (.mk (.disp (.cons (.con (.str [110, 117, 109])) (.cons (.con (.str [116, 114, 117, 116, 104])) (.cons (.con (.str [102, 117, 110])) (.cons (.con (.str [112, 97, 105, 114])) .nil))))))) f49l3) (.cons (.ret (.and (.call 40 (.dat (.call 19 (.dat (.tup (.cons (.con (.str [102, 117, 110])) (.cons (.var 2) (.cons (.con (.str [110, 117, 109])) .nil)))) .nil)) (.dat (.con (.bl false)) .nil))) (.call 40 (.dat (.callk 25 (.cons (.con (.str [112, 97, 105, 114])) .nil) [0]) (.dat (.tup (.cons (.con (.str [112, 97, 105, 114])) (.cons (.con (.str [97, 110, 121])) (.cons (.con (.str [97, 110, 121])) .nil)))) .nil))))) .nil))))))⟩
/-- _law_fheld.lam (given) -/
def f10470 : Fn := ⟨1, 1, (.cons (.ret (.call 28 (.dat (.idx (.ex (.var 0)) (.con (.int (0)))) (.dat (.idx (.ex (.var 0)) (.con (.int (1)))) .nil)))) .nil)⟩
/-- _law_frefused.lam (head) -/
def f10480 : Fn := ⟨1, 1, (.cons (.ret (.call 25 (.dat (.var 0) .nil))) .nil)⟩
/-- _law_frefused.lam (kind place) -/
def f10481 : Fn := ⟨2, 2, (.cons (.ret (.call 28 (.dat (.var 0) (.dat (.var 1) .nil)))) .nil)⟩
/-- _law_frefused.lam (no) -/
def f10482 : Fn := ⟨1, 1, (.cons (.ret (.call 20 (.dat (.var 0) .nil))) .nil)⟩
/-- _law_frefused.lam (no) -/
def f10483 : Fn := ⟨1, 1, (.cons (.ret (.call 22 (.dat (.var 0) .nil))) .nil)⟩
/-- _law_frefused.lam (no) -/
def f10484 : Fn := ⟨1, 1, (.cons (.ret (.call 23 (.dat (.var 0) .nil))) .nil)⟩
/-- _law_frefused.lam (no) -/
def f10485 : Fn := ⟨1, 1, (.cons (.ret (.call 28 (.dat (.var 0) (.dat (.con .non) .nil)))) .nil)⟩
/-- law.lam (head given) -/
def f10490 : Fn := ⟨2, 2, (.cons (.ret (.call 25 (.dat (.var 0) .nil))) .nil)⟩
end Fs
namespace K01
open Ev Fs
def tb : List (Nat × Fn) := [(0, f0), (1, f1), (2, f2), (13, f13), (14, f14), (15, f15), (16, f16), (17, f17), (18, f18), (19, f19), (20, f20), (21, f21), (22, f22), (23, f23), (24, f24), (25, f25), (26, f26), (27, f27), (28, f28), (29, f29), (30, f30), (31, f31), (32, f32), (33, f33), (34, f34), (35, f35), (36, f36), (37, f37), (38, f38), (39, f39), (40, f40), (41, f41), (42, f42), (43, f43), (44, f44), (45, f45), (46, f46), (47, f47), (48, f48), (49, f49), (10470, f10470), (10480, f10480), (10481, f10481), (10482, f10482), (10483, f10483), (10484, f10484), (10485, f10485), (10490, f10490)]
def cb : List (Nat × D) := [(0, (.tup [(.str [110, 117, 109]), (.str [116, 114, 117, 116, 104]), (.str [102, 117, 110]), (.str [112, 97, 105, 114])])), (1, (.tup [(.str [110, 117, 109]), (.str [116, 114, 117, 116, 104]), (.str [97, 110, 121])])), (2, (.cdic [((.s [105, 110]), (.tup [(.str [102, 117, 110]), (.int (1))])), ((.s [111, 117, 116]), (.tup [(.str [102, 117, 110]), (.int (2))])), ((.s [108, 101, 102, 116]), (.tup [(.str [112, 97, 105, 114]), (.int (1))])), ((.s [114, 105, 103, 104, 116]), (.tup [(.str [112, 97, 105, 114]), (.int (2))]))])), (3, (.int (6)))]
def sb : List (Nat × List Nat) := [(0, [0]), (3, [3, 0]), (4, [4, 0]), (8, [8, 0]), (10, [10, 0]), (12, [12, 0]), (13, [13, 0]), (14, [14, 0]), (15, [15, 0]), (16, [16, 0]), (17, [17, 0]), (21, [21, 0]), (22, [22, 0]), (24, [24, 0]), (25, [25, 0]), (28, [28, 0]), (30, [30, 0]), (32, [32, 0]), (46, [46, 0])]
def txt : Txt := ⟨fun i => tb.lookup i, fun i => cb.lookup i, fun c d => ((sb.lookup c).getD []).contains d⟩
end K01
set_option maxHeartbeats 0
/-! the head of law_k01 -/
namespace K01h
open PySem PySem.Spec PyProof.Rows L2 Ev
abbrev PW : Program := PySem.Challenge.pw_onecoat_k01_kinds_and_places
def dfs0 : List Df := [⟨13, "is_row", 25, ["thing"], Fs.f13, false⟩, ⟨14, "kind_in", 26, ["thing", "depth", "first", "second"], Fs.f14, false⟩, ⟨15, "need_kind", 27, ["thing", "found"], Fs.f15, false⟩, ⟨16, "depth_in", 28, ["kind"], Fs.f16, false⟩, ⟨17, "head_in", 29, ["kind"], Fs.f17, false⟩, ⟨18, "ground_in", 30, ["head"], Fs.f18, false⟩, ⟨19, "is_kind", 31, ["thing"], Fs.f19, false⟩, ⟨20, "depth_of", 32, ["kind"], Fs.f20, false⟩, ⟨21, "marks_in", 33, ["kind"], Fs.f21, false⟩, ⟨22, "marks_of", 34, ["kind"], Fs.f22, false⟩, ⟨23, "head_of", 35, ["kind"], Fs.f23, false⟩, ⟨24, "need_head", 36, ["head"], Fs.f24, false⟩]
def dfs1 : List Df := [⟨25, "ground_of", 37, ["head"], Fs.f25, false⟩, ⟨26, "need_place", 38, ["place", "word"], Fs.f26, false⟩, ⟨27, "part_in", 39, ["kind", "place", "word", "head", "index"], Fs.f27, false⟩, ⟨28, "part_at", 40, ["kind", "place", "plain"], Fs.f28, false⟩, ⟨29, "_law_fhead", 42, ["kind"], Fs.f29, false⟩, ⟨30, "_law_fground", 43, ["head"], Fs.f30, false⟩, ⟨31, "_law_fkind", 44, ["stream", "deep", "kind"], Fs.f31, false⟩, ⟨32, "_law_fdeep", 45, ["kind"], Fs.f32, false⟩, ⟨33, "_law_fraised", 46, ["run", "found", "e"], Fs.f33, false⟩, ⟨34, "_law_frefuses", 47, ["run", "kind", "thing", "found"], Fs.f34, false⟩, ⟨35, "_law_fasked", 48, ["stream", "run", "things", "due", "turn", "passed", "kept", "told", "thing"], Fs.f35, false⟩, ⟨36, "_law_fno_kind", 49, ["stream", "deep", "turn", "some"], Fs.f36, false⟩]
def dfs2 : List Df := [⟨0, "_law_start", 50, ["script"], Fs.f0, false⟩, ⟨1, "_law_below", 51, ["stream", "many", "cell", "digit", "mixed"], Fs.f1, false⟩, ⟨37, "_law_chance", 52, ["stream", "many"], Fs.f37, false⟩, ⟨38, "_law_pick", 53, ["stream", "some"], Fs.f38, false⟩, ⟨2, "_law_mixed", 54, ["stream", "some", "left", "k"], Fs.f2, false⟩, ⟨39, "_law_copied", 55, ["thing", "found", "key", "part"], Fs.f39, false⟩, ⟨40, "_law_same", 56, ["found", "due", "x", "y"], Fs.f40, false⟩, ⟨41, "_law_loose", 57, ["stream", "thing", "found", "key", "part"], Fs.f41, false⟩, ⟨42, "_law_spoilt", 58, ["thing", "key", "part"], Fs.f42, false⟩, ⟨43, "_law_is_once", 59, ["thing", "many", "key", "part"], Fs.f43, false⟩, ⟨44, "_law_apart", 60, ["thing"], Fs.f44, false⟩, ⟨45, "_law_fmarks", 61, ["kind"], Fs.f45, false⟩]
def dfs3 : List Df := [⟨46, "_law_fplaces", 62, ["kind", "found", "words", "word", "part", "place", "inner"], Fs.f46, false⟩, ⟨47, "_law_fheld", 63, ["stream", "kind", "due", "passed", "kept", "told", "places", "place", "part", "word", "inner", "at", "other"], Fs.f47, true⟩, ⟨48, "_law_frefused", 64, ["stream", "no", "kind", "way", "place", "head"], Fs.f48, true⟩, ⟨49, "law", 65, ["script", "stream", "deep", "turn", "kind", "head"], Fs.f49, true⟩]
def dfs : List Df := dfs0 ++ dfs1 ++ dfs2 ++ dfs3
def lms0 : List LmN := [⟨10470, ["given"], Fs.f10470⟩, ⟨10480, ["head"], Fs.f10480⟩, ⟨10481, ["kind", "place"], Fs.f10481⟩, ⟨10482, ["no"], Fs.f10482⟩, ⟨10483, ["no"], Fs.f10483⟩, ⟨10484, ["no"], Fs.f10484⟩, ⟨10485, ["no"], Fs.f10485⟩, ⟨10490, ["head", "given"], Fs.f10490⟩]
def lms : List LmN := lms0
def cls0 : List Cl := [⟨0, "CoatError", 1, 0, []⟩, ⟨3, "BadChain", 2, 0, [105, 110, 100, 101, 120]⟩, ⟨4, "BadCoat", 3, 0, [116, 104, 105, 110, 103]⟩, ⟨8, "BadEnds", 4, 0, [116, 104, 105, 110, 103]⟩, ⟨10, "BadHead", 5, 0, [116, 104, 105, 110, 103]⟩, ⟨12, "BadKind", 6, 0, [116, 104, 105, 110, 103]⟩, ⟨13, "BadKinds", 7, 0, [105, 110, 100, 101, 120]⟩, ⟨14, "BadLabel", 8, 0, [116, 104, 105, 110, 103]⟩, ⟨15, "BadLabels", 9, 0, [105, 110, 100, 101, 120]⟩, ⟨16, "BadMany", 10, 0, [116, 104, 105, 110, 103]⟩, ⟨17, "BadMiddle", 11, 0, [116, 104, 105, 110, 103]⟩, ⟨21, "BadOrder", 12, 0, [116, 104, 105, 110, 103]⟩]
def cls1 : List Cl := [⟨22, "BadOther", 13, 0, [116, 104, 105, 110, 103]⟩, ⟨24, "BadPlace", 14, 0, [116, 104, 105, 110, 103]⟩, ⟨25, "BadProbe", 15, 0, [116, 104, 105, 110, 103]⟩, ⟨28, "BadSide", 16, 0, [116, 104, 105, 110, 103]⟩, ⟨30, "BadTarget", 17, 0, [116, 104, 105, 110, 103]⟩, ⟨32, "BadText", 18, 0, [112, 108, 97, 99, 101]⟩, ⟨46, "TooMany", 19, 0, [109, 97, 110, 121]⟩]
def cls : List Cl := cls0 ++ cls1
def kns0 : List Kn := [⟨0, "HEADS", (.tup [(.str [110, 117, 109]), (.str [116, 114, 117, 116, 104]), (.str [102, 117, 110]), (.str [112, 97, 105, 114])])⟩, ⟨1, "WORDS", (.tup [(.str [110, 117, 109]), (.str [116, 114, 117, 116, 104]), (.str [97, 110, 121])])⟩, ⟨2, "STEPS", (.cdic [((.s [105, 110]), (.tup [(.str [102, 117, 110]), (.int (1))])), ((.s [111, 117, 116]), (.tup [(.str [102, 117, 110]), (.int (2))])), ((.s [108, 101, 102, 116]), (.tup [(.str [112, 97, 105, 114]), (.int (1))])), ((.s [114, 105, 103, 104, 116]), (.tup [(.str [112, 97, 105, 114]), (.int (2))]))])⟩, ⟨3, "MOST", (.int (6))⟩]
def kns : List Kn := kns0
def kw : List (Nat × List String × List Nat) := [(23, ["kind"], [0]), (22, ["kind"], [0]), (20, ["kind"], [0]), (19, ["thing"], [0]), (28, ["place", "kind"], [1, 0]), (25, ["head"], [0])]
def fl : List (List Nat) := [[112, 108, 97, 99, 101], [109, 97, 110, 121], [116, 104, 105, 110, 103], [105, 110, 100, 101, 120]]
def tx : Tx := ⟨PW, K01.txt, dfs, lms, cls, kns, fl, kw⟩
theorem okB : tx.okB = true := by kernel_rfl
theorem eqs : Eqs tx := ⟨rfl, rfl, rfl, sub_of (t := tx) (sb := K01.sb) (fun _ _ => rfl) (by decide +kernel)⟩
def ls0 : List PySem.Str := (["CoatError", "BadChain", "BadCoat", "BadEnds", "BadHead", "BadKind", "BadKinds", "BadLabel", "BadLabels", "BadMany", "BadMiddle", "BadOrder", "BadOther", "BadPlace", "BadProbe", "BadSide", "BadTarget", "BadText", "TooMany", "HEADS", "WORDS", "STEPS", "MOST", "is_row", "kind_in", "need_kind", "depth_in", "head_in", "ground_in", "is_kind", "depth_of", "marks_in", "marks_of", "head_of", "need_head"] : List String).map Str.ofString
def ls1 : List PySem.Str := (["ground_of", "need_place", "part_in", "part_at", "_law_fhead", "_law_fground", "_law_fkind", "_law_fdeep", "_law_fraised", "_law_frefuses", "_law_fasked", "_law_fno_kind", "_law_start", "_law_below", "_law_chance", "_law_pick", "_law_mixed", "_law_copied", "_law_same", "_law_loose", "_law_spoilt", "_law_is_once", "_law_apart", "_law_fmarks", "_law_fplaces", "_law_fheld", "_law_frefused"] : List String).map Str.ofString
def loose : List PySem.Str := ls0 ++ ls1
abbrev R : PySem.W.OpenRow := PySem.W.OpenLaw.row PySem.Challenge.rw_onecoat_k01_kinds_and_places
abbrev hk : PySem.W.Hook := He.hookX 4 tx.fas tx.defs tx.ts tx.tf tx.ex
def ob (s : PySem.W.SharedT) : He.AlX := He.obsX 4 tx.fas tx.defs tx.ts tx.tf tx.ex (HandSHeadRun.getT s)
theorem ob_eq (s : PySem.W.SharedT) : ob s = hk.obs s.abs := He.obsX_eq (HandSHeadRun.getT_eq s)
theorem runF (w : World) : HandSHeadRun.RunEq R (PySem.W.view R.prog [65]) hk ob 12000 loose (w.withFollow "special-get-raises" false) := by
  intro os
  kernel_rfl
theorem runT (w : World) : HandSHeadRun.RunEq R (PySem.W.view R.prog [65]) hk ob 12000 loose (w.withFollow "special-get-raises" true) := by
  intro os
  kernel_rfl
theorem run (w : World) : HandSHeadRun.RunEq R (PySem.W.view R.prog [65]) hk ob 12000 loose w :=
  PySem.W.byRow2 "special-get-raises" (P := fun w => HandSHeadRun.RunEq R (PySem.W.view R.prog [65]) hk ob 12000 loose w) runF runT w
end K01h
open PySem PySem.W PySem.Calls PyProof.Rows
/-! Pl0a: the evaluator step by step, for plain proofs. -/
namespace Ev
open PySem

/-! ### combinators whose later parts are left alone -/
def SR.nxt (r : SR) (f : Env → Mem → SR) : SR := match r with
  | .nx e m => f e m
  | x => x
def cond {α : Type} (o : Option Bool) (a b : R α) : R α := match o with
  | some true => a
  | some false => b
  | none => .bad
def yes {α : Type} (b : Bool) (a c : α) : α := match b with
  | true => a
  | false => c
def opt {α β : Type} (o : Option α) (f : α → R β) : R β := match o with
  | some a => f a
  | none => .bad
def opS {α : Type} (o : Option α) (f : α → SR) : SR := match o with
  | some a => f a
  | none => .bad
def SR.cat (r : SR) (f : Ex → Env → Mem → SR) : SR := match r with
  | .ex x e m => f x e m
  | y => y
section
variable {α β γ : Type}
theorem R.bind_congr {r r' : R α} {f : α → Mem → R β} (h : r = r') : r.bind f = r'.bind f := by rw [h]
theorem R.st_congr {r r' : R α} {e : Env} {f : α → Mem → SR} (h : r = r') : r.st e f = r'.st e f := by rw [h]
theorem SR.nxt_congr {r r' : SR} {f : Env → Mem → SR} (h : r = r') : r.nxt f = r'.nxt f := by rw [h]
theorem SR.cat_congr {r r' : SR} {f : Ex → Env → Mem → SR} (h : r = r') : r.cat f = r'.cat f := by rw [h]
theorem cond_congr {o o' : Option Bool} {a b : R α} (h : o = o') : cond o a b = cond o' a b := by rw [h]
theorem yes_congr {b b' : Bool} {a c : α} (h : b = b') : yes b a c = yes b' a c := by rw [h]
theorem opt_congr {o o' : Option α} {f : α → R β} (h : o = o') : opt o f = opt o' f := by rw [h]
theorem opS_congr {o o' : Option α} {f : α → SR} (h : o = o') : opS o f = opS o' f := by rw [h]
theorem R.bnd_ok {a : α} {m : Mem} {f : α → Mem → R β} : (R.ok a m).bind f = f a m := (rfl)
theorem R.bind_ex {x : Ex} {m : Mem} {f : α → Mem → R β} : (R.ex x m).bind f = .ex x m := (rfl)
theorem R.bind_bad {f : α → Mem → R β} : (R.bad : R α).bind f = .bad := (rfl)
theorem R.bind_bind {r : R α} {f : α → Mem → R β} {g : β → Mem → R γ} : (r.bind f).bind g = r.bind fun a m => (f a m).bind g := by cases r <;> rfl
theorem R.st_ok {a : α} {m : Mem} {e : Env} {f : α → Mem → SR} : (R.ok a m).st e f = f a m := (rfl)
theorem R.st_ex {x : Ex} {m : Mem} {e : Env} {f : α → Mem → SR} : (R.ex x m : R α).st e f = .ex x e m := (rfl)
theorem R.of_some {a : α} {m : Mem} : R.of (some a) m = .ok a m := (rfl)
theorem SR.nxt_nx {e : Env} {m : Mem} {f : Env → Mem → SR} : (SR.nx e m).nxt f = f e m := (rfl)
theorem SR.nxt_rt {d : D} {m : Mem} {f : Env → Mem → SR} : (SR.rt d m).nxt f = .rt d m := (rfl)
theorem SR.nxt_bk {e : Env} {m : Mem} {f : Env → Mem → SR} : (SR.bk e m).nxt f = .bk e m := (rfl)
theorem SR.nxt_ct {e : Env} {m : Mem} {f : Env → Mem → SR} : (SR.ct e m).nxt f = .ct e m := (rfl)
theorem SR.nxt_ex {x : Ex} {e : Env} {m : Mem} {f : Env → Mem → SR} : (SR.ex x e m).nxt f = .ex x e m := (rfl)
theorem SR.cat_nx {e : Env} {m : Mem} {f : Ex → Env → Mem → SR} : (SR.nx e m).cat f = .nx e m := (rfl)
theorem SR.cat_rt {d : D} {m : Mem} {f : Ex → Env → Mem → SR} : (SR.rt d m).cat f = .rt d m := (rfl)
theorem SR.cat_ex {x : Ex} {e : Env} {m : Mem} {f : Ex → Env → Mem → SR} : (SR.ex x e m).cat f = f x e m := (rfl)
theorem SR.out_nx {e : Env} {m : Mem} : (SR.nx e m).out = .ok .non m := (rfl)
theorem SR.out_rt {d : D} {m : Mem} : (SR.rt d m).out = .ok d m := (rfl)
theorem SR.out_ex {x : Ex} {e : Env} {m : Mem} : (SR.ex x e m).out = .ex x m := (rfl)
theorem cond_t {a b : R α} : cond (some true) a b = a := (rfl)
theorem cond_f {a b : R α} : cond (some false) a b = b := (rfl)
theorem yes_t {a b : α} : yes true a b = a := (rfl)
theorem yes_f {a b : α} : yes false a b = b := (rfl)
theorem opt_some {a : α} {f : α → R β} : opt (some a) f = f a := (rfl)
theorem opS_some {a : α} {f : α → SR} : opS (some a) f = f a := (rfl)
end

/-! ### slots -/
theorem getV_0 {d : D} {e : Env} : getV (.val d :: e) 0 = some d := (rfl)
theorem getV_s {s : Slot} {e : Env} {i : Nat} : getV (s :: e) (i + 1) = getV e i := (rfl)
theorem getE_0 {s : Slot} {e : Env} : (s :: e : Env)[0]? = some s := (rfl)
theorem getE_s {s : Slot} {e : Env} {i : Nat} : (s :: e : Env)[i + 1]? = e[i]? := (rfl)
theorem set_0 {s t : Slot} {e : Env} : List.set (s :: e) 0 t = t :: e := (rfl)
theorem set_s {s t : Slot} {e : Env} {i : Nat} : List.set (s :: e) (i + 1) t = s :: List.set e i t := (rfl)
theorem memS_0 {s t : Cell} {e : Mem} : List.set (s :: e) 0 t = t :: e := (rfl)
theorem memS_s {s t : Cell} {e : Mem} {i : Nat} : List.set (s :: e) (i + 1) t = s :: List.set e i t := (rfl)
theorem memG_0 {s : Cell} {e : Mem} : (s :: e : Mem)[0]? = some s := (rfl)
theorem memG_s {s : Cell} {e : Mem} {i : Nat} : (s :: e : Mem)[i + 1]? = e[i]? := (rfl)
theorem args_1 {n : Nat} {a : Arg} : argsE n [a] = a.slot :: List.replicate (n - 1) .no := (rfl)
theorem args_0 {n : Nat} : argsE n [] = List.replicate (n - 0) .no := (rfl)
theorem args_2 {n : Nat} {a b : Arg} : argsE n [a, b] = a.slot :: b.slot :: List.replicate (n - 2) .no := (rfl)
theorem args_3 {n : Nat} {a b c : Arg} : argsE n [a, b, c] = a.slot :: b.slot :: c.slot :: List.replicate (n - 3) .no := (rfl)
theorem args_4 {n : Nat} {a b c d : Arg} : argsE n [a, b, c, d] = a.slot :: b.slot :: c.slot :: d.slot :: List.replicate (n - 4) .no := (rfl)
theorem args_5 {n : Nat} {a b c d f : Arg} : argsE n [a, b, c, d, f] = a.slot :: b.slot :: c.slot :: d.slot :: f.slot :: List.replicate (n - 5) .no := (rfl)
theorem slot_d {d : D} : (Arg.dat d).slot = .val d := (rfl)
theorem slot_c {l : Nat} {cs : List D} : (Arg.clo l cs).slot = .clo l cs := (rfl)
theorem rep_0 : List.replicate 0 Slot.no = [] := (rfl)
theorem rep_s {n : Nat} : List.replicate (n + 1) Slot.no = .no :: List.replicate n .no := (rfl)

theorem evF_to {T : Txt} {k f : Nat} {fn : Fn} {ds : List Arg} {m : Mem} (h : T.fns f = some fn) (hl : ds.length = fn.np) : evF T (k + 1) f ds m = (evSs (evF T k) T.con T.sub fn.body (argsE fn.ns ds) m).out := by
  show (match T.fns f with | some fn => if ds.length = fn.np then (evSs (evF T k) T.con T.sub fn.body (argsE fn.ns ds) m).out else .bad | none => .bad) = _
  rw [h]
  exact if_pos hl

section
variable {F : Nat → List Arg → Mem → R D} {C : Nat → Option D} {sub : Nat → Nat → Bool} {e : Env} {m : Mem}
theorem e_var {i} : evE F C (.var i) e m = R.of (getV e i) m := by rw [evE]
theorem e_con {d} : evE F C (.con d) e m = .ok d m := by rw [evE]
theorem e_glo {i} : evE F C (.glo i) e m = R.of (C i) m := by rw [evE]
theorem e_tup {es} : evE F C (.tup es) e m = (evEs F C es e m).bind fun ds m => .ok (.tup ds) m := by rw [evE]
def cellD : Cell → D
  | .lst xs => .lst xs
  | .dic kvs => .dic kvs
theorem cellD_l {xs} : cellD (.lst xs) = .lst xs := (rfl)
theorem cellD_d {xs} : cellD (.dic xs) = .dic xs := (rfl)
theorem e_mk {l} : evE F C (.mk l) e m = (evL F C l e m).bind fun c m => .ok (cellD c) m := by
  rw [evE]
  refine congrArg (R.bind _) (funext fun c => funext fun m => ?_)
  cases c <;> rfl
theorem e_mkr {l} : evE F C (.mkr l) e m = (evL F C l e m).bind fun c m => .ok (.ref m.length) (m ++ [c]) := by rw [evE]
theorem e_bin {o a b} : evE F C (.bin o a b) e m = (evE F C a e m).bind fun x m => (evE F C b e m).bind fun y m => R.of (binD o x y) m := by rw [evE]
def negD : D → Option D
  | .int i => some (.int (-i))
  | _ => none
theorem e_neg {a} : evE F C (.neg a) e m = (evE F C a e m).bind fun x m => R.of (negD x) m := by
  rw [evE]
  refine congrArg (R.bind _) (funext fun x => funext fun m => ?_)
  cases x <;> rfl
theorem e_cmp {o a b} : evE F C (.cmp o a b) e m = (evO F C a e m).bind fun x m => (evO F C b e m).bind fun y m => R.of ((cmpD m o x y).map .bl) m := by rw [evE]
theorem e_not {a} : evE F C (.not a) e m = (evO F C a e m).bind fun x m => R.of ((truth m x).map fun b => .bl (!b)) m := by rw [evE]
theorem e_and {a b} : evE F C (.and a b) e m = (evE F C a e m).bind fun x m => cond (truth m x) (evE F C b e m) (.ok x m) := by
  rw [evE]
  refine congrArg (R.bind _) (funext fun x => funext fun m => ?_)
  cases truth m x with
  | none => rfl
  | some b => cases b <;> rfl
theorem e_or {a b} : evE F C (.or a b) e m = (evE F C a e m).bind fun x m => cond (truth m x) (.ok x m) (evE F C b e m) := by
  rw [evE]
  refine congrArg (R.bind _) (funext fun x => funext fun m => ?_)
  cases truth m x with
  | none => rfl
  | some b => cases b <;> rfl
theorem e_ite {c a b} : evE F C (.ite c a b) e m = (evT F C c e m).bind fun x m => yes x (evE F C a e m) (evE F C b e m) := by
  rw [evE]
  refine congrArg (R.bind _) (funext fun x => funext fun m => ?_)
  cases x <;> rfl
theorem e_idx {a b} : evE F C (.idx a b) e m = (evO F C a e m).bind fun x m => (evE F C b e m).bind fun y m => R.of (idxD m x y) m := by rw [evE]
def slD (l h : Option Int) : D → Option D
  | .tup xs => some (.tup (cut xs l h))
  | .lst xs => some (.lst (cut xs l h))
  | .str s => if s.length ≤ lineMax then some (.str (cut s l h)) else none
  | _ => none
theorem e_sl {a lo hi} : evE F C (.sl a lo hi) e m = (evE F C a e m).bind fun x m => (evEo F C lo e m).bind fun l m => (evEo F C hi e m).bind fun h m => R.of (slD l h x) m := by
  rw [evE]
  refine congrArg (R.bind _) (funext fun x => funext fun m => ?_)
  refine congrArg (R.bind _) (funext fun l => funext fun m => ?_)
  refine congrArg (R.bind _) (funext fun h => funext fun m => ?_)
  cases x <;> first | rfl | (simp only [slD]; split <;> rfl)
theorem e_call {f es} : evE F C (.call f es) e m = (evAs F C es e m).bind fun ds m => F f ds m := by rw [evE]
theorem e_callk {f es perm} : evE F C (.callk f es perm) e m = (evEs F C es e m).bind fun ds m => opt (permD ds perm) fun ds => F f (ds.map .dat) m := by
  rw [evE]
  refine congrArg (R.bind _) (funext fun ds => funext fun m => ?_)
  cases permD ds perm <;> rfl
def cloS : Option Slot → Option (Nat × List D)
  | some (.clo l cs) => some (l, cs)
  | _ => none
theorem e_app {i es} : evE F C (.app i es) e m = opt (cloS e[i]?) fun p => (evEs F C es e m).bind fun ds m => F p.1 (p.2.map .dat ++ ds.map .dat) m := by
  rw [evE]
  cases e[i]? with
  | none => rfl
  | some s => cases s <;> rfl
theorem e_isin {a ts} : evE F C (.isin a ts) e m = (evO F C a e m).bind fun x m => R.of ((isTy m x ts).map .bl) m := by rw [evE]
theorem e_bi {b es} : evE F C (.bi b es) e m = (evOs F C es e m).bind fun ds m => R.of (biD m b ds) m := by rw [evE]
def excS (f : List Nat) : Option Slot → Option D
  | some (.exc x) => x.fl.lookup f
  | _ => none
theorem e_attr {i f} : evE F C (.attr i f) e m = R.of (excS f e[i]?) m := by
  rw [evE]
  cases e[i]? with
  | none => rfl
  | some s => cases s <;> rfl
theorem e_meth {o a es} : evE F C (.meth o a es) e m = (evO F C a e m).bind fun x m => yes (meOk m o x) ((evEs F C es e m).bind fun ds m => opt (meD m o x ds) fun p => .ok p.1 p.2) .bad := by
  rw [evE]
  refine congrArg (R.bind _) (funext fun x => funext fun m => ?_)
  cases meOk m o x
  · rfl
  · simp only [if_true, yes]
    refine congrArg (R.bind _) (funext fun ds => funext fun m => ?_)
    cases meD m o x ds <;> rfl
def isBl : D → Bool
  | .bl _ => true
  | _ => false
def theBl : D → Bool
  | .bl b => b
  | _ => false
def allC : Cell → Option D
  | .lst xs => if xs.all isBl = true then some (.bl (xs.all theBl)) else none
  | _ => none
theorem e_all {l} : evE F C (.all l) e m = (evL F C l e m).bind fun c m => R.of (allC c) m := by
  rw [evE]
  refine congrArg (R.bind _) (funext fun c => funext fun m => ?_)
  cases c with
  | lst xs =>
    show (if xs.all isBl = true then R.ok (D.bl (xs.all theBl)) m else .bad) = _
    show _ = R.of (if xs.all isBl = true then some (D.bl (xs.all theBl)) else none) m
    split <;> rfl
  | dic _ => rfl
theorem o_ex {a} : evO F C (.ex a) e m = evE F C a e m := by rw [evO]
def ownS : Option Slot → Option D
  | some (.own c) => some (cellD c)
  | _ => none
theorem o_peek {i} : evO F C (.peek i) e m = R.of (ownS e[i]?) m := by
  rw [evO]
  cases e[i]? with
  | none => rfl
  | some s => cases s with
    | own c => cases c <;> rfl
    | _ => rfl
theorem os_nil : evOs F C .nil e m = .ok [] m := by rw [evOs]
theorem os_cons {a r} : evOs F C (.cons a r) e m = (evO F C a e m).bind fun x m => (evOs F C r e m).bind fun xs m => .ok (x :: xs) m := by rw [evOs]
theorem t_val {a} : evT F C (.val a) e m = (evO F C a e m).bind fun x m => R.of (truth m x) m := by rw [evT]
theorem t_cmp {o a b} : evT F C (.cmp o a b) e m = (evO F C a e m).bind fun x m => (evO F C b e m).bind fun y m => R.of (cmpD m o x y) m := by rw [evT]
theorem t_not {a} : evT F C (.not a) e m = (evT F C a e m).bind fun b m => .ok (!b) m := by rw [evT]
theorem t_and {a b} : evT F C (.and a b) e m = (evT F C a e m).bind fun x m => yes x (evT F C b e m) (.ok false m) := by
  rw [evT]
  refine congrArg (R.bind _) (funext fun x => funext fun m => ?_)
  cases x <;> rfl
theorem t_or {a b} : evT F C (.or a b) e m = (evT F C a e m).bind fun x m => yes x (.ok true m) (evT F C b e m) := by
  rw [evT]
  refine congrArg (R.bind _) (funext fun x => funext fun m => ?_)
  cases x <;> rfl
theorem to_no : evTo F C .no e m = .ok true m := by rw [evTo]
theorem to_ex {c} : evTo F C (.ex c) e m = evT F C c e m := by rw [evTo]
theorem es_nil : evEs F C .nil e m = .ok [] m := by rw [evEs]
theorem es_cons {a r} : evEs F C (.cons a r) e m = (evE F C a e m).bind fun x m => (evEs F C r e m).bind fun xs m => .ok (x :: xs) m := by rw [evEs]
theorem as_nil : evAs F C .nil e m = .ok [] m := by rw [evAs]
theorem as_dat {a r} : evAs F C (.dat a r) e m = (evE F C a e m).bind fun x m => (evAs F C r e m).bind fun xs m => .ok (.dat x :: xs) m := by rw [evAs]
theorem as_lam {l caps r} : evAs F C (.lam l caps r) e m = opt (getAll e caps) fun cs => (evAs F C r e m).bind fun xs m => .ok (.clo l cs :: xs) m := by
  rw [evAs]
  cases getAll e caps <;> rfl
theorem as_pas {i r} : evAs F C (.pas i r) e m = opt (cloS e[i]?) fun p => (evAs F C r e m).bind fun xs m => .ok (.clo p.1 p.2 :: xs) m := by
  rw [evAs]
  cases e[i]? with
  | none => rfl
  | some s => cases s <;> rfl
theorem cloS_c {l cs} : cloS (some (.clo l cs)) = some (l, cs) := (rfl)
theorem excS_x {f x} : excS f (some (.exc x)) = x.fl.lookup f := (rfl)
theorem ownS_o {c} : ownS (some (.own c)) = some (cellD c) := (rfl)
theorem getAll_nil : getAll e [] = some [] := (rfl)
def consO (o : Option D) (p : Option (List D)) : Option (List D) := match o, p with
  | some d, some ds => some (d :: ds)
  | _, _ => none
theorem consO_s {d : D} {ds : List D} : consO (some d) (some ds) = some (d :: ds) := (rfl)
theorem getAll_cons {i : Nat} {r : List Nat} : getAll e (i :: r) = consO (getV e i) (getAll e r) := by
  show (match getV e i, getAll e r with | some d, some ds => some (d :: ds) | _, _ => none) = _
  unfold consO
  rfl
theorem eo_no : evEo F C .no e m = .ok none m := by rw [evEo]
def intO : D → Option (Option Int)
  | .int i => some (some i)
  | _ => none
theorem intO_i {i : Int} : intO (.int i) = some (some i) := (rfl)
theorem eo_ex {a} : evEo F C (.ex a) e m = (evE F C a e m).bind fun x m => R.of (intO x) m := by
  rw [evEo]
  refine congrArg (R.bind _) (funext fun x => funext fun m => ?_)
  cases x <;> rfl
theorem l_disp {es} : evL F C (.disp es) e m = (evEs F C es e m).bind fun ds m => .ok (.lst ds) m := by rw [evL]
def copyC (m : Mem) (x : D) : Option Cell := match seqOf m x with
  | some xs => some (.lst xs)
  | none => (dicOf m x).map fun kvs => .lst (kvs.map fun kv => kv.1.d)
theorem l_copy {a} : evL F C (.copy a) e m = (evO F C a e m).bind fun x m => R.of (copyC m x) m := by
  rw [evL]
  refine congrArg (R.bind _) (funext fun x => funext fun m => ?_)
  unfold copyC
  cases seqOf m x with
  | some _ => rfl
  | none => cases dicOf m x <;> rfl
def compR (g : Guards) (set : Mem → D → Option Env) (c : Env → Mem → R Bool) (f : Env → Mem → R D) (ds : List D) (m : Mem) : R Cell := if ds.length ≤ lineMax then (compL g set c f ds m).bind fun xs m => .ok (.lst xs) m else .bad
theorem l_comp {t s c f vs} : evL F C (.comp t s c f vs) e m = (evSrc F C s e m).bind fun ig m => compR ig.2 (fun m d => setTg m (wipeE e vs) t d) (fun e m => evTo F C c e m) (fun e m => evE F C f e m) ig.1 m := by
  rw [evL]
  rfl
def isTup : D → Bool
  | .tup _ => true
  | _ => false
def catC (m : Mem) (x y : D) : Option Cell := if (isTup x || isTup y) = true then none else match seqOf m x, seqOf m y with
  | some xs, some ys => if xs.length + ys.length ≤ lineMax then some (.lst (xs ++ ys)) else none
  | _, _ => none
theorem catC_raw (x y : D) : (match x, y with
    | .tup _, _ => (.bad : R Cell)
    | _, .tup _ => .bad
    | x, y => match seqOf m x, seqOf m y with
      | some xs, some ys => if xs.length + ys.length ≤ lineMax then .ok (.lst (xs ++ ys)) m else .bad
      | _, _ => .bad) = R.of (catC m x y) m := by
  have core : isTup x = false → isTup y = false → (match seqOf m x, seqOf m y with
      | some xs, some ys => if xs.length + ys.length ≤ lineMax then R.ok (.lst (xs ++ ys)) m else .bad
      | _, _ => .bad) = R.of (catC m x y) m := fun h1 h2 => by
    unfold catC
    rw [h1, h2]
    simp only [Bool.or_self, Bool.false_eq_true, if_false]
    cases seqOf m x with
    | none => rfl
    | some xs =>
      cases seqOf m y with
      | none => rfl
      | some ys =>
        simp only
        split <;> rfl
  cases x <;> cases y <;> first | exact core rfl rfl | rfl
theorem l_cat {a b} : evL F C (.cat a b) e m = (evO F C a e m).bind fun x m => (evO F C b e m).bind fun y m => R.of (catC m x y) m := by
  rw [evL]
  refine congrArg (R.bind _) (funext fun x => funext fun m => ?_)
  refine congrArg (R.bind _) (funext fun y => funext fun m => ?_)
  exact catC_raw x y
def sliceC (m : Mem) (l h : Option Int) (x : D) : Option Cell := if isTup x = true then none else (seqOf m x).map fun xs => .lst (cut xs l h)
theorem slice_raw (l h : Option Int) (x : D) : (match x with
    | .tup _ => (.bad : R Cell)
    | x => match seqOf m x with
      | some xs => .ok (.lst (cut xs l h)) m
      | none => .bad) = R.of (sliceC m l h x) m := by
  have core : isTup x = false → (match seqOf m x with
      | some xs => R.ok (.lst (cut xs l h)) m
      | none => .bad) = R.of (sliceC m l h x) m := fun h1 => by
    unfold sliceC
    rw [h1]
    simp only [Bool.false_eq_true, if_false]
    cases seqOf m x <;> rfl
  cases x <;> first | exact core rfl | rfl
theorem l_slice {a lo hi} : evL F C (.slice a lo hi) e m = (evO F C a e m).bind fun x m => (evEo F C lo e m).bind fun l m => (evEo F C hi e m).bind fun h m => R.of (sliceC m l h x) m := by
  rw [evL]
  refine congrArg (R.bind _) (funext fun x => funext fun m => ?_)
  refine congrArg (R.bind _) (funext fun l => funext fun m => ?_)
  refine congrArg (R.bind _) (funext fun h => funext fun m => ?_)
  exact slice_raw l h x
theorem l_ddisp {ks es} : evL F C (.ddisp ks es) e m = (evEs F C es e m).bind fun ds m => R.of ((buildK ks ds []).map .dic) m := by
  rw [evL]
  refine congrArg (R.bind _) (funext fun ds => funext fun m => ?_)
  cases buildK ks ds [] <;> rfl
def dictC (m : Mem) : Cell → Option Cell
  | .lst xs => (pairsK m xs []).map .dic
  | _ => none
theorem l_dict {l} : evL F C (.dict l) e m = (evL F C l e m).bind fun c m => R.of (dictC m c) m := by
  rw [evL]
  refine congrArg (R.bind _) (funext fun c => funext fun m => ?_)
  cases c with
  | lst xs => simp only [dictC]; cases pairsK m xs [] <;> rfl
  | dic _ => rfl
def itemsC (m : Mem) : D → Option Cell
  | .ref i => match m[i]? with
    | some (.dic kvs) => some (.lst (kvs.map fun kv => .tup [kv.1.d, kv.2]))
    | _ => none
  | _ => none
theorem l_litems {a} : evL F C (.litems a) e m = (evE F C a e m).bind fun x m => R.of (itemsC m x) m := by
  rw [evL]
  refine congrArg (R.bind _) (funext fun x => funext fun m => ?_)
  cases x with
  | ref i =>
    simp only [itemsC]
    cases m[i]? with
    | none => rfl
    | some c => cases c <;> rfl
  | _ => rfl
def itS (m : Mem) : D → Option (List D × Guards)
  | .str s => some (s.map fun c => .str [c], [])
  | .dic kvs => some (kvs.map fun kv => kv.1.d, [])
  | x => (seqOf m x).map fun xs => (xs, guardOf m x)
theorem it_raw (x : D) : (match x with
    | .str s => R.ok (s.map fun c => D.str [c], ([] : Guards)) m
    | .dic kvs => .ok (kvs.map fun kv => kv.1.d, []) m
    | x => match seqOf m x with
      | some xs => .ok (xs, guardOf m x) m
      | none => .bad) = R.of (itS m x) m := by
  cases x with
  | ref i =>
    show (match seqOf m (.ref i) with | some xs => R.ok (xs, guardOf m (.ref i)) m | none => .bad) = R.of ((seqOf m (.ref i)).map fun xs => (xs, guardOf m (.ref i))) m
    cases seqOf m (.ref i) <;> rfl
  | _ => rfl
theorem s_it {a} : evSrc F C (.it a) e m = (evE F C a e m).bind fun x m => R.of (itS m x) m := by
  rw [evSrc]
  refine congrArg (R.bind _) (funext fun x => funext fun m => ?_)
  exact it_raw x
def rngS : D → Option (List D × Guards)
  | .int i => if -(2 ^ 62) ≤ i ∧ i < 2 ^ 62 then some (rangeD 0 i, []) else none
  | _ => none
theorem s_rng {a} : evSrc F C (.rng a) e m = (evE F C a e m).bind fun x m => R.of (rngS x) m := by
  rw [evSrc]
  refine congrArg (R.bind _) (funext fun x => funext fun m => ?_)
  cases x with
  | int i => simp only [rngS]; split <;> rfl
  | _ => rfl
def rngS2 : D → D → Option (List D × Guards)
  | .int i, .int j => if -(2 ^ 62) ≤ i ∧ i < 2 ^ 62 ∧ -(2 ^ 62) ≤ j ∧ j < 2 ^ 62 then some (rangeD i j, []) else none
  | _, _ => none
theorem s_rng2 {a b} : evSrc F C (.rng2 a b) e m = (evE F C a e m).bind fun x m => (evE F C b e m).bind fun y m => R.of (rngS2 x y) m := by
  rw [evSrc]
  refine congrArg (R.bind _) (funext fun x => funext fun m => ?_)
  refine congrArg (R.bind _) (funext fun y => funext fun m => ?_)
  cases x with
  | int i =>
    cases y with
    | int j =>
      show (if -(2 ^ 62) ≤ i ∧ i < 2 ^ 62 ∧ -(2 ^ 62) ≤ j ∧ j < 2 ^ 62 then R.ok (rangeD i j, ([] : Guards)) m else .bad) = R.of (if -(2 ^ 62) ≤ i ∧ i < 2 ^ 62 ∧ -(2 ^ 62) ≤ j ∧ j < 2 ^ 62 then some (rangeD i j, []) else none) m
      split <;> rfl
    | _ => rfl
  | _ => rfl
def enmS (m : Mem) : D → Option (List D × Guards)
  | .lst xs => some (enumFrom 0 xs, [])
  | .ref i => match m[i]? with
    | some (.lst xs) => some (enumFrom 0 xs, guardOf m (.ref i))
    | _ => none
  | _ => none
theorem s_enm {a} : evSrc F C (.enm a) e m = (evE F C a e m).bind fun x m => R.of (enmS m x) m := by
  rw [evSrc]
  refine congrArg (R.bind _) (funext fun x => funext fun m => ?_)
  cases x with
  | ref i =>
    simp only [enmS]
    cases m[i]? with
    | none => rfl
    | some c => cases c <;> rfl
  | _ => rfl
def zipS (m : Mem) (x y : D) : Option (List D × Guards) := match isTup x, isTup y with
  | false, false => (match seqOf m x, seqOf m y with
    | some xs, some ys => some (zipD xs ys, guardOf m x ++ guardOf m y)
    | _, _ => none)
  | true, true => (match seqOf m x, seqOf m y with
    | some xs, some ys => some (zipD xs ys, [])
    | _, _ => none)
  | _, _ => none
theorem zip_raw (x y : D) : (match x, y with
    | .tup xs, .tup ys => R.ok (zipD xs ys, ([] : Guards)) m
    | .tup _, _ => .bad
    | _, .tup _ => .bad
    | x, y => match seqOf m x, seqOf m y with
      | some xs, some ys => .ok (zipD xs ys, guardOf m x ++ guardOf m y) m
      | _, _ => .bad) = R.of (zipS m x y) m := by
  have core : isTup x = false → isTup y = false → (match seqOf m x, seqOf m y with
      | some xs, some ys => R.ok (zipD xs ys, guardOf m x ++ guardOf m y) m
      | _, _ => .bad) = R.of (zipS m x y) m := fun h1 h2 => by
    unfold zipS
    rw [h1, h2]
    simp only
    cases seqOf m x with
    | none => rfl
    | some xs => cases seqOf m y <;> rfl
  cases x <;> cases y <;> first | exact core rfl rfl | rfl
theorem s_zip {a b} : evSrc F C (.zip a b) e m = (evE F C a e m).bind fun x m => (evE F C b e m).bind fun y m => R.of (zipS m x y) m := by
  rw [evSrc]
  refine congrArg (R.bind _) (funext fun x => funext fun m => ?_)
  refine congrArg (R.bind _) (funext fun y => funext fun m => ?_)
  exact zip_raw x y
end
end Ev
/-! Pl0b: statements step by step. -/
namespace Ev
open PySem
section
variable {F : Nat → List Arg → Mem → R D} {C : Nat → Option D} {sub : Nat → Nat → Bool} {e : Env} {m : Mem}
theorem ss_nil : evSs F C sub .nil e m = .nx e m := by rw [evSs]
theorem ss_cons {s r} : evSs F C sub (.cons s r) e m = (evS F C sub s e m).nxt fun e m => evSs F C sub r e m := by
  rw [evSs]
  cases evS F C sub s e m <;> rfl
theorem st_asg {t a} : evS F C sub (.asg t a) e m = (evE F C a e m).st e fun d m => opS (setTg m e t d) fun e => .nx e m := by
  rw [evS]
  refine congrArg (R.st _ _) (funext fun d => funext fun m => ?_)
  cases setTg m e t d <;> rfl
theorem tg_nm {i d} : setTg m e (.nm i) d = some (e.set i (.val d)) := (rfl)
theorem tg_tp {ts ds} : setTg m e (.tp ts) (.tup ds) = setAll e ts ds := (rfl)
theorem sa_nil : setAll e [] [] = some e := (rfl)
theorem sa_cons {i r d ds} : setAll e (i :: r) (d :: ds) = setAll (e.set i (.val d)) r ds := (rfl)
theorem st_par {i j a b} : evS F C sub (.par i j a b) e m = (evE F C a e m).st e fun x m => (evE F C b e m).st e fun y m => .nx ((e.set i (.val x)).set j (.val y)) m := by rw [evS]
theorem st_own {i l} : evS F C sub (.own i l) e m = (evL F C l e m).st e fun c m => .nx (e.set i (.own c)) m := by rw [evS]
theorem st_frz {i} : evS F C sub (.frz i) e m = opS (ownS e[i]?) fun d => .nx (e.set i (.val d)) m := by
  rw [evS]
  cases e[i]? with
  | none => rfl
  | some s => cases s with
    | own c => cases c <;> rfl
    | _ => rfl
theorem st_exp {a} : evS F C sub (.exp a) e m = (evE F C a e m).st e fun _ m => .nx e m := by rw [evS]
def ownL : Option Slot → Option (List D)
  | some (.own (.lst xs)) => some xs
  | _ => none
theorem ownL_l {xs} : ownL (some (.own (.lst xs))) = some xs := (rfl)
theorem st_oapp {i a} : evS F C sub (.oapp i a) e m = opS (ownL e[i]?) fun xs => (evE F C a e m).st e fun d m => yes (decide (xs.length < lineMax)) (.nx (e.set i (.own (.lst (xs ++ [d])))) m) .bad := by
  rw [evS]
  cases e[i]? with
  | none => rfl
  | some s =>
    cases s with
    | own c =>
      cases c with
      | lst xs =>
        show (evE F C a e m).st e (fun d m => if xs.length < lineMax then .nx (e.set i (.own (.lst (xs ++ [d])))) m else .bad) = (evE F C a e m).st e (fun d m => yes (decide (xs.length < lineMax)) (.nx (e.set i (.own (.lst (xs ++ [d])))) m) .bad)
        refine congrArg (R.st _ _) (funext fun d => funext fun m => ?_)
        split
        · rw [decide_eq_true ‹_›]; rfl
        · rw [decide_eq_false ‹_›]; rfl
      | dic _ => rfl
    | _ => rfl
def lstC : Cell → Option (List D)
  | .lst xs => some xs
  | _ => none
theorem lstC_l {xs} : lstC (.lst xs) = some xs := (rfl)
theorem st_oext {i l} : evS F C sub (.oext i l) e m = opS (ownL e[i]?) fun xs => (evL F C l e m).st e fun c m => opS (lstC c) fun ys => yes (decide (xs.length + ys.length ≤ lineMax)) (.nx (e.set i (.own (.lst (xs ++ ys)))) m) .bad := by
  rw [evS]
  cases e[i]? with
  | none => rfl
  | some s =>
    cases s with
    | own c =>
      cases c with
      | lst xs =>
        show (evL F C l e m).st e (fun c m => match c with | .lst ys => if xs.length + ys.length ≤ lineMax then .nx (e.set i (.own (.lst (xs ++ ys)))) m else .bad | _ => .bad) = (evL F C l e m).st e (fun c m => opS (lstC c) fun ys => yes (decide (xs.length + ys.length ≤ lineMax)) (.nx (e.set i (.own (.lst (xs ++ ys)))) m) .bad)
        refine congrArg (R.st _ _) (funext fun d => funext fun m => ?_)
        cases d with
        | lst ys =>
          show (if xs.length + ys.length ≤ lineMax then SR.nx (e.set i (.own (.lst (xs ++ ys)))) m else .bad) = yes (decide (xs.length + ys.length ≤ lineMax)) (.nx (e.set i (.own (.lst (xs ++ ys)))) m) .bad
          split
          · rw [decide_eq_true ‹_›]; rfl
          · rw [decide_eq_false ‹_›]; rfl
        | dic _ => rfl
      | dic _ => rfl
    | _ => rfl
def setrC (m : Mem) (r : Nat) (k d : D) : Cell → Option Mem
  | .lst xs => (match k with
    | .int z => (ixOf xs.length z).map fun j => m.set r (.lst (xs.set j d))
    | _ => none)
  | .dic kvs => (keyOf k).bind fun k => if kvs.length < lineMax then some (m.set r (.dic (putK k d kvs))) else none
def setrD (m : Mem) (x k d : D) : Option Mem := match x with
  | .ref r => (m[r]?).bind (setrC m r k d)
  | _ => none
theorem setr_raw (x k d : D) : (match x with
    | .ref r => match m[r]?, k with
      | some (.lst xs), .int z => match ixOf xs.length z with
        | some j => SR.nx e (m.set r (.lst (xs.set j d)))
        | none => .bad
      | some (.dic kvs), k => match keyOf k with
        | some k => if kvs.length < lineMax then .nx e (m.set r (.dic (putK k d kvs))) else .bad
        | none => .bad
      | _, _ => .bad
    | _ => .bad) = opS (setrD m x k d) fun m => .nx e m := by
  cases x with
  | ref r =>
    unfold setrD
    simp only
    cases m[r]? with
    | none => rfl
    | some c =>
      cases c with
      | lst xs =>
        cases k with
        | int z =>
          show (match ixOf xs.length z with | some j => SR.nx e (m.set r (.lst (xs.set j d))) | none => .bad) = opS ((ixOf xs.length z).map fun j => m.set r (.lst (xs.set j d))) fun m => .nx e m
          cases ixOf xs.length z <;> rfl
        | _ => rfl
      | dic kvs =>
        show (match keyOf k with | some k => if kvs.length < lineMax then SR.nx e (m.set r (.dic (putK k d kvs))) else .bad | none => .bad) = opS ((keyOf k).bind fun k => if kvs.length < lineMax then some (m.set r (.dic (putK k d kvs))) else none) fun m => .nx e m
        cases keyOf k with
        | none => rfl
        | some k =>
          simp only [Option.bind_some]
          split <;> rfl
  | _ => rfl
theorem st_setr {a k b} : evS F C sub (.setr a k b) e m = (evE F C b e m).st e fun d m => (evE F C a e m).st e fun x m => (evE F C k e m).st e fun k m => opS (setrD m x k d) fun m => .nx e m := by
  rw [evS]
  refine congrArg (R.st _ _) (funext fun d => funext fun m => ?_)
  refine congrArg (R.st _ _) (funext fun x => funext fun m => ?_)
  refine congrArg (R.st _ _) (funext fun k => funext fun m => ?_)
  exact setr_raw x k d
theorem st_ife {c a b} : evS F C sub (.ife c a b) e m = (evT F C c e m).st e fun x m => yes x (evSs F C sub a e m) (evSs F C sub b e m) := by
  rw [evS]
  refine congrArg (R.st _ _) (funext fun x => funext fun m => ?_)
  cases x <;> rfl
theorem st_for {t s b} : evS F C sub (.for_ t s b) e m = (evSrc F C s e m).st e fun ig m => forL ig.2 (fun m e d => setTg m e t d) (fun e m => evSs F C sub b e m) ig.1 e m := by rw [evS]
theorem st_whl {n c b} : evS F C sub (.whl n c b) e m = whileL (fun e m => evT F C c e m) (fun e m => evSs F C sub b e m) n e m := by rw [evS]
theorem st_ret {a} : evS F C sub (.ret a) e m = (evE F C a e m).st e fun d m => .rt d m := by rw [evS]
theorem st_retn : evS F C sub .retn e m = .rt .non m := by rw [evS]
theorem st_raise {c fs es} : evS F C sub (.raise c fs es) e m = (evEs F C es e m).st e fun ds m => yes (decide (fs.length = ds.length)) (.ex ⟨c, fs.zip ds⟩ e m) .bad := by
  rw [evS]
  refine congrArg (R.st _ _) (funext fun ds => funext fun m => ?_)
  split
  · rw [decide_eq_true ‹_›]; rfl
  · rw [decide_eq_false ‹_›]; rfl
theorem st_try {b hs} : evS F C sub (.try_ b hs) e m = (evSs F C sub b e m).cat fun x e m => evHs F C sub hs x e m := by
  rw [evS]
  cases evSs F C sub b e m <;> rfl
theorem st_pass : evS F C sub .pass e m = .nx e m := by rw [evS]
theorem st_brk : evS F C sub .brk e m = .bk e m := by rw [evS]
theorem st_cnt : evS F C sub .cnt e m = .ct e m := by rw [evS]
theorem hs_nil {x} : evHs F C sub .nil x e m = .ex x e m := by rw [evHs]
def SR.fin (r : SR) (i : Nat) : SR := match r with
  | .nx e1 m1 => .nx ((noExc e1).set i .no) m1
  | .bk e1 m1 => .bk ((noExc e1).set i .no) m1
  | .ct e1 m1 => .ct ((noExc e1).set i .no) m1
  | .rt d m1 => .rt d m1
  | _ => .bad
def SR.fin0 (r : SR) : SR := match r with
  | .ex _ _ _ => .bad
  | y => y
theorem fin_nx {i} : (SR.nx e m).fin i = .nx ((noExc e).set i .no) m := (rfl)
theorem fin_rt {d i} : (SR.rt d m).fin i = .rt d m := (rfl)
theorem fin0_nx : (SR.nx e m).fin0 = .nx e m := (rfl)
theorem fin0_rt {d} : (SR.rt d m).fin0 = .rt d m := (rfl)
theorem hs_some {c i b r x} : evHs F C sub (.cons c (some i) b r) x e m = yes (sub x.c x.c) (yes (sub x.c c) ((evSs F C sub b (e.set i (.exc x)) m).fin i) (evHs F C sub r x e m)) .bad := by
  rw [evHs]
  cases sub x.c x.c
  · rfl
  · simp only [if_true, yes]
    cases sub x.c c
    · rfl
    · simp only [if_true]
      cases evSs F C sub b (e.set i (.exc x)) m <;> rfl
theorem hs_none {c b r x} : evHs F C sub (.cons c none b r) x e m = yes (sub x.c x.c) (yes (sub x.c c) ((evSs F C sub b e m).fin0) (evHs F C sub r x e m)) .bad := by
  rw [evHs]
  cases sub x.c x.c
  · rfl
  · simp only [if_true, yes]
    cases sub x.c c
    · rfl
    · simp only [if_true]
      cases evSs F C sub b e m <;> rfl
end
end Ev
/-! Pl0c: operations step by step. -/
namespace Ev
open PySem
def gd {α : Type} (b : Bool) (x : α) : Option α := if b = true then some x else none
theorem gd_t {α : Type} {x : α} : gd true x = some x := (rfl)
theorem gd_of {α : Type} {p : Prop} [Decidable p] {x : α} : (if p then some x else none) = gd (decide p) x := by
  unfold gd
  split
  · rw [if_pos (decide_eq_true ‹_›)]
  · rw [if_neg (by rw [decide_eq_false ‹_›]; decide)]
theorem gd_p {α : Type} {p : Prop} [Decidable p] {x : α} (h : p) : gd (decide p) x = some x := by rw [decide_eq_true h]; rfl
theorem forL_congr {g : Guards} {set : Mem → Env → D → Option Env} {f : Env → Mem → SR} {ds ds' : List D} {e e' : Env} {m m' : Mem} (h1 : ds = ds') (h2 : e = e') (h3 : m = m') : forL g set f ds e m = forL g set f ds' e' m' := by rw [h1, h2, h3]
theorem whileL_congr {c : Env → Mem → R Bool} {f : Env → Mem → SR} {n : Nat} {e e' : Env} {m m' : Mem} (h2 : e = e') (h3 : m = m') : whileL c f n e m = whileL c f n e' m' := by rw [h2, h3]
theorem compR_congr {g : Guards} {set : Mem → D → Option Env} {c : Env → Mem → R Bool} {f : Env → Mem → R D} {ds ds' : List D} {m m' : Mem} (h1 : ds = ds') (h3 : m = m') : compR g set c f ds m = compR g set c f ds' m' := by rw [h1, h3]
theorem compL_congr {g : Guards} {set : Mem → D → Option Env} {c : Env → Mem → R Bool} {f : Env → Mem → R D} {ds ds' : List D} {m m' : Mem} (h1 : ds = ds') (h3 : m = m') : compL g set c f ds m = compL g set c f ds' m' := by rw [h1, h3]
section
variable {m : Mem} {i j : Int}
theorem b_add : binD .add (.int i) (.int j) = some (.int (i + j)) := (rfl)
theorem b_sub : binD .sub (.int i) (.int j) = some (.int (i - j)) := (rfl)
theorem b_mul : binD .mul (.int i) (.int j) = gd (mulOk i j) (.int (i * j)) := (rfl)
theorem b_mod : binD .mod (.int i) (.int j) = gd (decide (0 < j)) (.int (i % j)) := gd_of
theorem b_div : binD .div (.int i) (.int j) = gd (decide (0 < j ∧ j < 1073741824)) (.int (i / j)) := gd_of
theorem b_pow : binD .pow (.int i) (.int j) = gd (decide (0 ≤ j ∧ j ≤ 1000000 ∧ -18446744073709551616 < i ∧ i < 18446744073709551616)) (.int (i ^ j.toNat)) := by
  show (if 0 ≤ j ∧ j ≤ 1000000 ∧ i.natAbs < 2 ^ 64 then some (D.int (i ^ j.toNat)) else none) = _
  rw [gd_of]
  congr 1
  exact decide_eq_decide.mpr (by omega)
theorem b_cats {s t : List Nat} : binD .add (.str s) (.str t) = gd (decide (s.length + t.length ≤ lineMax)) (.str (s ++ t)) := gd_of
theorem b_catl {s t : List D} : binD .add (.lst s) (.lst t) = gd (decide (s.length + t.length ≤ lineMax)) (.lst (s ++ t)) := gd_of
theorem b_catt {s t : List D} : binD .add (.tup s) (.tup t) = gd (decide (s.length + t.length ≤ lineMax)) (.tup (s ++ t)) := gd_of
/-- what stands at a number -/
def lstAt : Option Cell → Option (List D)
  | some (.lst xs) => some xs
  | _ => none
def dicAt : Option Cell → Option (List (DK × D))
  | some (.dic xs) => some xs
  | _ => none
theorem lstAt_l {xs} : lstAt (some (.lst xs)) = some xs := (rfl)
theorem lstAt_d {xs} : lstAt (some (.dic xs)) = none := (rfl)
theorem dicAt_l {xs} : dicAt (some (.lst xs)) = none := (rfl)
theorem dicAt_d {xs} : dicAt (some (.dic xs)) = some xs := (rfl)
theorem q_ref {r} : seqOf m (.ref r) = lstAt m[r]? := by
  unfold seqOf lstAt
  rfl
theorem q_tup {xs} : seqOf m (.tup xs) = some xs := (rfl)
theorem q_lst {xs} : seqOf m (.lst xs) = some xs := (rfl)
theorem q_non : seqOf m .non = none := (rfl)
theorem q_bl {b} : seqOf m (.bl b) = none := (rfl)
theorem q_int : seqOf m (.int i) = none := (rfl)
theorem q_str {s} : seqOf m (.str s) = none := (rfl)
theorem q_dic {s} : seqOf m (.dic s) = none := (rfl)
theorem c_ref {r} : dicOf m (.ref r) = dicAt m[r]? := by
  unfold dicOf dicAt
  rfl
theorem c_dic {xs} : dicOf m (.dic xs) = some xs := (rfl)
theorem c_tup {xs} : dicOf m (.tup xs) = none := (rfl)
theorem c_lst {xs} : dicOf m (.lst xs) = none := (rfl)
theorem c_str {xs} : dicOf m (.str xs) = none := (rfl)
theorem c_int : dicOf m (.int i) = none := (rfl)
/-- truth -/
def truAt : Option Cell → Option Bool
  | some (.lst xs) => some (!xs.isEmpty)
  | some (.dic kvs) => some (!kvs.isEmpty)
  | none => none
theorem r_ref {r} : truth m (.ref r) = truAt m[r]? := by unfold truth truAt; rfl
theorem r_non : truth m .non = some false := (rfl)
theorem r_bl {b} : truth m (.bl b) = some b := (rfl)
theorem r_int : truth m (.int i) = some (i != 0) := (rfl)
theorem r_str {s} : truth m (.str s) = gd (decide (s.length ≤ lineMax)) (!s.isEmpty) := gd_of
theorem r_tup {xs} : truth m (.tup xs) = some (!xs.isEmpty) := (rfl)
theorem r_lst {xs} : truth m (.lst xs) = some (!xs.isEmpty) := (rfl)
/-- types -/
def tyAt : Option Cell → Option (List Ty)
  | some (.lst _) => some [.list]
  | some (.dic _) => some [.dict]
  | none => none
def anyTy (ts us : List Ty) : Bool := ts.any fun t => us.any fun u => decide (u = t)
theorem y_ref {r ts} : isTy m (.ref r) ts = (tyAt m[r]?).map (anyTy ts) := by unfold isTy tyOf tyAt; rfl
theorem y_non {ts} : isTy m .non ts = some (anyTy ts []) := (rfl)
theorem y_bl {b ts} : isTy m (.bl b) ts = some (anyTy ts [.bool, .int]) := (rfl)
theorem y_int {ts} : isTy m (.int i) ts = some (anyTy ts [.int]) := (rfl)
theorem y_str {s ts} : isTy m (.str s) ts = some (anyTy ts [.str]) := (rfl)
theorem y_tup {s ts} : isTy m (.tup s) ts = some (anyTy ts [.tuple]) := (rfl)
theorem y_lst {s ts} : isTy m (.lst s) ts = some (anyTy ts [.list]) := (rfl)
theorem y_dic {s ts} : isTy m (.dic s) ts = some (anyTy ts [.dict]) := (rfl)
theorem tyAt_l {xs} : tyAt (some (.lst xs)) = some [.list] := (rfl)
theorem tyAt_d {xs} : tyAt (some (.dic xs)) = some [.dict] := (rfl)
theorem anyTy_0 {us : List Ty} : anyTy [] us = false := (rfl)
theorem anyTy_s {t : Ty} {ts us : List Ty} : anyTy (t :: ts) us = ((us.any fun u => decide (u = t)) || anyTy ts us) := (rfl)
/-- an item -/
theorem x_tup {xs} : idxD m (.tup xs) (.int i) = (ixOf xs.length i).bind fun j => xs[j]? := (rfl)
theorem x_lst {xs} : idxD m (.lst xs) (.int i) = (ixOf xs.length i).bind fun j => xs[j]? := (rfl)
def idxAt (y : D) : Option Cell → Option D
  | some (.lst xs) => (match y with
    | .int i => (ixOf xs.length i).bind fun j => xs[j]?
    | _ => none)
  | some (.dic kvs) => (keyOf y).bind fun k => getK k kvs
  | none => none
theorem x_ref {r y} : idxD m (.ref r) y = idxAt y m[r]? := by
  show (match seqOf m (.ref r), y with
    | some xs, .int i => (ixOf xs.length i).bind fun j => xs[j]?
    | _, _ => match dicOf m (.ref r), keyOf y with
      | some kvs, some k => getK k kvs
      | _, _ => none) = _
  rw [q_ref, c_ref]
  cases m[r]? with
  | none => cases y <;> rfl
  | some c =>
    cases c with
    | lst xs => cases y <;> rfl
    | dic kvs =>
      cases y with
      | int i => rfl
      | str s => rfl
      | _ => rfl
theorem idxAt_l {xs} : idxAt (.int i) (some (.lst xs)) = (ixOf xs.length i).bind fun j => xs[j]? := (rfl)
theorem idxAt_d {kvs y} : idxAt y (some (.dic kvs)) = (keyOf y).bind fun k => getK k kvs := (rfl)
theorem x_cdic {kvs z} : idxD m (.cdic kvs) (.str z) = getK (.s z) kvs := (rfl)
theorem x_dic {kvs y} : idxD m (.dic kvs) y = (keyOf y).bind fun k => getK k kvs := by
  cases y <;> rfl
theorem x_str {s : List Nat} : idxD m (.str s) (.int i) = if s.length ≤ lineMax then (ixOf s.length i).bind fun j => (s[j]?).map fun c => .str [c] else none := (rfl)
theorem k_int : keyOf (.int i) = some (.i i) := (rfl)
theorem k_str {s} : keyOf (.str s) = some (.s s) := (rfl)
/-- comparing -/
theorem v_eq {a b} : cmpD m .eq a b = eqD m a b := (rfl)
theorem v_ne {a b} : cmpD m .ne a b = (eqD m a b).map (! ·) := (rfl)
theorem v_lt : cmpD m .lt (.int i) (.int j) = some (decide (i < j)) := (rfl)
theorem v_le : cmpD m .le (.int i) (.int j) = some (decide (i ≤ j)) := (rfl)
theorem v_gt : cmpD m .gt (.int i) (.int j) = some (decide (j < i)) := (rfl)
theorem v_ge : cmpD m .ge (.int i) (.int j) = some (decide (j ≤ i)) := (rfl)
theorem v_in {a b} : cmpD m .in_ a b = inD m a b := by cases a <;> cases b <;> rfl
theorem v_nin {a b} : cmpD m .nin a b = (inD m a b).map (! ·) := by cases a <;> cases b <;> rfl
theorem v_is {a} : cmpD m .is_ a .non = some a.isNon := by cases a <;> rfl
theorem v_isn {a} : cmpD m .isn a .non = some (!a.isNon) := by cases a <;> rfl
theorem eq_ii : eqD m (.int i) (.int j) = some (decide (i = j)) := by
  have : PyData.eqv (.int i) (.int j) = (i == j) := by simp only [PyData.eqv]
  show (if (SeqAt.shaped (.int i) && SeqAt.shaped (.int j)) = true then some (PyData.eqv (.int i) (.int j)) else none) = _
  rw [if_pos (by simp [SeqAt.shaped, PyData.canLay0, PyData.depth]), this]
  rfl
theorem non_non : D.isNon .non = true := (rfl)
theorem non_bl {b} : D.isNon (.bl b) = false := (rfl)
theorem non_int : D.isNon (.int i) = false := (rfl)
theorem non_str {s} : D.isNon (.str s) = false := (rfl)
theorem non_tup {s} : D.isNon (.tup s) = false := (rfl)
theorem non_lst {s} : D.isNon (.lst s) = false := (rfl)
theorem non_ref {s} : D.isNon (.ref s) = false := (rfl)
theorem non_dic {s} : D.isNon (.dic s) = false := (rfl)
theorem in_tup {x ys} : inD m x (.tup ys) = gd (x.flat && ys.all D.flat) (ys.any fun z => eqF z x) := (rfl)
theorem in_cdic {z kvs} : inD m (.str z) (.cdic kvs) = some (getK (.s z) kvs).isSome := (rfl)
theorem f_ss {s t : List Nat} : eqF (.str s) (.str t) = (s == t) := (rfl)
/-- small built-ins -/
theorem bi_lens {s} : biD m .len [.str s] = gd (decide (s.length ≤ lineMax)) (.int s.length) := gd_of
theorem bi_lent {s} : biD m .len [.tup s] = some (.int s.length) := (rfl)
theorem bi_lenl {s} : biD m .len [.lst s] = some (.int s.length) := (rfl)
def lenAt : Option Cell → Option D
  | some (.lst xs) => some (.int xs.length)
  | some (.dic xs) => some (.int xs.length)
  | none => none
theorem bi_lenr {r} : biD m .len [.ref r] = lenAt m[r]? := by
  show (match seqOf m (.ref r) with | some xs => some (D.int xs.length) | none => (dicOf m (.ref r)).map fun (kvs : List (DK × D)) => .int kvs.length) = _
  rw [q_ref, c_ref]
  cases m[r]? with
  | none => rfl
  | some c => cases c <;> rfl
theorem lenAt_l {xs} : lenAt (some (.lst xs)) = some (.int xs.length) := (rfl)
theorem bi_max : biD m .max2 [.int i, .int j] = some (.int (if j > i then j else i)) := (rfl)
theorem bi_min : biD m .min2 [.int i, .int j] = some (.int (if j < i then j else i)) := (rfl)
theorem bi_int : biD m .int [.int i] = some (.int i) := (rfl)
theorem bi_intb {b : Bool} : biD m .int [.bl b] = some (.int (if b then 1 else 0)) := (rfl)
theorem bi_tup {d} : biD m .tuple [d] = (seqOf m d).map .tup := (rfl)
theorem ix_ok {n : Nat} {j : Nat} (h : j < n) : ixOf n (j : Int) = some j := by
  unfold ixOf
  rw [if_pos (by omega), if_pos (by omega)]
  simp
theorem ix_0 {n : Nat} : ixOf (n + 1) 0 = some 0 := by unfold ixOf; rw [if_pos (by omega), if_pos (by omega)]; rfl
theorem ix_1 {n : Nat} : ixOf (n + 1 + 1) 1 = some 1 := by unfold ixOf; rw [if_pos (by omega), if_pos (by omega)]; rfl
theorem ix_2 {n : Nat} : ixOf (n + 1 + 1 + 1) 2 = some 2 := by unfold ixOf; rw [if_pos (by omega), if_pos (by omega)]; rfl
theorem ix_3 {n : Nat} : ixOf (n + 1 + 1 + 1 + 1) 3 = some 3 := by unfold ixOf; rw [if_pos (by omega), if_pos (by omega)]; rfl
theorem ix_4 {n : Nat} : ixOf (n + 1 + 1 + 1 + 1 + 1) 4 = some 4 := by unfold ixOf; rw [if_pos (by omega), if_pos (by omega)]; rfl
theorem nth_0 {x : D} {xs : List D} : (x :: xs)[0]? = some x := (rfl)
theorem nth_s {x : D} {xs : List D} {i : Nat} : (x :: xs)[i + 1]? = xs[i]? := (rfl)
theorem nset_0 {x y : D} {xs : List D} : (x :: xs).set 0 y = y :: xs := (rfl)
theorem nset_s {x y : D} {xs : List D} {i : Nat} : (x :: xs).set (i + 1) y = x :: xs.set i y := (rfl)
theorem me_ok_pop {r} : meOk m .pop1 (.ref r) = (lstAt m[r]?).isSome := by show (seqOf m (.ref r)).isSome = _; rw [q_ref]
theorem me_ok_app {r} : meOk m .append (.ref r) = (lstAt m[r]?).isSome := by show (seqOf m (.ref r)).isSome = _; rw [q_ref]
theorem me_ok_cnt {r} : meOk m .count (.ref r) = (lstAt m[r]?).isSome := by show (seqOf m (.ref r)).isSome = _; rw [q_ref]
theorem me_ok_cntl {xs} : meOk m .count (.lst xs) = true := (rfl)
theorem me_ok_get {r} : meOk m .get2 (.ref r) = (dicAt m[r]?).isSome := by show (dicOf m (.ref r)).isSome = _; rw [c_ref]
def popAt (m : Mem) (r : Nat) (i : Int) : Option Cell → Option (D × Mem)
  | some (.lst xs) => if -(2 ^ 63) ≤ i ∧ i < 2 ^ 63 then (ixOf xs.length i).bind fun j => (xs[j]?).map fun x => (x, m.set r (.lst (xs.eraseIdx j))) else none
  | _ => none
theorem me_pop {r} : meD m .pop1 (.ref r) [.int i] = popAt m r i m[r]? := by
  unfold popAt
  rfl
theorem pop_0 {r : Nat} {x : D} {xs : List D} : popAt m r 0 (some (.lst (x :: xs))) = some (x, m.set r (.lst xs)) := by
  show (if -(2 ^ 63) ≤ (0 : Int) ∧ (0 : Int) < 2 ^ 63 then (ixOf (xs.length + 1) 0).bind fun j => ((x :: xs)[j]?).map fun y => (y, m.set r (.lst ((x :: xs).eraseIdx j))) else none) = _
  rw [if_pos (by decide), ix_0]
  rfl
def appAt (m : Mem) (r : Nat) (d : D) : Option Cell → Option (D × Mem)
  | some (.lst xs) => if xs.length < lineMax then some (.non, m.set r (.lst (xs ++ [d]))) else none
  | _ => none
theorem me_app {r d} : meD m .append (.ref r) [d] = appAt m r d m[r]? := by
  unfold appAt
  rfl
end
end Ev
/-! Pl0d: the same, what is still to come being named. -/
namespace Ev
open PySem
section
variable (F : Nat → List Arg → Mem → R D) (C : Nat → Option D) (sub : Nat → Nat → Bool)
def kTup (ds : List D) (m : Mem) : R D := .ok (.tup ds) m
def kMk (c : Cell) (m : Mem) : R D := .ok (cellD c) m
def kMkr (c : Cell) (m : Mem) : R D := .ok (.ref m.length) (m ++ [c])
def kBin2 (o : Bop) (x y : D) (m : Mem) : R D := R.of (binD o x y) m
def kBin1 (o : Bop) (b : E) (e : Env) (x : D) (m : Mem) : R D := (evE F C b e m).bind (kBin2 o x)
def kNeg (x : D) (m : Mem) : R D := R.of (negD x) m
def kCmp2 (o : Cop) (x y : D) (m : Mem) : R D := R.of ((cmpD m o x y).map .bl) m
def kCmp1 (o : Cop) (b : O) (e : Env) (x : D) (m : Mem) : R D := (evO F C b e m).bind (kCmp2 o x)
def nbl (b : Bool) : D := .bl (!b)
def kNot (x : D) (m : Mem) : R D := R.of ((truth m x).map nbl) m
def andK (b : E) (e : Env) (x : D) (m : Mem) : Option Bool → R D
  | some true => evE F C b e m
  | some false => .ok x m
  | none => .bad
def kAnd (b : E) (e : Env) (x : D) (m : Mem) : R D := andK F C b e x m (truth m x)
def orK (b : E) (e : Env) (x : D) (m : Mem) : Option Bool → R D
  | some true => .ok x m
  | some false => evE F C b e m
  | none => .bad
def kOr (b : E) (e : Env) (x : D) (m : Mem) : R D := orK F C b e x m (truth m x)
def kIte (a b : E) (e : Env) (x : Bool) (m : Mem) : R D := match x with
  | true => evE F C a e m
  | false => evE F C b e m
def kIdx2 (x y : D) (m : Mem) : R D := R.of (idxD m x y) m
def kIdx1 (b : E) (e : Env) (x : D) (m : Mem) : R D := (evE F C b e m).bind (kIdx2 x)
def kSl3 (x : D) (l h : Option Int) (m : Mem) : R D := R.of (slD l h x) m
def kSl2 (hi : Eo) (e : Env) (x : D) (l : Option Int) (m : Mem) : R D := (evEo F C hi e m).bind (kSl3 x l)
def kSl1 (lo hi : Eo) (e : Env) (x : D) (m : Mem) : R D := (evEo F C lo e m).bind (kSl2 F C hi e x)
def kCall (f : Nat) (ds : List Arg) (m : Mem) : R D := F f ds m
def callkO (f : Nat) (m : Mem) : Option (List D) → R D
  | some ds => F f (ds.map .dat) m
  | none => .bad
def kCallk (f : Nat) (perm : List Nat) (ds : List D) (m : Mem) : R D := callkO F f m (permD ds perm)
def kApp (l : Nat) (cs ds : List D) (m : Mem) : R D := F l (cs.map .dat ++ ds.map .dat) m
def appO (es : Es) (e : Env) (m : Mem) : Option (Nat × List D) → R D
  | some p => (evEs F C es e m).bind (kApp F p.1 p.2)
  | none => .bad
def kIsin (ts : List Ty) (x : D) (m : Mem) : R D := R.of ((isTy m x ts).map .bl) m
def kBi (b : Bi) (ds : List D) (m : Mem) : R D := R.of (biD m b ds) m
def methO : Option (D × Mem) → R D
  | some p => .ok p.1 p.2
  | none => .bad
def kMeth2 (o : Me) (x : D) (ds : List D) (m : Mem) : R D := methO (meD m o x ds)
def methB (o : Me) (es : Es) (e : Env) (x : D) (m : Mem) : Bool → R D
  | true => (evEs F C es e m).bind (kMeth2 o x)
  | false => .bad
def kMeth1 (o : Me) (es : Es) (e : Env) (x : D) (m : Mem) : R D := methB F C o es e x m (meOk m o x)
def kAll (c : Cell) (m : Mem) : R D := R.of (allC c) m
def kCons {α : Type} (x : α) (xs : List α) (m : Mem) : R (List α) := .ok (x :: xs) m
def kOs (r : Os) (e : Env) (x : D) (m : Mem) : R (List D) := (evOs F C r e m).bind (kCons x)
def kTval (x : D) (m : Mem) : R Bool := R.of (truth m x) m
def kTcmp2 (o : Cop) (x y : D) (m : Mem) : R Bool := R.of (cmpD m o x y) m
def kTcmp1 (o : Cop) (b : O) (e : Env) (x : D) (m : Mem) : R Bool := (evO F C b e m).bind (kTcmp2 o x)
def kTnot (b : Bool) (m : Mem) : R Bool := .ok (!b) m
def kTand (b : T) (e : Env) (x : Bool) (m : Mem) : R Bool := match x with
  | true => evT F C b e m
  | false => .ok false m
def kTor (b : T) (e : Env) (x : Bool) (m : Mem) : R Bool := match x with
  | true => .ok true m
  | false => evT F C b e m
def kEs (r : Es) (e : Env) (x : D) (m : Mem) : R (List D) := (evEs F C r e m).bind (kCons x)
def kAs (r : As) (e : Env) (x : D) (m : Mem) : R (List Arg) := (evAs F C r e m).bind (kCons (.dat x))
def lamO (l : Nat) (r : As) (e : Env) (m : Mem) : Option (List D) → R (List Arg)
  | some cs => (evAs F C r e m).bind (kCons (.clo l cs))
  | none => .bad
def pasO (r : As) (e : Env) (m : Mem) : Option (Nat × List D) → R (List Arg)
  | some p => (evAs F C r e m).bind (kCons (.clo p.1 p.2))
  | none => .bad
def kEo (x : D) (m : Mem) : R (Option Int) := R.of (intO x) m
def kDisp (ds : List D) (m : Mem) : R Cell := .ok (.lst ds) m
def kCopy (x : D) (m : Mem) : R Cell := R.of (copyC m x) m
def kSet (t : Tg) (vs : List Nat) (e : Env) (m : Mem) (d : D) : Option Env := setTg m (wipeE e vs) t d
def kTo (c : To) (e : Env) (m : Mem) : R Bool := evTo F C c e m
def kE (f : E) (e : Env) (m : Mem) : R D := evE F C f e m
def kComp (t : Tg) (c : To) (f : E) (vs : List Nat) (e : Env) (ig : List D × Guards) (m : Mem) : R Cell := compR ig.2 (kSet t vs e) (kTo F C c) (kE F C f) ig.1 m
def kCat2 (x y : D) (m : Mem) : R Cell := R.of (catC m x y) m
def kCat1 (b : O) (e : Env) (x : D) (m : Mem) : R Cell := (evO F C b e m).bind (kCat2 x)
def kSlc3 (x : D) (l h : Option Int) (m : Mem) : R Cell := R.of (sliceC m l h x) m
def kSlc2 (hi : Eo) (e : Env) (x : D) (l : Option Int) (m : Mem) : R Cell := (evEo F C hi e m).bind (kSlc3 x l)
def kSlc1 (lo hi : Eo) (e : Env) (x : D) (m : Mem) : R Cell := (evEo F C lo e m).bind (kSlc2 F C hi e x)
def kDd (ks : List DK) (ds : List D) (m : Mem) : R Cell := R.of ((buildK ks ds []).map .dic) m
def kDict (c : Cell) (m : Mem) : R Cell := R.of (dictC m c) m
def kItems (x : D) (m : Mem) : R Cell := R.of (itemsC m x) m
def kIt (x : D) (m : Mem) : R (List D × Guards) := R.of (itS m x) m
def kRng (x : D) (m : Mem) : R (List D × Guards) := R.of (rngS x) m
def kRng2b (x y : D) (m : Mem) : R (List D × Guards) := R.of (rngS2 x y) m
def kRng2a (b : E) (e : Env) (x : D) (m : Mem) : R (List D × Guards) := (evE F C b e m).bind (kRng2b x)
def kEnm (x : D) (m : Mem) : R (List D × Guards) := R.of (enmS m x) m
def kZip2 (x y : D) (m : Mem) : R (List D × Guards) := R.of (zipS m x y) m
def kZip1 (b : E) (e : Env) (x : D) (m : Mem) : R (List D × Guards) := (evE F C b e m).bind (kZip2 x)
def thenS (rest : Ss) : SR → SR
  | .nx e m => evSs F C sub rest e m
  | x => x
def asgO (m : Mem) : Option Env → SR
  | some e => .nx e m
  | none => .bad
def kAsg (t : Tg) (e : Env) (d : D) (m : Mem) : SR := asgO m (setTg m e t d)
def kPar2 (i j : Nat) (e : Env) (x y : D) (m : Mem) : SR := .nx ((e.set i (.val x)).set j (.val y)) m
def kPar1 (i j : Nat) (b : E) (e : Env) (x : D) (m : Mem) : SR := (evE F C b e m).st e (kPar2 i j e x)
def kOwn (i : Nat) (e : Env) (c : Cell) (m : Mem) : SR := .nx (e.set i (.own c)) m
def frzO (i : Nat) (e : Env) (m : Mem) : Option D → SR
  | some d => .nx (e.set i (.val d)) m
  | none => .bad
def kExp (e : Env) (_ : D) (m : Mem) : SR := .nx e m
def yesS (s : SR) : Bool → SR
  | true => s
  | false => .bad
def kOapp (i : Nat) (e : Env) (xs : List D) (d : D) (m : Mem) : SR := yesS (.nx (e.set i (.own (.lst (xs ++ [d])))) m) (decide (xs.length < lineMax))
def oappO (i : Nat) (a : E) (e : Env) (m : Mem) : Option (List D) → SR
  | some xs => (evE F C a e m).st e (kOapp i e xs)
  | none => .bad
def oextL (i : Nat) (e : Env) (xs : List D) (m : Mem) : Option (List D) → SR
  | some ys => yesS (.nx (e.set i (.own (.lst (xs ++ ys)))) m) (decide (xs.length + ys.length ≤ lineMax))
  | none => .bad
def kOext (i : Nat) (e : Env) (xs : List D) (c : Cell) (m : Mem) : SR := oextL i e xs m (lstC c)
def oextO (i : Nat) (l : L) (e : Env) (m : Mem) : Option (List D) → SR
  | some xs => (evL F C l e m).st e (kOext i e xs)
  | none => .bad
def srO (e : Env) : Option Mem → SR
  | some m => .nx e m
  | none => .bad
def kSr3 (e : Env) (d x k : D) (m : Mem) : SR := srO e (setrD m x k d)
def kSr2 (k : E) (e : Env) (d x : D) (m : Mem) : SR := (evE F C k e m).st e (kSr3 e d x)
def kSr1 (a k : E) (e : Env) (d : D) (m : Mem) : SR := (evE F C a e m).st e (kSr2 F C k e d)
def kIf (a b : Ss) (e : Env) (x : Bool) (m : Mem) : SR := match x with
  | true => evSs F C sub a e m
  | false => evSs F C sub b e m
def kTg (t : Tg) (m : Mem) (e : Env) (d : D) : Option Env := setTg m e t d
def kSs (b : Ss) (e : Env) (m : Mem) : SR := evSs F C sub b e m
def kT (c : T) (e : Env) (m : Mem) : R Bool := evT F C c e m
def kFor (t : Tg) (b : Ss) (e : Env) (ig : List D × Guards) (m : Mem) : SR := forL ig.2 (kTg t) (kSs F C sub b) ig.1 e m
def kRet (d : D) (m : Mem) : SR := .rt d m
def kRaise (e : Env) (c : Nat) (fs : List (List Nat)) (ds : List D) (m : Mem) : SR := yesS (.ex ⟨c, fs.zip ds⟩ e m) (decide (fs.length = ds.length))
def tryS (hs : Hs) : SR → SR
  | .ex x e m => evHs F C sub hs x e m
  | y => y
def finS (i : Nat) : SR → SR
  | .nx e1 m1 => .nx ((noExc e1).set i .no) m1
  | .bk e1 m1 => .bk ((noExc e1).set i .no) m1
  | .ct e1 m1 => .ct ((noExc e1).set i .no) m1
  | .rt d m1 => .rt d m1
  | _ => .bad
def fin0S : SR → SR
  | .ex _ _ _ => .bad
  | y => y
def hsBB (i : Nat) (b : Ss) (r : Hs) (x : Ex) (e : Env) (m : Mem) : Bool → Bool → SR
  | true, true => finS i (evSs F C sub b (e.set i (.exc x)) m)
  | true, false => evHs F C sub r x e m
  | false, _ => .bad
def hsB0 (b : Ss) (r : Hs) (x : Ex) (e : Env) (m : Mem) : Bool → Bool → SR
  | true, true => fin0S (evSs F C sub b e m)
  | true, false => evHs F C sub r x e m
  | false, _ => .bad
end
section
variable {F : Nat → List Arg → Mem → R D} {C : Nat → Option D} {sub : Nat → Nat → Bool} {e : Env} {m : Mem}
theorem E_tup {es} : evE F C (.tup es) e m = (evEs F C es e m).bind kTup := e_tup
theorem E_mk {l} : evE F C (.mk l) e m = (evL F C l e m).bind kMk := e_mk
theorem E_mkr {l} : evE F C (.mkr l) e m = (evL F C l e m).bind kMkr := e_mkr
theorem E_bin {o a b} : evE F C (.bin o a b) e m = (evE F C a e m).bind (kBin1 F C o b e) := e_bin
theorem E_neg {a} : evE F C (.neg a) e m = (evE F C a e m).bind kNeg := e_neg
theorem E_cmp {o a b} : evE F C (.cmp o a b) e m = (evO F C a e m).bind (kCmp1 F C o b e) := e_cmp
theorem E_not {a} : evE F C (.not a) e m = (evO F C a e m).bind kNot := e_not
theorem cond_and {b : E} {x : D} {o : Option Bool} : cond o (evE F C b e m) (.ok x m) = andK F C b e x m o := by
  cases o with
  | none => rfl
  | some b => cases b <;> rfl
theorem cond_or {b : E} {x : D} {o : Option Bool} : cond o (.ok x m) (evE F C b e m) = orK F C b e x m o := by
  cases o with
  | none => rfl
  | some b => cases b <;> rfl
theorem E_and {a b} : evE F C (.and a b) e m = (evE F C a e m).bind (kAnd F C b e) := by
  rw [e_and]
  exact congrArg (R.bind _) (funext fun x => funext fun m => cond_and)
theorem E_or {a b} : evE F C (.or a b) e m = (evE F C a e m).bind (kOr F C b e) := by
  rw [e_or]
  exact congrArg (R.bind _) (funext fun x => funext fun m => cond_or)
theorem E_ite {c a b} : evE F C (.ite c a b) e m = (evT F C c e m).bind (kIte F C a b e) := e_ite
theorem E_idx {a b} : evE F C (.idx a b) e m = (evO F C a e m).bind (kIdx1 F C b e) := e_idx
theorem E_sl {a lo hi} : evE F C (.sl a lo hi) e m = (evE F C a e m).bind (kSl1 F C lo hi e) := e_sl
theorem E_call {f es} : evE F C (.call f es) e m = (evAs F C es e m).bind (kCall F f) := e_call
theorem E_callk {f es perm} : evE F C (.callk f es perm) e m = (evEs F C es e m).bind (kCallk F f perm) := by
  rw [e_callk]
  refine congrArg (R.bind _) (funext fun x => funext fun m => ?_)
  show opt _ _ = callkO F f m _
  cases permD x perm <;> rfl
theorem E_app {i es} : evE F C (.app i es) e m = appO F C es e m (cloS e[i]?) := by
  rw [e_app]
  cases cloS e[i]? <;> rfl
theorem E_isin {a ts} : evE F C (.isin a ts) e m = (evO F C a e m).bind (kIsin ts) := e_isin
theorem E_bi {b es} : evE F C (.bi b es) e m = (evOs F C es e m).bind (kBi b) := e_bi
theorem E_meth {o a es} : evE F C (.meth o a es) e m = (evO F C a e m).bind (kMeth1 F C o es e) := by
  rw [e_meth]
  refine congrArg (R.bind _) (funext fun x => funext fun m => ?_)
  show yes (meOk m o x) _ _ = methB F C o es e x m (meOk m o x)
  cases meOk m o x with
  | false => rfl
  | true =>
    refine congrArg (R.bind _) (funext fun ds => funext fun m => ?_)
    show opt _ _ = methO (meD m o x ds)
    cases meD m o x ds <;> rfl
theorem E_all {l} : evE F C (.all l) e m = (evL F C l e m).bind kAll := e_all
theorem Os_cons {a r} : evOs F C (.cons a r) e m = (evO F C a e m).bind (kOs F C r e) := os_cons
theorem T_val {a} : evT F C (.val a) e m = (evO F C a e m).bind kTval := t_val
theorem T_cmp {o a b} : evT F C (.cmp o a b) e m = (evO F C a e m).bind (kTcmp1 F C o b e) := t_cmp
theorem T_not {a} : evT F C (.not a) e m = (evT F C a e m).bind kTnot := t_not
theorem T_and {a b} : evT F C (.and a b) e m = (evT F C a e m).bind (kTand F C b e) := t_and
theorem T_or {a b} : evT F C (.or a b) e m = (evT F C a e m).bind (kTor F C b e) := t_or
theorem Es_cons {a r} : evEs F C (.cons a r) e m = (evE F C a e m).bind (kEs F C r e) := es_cons
theorem As_dat {a r} : evAs F C (.dat a r) e m = (evE F C a e m).bind (kAs F C r e) := as_dat
theorem As_lam {l caps r} : evAs F C (.lam l caps r) e m = lamO F C l r e m (getAll e caps) := by
  rw [as_lam]
  cases getAll e caps <;> rfl
theorem As_pas {i r} : evAs F C (.pas i r) e m = pasO F C r e m (cloS e[i]?) := by
  rw [as_pas]
  cases cloS e[i]? <;> rfl
theorem Eo_ex {a} : evEo F C (.ex a) e m = (evE F C a e m).bind kEo := eo_ex
theorem L_disp {es} : evL F C (.disp es) e m = (evEs F C es e m).bind kDisp := l_disp
theorem L_copy {a} : evL F C (.copy a) e m = (evO F C a e m).bind kCopy := l_copy
theorem L_comp {t s c f vs} : evL F C (.comp t s c f vs) e m = (evSrc F C s e m).bind (kComp F C t c f vs e) := l_comp
theorem L_cat {a b} : evL F C (.cat a b) e m = (evO F C a e m).bind (kCat1 F C b e) := l_cat
theorem L_slice {a lo hi} : evL F C (.slice a lo hi) e m = (evO F C a e m).bind (kSlc1 F C lo hi e) := l_slice
theorem L_ddisp {ks es} : evL F C (.ddisp ks es) e m = (evEs F C es e m).bind (kDd ks) := l_ddisp
theorem L_dict {l} : evL F C (.dict l) e m = (evL F C l e m).bind kDict := l_dict
theorem L_litems {a} : evL F C (.litems a) e m = (evE F C a e m).bind kItems := l_litems
theorem S_it {a} : evSrc F C (.it a) e m = (evE F C a e m).bind kIt := s_it
theorem S_rng {a} : evSrc F C (.rng a) e m = (evE F C a e m).bind kRng := s_rng
theorem S_rng2 {a b} : evSrc F C (.rng2 a b) e m = (evE F C a e m).bind (kRng2a F C b e) := s_rng2
theorem S_enm {a} : evSrc F C (.enm a) e m = (evE F C a e m).bind kEnm := s_enm
theorem S_zip {a b} : evSrc F C (.zip a b) e m = (evE F C a e m).bind (kZip1 F C b e) := s_zip
theorem Ss_cons {s r} : evSs F C sub (.cons s r) e m = thenS F C sub r (evS F C sub s e m) := by
  rw [ss_cons]
  cases evS F C sub s e m <;> rfl
theorem St_asg {t a} : evS F C sub (.asg t a) e m = (evE F C a e m).st e (kAsg t e) := by
  rw [st_asg]
  refine congrArg (R.st _ _) (funext fun d => funext fun m => ?_)
  show opS _ _ = asgO m _
  cases setTg m e t d <;> rfl
theorem St_par {i j a b} : evS F C sub (.par i j a b) e m = (evE F C a e m).st e (kPar1 F C i j b e) := st_par
theorem St_own {i l} : evS F C sub (.own i l) e m = (evL F C l e m).st e (kOwn i e) := st_own
theorem St_frz {i} : evS F C sub (.frz i) e m = frzO i e m (ownS e[i]?) := by rw [st_frz]; cases ownS e[i]? <;> rfl
theorem St_exp {a} : evS F C sub (.exp a) e m = (evE F C a e m).st e (kExp e) := st_exp
theorem yes_S {s : SR} {b : Bool} : yes b s .bad = yesS s b := by cases b <;> rfl
theorem St_oapp {i a} : evS F C sub (.oapp i a) e m = oappO F C i a e m (ownL e[i]?) := by
  rw [st_oapp]
  cases ownL e[i]? with
  | none => rfl
  | some xs => exact congrArg (R.st _ _) (funext fun d => funext fun m => yes_S)
theorem St_oext {i l} : evS F C sub (.oext i l) e m = oextO F C i l e m (ownL e[i]?) := by
  rw [st_oext]
  cases ownL e[i]? with
  | none => rfl
  | some xs =>
    refine congrArg (R.st _ _) (funext fun c => funext fun m => ?_)
    cases c with
    | lst ys => exact yes_S
    | dic _ => rfl
theorem St_setr {a k b} : evS F C sub (.setr a k b) e m = (evE F C b e m).st e (kSr1 F C a k e) := by
  rw [st_setr]
  refine congrArg (R.st _ _) (funext fun d => funext fun m => ?_)
  refine congrArg (R.st _ _) (funext fun x => funext fun m => ?_)
  refine congrArg (R.st _ _) (funext fun k => funext fun m => ?_)
  show opS _ _ = srO e _
  cases setrD m x k d <;> rfl
theorem St_ife {c a b} : evS F C sub (.ife c a b) e m = (evT F C c e m).st e (kIf F C sub a b e) := by
  rw [st_ife]
  refine congrArg (R.st _ _) (funext fun x => funext fun m => ?_)
  cases x <;> rfl
theorem St_for {t s b} : evS F C sub (.for_ t s b) e m = (evSrc F C s e m).st e (kFor F C sub t b e) := st_for
theorem St_whl {n c b} : evS F C sub (.whl n c b) e m = whileL (kT F C c) (kSs F C sub b) n e m := st_whl
theorem St_ret {a} : evS F C sub (.ret a) e m = (evE F C a e m).st e kRet := st_ret
theorem St_raise {c fs es} : evS F C sub (.raise c fs es) e m = (evEs F C es e m).st e (kRaise e c fs) := by
  rw [st_raise]
  exact congrArg (R.st _ _) (funext fun d => funext fun m => yes_S)
theorem St_try {b hs} : evS F C sub (.try_ b hs) e m = tryS F C sub hs (evSs F C sub b e m) := by
  rw [st_try]
  cases evSs F C sub b e m <;> rfl
theorem fin_S {r : SR} {i : Nat} : r.fin i = finS i r := by cases r <;> rfl
theorem fin0_S {r : SR} : r.fin0 = fin0S r := by cases r <;> rfl
theorem Hs_some {c i b r x} : evHs F C sub (.cons c (some i) b r) x e m = hsBB F C sub i b r x e m (sub x.c x.c) (sub x.c c) := by
  rw [hs_some]
  cases sub x.c x.c with
  | false => rfl
  | true =>
    cases sub x.c c with
    | false => rfl
    | true => exact fin_S
theorem Hs_none {c b r x} : evHs F C sub (.cons c none b r) x e m = hsB0 F C sub b r x e m (sub x.c x.c) (sub x.c c) := by
  rw [hs_none]
  cases sub x.c x.c with
  | false => rfl
  | true =>
    cases sub x.c c with
    | false => rfl
    | true => exact fin0_S
-- what is named, applied
theorem K_tup {ds} : kTup ds m = .ok (.tup ds) m := (rfl)
theorem K_mk {c} : kMk c m = .ok (cellD c) m := (rfl)
theorem K_mkr {c} : kMkr c m = .ok (.ref m.length) (m ++ [c]) := (rfl)
theorem K_bin2 {o x y} : kBin2 o x y m = R.of (binD o x y) m := (rfl)
theorem K_bin1 {o b x} : kBin1 F C o b e x m = (evE F C b e m).bind (kBin2 o x) := (rfl)
theorem K_neg {i} : kNeg (.int i) m = .ok (.int (-i)) m := (rfl)
theorem K_cmp2 {o x y} : kCmp2 o x y m = R.of ((cmpD m o x y).map .bl) m := (rfl)
theorem K_cmp1 {o b x} : kCmp1 F C o b e x m = (evO F C b e m).bind (kCmp2 o x) := (rfl)
theorem K_not {x} : kNot x m = R.of ((truth m x).map nbl) m := (rfl)
theorem K_nbl {b} : nbl b = .bl (!b) := (rfl)
theorem K_and {b x} : kAnd F C b e x m = andK F C b e x m (truth m x) := (rfl)
theorem K_and_t {b x} : andK F C b e x m (some true) = evE F C b e m := (rfl)
theorem K_and_f {b x} : andK F C b e x m (some false) = .ok x m := (rfl)
theorem K_or {b x} : kOr F C b e x m = orK F C b e x m (truth m x) := (rfl)
theorem K_or_t {b x} : orK F C b e x m (some true) = .ok x m := (rfl)
theorem K_or_f {b x} : orK F C b e x m (some false) = evE F C b e m := (rfl)
theorem K_ite_t {a b} : kIte F C a b e true m = evE F C a e m := (rfl)
theorem K_ite_f {a b} : kIte F C a b e false m = evE F C b e m := (rfl)
theorem K_idx2 {x y} : kIdx2 x y m = R.of (idxD m x y) m := (rfl)
theorem K_idx1 {b x} : kIdx1 F C b e x m = (evE F C b e m).bind (kIdx2 x) := (rfl)
theorem K_sl3 {x l h} : kSl3 x l h m = R.of (slD l h x) m := (rfl)
theorem K_sl2 {hi x l} : kSl2 F C hi e x l m = (evEo F C hi e m).bind (kSl3 x l) := (rfl)
theorem K_sl1 {lo hi x} : kSl1 F C lo hi e x m = (evEo F C lo e m).bind (kSl2 F C hi e x) := (rfl)
theorem K_call {f ds} : kCall F f ds m = F f ds m := (rfl)
theorem K_callk {f perm ds} : kCallk F f perm ds m = callkO F f m (permD ds perm) := (rfl)
theorem K_callk_s {f ds} : callkO F f m (some ds) = F f (ds.map .dat) m := (rfl)
theorem K_app {l cs ds} : kApp F l cs ds m = F l (cs.map .dat ++ ds.map .dat) m := (rfl)
theorem K_app_s {es l cs} : appO F C es e m (some (l, cs)) = (evEs F C es e m).bind (kApp F l cs) := (rfl)
theorem K_isin {ts x} : kIsin ts x m = R.of ((isTy m x ts).map .bl) m := (rfl)
theorem K_bi {b ds} : kBi b ds m = R.of (biD m b ds) m := (rfl)
theorem K_meth2 {o x ds} : kMeth2 o x ds m = methO (meD m o x ds) := (rfl)
theorem K_meth_s {d : D} {m' : Mem} : methO (some (d, m')) = .ok d m' := (rfl)
theorem K_meth1 {o es x} : kMeth1 F C o es e x m = methB F C o es e x m (meOk m o x) := (rfl)
theorem K_meth_t {o es x} : methB F C o es e x m true = (evEs F C es e m).bind (kMeth2 o x) := (rfl)
theorem K_all {c} : kAll c m = R.of (allC c) m := (rfl)
theorem K_cons {α : Type} {x : α} {xs : List α} : kCons x xs m = .ok (x :: xs) m := (rfl)
theorem K_os {r x} : kOs F C r e x m = (evOs F C r e m).bind (kCons x) := (rfl)
theorem K_tval {x} : kTval x m = R.of (truth m x) m := (rfl)
theorem K_tcmp2 {o x y} : kTcmp2 o x y m = R.of (cmpD m o x y) m := (rfl)
theorem K_tcmp1 {o b x} : kTcmp1 F C o b e x m = (evO F C b e m).bind (kTcmp2 o x) := (rfl)
theorem K_tnot {b} : kTnot b m = .ok (!b) m := (rfl)
theorem K_tand_t {b} : kTand F C b e true m = evT F C b e m := (rfl)
theorem K_tand_f {b} : kTand F C b e false m = .ok false m := (rfl)
theorem K_tor_t {b} : kTor F C b e true m = .ok true m := (rfl)
theorem K_tor_f {b} : kTor F C b e false m = evT F C b e m := (rfl)
theorem K_es {r x} : kEs F C r e x m = (evEs F C r e m).bind (kCons x) := (rfl)
theorem K_as {r x} : kAs F C r e x m = (evAs F C r e m).bind (kCons (.dat x)) := (rfl)
theorem K_lam {l r cs} : lamO F C l r e m (some cs) = (evAs F C r e m).bind (kCons (.clo l cs)) := (rfl)
theorem K_pas {r l cs} : pasO F C r e m (some (l, cs)) = (evAs F C r e m).bind (kCons (.clo l cs)) := (rfl)
theorem K_eo {i} : kEo (.int i) m = .ok (some i) m := (rfl)
theorem K_disp {ds} : kDisp ds m = .ok (.lst ds) m := (rfl)
theorem K_copy {x} : kCopy x m = R.of (copyC m x) m := (rfl)
theorem K_comp {t c f vs ds g} : kComp F C t c f vs e (ds, g) m = compR g (kSet t vs e) (kTo F C c) (kE F C f) ds m := (rfl)
theorem K_cat2 {x y} : kCat2 x y m = R.of (catC m x y) m := (rfl)
theorem K_cat1 {b x} : kCat1 F C b e x m = (evO F C b e m).bind (kCat2 x) := (rfl)
theorem K_slc3 {x l h} : kSlc3 x l h m = R.of (sliceC m l h x) m := (rfl)
theorem K_slc2 {hi x l} : kSlc2 F C hi e x l m = (evEo F C hi e m).bind (kSlc3 x l) := (rfl)
theorem K_slc1 {lo hi x} : kSlc1 F C lo hi e x m = (evEo F C lo e m).bind (kSlc2 F C hi e x) := (rfl)
theorem K_dd {ks ds} : kDd ks ds m = R.of ((buildK ks ds []).map .dic) m := (rfl)
theorem K_dict {c} : kDict c m = R.of (dictC m c) m := (rfl)
theorem K_items {x} : kItems x m = R.of (itemsC m x) m := (rfl)
theorem K_it {x} : kIt x m = R.of (itS m x) m := (rfl)
theorem K_rng {x} : kRng x m = R.of (rngS x) m := (rfl)
theorem K_rng2b {x y} : kRng2b x y m = R.of (rngS2 x y) m := (rfl)
theorem K_rng2a {b x} : kRng2a F C b e x m = (evE F C b e m).bind (kRng2b x) := (rfl)
theorem K_enm {x} : kEnm x m = R.of (enmS m x) m := (rfl)
theorem K_zip2 {x y} : kZip2 x y m = R.of (zipS m x y) m := (rfl)
theorem K_zip1 {b x} : kZip1 F C b e x m = (evE F C b e m).bind (kZip2 x) := (rfl)
theorem K_then {r} : thenS F C sub r (.nx e m) = evSs F C sub r e m := (rfl)
theorem K_then_rt {r d} : thenS F C sub r (.rt d m) = .rt d m := (rfl)
theorem K_then_bk {r} : thenS F C sub r (.bk e m) = .bk e m := (rfl)
theorem K_then_ct {r} : thenS F C sub r (.ct e m) = .ct e m := (rfl)
theorem K_then_ex {r x} : thenS F C sub r (.ex x e m) = .ex x e m := (rfl)
theorem K_asg {t d} : kAsg t e d m = asgO m (setTg m e t d) := (rfl)
theorem K_asg_s : asgO m (some e) = .nx e m := (rfl)
theorem K_par2 {i j x y} : kPar2 i j e x y m = .nx ((e.set i (.val x)).set j (.val y)) m := (rfl)
theorem K_par1 {i j b x} : kPar1 F C i j b e x m = (evE F C b e m).st e (kPar2 i j e x) := (rfl)
theorem K_own {i c} : kOwn i e c m = .nx (e.set i (.own c)) m := (rfl)
theorem K_frz {i d} : frzO i e m (some d) = .nx (e.set i (.val d)) m := (rfl)
theorem K_exp {d} : kExp e d m = .nx e m := (rfl)
theorem K_yes {s : SR} : yesS s true = s := (rfl)
theorem K_oapp {i xs d} : kOapp i e xs d m = yesS (.nx (e.set i (.own (.lst (xs ++ [d])))) m) (decide (xs.length < lineMax)) := (rfl)
theorem K_oapp_s {i a xs} : oappO F C i a e m (some xs) = (evE F C a e m).st e (kOapp i e xs) := (rfl)
theorem K_oextL {i xs ys} : oextL i e xs m (some ys) = yesS (.nx (e.set i (.own (.lst (xs ++ ys)))) m) (decide (xs.length + ys.length ≤ lineMax)) := (rfl)
theorem K_oext {i xs c} : kOext i e xs c m = oextL i e xs m (lstC c) := (rfl)
theorem K_oext_s {i l xs} : oextO F C i l e m (some xs) = (evL F C l e m).st e (kOext i e xs) := (rfl)
theorem K_sr {m' : Mem} : srO e (some m') = .nx e m' := (rfl)
theorem K_sr3 {d x k} : kSr3 e d x k m = srO e (setrD m x k d) := (rfl)
theorem K_sr2 {k d x} : kSr2 F C k e d x m = (evE F C k e m).st e (kSr3 e d x) := (rfl)
theorem K_sr1 {a k d} : kSr1 F C a k e d m = (evE F C a e m).st e (kSr2 F C k e d) := (rfl)
theorem K_if_t {a b} : kIf F C sub a b e true m = evSs F C sub a e m := (rfl)
theorem K_if_f {a b} : kIf F C sub a b e false m = evSs F C sub b e m := (rfl)
theorem K_for {t b ds g} : kFor F C sub t b e (ds, g) m = forL g (kTg t) (kSs F C sub b) ds e m := (rfl)
theorem K_ret {d} : kRet d m = .rt d m := (rfl)
theorem K_raise {c fs ds} : kRaise e c fs ds m = yesS (.ex ⟨c, fs.zip ds⟩ e m) (decide (fs.length = ds.length)) := (rfl)
theorem K_try_nx {hs} : tryS F C sub hs (.nx e m) = .nx e m := (rfl)
theorem K_try_rt {hs d} : tryS F C sub hs (.rt d m) = .rt d m := (rfl)
theorem K_try_ex {hs x} : tryS F C sub hs (.ex x e m) = evHs F C sub hs x e m := (rfl)
theorem K_fin_nx {i} : finS i (.nx e m) = .nx ((noExc e).set i .no) m := (rfl)
theorem K_fin_rt {i d} : finS i (.rt d m) = .rt d m := (rfl)
theorem K_fin0_nx : fin0S (.nx e m) = .nx e m := (rfl)
theorem K_fin0_rt {d} : fin0S (.rt d m) = .rt d m := (rfl)
theorem K_hs_t {i b r x} : hsBB F C sub i b r x e m true true = finS i (evSs F C sub b (e.set i (.exc x)) m) := (rfl)
theorem K_hs_f {i b r x} : hsBB F C sub i b r x e m true false = evHs F C sub r x e m := (rfl)
theorem K_hs0_t {b r x} : hsB0 F C sub b r x e m true true = fin0S (evSs F C sub b e m) := (rfl)
theorem K_hs0_f {b r x} : hsB0 F C sub b r x e m true false = evHs F C sub r x e m := (rfl)
-- stores into shared objects
theorem sr_ref {r k d} : setrD m (.ref r) k d = (m[r]?).bind (setrC m r k d) := (rfl)
theorem sr_l {r d i xs} : setrC m r (.int i) d (.lst xs) = (ixOf xs.length i).map fun j => m.set r (.lst (xs.set j d)) := (rfl)
theorem noExc_nil : noExc [] = [] := (rfl)
def noX : Slot → Slot
  | .exc _ => .no
  | s => s
theorem noExc_cons {s : Slot} {e : Env} : noExc (s :: e) = noX s :: noExc e := by
  unfold noExc
  rw [List.map_cons]
  cases s <;> rfl
theorem noX_v {d} : noX (.val d) = .val d := (rfl)
theorem noX_n : noX .no = .no := (rfl)
theorem noX_x {x} : noX (.exc x) = .no := (rfl)
theorem noX_c {l cs} : noX (.clo l cs) = .clo l cs := (rfl)
theorem noX_o {c} : noX (.own c) = .own c := (rfl)
end
end Ev
/-! Pl1: draws -/
namespace Ev
open PySem Fs
local macro_rules | `(tactic| exists $es,*) => `(tactic| simp only [e_var, e_con, e_glo, e_attr, o_ex, o_peek, os_nil, to_no, to_ex, es_nil, as_nil, eo_no, ss_nil, st_retn, st_pass, st_brk, st_cnt, hs_nil, tg_nm, tg_tp, sa_nil, sa_cons, R.bnd_ok, R.bind_ex, R.st_ok, R.st_ex, R.of_some, SR.out_nx, SR.out_rt, SR.out_ex, getV_0, getV_s, getE_0, getE_s, set_0, set_s, args_0, args_1, args_2, args_3, args_4, args_5, slot_d, slot_c, rep_0, rep_s, cellD_l, cellD_d, cloS_c, excS_x, ownS_o, ownL_l, lstC_l, getAll_nil, getAll_cons, consO_s, intO_i, E_tup, E_mk, E_mkr, E_bin, E_neg, E_cmp, E_not, E_and, E_or, E_ite, E_idx, E_sl, E_call, E_callk, E_app, E_isin, E_bi, E_meth, E_all, Os_cons, T_val, T_cmp, T_not, T_and, T_or, Es_cons, As_dat, As_lam, As_pas, Eo_ex, L_disp, L_copy, L_comp, L_cat, L_slice, L_ddisp, L_dict, L_litems, S_it, S_rng, S_rng2, S_enm, S_zip, Ss_cons, St_asg, St_par, St_own, St_frz, St_exp, St_oapp, St_oext, St_setr, St_ife, St_for, St_whl, St_ret, St_raise, St_try, Hs_some, Hs_none, K_tup, K_mk, K_mkr, K_bin2, K_bin1, K_neg, K_cmp2, K_cmp1, K_not, K_nbl, K_and, K_and_t, K_and_f, K_or, K_or_t, K_or_f, K_ite_t, K_ite_f, K_idx2, K_idx1, K_sl3, K_sl2, K_sl1, K_call, K_callk, K_callk_s, K_app, K_app_s, K_isin, K_bi, K_meth2, K_meth_s, K_meth1, K_meth_t, K_all, K_cons, K_os, K_tval, K_tcmp2, K_tcmp1, K_tnot, K_tand_t, K_tand_f, K_tor_t, K_tor_f, K_es, K_as, K_lam, K_pas, K_eo, K_disp, K_copy, K_comp, K_cat2, K_cat1, K_slc3, K_slc2, K_slc1, K_dd, K_dict, K_items, K_it, K_rng, K_rng2b, K_rng2a, K_enm, K_zip2, K_zip1, K_then, K_then_rt, K_then_bk, K_then_ct, K_then_ex, K_asg, K_asg_s, K_par2, K_par1, K_own, K_frz, K_exp, K_yes, K_oapp, K_oapp_s, K_oextL, K_oext, K_oext_s, K_sr, K_sr3, K_sr2, K_sr1, K_if_t, K_if_f, K_for, K_ret, K_raise, K_try_nx, K_try_rt, K_try_ex, K_fin_nx, K_fin_rt, K_fin0_nx, K_fin0_rt, K_hs_t, K_hs_f, K_hs0_t, K_hs0_f, sr_ref, sr_l, noExc_nil, noExc_cons, noX_v, noX_n, noX_x, noX_c, noX_o, gd_t, forL_congr, whileL_congr, compR_congr, compL_congr, b_add, b_sub, b_mul, b_mod, b_div, b_pow, b_cats, b_catl, b_catt, lstAt_l, lstAt_d, dicAt_l, dicAt_d, q_ref, q_tup, q_lst, q_non, q_bl, q_int, q_str, q_dic, c_ref, c_dic, c_tup, c_lst, c_str, c_int, r_ref, r_non, r_bl, r_int, r_str, r_tup, r_lst, y_ref, y_non, y_bl, y_int, y_str, y_tup, y_lst, y_dic, tyAt_l, tyAt_d, anyTy_0, anyTy_s, x_tup, x_lst, x_ref, idxAt_l, idxAt_d, x_cdic, x_dic, x_str, k_int, k_str, v_eq, v_ne, v_lt, v_le, v_gt, v_ge, v_in, v_nin, v_is, v_isn, eq_ii, non_non, non_bl, non_int, non_str, non_tup, non_lst, non_ref, non_dic, in_tup, in_cdic, f_ss, bi_lens, bi_lent, bi_lenl, bi_lenr, lenAt_l, bi_max, bi_min, bi_int, bi_intb, bi_tup, ix_0, ix_1, ix_2, ix_3, ix_4, nth_0, nth_s, nset_0, nset_s, me_ok_pop, me_ok_app, me_ok_cnt, me_ok_cntl, me_ok_get, me_pop, pop_0, me_app, Int.cast_ofNat_Int, Int.natCast_zero, Int.natCast_one, reduceCtorEq, Option.bind_some, Option.map_some, Option.bind_none, Option.map_none, List.map_nil, List.map_cons, List.length_cons, List.length_nil, Int.reduceLT, Int.reduceLE, Int.reduceEq, Int.reduceNe, Int.reduceNeg, Int.reducePow, Int.reduceToNat, Int.reduceAdd, Int.reduceSub, Int.reduceMul, Nat.reduceLT, Nat.reduceLeDiff, Nat.reduceAdd, Nat.reduceSub, Nat.reduceEqDiff, Nat.reduceBEq, Nat.reducePow, and_self, true_and, and_true, Bool.false_eq_true, if_true, if_false, Option.isSome_some, Option.isSome_none, Bool.not_true, Bool.not_false, List.any_nil, List.any_cons, List.all_nil, List.all_cons, Bool.or_true, Bool.true_or, Bool.or_false, Bool.false_or, Bool.and_true, Bool.true_and, Bool.false_and, Bool.and_false, decide_true, decide_false, List.nil_append, List.cons_append, List.append_nil, $[$es:term],*])

/-- the spring of draws: it stands at the numbers 0 and 1 -/
structure Sp0 where
  cells : List Int
  a : Int
  b : Int
  c : Int
def Sp0.mem (s : Sp0) (r : Mem) : Mem := .lst (s.cells.map .int) :: .lst [.ref 0, .int s.a, .int s.b, .int s.c] :: r
structure Sp0.Ok (s : Sp0) : Prop where
  a0 : 0 ≤ s.a
  b0 : 0 ≤ s.b
  bt : s.b < 1000000000000
  c0 : 0 ≤ s.c
  ct : s.c < 2147483647
  l : s.cells.length ≤ 63
/-- a later state of it: at most n draws more -/
structure Sp0.To (s : Sp0) (n : Int) (s' : Sp0) : Prop where
  a0 : 0 ≤ s'.a
  b0 : s.b ≤ s'.b
  bt : s'.b ≤ s.b + n
  c0 : 0 ≤ s'.c
  ct : s'.c < 2147483647
  l : s'.cells.length ≤ 63
theorem Sp0.mem_0 {s : Sp0} {r : Mem} : (s.mem r)[0]? = some (.lst (s.cells.map .int)) := rfl
theorem Sp0.mem_1 {s : Sp0} {r : Mem} : (s.mem r)[1]? = some (.lst [.ref 0, .int s.a, .int s.b, .int s.c]) := rfl
theorem Sp0.mem_s {s : Sp0} {r : Mem} {i : Nat} : (s.mem r)[i + 2]? = r[i]? := rfl
theorem Sp0.set_0 {s : Sp0} {r : Mem} {cs : List Int} : (s.mem r).set 0 (.lst (cs.map .int)) = Sp0.mem ⟨cs, s.a, s.b, s.c⟩ r := rfl
theorem Sp0.set_1 {s : Sp0} {r : Mem} {a b c : Int} : (s.mem r).set 1 (.lst [.ref 0, .int a, .int b, .int c]) = Sp0.mem ⟨s.cells, a, b, c⟩ r := rfl
theorem pyL_ints {ρ : Nat → Option PyData} : ∀ ns : List Int, pyL ρ (ns.map .int) = some (ns.map .int)
  | [] => rfl
  | n :: ns => by
    show (match D.py ρ (.int n), pyL ρ (ns.map .int) with | some p, some q => some (p :: q) | _, _ => none) = _
    rw [pyL_ints ns]
    rfl
theorem shaped_ints (ns : List Int) : SeqAt.shaped (.list (ns.map PyData.int)) = true := by
  have h1 : ∀ ns : List Int, PyData.canLayAll0 (ns.map PyData.int) = true := fun ns => by
    induction ns with
    | nil => rfl
    | cons n ns ih => simp only [List.map_cons, PyData.canLayAll0, PyData.canLay0, ih, Bool.and_self]
  have h2 : ∀ ns : List Int, PyData.depthAll (ns.map PyData.int) = 0 := fun ns => by
    induction ns with
    | nil => rfl
    | cons n ns ih => simp only [List.map_cons, PyData.depthAll, PyData.depth, ih, Nat.max_self]
  simp only [SeqAt.shaped, PyData.canLay0, PyData.depth, h1, h2]
  rfl
theorem eq_nil {m : Mem} {r : Nat} {ns : List Int} (h : m[r]? = some (.lst (ns.map .int))) : eqD m (.ref r) (.lst []) = some ns.isEmpty := by
  have e1 : pyOf m (.ref r) = some (.list (ns.map .int)) := by
    show (m[r]?).bind (Cell.py (rho 8 m)) = _
    rw [h]
    show (pyL (rho 8 m) (ns.map .int)).map PyData.list = _
    rw [pyL_ints]
    rfl
  have e2 : pyOf m (.lst []) = some (.list []) := rfl
  unfold eqD
  rw [e1, e2]
  have e3 : SeqAt.shaped (.list []) = true := by simp [SeqAt.shaped, PyData.canLay0, PyData.depth, PyData.canLayAll0, PyData.depthAll]
  simp only [eqOk, shaped_ints, e3, Bool.and_self, if_true]
  cases ns with
  | nil => rfl
  | cons n ns => rfl
theorem mul_ok_l {i j : Int} (h0 : 0 ≤ i) (h : i < 18446744073709551616) : mulOk i j = true := by
  unfold mulOk
  rw [decide_eq_true (by omega : i.natAbs < 2 ^ 64)]
  rfl
theorem mul_ok_r {i j : Int} (h0 : 0 ≤ j) (h : j < 18446744073709551616) : mulOk i j = true := by
  unfold mulOk
  rw [decide_eq_true (by omega : j.natAbs < 2 ^ 64), Bool.or_true]
/-- reckoning that always goes through -/
theorem gd_iff {α : Type} {b : Bool} {x : α} (h : b = true) : gd b x = some x := by rw [h]; rfl
section
variable {F : Nat → List Arg → Mem → R D} {C : Nat → Option D} {sub : Nat → Nat → Bool}
theorem below_loop (s : Sp0) (r : Mem) (x y : Slot) : ∀ (n : Nat) (cells : List Int) (a c : Int) (z : Slot), cells.length < n → 0 ≤ a → 0 ≤ c → c < 2147483647 →
    ∃ (cells' : List Int) (a' c' : Int) (z' : Slot), whileL (kT F C f1w1c) (kSs F C sub f1w1b) n [.val (.ref 1), y, z, .no, .no] (Sp0.mem ⟨cells, a, s.b, c⟩ r) = .nx [.val (.ref 1), y, z', .no, .no] (Sp0.mem ⟨cells', a', s.b, c'⟩ r) ∧
      cells'.length ≤ cells.length ∧ 0 ≤ a' ∧ 0 ≤ c' ∧ c' < 2147483647
  | 0, _, _, _, _, h, _, _, _ => by omega
  | n + 1, cells, a, c, z, h, ha, hc, hc2 => by
    have test : kT F C f1w1c [.val (.ref 1), y, z, .no, .no] (Sp0.mem ⟨cells, a, s.b, c⟩ r) = .ok (decide (a = 0) && !cells.isEmpty) (Sp0.mem ⟨cells, a, s.b, c⟩ r) := by
      show evT F C f1w1c _ _ = _
      exists f1w1c, Sp0.mem_1, eq_nil Sp0.mem_0
      by_cases h : a = 0
      · exists h, decide_true, Sp0.mem_1, eq_nil Sp0.mem_0
      · exists h, decide_false
    unfold whileL
    rw [test]
    simp only [R.st_ok]
    cases hcs : (decide (a = 0) && !cells.isEmpty) with
    | false => exact ⟨cells, a, c, z, rfl, Nat.le_refl _, ha, hc, hc2⟩
    | true =>
      cases cells with
      | nil => simp at hcs
      | cons cell cells =>
        have body : ∃ a' c', kSs F C sub f1w1b [.val (.ref 1), y, z, .no, .no] (Sp0.mem ⟨cell :: cells, a, s.b, c⟩ r) = .nx [.val (.ref 1), y, .val (.int cell), .no, .no] (Sp0.mem ⟨cells, a', s.b, c'⟩ r) ∧ 0 ≤ a' ∧ 0 ≤ c' ∧ c' < 2147483647 := by
          refine ⟨if 1000000000000000000 ≤ cell then cell else 0, (c * 69031 + cell + 13) % 2147483647, ?_, ?_, Int.emod_nonneg _ (by decide), Int.emod_lt_of_pos _ (by decide)⟩
          · show evSs F C sub f1w1b _ _ = _
            exists f1w1b, Sp0.mem_1, Sp0.mem_0, Sp0.set_0, Sp0.set_1, mul_ok_l hc (by omega : c < 18446744073709551616)
            by_cases h18 : (1000000000000000000 : Int) ≤ cell
            · exists h18, Sp0.mem_1, Sp0.set_1
            · exists h18, Sp0.mem_1, Sp0.set_1
          · split
            · omega
            · exact Int.le_refl _
        obtain ⟨a', c', e, h1, h2, h3⟩ := body
        rw [e]
        simp only [if_true]
        obtain ⟨cells', a2, c2, z2, e2, g1, g2, g3, g4⟩ := below_loop s r x y n cells a' c' (.val (.int cell)) (by simp at h; omega) h1 h2 h3
        exact ⟨cells', a2, c2, z2, e2, by simp; omega, g2, g3, g4⟩
end
theorem below {T : Txt} (h1 : T.fns 1 = some f1) {k : Nat} {s : Sp0} (ok : s.Ok) {n : Int} {r : Mem} (hn : 0 < n) (hn2 : n < 1000000000) :
    ∃ v s', evF T (k + 1) 1 [.dat (.ref 1), .dat (.int n)] (s.mem r) = .ok (.int v) (s'.mem r) ∧ 0 ≤ v ∧ v < n ∧ s.To 1 s' := by
  obtain ⟨cells, a, b, c⟩ := s
  obtain ⟨a0, b0, bt, c0, ct, l⟩ := ok
  simp only at a0 b0 bt c0 ct l
  rw [evF_to h1 rfl]
  exists f1, Sp0.mem_1, Sp0.set_1
  obtain ⟨cells', a', c', z', e, g1, g2, g3, g4⟩ := below_loop (F := evF T k) (C := T.con) (sub := T.sub) ⟨cells, a, b + 1, c⟩ r .no (.val (.int n)) 100 cells a c .no (by omega) a0 c0 ct
  simp only at e g1
  rw [e]
  by_cases ha : 0 < a'
  · have hd : (0 : Int) < n ∧ n < 1073741824 := ⟨hn, by omega⟩
    exists Sp0.mem_1, Sp0.set_1, ha, hn, hd
    refine ⟨_, _, rfl, Int.emod_nonneg _ (by omega), Int.emod_lt_of_pos _ hn, ⟨?_, ?_, ?_, g3, g4, by simp only; omega⟩⟩
    · exact Int.ediv_nonneg g2 (by omega)
    · simp only; omega
    · simp only; omega
  · have k1 : mulOk 9049 (b + 1) = true := mul_ok_l (by decide) (by decide)
    have k2 : -18446744073709551616 < c' + 9049 * (b + 1) + 130073 := by omega
    have k3 : c' + 9049 * (b + 1) + 130073 < 18446744073709551616 := by omega
    exists Sp0.mem_1, Sp0.set_1, ha, hn, k1, k2, k3
    have h1 : 0 ≤ (c' + 9049 * (b + 1) + 130073) ^ 5 % 2147483629 := Int.emod_nonneg _ (by decide)
    have h2 : (c' + 9049 * (b + 1) + 130073) ^ 5 % 2147483629 < 2147483629 := Int.emod_lt_of_pos _ (by decide)
    generalize (c' + 9049 * (b + 1) + 130073) ^ 5 % 2147483629 = mixed at *
    have k4 : mulOk mixed 44089 = true := mul_ok_r (by decide) (by decide)
    have k5 : mulOk 60077 (b + 1) = true := mul_ok_l (by decide) (by decide)
    have k6 : -18446744073709551616 < mixed * 44089 + 60077 * (b + 1) + 47 := by omega
    have k7 : mixed * 44089 + 60077 * (b + 1) + 47 < 18446744073709551616 := by omega
    exists Sp0.mem_1, Sp0.set_1, hn, k4, k5, k6, k7
    refine ⟨_, _, rfl, Int.emod_nonneg _ (by omega), Int.emod_lt_of_pos _ hn, ⟨g2, ?_, ?_, g3, g4, by simp only; omega⟩⟩
    · simp only; omega
    · simp only; omega
end Ev
/-! Pl2: the laws' helpers: chance, pick, mixed, loose, same -/
namespace Ev
open PySem Fs
local macro_rules | `(tactic| exists $es,*) => `(tactic| simp only [e_var, e_con, e_glo, e_attr, o_ex, o_peek, os_nil, to_no, to_ex, es_nil, as_nil, eo_no, ss_nil, st_retn, st_pass, st_brk, st_cnt, hs_nil, tg_nm, tg_tp, sa_nil, sa_cons, R.bnd_ok, R.bind_ex, R.st_ok, R.st_ex, R.of_some, SR.out_nx, SR.out_rt, SR.out_ex, getV_0, getV_s, getE_0, getE_s, set_0, set_s, args_0, args_1, args_2, args_3, args_4, args_5, slot_d, slot_c, rep_0, rep_s, cellD_l, cellD_d, cloS_c, excS_x, ownS_o, ownL_l, lstC_l, getAll_nil, getAll_cons, consO_s, intO_i, E_tup, E_mk, E_mkr, E_bin, E_neg, E_cmp, E_not, E_and, E_or, E_ite, E_idx, E_sl, E_call, E_callk, E_app, E_isin, E_bi, E_meth, E_all, Os_cons, T_val, T_cmp, T_not, T_and, T_or, Es_cons, As_dat, As_lam, As_pas, Eo_ex, L_disp, L_copy, L_comp, L_cat, L_slice, L_ddisp, L_dict, L_litems, S_it, S_rng, S_rng2, S_enm, S_zip, Ss_cons, St_asg, St_par, St_own, St_frz, St_exp, St_oapp, St_oext, St_setr, St_ife, St_for, St_whl, St_ret, St_raise, St_try, Hs_some, Hs_none, K_tup, K_mk, K_mkr, K_bin2, K_bin1, K_neg, K_cmp2, K_cmp1, K_not, K_nbl, K_and, K_and_t, K_and_f, K_or, K_or_t, K_or_f, K_ite_t, K_ite_f, K_idx2, K_idx1, K_sl3, K_sl2, K_sl1, K_call, K_callk, K_callk_s, K_app, K_app_s, K_isin, K_bi, K_meth2, K_meth_s, K_meth1, K_meth_t, K_all, K_cons, K_os, K_tval, K_tcmp2, K_tcmp1, K_tnot, K_tand_t, K_tand_f, K_tor_t, K_tor_f, K_es, K_as, K_lam, K_pas, K_eo, K_disp, K_copy, K_comp, K_cat2, K_cat1, K_slc3, K_slc2, K_slc1, K_dd, K_dict, K_items, K_it, K_rng, K_rng2b, K_rng2a, K_enm, K_zip2, K_zip1, K_then, K_then_rt, K_then_bk, K_then_ct, K_then_ex, K_asg, K_asg_s, K_par2, K_par1, K_own, K_frz, K_exp, K_yes, K_oapp, K_oapp_s, K_oextL, K_oext, K_oext_s, K_sr, K_sr3, K_sr2, K_sr1, K_if_t, K_if_f, K_for, K_ret, K_raise, K_try_nx, K_try_rt, K_try_ex, K_fin_nx, K_fin_rt, K_fin0_nx, K_fin0_rt, K_hs_t, K_hs_f, K_hs0_t, K_hs0_f, sr_ref, sr_l, noExc_nil, noExc_cons, noX_v, noX_n, noX_x, noX_c, noX_o, gd_t, forL_congr, whileL_congr, compR_congr, compL_congr, b_add, b_sub, b_mul, b_mod, b_div, b_pow, b_cats, b_catl, b_catt, lstAt_l, lstAt_d, dicAt_l, dicAt_d, q_ref, q_tup, q_lst, q_non, q_bl, q_int, q_str, q_dic, c_ref, c_dic, c_tup, c_lst, c_str, c_int, r_ref, r_non, r_bl, r_int, r_str, r_tup, r_lst, y_ref, y_non, y_bl, y_int, y_str, y_tup, y_lst, y_dic, tyAt_l, tyAt_d, anyTy_0, anyTy_s, x_tup, x_lst, x_ref, idxAt_l, idxAt_d, x_cdic, x_dic, x_str, k_int, k_str, v_eq, v_ne, v_lt, v_le, v_gt, v_ge, v_in, v_nin, v_is, v_isn, eq_ii, non_non, non_bl, non_int, non_str, non_tup, non_lst, non_ref, non_dic, in_tup, in_cdic, f_ss, bi_lens, bi_lent, bi_lenl, bi_lenr, lenAt_l, bi_max, bi_min, bi_int, bi_intb, bi_tup, ix_0, ix_1, ix_2, ix_3, ix_4, nth_0, nth_s, nset_0, nset_s, me_ok_pop, me_ok_app, me_ok_cnt, me_ok_cntl, me_ok_get, me_pop, pop_0, me_app, Int.cast_ofNat_Int, Int.natCast_zero, Int.natCast_one, reduceCtorEq, Option.bind_some, Option.map_some, Option.bind_none, Option.map_none, List.map_nil, List.map_cons, List.length_cons, List.length_nil, Int.reduceLT, Int.reduceLE, Int.reduceEq, Int.reduceNe, Int.reduceNeg, Int.reducePow, Int.reduceToNat, Int.reduceAdd, Int.reduceSub, Int.reduceMul, Nat.reduceLT, Nat.reduceLeDiff, Nat.reduceAdd, Nat.reduceSub, Nat.reduceEqDiff, Nat.reduceBEq, Nat.reducePow, and_self, true_and, and_true, Bool.false_eq_true, if_true, if_false, Option.isSome_some, Option.isSome_none, Bool.not_true, Bool.not_false, List.any_nil, List.any_cons, List.all_nil, List.all_cons, Bool.or_true, Bool.true_or, Bool.or_false, Bool.false_or, Bool.and_true, Bool.true_and, Bool.false_and, Bool.and_false, decide_true, decide_false, List.nil_append, List.cons_append, List.append_nil, $[$es:term],*])

/-- the spring behind at most B draws -/
structure Sp0.At (s : Sp0) (B : Nat) : Prop where
  a0 : 0 ≤ s.a
  b0 : 0 ≤ s.b
  bt : s.b ≤ B
  c0 : 0 ≤ s.c
  ct : s.c < 2147483647
  l : s.cells.length ≤ 63
theorem Sp0.At.mono {s : Sp0} {B B' : Nat} (h : s.At B) (l : B ≤ B') : s.At B' := ⟨h.a0, h.b0, by have := h.bt; omega, h.c0, h.ct, h.l⟩
def Far (B : Nat) : Prop := B < 100000000000
/-- lists side by side -/
def All2 {α β : Type} (P : α → β → Prop) : List α → List β → Prop
  | [], [] => True
  | a :: as, b :: bs => P a b ∧ All2 P as bs
  | _, _ => False
/-! ### comprehensions and loops -/
section
variable {g : Guards} {set : Mem → D → Option Env} {c : Env → Mem → R Bool} {f : Env → Mem → R D} {m : Mem}
theorem compL_all {I : List D → Mem → Prop} {P : D → D → Prop} (step : ∀ d r m, I (d :: r) m → ∃ e x m1, guardOk m g = true ∧ set m d = some e ∧ c e m = .ok true m ∧ f e m = .ok x m1 ∧ P d x ∧ I r m1) (last : ∀ m, I [] m → guardOk m g = true) :
    ∀ ds m, I ds m → ∃ xs m1, compL g set c f ds m = .ok xs m1 ∧ All2 P ds xs ∧ I [] m1
  | [], m, h => ⟨[], m, by unfold compL; rw [if_pos (last m h)], trivial, h⟩
  | d :: r, m, h => by
    obtain ⟨e, x, m1, hg, hs, hc, hf, hp, hi⟩ := step d r m h
    obtain ⟨xs, m2, h1, h2, h3⟩ := compL_all step last r m1 hi
    refine ⟨x :: xs, m2, ?_, ⟨hp, h2⟩, h3⟩
    rw [compL, if_pos hg, hs]
    simp only [hc, hf, if_true, h1]
/-- .. of which each turn is the same for the memory -/
theorem compL_map {h : D → D} (hg : guardOk m g = true) : ∀ ds : List D, (∀ d ∈ ds, ∃ e, set m d = some e ∧ c e m = .ok true m ∧ f e m = .ok (h d) m) → compL g set c f ds m = .ok (ds.map h) m
  | [], _ => by unfold compL; rw [if_pos hg]; rfl
  | d :: r, k => by
    obtain ⟨e, hs, hc, hf⟩ := k d List.mem_cons_self
    rw [compL, if_pos hg, hs]
    simp only [hc, hf, if_true, compL_map hg r fun d hd => k d (List.mem_cons_of_mem _ hd), List.map_cons]
/-- .. with a condition -/
theorem compL_filter {p : D → Bool} {h : D → D} (hg : guardOk m g = true) : ∀ ds : List D, (∀ d ∈ ds, ∃ e, set m d = some e ∧ c e m = .ok (p d) m ∧ (p d = true → f e m = .ok (h d) m)) → compL g set c f ds m = .ok ((ds.filter p).map h) m
  | [], _ => by unfold compL; rw [if_pos hg]; rfl
  | d :: r, k => by
    obtain ⟨e, hs, hc, hf⟩ := k d List.mem_cons_self
    have ih := compL_filter (p := p) (h := h) hg r fun d hd => k d (List.mem_cons_of_mem _ hd)
    rw [compL, if_pos hg, hs]
    simp only [hc]
    cases hp : p d with
    | true => simp only [hf hp, if_true, ih, List.filter_cons, hp, List.map_cons]
    | false => simp only [Bool.false_eq_true, if_false, ih, List.filter_cons, hp]
theorem compR_ok {ds : List D} {xs : List D} {m' : Mem} (hl : ds.length ≤ lineMax) (h : compL g set c f ds m = .ok xs m') : compR g set c f ds m = .ok (.lst xs) m' := by
  unfold compR
  rw [if_pos hl, h]
  rfl
theorem comp_go {d x : D} {r xs : List D} {e : Env} {m1 m2 m3 : Mem} (hg : guardOk m g = true) (hs : set m d = some e) (hc : c e m = .ok true m1) (hf : f e m1 = .ok x m2) (h2 : compL g set c f r m2 = .ok xs m3) : compL g set c f (d :: r) m = .ok (x :: xs) m3 := by
  rw [compL, if_pos hg, hs]
  simp only [hc, hf, h2, if_true]
theorem comp_skip {d : D} {r xs : List D} {e : Env} {m1 m3 : Mem} (hg : guardOk m g = true) (hs : set m d = some e) (hc : c e m = .ok false m1) (h2 : compL g set c f r m1 = .ok xs m3) : compL g set c f (d :: r) m = .ok xs m3 := by
  rw [compL, if_pos hg, hs]
  simp only [hc, h2, Bool.false_eq_true, if_false]
theorem comp_end (hg : guardOk m g = true) : compL g set c f [] m = .ok [] m := by rw [compL, if_pos hg]
theorem comp_step {F : Nat → List Arg → Mem → R D} {C : Nat → Option D} {i : Nat} {vs : List Nat} {e : Env} {f : E} {x y : D} {xs ys : List D} {m m1 m2 : Mem} {g : Guards} (h1 : evE F C f ((wipeE e vs).set i (.val x)) m = .ok y m1)
    (h2 : compL g (kSet (.nm i) vs e) (kTo F C .no) (kE F C f) xs m1 = .ok ys m2) (hg : guardOk m g = true := by rfl) : compL g (kSet (.nm i) vs e) (kTo F C .no) (kE F C f) (x :: xs) m = .ok (y :: ys) m2 :=
  comp_go hg rfl to_no h1 h2
theorem guard_self (x : D) : guardOk m (guardOf m x) = true := by
  cases x with
  | ref i =>
    show guardOk m (match m[i]? with | some c => [(i, c)] | none => []) = true
    cases hc : m[i]? with
    | none => rfl
    | some c =>
      show ((match m[i]? with | some c' => Cell.beq c c' | none => false) && guardOk m []) = true
      rw [hc]
      simp [Cell.beq_self, guardOk]
  | _ => rfl
theorem guard_apd {g h : Guards} (h1 : guardOk m g = true) (h2 : guardOk m h = true) : guardOk m (g ++ h) = true := by
  induction g with
  | nil => exact h2
  | cons p g ih =>
    obtain ⟨i, c⟩ := p
    simp only [List.cons_append, guardOk, Bool.and_eq_true] at h1 ⊢
    exact ⟨h1.1, ih h1.2⟩
end
section
variable {g : Guards} {set : Mem → Env → D → Option Env} {f : Env → Mem → SR}
/-- a loop that goes on to its end, or tells -/
theorem forL_all {I : List D → Env → Mem → Prop} {Q : D → Mem → Prop} (step : ∀ d r e m, I (d :: r) e m → guardOk m g = true ∧ ∃ e1, set m e d = some e1 ∧ ((∃ e2 m2, f e1 m = .nx e2 m2 ∧ I r e2 m2) ∨ ∃ v m2, f e1 m = .rt v m2 ∧ Q v m2)) (last : ∀ e m, I [] e m → guardOk m g = true) :
    ∀ ds e m, I ds e m → (∃ e2 m2, forL g set f ds e m = .nx e2 m2 ∧ I [] e2 m2) ∨ ∃ v m2, forL g set f ds e m = .rt v m2 ∧ Q v m2
  | [], e, m, h => .inl ⟨e, m, by unfold forL; rw [if_pos (last e m h)], h⟩
  | d :: r, e, m, h => by
    obtain ⟨hg, e1, hs, hh⟩ := step d r e m h
    rcases hh with ⟨e2, m2, h1, h2⟩ | ⟨v, m2, h1, h2⟩
    · rcases forL_all step last r e2 m2 h2 with ⟨e3, m3, k1, k2⟩ | ⟨v, m3, k1, k2⟩
      · exact .inl ⟨e3, m3, by rw [forL, if_pos hg, hs]; simp only [h1, k1], k2⟩
      · exact .inr ⟨v, m3, by rw [forL, if_pos hg, hs]; simp only [h1, k1], k2⟩
    · exact .inr ⟨v, m2, by rw [forL, if_pos hg, hs]; simp only [h1], h2⟩
theorem forL_go {d : D} {r : List D} {e e1 e2 : Env} {m m2 : Mem} (hg : guardOk m g = true) (hs : set m e d = some e1) (hf : f e1 m = .nx e2 m2) : forL g set f (d :: r) e m = forL g set f r e2 m2 := by
  rw [forL, if_pos hg, hs]
  simp only [hf]
theorem forL_rt {d v : D} {r : List D} {e e1 : Env} {m m2 : Mem} (hg : guardOk m g = true) (hs : set m e d = some e1) (hf : f e1 m = .rt v m2) : forL g set f (d :: r) e m = .rt v m2 := by
  rw [forL, if_pos hg, hs]
  simp only [hf]
theorem forL_ex {d : D} {r : List D} {e e1 e2 : Env} {m m2 : Mem} {x : Ex} (hg : guardOk m g = true) (hs : set m e d = some e1) (hf : f e1 m = .ex x e2 m2) : forL g set f (d :: r) e m = .ex x e2 m2 := by
  rw [forL, if_pos hg, hs]
  simp only [hf]
theorem forL_end {e : Env} {m : Mem} (hg : guardOk m g = true) : forL g set f [] e m = .nx e m := by rw [forL, if_pos hg]
theorem forL_same {I : Env → Prop} {m : Mem} (hg : guardOk m g = true) : ∀ ds : List D, (∀ x ∈ ds, ∀ e, I e → ∃ e1 e2, set m e x = some e1 ∧ f e1 m = .nx e2 m ∧ I e2) → ∀ e, I e → ∃ e2, forL g set f ds e m = .nx e2 m ∧ I e2
  | [], _, e, h => ⟨e, by unfold forL; rw [if_pos hg], h⟩
  | d :: r, step, e, h => by
    obtain ⟨e1, e2, h1, h2, h3⟩ := step d List.mem_cons_self e h
    obtain ⟨e3, h4, h5⟩ := forL_same hg r (fun x hx => step x (List.mem_cons_of_mem _ hx)) e2 h3
    exact ⟨e3, by rw [forL, if_pos hg, h1]; simp only [h2, h4], h5⟩
theorem forL_nx {I : List D → Env → Mem → Prop} (step : ∀ d r e m, I (d :: r) e m → guardOk m g = true ∧ ∃ e1 e2 m2, set m e d = some e1 ∧ f e1 m = .nx e2 m2 ∧ I r e2 m2) (last : ∀ e m, I [] e m → guardOk m g = true) :
    ∀ ds e m, I ds e m → ∃ e2 m2, forL g set f ds e m = .nx e2 m2 ∧ I [] e2 m2 := fun ds e m h => by
  rcases forL_all (I := I) (Q := fun _ _ => False) (fun d r e m h => by obtain ⟨h1, e1, e2, m2, h2, h3, h4⟩ := step d r e m h; exact ⟨h1, e1, h2, .inl ⟨e2, m2, h3, h4⟩⟩) last ds e m h with h | ⟨_, _, _, h⟩
  · exact h
  · exact h.elim
end
/-! ### plain data -/
mutual
def pl : D → Bool
  | .non | .bl _ | .int _ => true
  | .str s => s.all (fun c => decide (c < 1114112)) && decide (s.length ≤ 1000)
  | .tup xs => plL xs
  | .lst xs => plL xs
  | _ => false
def plL : List D → Bool
  | [] => true
  | x :: xs => pl x && plL xs
end
mutual
def dep : D → Nat
  | .tup xs => depL xs + 1
  | .lst xs => depL xs + 1
  | _ => 0
def depL : List D → Nat
  | [] => 0
  | x :: xs => max (dep x) (depL xs)
end
mutual
/-- how many things, signs with them -/
def sz : D → Nat
  | .tup xs => szL xs + 1
  | .lst xs => szL xs + 1
  | .str s => s.length + 1
  | _ => 1
def szL : List D → Nat
  | [] => 0
  | x :: xs => sz x + szL xs
end
mutual
/-- the same, lists in the place of tuples and tuples of lists -/
def loD : D → D → Prop
  | .tup xs, y => ∃ ys, loL xs ys ∧ (y = .tup ys ∨ y = .lst ys)
  | .lst xs, y => ∃ ys, loL xs ys ∧ (y = .tup ys ∨ y = .lst ys)
  | d, y => y = d
def loL : List D → List D → Prop
  | [], ys => ys = []
  | x :: xs, ys => ∃ y r, ys = y :: r ∧ loD x y ∧ loL xs r
end
theorem len_sz : ∀ xs : List D, xs.length ≤ szL xs
  | [] => Nat.le_refl _
  | x :: xs => by
    have h := len_sz xs
    have : 1 ≤ sz x := by cases x <;> simp [sz]
    simp only [List.length_cons, szL]
    omega
theorem loL_len : ∀ {xs ys : List D}, loL xs ys → ys.length = xs.length
  | [], ys, h => by simp only [loL] at h; subst h; rfl
  | x :: xs, ys, h => by
    simp only [loL] at h
    obtain ⟨y, r, rfl, _, h⟩ := h
    simp only [List.length_cons, loL_len h]
/-! ### draws -/
theorem Far.mono {B B' : Nat} (h : Far B') (l : B ≤ B') : Far B := by unfold Far at *; omega
section
variable {T : Txt} {k B : Nat} {s : Sp0} {r : Mem}
structure Ga (T : Txt) : Prop where
  h0 : T.fns 0 = some f0
  h1 : T.fns 1 = some f1
  h2 : T.fns 2 = some f2
  h37 : T.fns 37 = some f37
  h38 : T.fns 38 = some f38
  h39 : T.fns 39 = some f39
  h40 : T.fns 40 = some f40
  h41 : T.fns 41 = some f41
  h42 : T.fns 42 = some f42
  h43 : T.fns 43 = some f43
  h44 : T.fns 44 = some f44
theorem draw (h1 : T.fns 1 = some f1) (hs : s.At B) (hB : Far B) {n : Int} (hn : 0 < n) (hn2 : n < 1000000000) : ∃ (v : Int) (s' : Sp0), evF T (k + 1) 1 [.dat (.ref 1), .dat (.int n)] (s.mem r) = .ok (.int v) (s'.mem r) ∧ 0 ≤ v ∧ v < n ∧ s'.At (B + 1) := by
  obtain ⟨v, s', e, h2, h3, h4⟩ := below h1 (k := k) (s := s) ⟨hs.a0, hs.b0, by have := hs.bt; unfold Far at hB; omega, hs.c0, hs.ct, hs.l⟩ (r := r) hn hn2
  exact ⟨v, s', e, h2, h3, ⟨h4.a0, by have := hs.b0; have := h4.b0; omega, by have := hs.bt; have := h4.bt; omega, h4.c0, h4.ct, h4.l⟩⟩
theorem chance (g : Ga T) (hs : s.At B) (hB : Far B) {n : Int} (hn : 0 < n) (hn2 : n < 1000000000) : ∃ (b : Bool) (s' : Sp0), evF T (k + 2) 37 [.dat (.ref 1), .dat (.int n)] (s.mem r) = .ok (.bl b) (s'.mem r) ∧ s'.At (B + 1) := by
  obtain ⟨v, s', e, _, _, h⟩ := draw (k := k) (r := r) g.h1 hs hB hn hn2
  rw [evF_to g.h37 rfl]
  exists f37, e, eq_ii
  exact ⟨_, s', rfl, h⟩
/-- one of a list's or a tuple's things -/
theorem pick (g : Ga T) (hs : s.At B) (hB : Far B) {x : D} {xs : List D} (hx : x = .lst xs ∨ x = .tup xs) (hn : xs ≠ []) (hn2 : xs.length < 1000000) : ∃ (y : D) (s' : Sp0), evF T (k + 2) 38 [.dat (.ref 1), .dat x] (s.mem r) = .ok y (s'.mem r) ∧ y ∈ xs ∧ s'.At (B + 1) := by
  have h0 : (0 : Int) < xs.length := by have := List.length_pos_iff.mpr hn; omega
  obtain ⟨v, s', e, h1, h2, h⟩ := draw (k := k) (r := r) g.h1 hs hB h0 (by omega)
  obtain ⟨j, rfl⟩ := Int.eq_ofNat_of_zero_le h1
  have hj : j < xs.length := by omega
  rw [evF_to g.h38 rfl]
  rcases hx with rfl | rfl
  · exists f38, e, ix_ok hj, List.getElem?_eq_getElem hj
    exact ⟨_, s', rfl, List.getElem_mem hj, h⟩
  · exists f38, e, ix_ok hj, List.getElem?_eq_getElem hj
    exact ⟨_, s', rfl, List.getElem_mem hj, h⟩
mutual
theorem loose_d (g : Ga T) : ∀ (d : D), pl d = true → ∀ (k B : Nat) (s : Sp0), dep d < k → s.At B → Far (B + sz d) → sz d ≤ 100000 → ∃ (d' : D) (s' : Sp0), evF T (k + 1) 41 [.dat (.ref 1), .dat d] (s.mem r) = .ok d' (s'.mem r) ∧ loD d d' ∧ s'.At (B + sz d)
  | .non, _, k, B, s, hk, hs, hB, _ => by
    rw [evF_to g.h41 rfl]
    exists f41
    exact ⟨_, s, rfl, by simp [loD], hs.mono (by omega)⟩
  | .bl b, _, k, B, s, hk, hs, hB, _ => by
    rw [evF_to g.h41 rfl]
    exists f41
    exact ⟨_, s, rfl, by simp [loD], hs.mono (by omega)⟩
  | .int i, _, k, B, s, hk, hs, hB, _ => by
    rw [evF_to g.h41 rfl]
    exists f41
    exact ⟨_, s, rfl, by simp [loD], hs.mono (by omega)⟩
  | .str i, _, k, B, s, hk, hs, hB, _ => by
    rw [evF_to g.h41 rfl]
    exists f41
    exact ⟨_, s, rfl, by simp [loD], hs.mono (by omega)⟩
  | .tup xs, hp, k, B, s, hk, hs, hB, hz => by
    simp only [pl, dep, sz] at hp hk hB hz
    obtain ⟨ys, s1, e1, h1, h2⟩ := loose_l g xs hp k B s (.tup xs) (by omega) hs (hB.mono (by omega)) (by omega)
    obtain ⟨v, s2, e2, _, _, h3⟩ := draw (k := k - 1) (r := r) (n := 2) g.h1 h2 (hB.mono (by omega)) (by decide) (by decide)
    rw [show k - 1 + 1 = k by omega] at e2
    rw [evF_to g.h41 rfl]
    exists f41, itS, guardOf
    rw [compR_ok (by have := len_sz xs; unfold lineMax; omega) e1]
    exists e2, eq_ii
    have h4 : s2.At (B + sz (.tup xs)) := h3.mono (by simp only [sz]; omega)
    by_cases hv : v = 0
    · exists hv
      exact ⟨_, s2, rfl, by simp only [loD]; exact ⟨ys, h1, .inr rfl⟩, h4⟩
    · exists hv
      exact ⟨_, s2, rfl, by simp only [loD]; exact ⟨ys, h1, .inl rfl⟩, h4⟩
  | .lst xs, hp, k, B, s, hk, hs, hB, hz => by
    simp only [pl, dep, sz] at hp hk hB hz
    obtain ⟨ys, s1, e1, h1, h2⟩ := loose_l g xs hp k B s (.lst xs) (by omega) hs (hB.mono (by omega)) (by omega)
    obtain ⟨v, s2, e2, _, _, h3⟩ := draw (k := k - 1) (r := r) (n := 2) g.h1 h2 (hB.mono (by omega)) (by decide) (by decide)
    rw [show k - 1 + 1 = k by omega] at e2
    rw [evF_to g.h41 rfl]
    exists f41, itS, guardOf
    rw [compR_ok (by have := len_sz xs; unfold lineMax; omega) e1]
    exists e2, eq_ii
    have h4 : s2.At (B + sz (.lst xs)) := h3.mono (by simp only [sz]; omega)
    by_cases hv : v = 0
    · exists hv
      exact ⟨_, s2, rfl, by simp only [loD]; exact ⟨ys, h1, .inr rfl⟩, h4⟩
    · exists hv
      exact ⟨_, s2, rfl, by simp only [loD]; exact ⟨ys, h1, .inl rfl⟩, h4⟩
  | .dic _, hp, _, _, _, _, _, _, _ => by simp [pl] at hp
  | .ref _, hp, _, _, _, _, _, _, _ => by simp [pl] at hp
  | .cdic _, hp, _, _, _, _, _, _, _ => by simp [pl] at hp
theorem loose_l (g : Ga T) : ∀ (xs : List D), plL xs = true → ∀ (k B : Nat) (s : Sp0) (z : D), depL xs + 1 < k → s.At B → Far (B + szL xs) → szL xs ≤ 100000 →
    ∃ (ys : List D) (s' : Sp0), compL [] (kSet (.nm 4) [4] [.val (.ref 1), .val z, .no, .no, .no]) (kTo (evF T k) T.con .no) (kE (evF T k) T.con f41m2e) xs (s.mem r) = .ok ys (s'.mem r) ∧ loL xs ys ∧ s'.At (B + szL xs)
  | [], _, k, B, s, z, hk, hs, hB, _ => ⟨[], s, rfl, rfl, hs⟩
  | x :: xs, hp, k, B, s, z, hk, hs, hB, hz => by
    simp only [plL, Bool.and_eq_true, depL, szL] at hp hk hB hz
    obtain ⟨y, s1, e1, h1, h2⟩ := loose_d g x hp.1 (k - 1) B s (by omega) hs (hB.mono (by omega)) (by omega)
    rw [show k - 1 + 1 = k by omega] at e1
    obtain ⟨ys, s2, e2, h3, h4⟩ := loose_l g xs hp.2 k (B + sz x) s1 z (by omega) h2 (hB.mono (by omega)) (by omega)
    refine ⟨y :: ys, s2, ?_, by simp only [loL]; exact ⟨y, ys, rfl, h1, h3⟩, h4.mono (by simp only [szL]; omega)⟩
    exact comp_step (by exists f41m2e, wipeE, e1) e2
end
end
end Ev
/-! Pl3: same things, copies, spoilt things -/
namespace Ev
open PySem Fs
local macro_rules | `(tactic| exists $es,*) => `(tactic| simp only [e_var, e_con, e_glo, e_attr, o_ex, o_peek, os_nil, to_no, to_ex, es_nil, as_nil, eo_no, ss_nil, st_retn, st_pass, st_brk, st_cnt, hs_nil, tg_nm, tg_tp, sa_nil, sa_cons, R.bnd_ok, R.bind_ex, R.st_ok, R.st_ex, R.of_some, SR.out_nx, SR.out_rt, SR.out_ex, getV_0, getV_s, getE_0, getE_s, set_0, set_s, args_0, args_1, args_2, args_3, args_4, args_5, slot_d, slot_c, rep_0, rep_s, cellD_l, cellD_d, cloS_c, excS_x, ownS_o, ownL_l, lstC_l, getAll_nil, getAll_cons, consO_s, intO_i, E_tup, E_mk, E_mkr, E_bin, E_neg, E_cmp, E_not, E_and, E_or, E_ite, E_idx, E_sl, E_call, E_callk, E_app, E_isin, E_bi, E_meth, E_all, Os_cons, T_val, T_cmp, T_not, T_and, T_or, Es_cons, As_dat, As_lam, As_pas, Eo_ex, L_disp, L_copy, L_comp, L_cat, L_slice, L_ddisp, L_dict, L_litems, S_it, S_rng, S_rng2, S_enm, S_zip, Ss_cons, St_asg, St_par, St_own, St_frz, St_exp, St_oapp, St_oext, St_setr, St_ife, St_for, St_whl, St_ret, St_raise, St_try, Hs_some, Hs_none, K_tup, K_mk, K_mkr, K_bin2, K_bin1, K_neg, K_cmp2, K_cmp1, K_not, K_nbl, K_and, K_and_t, K_and_f, K_or, K_or_t, K_or_f, K_ite_t, K_ite_f, K_idx2, K_idx1, K_sl3, K_sl2, K_sl1, K_call, K_callk, K_callk_s, K_app, K_app_s, K_isin, K_bi, K_meth2, K_meth_s, K_meth1, K_meth_t, K_all, K_cons, K_os, K_tval, K_tcmp2, K_tcmp1, K_tnot, K_tand_t, K_tand_f, K_tor_t, K_tor_f, K_es, K_as, K_lam, K_pas, K_eo, K_disp, K_copy, K_comp, K_cat2, K_cat1, K_slc3, K_slc2, K_slc1, K_dd, K_dict, K_items, K_it, K_rng, K_rng2b, K_rng2a, K_enm, K_zip2, K_zip1, K_then, K_then_rt, K_then_bk, K_then_ct, K_then_ex, K_asg, K_asg_s, K_par2, K_par1, K_own, K_frz, K_exp, K_yes, K_oapp, K_oapp_s, K_oextL, K_oext, K_oext_s, K_sr, K_sr3, K_sr2, K_sr1, K_if_t, K_if_f, K_for, K_ret, K_raise, K_try_nx, K_try_rt, K_try_ex, K_fin_nx, K_fin_rt, K_fin0_nx, K_fin0_rt, K_hs_t, K_hs_f, K_hs0_t, K_hs0_f, sr_ref, sr_l, noExc_nil, noExc_cons, noX_v, noX_n, noX_x, noX_c, noX_o, gd_t, forL_congr, whileL_congr, compR_congr, compL_congr, b_add, b_sub, b_mul, b_mod, b_div, b_pow, b_cats, b_catl, b_catt, lstAt_l, lstAt_d, dicAt_l, dicAt_d, q_ref, q_tup, q_lst, q_non, q_bl, q_int, q_str, q_dic, c_ref, c_dic, c_tup, c_lst, c_str, c_int, r_ref, r_non, r_bl, r_int, r_str, r_tup, r_lst, y_ref, y_non, y_bl, y_int, y_str, y_tup, y_lst, y_dic, tyAt_l, tyAt_d, anyTy_0, anyTy_s, x_tup, x_lst, x_ref, idxAt_l, idxAt_d, x_cdic, x_dic, x_str, k_int, k_str, v_eq, v_ne, v_lt, v_le, v_gt, v_ge, v_in, v_nin, v_is, v_isn, eq_ii, non_non, non_bl, non_int, non_str, non_tup, non_lst, non_ref, non_dic, in_tup, in_cdic, f_ss, bi_lens, bi_lent, bi_lenl, bi_lenr, lenAt_l, bi_max, bi_min, bi_int, bi_intb, bi_tup, ix_0, ix_1, ix_2, ix_3, ix_4, nth_0, nth_s, nset_0, nset_s, me_ok_pop, me_ok_app, me_ok_cnt, me_ok_cntl, me_ok_get, me_pop, pop_0, me_app, Int.cast_ofNat_Int, Int.natCast_zero, Int.natCast_one, reduceCtorEq, Option.bind_some, Option.map_some, Option.bind_none, Option.map_none, List.map_nil, List.map_cons, List.length_cons, List.length_nil, Int.reduceLT, Int.reduceLE, Int.reduceEq, Int.reduceNe, Int.reduceNeg, Int.reducePow, Int.reduceToNat, Int.reduceAdd, Int.reduceSub, Int.reduceMul, Nat.reduceLT, Nat.reduceLeDiff, Nat.reduceAdd, Nat.reduceSub, Nat.reduceEqDiff, Nat.reduceBEq, Nat.reducePow, and_self, true_and, and_true, Bool.false_eq_true, if_true, if_false, Option.isSome_some, Option.isSome_none, Bool.not_true, Bool.not_false, List.any_nil, List.any_cons, List.all_nil, List.all_cons, Bool.or_true, Bool.true_or, Bool.or_false, Bool.false_or, Bool.and_true, Bool.true_and, Bool.false_and, Bool.and_false, decide_true, decide_false, List.nil_append, List.cons_append, List.append_nil, $[$es:term],*])

def okTx (s : List Nat) : Bool := s.all (fun c => decide (c < 1114112)) && decide (s.length ≤ 1000)
def okK : DK → Bool
  | .s s => okTx s
  | .i _ => true
/-- read to the depth n: shared things too, but no dict that can't change -/
def rd (m : Mem) : Nat → D → Bool
  | 0, _ => false
  | n + 1, d => match d with
    | .non => true
    | .bl _ => true
    | .int _ => true
    | .str s => okTx s
    | .tup xs => decide (xs.length ≤ 100000) && xs.all (rd m n)
    | .lst xs => decide (xs.length ≤ 100000) && xs.all (rd m n)
    | .ref r => (match m[r]? with
      | some (.lst xs) => decide (xs.length ≤ 100000) && xs.all (rd m n)
      | some (.dic kvs) => decide (kvs.length ≤ 100000) && kvs.all fun p => okK p.1 && rd m n p.2
      | none => false)
    | _ => false
theorem rd_tup {m : Mem} {n : Nat} {xs : List D} : rd m (n + 1) (.tup xs) = (decide (xs.length ≤ 100000) && xs.all (rd m n)) := rfl
theorem rd_lst {m : Mem} {n : Nat} {xs : List D} : rd m (n + 1) (.lst xs) = (decide (xs.length ≤ 100000) && xs.all (rd m n)) := rfl
theorem eqv_bb {m : Mem} {a b : Bool} : eqD m (.bl a) (.bl b) = some (decide (a = b)) := by
  have : PyData.eqv (.bool a) (.bool b) = (a == b) := by simp only [PyData.eqv]
  show (if (SeqAt.shaped (.bool a) && SeqAt.shaped (.bool b)) = true then some (PyData.eqv (.bool a) (.bool b)) else none) = _
  rw [if_pos (by simp [SeqAt.shaped, PyData.canLay0, PyData.depth]), this]
  cases a <;> cases b <;> rfl
theorem shaped_str {s : List Nat} (h : s.all (fun c => decide (c < 1114112)) = true) : SeqAt.shaped (.str ⟨s.toArray⟩) = true := by
  have e : PyData.canLay0 (.str ⟨s.toArray⟩) = (s.toArray).all (fun c => decide (c < 1114112)) := by
    simp only [PyData.canLay0]
    rfl
  simp only [SeqAt.shaped, PyData.depth, e, List.all_toArray, h]
  rfl
theorem eq_ss {m : Mem} {s t : List Nat} (hs : okTx s = true) (ht : okTx t = true) : eqD m (.str s) (.str t) = some (decide (s = t)) := by
  simp only [okTx, Bool.and_eq_true] at hs ht
  show (if (SeqAt.shaped (.str ⟨s.toArray⟩) && SeqAt.shaped (.str ⟨t.toArray⟩)) = true then some (PyData.eqv (.str ⟨s.toArray⟩) (.str ⟨t.toArray⟩)) else none) = _
  rw [if_pos (by rw [shaped_str hs.1, shaped_str ht.1]; rfl)]
  have : PyData.eqv (.str ⟨s.toArray⟩) (.str ⟨t.toArray⟩) = ((⟨s.toArray⟩ : Str) == ⟨t.toArray⟩) := by simp only [PyData.eqv]
  rw [this]
  congr 1
  by_cases h : s = t
  · subst h; simp
  · rw [decide_eq_false h, beq_eq_false_iff_ne]
    intro e
    exact h (congrArg Array.toList (Str.mk.inj e))
section
variable {T : Txt} {m : Mem}
theorem len_zip : ∀ xs ys : List D, (zipD xs ys).length ≤ xs.length
  | [], _ => by simp [zipD]
  | _ :: _, [] => by simp [zipD]
  | a :: xs, b :: ys => by simp only [zipD, List.length_cons]; have := len_zip xs ys; omega
theorem same_row (F : Nat → List Arg → Mem → R D) (C : Nat → Option D) (g : Guards) (hg : guardOk m g = true) (a b : D) : ∀ xs : List D, (∀ x ∈ xs, F 40 [.dat x, .dat x] m = .ok (.bl true) m) →
    compL g (kSet (.tp [2, 3]) [2, 3] [.val a, .val b, .no, .no]) (kTo F C .no) (kE F C f40m1e) (zipD xs xs) m = .ok (xs.map fun _ => .bl true) m
  | [], _ => comp_end hg
  | x :: xs, h => comp_go hg rfl to_no (m2 := m) (x := .bl true) (by
      show evE F C f40m1e [.val a, .val b, .val x, .val x] m = _
      exists f40m1e, h x List.mem_cons_self) (same_row F C g hg a b xs fun y hy => h y (List.mem_cons_of_mem _ hy))
theorem all_true {α : Type} (xs : List α) : allC (.lst (xs.map fun _ => .bl true)) = some (.bl true) := by
  have h1 : (xs.map fun _ => D.bl true).all isBl = true := by rw [List.all_map]; simp [isBl]
  have h2 : (xs.map fun _ => D.bl true).all theBl = true := by rw [List.all_map]; simp [theBl]
  unfold allC
  simp only [h1, h2, if_true]
theorem same_lists (g : Ga T) {k : Nat} {d : D} {xs : List D} (hd : d = .tup xs ∨ d = .lst xs ∨ ∃ r, d = .ref r ∧ m[r]? = some (.lst xs)) (hl : xs.length ≤ 100000) (h : ∀ x ∈ xs, evF T k 40 [.dat x, .dat x] m = .ok (.bl true) m) : evF T (k + 1) 40 [.dat d, .dat d] m = .ok (.bl true) m := by
  rw [evF_to g.h40 rfl]
  have hz : (zipD xs xs).length ≤ lineMax := Nat.le_trans (len_zip xs xs) (by unfold lineMax; omega)
  rcases hd with rfl | rfl | ⟨r, rfl, hr⟩
  · exists f40, eqv_bb, eq_ii, zipS, isTup
    rw [compR_ok hz (same_row _ _ [] rfl _ _ xs h)]
    exists all_true
  · exists f40, eqv_bb, eq_ii, zipS, isTup
    rw [compR_ok hz (same_row _ _ _ (guard_apd (guard_self _) (guard_self _)) _ _ xs h)]
    exists all_true
  · exists f40, eqv_bb, eq_ii, zipS, isTup, hr
    rw [compR_ok hz (same_row _ _ _ (guard_apd (guard_self _) (guard_self _)) _ _ xs h)]
    exists all_true
/-- a thing is the same as itself -/
theorem same_self (g : Ga T) : ∀ (n : Nat) (d : D) (k : Nat), rd m n d = true → 3 * n + 1 ≤ k → evF T k 40 [.dat d, .dat d] m = .ok (.bl true) m
  | 0, d, k, h, _ => by simp [rd] at h
  | n + 1, d, k, h, hk => by
    obtain ⟨k, rfl⟩ : ∃ j, k = j + 1 := ⟨k - 1, by omega⟩
    cases d with
    | non => rw [evF_to g.h40 rfl]; exists f40
    | bl b => rw [evF_to g.h40 rfl]; exists f40, eqv_bb
    | int i => rw [evF_to g.h40 rfl]; exists f40, eqv_bb, eq_ii
    | str s =>
      simp only [rd] at h
      rw [evF_to g.h40 rfl]
      exists f40, eq_ss h h
    | tup xs =>
      simp only [rd, Bool.and_eq_true, decide_eq_true_eq, List.all_eq_true] at h
      exact same_lists g (.inl rfl) h.1 fun x hx => same_self g n x k (h.2 x hx) (by omega)
    | lst xs =>
      simp only [rd, Bool.and_eq_true, decide_eq_true_eq, List.all_eq_true] at h
      exact same_lists g (.inr (.inl rfl)) h.1 fun x hx => same_self g n x k (h.2 x hx) (by omega)
    | ref r =>
      simp only [rd] at h
      cases hr : m[r]? with
      | none => rw [hr] at h; cases h
      | some c =>
        rw [hr] at h
        cases c with
        | lst xs =>
          simp only [Bool.and_eq_true, decide_eq_true_eq, List.all_eq_true] at h
          exact same_lists g (.inr (.inr ⟨r, rfl, hr⟩)) h.1 fun x hx => same_self g n x k (h.2 x hx) (by omega)
        | dic kvs =>
          simp only [Bool.and_eq_true, decide_eq_true_eq, List.all_eq_true] at h
          obtain ⟨k, rfl⟩ : ∃ j, k = j + 2 := ⟨k - 2, by omega⟩
          have inner : evF T (k + 2) 40 [.dat (.lst (kvs.map fun kv => .tup [kv.1.d, kv.2])), .dat (.lst (kvs.map fun kv => .tup [kv.1.d, kv.2]))] m = .ok (.bl true) m := by
            refine same_lists g (.inr (.inl rfl)) (by rw [List.length_map]; exact h.1) fun x hx => ?_
            obtain ⟨kv, hkv, rfl⟩ := List.mem_map.mp hx
            refine same_lists g (.inl rfl) (by show 2 ≤ 100000; decide) fun y hy => ?_
            rcases List.mem_cons.mp hy with rfl | hy
            · obtain ⟨k, rfl⟩ : ∃ j, k = j + 1 := ⟨k - 1, by omega⟩
              have hok := (h.2 kv hkv).1
              cases hk1 : kv.1 with
              | i z => rw [evF_to g.h40 rfl]; exists DK.d, f40, eqv_bb, eq_ii
              | s z =>
                rw [hk1] at hok
                rw [evF_to g.h40 rfl]
                exists DK.d, f40, eq_ss hok hok
            · rw [List.mem_singleton] at hy
              subst hy
              exact same_self g n kv.2 k (h.2 kv hkv).2 (by omega)
          rw [evF_to g.h40 rfl]
          exists f40, hr, itemsC, inner
    | dic _ => simp [rd] at h
    | cdic _ => simp [rd] at h
end
end Ev
/-! Pl4: plain data as the model's data; told things spoilt -/
namespace Ev
open PySem Fs
local macro_rules | `(tactic| exists $es,*) => `(tactic| simp only [e_var, e_con, e_glo, e_attr, o_ex, o_peek, os_nil, to_no, to_ex, es_nil, as_nil, eo_no, ss_nil, st_retn, st_pass, st_brk, st_cnt, hs_nil, tg_nm, tg_tp, sa_nil, sa_cons, R.bnd_ok, R.bind_ex, R.st_ok, R.st_ex, R.of_some, SR.out_nx, SR.out_rt, SR.out_ex, getV_0, getV_s, getE_0, getE_s, set_0, set_s, args_0, args_1, args_2, args_3, args_4, args_5, slot_d, slot_c, rep_0, rep_s, cellD_l, cellD_d, cloS_c, excS_x, ownS_o, ownL_l, lstC_l, getAll_nil, getAll_cons, consO_s, intO_i, E_tup, E_mk, E_mkr, E_bin, E_neg, E_cmp, E_not, E_and, E_or, E_ite, E_idx, E_sl, E_call, E_callk, E_app, E_isin, E_bi, E_meth, E_all, Os_cons, T_val, T_cmp, T_not, T_and, T_or, Es_cons, As_dat, As_lam, As_pas, Eo_ex, L_disp, L_copy, L_comp, L_cat, L_slice, L_ddisp, L_dict, L_litems, S_it, S_rng, S_rng2, S_enm, S_zip, Ss_cons, St_asg, St_par, St_own, St_frz, St_exp, St_oapp, St_oext, St_setr, St_ife, St_for, St_whl, St_ret, St_raise, St_try, Hs_some, Hs_none, K_tup, K_mk, K_mkr, K_bin2, K_bin1, K_neg, K_cmp2, K_cmp1, K_not, K_nbl, K_and, K_and_t, K_and_f, K_or, K_or_t, K_or_f, K_ite_t, K_ite_f, K_idx2, K_idx1, K_sl3, K_sl2, K_sl1, K_call, K_callk, K_callk_s, K_app, K_app_s, K_isin, K_bi, K_meth2, K_meth_s, K_meth1, K_meth_t, K_all, K_cons, K_os, K_tval, K_tcmp2, K_tcmp1, K_tnot, K_tand_t, K_tand_f, K_tor_t, K_tor_f, K_es, K_as, K_lam, K_pas, K_eo, K_disp, K_copy, K_comp, K_cat2, K_cat1, K_slc3, K_slc2, K_slc1, K_dd, K_dict, K_items, K_it, K_rng, K_rng2b, K_rng2a, K_enm, K_zip2, K_zip1, K_then, K_then_rt, K_then_bk, K_then_ct, K_then_ex, K_asg, K_asg_s, K_par2, K_par1, K_own, K_frz, K_exp, K_yes, K_oapp, K_oapp_s, K_oextL, K_oext, K_oext_s, K_sr, K_sr3, K_sr2, K_sr1, K_if_t, K_if_f, K_for, K_ret, K_raise, K_try_nx, K_try_rt, K_try_ex, K_fin_nx, K_fin_rt, K_fin0_nx, K_fin0_rt, K_hs_t, K_hs_f, K_hs0_t, K_hs0_f, sr_ref, sr_l, noExc_nil, noExc_cons, noX_v, noX_n, noX_x, noX_c, noX_o, gd_t, forL_congr, whileL_congr, compR_congr, compL_congr, b_add, b_sub, b_mul, b_mod, b_div, b_pow, b_cats, b_catl, b_catt, lstAt_l, lstAt_d, dicAt_l, dicAt_d, q_ref, q_tup, q_lst, q_non, q_bl, q_int, q_str, q_dic, c_ref, c_dic, c_tup, c_lst, c_str, c_int, r_ref, r_non, r_bl, r_int, r_str, r_tup, r_lst, y_ref, y_non, y_bl, y_int, y_str, y_tup, y_lst, y_dic, tyAt_l, tyAt_d, anyTy_0, anyTy_s, x_tup, x_lst, x_ref, idxAt_l, idxAt_d, x_cdic, x_dic, x_str, k_int, k_str, v_eq, v_ne, v_lt, v_le, v_gt, v_ge, v_in, v_nin, v_is, v_isn, eq_ii, non_non, non_bl, non_int, non_str, non_tup, non_lst, non_ref, non_dic, in_tup, in_cdic, f_ss, bi_lens, bi_lent, bi_lenl, bi_lenr, lenAt_l, bi_max, bi_min, bi_int, bi_intb, bi_tup, ix_0, ix_1, ix_2, ix_3, ix_4, nth_0, nth_s, nset_0, nset_s, me_ok_pop, me_ok_app, me_ok_cnt, me_ok_cntl, me_ok_get, me_pop, pop_0, me_app, Int.cast_ofNat_Int, Int.natCast_zero, Int.natCast_one, reduceCtorEq, Option.bind_some, Option.map_some, Option.bind_none, Option.map_none, List.map_nil, List.map_cons, List.length_cons, List.length_nil, Int.reduceLT, Int.reduceLE, Int.reduceEq, Int.reduceNe, Int.reduceNeg, Int.reducePow, Int.reduceToNat, Int.reduceAdd, Int.reduceSub, Int.reduceMul, Nat.reduceLT, Nat.reduceLeDiff, Nat.reduceAdd, Nat.reduceSub, Nat.reduceEqDiff, Nat.reduceBEq, Nat.reducePow, and_self, true_and, and_true, Bool.false_eq_true, if_true, if_false, Option.isSome_some, Option.isSome_none, Bool.not_true, Bool.not_false, List.any_nil, List.any_cons, List.all_nil, List.all_cons, Bool.or_true, Bool.true_or, Bool.or_false, Bool.false_or, Bool.and_true, Bool.true_and, Bool.false_and, Bool.and_false, decide_true, decide_false, List.nil_append, List.cons_append, List.append_nil, $[$es:term],*])

mutual
def toP : D → PyData
  | .non => .none
  | .bl b => .bool b
  | .int i => .int i
  | .str s => .str ⟨s.toArray⟩
  | .tup xs => .tuple (toPL xs)
  | .lst xs => .list (toPL xs)
  | _ => .none
def toPL : List D → List PyData
  | [] => []
  | x :: xs => toP x :: toPL xs
end
mutual
theorem py_pl (ρ : Nat → Option PyData) : ∀ d : D, pl d = true → D.py ρ d = some (toP d)
  | .non, _ => rfl
  | .bl _, _ => rfl
  | .int _, _ => rfl
  | .str _, _ => rfl
  | .tup xs, h => by
    simp only [pl] at h
    simp only [D.py, py_plL ρ xs h, toP, Option.map_some]
  | .lst xs, h => by
    simp only [pl] at h
    simp only [D.py, py_plL ρ xs h, toP, Option.map_some]
  | .dic _, h => by simp [pl] at h
  | .ref _, h => by simp [pl] at h
  | .cdic _, h => by simp [pl] at h
theorem py_plL (ρ : Nat → Option PyData) : ∀ xs : List D, plL xs = true → pyL ρ xs = some (toPL xs)
  | [], _ => rfl
  | x :: xs, h => by
    simp only [plL, Bool.and_eq_true] at h
    simp only [pyL, py_pl ρ x h.1, py_plL ρ xs h.2, toPL]
end
mutual
theorem lay_pl : ∀ d : D, pl d = true → (toP d).canLay0 = true ∧ (toP d).depth = dep d
  | .non, _ => by simp [toP, PyData.canLay0, PyData.depth, dep]
  | .bl _, _ => by simp [toP, PyData.canLay0, PyData.depth, dep]
  | .int _, _ => by simp [toP, PyData.canLay0, PyData.depth, dep]
  | .str s, h => by
    simp only [pl, Bool.and_eq_true] at h
    have := shaped_str h.1
    simp only [SeqAt.shaped, Bool.and_eq_true] at this
    exact ⟨this.1, by simp [toP, PyData.depth, dep]⟩
  | .tup xs, h => by
    simp only [pl] at h
    obtain ⟨h1, h2⟩ := lay_plL xs h
    simp only [toP, PyData.canLay0, PyData.depth, dep, h1, h2, and_self]
  | .lst xs, h => by
    simp only [pl] at h
    obtain ⟨h1, h2⟩ := lay_plL xs h
    simp only [toP, PyData.canLay0, PyData.depth, dep, h1, h2, and_self]
  | .dic _, h => by simp [pl] at h
  | .ref _, h => by simp [pl] at h
  | .cdic _, h => by simp [pl] at h
theorem lay_plL : ∀ xs : List D, plL xs = true → PyData.canLayAll0 (toPL xs) = true ∧ PyData.depthAll (toPL xs) = depL xs
  | [], _ => by simp [toPL, PyData.canLayAll0, PyData.depthAll, depL]
  | x :: xs, h => by
    simp only [plL, Bool.and_eq_true] at h
    obtain ⟨h1, h2⟩ := lay_pl x h.1
    obtain ⟨h3, h4⟩ := lay_plL xs h.2
    simp only [toPL, PyData.canLayAll0, PyData.depthAll, depL, h1, h2, h3, h4, Bool.and_self, and_self]
end
theorem ok_pl {d : D} (h : pl d = true) (hd : dep d ≤ 60) : eqOk (toP d) = true := by
  obtain ⟨h1, h2⟩ := lay_pl d h
  simp only [eqOk, SeqAt.shaped, h1, h2, Bool.true_and]
  exact decide_eq_true (by omega)
theorem eq_pl {m : Mem} {a b : D} (ha : pl a = true) (hb : pl b = true) (da : dep a ≤ 60) (db : dep b ≤ 60) : eqD m a b = some (PyData.eqv (toP a) (toP b)) := by
  unfold eqD pyOf
  rw [py_pl _ a ha, py_pl _ b hb]
  simp only [ok_pl ha da, ok_pl hb db, Bool.and_self, if_true]
theorem eqv_self {d : D} (h : pl d = true) : PyData.eqv (toP d) (toP d) = true := SeqAt.eqv_refl _ (lay_pl d h).1
/-- the answers of == over plain things -/
theorem eqAll_pl {m : Mem} {x : D} {ys : List D} (hx : pl x = true) (hy : plL ys = true) (dx : dep x ≤ 60) (dy : depL ys ≤ 59) : eqAll m x ys = some ((toPL ys).map fun q => PyData.eqv q (toP x)) := by
  unfold eqAll pyOf
  rw [py_pl _ x hx, py_plL _ ys hy]
  have h : eqOk (.list (toPL ys)) = true := ok_pl (d := .lst ys) (by simpa [pl] using hy) (by simp only [dep]; omega)
  simp only [ok_pl hx dx, h, Bool.and_self, if_true]
/-- L, A, T, E -/
abbrev late : List Nat := [76, 65, 84, 69]
mutual
/-- no list in it, nor the late word -/
def nl : D → Bool
  | .lst _ => false
  | .dic _ => false
  | .ref _ => false
  | .cdic _ => false
  | .str s => decide (s ≠ late)
  | .tup xs => nlL xs
  | _ => true
def nlL : List D → Bool
  | [] => true
  | x :: xs => nl x && nlL xs
end
theorem nl_all : ∀ {xs : List D}, nlL xs = true → ∀ x ∈ xs, nl x = true
  | [], _, _, h => by cases h
  | y :: xs, h, x, hx => by
    simp only [nlL, Bool.and_eq_true] at h
    rcases List.mem_cons.mp hx with rfl | hx
    · exact h.1
    · exact nl_all h.2 x hx
theorem pl_all : ∀ {xs : List D}, plL xs = true → ∀ x ∈ xs, pl x = true
  | [], _, _, h => by cases h
  | y :: xs, h, x, hx => by
    simp only [plL, Bool.and_eq_true] at h
    rcases List.mem_cons.mp hx with rfl | hx
    · exact h.1
    · exact pl_all h.2 x hx
theorem dep_all : ∀ {xs : List D}, ∀ x ∈ xs, dep x ≤ depL xs
  | [], _, h => by cases h
  | y :: xs, x, hx => by
    simp only [depL]
    rcases List.mem_cons.mp hx with rfl | hx
    · omega
    · have := dep_all x hx; omega
theorem sz_all : ∀ {xs : List D}, ∀ x ∈ xs, sz x ≤ szL xs
  | [], _, h => by cases h
  | y :: xs, x, hx => by
    simp only [szL]
    rcases List.mem_cons.mp hx with rfl | hx
    · omega
    · have := sz_all x hx; omega
theorem late_no : ∀ {xs : List D}, nlL xs = true → ((toPL xs).map fun q => PyData.eqv q (.str ⟨late.toArray⟩)).countP id = 0
  | [], _ => rfl
  | x :: xs, h => by
    simp only [nlL, Bool.and_eq_true] at h
    have ih := late_no h.2
    have hx : PyData.eqv (toP x) (.str ⟨late.toArray⟩) = false := by
      cases x with
      | str s =>
        simp only [nl, decide_eq_true_eq] at h
        simp only [toP, PyData.eqv]
        rw [beq_eq_false_iff_ne]
        intro e
        exact h.1 (congrArg Array.toList (Str.mk.inj e))
      | _ => first | (simp only [toP, PyData.eqv]; done) | (simp [nl] at h)
    simp only [toPL, List.map_cons, List.countP_cons, hx, ih]
    rfl
section
variable {T : Txt} {m : Mem}
theorem spoilt_nl (g : Ga T) : ∀ (n : Nat) (d : D) (k : Nat), nl d = true → dep d ≤ n → n < k → evF T k 42 [.dat d] m = .ok .non m
  | n, d, 0, _, _, h => by omega
  | n, d, k + 1, h, hn, hk => by
    rw [evF_to g.h42 rfl]
    cases d with
    | tup xs =>
      simp only [nl] at h
      simp only [dep] at hn
      obtain ⟨n, rfl⟩ : ∃ j, n = j + 1 := ⟨n - 1, by omega⟩
      exists f42, itS, guardOf
      obtain ⟨e2, h1, z, rfl⟩ := forL_same (g := []) (set := kTg (.nm 2)) (f := kSs (evF T k) T.con T.sub f42l2) (I := fun e => ∃ z, e = [.val (.tup xs), .no, z]) (m := m) rfl xs
        (fun x hx e he => by
          obtain ⟨z, rfl⟩ := he
          refine ⟨[.val (.tup xs), .no, .val x], [.val (.tup xs), .no, .val x], rfl, ?_, .val x, rfl⟩
          show evSs _ _ _ f42l2 _ _ = _
          exists f42l2, spoilt_nl g n x k (nl_all h x hx) (by have := dep_all x hx; omega) (by omega))
        [.val (.tup xs), .no, .no] ⟨.no, rfl⟩
      rw [h1]
      exists K_tup
    | non => exists f42
    | bl b => exists f42
    | int i => exists f42
    | str s => exists f42
    | _ => simp [nl] at h
theorem cast0 : ((0 : Nat) : Int) = 0 := rfl
theorem once_nl (g : Ga T) : ∀ (n : Nat) (d : D) (k : Nat), nl d = true → pl d = true → dep d ≤ n → n ≤ 50 → sz d ≤ 100000 → n < k → evF T k 43 [.dat d] m = .ok (.bl true) m
  | n, d, 0, _, _, _, _, _, h => by omega
  | n, d, k + 1, h, hp, hn, h50, hz, hk => by
    rw [evF_to g.h43 rfl]
    cases d with
    | tup xs =>
      simp only [nl] at h
      simp only [pl] at hp
      simp only [dep] at hn
      simp only [sz] at hz
      obtain ⟨n, rfl⟩ : ∃ j, n = j + 1 := ⟨n - 1, by omega⟩
      have hl := len_sz xs
      have row : compL [] (kSet (.nm 3) [3] [.val (.tup xs), .val (.int 0), .no, .no]) (kTo (evF T k) T.con .no) (kE (evF T k) T.con f43m2e) xs m = .ok (xs.map fun _ => .bl true) m :=
        compL_map rfl xs fun x hx => ⟨_, rfl, to_no, by
          show evE _ _ f43m2e [.val (.tup xs), .val (.int 0), .no, .val x] m = _
          exists f43m2e, once_nl g n x k (nl_all h x hx) (pl_all hp x hx) (by have := dep_all x hx; omega) (by omega) (by have := sz_all x hx; omega) (by omega)⟩
      exists f43, copyC, meD, eqAll_pl (x := .str late) (ys := xs) rfl hp (by simp [dep]) (by omega), toP, late_no h, cast0, eq_ii, itS, guardOf
      rw [compR_ok (by unfold lineMax; omega) row]
      exists all_true
    | non => exists f43
    | bl b => exists f43
    | int i => exists f43
    | str s => exists f43
    | _ => simp [nl] at h
theorem apart_nl (g : Ga T) {k : Nat} {d : D} (h : nl d = true) (hp : pl d = true) (hn : dep d ≤ 50) (hz : sz d ≤ 100000) (hk : dep d < k) : evF T (k + 1) 44 [.dat d] m = .ok (.bl true) m := by
  rw [evF_to g.h44 rfl]
  exists f44, spoilt_nl g (dep d) d k h (Nat.le_refl _) hk, once_nl g (dep d) d k h hp (Nat.le_refl _) hn hz hk
end
end Ev
/-! Pl5: repr of plain data -/
namespace Ev
open PySem Fs

/-- signs of a text are signs -/
def GoodT (x : Str) : Prop := ∀ c ∈ x.cps.toList, c < 1114112
theorem GoodT.app {x y : Str} (hx : GoodT x) (hy : GoodT y) : GoodT (x ++ y) := fun c h => by
  rw [show (x ++ y).cps = x.cps ++ y.cps from rfl, Array.toList_append, List.mem_append] at h
  exact h.elim (hx c) (hy c)
theorem goodT_of (s : String) : GoodT (Str.ofString s) := fun c h => by
  rw [Str.ofString_eq_toList] at h
  simp only [List.mem_map] at h
  obtain ⟨ch, _, rfl⟩ := h
  have := ch.valid
  rcases this with h | h
  · exact Nat.lt_of_lt_of_le h (by decide)
  · exact h.2
theorem goodT_join {sep : Str} (hs : GoodT sep) : ∀ {l : List Str}, (∀ x ∈ l, GoodT x) → GoodT (Str.join sep l)
  | [], _ => fun c h => by simp [Str.join, Str.empty] at h
  | [x], h => h x List.mem_cons_self
  | x :: y :: r, h => by
    show GoodT (x ++ sep ++ Str.join sep (y :: r))
    exact ((h x List.mem_cons_self).app hs).app (goodT_join hs fun z hz => h z (List.mem_cons_of_mem _ hz))
theorem goodT_from : ∀ {ts : List Str} {k : Nat} {acc : Str}, GoodT acc → (∀ x ∈ ts, GoodT x) → GoodT (textFrom k acc ts)
  | [], _, _, ha, _ => ha
  | t :: ts, k, acc, ha, h => by
    show GoodT (textFrom (k + 1) (acc ++ (if k > 0 then ", " else "" : String) ++ t) ts)
    exact goodT_from ((ha.app (goodT_of _)).app (h t List.mem_cons_self)) fun z hz => h z (List.mem_cons_of_mem _ hz)
theorem good_hex (w c : Nat) : ∀ z ∈ List.replicate w 48 ++ (Nat.toDigits 16 c).map Char.toNat, z < 1114112 := fun z h => by
  rw [List.mem_append] at h
  rcases h with h | h
  · rw [List.mem_replicate] at h; omega
  · obtain ⟨ch, _, rfl⟩ := List.mem_map.mp h
    rcases ch.valid with h | h
    · exact Nat.lt_of_lt_of_le h (by decide)
    · exact h.2
theorem good_char {q c : Nat} (hc : c < 1114112) : ∀ z ∈ Builtin.Str.reprChar q c, z < 1114112 := by
  unfold Builtin.Str.reprChar
  dsimp only
  repeat' split
  all_goals intro z hz
  all_goals first
    | (simp only [List.mem_cons, List.not_mem_nil, or_false] at hz; omega)
    | (rw [List.mem_append] at hz
       rcases hz with hz | hz
       · simp only [List.mem_cons, List.not_mem_nil, or_false] at hz; omega
       · exact good_hex _ _ z hz)
theorem good_fold (q : Nat) : ∀ (l : List Nat) (acc : Array Nat), (∀ c ∈ l, c < 1114112) → (∀ c ∈ acc.toList, c < 1114112) → ∀ c ∈ (l.foldl (fun out c => out ++ (Builtin.Str.reprChar q c).toArray) acc).toList, c < 1114112
  | [], acc, _, h => h
  | c :: r, acc, hl, h => by
    refine good_fold q r _ (fun d hd => hl d (List.mem_cons_of_mem _ hd)) fun d hd => ?_
    rw [Array.toList_append, List.mem_append] at hd
    rcases hd with hd | hd
    · exact h d hd
    · exact good_char (hl c List.mem_cons_self) d hd
theorem goodT_repr {x : Str} (h : GoodT x) : GoodT (reprText x) := fun c hc => by
  unfold reprText at hc
  rw [Array.toList_push, List.mem_append] at hc
  have hq : reprQuote x < 1114112 := by unfold reprQuote; split <;> decide
  rcases hc with hc | hc
  · rw [← Array.foldl_toList] at hc
    refine good_fold _ _ _ h (fun d hd => ?_) c hc
    simp only [List.mem_cons, List.not_mem_nil, or_false] at hd
    omega
  · simp only [List.mem_cons, List.not_mem_nil, or_false] at hc
    omega
mutual
theorem goodT_shown : ∀ d : PyData, d.canLay0 = true → GoodT d.shown
  | .none, _ => goodT_of "None"
  | .bool b, _ => by
    show GoodT (if b then ("True" : Str) else "False")
    split <;> exact goodT_of _
  | .int i, _ => goodT_of _
  | .str x, h => by
    have h0 : x.cps.all (· < 0x110000) = true := by simpa only [PyData.canLay0, PyData.strOk] using h
    have : GoodT x := fun c hc => by
      rw [← Array.all_toList, List.all_eq_true] at h0
      exact of_decide_eq_true (h0 c hc)
    rw [PyData.shown]
    exact goodT_repr this
  | .list xs, h => by
    rw [PyData.shown]
    unfold listText
    exact (goodT_from (goodT_of _) (goodT_shownAll xs (by simpa only [PyData.canLay0] using h))).app (goodT_of _)
  | .tuple xs, h => by
    rw [PyData.shown]
    unfold tupleText
    exact ((goodT_of _).app (goodT_join (goodT_of _) (goodT_shownAll xs (by simpa only [PyData.canLay0] using h)))).app (by split <;> exact goodT_of _)
  | .dict _, h => by simp [PyData.canLay0] at h
theorem goodT_shownAll : ∀ xs : List PyData, PyData.canLayAll0 xs = true → ∀ t ∈ PyData.shownAll xs, GoodT t
  | [], _, t, ht => by simp [PyData.shownAll] at ht
  | x :: xs, h, t, ht => by
    simp only [PyData.canLayAll0, Bool.and_eq_true] at h
    simp only [PyData.shownAll] at ht
    rcases List.mem_cons.mp ht with rfl | ht
    · exact goodT_shown x h.1
    · exact goodT_shownAll xs h.2 t ht
end
mutual
/-- ints in it are short -/
def ri : D → Bool
  | .int i => decide ((PyData.shown (.int i)).length ≤ 100) && decide (i.natAbs.log2 < 1920)
  | .tup xs => riL xs
  | .lst xs => riL xs
  | _ => true
def riL : List D → Bool
  | [] => true
  | x :: xs => ri x && riL xs
end
mutual
theorem show_pl : ∀ d : D, pl d = true → ri d = true → (toP d).showable = true ∧ (toP d).leavesShort 100 = true ∧ (toP d).bulk + 1 ≤ 2 * sz d
  | .non, _, _ => by simp [toP, PyData.showable, PyData.leavesShort, PyData.bulk, sz]
  | .bl _, _, _ => by simp [toP, PyData.showable, PyData.leavesShort, PyData.bulk, sz]
  | .int i, _, h => by
    simp only [ri, Bool.and_eq_true, decide_eq_true_eq] at h
    simp only [toP, PyData.showable, PyData.leavesShort, PyData.bulk, decide_eq_true_eq]
    exact ⟨h.2, h.1, by simp [sz]⟩
  | .str s, h, _ => by
    simp only [pl, Bool.and_eq_true, List.all_eq_true, decide_eq_true_eq] at h
    simp only [toP, PyData.showable, PyData.leavesShort, PyData.bulk, List.all_eq_true, decide_eq_true_eq, true_and, sz, List.size_toArray]
    exact ⟨fun c hc => Nat.lt_of_lt_of_le (h.1 c (by simpa using hc)) (by decide), by omega⟩
  | .tup xs, h, hr => by
    simp only [pl] at h
    simp only [ri] at hr
    obtain ⟨h1, h2, h3⟩ := show_plL xs h hr
    simp only [toP, PyData.showable, PyData.leavesShort, PyData.bulk, h1, h2, true_and, sz]
    omega
  | .lst xs, h, hr => by
    simp only [pl] at h
    simp only [ri] at hr
    obtain ⟨h1, h2, h3⟩ := show_plL xs h hr
    simp only [toP, PyData.showable, PyData.leavesShort, PyData.bulk, h1, h2, true_and, sz]
    omega
  | .dic _, h, _ => by simp [pl] at h
  | .ref _, h, _ => by simp [pl] at h
  | .cdic _, h, _ => by simp [pl] at h
theorem show_plL : ∀ xs : List D, plL xs = true → riL xs = true → PyData.showableAll (toPL xs) = true ∧ PyData.leavesShortAll 100 (toPL xs) = true ∧ PyData.bulkAll (toPL xs) ≤ 2 * szL xs
  | [], _, _ => by simp [toPL, PyData.showableAll, PyData.leavesShortAll, PyData.bulkAll]
  | x :: xs, h, hr => by
    simp only [plL, Bool.and_eq_true] at h
    simp only [riL, Bool.and_eq_true] at hr
    obtain ⟨h1, h2, h3⟩ := show_pl x h.1 hr.1
    obtain ⟨h4, h5, h6⟩ := show_plL xs h.2 hr.2
    simp only [toPL, PyData.showableAll, PyData.leavesShortAll, PyData.bulkAll, h1, h2, h4, h5, Bool.and_self, true_and, szL]
    omega
end
/-- repr of a plain thing goes through; its text is equal to itself -/
theorem repr_pl {m : Mem} {d : D} (h : pl d = true) (hr : ri d = true) (hd : dep d ≤ 29) (hz : sz d ≤ 50000) : ∃ t, (∀ m, biD m .repr [d] = some (.str t)) ∧ ∀ m, eqD m (.str t) (.str t) = some true := by
  obtain ⟨h1, h2⟩ := lay_pl d h
  obtain ⟨h3, h4, h5⟩ := show_pl d h hr
  have h6 := PyData.shown_le_bulk 100 (by decide) (toP d) h4
  have h7 : (PyData.shown (toP d)).length ≤ lineMax := by unfold lineMax; omega
  have h8 := goodT_shown (toP d) h1
  refine ⟨(PyData.shown (toP d)).cps.toList, fun m => ?_, fun m => ?_⟩
  · show (match pyOf m d with | some p => _ | none => _) = _
    unfold pyOf
    rw [py_pl _ d h]
    simp only [h1, h3, h2, decide_eq_true h7, decide_eq_true (show dep d ≤ 30 by omega), Bool.and_self, if_true]
  · have hs : SeqAt.shaped (.str ⟨(PyData.shown (toP d)).cps.toList.toArray⟩) = true := shaped_str (List.all_eq_true.mpr fun c hc => decide_eq_true (h8 c hc))
    show (if (SeqAt.shaped (.str ⟨(PyData.shown (toP d)).cps.toList.toArray⟩) && SeqAt.shaped (.str ⟨(PyData.shown (toP d)).cps.toList.toArray⟩)) = true then some (PyData.eqv (.str ⟨(PyData.shown (toP d)).cps.toList.toArray⟩) (.str ⟨(PyData.shown (toP d)).cps.toList.toArray⟩)) else none) = _
    rw [hs]
    simp only [Bool.and_self, if_true, PyData.eqv, beq_self_eq_true]
end Ev
/-! Pl6: kinds: what the program does with them -/
namespace Ev
open PySem Fs
local macro_rules | `(tactic| exists $es,*) => `(tactic| simp only [e_var, e_con, e_glo, e_attr, o_ex, o_peek, os_nil, to_no, to_ex, es_nil, as_nil, eo_no, ss_nil, st_retn, st_pass, st_brk, st_cnt, hs_nil, tg_nm, tg_tp, sa_nil, sa_cons, R.bnd_ok, R.bind_ex, R.st_ok, R.st_ex, R.of_some, SR.out_nx, SR.out_rt, SR.out_ex, getV_0, getV_s, getE_0, getE_s, set_0, set_s, args_0, args_1, args_2, args_3, args_4, args_5, slot_d, slot_c, rep_0, rep_s, cellD_l, cellD_d, cloS_c, excS_x, ownS_o, ownL_l, lstC_l, getAll_nil, getAll_cons, consO_s, intO_i, E_tup, E_mk, E_mkr, E_bin, E_neg, E_cmp, E_not, E_and, E_or, E_ite, E_idx, E_sl, E_call, E_callk, E_app, E_isin, E_bi, E_meth, E_all, Os_cons, T_val, T_cmp, T_not, T_and, T_or, Es_cons, As_dat, As_lam, As_pas, Eo_ex, L_disp, L_copy, L_comp, L_cat, L_slice, L_ddisp, L_dict, L_litems, S_it, S_rng, S_rng2, S_enm, S_zip, Ss_cons, St_asg, St_par, St_own, St_frz, St_exp, St_oapp, St_oext, St_setr, St_ife, St_for, St_whl, St_ret, St_raise, St_try, Hs_some, Hs_none, K_tup, K_mk, K_mkr, K_bin2, K_bin1, K_neg, K_cmp2, K_cmp1, K_not, K_nbl, K_and, K_and_t, K_and_f, K_or, K_or_t, K_or_f, K_ite_t, K_ite_f, K_idx2, K_idx1, K_sl3, K_sl2, K_sl1, K_call, K_callk, K_callk_s, K_app, K_app_s, K_isin, K_bi, K_meth2, K_meth_s, K_meth1, K_meth_t, K_all, K_cons, K_os, K_tval, K_tcmp2, K_tcmp1, K_tnot, K_tand_t, K_tand_f, K_tor_t, K_tor_f, K_es, K_as, K_lam, K_pas, K_eo, K_disp, K_copy, K_comp, K_cat2, K_cat1, K_slc3, K_slc2, K_slc1, K_dd, K_dict, K_items, K_it, K_rng, K_rng2b, K_rng2a, K_enm, K_zip2, K_zip1, K_then, K_then_rt, K_then_bk, K_then_ct, K_then_ex, K_asg, K_asg_s, K_par2, K_par1, K_own, K_frz, K_exp, K_yes, K_oapp, K_oapp_s, K_oextL, K_oext, K_oext_s, K_sr, K_sr3, K_sr2, K_sr1, K_if_t, K_if_f, K_for, K_ret, K_raise, K_try_nx, K_try_rt, K_try_ex, K_fin_nx, K_fin_rt, K_fin0_nx, K_fin0_rt, K_hs_t, K_hs_f, K_hs0_t, K_hs0_f, sr_ref, sr_l, noExc_nil, noExc_cons, noX_v, noX_n, noX_x, noX_c, noX_o, gd_t, forL_congr, whileL_congr, compR_congr, compL_congr, b_add, b_sub, b_mul, b_mod, b_div, b_pow, b_cats, b_catl, b_catt, lstAt_l, lstAt_d, dicAt_l, dicAt_d, q_ref, q_tup, q_lst, q_non, q_bl, q_int, q_str, q_dic, c_ref, c_dic, c_tup, c_lst, c_str, c_int, r_ref, r_non, r_bl, r_int, r_str, r_tup, r_lst, y_ref, y_non, y_bl, y_int, y_str, y_tup, y_lst, y_dic, tyAt_l, tyAt_d, anyTy_0, anyTy_s, x_tup, x_lst, x_ref, idxAt_l, idxAt_d, x_cdic, x_dic, x_str, k_int, k_str, v_eq, v_ne, v_lt, v_le, v_gt, v_ge, v_in, v_nin, v_is, v_isn, eq_ii, non_non, non_bl, non_int, non_str, non_tup, non_lst, non_ref, non_dic, in_tup, in_cdic, f_ss, bi_lens, bi_lent, bi_lenl, bi_lenr, lenAt_l, bi_max, bi_min, bi_int, bi_intb, bi_tup, ix_0, ix_1, ix_2, ix_3, ix_4, nth_0, nth_s, nset_0, nset_s, me_ok_pop, me_ok_app, me_ok_cnt, me_ok_cntl, me_ok_get, me_pop, pop_0, me_app, Int.cast_ofNat_Int, Int.natCast_zero, Int.natCast_one, reduceCtorEq, Option.bind_some, Option.map_some, Option.bind_none, Option.map_none, List.map_nil, List.map_cons, List.length_cons, List.length_nil, Int.reduceLT, Int.reduceLE, Int.reduceEq, Int.reduceNe, Int.reduceNeg, Int.reducePow, Int.reduceToNat, Int.reduceAdd, Int.reduceSub, Int.reduceMul, Nat.reduceLT, Nat.reduceLeDiff, Nat.reduceAdd, Nat.reduceSub, Nat.reduceEqDiff, Nat.reduceBEq, Nat.reducePow, and_self, true_and, and_true, Bool.false_eq_true, if_true, if_false, Option.isSome_some, Option.isSome_none, Bool.not_true, Bool.not_false, List.any_nil, List.any_cons, List.all_nil, List.all_cons, Bool.or_true, Bool.true_or, Bool.or_false, Bool.false_or, Bool.and_true, Bool.true_and, Bool.false_and, Bool.and_false, decide_true, decide_false, List.nil_append, List.cons_append, List.append_nil, $[$es:term],*])

abbrev wNum : List Nat := [110, 117, 109]
abbrev wTru : List Nat := [116, 114, 117, 116, 104]
abbrev wAny : List Nat := [97, 110, 121]
abbrev wFun : List Nat := [102, 117, 110]
abbrev wPair : List Nat := [112, 97, 105, 114]
abbrev wIn : List Nat := [105, 110]
abbrev wOut : List Nat := [111, 117, 116]
abbrev wLeft : List Nat := [108, 101, 102, 116]
abbrev wRight : List Nat := [114, 105, 103, 104, 116]
/-- kinds -/
inductive Ki where
  | num | tru | any | fn (a b : Ki) | pr (a b : Ki)
  deriving DecidableEq
namespace Ki
def d : Ki → D
  | num => .str wNum
  | tru => .str wTru
  | any => .str wAny
  | fn a b => .tup [.str wFun, a.d, b.d]
  | pr a b => .tup [.str wPair, a.d, b.d]
def deep : Ki → Nat
  | fn a b => max a.deep b.deep + 1
  | pr a b => max a.deep b.deep + 1
  | _ => 0
def marks : Ki → Nat
  | fn a b => a.marks + b.marks + 1
  | pr a b => a.marks + b.marks + 1
  | _ => 1
theorem pl_d : ∀ k : Ki, pl k.d = true
  | num => rfl
  | tru => rfl
  | any => rfl
  | fn a b => by
    have h1 : pl (.str wFun) = true := rfl
    simp only [d, pl.eq_5, plL, h1, pl_d a, pl_d b, Bool.and_self]
  | pr a b => by
    have h1 : pl (.str wPair) = true := rfl
    simp only [d, pl.eq_5, plL, h1, pl_d a, pl_d b, Bool.and_self]
theorem nl_d : ∀ k : Ki, nl k.d = true
  | num => rfl
  | tru => rfl
  | any => rfl
  | fn a b => by
    have h1 : nl (.str wFun) = true := rfl
    show nlL [.str wFun, a.d, b.d] = true
    simp only [nlL, h1, nl_d a, nl_d b, Bool.and_self]
  | pr a b => by
    have h1 : nl (.str wPair) = true := rfl
    show nlL [.str wPair, a.d, b.d] = true
    simp only [nlL, h1, nl_d a, nl_d b, Bool.and_self]
theorem dep_d : ∀ k : Ki, dep k.d = k.deep
  | num => rfl
  | tru => rfl
  | any => rfl
  | fn a b => by
    show max (dep (.str wFun)) (max (dep a.d) (max (dep b.d) 0)) + 1 = max a.deep b.deep + 1
    rw [dep_d a, dep_d b]
    simp only [dep]
    omega
  | pr a b => by
    show max (dep (.str wPair)) (max (dep a.d) (max (dep b.d) 0)) + 1 = max a.deep b.deep + 1
    rw [dep_d a, dep_d b]
    simp only [dep]
    omega
theorem sz_d : ∀ k : Ki, sz k.d ≤ 8 * k.marks
  | num => by decide
  | tru => by decide
  | any => by decide
  | fn a b => by
    have h1 := sz_d a
    have h2 := sz_d b
    show (4 + (sz a.d + (sz b.d + 0))) + 1 ≤ 8 * (a.marks + b.marks + 1)
    omega
  | pr a b => by
    have h1 := sz_d a
    have h2 := sz_d b
    show (5 + (sz a.d + (sz b.d + 0))) + 1 ≤ 8 * (a.marks + b.marks + 1)
    omega
theorem marks_le : ∀ k : Ki, k.marks + 1 ≤ 2 ^ (k.deep + 1)
  | num => by decide
  | tru => by decide
  | any => by decide
  | fn a b => by
    have h1 := marks_le a
    have h2 := marks_le b
    have h3 : 2 ^ (a.deep + 1) ≤ 2 ^ (max a.deep b.deep + 1) := Nat.pow_le_pow_right (by decide) (by omega)
    have h4 : 2 ^ (b.deep + 1) ≤ 2 ^ (max a.deep b.deep + 1) := Nat.pow_le_pow_right (by decide) (by omega)
    show a.marks + b.marks + 1 + 1 ≤ 2 ^ (max a.deep b.deep + 1 + 1)
    rw [Nat.pow_succ]
    omega
  | pr a b => by
    have h1 := marks_le a
    have h2 := marks_le b
    have h3 : 2 ^ (a.deep + 1) ≤ 2 ^ (max a.deep b.deep + 1) := Nat.pow_le_pow_right (by decide) (by omega)
    have h4 : 2 ^ (b.deep + 1) ≤ 2 ^ (max a.deep b.deep + 1) := Nat.pow_le_pow_right (by decide) (by omega)
    show a.marks + b.marks + 1 + 1 ≤ 2 ^ (max a.deep b.deep + 1 + 1)
    rw [Nat.pow_succ]
    omega
theorem ri_d : ∀ k : Ki, ri k.d = true
  | num => rfl
  | tru => rfl
  | any => rfl
  | fn a b => by
    have h1 : ri (.str wFun) = true := rfl
    show riL [.str wFun, a.d, b.d] = true
    simp only [riL, h1, ri_d a, ri_d b, Bool.and_self]
  | pr a b => by
    have h1 : ri (.str wPair) = true := rfl
    show riL [.str wPair, a.d, b.d] = true
    simp only [riL, h1, ri_d a, ri_d b, Bool.and_self]
end Ki
/-- a kind of at most six depths, bounds -/
theorem Ki.sz6 {k : Ki} {n : Nat} (h : k.deep ≤ n) (hn : n ≤ 7) : sz k.d ≤ 2048 := by
  have h1 := Ki.sz_d k
  have h2 := Ki.marks_le k
  have h3 : 2 ^ (k.deep + 1) ≤ 2 ^ 8 := Nat.pow_le_pow_right (by decide) (by omega)
  omega
/-- the things of a row: a tuple, a list, a shared list -/
structure IsRow (m : Mem) (x : D) (xs : List D) : Prop where
  ty : isTy m x [.str] = some false
  row : isTy m x [.list, .tuple] = some true
  len : biD m .len [x] = some (.int xs.length)
  ix : ∀ i : Int, idxD m x (.int i) = (ixOf xs.length i).bind fun j => xs[j]?
  sq : seqOf m x = some xs
theorem isRow_of {m : Mem} {x : D} {xs : List D} (h : x = .tup xs ∨ x = .lst xs ∨ ∃ r, x = .ref r ∧ m[r]? = some (.lst xs)) : IsRow m x xs := by
  rcases h with rfl | rfl | ⟨r, rfl, h⟩
  · exact ⟨rfl, rfl, rfl, fun _ => rfl, rfl⟩
  · exact ⟨rfl, rfl, rfl, fun _ => rfl, rfl⟩
  · refine ⟨by rw [y_ref, h]; rfl, by rw [y_ref, h]; rfl, by rw [bi_lenr, h]; rfl, fun i => by rw [x_ref, h]; rfl, by rw [q_ref, h]; rfl⟩
/-- the kind that a thing is, by looking n depths down -/
def isW (s : List Nat) : Bool := s == wNum || (s == wTru || s == wAny)
def isC (s : List Nat) : Bool := s == wFun || s == wPair
def rowK (f : D → Option D) : List D → Option D
  | [.str h, a, b] => if isC h = true then (match f a, f b with
    | some p, some q => some (.tup [.str h, p, q])
    | _, _ => none) else none
  | _ => none
theorem rowK_len {f : D → Option D} {xs : List D} (h : xs.length ≠ 3) : rowK f xs = none := by
  unfold rowK
  split
  · exact absurd rfl h
  · rfl
theorem rowK_no {f : D → Option D} {a b c : D} (h : ∀ s, a ≠ .str s) : rowK f [a, b, c] = none := by
  unfold rowK
  split
  · rename_i e
    injection e with e _
    exact absurd e (h _)
  · rfl
def kindOf (m : Mem) : Nat → D → Option D
  | 0, x => (match x with
    | .str s => if isW s = true then some (.str s) else none
    | _ => none)
  | n + 1, x => (match x with
    | .str s => if isW s = true then some (.str s) else none
    | x => (match seqOf m x with
      | some xs => rowK (kindOf m n) xs
      | none => none))
theorem kindOf_non {m : Mem} : ∀ {n : Nat} {x p : D}, kindOf m n x = some p → p.isNon = false
  | 0, x, p, h => by
    cases x <;> simp only [kindOf] at h <;> first | (cases h; done) | skip
    split at h
    · cases h; rfl
    · cases h
  | n + 1, x, p, h => by
    have row : ∀ xs, rowK (kindOf m n) xs = some p → p.isNon = false := fun xs h => by
      unfold rowK at h
      split at h
      · split at h
        · split at h
          · cases h; rfl
          · cases h
        · cases h
      · cases h
    have gen : (match seqOf m x with | some xs => rowK (kindOf m n) xs | none => none) = some p → p.isNon = false := fun h => by
      split at h
      · exact row _ h
      · cases h
    cases x with
    | str s =>
      simp only [kindOf] at h
      split at h
      · cases h; rfl
      · cases h
    | _ => exact gen h
theorem kindOf_row {m : Mem} {n : Nat} {x : D} {xs : List D} (hs : ∀ s, x ≠ .str s) (h : seqOf m x = some xs) : kindOf m (n + 1) x = rowK (kindOf m n) xs := by
  have : kindOf m (n + 1) x = (match seqOf m x with
      | some xs => rowK (kindOf m n) xs
      | none => none) := by
    cases x with
    | str s => exact absurd rfl (hs s)
    | _ => rfl
  rw [this, h]
structure Gk (T : Txt) : Prop where
  h13 : T.fns 13 = some f13
  h14 : T.fns 14 = some f14
  h15 : T.fns 15 = some f15
  h16 : T.fns 16 = some f16
  h17 : T.fns 17 = some f17
  h18 : T.fns 18 = some f18
  h19 : T.fns 19 = some f19
  h20 : T.fns 20 = some f20
  h21 : T.fns 21 = some f21
  h22 : T.fns 22 = some f22
  h23 : T.fns 23 = some f23
  h24 : T.fns 24 = some f24
  h25 : T.fns 25 = some f25
  h26 : T.fns 26 = some f26
  h27 : T.fns 27 = some f27
  h28 : T.fns 28 = some f28
  c0 : T.con 0 = some (.tup [.str wNum, .str wTru, .str wFun, .str wPair])
  c1 : T.con 1 = some (.tup [.str wNum, .str wTru, .str wAny])
  c2 : T.con 2 = some (.cdic [(.s wIn, .tup [.str wFun, .int 1]), (.s wOut, .tup [.str wFun, .int 2]), (.s wLeft, .tup [.str wPair, .int 1]), (.s wRight, .tup [.str wPair, .int 2])])
  c3 : T.con 3 = some (.int 6)
section
variable {T : Txt} {m : Mem}
theorem is_row {k : Nat} (g : Gk T) {x : D} {b : Bool} (h : isTy m x [.list, .tuple] = some b) : evF T (k + 1) 13 [.dat x] m = .ok (.bl b) m := by
  rw [evF_to g.h13 rfl]
  exists f13, h
theorem kind_str {k n : Nat} (g : Gk T) {s : List Nat} : evF T (k + 1) 14 [.dat (.str s), .dat (.int n)] m = .ok ((kindOf m n (.str s)).getD .non) m := by
  have e : kindOf m n (.str s) = if isW s = true then some (.str s) else none := by cases n <;> rfl
  rw [evF_to g.h14 rfl, e]
  have e2 : (wNum == s || (wTru == s || wAny == s)) = isW s := by
    unfold isW
    simp only [BEq.comm (a := s)]
  exists f14, g.c1, D.flat, f_ss, e2
  cases isW s <;> exists K_tup <;> rfl
theorem kind_row {k n : Nat} (g : Gk T) {x : D} {xs : List D} (r : IsRow m x xs) (hs : ∀ s, x ≠ .str s) (ht : ∀ y ∈ xs, (∃ s, y = .str s) ∨ (isTy m y [.str] = some false ∧ ∀ s, y ≠ .str s)) (h : ∀ y ∈ xs, ∀ n', n = n' + 1 → evF T (k + 1) 14 [.dat y, .dat (.int n')] m = .ok ((kindOf m n' y).getD .non) m) :
    evF T (k + 2) 14 [.dat x, .dat (.int n)] m = .ok ((kindOf m n x).getD .non) m := by
  rw [evF_to g.h14 rfl]
  cases n with
  | zero =>
    have e : kindOf m 0 x = none := by
      cases x with
      | str s => exact absurd rfl (hs s)
      | _ => rfl
    rw [e]
    exists f14, r.ty, eq_ii, cast0
    rfl
  | succ n =>
    rw [kindOf_row hs r.sq]
    have hn0 : ¬ ((n + 1 : Nat) : Int) = 0 := by omega
    have hm : ((n + 1 : Nat) : Int) - 1 = (n : Int) := by omega
    by_cases hl : xs.length = 3
    · obtain ⟨a, b, c, rfl⟩ : ∃ a b c, xs = [a, b, c] := by
        match xs, hl with
        | [a, b, c], _ => exact ⟨a, b, c, rfl⟩
      have h3 : (([a, b, c] : List D).length : Int) = 3 := rfl
      have hb := h b (by simp) n rfl
      have hc := h c (by simp) n rfl
      rcases ht a (by simp) with ⟨s, rfl⟩ | ⟨hf, hf2⟩
      · have e2 : (wFun == s || wPair == s) = isC s := by
          unfold isC
          simp only [BEq.comm (a := s)]
        have e3 : rowK (kindOf m n) [.str s, b, c] = if isC s = true then (match kindOf m n b, kindOf m n c with
          | some p, some q => some (.tup [.str s, p, q])
          | _, _ => none) else none := rfl
        rw [e3]
        exists f14, r.ty, eq_ii, hn0, is_row g r.row, r.len, h3, r.ix, D.flat, f_ss, e2
        cases hcs : isC s with
        | false => exists K_tup; rfl
        | true =>
          exists r.ix, hm, hb, hc
          cases hkb : kindOf m n b with
          | none =>
            cases hkc : kindOf m n c with
            | none => exists Option.getD_none, Option.getD_some
            | some q => exists Option.getD_none, Option.getD_some
          | some p =>
            have hp := kindOf_non hkb
            cases hkc : kindOf m n c with
            | none => exists Option.getD_none, Option.getD_some, hp
            | some q => exists Option.getD_none, Option.getD_some, hp, kindOf_non hkc, r.ix
      · rw [rowK_no hf2]
        exists f14, r.ty, eq_ii, hn0, is_row g r.row, r.len, h3, r.ix, hf
        rfl
    · have h3 : ¬ (xs.length : Int) = 3 := by omega
      rw [rowK_len hl]
      exists f14, r.ty, eq_ii, hn0, is_row g r.row, r.len, h3
      rfl
theorem kind_no {k n : Nat} (g : Gk T) {x : D} (h1 : isTy m x [.str] = some false) (h2 : isTy m x [.list, .tuple] = some false) (h3 : seqOf m x = none) (hs : ∀ s, x ≠ .str s) : evF T (k + 2) 14 [.dat x, .dat (.int n)] m = .ok ((kindOf m n x).getD .non) m := by
  have e : kindOf m n x = none := by
    cases n with
    | zero =>
      cases x with
      | str s => exact absurd rfl (hs s)
      | _ => rfl
    | succ n =>
      have : kindOf m (n + 1) x = (match seqOf m x with
        | some xs => rowK (kindOf m n) xs
        | none => none) := by
        cases x with
        | str s => exact absurd rfl (hs s)
        | _ => rfl
      rw [this, h3]
  rw [evF_to g.h14 rfl, e]
  cases n with
  | zero =>
    exists f14, h1, eq_ii, cast0
    rfl
  | succ n =>
    have hn0 : ¬ ((n + 1 : Nat) : Int) = 0 := by omega
    exists f14, h1, eq_ii, hn0, is_row g h2
    rfl
theorem rd_pos {N : Nat} {x : D} (h : rd m N x = true) : ∃ j, N = j + 1 := by
  cases N with
  | zero => simp [rd] at h
  | succ j => exact ⟨j, rfl⟩
theorem rd_mono : ∀ {n n' : Nat} {x : D}, rd m n x = true → n ≤ n' → rd m n' x = true
  | 0, _, x, h, _ => by simp [rd] at h
  | n + 1, 0, x, h, hn => by omega
  | n + 1, n' + 1, x, h, hn => by
    have all : ∀ xs : List D, (∀ y ∈ xs, rd m n y = true) → ∀ y ∈ xs, rd m n' y = true := fun xs h y hy => rd_mono (h y hy) (by omega)
    cases x with
    | tup xs =>
      simp only [rd, Bool.and_eq_true, List.all_eq_true] at h ⊢
      exact ⟨h.1, all xs h.2⟩
    | lst xs =>
      simp only [rd, Bool.and_eq_true, List.all_eq_true] at h ⊢
      exact ⟨h.1, all xs h.2⟩
    | ref r =>
      simp only [rd] at h ⊢
      cases hr : m[r]? with
      | none => rw [hr] at h; cases h
      | some c =>
        rw [hr] at h
        cases c with
        | lst xs =>
          simp only [Bool.and_eq_true, List.all_eq_true] at h ⊢
          exact ⟨h.1, all xs h.2⟩
        | dic kvs =>
          simp only [Bool.and_eq_true, List.all_eq_true] at h ⊢
          exact ⟨h.1, fun p hp => ⟨(h.2 p hp).1, rd_mono (h.2 p hp).2 (by omega)⟩⟩
    | _ => simpa [rd] using h
theorem rd_ty {N : Nat} {x : D} (h : rd m N x = true) : (∃ s, x = .str s) ∨ (isTy m x [.str] = some false ∧ ∀ s, x ≠ .str s) := by
  obtain ⟨j, rfl⟩ := rd_pos h
  cases x with
  | str s => exact .inl ⟨s, rfl⟩
  | ref r =>
    refine .inr ⟨?_, fun s z => nomatch z⟩
    simp only [rd] at h
    rw [y_ref]
    cases hr : m[r]? with
    | none => rw [hr] at h; cases h
    | some c => cases c <;> rfl
  | dic _ => simp [rd] at h
  | cdic _ => simp [rd] at h
  | _ => exact .inr ⟨rfl, fun s z => nomatch z⟩
theorem kind_in (g : Gk T) : ∀ (n N : Nat) (x : D) (K : Nat), rd m N x = true → n + 2 ≤ K → evF T K 14 [.dat x, .dat (.int n)] m = .ok ((kindOf m n x).getD .non) m
  | n, N, x, K, h, hK => by
    obtain ⟨K, rfl⟩ : ∃ j, K = j + 2 := ⟨K - 2, by omega⟩
    obtain ⟨N, rfl⟩ := rd_pos h
    have row : ∀ xs, IsRow m x xs → (∀ s, x ≠ .str s) → (∀ y ∈ xs, rd m N y = true) → evF T (K + 2) 14 [.dat x, .dat (.int n)] m = .ok ((kindOf m n x).getD .non) m := fun xs r hs hx =>
      kind_row g r hs (fun y hy => rd_ty (hx y hy)) fun y hy n' hn' => kind_in g n' N y (K + 1) (hx y hy) (by omega)
    cases x with
    | str s => exact kind_str g
    | tup xs =>
      simp only [rd, Bool.and_eq_true, List.all_eq_true] at h
      exact row xs (isRow_of (.inl rfl)) (fun s z => nomatch z) h.2
    | lst xs =>
      simp only [rd, Bool.and_eq_true, List.all_eq_true] at h
      exact row xs (isRow_of (.inr (.inl rfl))) (fun s z => nomatch z) h.2
    | ref r =>
      simp only [rd] at h
      cases hr : m[r]? with
      | none => rw [hr] at h; cases h
      | some c =>
        rw [hr] at h
        cases c with
        | lst xs =>
          simp only [Bool.and_eq_true, List.all_eq_true] at h
          exact row xs (isRow_of (.inr (.inr ⟨r, rfl, hr⟩))) (fun s z => nomatch z) h.2
        | dic kvs => exact kind_no g (by rw [y_ref, hr]; rfl) (by rw [y_ref, hr]; rfl) (by rw [q_ref, hr]; rfl) (fun s z => nomatch z)
    | non => exact kind_no g rfl rfl rfl (fun s z => nomatch z)
    | bl b => exact kind_no g rfl rfl rfl (fun s z => nomatch z)
    | int i => exact kind_no g rfl rfl rfl (fun s z => nomatch z)
    | dic _ => simp [rd] at h
    | cdic _ => simp [rd] at h
/-! ### loose kinds -/
mutual
theorem rd_lo : ∀ (d x : D), pl d = true → sz d ≤ 100000 → loD d x → rd m (dep d + 1) x = true
  | .non, x, _, _, h => by simp only [loD] at h; subst h; rfl
  | .bl _, x, _, _, h => by simp only [loD] at h; subst h; rfl
  | .int _, x, _, _, h => by simp only [loD] at h; subst h; rfl
  | .str s, x, hp, _, h => by simp only [loD] at h; subst h; simpa [rd, okTx, dep, pl] using hp
  | .tup ds, x, hp, hz, h => by
    simp only [pl] at hp
    simp only [sz] at hz
    simp only [loD] at h
    obtain ⟨ys, h1, h2⟩ := h
    have hl := len_sz ds
    have h3 := rd_loL ds ys (depL ds + 1) hp (by omega) h1 (Nat.le_refl _)
    have h4 : decide (ys.length ≤ 100000) = true := decide_eq_true (by rw [loL_len h1]; omega)
    have h5 : ys.all (rd m (depL ds + 1)) = true := List.all_eq_true.mpr h3
    rcases h2 with rfl | rfl
    · rw [dep, rd_tup, h4, h5]; rfl
    · rw [dep, rd_lst, h4, h5]; rfl
  | .lst ds, x, hp, hz, h => by
    simp only [pl] at hp
    simp only [sz] at hz
    simp only [loD] at h
    obtain ⟨ys, h1, h2⟩ := h
    have hl := len_sz ds
    have h3 := rd_loL ds ys (depL ds + 1) hp (by omega) h1 (Nat.le_refl _)
    have h4 : decide (ys.length ≤ 100000) = true := decide_eq_true (by rw [loL_len h1]; omega)
    have h5 : ys.all (rd m (depL ds + 1)) = true := List.all_eq_true.mpr h3
    rcases h2 with rfl | rfl
    · rw [dep, rd_tup, h4, h5]; rfl
    · rw [dep, rd_lst, h4, h5]; rfl
  | .dic _, _, hp, _, _ => by simp [pl] at hp
  | .ref _, _, hp, _, _ => by simp [pl] at hp
  | .cdic _, _, hp, _, _ => by simp [pl] at hp
theorem rd_loL : ∀ (ds ys : List D) (n : Nat), plL ds = true → szL ds ≤ 100000 → loL ds ys → depL ds + 1 ≤ n → ∀ y ∈ ys, rd m n y = true
  | [], ys, n, _, _, h, _, y, hy => by simp only [loL] at h; subst h; cases hy
  | d :: ds, ys, n, hp, hz, h, hn, y, hy => by
    simp only [plL, Bool.and_eq_true] at hp
    simp only [szL] at hz
    simp only [loL] at h
    simp only [depL] at hn
    obtain ⟨z, r, rfl, h1, h2⟩ := h
    rcases List.mem_cons.mp hy with rfl | hy
    · exact rd_mono (rd_lo d y hp.1 (by omega) h1) (by omega)
    · exact rd_loL ds r n hp.2 (by omega) h2 (by omega) y hy
end
end
end Ev
/-! Pl7: kinds: the program's functions -/
namespace Ev
open PySem Fs
local macro_rules | `(tactic| exists $es,*) => `(tactic| simp only [e_var, e_con, e_glo, e_attr, o_ex, o_peek, os_nil, to_no, to_ex, es_nil, as_nil, eo_no, ss_nil, st_retn, st_pass, st_brk, st_cnt, hs_nil, tg_nm, tg_tp, sa_nil, sa_cons, R.bnd_ok, R.bind_ex, R.st_ok, R.st_ex, R.of_some, SR.out_nx, SR.out_rt, SR.out_ex, getV_0, getV_s, getE_0, getE_s, set_0, set_s, args_0, args_1, args_2, args_3, args_4, args_5, slot_d, slot_c, rep_0, rep_s, cellD_l, cellD_d, cloS_c, excS_x, ownS_o, ownL_l, lstC_l, getAll_nil, getAll_cons, consO_s, intO_i, E_tup, E_mk, E_mkr, E_bin, E_neg, E_cmp, E_not, E_and, E_or, E_ite, E_idx, E_sl, E_call, E_callk, E_app, E_isin, E_bi, E_meth, E_all, Os_cons, T_val, T_cmp, T_not, T_and, T_or, Es_cons, As_dat, As_lam, As_pas, Eo_ex, L_disp, L_copy, L_comp, L_cat, L_slice, L_ddisp, L_dict, L_litems, S_it, S_rng, S_rng2, S_enm, S_zip, Ss_cons, St_asg, St_par, St_own, St_frz, St_exp, St_oapp, St_oext, St_setr, St_ife, St_for, St_whl, St_ret, St_raise, St_try, Hs_some, Hs_none, K_tup, K_mk, K_mkr, K_bin2, K_bin1, K_neg, K_cmp2, K_cmp1, K_not, K_nbl, K_and, K_and_t, K_and_f, K_or, K_or_t, K_or_f, K_ite_t, K_ite_f, K_idx2, K_idx1, K_sl3, K_sl2, K_sl1, K_call, K_callk, K_callk_s, K_app, K_app_s, K_isin, K_bi, K_meth2, K_meth_s, K_meth1, K_meth_t, K_all, K_cons, K_os, K_tval, K_tcmp2, K_tcmp1, K_tnot, K_tand_t, K_tand_f, K_tor_t, K_tor_f, K_es, K_as, K_lam, K_pas, K_eo, K_disp, K_copy, K_comp, K_cat2, K_cat1, K_slc3, K_slc2, K_slc1, K_dd, K_dict, K_items, K_it, K_rng, K_rng2b, K_rng2a, K_enm, K_zip2, K_zip1, K_then, K_then_rt, K_then_bk, K_then_ct, K_then_ex, K_asg, K_asg_s, K_par2, K_par1, K_own, K_frz, K_exp, K_yes, K_oapp, K_oapp_s, K_oextL, K_oext, K_oext_s, K_sr, K_sr3, K_sr2, K_sr1, K_if_t, K_if_f, K_for, K_ret, K_raise, K_try_nx, K_try_rt, K_try_ex, K_fin_nx, K_fin_rt, K_fin0_nx, K_fin0_rt, K_hs_t, K_hs_f, K_hs0_t, K_hs0_f, sr_ref, sr_l, noExc_nil, noExc_cons, noX_v, noX_n, noX_x, noX_c, noX_o, gd_t, forL_congr, whileL_congr, compR_congr, compL_congr, b_add, b_sub, b_mul, b_mod, b_div, b_pow, b_cats, b_catl, b_catt, lstAt_l, lstAt_d, dicAt_l, dicAt_d, q_ref, q_tup, q_lst, q_non, q_bl, q_int, q_str, q_dic, c_ref, c_dic, c_tup, c_lst, c_str, c_int, r_ref, r_non, r_bl, r_int, r_str, r_tup, r_lst, y_ref, y_non, y_bl, y_int, y_str, y_tup, y_lst, y_dic, tyAt_l, tyAt_d, anyTy_0, anyTy_s, x_tup, x_lst, x_ref, idxAt_l, idxAt_d, x_cdic, x_dic, x_str, k_int, k_str, v_eq, v_ne, v_lt, v_le, v_gt, v_ge, v_in, v_nin, v_is, v_isn, eq_ii, non_non, non_bl, non_int, non_str, non_tup, non_lst, non_ref, non_dic, in_tup, in_cdic, f_ss, bi_lens, bi_lent, bi_lenl, bi_lenr, lenAt_l, bi_max, bi_min, bi_int, bi_intb, bi_tup, ix_0, ix_1, ix_2, ix_3, ix_4, nth_0, nth_s, nset_0, nset_s, me_ok_pop, me_ok_app, me_ok_cnt, me_ok_cntl, me_ok_get, me_pop, pop_0, me_app, Int.cast_ofNat_Int, Int.natCast_zero, Int.natCast_one, reduceCtorEq, Option.bind_some, Option.map_some, Option.bind_none, Option.map_none, List.map_nil, List.map_cons, List.length_cons, List.length_nil, Int.reduceLT, Int.reduceLE, Int.reduceEq, Int.reduceNe, Int.reduceNeg, Int.reducePow, Int.reduceToNat, Int.reduceAdd, Int.reduceSub, Int.reduceMul, Nat.reduceLT, Nat.reduceLeDiff, Nat.reduceAdd, Nat.reduceSub, Nat.reduceEqDiff, Nat.reduceBEq, Nat.reducePow, and_self, true_and, and_true, Bool.false_eq_true, if_true, if_false, Option.isSome_some, Option.isSome_none, Bool.not_true, Bool.not_false, List.any_nil, List.any_cons, List.all_nil, List.all_cons, Bool.or_true, Bool.true_or, Bool.or_false, Bool.false_or, Bool.and_true, Bool.true_and, Bool.false_and, Bool.and_false, decide_true, decide_false, List.nil_append, List.cons_append, List.append_nil, $[$es:term],*])

section
variable {T : Txt} {m : Mem}
theorem lo3 {w : List Nat} {a b x : D} (h : loD (.tup [.str w, a, b]) x) : ∃ y z, loD a y ∧ loD b z ∧ (x = .tup [.str w, y, z] ∨ x = .lst [.str w, y, z]) := by
  simp only [loD, loL] at h
  obtain ⟨ys, ⟨y0, r0, rfl, rfl, y, r1, rfl, h1, z, r2, rfl, h2, rfl⟩, h3⟩ := h
  exact ⟨y, z, h1, h2, h3⟩
theorem kindOf_lo : ∀ (k : Ki) (n : Nat) (x : D), loD k.d x → kindOf m n x = if k.deep ≤ n then some k.d else none
  | .num, n, x, h => by simp only [Ki.d, loD] at h; subst h; cases n <;> rfl
  | .tru, n, x, h => by simp only [Ki.d, loD] at h; subst h; cases n <;> rfl
  | .any, n, x, h => by simp only [Ki.d, loD] at h; subst h; cases n <;> rfl
  | .fn a b, 0, x, h => by
    obtain ⟨y, z, _, _, h3⟩ := lo3 h
    rw [if_neg (by simp [Ki.deep])]
    rcases h3 with rfl | rfl <;> rfl
  | .pr a b, 0, x, h => by
    obtain ⟨y, z, _, _, h3⟩ := lo3 h
    rw [if_neg (by simp [Ki.deep])]
    rcases h3 with rfl | rfl <;> rfl
  | .fn a b, n + 1, x, h => by
    obtain ⟨y, z, h1, h2, h3⟩ := lo3 h
    have e : kindOf m (n + 1) x = rowK (kindOf m n) [.str wFun, y, z] := by rcases h3 with rfl | rfl <;> rfl
    rw [e]
    show (match kindOf m n y, kindOf m n z with | some p, some q => some (D.tup [.str wFun, p, q]) | _, _ => none) = _
    rw [kindOf_lo a n y h1, kindOf_lo b n z h2]
    have hd : (Ki.fn a b).deep = max a.deep b.deep + 1 := rfl
    by_cases ha : a.deep ≤ n
    · by_cases hb : b.deep ≤ n
      · rw [if_pos ha, if_pos hb, if_pos (by omega)]; rfl
      · rw [if_pos ha, if_neg hb, if_neg (by omega)]
    · rw [if_neg ha, if_neg (show ¬ (Ki.fn a b).deep ≤ n + 1 by omega)]
  | .pr a b, n + 1, x, h => by
    obtain ⟨y, z, h1, h2, h3⟩ := lo3 h
    have e : kindOf m (n + 1) x = rowK (kindOf m n) [.str wPair, y, z] := by rcases h3 with rfl | rfl <;> rfl
    rw [e]
    show (match kindOf m n y, kindOf m n z with | some p, some q => some (D.tup [.str wPair, p, q]) | _, _ => none) = _
    rw [kindOf_lo a n y h1, kindOf_lo b n z h2]
    have hd : (Ki.pr a b).deep = max a.deep b.deep + 1 := rfl
    by_cases ha : a.deep ≤ n
    · by_cases hb : b.deep ≤ n
      · rw [if_pos ha, if_pos hb, if_pos (by omega)]; rfl
      · rw [if_pos ha, if_neg hb, if_neg (by omega)]
    · rw [if_neg ha, if_neg (show ¬ (Ki.pr a b).deep ≤ n + 1 by omega)]
theorem lo_self : ∀ k : Ki, loD k.d k.d
  | .num => by simp [Ki.d, loD]
  | .tru => by simp [Ki.d, loD]
  | .any => by simp [Ki.d, loD]
  | .fn a b => by
    simp only [Ki.d, loD, loL]
    exact ⟨[.str wFun, a.d, b.d], ⟨_, _, rfl, rfl, _, _, rfl, lo_self a, _, _, rfl, lo_self b, rfl⟩, .inl rfl⟩
  | .pr a b => by
    simp only [Ki.d, loD, loL]
    exact ⟨[.str wPair, a.d, b.d], ⟨_, _, rfl, rfl, _, _, rfl, lo_self a, _, _, rfl, lo_self b, rfl⟩, .inl rfl⟩
/-- the thing is the kind k as told -/
structure Told (m : Mem) (x : D) (k : Ki) : Prop where
  rd : ∃ N, Ev.rd m N x = true
  is : kindOf m 6 x = some k.d
theorem told_lo {k : Ki} {x : D} (h : loD k.d x) (hd : k.deep ≤ 6) : Told m x k := by
  refine ⟨⟨_, rd_lo k.d x k.pl_d (by have := Ki.sz6 hd (by omega); omega) h⟩, ?_⟩
  rw [kindOf_lo k 6 x h, if_pos hd]
theorem need_kind {K : Nat} (g : Gk T) {x : D} {k : Ki} (h : Told m x k) (hK : 8 ≤ K) : evF T (K + 1) 15 [.dat x] m = .ok k.d m := by
  obtain ⟨N, hN⟩ := h.rd
  have e := kind_in g 6 N x K hN (by omega)
  rw [h.is] at e
  have hk := kindOf_non h.is
  rw [evF_to g.h15 rfl]
  simp only [f15, e_var, e_con, e_glo, e_attr, o_ex, o_peek, os_nil, to_no, to_ex, es_nil, as_nil, eo_no, ss_nil, st_retn, st_pass, st_brk, st_cnt, hs_nil, tg_nm, tg_tp, sa_nil, sa_cons, R.bnd_ok, R.bind_ex, R.st_ok, R.st_ex, R.of_some, SR.out_nx, SR.out_rt, SR.out_ex, getV_0, getV_s, getE_0, getE_s, set_0, set_s, args_0, args_1, args_2, args_3, args_4, args_5, slot_d, slot_c, rep_0, rep_s, cellD_l, cellD_d, cloS_c, excS_x, ownS_o, ownL_l, lstC_l, getAll_nil, getAll_cons, consO_s, intO_i, E_tup, E_mk, E_mkr, E_bin, E_neg, E_cmp, E_not, E_and, E_or, E_ite, E_idx, E_sl, E_call, E_callk, E_app, E_isin, E_bi, E_meth, E_all, Os_cons, T_val, T_cmp, T_not, T_and, T_or, Es_cons, As_dat, As_lam, As_pas, Eo_ex, L_disp, L_copy, L_comp, L_cat, L_slice, L_ddisp, L_dict, L_litems, S_it, S_rng, S_rng2, S_enm, S_zip, Ss_cons, St_asg, St_par, St_own, St_frz, St_exp, St_oapp, St_oext, St_setr, St_ife, St_for, St_whl, St_ret, St_raise, St_try, Hs_some, Hs_none, K_tup, K_mk, K_mkr, K_bin2, K_bin1, K_neg, K_cmp2, K_cmp1, K_not, K_nbl, K_and, K_and_t, K_and_f, K_or, K_or_t, K_or_f, K_ite_t, K_ite_f, K_idx2, K_idx1, K_sl3, K_sl2, K_sl1, K_call, K_callk, K_callk_s, K_app, K_app_s, K_isin, K_bi, K_meth2, K_meth_s, K_meth1, K_meth_t, K_all, K_cons, K_os, K_tval, K_tcmp2, K_tcmp1, K_tnot, K_tand_t, K_tand_f, K_tor_t, K_tor_f, K_es, K_as, K_lam, K_pas, K_eo, K_disp, K_copy, K_comp, K_cat2, K_cat1, K_slc3, K_slc2, K_slc1, K_dd, K_dict, K_items, K_it, K_rng, K_rng2b, K_rng2a, K_enm, K_zip2, K_zip1, K_then, K_then_rt, K_then_bk, K_then_ct, K_then_ex, K_asg, K_asg_s, K_par2, K_par1, K_own, K_frz, K_exp, K_yes, K_oapp, K_oapp_s, K_oextL, K_oext, K_oext_s, K_sr, K_sr3, K_sr2, K_sr1, K_if_t, K_if_f, K_for, K_ret, K_raise, K_try_nx, K_try_rt, K_try_ex, K_fin_nx, K_fin_rt, K_fin0_nx, K_fin0_rt, K_hs_t, K_hs_f, K_hs0_t, K_hs0_f, sr_ref, sr_l, noExc_nil, noExc_cons, noX_v, noX_n, noX_x, noX_c, noX_o, gd_t, forL_congr, whileL_congr, compR_congr, compL_congr, b_add, b_sub, b_mul, b_mod, b_div, b_pow, b_cats, b_catl, b_catt, lstAt_l, lstAt_d, dicAt_l, dicAt_d, q_ref, q_tup, q_lst, q_non, q_bl, q_int, q_str, q_dic, c_ref, c_dic, c_tup, c_lst, c_str, c_int, r_ref, r_non, r_bl, r_int, r_str, r_tup, r_lst, y_ref, y_non, y_bl, y_int, y_str, y_tup, y_lst, y_dic, tyAt_l, tyAt_d, anyTy_0, anyTy_s, x_tup, x_lst, x_ref, idxAt_l, idxAt_d, x_cdic, x_dic, x_str, k_int, k_str, v_eq, v_ne, v_lt, v_le, v_gt, v_ge, v_in, v_nin, v_is, v_isn, eq_ii, non_non, non_bl, non_int, non_str, non_tup, non_lst, non_ref, non_dic, in_tup, in_cdic, f_ss, bi_lens, bi_lent, bi_lenl, bi_lenr, lenAt_l, bi_max, bi_min, bi_int, bi_intb, bi_tup, ix_0, ix_1, ix_2, ix_3, ix_4, nth_0, nth_s, nset_0, nset_s, me_ok_pop, me_ok_app, me_ok_cnt, me_ok_cntl, me_ok_get, me_pop, pop_0, me_app, Int.cast_ofNat_Int, Int.natCast_zero, Int.natCast_one, reduceCtorEq, Option.bind_some, Option.map_some, Option.bind_none, Option.map_none, List.map_nil, List.map_cons, List.length_cons, List.length_nil, Int.reduceLT, Int.reduceLE, Int.reduceEq, Int.reduceNe, Int.reduceNeg, Int.reducePow, Int.reduceToNat, Int.reduceAdd, Int.reduceSub, Int.reduceMul, Nat.reduceLT, Nat.reduceLeDiff, Nat.reduceAdd, Nat.reduceSub, Nat.reduceEqDiff, Nat.reduceBEq, Nat.reducePow, and_self, true_and, and_true, Bool.false_eq_true, if_true, if_false, Option.isSome_some, Option.isSome_none, Bool.not_true, Bool.not_false, List.any_nil, List.any_cons, List.all_nil, List.all_cons, Bool.or_true, Bool.true_or, Bool.or_false, Bool.false_or, Bool.and_true, Bool.true_and, Bool.false_and, Bool.and_false, decide_true, decide_false, List.nil_append, List.cons_append, List.append_nil, g.c3, show ((6 : Nat) : Int) = 6 from rfl] at e ⊢
  exists e, Option.getD_some, hk
theorem need_kind_no {K N : Nat} (g : Gk T) {x : D} (hN : rd m N x = true) (h : kindOf m 6 x = none) (hK : 8 ≤ K) : evF T (K + 1) 15 [.dat x] m = .ex ⟨12, [([116, 104, 105, 110, 103], x)]⟩ m := by
  have e := kind_in g 6 N x K hN (by omega)
  rw [h] at e
  rw [evF_to g.h15 rfl]
  simp only [f15, e_var, e_con, e_glo, e_attr, o_ex, o_peek, os_nil, to_no, to_ex, es_nil, as_nil, eo_no, ss_nil, st_retn, st_pass, st_brk, st_cnt, hs_nil, tg_nm, tg_tp, sa_nil, sa_cons, R.bnd_ok, R.bind_ex, R.st_ok, R.st_ex, R.of_some, SR.out_nx, SR.out_rt, SR.out_ex, getV_0, getV_s, getE_0, getE_s, set_0, set_s, args_0, args_1, args_2, args_3, args_4, args_5, slot_d, slot_c, rep_0, rep_s, cellD_l, cellD_d, cloS_c, excS_x, ownS_o, ownL_l, lstC_l, getAll_nil, getAll_cons, consO_s, intO_i, E_tup, E_mk, E_mkr, E_bin, E_neg, E_cmp, E_not, E_and, E_or, E_ite, E_idx, E_sl, E_call, E_callk, E_app, E_isin, E_bi, E_meth, E_all, Os_cons, T_val, T_cmp, T_not, T_and, T_or, Es_cons, As_dat, As_lam, As_pas, Eo_ex, L_disp, L_copy, L_comp, L_cat, L_slice, L_ddisp, L_dict, L_litems, S_it, S_rng, S_rng2, S_enm, S_zip, Ss_cons, St_asg, St_par, St_own, St_frz, St_exp, St_oapp, St_oext, St_setr, St_ife, St_for, St_whl, St_ret, St_raise, St_try, Hs_some, Hs_none, K_tup, K_mk, K_mkr, K_bin2, K_bin1, K_neg, K_cmp2, K_cmp1, K_not, K_nbl, K_and, K_and_t, K_and_f, K_or, K_or_t, K_or_f, K_ite_t, K_ite_f, K_idx2, K_idx1, K_sl3, K_sl2, K_sl1, K_call, K_callk, K_callk_s, K_app, K_app_s, K_isin, K_bi, K_meth2, K_meth_s, K_meth1, K_meth_t, K_all, K_cons, K_os, K_tval, K_tcmp2, K_tcmp1, K_tnot, K_tand_t, K_tand_f, K_tor_t, K_tor_f, K_es, K_as, K_lam, K_pas, K_eo, K_disp, K_copy, K_comp, K_cat2, K_cat1, K_slc3, K_slc2, K_slc1, K_dd, K_dict, K_items, K_it, K_rng, K_rng2b, K_rng2a, K_enm, K_zip2, K_zip1, K_then, K_then_rt, K_then_bk, K_then_ct, K_then_ex, K_asg, K_asg_s, K_par2, K_par1, K_own, K_frz, K_exp, K_yes, K_oapp, K_oapp_s, K_oextL, K_oext, K_oext_s, K_sr, K_sr3, K_sr2, K_sr1, K_if_t, K_if_f, K_for, K_ret, K_raise, K_try_nx, K_try_rt, K_try_ex, K_fin_nx, K_fin_rt, K_fin0_nx, K_fin0_rt, K_hs_t, K_hs_f, K_hs0_t, K_hs0_f, sr_ref, sr_l, noExc_nil, noExc_cons, noX_v, noX_n, noX_x, noX_c, noX_o, gd_t, forL_congr, whileL_congr, compR_congr, compL_congr, b_add, b_sub, b_mul, b_mod, b_div, b_pow, b_cats, b_catl, b_catt, lstAt_l, lstAt_d, dicAt_l, dicAt_d, q_ref, q_tup, q_lst, q_non, q_bl, q_int, q_str, q_dic, c_ref, c_dic, c_tup, c_lst, c_str, c_int, r_ref, r_non, r_bl, r_int, r_str, r_tup, r_lst, y_ref, y_non, y_bl, y_int, y_str, y_tup, y_lst, y_dic, tyAt_l, tyAt_d, anyTy_0, anyTy_s, x_tup, x_lst, x_ref, idxAt_l, idxAt_d, x_cdic, x_dic, x_str, k_int, k_str, v_eq, v_ne, v_lt, v_le, v_gt, v_ge, v_in, v_nin, v_is, v_isn, eq_ii, non_non, non_bl, non_int, non_str, non_tup, non_lst, non_ref, non_dic, in_tup, in_cdic, f_ss, bi_lens, bi_lent, bi_lenl, bi_lenr, lenAt_l, bi_max, bi_min, bi_int, bi_intb, bi_tup, ix_0, ix_1, ix_2, ix_3, ix_4, nth_0, nth_s, nset_0, nset_s, me_ok_pop, me_ok_app, me_ok_cnt, me_ok_cntl, me_ok_get, me_pop, pop_0, me_app, Int.cast_ofNat_Int, Int.natCast_zero, Int.natCast_one, reduceCtorEq, Option.bind_some, Option.map_some, Option.bind_none, Option.map_none, List.map_nil, List.map_cons, List.length_cons, List.length_nil, Int.reduceLT, Int.reduceLE, Int.reduceEq, Int.reduceNe, Int.reduceNeg, Int.reducePow, Int.reduceToNat, Int.reduceAdd, Int.reduceSub, Int.reduceMul, Nat.reduceLT, Nat.reduceLeDiff, Nat.reduceAdd, Nat.reduceSub, Nat.reduceEqDiff, Nat.reduceBEq, Nat.reducePow, and_self, true_and, and_true, Bool.false_eq_true, if_true, if_false, Option.isSome_some, Option.isSome_none, Bool.not_true, Bool.not_false, List.any_nil, List.any_cons, List.all_nil, List.all_cons, Bool.or_true, Bool.true_or, Bool.or_false, Bool.false_or, Bool.and_true, Bool.true_and, Bool.false_and, Bool.and_false, decide_true, decide_false, List.nil_append, List.cons_append, List.append_nil, g.c3] at e ⊢
  exists e, Option.getD_none
  rfl
theorem is_kind {K N : Nat} (g : Gk T) {x : D} (hN : rd m N x = true) (hK : 8 ≤ K) : evF T (K + 1) 19 [.dat x] m = .ok (.bl (kindOf m 6 x).isSome) m := by
  have e := kind_in g 6 N x K hN (by omega)
  rw [evF_to g.h19 rfl]
  simp only [f19, e_var, e_con, e_glo, e_attr, o_ex, o_peek, os_nil, to_no, to_ex, es_nil, as_nil, eo_no, ss_nil, st_retn, st_pass, st_brk, st_cnt, hs_nil, tg_nm, tg_tp, sa_nil, sa_cons, R.bnd_ok, R.bind_ex, R.st_ok, R.st_ex, R.of_some, SR.out_nx, SR.out_rt, SR.out_ex, getV_0, getV_s, getE_0, getE_s, set_0, set_s, args_0, args_1, args_2, args_3, args_4, args_5, slot_d, slot_c, rep_0, rep_s, cellD_l, cellD_d, cloS_c, excS_x, ownS_o, ownL_l, lstC_l, getAll_nil, getAll_cons, consO_s, intO_i, E_tup, E_mk, E_mkr, E_bin, E_neg, E_cmp, E_not, E_and, E_or, E_ite, E_idx, E_sl, E_call, E_callk, E_app, E_isin, E_bi, E_meth, E_all, Os_cons, T_val, T_cmp, T_not, T_and, T_or, Es_cons, As_dat, As_lam, As_pas, Eo_ex, L_disp, L_copy, L_comp, L_cat, L_slice, L_ddisp, L_dict, L_litems, S_it, S_rng, S_rng2, S_enm, S_zip, Ss_cons, St_asg, St_par, St_own, St_frz, St_exp, St_oapp, St_oext, St_setr, St_ife, St_for, St_whl, St_ret, St_raise, St_try, Hs_some, Hs_none, K_tup, K_mk, K_mkr, K_bin2, K_bin1, K_neg, K_cmp2, K_cmp1, K_not, K_nbl, K_and, K_and_t, K_and_f, K_or, K_or_t, K_or_f, K_ite_t, K_ite_f, K_idx2, K_idx1, K_sl3, K_sl2, K_sl1, K_call, K_callk, K_callk_s, K_app, K_app_s, K_isin, K_bi, K_meth2, K_meth_s, K_meth1, K_meth_t, K_all, K_cons, K_os, K_tval, K_tcmp2, K_tcmp1, K_tnot, K_tand_t, K_tand_f, K_tor_t, K_tor_f, K_es, K_as, K_lam, K_pas, K_eo, K_disp, K_copy, K_comp, K_cat2, K_cat1, K_slc3, K_slc2, K_slc1, K_dd, K_dict, K_items, K_it, K_rng, K_rng2b, K_rng2a, K_enm, K_zip2, K_zip1, K_then, K_then_rt, K_then_bk, K_then_ct, K_then_ex, K_asg, K_asg_s, K_par2, K_par1, K_own, K_frz, K_exp, K_yes, K_oapp, K_oapp_s, K_oextL, K_oext, K_oext_s, K_sr, K_sr3, K_sr2, K_sr1, K_if_t, K_if_f, K_for, K_ret, K_raise, K_try_nx, K_try_rt, K_try_ex, K_fin_nx, K_fin_rt, K_fin0_nx, K_fin0_rt, K_hs_t, K_hs_f, K_hs0_t, K_hs0_f, sr_ref, sr_l, noExc_nil, noExc_cons, noX_v, noX_n, noX_x, noX_c, noX_o, gd_t, forL_congr, whileL_congr, compR_congr, compL_congr, b_add, b_sub, b_mul, b_mod, b_div, b_pow, b_cats, b_catl, b_catt, lstAt_l, lstAt_d, dicAt_l, dicAt_d, q_ref, q_tup, q_lst, q_non, q_bl, q_int, q_str, q_dic, c_ref, c_dic, c_tup, c_lst, c_str, c_int, r_ref, r_non, r_bl, r_int, r_str, r_tup, r_lst, y_ref, y_non, y_bl, y_int, y_str, y_tup, y_lst, y_dic, tyAt_l, tyAt_d, anyTy_0, anyTy_s, x_tup, x_lst, x_ref, idxAt_l, idxAt_d, x_cdic, x_dic, x_str, k_int, k_str, v_eq, v_ne, v_lt, v_le, v_gt, v_ge, v_in, v_nin, v_is, v_isn, eq_ii, non_non, non_bl, non_int, non_str, non_tup, non_lst, non_ref, non_dic, in_tup, in_cdic, f_ss, bi_lens, bi_lent, bi_lenl, bi_lenr, lenAt_l, bi_max, bi_min, bi_int, bi_intb, bi_tup, ix_0, ix_1, ix_2, ix_3, ix_4, nth_0, nth_s, nset_0, nset_s, me_ok_pop, me_ok_app, me_ok_cnt, me_ok_cntl, me_ok_get, me_pop, pop_0, me_app, Int.cast_ofNat_Int, Int.natCast_zero, Int.natCast_one, reduceCtorEq, Option.bind_some, Option.map_some, Option.bind_none, Option.map_none, List.map_nil, List.map_cons, List.length_cons, List.length_nil, Int.reduceLT, Int.reduceLE, Int.reduceEq, Int.reduceNe, Int.reduceNeg, Int.reducePow, Int.reduceToNat, Int.reduceAdd, Int.reduceSub, Int.reduceMul, Nat.reduceLT, Nat.reduceLeDiff, Nat.reduceAdd, Nat.reduceSub, Nat.reduceEqDiff, Nat.reduceBEq, Nat.reducePow, and_self, true_and, and_true, Bool.false_eq_true, if_true, if_false, Option.isSome_some, Option.isSome_none, Bool.not_true, Bool.not_false, List.any_nil, List.any_cons, List.all_nil, List.all_cons, Bool.or_true, Bool.true_or, Bool.or_false, Bool.false_or, Bool.and_true, Bool.true_and, Bool.false_and, Bool.and_false, decide_true, decide_false, List.nil_append, List.cons_append, List.append_nil, g.c3] at e ⊢
  simp only [e]
  cases hk : kindOf m 6 x with
  | none => exists Option.getD_none
  | some p => exists Option.getD_some, kindOf_non hk
theorem depth_in (g : Gk T) : ∀ (k : Ki) (K : Nat), k.deep < K → evF T K 16 [.dat k.d] m = .ok (.int k.deep) m
  | k, 0, h => by omega
  | .num, K + 1, _ => by rw [evF_to g.h16 rfl]; exists f16, Ki.d; rfl
  | .tru, K + 1, _ => by rw [evF_to g.h16 rfl]; exists f16, Ki.d; rfl
  | .any, K + 1, _ => by rw [evF_to g.h16 rfl]; exists f16, Ki.d; rfl
  | .fn a b, K + 1, h => by
    simp only [Ki.deep] at h
    rw [evF_to g.h16 rfl]
    exists f16, Ki.d, depth_in g a K (by omega), depth_in g b K (by omega), Ki.deep
    congr 2
    split <;> omega
  | .pr a b, K + 1, h => by
    simp only [Ki.deep] at h
    rw [evF_to g.h16 rfl]
    exists f16, Ki.d, depth_in g a K (by omega), depth_in g b K (by omega), Ki.deep
    congr 2
    split <;> omega
theorem marks_in (g : Gk T) : ∀ (k : Ki) (K : Nat), k.deep < K → evF T K 21 [.dat k.d] m = .ok (.int k.marks) m
  | k, 0, h => by omega
  | .num, K + 1, _ => by rw [evF_to g.h21 rfl]; exists f21, Ki.d; rfl
  | .tru, K + 1, _ => by rw [evF_to g.h21 rfl]; exists f21, Ki.d; rfl
  | .any, K + 1, _ => by rw [evF_to g.h21 rfl]; exists f21, Ki.d; rfl
  | .fn a b, K + 1, h => by
    simp only [Ki.deep] at h
    rw [evF_to g.h21 rfl]
    exists f21, Ki.d, marks_in g a K (by omega), marks_in g b K (by omega), Ki.marks
    congr 2
    omega
  | .pr a b, K + 1, h => by
    simp only [Ki.deep] at h
    rw [evF_to g.h21 rfl]
    exists f21, Ki.d, marks_in g a K (by omega), marks_in g b K (by omega), Ki.marks
    congr 2
    omega
/-- the head of a kind -/
def Ki.head : Ki → D
  | .num => .str wNum
  | .tru => .str wTru
  | .any => .non
  | .fn _ _ => .str wFun
  | .pr _ _ => .str wPair
theorem any_eq (k : Ki) (h : k.deep ≤ 50) : eqD m k.d (.str wAny) = some (decide (k = .any)) := by
  rw [eq_pl k.pl_d rfl (by rw [Ki.dep_d]; omega) (by decide)]
  cases k <;> rfl
theorem head_in {K : Nat} (g : Gk T) (k : Ki) (h : k.deep ≤ 50) : evF T (K + 1) 17 [.dat k.d] m = .ok k.head m := by
  rw [evF_to g.h17 rfl]
  exists f17, any_eq k h
  cases k <;> exists reduceCtorEq, decide_false, decide_true, Ki.d, Ki.head
theorem depth_of {K : Nat} (g : Gk T) {x : D} {k : Ki} (h : Told m x k) (hd : k.deep ≤ 6) (hK : 9 ≤ K) : evF T (K + 1) 20 [.dat x] m = .ok (.int k.deep) m := by
  obtain ⟨K, rfl⟩ : ∃ j, K = j + 1 := ⟨K - 1, by omega⟩
  rw [evF_to g.h20 rfl]
  exists f20, need_kind g h (show 8 ≤ K by omega), depth_in g k (K + 1) (by omega)
theorem marks_of {K : Nat} (g : Gk T) {x : D} {k : Ki} (h : Told m x k) (hd : k.deep ≤ 6) (hK : 9 ≤ K) : evF T (K + 1) 22 [.dat x] m = .ok (.int k.marks) m := by
  obtain ⟨K, rfl⟩ : ∃ j, K = j + 1 := ⟨K - 1, by omega⟩
  rw [evF_to g.h22 rfl]
  exists f22, need_kind g h (show 8 ≤ K by omega), marks_in g k (K + 1) (by omega)
theorem head_of {K : Nat} (g : Gk T) {x : D} {k : Ki} (h : Told m x k) (hd : k.deep ≤ 6) (hK : 9 ≤ K) : evF T (K + 1) 23 [.dat x] m = .ok k.head m := by
  obtain ⟨K, rfl⟩ : ∃ j, K = j + 1 := ⟨K - 1, by omega⟩
  rw [evF_to g.h23 rfl]
  exists f23, need_kind g h (show 8 ≤ K by omega), head_in g k (show k.deep ≤ 50 by omega)
end
end Ev
/-! Pl8: heads, places -/
namespace Ev
open PySem Fs
local macro_rules | `(tactic| exists $es,*) => `(tactic| simp only [e_var, e_con, e_glo, e_attr, o_ex, o_peek, os_nil, to_no, to_ex, es_nil, as_nil, eo_no, ss_nil, st_retn, st_pass, st_brk, st_cnt, hs_nil, tg_nm, tg_tp, sa_nil, sa_cons, R.bnd_ok, R.bind_ex, R.st_ok, R.st_ex, R.of_some, SR.out_nx, SR.out_rt, SR.out_ex, getV_0, getV_s, getE_0, getE_s, set_0, set_s, args_0, args_1, args_2, args_3, args_4, args_5, slot_d, slot_c, rep_0, rep_s, cellD_l, cellD_d, cloS_c, excS_x, ownS_o, ownL_l, lstC_l, getAll_nil, getAll_cons, consO_s, intO_i, E_tup, E_mk, E_mkr, E_bin, E_neg, E_cmp, E_not, E_and, E_or, E_ite, E_idx, E_sl, E_call, E_callk, E_app, E_isin, E_bi, E_meth, E_all, Os_cons, T_val, T_cmp, T_not, T_and, T_or, Es_cons, As_dat, As_lam, As_pas, Eo_ex, L_disp, L_copy, L_comp, L_cat, L_slice, L_ddisp, L_dict, L_litems, S_it, S_rng, S_rng2, S_enm, S_zip, Ss_cons, St_asg, St_par, St_own, St_frz, St_exp, St_oapp, St_oext, St_setr, St_ife, St_for, St_whl, St_ret, St_raise, St_try, Hs_some, Hs_none, K_tup, K_mk, K_mkr, K_bin2, K_bin1, K_neg, K_cmp2, K_cmp1, K_not, K_nbl, K_and, K_and_t, K_and_f, K_or, K_or_t, K_or_f, K_ite_t, K_ite_f, K_idx2, K_idx1, K_sl3, K_sl2, K_sl1, K_call, K_callk, K_callk_s, K_app, K_app_s, K_isin, K_bi, K_meth2, K_meth_s, K_meth1, K_meth_t, K_all, K_cons, K_os, K_tval, K_tcmp2, K_tcmp1, K_tnot, K_tand_t, K_tand_f, K_tor_t, K_tor_f, K_es, K_as, K_lam, K_pas, K_eo, K_disp, K_copy, K_comp, K_cat2, K_cat1, K_slc3, K_slc2, K_slc1, K_dd, K_dict, K_items, K_it, K_rng, K_rng2b, K_rng2a, K_enm, K_zip2, K_zip1, K_then, K_then_rt, K_then_bk, K_then_ct, K_then_ex, K_asg, K_asg_s, K_par2, K_par1, K_own, K_frz, K_exp, K_yes, K_oapp, K_oapp_s, K_oextL, K_oext, K_oext_s, K_sr, K_sr3, K_sr2, K_sr1, K_if_t, K_if_f, K_for, K_ret, K_raise, K_try_nx, K_try_rt, K_try_ex, K_fin_nx, K_fin_rt, K_fin0_nx, K_fin0_rt, K_hs_t, K_hs_f, K_hs0_t, K_hs0_f, sr_ref, sr_l, noExc_nil, noExc_cons, noX_v, noX_n, noX_x, noX_c, noX_o, gd_t, forL_congr, whileL_congr, compR_congr, compL_congr, b_add, b_sub, b_mul, b_mod, b_div, b_pow, b_cats, b_catl, b_catt, lstAt_l, lstAt_d, dicAt_l, dicAt_d, q_ref, q_tup, q_lst, q_non, q_bl, q_int, q_str, q_dic, c_ref, c_dic, c_tup, c_lst, c_str, c_int, r_ref, r_non, r_bl, r_int, r_str, r_tup, r_lst, y_ref, y_non, y_bl, y_int, y_str, y_tup, y_lst, y_dic, tyAt_l, tyAt_d, anyTy_0, anyTy_s, x_tup, x_lst, x_ref, idxAt_l, idxAt_d, x_cdic, x_dic, x_str, k_int, k_str, v_eq, v_ne, v_lt, v_le, v_gt, v_ge, v_in, v_nin, v_is, v_isn, eq_ii, non_non, non_bl, non_int, non_str, non_tup, non_lst, non_ref, non_dic, in_tup, in_cdic, f_ss, bi_lens, bi_lent, bi_lenl, bi_lenr, lenAt_l, bi_max, bi_min, bi_int, bi_intb, bi_tup, ix_0, ix_1, ix_2, ix_3, ix_4, nth_0, nth_s, nset_0, nset_s, me_ok_pop, me_ok_app, me_ok_cnt, me_ok_cntl, me_ok_get, me_pop, pop_0, me_app, Int.cast_ofNat_Int, Int.natCast_zero, Int.natCast_one, reduceCtorEq, Option.bind_some, Option.map_some, Option.bind_none, Option.map_none, List.map_nil, List.map_cons, List.length_cons, List.length_nil, Int.reduceLT, Int.reduceLE, Int.reduceEq, Int.reduceNe, Int.reduceNeg, Int.reducePow, Int.reduceToNat, Int.reduceAdd, Int.reduceSub, Int.reduceMul, Nat.reduceLT, Nat.reduceLeDiff, Nat.reduceAdd, Nat.reduceSub, Nat.reduceEqDiff, Nat.reduceBEq, Nat.reducePow, and_self, true_and, and_true, Bool.false_eq_true, if_true, if_false, Option.isSome_some, Option.isSome_none, Bool.not_true, Bool.not_false, List.any_nil, List.any_cons, List.all_nil, List.all_cons, Bool.or_true, Bool.true_or, Bool.or_false, Bool.false_or, Bool.and_true, Bool.true_and, Bool.false_and, Bool.and_false, decide_true, decide_false, List.nil_append, List.cons_append, List.append_nil, $[$es:term],*])

abbrev wThing : List Nat := [116, 104, 105, 110, 103]
section
variable {T : Txt} {m : Mem}
def isH (s : List Nat) : Bool := s == wNum || (s == wTru || (s == wFun || s == wPair))
theorem need_head_ok {K : Nat} (g : Gk T) {s : List Nat} (h : isH s = true) : evF T (K + 1) 24 [.dat (.str s)] m = .ok .non m := by
  have e2 : (wNum == s || (wTru == s || (wFun == s || wPair == s))) = true := by
    rw [← h]
    unfold isH
    simp only [BEq.comm (a := s)]
  rw [evF_to g.h24 rfl]
  exists f24, g.c0, D.flat, f_ss, e2
theorem need_head_no {K : Nat} (g : Gk T) {s : List Nat} (h : isH s = false) : evF T (K + 1) 24 [.dat (.str s)] m = .ex ⟨10, [(wThing, .str s)]⟩ m := by
  have e2 : (wNum == s || (wTru == s || (wFun == s || wPair == s))) = false := by
    rw [← h]
    unfold isH
    simp only [BEq.comm (a := s)]
  rw [evF_to g.h24 rfl]
  exists f24, g.c0, D.flat, f_ss, e2
  rfl
theorem need_head_ns {K : Nat} (g : Gk T) {x : D} (h : isTy m x [.str] = some false) : evF T (K + 1) 24 [.dat x] m = .ex ⟨10, [(wThing, x)]⟩ m := by
  rw [evF_to g.h24 rfl]
  exists f24, h
  rfl
/-- the ground of a head -/
def groundD (s : List Nat) : D := if s == wNum || s == wTru then .str s else .tup [.str s, .str wAny, .str wAny]
theorem ground_in {K : Nat} (g : Gk T) {s : List Nat} : evF T (K + 1) 18 [.dat (.str s)] m = .ok (groundD s) m := by
  have e2 : (wNum == s || wTru == s) = (s == wNum || s == wTru) := by simp only [BEq.comm (a := s)]
  rw [evF_to g.h18 rfl]
  exists f18, D.flat, f_ss, e2, groundD
  cases (s == wNum || s == wTru) <;> exists K_tup
theorem ground_of {K : Nat} (g : Gk T) {s : List Nat} (h : isH s = true) : evF T (K + 2) 25 [.dat (.str s)] m = .ok (groundD s) m := by
  rw [evF_to g.h25 rfl]
  exists f25, need_head_ok g h, ground_in g
theorem ground_no {K : Nat} (g : Gk T) {x : D} {e : Ex} (h : evF T (K + 1) 24 [.dat x] m = .ex e m) : evF T (K + 2) 25 [.dat x] m = .ex e m := by
  rw [evF_to g.h25 rfl]
  exists f25, h
/-- the steps -/
abbrev stepsD : List (DK × D) := [(.s wIn, .tup [.str wFun, .int 1]), (.s wOut, .tup [.str wFun, .int 2]), (.s wLeft, .tup [.str wPair, .int 1]), (.s wRight, .tup [.str wPair, .int 2])]
def isStep (s : List Nat) : Bool := s == wIn || (s == wOut || (s == wLeft || s == wRight))
theorem getK_step {s : List Nat} : (getK (.s s) stepsD).isSome = isStep s := by
  unfold isStep stepsD
  simp only [getK]
  by_cases h1 : s = wIn
  · subst h1; rfl
  by_cases h2 : s = wOut
  · subst h2; rfl
  by_cases h3 : s = wLeft
  · subst h3; rfl
  by_cases h4 : s = wRight
  · subst h4; rfl
  rw [if_neg (by intro e; injection e with e; exact h1 e.symm), if_neg (by intro e; injection e with e; exact h2 e.symm), if_neg (by intro e; injection e with e; exact h3 e.symm), if_neg (by intro e; injection e with e; exact h4 e.symm)]
  simp only [beq_eq_false_iff_ne.mpr h1, beq_eq_false_iff_ne.mpr h2, beq_eq_false_iff_ne.mpr h3, beq_eq_false_iff_ne.mpr h4]
  rfl
/-- a row that is walked -/
structure IsSeq (m : Mem) (x : D) (xs : List D) : Prop extends IsRow m x xs where
  it : itS m x = some (xs, guardOf m x)
  tp : biD m .tuple [x] = some (.tup xs)
theorem isSeq_of {x : D} {xs : List D} (h : x = .tup xs ∨ x = .lst xs ∨ ∃ r, x = .ref r ∧ m[r]? = some (.lst xs)) : IsSeq m x xs := by
  refine ⟨isRow_of h, ?_, ?_⟩
  · rcases h with rfl | rfl | ⟨r, rfl, h⟩
    · rfl
    · rfl
    · show (seqOf m (.ref r)).map (fun xs => (xs, guardOf m (.ref r))) = _
      rw [q_ref, h]
      rfl
  · rcases h with rfl | rfl | ⟨r, rfl, h⟩
    · rfl
    · rfl
    · rw [bi_tup, q_ref, h]
      rfl
/-- which of these is a word of a step -/
def stepB : D → Bool
  | .str s => isStep s
  | _ => false
theorem place_loop (g : Gk T) {K : Nat} {x : D} : ∀ (xs : List D) (z : Slot), (∀ y ∈ xs, (∃ s, y = .str s) ∨ (isTy m y [.str] = some false ∧ ∀ s, y ≠ .str s)) → ∃ z', forL (guardOf m x) (kTg (.nm 1)) (kSs (evF T K) T.con T.sub f26l1) xs [.val x, z] m = if xs.all stepB = true then .nx [.val x, z'] m else .ex ⟨24, [(wThing, x)]⟩ [.val x, z'] m
  | [], z, _ => ⟨z, by rw [forL, if_pos (guard_self x)]; rfl⟩
  | y :: xs, z, h => by
    obtain ⟨z', ih⟩ := place_loop g (K := K) (x := x) xs (.val y) fun w hw => h w (List.mem_cons_of_mem _ hw)
    have step : kSs (evF T K) T.con T.sub f26l1 [.val x, .val y] m = if stepB y = true then .nx [.val x, .val y] m else .ex ⟨24, [(wThing, x)]⟩ [.val x, .val y] m := by
      show evSs _ _ _ f26l1 _ _ = _
      rcases h y List.mem_cons_self with ⟨s, rfl⟩ | ⟨h1, h2⟩
      · exists f26l1, g.c2, getK_step, stepB
        by_cases hs : isStep s = true
        · exists hs
        · exists hs; rfl
      · have : stepB y = false := by
          cases y with
          | str s => exact absurd rfl (h2 s)
          | _ => rfl
        exists f26l1, h1, this
        rfl
    cases hy : stepB y with
    | true =>
      rw [hy, if_pos rfl] at step
      refine ⟨z', ?_⟩
      rw [forL_go (guard_self x) rfl step, List.all_cons, hy, Bool.true_and]
      exact ih
    | false =>
      rw [hy, if_neg (by decide)] at step
      refine ⟨.val y, ?_⟩
      rw [forL_ex (guard_self x) rfl step, List.all_cons, hy, Bool.false_and, if_neg (by decide)]
theorem need_place {K : Nat} (g : Gk T) {x : D} {xs : List D} (r : IsSeq m x xs) (h : ∀ y ∈ xs, (∃ s, y = .str s) ∨ (isTy m y [.str] = some false ∧ ∀ s, y ≠ .str s)) : evF T (K + 2) 26 [.dat x] m = if xs.all stepB = true then .ok (.tup xs) m else .ex ⟨24, [(wThing, x)]⟩ m := by
  obtain ⟨z, e⟩ := place_loop g (K := K + 1) (x := x) xs .no h
  rw [evF_to g.h26 rfl]
  exists f26, is_row g r.row, r.it
  rw [e]
  cases xs.all stepB with
  | true => exists if_true, r.tp
  | false => exists Bool.false_eq_true, if_false
theorem need_place_no {K : Nat} (g : Gk T) {x : D} (h : isTy m x [.list, .tuple] = some false) : evF T (K + 2) 26 [.dat x] m = .ex ⟨24, [(wThing, x)]⟩ m := by
  rw [evF_to g.h26 rfl]
  exists f26, is_row g h
  rfl
/-- a step down -/
def Ki.step : Ki → List Nat → Option Ki
  | .fn a b, w => if w = wIn then some a else if w = wOut then some b else none
  | .pr a b, w => if w = wLeft then some a else if w = wRight then some b else none
  | _, _ => none
def Ki.part : Ki → List (List Nat) → Option Ki
  | k, [] => some k
  | k, w :: ws => (k.step w).bind fun k => k.part ws
def optD : Option Ki → D
  | some k => k.d
  | none => .non
theorem gS1 : getK (.s wIn) stepsD = some (.tup [.str wFun, .int 1]) := rfl
theorem gS2 : getK (.s wOut) stepsD = some (.tup [.str wFun, .int 2]) := rfl
theorem gS3 : getK (.s wLeft) stepsD = some (.tup [.str wPair, .int 1]) := rfl
theorem gS4 : getK (.s wRight) stepsD = some (.tup [.str wPair, .int 2]) := rfl
theorem e_ff : eqD m (.str wFun) (.str wFun) = some true := eq_ss rfl rfl
theorem e_fp : eqD m (.str wFun) (.str wPair) = some false := eq_ss rfl rfl
theorem e_pf : eqD m (.str wPair) (.str wFun) = some false := eq_ss rfl rfl
theorem e_pp : eqD m (.str wPair) (.str wPair) = some true := eq_ss rfl rfl
theorem part_step (g : Gk T) {K : Nat} {p : D} {z z1 z2 : Slot} (k : Ki) {w : List Nat} (hw : isStep w = true) : ∃ z1' z2', kSs (evF T K) T.con T.sub f27l1 [.val k.d, .val p, .val (.str w), z1, z2] m = match k.step w with
    | some k' => .nx [.val k'.d, .val p, .val (.str w), z1', z2'] m
    | none => .rt .non m := by
  have h4 : w = wIn ∨ w = wOut ∨ w = wLeft ∨ w = wRight := by
    simp only [isStep, Bool.or_eq_true, beq_iff_eq] at hw
    exact hw
  show ∃ z1' z2', evSs _ _ _ f27l1 _ _ = _
  rcases h4 with rfl | rfl | rfl | rfl <;> cases k <;> exists f27l1, Ki.d, g.c2, gS1, gS2, gS3, gS4, e_ff, e_fp, e_pf, e_pp <;> first | exact ⟨.no, .no, rfl⟩ | exact ⟨_, _, rfl⟩
theorem part_loop (g : Gk T) {K : Nat} {p : D} : ∀ (ws : List (List Nat)) (k : Ki) (z z1 z2 : Slot), (∀ w ∈ ws, isStep w = true) → ∃ z' z1' z2', forL [] (kTg (.nm 2)) (kSs (evF T K) T.con T.sub f27l1) (ws.map .str) [.val k.d, .val p, z, z1, z2] m = match k.part ws with
    | some k' => .nx [.val k'.d, .val p, z', z1', z2'] m
    | none => .rt .non m
  | [], k, z, z1, z2, _ => ⟨z, z1, z2, forL_end rfl⟩
  | w :: ws, k, z, z1, z2, h => by
    obtain ⟨a, b, e⟩ := part_step g (K := K) (p := p) (z := z) (z1 := z1) (z2 := z2) k (h w List.mem_cons_self)
    have hpt : k.part (w :: ws) = (k.step w).bind fun k => k.part ws := rfl
    rw [hpt]
    cases hk : k.step w with
    | none =>
      rw [hk] at e
      exact ⟨.no, .no, .no, by rw [List.map_cons, forL_rt rfl rfl e, Option.bind_none]⟩
    | some k1 =>
      rw [hk] at e
      obtain ⟨z', z1', z2', e2⟩ := part_loop g (K := K) (p := p) ws k1 (.val (.str w)) a b fun v hv => h v (List.mem_cons_of_mem _ hv)
      exact ⟨z', z1', z2', by rw [List.map_cons, forL_go rfl rfl e, e2, Option.bind_some]⟩
theorem part_in (g : Gk T) {K : Nat} {k : Ki} {ws : List (List Nat)} (h : ∀ w ∈ ws, isStep w = true) : evF T (K + 1) 27 [.dat k.d, .dat (.tup (ws.map .str))] m = .ok (optD (k.part ws)) m := by
  obtain ⟨z', z1', z2', e⟩ := part_loop g (K := K) (p := .tup (ws.map .str)) (m := m) ws k .no .no .no h
  rw [evF_to g.h27 rfl]
  exists f27, itS, guardOf
  rw [e]
  cases k.part ws with
  | none => exists optD
  | some k' => exists optD
theorem all_steps {ws : List (List Nat)} (h : ∀ w ∈ ws, isStep w = true) : (ws.map D.str).all stepB = true := by
  rw [List.all_map, List.all_eq_true]
  exact fun w hw => h w hw
theorem strs_ty {ws : List (List Nat)} : ∀ y ∈ ws.map D.str, (∃ s, y = .str s) ∨ (isTy m y [.str] = some false ∧ ∀ s, y ≠ .str s) := fun y hy => by
  obtain ⟨w, _, rfl⟩ := List.mem_map.mp hy
  exact .inl ⟨w, rfl⟩
theorem part_at (g : Gk T) {K : Nat} {x p : D} {k : Ki} {ws : List (List Nat)} (h : Told m x k) (hp : p = .tup (ws.map .str) ∨ p = .lst (ws.map .str)) (hw : ∀ w ∈ ws, isStep w = true) (hK : 9 ≤ K) : evF T (K + 1) 28 [.dat x, .dat p] m = .ok (optD (k.part ws)) m := by
  obtain ⟨K, rfl⟩ : ∃ j, K = j + 2 := ⟨K - 2, by omega⟩
  have e := need_place g (K := K) (m := m) (isSeq_of (hp.imp id .inl)) strs_ty
  rw [all_steps hw, if_pos rfl] at e
  rw [evF_to g.h28 rfl]
  exists f28, need_kind g h (show 8 ≤ K + 1 by omega), e, part_in g hw
theorem part_no_place (g : Gk T) {K : Nat} {x p : D} {k : Ki} {e : Ex} (h : Told m x k) (hp : evF T (K + 2) 26 [.dat p] m = .ex e m) (hK : 7 ≤ K) : evF T (K + 3) 28 [.dat x, .dat p] m = .ex e m := by
  rw [evF_to g.h28 rfl]
  exists f28, need_kind g h (show 8 ≤ K + 1 by omega), hp
theorem part_no_kind (g : Gk T) {K N : Nat} {x p : D} (hN : rd m N x = true) (h : kindOf m 6 x = none) (hK : 8 ≤ K) : evF T (K + 2) 28 [.dat x, .dat p] m = .ex ⟨12, [(wThing, x)]⟩ m := by
  rw [evF_to g.h28 rfl]
  exists f28, need_kind_no g hN h hK
end
end Ev
/-! Pl9: the law's own about kinds -/
namespace Ev
open PySem Fs
local macro_rules | `(tactic| exists $es,*) => `(tactic| simp only [e_var, e_con, e_glo, e_attr, o_ex, o_peek, os_nil, to_no, to_ex, es_nil, as_nil, eo_no, ss_nil, st_retn, st_pass, st_brk, st_cnt, hs_nil, tg_nm, tg_tp, sa_nil, sa_cons, R.bnd_ok, R.bind_ex, R.st_ok, R.st_ex, R.of_some, SR.out_nx, SR.out_rt, SR.out_ex, getV_0, getV_s, getE_0, getE_s, set_0, set_s, args_0, args_1, args_2, args_3, args_4, args_5, slot_d, slot_c, rep_0, rep_s, cellD_l, cellD_d, cloS_c, excS_x, ownS_o, ownL_l, lstC_l, getAll_nil, getAll_cons, consO_s, intO_i, E_tup, E_mk, E_mkr, E_bin, E_neg, E_cmp, E_not, E_and, E_or, E_ite, E_idx, E_sl, E_call, E_callk, E_app, E_isin, E_bi, E_meth, E_all, Os_cons, T_val, T_cmp, T_not, T_and, T_or, Es_cons, As_dat, As_lam, As_pas, Eo_ex, L_disp, L_copy, L_comp, L_cat, L_slice, L_ddisp, L_dict, L_litems, S_it, S_rng, S_rng2, S_enm, S_zip, Ss_cons, St_asg, St_par, St_own, St_frz, St_exp, St_oapp, St_oext, St_setr, St_ife, St_for, St_whl, St_ret, St_raise, St_try, Hs_some, Hs_none, K_tup, K_mk, K_mkr, K_bin2, K_bin1, K_neg, K_cmp2, K_cmp1, K_not, K_nbl, K_and, K_and_t, K_and_f, K_or, K_or_t, K_or_f, K_ite_t, K_ite_f, K_idx2, K_idx1, K_sl3, K_sl2, K_sl1, K_call, K_callk, K_callk_s, K_app, K_app_s, K_isin, K_bi, K_meth2, K_meth_s, K_meth1, K_meth_t, K_all, K_cons, K_os, K_tval, K_tcmp2, K_tcmp1, K_tnot, K_tand_t, K_tand_f, K_tor_t, K_tor_f, K_es, K_as, K_lam, K_pas, K_eo, K_disp, K_copy, K_comp, K_cat2, K_cat1, K_slc3, K_slc2, K_slc1, K_dd, K_dict, K_items, K_it, K_rng, K_rng2b, K_rng2a, K_enm, K_zip2, K_zip1, K_then, K_then_rt, K_then_bk, K_then_ct, K_then_ex, K_asg, K_asg_s, K_par2, K_par1, K_own, K_frz, K_exp, K_yes, K_oapp, K_oapp_s, K_oextL, K_oext, K_oext_s, K_sr, K_sr3, K_sr2, K_sr1, K_if_t, K_if_f, K_for, K_ret, K_raise, K_try_nx, K_try_rt, K_try_ex, K_fin_nx, K_fin_rt, K_fin0_nx, K_fin0_rt, K_hs_t, K_hs_f, K_hs0_t, K_hs0_f, sr_ref, sr_l, noExc_nil, noExc_cons, noX_v, noX_n, noX_x, noX_c, noX_o, gd_t, forL_congr, whileL_congr, compR_congr, compL_congr, b_add, b_sub, b_mul, b_mod, b_div, b_pow, b_cats, b_catl, b_catt, lstAt_l, lstAt_d, dicAt_l, dicAt_d, q_ref, q_tup, q_lst, q_non, q_bl, q_int, q_str, q_dic, c_ref, c_dic, c_tup, c_lst, c_str, c_int, r_ref, r_non, r_bl, r_int, r_str, r_tup, r_lst, y_ref, y_non, y_bl, y_int, y_str, y_tup, y_lst, y_dic, tyAt_l, tyAt_d, anyTy_0, anyTy_s, x_tup, x_lst, x_ref, idxAt_l, idxAt_d, x_cdic, x_dic, x_str, k_int, k_str, v_eq, v_ne, v_lt, v_le, v_gt, v_ge, v_in, v_nin, v_is, v_isn, eq_ii, non_non, non_bl, non_int, non_str, non_tup, non_lst, non_ref, non_dic, in_tup, in_cdic, f_ss, bi_lens, bi_lent, bi_lenl, bi_lenr, lenAt_l, bi_max, bi_min, bi_int, bi_intb, bi_tup, ix_0, ix_1, ix_2, ix_3, ix_4, nth_0, nth_s, nset_0, nset_s, me_ok_pop, me_ok_app, me_ok_cnt, me_ok_cntl, me_ok_get, me_pop, pop_0, me_app, Int.cast_ofNat_Int, Int.natCast_zero, Int.natCast_one, reduceCtorEq, Option.bind_some, Option.map_some, Option.bind_none, Option.map_none, List.map_nil, List.map_cons, List.length_cons, List.length_nil, Int.reduceLT, Int.reduceLE, Int.reduceEq, Int.reduceNe, Int.reduceNeg, Int.reducePow, Int.reduceToNat, Int.reduceAdd, Int.reduceSub, Int.reduceMul, Nat.reduceLT, Nat.reduceLeDiff, Nat.reduceAdd, Nat.reduceSub, Nat.reduceEqDiff, Nat.reduceBEq, Nat.reducePow, and_self, true_and, and_true, Bool.false_eq_true, if_true, if_false, Option.isSome_some, Option.isSome_none, Bool.not_true, Bool.not_false, List.any_nil, List.any_cons, List.all_nil, List.all_cons, Bool.or_true, Bool.true_or, Bool.or_false, Bool.false_or, Bool.and_true, Bool.true_and, Bool.false_and, Bool.and_false, decide_true, decide_false, List.nil_append, List.cons_append, List.append_nil, $[$es:term],*])

structure Gf (T : Txt) : Prop where
  h29 : T.fns 29 = some f29
  h30 : T.fns 30 = some f30
  h31 : T.fns 31 = some f31
  h32 : T.fns 32 = some f32
  h45 : T.fns 45 = some f45
  h46 : T.fns 46 = some f46
section
variable {T : Txt} {m : Mem}
theorem f_head {K : Nat} (g : Gf T) (k : Ki) (h : k.deep ≤ 50) : evF T (K + 1) 29 [.dat k.d] m = .ok k.head m := by
  rw [evF_to g.h29 rfl]
  exists f29, any_eq k h
  cases k <;> exists reduceCtorEq, decide_false, decide_true, Ki.d, Ki.head
theorem f_ground {K : Nat} (g : Gf T) {s : List Nat} : evF T (K + 1) 30 [.dat (.str s)] m = .ok (groundD s) m := by
  have e2 : (wNum == s || wTru == s) = (s == wNum || s == wTru) := by simp only [BEq.comm (a := s)]
  rw [evF_to g.h30 rfl]
  exists f30, D.flat, f_ss, e2, groundD
  cases (s == wNum || s == wTru) <;> exists K_tup
theorem f_deep (g : Gf T) : ∀ (k : Ki) (K : Nat), k.deep < K → evF T K 32 [.dat k.d] m = .ok (.int k.deep) m
  | k, 0, h => by omega
  | .num, K + 1, _ => by rw [evF_to g.h32 rfl]; exists f32, Ki.d; rfl
  | .tru, K + 1, _ => by rw [evF_to g.h32 rfl]; exists f32, Ki.d; rfl
  | .any, K + 1, _ => by rw [evF_to g.h32 rfl]; exists f32, Ki.d; rfl
  | .fn a b, K + 1, h => by
    simp only [Ki.deep] at h
    rw [evF_to g.h32 rfl]
    exists f32, Ki.d, f_deep g a K (by omega), f_deep g b K (by omega), Ki.deep
    congr 2
    split <;> omega
  | .pr a b, K + 1, h => by
    simp only [Ki.deep] at h
    rw [evF_to g.h32 rfl]
    exists f32, Ki.d, f_deep g a K (by omega), f_deep g b K (by omega), Ki.deep
    congr 2
    split <;> omega
theorem f_marks (g : Gf T) : ∀ (k : Ki) (K : Nat), k.deep < K → evF T K 45 [.dat k.d] m = .ok (.int k.marks) m
  | k, 0, h => by omega
  | .num, K + 1, _ => by rw [evF_to g.h45 rfl]; exists f45, Ki.d; rfl
  | .tru, K + 1, _ => by rw [evF_to g.h45 rfl]; exists f45, Ki.d; rfl
  | .any, K + 1, _ => by rw [evF_to g.h45 rfl]; exists f45, Ki.d; rfl
  | .fn a b, K + 1, h => by
    simp only [Ki.deep] at h
    rw [evF_to g.h45 rfl]
    exists f45, Ki.d, f_marks g a K (by omega), f_marks g b K (by omega), Ki.marks
    congr 2
    omega
  | .pr a b, K + 1, h => by
    simp only [Ki.deep] at h
    rw [evF_to g.h45 rfl]
    exists f45, Ki.d, f_marks g a K (by omega), f_marks g b K (by omega), Ki.marks
    congr 2
    omega
/-- a drawn kind -/
theorem f_kind (g : Ga T) (gf : Gf T) {r : Mem} : ∀ (n K B : Nat) (s : Sp0), n + 4 ≤ K → s.At B → Far (B + (3 * 2 ^ n - 1)) → ∃ (k : Ki) (s' : Sp0), evF T K 31 [.dat (.ref 1), .dat (.int n)] (s.mem r) = .ok k.d (s'.mem r) ∧ k.deep ≤ n ∧ s'.At (B + (3 * 2 ^ n - 1))
  | n, K, B, s, hK, hs, hB => by
    obtain ⟨K, rfl⟩ : ∃ j, K = j + 3 := ⟨K - 3, by omega⟩
    have h2n : 1 ≤ 2 ^ n := Nat.one_le_two_pow
    obtain ⟨v, s1, e1, v0, v9, h1⟩ := draw (k := K + 1) (r := r) (n := 9) g.h1 hs (hB.mono (by omega)) (by decide) (by decide)
    rw [evF_to gf.h31 rfl]
    exists f31, e1
    by_cases c1 : v < 3
    · exists c1
      exact ⟨.any, s1, rfl, Nat.zero_le _, h1.mono (by omega)⟩
    · exists c1
      have pk : ∃ (k : Ki) (s' : Sp0), evF T (K + 2) 38 [.dat (.ref 1), .dat (.lst [.str wNum, .str wNum, .str wTru])] (s1.mem r) = .ok k.d (s'.mem r) ∧ k.deep ≤ n ∧ s'.At (B + (3 * 2 ^ n - 1)) := by
        obtain ⟨y, s2, e2, hy, h2⟩ := pick g (k := K) (r := r) h1 (hB.mono (by omega)) (x := .lst [.str wNum, .str wNum, .str wTru]) (.inl rfl) (by simp) (by simp)
        simp only [List.mem_cons, List.not_mem_nil, or_false] at hy
        rcases hy with rfl | rfl | rfl
        · exact ⟨.num, s2, e2, Nat.zero_le _, h2.mono (by omega)⟩
        · exact ⟨.num, s2, e2, Nat.zero_le _, h2.mono (by omega)⟩
        · exact ⟨.tru, s2, e2, Nat.zero_le _, h2.mono (by omega)⟩
      cases n with
      | zero =>
        by_cases c2 : (6 : Int) < v
        · exists c2, Int.natCast_zero
          exact ⟨.any, s1, rfl, Nat.zero_le _, h1.mono (by omega)⟩
        · obtain ⟨k, s2, e2, h3, h4⟩ := pk
          by_cases c3 : v < 5
          · exists c2, c3, Int.natCast_zero, e2
            exact ⟨k, s2, rfl, h3, h4⟩
          · exists c2, c3, Int.natCast_zero, e2
            exact ⟨k, s2, rfl, h3, h4⟩
      | succ n =>
        have c0 : ¬ ((n + 1 : Nat) : Int) < 1 := by omega
        by_cases c3 : v < 5
        · obtain ⟨k, s2, e2, h3, h4⟩ := pk
          exists c0, c3, e2
          exact ⟨k, s2, rfl, h3, h4⟩
        · have hm : ((n + 1 : Nat) : Int) - 1 = (n : Int) := by omega
          have hp : 2 ^ (n + 1) = 2 * 2 ^ n := by rw [Nat.pow_succ]; omega
          obtain ⟨a, s2, e2, h3, h4⟩ := f_kind g gf n (K + 2) (B + 1) s1 (by omega) h1 (hB.mono (by omega))
          obtain ⟨b, s3, e3, h5, h6⟩ := f_kind g gf n (K + 2) (B + 1 + (3 * 2 ^ n - 1)) s2 (by omega) h4 (hB.mono (by omega))
          by_cases c4 : v < 8
          · exists c0, c3, c4, hm
            rw [e2]
            exists c0, c3, c4, hm
            rw [e3]
            exists c0, c3, c4, hm
            refine ⟨.fn a b, s3, rfl, ?_, h6.mono (by omega)⟩
            show max a.deep b.deep + 1 ≤ n + 1
            omega
          · exists c0, c3, c4, hm
            rw [e2]
            exists c0, c3, c4, hm
            rw [e3]
            exists c0, c3, c4, hm
            refine ⟨.pr a b, s3, rfl, ?_, h6.mono (by omega)⟩
            show max a.deep b.deep + 1 ≤ n + 1
            omega
end
end Ev
/-! Pl10: places of a kind; things in a drawn order -/
namespace Ev
open PySem Fs
local macro_rules | `(tactic| exists $es,*) => `(tactic| simp only [e_var, e_con, e_glo, e_attr, o_ex, o_peek, os_nil, to_no, to_ex, es_nil, as_nil, eo_no, ss_nil, st_retn, st_pass, st_brk, st_cnt, hs_nil, tg_nm, tg_tp, sa_nil, sa_cons, R.bnd_ok, R.bind_ex, R.st_ok, R.st_ex, R.of_some, SR.out_nx, SR.out_rt, SR.out_ex, getV_0, getV_s, getE_0, getE_s, set_0, set_s, args_0, args_1, args_2, args_3, args_4, args_5, slot_d, slot_c, rep_0, rep_s, cellD_l, cellD_d, cloS_c, excS_x, ownS_o, ownL_l, lstC_l, getAll_nil, getAll_cons, consO_s, intO_i, E_tup, E_mk, E_mkr, E_bin, E_neg, E_cmp, E_not, E_and, E_or, E_ite, E_idx, E_sl, E_call, E_callk, E_app, E_isin, E_bi, E_meth, E_all, Os_cons, T_val, T_cmp, T_not, T_and, T_or, Es_cons, As_dat, As_lam, As_pas, Eo_ex, L_disp, L_copy, L_comp, L_cat, L_slice, L_ddisp, L_dict, L_litems, S_it, S_rng, S_rng2, S_enm, S_zip, Ss_cons, St_asg, St_par, St_own, St_frz, St_exp, St_oapp, St_oext, St_setr, St_ife, St_for, St_whl, St_ret, St_raise, St_try, Hs_some, Hs_none, K_tup, K_mk, K_mkr, K_bin2, K_bin1, K_neg, K_cmp2, K_cmp1, K_not, K_nbl, K_and, K_and_t, K_and_f, K_or, K_or_t, K_or_f, K_ite_t, K_ite_f, K_idx2, K_idx1, K_sl3, K_sl2, K_sl1, K_call, K_callk, K_callk_s, K_app, K_app_s, K_isin, K_bi, K_meth2, K_meth_s, K_meth1, K_meth_t, K_all, K_cons, K_os, K_tval, K_tcmp2, K_tcmp1, K_tnot, K_tand_t, K_tand_f, K_tor_t, K_tor_f, K_es, K_as, K_lam, K_pas, K_eo, K_disp, K_copy, K_comp, K_cat2, K_cat1, K_slc3, K_slc2, K_slc1, K_dd, K_dict, K_items, K_it, K_rng, K_rng2b, K_rng2a, K_enm, K_zip2, K_zip1, K_then, K_then_rt, K_then_bk, K_then_ct, K_then_ex, K_asg, K_asg_s, K_par2, K_par1, K_own, K_frz, K_exp, K_yes, K_oapp, K_oapp_s, K_oextL, K_oext, K_oext_s, K_sr, K_sr3, K_sr2, K_sr1, K_if_t, K_if_f, K_for, K_ret, K_raise, K_try_nx, K_try_rt, K_try_ex, K_fin_nx, K_fin_rt, K_fin0_nx, K_fin0_rt, K_hs_t, K_hs_f, K_hs0_t, K_hs0_f, sr_ref, sr_l, noExc_nil, noExc_cons, noX_v, noX_n, noX_x, noX_c, noX_o, gd_t, forL_congr, whileL_congr, compR_congr, compL_congr, b_add, b_sub, b_mul, b_mod, b_div, b_pow, b_cats, b_catl, b_catt, lstAt_l, lstAt_d, dicAt_l, dicAt_d, q_ref, q_tup, q_lst, q_non, q_bl, q_int, q_str, q_dic, c_ref, c_dic, c_tup, c_lst, c_str, c_int, r_ref, r_non, r_bl, r_int, r_str, r_tup, r_lst, y_ref, y_non, y_bl, y_int, y_str, y_tup, y_lst, y_dic, tyAt_l, tyAt_d, anyTy_0, anyTy_s, x_tup, x_lst, x_ref, idxAt_l, idxAt_d, x_cdic, x_dic, x_str, k_int, k_str, v_eq, v_ne, v_lt, v_le, v_gt, v_ge, v_in, v_nin, v_is, v_isn, eq_ii, non_non, non_bl, non_int, non_str, non_tup, non_lst, non_ref, non_dic, in_tup, in_cdic, f_ss, bi_lens, bi_lent, bi_lenl, bi_lenr, lenAt_l, bi_max, bi_min, bi_int, bi_intb, bi_tup, ix_0, ix_1, ix_2, ix_3, ix_4, nth_0, nth_s, nset_0, nset_s, me_ok_pop, me_ok_app, me_ok_cnt, me_ok_cntl, me_ok_get, me_pop, pop_0, me_app, Int.cast_ofNat_Int, Int.natCast_zero, Int.natCast_one, reduceCtorEq, Option.bind_some, Option.map_some, Option.bind_none, Option.map_none, List.map_nil, List.map_cons, List.length_cons, List.length_nil, Int.reduceLT, Int.reduceLE, Int.reduceEq, Int.reduceNe, Int.reduceNeg, Int.reducePow, Int.reduceToNat, Int.reduceAdd, Int.reduceSub, Int.reduceMul, Nat.reduceLT, Nat.reduceLeDiff, Nat.reduceAdd, Nat.reduceSub, Nat.reduceEqDiff, Nat.reduceBEq, Nat.reducePow, and_self, true_and, and_true, Bool.false_eq_true, if_true, if_false, Option.isSome_some, Option.isSome_none, Bool.not_true, Bool.not_false, List.any_nil, List.any_cons, List.all_nil, List.all_cons, Bool.or_true, Bool.true_or, Bool.or_false, Bool.false_or, Bool.and_true, Bool.true_and, Bool.false_and, Bool.and_false, decide_true, decide_false, List.nil_append, List.cons_append, List.append_nil, $[$es:term],*])

/-- all places of a kind, the parts there -/
def Ki.places : Ki → List (List (List Nat) × Ki)
  | .fn a b => ([], .fn a b) :: (a.places.map (fun p => (wIn :: p.1, p.2)) ++ b.places.map (fun p => (wOut :: p.1, p.2)))
  | .pr a b => ([], .pr a b) :: (a.places.map (fun p => (wLeft :: p.1, p.2)) ++ b.places.map (fun p => (wRight :: p.1, p.2)))
  | k => [([], k)]
def plD (p : List (List Nat) × Ki) : D := .tup [.tup (p.1.map .str), p.2.d]
theorem Ki.places_len : ∀ k : Ki, k.places.length = k.marks
  | .num => rfl
  | .tru => rfl
  | .any => rfl
  | .fn a b => by
    simp only [Ki.places, List.length_cons, List.length_append, List.length_map, places_len a, places_len b, Ki.marks]
  | .pr a b => by
    simp only [Ki.places, List.length_cons, List.length_append, List.length_map, places_len a, places_len b, Ki.marks]
theorem Ki.places_deep : ∀ (k : Ki) (p : List (List Nat) × Ki), p ∈ k.places → p.1.length ≤ k.deep
  | .num, p, h => by simp [Ki.places] at h; subst h; simp
  | .tru, p, h => by simp [Ki.places] at h; subst h; simp
  | .any, p, h => by simp [Ki.places] at h; subst h; simp
  | .fn a b, p, h => by
    simp only [Ki.places, List.mem_cons, List.mem_append, List.mem_map] at h
    simp only [Ki.deep]
    rcases h with rfl | ⟨q, hq, rfl⟩ | ⟨q, hq, rfl⟩
    · simp
    · have := places_deep a q hq; simp only [List.length_cons]; omega
    · have := places_deep b q hq; simp only [List.length_cons]; omega
  | .pr a b, p, h => by
    simp only [Ki.places, List.mem_cons, List.mem_append, List.mem_map] at h
    simp only [Ki.deep]
    rcases h with rfl | ⟨q, hq, rfl⟩ | ⟨q, hq, rfl⟩
    · simp
    · have := places_deep a q hq; simp only [List.length_cons]; omega
    · have := places_deep b q hq; simp only [List.length_cons]; omega
/-- a place is told iff the part is there -/
theorem Ki.mem_part : ∀ (k : Ki) (ws : List (List Nat)) (q : Ki), (ws, q) ∈ k.places → k.part ws = some q
  | .num, ws, q, h => by cases List.mem_singleton.mp h; rfl
  | .tru, ws, q, h => by cases List.mem_singleton.mp h; rfl
  | .any, ws, q, h => by cases List.mem_singleton.mp h; rfl
  | .fn a b, ws, q, h => by
    rcases List.mem_cons.mp h with h | h
    · cases h; rfl
    · rcases List.mem_append.mp h with h | h
      · obtain ⟨p, hp, e⟩ := List.mem_map.mp h
        cases e
        exact mem_part a p.1 p.2 hp
      · obtain ⟨p, hp, e⟩ := List.mem_map.mp h
        cases e
        exact mem_part b p.1 p.2 hp
  | .pr a b, ws, q, h => by
    rcases List.mem_cons.mp h with h | h
    · cases h; rfl
    · rcases List.mem_append.mp h with h | h
      · obtain ⟨p, hp, e⟩ := List.mem_map.mp h
        cases e
        exact mem_part a p.1 p.2 hp
      · obtain ⟨p, hp, e⟩ := List.mem_map.mp h
        cases e
        exact mem_part b p.1 p.2 hp
theorem Ki.part_mem : ∀ (ws : List (List Nat)) (k : Ki) (q : Ki), k.part ws = some q → (ws, q) ∈ k.places
  | [], k, q, h => by
    have h : some k = some q := h
    cases h
    cases k <;> exact List.mem_cons_self
  | w :: ws, k, q, h => by
    have h : (k.step w).bind (fun k => k.part ws) = some q := h
    cases k with
    | fn a b =>
      have e : (Ki.fn a b).step w = if w = wIn then some a else if w = wOut then some b else none := rfl
      rw [e] at h
      refine List.mem_cons_of_mem _ (List.mem_append.mpr ?_)
      by_cases h1 : w = wIn
      · rw [if_pos h1] at h
        subst h1
        exact .inl (List.mem_map.mpr ⟨(ws, q), part_mem ws a q h, rfl⟩)
      · rw [if_neg h1] at h
        by_cases h2 : w = wOut
        · rw [if_pos h2] at h
          subst h2
          exact .inr (List.mem_map.mpr ⟨(ws, q), part_mem ws b q h, rfl⟩)
        · rw [if_neg h2] at h
          cases h
    | pr a b =>
      have e : (Ki.pr a b).step w = if w = wLeft then some a else if w = wRight then some b else none := rfl
      rw [e] at h
      refine List.mem_cons_of_mem _ (List.mem_append.mpr ?_)
      by_cases h1 : w = wLeft
      · rw [if_pos h1] at h
        subst h1
        exact .inl (List.mem_map.mpr ⟨(ws, q), part_mem ws a q h, rfl⟩)
      · rw [if_neg h1] at h
        by_cases h2 : w = wRight
        · rw [if_pos h2] at h
          subst h2
          exact .inr (List.mem_map.mpr ⟨(ws, q), part_mem ws b q h, rfl⟩)
        · rw [if_neg h2] at h
          cases h
    | _ => cases h
theorem Ki.places_step : ∀ (k : Ki) (p : List (List Nat) × Ki), p ∈ k.places → ∀ w ∈ p.1, isStep w = true
  | .num, p, h => by simp [Ki.places] at h; subst h; simp
  | .tru, p, h => by simp [Ki.places] at h; subst h; simp
  | .any, p, h => by simp [Ki.places] at h; subst h; simp
  | .fn a b, p, h => by
    simp only [Ki.places, List.mem_cons, List.mem_append, List.mem_map] at h
    rcases h with rfl | ⟨q, hq, rfl⟩ | ⟨q, hq, rfl⟩
    · simp
    · intro w hw
      rcases List.mem_cons.mp hw with rfl | hw
      · decide
      · exact places_step a q hq w hw
    · intro w hw
      rcases List.mem_cons.mp hw with rfl | hw
      · decide
      · exact places_step b q hq w hw
  | .pr a b, p, h => by
    simp only [Ki.places, List.mem_cons, List.mem_append, List.mem_map] at h
    rcases h with rfl | ⟨q, hq, rfl⟩ | ⟨q, hq, rfl⟩
    · simp
    · intro w hw
      rcases List.mem_cons.mp hw with rfl | hw
      · decide
      · exact places_step a q hq w hw
    · intro w hw
      rcases List.mem_cons.mp hw with rfl | hw
      · decide
      · exact places_step b q hq w hw
section
variable {T : Txt} {m : Mem}
theorem places_row (F : Nat → List Arg → Mem → R D) (C : Nat → Option D) {a b c e z1 z2 : Slot} {w : List Nat} : ∀ ps : List (List (List Nat) × Ki), (∀ p ∈ ps, p.1.length ≤ 100) →
    compL [] (kSet (.tp [5, 6]) [5, 6] [a, b, c, .val (.str w), e, z1, z2]) (kTo F C .no) (kE F C f46m1e) (ps.map plD) m = .ok ((ps.map fun p => (w :: p.1, p.2)).map plD) m
  | [], _ => comp_end rfl
  | p :: ps, h => comp_go (m2 := m) rfl rfl to_no (by
      show evE F C f46m1e [a, b, c, .val (.str w), e, .val (.tup (p.1.map .str)), .val p.2.d] m = .ok (plD (w :: p.1, p.2)) m
      have hl : ((0 + 1 + (p.1.map D.str).length) ≤ lineMax) := by have := h p List.mem_cons_self; unfold lineMax; rw [List.length_map]; omega
      exists f46m1e, gd_iff (decide_eq_true hl)
      rfl) (places_row F C ps fun q hq => h q (List.mem_cons_of_mem _ hq))
theorem places_body (g : Gf T) {K : Nat} {k : Ki} {w : List Nat} {xs : List D} {a c z1 z2 : Slot} (ih : evF T K 46 [.dat k.d] m = .ok (.lst (k.places.map plD)) m) (hl : k.places.length ≤ 8192) (hd : ∀ p ∈ k.places, p.1.length ≤ k.deep) (h12 : k.deep ≤ 12) (hx : xs.length ≤ 20000) :
    kSs (evF T K) T.con T.sub f46l1 [a, .own (.lst xs), c, .val (.str w), .val k.d, z1, z2] m = .nx [a, .own (.lst (xs ++ (k.places.map fun p => (w :: p.1, p.2)).map plD)), c, .val (.str w), .val k.d, z1, z2] m := by
  show evSs _ _ _ f46l1 _ _ = _
  exists f46l1, ih, itS, guardOf
  rw [compR_ok (by unfold lineMax; rw [List.length_map]; omega) (places_row _ _ k.places fun p hp => by have := hd p hp; omega)]
  have : (xs.length + ((k.places.map fun p => (w :: p.1, p.2)).map plD).length ≤ lineMax) := by unfold lineMax; rw [List.length_map, List.length_map]; omega
  exists decide_eq_true this
theorem f_places (g : Gf T) : ∀ (k : Ki) (K : Nat), k.deep < K → k.deep ≤ 12 → evF T K 46 [.dat k.d] m = .ok (.lst (k.places.map plD)) m
  | k, 0, h, _ => by omega
  | .num, K + 1, _, _ => by rw [evF_to g.h46 rfl]; exists f46, Ki.d; rfl
  | .tru, K + 1, _, _ => by rw [evF_to g.h46 rfl]; exists f46, Ki.d; rfl
  | .any, K + 1, _, _ => by rw [evF_to g.h46 rfl]; exists f46, Ki.d; rfl
  | .fn a b, K + 1, h, h12 => by
    simp only [Ki.deep] at h h12
    have ia := f_places g a K (by omega) (by omega)
    have ib := f_places g b K (by omega) (by omega)
    have la : a.places.length ≤ 8192 := by
      have h1 := a.marks_le
      have h3 : 2 ^ (a.deep + 1) ≤ 2 ^ 13 := Nat.pow_le_pow_right (by decide) (by omega)
      rw [a.places_len]; omega
    have lb : b.places.length ≤ 8192 := by
      have h1 := b.marks_le
      have h3 : 2 ^ (b.deep + 1) ≤ 2 ^ 13 := Nat.pow_le_pow_right (by decide) (by omega)
      rw [b.places_len]; omega
    rw [evF_to g.h46 rfl]
    exists f46, Ki.d, e_ff, slD, cut, sIx, zipS, isTup
    rw [show List.take (3 - min 1 3) (List.drop (min 1 3) [D.str wFun, a.d, b.d]) = [a.d, b.d] from rfl]
    rw [show zipD [D.str [105, 110], D.str [111, 117, 116]] [a.d, b.d] = [.tup [.str wIn, a.d], .tup [.str wOut, b.d]] from rfl]
    rw [forL_go (e1 := [.val (.tup [.str wFun, a.d, b.d]), .own (.lst [.tup [.tup [], .tup [.str wFun, a.d, b.d]]]), .val (.tup [.str [105, 110], .str [111, 117, 116]]), .val (.str wIn), .val a.d, .no, .no]) (m2 := m) rfl rfl (places_body g ia la (fun p hp => a.places_deep p hp) (by omega) (by simp))]
    rw [forL_go (m2 := m) rfl rfl (places_body g ib lb (fun p hp => b.places_deep p hp) (by omega) (by simp; omega))]
    rw [forL_end rfl]
    exists K_tup
    congr 2
    simp only [Ki.places, List.map_cons, List.map_append, List.cons_append, List.nil_append]
    rfl
  | .pr a b, K + 1, h, h12 => by
    simp only [Ki.deep] at h h12
    have ia := f_places g a K (by omega) (by omega)
    have ib := f_places g b K (by omega) (by omega)
    have la : a.places.length ≤ 8192 := by
      have h1 := a.marks_le
      have h3 : 2 ^ (a.deep + 1) ≤ 2 ^ 13 := Nat.pow_le_pow_right (by decide) (by omega)
      rw [a.places_len]; omega
    have lb : b.places.length ≤ 8192 := by
      have h1 := b.marks_le
      have h3 : 2 ^ (b.deep + 1) ≤ 2 ^ 13 := Nat.pow_le_pow_right (by decide) (by omega)
      rw [b.places_len]; omega
    rw [evF_to g.h46 rfl]
    exists f46, Ki.d, e_pf, slD, cut, sIx, zipS, isTup
    rw [show List.take (3 - min 1 3) (List.drop (min 1 3) [D.str wPair, a.d, b.d]) = [a.d, b.d] from rfl]
    rw [show zipD [D.str [108, 101, 102, 116], D.str [114, 105, 103, 104, 116]] [a.d, b.d] = [.tup [.str wLeft, a.d], .tup [.str wRight, b.d]] from rfl]
    rw [forL_go (e1 := [.val (.tup [.str wPair, a.d, b.d]), .own (.lst [.tup [.tup [], .tup [.str wPair, a.d, b.d]]]), .val (.tup [.str [108, 101, 102, 116], .str [114, 105, 103, 104, 116]]), .val (.str wLeft), .val a.d, .no, .no]) (m2 := m) rfl rfl (places_body g ia la (fun p hp => a.places_deep p hp) (by omega) (by simp))]
    rw [forL_go (m2 := m) rfl rfl (places_body g ib lb (fun p hp => b.places_deep p hp) (by omega) (by simp; omega))]
    rw [forL_end rfl]
    exists K_tup
    congr 2
    simp only [Ki.places, List.map_cons, List.map_append, List.cons_append, List.nil_append]
    rfl
end
end Ev
/-! Pl11: the spring begins; a drawn order; what a call raises -/
namespace Ev
open PySem Fs
local macro_rules | `(tactic| exists $es,*) => `(tactic| simp only [e_var, e_con, e_glo, e_attr, o_ex, o_peek, os_nil, to_no, to_ex, es_nil, as_nil, eo_no, ss_nil, st_retn, st_pass, st_brk, st_cnt, hs_nil, tg_nm, tg_tp, sa_nil, sa_cons, R.bnd_ok, R.bind_ex, R.st_ok, R.st_ex, R.of_some, SR.out_nx, SR.out_rt, SR.out_ex, getV_0, getV_s, getE_0, getE_s, set_0, set_s, args_0, args_1, args_2, args_3, args_4, args_5, slot_d, slot_c, rep_0, rep_s, cellD_l, cellD_d, cloS_c, excS_x, ownS_o, ownL_l, lstC_l, getAll_nil, getAll_cons, consO_s, intO_i, E_tup, E_mk, E_mkr, E_bin, E_neg, E_cmp, E_not, E_and, E_or, E_ite, E_idx, E_sl, E_call, E_callk, E_app, E_isin, E_bi, E_meth, E_all, Os_cons, T_val, T_cmp, T_not, T_and, T_or, Es_cons, As_dat, As_lam, As_pas, Eo_ex, L_disp, L_copy, L_comp, L_cat, L_slice, L_ddisp, L_dict, L_litems, S_it, S_rng, S_rng2, S_enm, S_zip, Ss_cons, St_asg, St_par, St_own, St_frz, St_exp, St_oapp, St_oext, St_setr, St_ife, St_for, St_whl, St_ret, St_raise, St_try, Hs_some, Hs_none, K_tup, K_mk, K_mkr, K_bin2, K_bin1, K_neg, K_cmp2, K_cmp1, K_not, K_nbl, K_and, K_and_t, K_and_f, K_or, K_or_t, K_or_f, K_ite_t, K_ite_f, K_idx2, K_idx1, K_sl3, K_sl2, K_sl1, K_call, K_callk, K_callk_s, K_app, K_app_s, K_isin, K_bi, K_meth2, K_meth_s, K_meth1, K_meth_t, K_all, K_cons, K_os, K_tval, K_tcmp2, K_tcmp1, K_tnot, K_tand_t, K_tand_f, K_tor_t, K_tor_f, K_es, K_as, K_lam, K_pas, K_eo, K_disp, K_copy, K_comp, K_cat2, K_cat1, K_slc3, K_slc2, K_slc1, K_dd, K_dict, K_items, K_it, K_rng, K_rng2b, K_rng2a, K_enm, K_zip2, K_zip1, K_then, K_then_rt, K_then_bk, K_then_ct, K_then_ex, K_asg, K_asg_s, K_par2, K_par1, K_own, K_frz, K_exp, K_yes, K_oapp, K_oapp_s, K_oextL, K_oext, K_oext_s, K_sr, K_sr3, K_sr2, K_sr1, K_if_t, K_if_f, K_for, K_ret, K_raise, K_try_nx, K_try_rt, K_try_ex, K_fin_nx, K_fin_rt, K_fin0_nx, K_fin0_rt, K_hs_t, K_hs_f, K_hs0_t, K_hs0_f, sr_ref, sr_l, noExc_nil, noExc_cons, noX_v, noX_n, noX_x, noX_c, noX_o, gd_t, forL_congr, whileL_congr, compR_congr, compL_congr, b_add, b_sub, b_mul, b_mod, b_div, b_pow, b_cats, b_catl, b_catt, lstAt_l, lstAt_d, dicAt_l, dicAt_d, q_ref, q_tup, q_lst, q_non, q_bl, q_int, q_str, q_dic, c_ref, c_dic, c_tup, c_lst, c_str, c_int, r_ref, r_non, r_bl, r_int, r_str, r_tup, r_lst, y_ref, y_non, y_bl, y_int, y_str, y_tup, y_lst, y_dic, tyAt_l, tyAt_d, anyTy_0, anyTy_s, x_tup, x_lst, x_ref, idxAt_l, idxAt_d, x_cdic, x_dic, x_str, k_int, k_str, v_eq, v_ne, v_lt, v_le, v_gt, v_ge, v_in, v_nin, v_is, v_isn, eq_ii, non_non, non_bl, non_int, non_str, non_tup, non_lst, non_ref, non_dic, in_tup, in_cdic, f_ss, bi_lens, bi_lent, bi_lenl, bi_lenr, lenAt_l, bi_max, bi_min, bi_int, bi_intb, bi_tup, ix_0, ix_1, ix_2, ix_3, ix_4, nth_0, nth_s, nset_0, nset_s, me_ok_pop, me_ok_app, me_ok_cnt, me_ok_cntl, me_ok_get, me_pop, pop_0, me_app, Int.cast_ofNat_Int, Int.natCast_zero, Int.natCast_one, reduceCtorEq, Option.bind_some, Option.map_some, Option.bind_none, Option.map_none, List.map_nil, List.map_cons, List.length_cons, List.length_nil, Int.reduceLT, Int.reduceLE, Int.reduceEq, Int.reduceNe, Int.reduceNeg, Int.reducePow, Int.reduceToNat, Int.reduceAdd, Int.reduceSub, Int.reduceMul, Nat.reduceLT, Nat.reduceLeDiff, Nat.reduceAdd, Nat.reduceSub, Nat.reduceEqDiff, Nat.reduceBEq, Nat.reducePow, and_self, true_and, and_true, Bool.false_eq_true, if_true, if_false, Option.isSome_some, Option.isSome_none, Bool.not_true, Bool.not_false, List.any_nil, List.any_cons, List.all_nil, List.all_cons, Bool.or_true, Bool.true_or, Bool.or_false, Bool.false_or, Bool.and_true, Bool.true_and, Bool.false_and, Bool.and_false, decide_true, decide_false, List.nil_append, List.cons_append, List.append_nil, $[$es:term],*])

section
variable {T : Txt} {m : Mem}
theorem start_ok (g : Ga T) {K : Nat} {ns : List Int} (hl : ns.length ≤ 63) : ∃ s : Sp0, evF T (K + 1) 0 [.dat (.lst (ns.map .int))] [] = .ok (.ref 1) (s.mem []) ∧ s.At 0 := by
  refine ⟨⟨ns, 0, 0, 43⟩, ?_, ⟨Int.le_refl 0, Int.le_refl 0, Int.le_refl 0, (by show (0 : Int) ≤ 43; decide), (by show (43 : Int) < 2147483647; decide), hl⟩⟩
  rw [evF_to g.h0 rfl]
  exists f0, copyC
  rfl
theorem mem_app {s : Sp0} {r : Mem} {c : Cell} : s.mem r ++ [c] = s.mem (r ++ [c]) := rfl
theorem mem_len {s : Sp0} {r : Mem} : (s.mem r).length = r.length + 2 := rfl
theorem mem_last {s : Sp0} {r : Mem} {c : Cell} : (s.mem (r ++ [c]))[r.length + 2]? = some c := by
  show (r ++ [c])[r.length]? = some c
  simp
theorem mem_set_last {s : Sp0} {r : Mem} {c c' : Cell} : (s.mem (r ++ [c])).set (r.length + 2) c' = s.mem (r ++ [c']) := by
  show _ :: _ :: (r ++ [c]).set r.length c' = _
  rw [List.set_append_right _ _ (Nat.le_refl _)]
  simp [Sp0.mem]
theorem pop_at {m : Mem} {r j : Nat} {xs : List D} (h : j < xs.length) (hl : xs.length < 1000000) : popAt m r (j : Int) (some (.lst xs)) = some (xs[j], m.set r (.lst (xs.eraseIdx j))) := by
  have h1 : -(2 ^ 63) ≤ (j : Int) := by omega
  have h2 : (j : Int) < 2 ^ 63 := by omega
  simp only [popAt, h1, h2, and_self, if_true, ix_ok h, Option.bind_some, List.getElem?_eq_getElem h, Option.map_some]
theorem rngS_ok {i : Int} (h0 : 0 ≤ i) (h : i < 1000000000) : rngS (.int i) = some (rangeD 0 i, []) := by
  show (if -(2 ^ 62) ≤ i ∧ i < 2 ^ 62 then some (rangeD 0 i, ([] : Guards)) else none) = _
  rw [if_pos (by omega)]
theorem mixed_loop (h1 : T.fns 1 = some f1) {K : Nat} {r : Mem} {e0 : D} {z : Slot} : ∀ (ds ys : List D) (B : Nat) (s : Sp0), ds.length = ys.length → ys.length < 1000000 → s.At B → Far (B + ys.length) →
    ∃ (zs : List D) (s' : Sp0), compL [] (kSet (.nm 3) [3] [.val (.ref 1), .val e0, .val (.ref (r.length + 2)), z]) (kTo (evF T (K + 1)) T.con .no) (kE (evF T (K + 1)) T.con f2m1e) ds (s.mem (r ++ [.lst ys])) = .ok zs (s'.mem (r ++ [.lst []])) ∧ zs.length = ys.length ∧ (∀ x ∈ zs, x ∈ ys) ∧ s'.At (B + ys.length)
  | [], [], B, s, _, _, hs, hB => ⟨[], s, comp_end rfl, rfl, (fun _ h => by cases h), hs⟩
  | [], _ :: _, _, _, h, _, _, _ => by simp at h
  | _ :: _, [], _, _, h, _, _, _ => by simp at h
  | d :: ds, y :: ys, B, s, h, hl, hs, hB => by
    have h0 : (0 : Int) < (y :: ys).length := by simp only [List.length_cons]; omega
    obtain ⟨v, s1, e1, v0, v1, hs1⟩ := draw (k := K) (r := r ++ [.lst (y :: ys)]) (n := ((y :: ys).length : Int)) h1 hs (hB.mono (by simp)) h0 (by omega)
    obtain ⟨j, rfl⟩ := Int.eq_ofNat_of_zero_le v0
    have hj : j < (y :: ys).length := by omega
    have hlen : ((y :: ys).eraseIdx j).length = ys.length := by rw [List.length_eraseIdx_of_lt hj]; simp
    simp only [List.length_cons] at h hl hB
    obtain ⟨zs, s2, e2, g1, g2, g3⟩ := mixed_loop h1 (K := K) (r := r) (e0 := e0) (z := z) ds ((y :: ys).eraseIdx j) (B + 1) s1 (by omega) (by omega) hs1 (by rw [hlen]; exact hB.mono (by omega))
    refine ⟨(y :: ys)[j] :: zs, s2, comp_step (m1 := s1.mem (r ++ [.lst ((y :: ys).eraseIdx j)])) ?_ e2, by simp; omega, fun x hx => ?_, by rw [hlen] at g3; exact g3.mono (by simp; omega)⟩
    · show evE (evF T (K + 1)) T.con f2m1e [.val (.ref 1), .val e0, .val (.ref (r.length + 2)), .val d] (s.mem (r ++ [.lst (y :: ys)])) = _
      simp only [List.length_cons] at e1
      exists f2m1e, mem_last, e1, pop_at hj hl, mem_set_last
    · rcases List.mem_cons.mp hx with rfl | hx
      · exact List.getElem_mem hj
      · exact List.mem_of_mem_eraseIdx (g2 x hx)
theorem mixed_ok (g : Ga T) {K B : Nat} {r : Mem} {s : Sp0} {xs : List D} (hl : xs.length < 1000000) (hs : s.At B) (hB : Far (B + xs.length)) : ∃ (zs : List D) (s' : Sp0), evF T (K + 2) 2 [.dat (.ref 1), .dat (.lst xs)] (s.mem r) = .ok (.lst zs) (s'.mem (r ++ [.lst []])) ∧ zs.length = xs.length ∧ (∀ x ∈ zs, x ∈ xs) ∧ s'.At (B + xs.length) := by
  have hr : (rangeD 0 xs.length).length = xs.length := by simp [rangeD]
  obtain ⟨zs, s', e, h1, h2, h3⟩ := mixed_loop g.h1 (K := K) (r := r) (e0 := .lst xs) (z := .no) (rangeD 0 xs.length) xs B s hr hl hs hB
  have hb : rngS (.int (xs.length : Int)) = some (rangeD 0 xs.length, []) := rngS_ok (by omega) (by omega)
  clear hB hs
  rw [evF_to g.h2 rfl]
  exists f2, copyC, mem_app, mem_len, mem_last, hb
  rw [compR_ok (by rw [hr]; unfold lineMax; omega) e]
  exists K_tup
  exact ⟨zs, s', rfl, h1, h2, h3⟩
end
end Ev
/-! Pl12: which error a call raises; calls asked twice -/
namespace Ev
open PySem Fs
local macro_rules | `(tactic| exists $es,*) => `(tactic| simp only [e_var, e_con, e_glo, e_attr, o_ex, o_peek, os_nil, to_no, to_ex, es_nil, as_nil, eo_no, ss_nil, st_retn, st_pass, st_brk, st_cnt, hs_nil, tg_nm, tg_tp, sa_nil, sa_cons, R.bnd_ok, R.bind_ex, R.st_ok, R.st_ex, R.of_some, SR.out_nx, SR.out_rt, SR.out_ex, getV_0, getV_s, getE_0, getE_s, set_0, set_s, args_0, args_1, args_2, args_3, args_4, args_5, slot_d, slot_c, rep_0, rep_s, cellD_l, cellD_d, cloS_c, excS_x, ownS_o, ownL_l, lstC_l, getAll_nil, getAll_cons, consO_s, intO_i, E_tup, E_mk, E_mkr, E_bin, E_neg, E_cmp, E_not, E_and, E_or, E_ite, E_idx, E_sl, E_call, E_callk, E_app, E_isin, E_bi, E_meth, E_all, Os_cons, T_val, T_cmp, T_not, T_and, T_or, Es_cons, As_dat, As_lam, As_pas, Eo_ex, L_disp, L_copy, L_comp, L_cat, L_slice, L_ddisp, L_dict, L_litems, S_it, S_rng, S_rng2, S_enm, S_zip, Ss_cons, St_asg, St_par, St_own, St_frz, St_exp, St_oapp, St_oext, St_setr, St_ife, St_for, St_whl, St_ret, St_raise, St_try, Hs_some, Hs_none, K_tup, K_mk, K_mkr, K_bin2, K_bin1, K_neg, K_cmp2, K_cmp1, K_not, K_nbl, K_and, K_and_t, K_and_f, K_or, K_or_t, K_or_f, K_ite_t, K_ite_f, K_idx2, K_idx1, K_sl3, K_sl2, K_sl1, K_call, K_callk, K_callk_s, K_app, K_app_s, K_isin, K_bi, K_meth2, K_meth_s, K_meth1, K_meth_t, K_all, K_cons, K_os, K_tval, K_tcmp2, K_tcmp1, K_tnot, K_tand_t, K_tand_f, K_tor_t, K_tor_f, K_es, K_as, K_lam, K_pas, K_eo, K_disp, K_copy, K_comp, K_cat2, K_cat1, K_slc3, K_slc2, K_slc1, K_dd, K_dict, K_items, K_it, K_rng, K_rng2b, K_rng2a, K_enm, K_zip2, K_zip1, K_then, K_then_rt, K_then_bk, K_then_ct, K_then_ex, K_asg, K_asg_s, K_par2, K_par1, K_own, K_frz, K_exp, K_yes, K_oapp, K_oapp_s, K_oextL, K_oext, K_oext_s, K_sr, K_sr3, K_sr2, K_sr1, K_if_t, K_if_f, K_for, K_ret, K_raise, K_try_nx, K_try_rt, K_try_ex, K_fin_nx, K_fin_rt, K_fin0_nx, K_fin0_rt, K_hs_t, K_hs_f, K_hs0_t, K_hs0_f, sr_ref, sr_l, noExc_nil, noExc_cons, noX_v, noX_n, noX_x, noX_c, noX_o, gd_t, forL_congr, whileL_congr, compR_congr, compL_congr, b_add, b_sub, b_mul, b_mod, b_div, b_pow, b_cats, b_catl, b_catt, lstAt_l, lstAt_d, dicAt_l, dicAt_d, q_ref, q_tup, q_lst, q_non, q_bl, q_int, q_str, q_dic, c_ref, c_dic, c_tup, c_lst, c_str, c_int, r_ref, r_non, r_bl, r_int, r_str, r_tup, r_lst, y_ref, y_non, y_bl, y_int, y_str, y_tup, y_lst, y_dic, tyAt_l, tyAt_d, anyTy_0, anyTy_s, x_tup, x_lst, x_ref, idxAt_l, idxAt_d, x_cdic, x_dic, x_str, k_int, k_str, v_eq, v_ne, v_lt, v_le, v_gt, v_ge, v_in, v_nin, v_is, v_isn, eq_ii, non_non, non_bl, non_int, non_str, non_tup, non_lst, non_ref, non_dic, in_tup, in_cdic, f_ss, bi_lens, bi_lent, bi_lenl, bi_lenr, lenAt_l, bi_max, bi_min, bi_int, bi_intb, bi_tup, ix_0, ix_1, ix_2, ix_3, ix_4, nth_0, nth_s, nset_0, nset_s, me_ok_pop, me_ok_app, me_ok_cnt, me_ok_cntl, me_ok_get, me_pop, pop_0, me_app, Int.cast_ofNat_Int, Int.natCast_zero, Int.natCast_one, reduceCtorEq, Option.bind_some, Option.map_some, Option.bind_none, Option.map_none, List.map_nil, List.map_cons, List.length_cons, List.length_nil, Int.reduceLT, Int.reduceLE, Int.reduceEq, Int.reduceNe, Int.reduceNeg, Int.reducePow, Int.reduceToNat, Int.reduceAdd, Int.reduceSub, Int.reduceMul, Nat.reduceLT, Nat.reduceLeDiff, Nat.reduceAdd, Nat.reduceSub, Nat.reduceEqDiff, Nat.reduceBEq, Nat.reducePow, and_self, true_and, and_true, Bool.false_eq_true, if_true, if_false, Option.isSome_some, Option.isSome_none, Bool.not_true, Bool.not_false, List.any_nil, List.any_cons, List.all_nil, List.all_cons, Bool.or_true, Bool.true_or, Bool.or_false, Bool.false_or, Bool.and_true, Bool.true_and, Bool.false_and, Bool.and_false, decide_true, decide_false, List.nil_append, List.cons_append, List.append_nil, $[$es:term],*])

structure Gx (T : Txt) : Prop where
  h33 : T.fns 33 = some f33
  h34 : T.fns 34 = some f34
  h35 : T.fns 35 = some f35
  s10 : ∀ d, T.sub 10 d = (d == 10 || d == 0)
  s12 : ∀ d, T.sub 12 d = (d == 12 || d == 0)
  s24 : ∀ d, T.sub 24 d = (d == 24 || d == 0)
section
variable {T : Txt} {m m' : Mem}
theorem lk_thing {x : D} : List.lookup [116, 104, 105, 110, 103] [([116, 104, 105, 110, 103], x)] = some x := by simp [List.lookup]
theorem raised_kind {K l : Nat} {cs : List D} {x : D} (g : Gx T) (h : evF T K l (cs.map .dat) m = .ex ⟨12, [(wThing, x)]⟩ m') : evF T (K + 1) 33 [.clo l cs] m = .ok (.tup [.str [107, 105, 110, 100], x]) m' := by
  rw [evF_to g.h33 rfl]
  exists f33, h, g.s12, lk_thing
theorem raised_head {K l : Nat} {cs : List D} {x : D} (g : Gx T) (h : evF T K l (cs.map .dat) m = .ex ⟨10, [(wThing, x)]⟩ m') : evF T (K + 1) 33 [.clo l cs] m = .ok (.tup [.str [104, 101, 97, 100], x]) m' := by
  rw [evF_to g.h33 rfl]
  exists f33, h, g.s10, lk_thing
theorem raised_place {K l : Nat} {cs : List D} {x : D} (g : Gx T) (h : evF T K l (cs.map .dat) m = .ex ⟨24, [(wThing, x)]⟩ m') : evF T (K + 1) 33 [.clo l cs] m = .ok (.tup [.str [112, 108, 97, 99, 101], x]) m' := by
  rw [evF_to g.h33 rfl]
  exists f33, h, g.s24, lk_thing
/-- a call that raises the error of this kind, which holds this very thing; the thing is spoilt behind it -/
theorem refuses {K l : Nat} {cs : List D} {x : D} {w : List Nat} {m2 : Mem} {N : Nat} (g : Ga T) (gx : Gx T) (hw : okTx w = true) (h : evF T K 33 [.clo l cs] m = .ok (.tup [.str w, x]) m') (hs : evF T K 42 [.dat x] m' = .ok .non m2) (hr : rd m2 N x = true) (hN : 3 * N + 1 ≤ K) :
    evF T (K + 1) 34 [.clo l cs, .dat (.str w), .dat x] m = .ok (.bl true) m2 := by
  rw [evF_to gx.h34 rfl]
  exists f34, h, hs, eq_ss hw hw, same_self g N x K hr hN
mutual
theorem lo_pl : ∀ (d x : D), pl d = true → loD d x → pl x = true ∧ ri x = ri d ∧ dep x = dep d ∧ sz x = sz d
  | .non, x, _, h => by simp only [loD] at h; subst h; exact ⟨rfl, rfl, rfl, rfl⟩
  | .bl _, x, _, h => by simp only [loD] at h; subst h; exact ⟨rfl, rfl, rfl, rfl⟩
  | .int _, x, _, h => by simp only [loD] at h; subst h; exact ⟨rfl, rfl, rfl, rfl⟩
  | .str s, x, hp, h => by simp only [loD] at h; subst h; exact ⟨hp, rfl, rfl, rfl⟩
  | .tup ds, x, hp, h => by
    simp only [pl] at hp
    simp only [loD] at h
    obtain ⟨ys, h1, h2⟩ := h
    obtain ⟨a, b, c, d⟩ := lo_plL ds ys hp h1
    rcases h2 with rfl | rfl <;> simp only [pl, ri, dep, sz, a, b, c, d, and_self]
  | .lst ds, x, hp, h => by
    simp only [pl] at hp
    simp only [loD] at h
    obtain ⟨ys, h1, h2⟩ := h
    obtain ⟨a, b, c, d⟩ := lo_plL ds ys hp h1
    rcases h2 with rfl | rfl <;> simp only [pl, ri, dep, sz, a, b, c, d, and_self]
  | .dic _, _, hp, _ => by simp [pl] at hp
  | .ref _, _, hp, _ => by simp [pl] at hp
  | .cdic _, _, hp, _ => by simp [pl] at hp
theorem lo_plL : ∀ (ds xs : List D), plL ds = true → loL ds xs → plL xs = true ∧ riL xs = riL ds ∧ depL xs = depL ds ∧ szL xs = szL ds
  | [], xs, _, h => by simp only [loL] at h; subst h; exact ⟨rfl, rfl, rfl, rfl⟩
  | d :: ds, xs, hp, h => by
    simp only [plL, Bool.and_eq_true] at hp
    simp only [loL] at h
    obtain ⟨y, r, rfl, h1, h2⟩ := h
    obtain ⟨a, b, c, e⟩ := lo_pl d y hp.1 h1
    obtain ⟨a2, b2, c2, e2⟩ := lo_plL ds r hp.2 h2
    simp only [plL, riL, depL, szL, a, b, c, e, a2, b2, c2, e2, Bool.and_self, and_self]
end
mutual
theorem lo_refl : ∀ d : D, pl d = true → loD d d
  | .non, _ => by simp [loD]
  | .bl _, _ => by simp [loD]
  | .int _, _ => by simp [loD]
  | .str _, _ => by simp [loD]
  | .tup ds, h => by
    simp only [pl] at h
    simp only [loD]
    exact ⟨ds, lo_reflL ds h, .inl rfl⟩
  | .lst ds, h => by
    simp only [pl] at h
    simp only [loD]
    exact ⟨ds, lo_reflL ds h, .inr rfl⟩
  | .dic _, h => by simp [pl] at h
  | .ref _, h => by simp [pl] at h
  | .cdic _, h => by simp [pl] at h
theorem lo_reflL : ∀ ds : List D, plL ds = true → loL ds ds
  | [], _ => by simp [loL]
  | d :: ds, h => by
    simp only [plL, Bool.and_eq_true] at h
    simp only [loL]
    exact ⟨d, ds, rfl, lo_refl d h.1, lo_reflL ds h.2⟩
end
theorem loose_comp (g : Ga T) {k i : Nat} {vs : List Nat} {e : Env} {f : E} {r : Mem} (hf : ∀ x m, evE (evF T k) T.con f ((wipeE e vs).set i (.val x)) m = evF T k 41 [.dat (.ref 1), .dat x] m) : ∀ (xs : List D), plL xs = true → ∀ (B : Nat) (s : Sp0), depL xs + 1 < k → s.At B → Far (B + szL xs) → szL xs ≤ 100000 →
    ∃ (ys : List D) (s' : Sp0), compL [] (kSet (.nm i) vs e) (kTo (evF T k) T.con .no) (kE (evF T k) T.con f) xs (s.mem r) = .ok ys (s'.mem r) ∧ loL xs ys ∧ s'.At (B + szL xs)
  | [], _, B, s, hk, hs, hB, _ => ⟨[], s, comp_end rfl, rfl, hs⟩
  | x :: xs, hp, B, s, hk, hs, hB, hz => by
    simp only [plL, Bool.and_eq_true, depL, szL] at hp hk hB hz
    obtain ⟨y, s1, e1, h1, h2⟩ := loose_d g (r := r) x hp.1 (k - 1) B s (by omega) hs (hB.mono (by omega)) (by omega)
    rw [show k - 1 + 1 = k by omega] at e1
    obtain ⟨ys, s2, e2, h3, h4⟩ := loose_comp g hf xs hp.2 (B + sz x) s1 (by omega) h2 (hB.mono (by omega)) (by omega)
    exact ⟨y :: ys, s2, comp_step (by rw [hf]; exact e1) e2, by simp only [loL]; exact ⟨y, ys, rfl, h1, h3⟩, h4.mono (by simp only [szL]; omega)⟩
/-- one turn of a call that is asked twice -/
theorem asked_turn (g : Ga T) (gx : Gx T) {K l B : Nat} {cs ds : List D} {due : D} {s : Sp0} {r : Mem} {t z5 z6 z7 z8 : Slot} (hp : plL ds = true) (hri : riL ds = true) (hdp : depL ds ≤ 20) (hsz : szL ds ≤ 40000)
    (hrun : ∀ ys m, loL ds ys → evF T K l (cs.map .dat ++ [.dat (.lst ys)]) m = .ok due m) (dp : pl due = true) (dn : nl due = true) (dd : dep due ≤ 20) (dz : sz due ≤ 40000) (hK : 80 ≤ K) (hs : s.At B) (hB : Far (B + szL ds)) :
    ∃ (s' : Sp0) (w5 w6 w7 w8 : Slot), kSs (evF T K) T.con T.sub f35l1 [.val (.ref 1), .clo l cs, .val (.lst ds), .val due, t, z5, z6, z7, z8] (s.mem r) = .nx [.val (.ref 1), .clo l cs, .val (.lst ds), .val due, t, w5, w6, w7, w8] (s'.mem r) ∧ s'.At (B + szL ds) := by
  obtain ⟨ys, s', e1, h1, h2⟩ := loose_comp g (k := K) (i := 8) (vs := [8]) (e := [.val (.ref 1), .clo l cs, .val (.lst ds), .val due, t, z5, z6, z7, z8]) (f := f35m1e) (r := r) (fun x m => by
    show evE _ _ f35m1e [.val (.ref 1), .clo l cs, .val (.lst ds), .val due, t, z5, z6, z7, .val x] m = _
    exists f35m1e) ds hp B s (by omega) hs hB (by omega)
  obtain ⟨p1, p2, p3, p4⟩ := lo_plL ds ys hp h1
  obtain ⟨tx, r1, r2⟩ := repr_pl (m := []) (d := .lst ys) (by simpa [pl] using p1) (by simp only [ri, p2, hri]) (by simp only [dep, p3]; omega) (by simp only [sz, p4]; omega)
  have sm : ∀ m, evF T K 40 [.dat due, .dat due] m = .ok (.bl true) m := fun m => same_self g (dep due + 1) due K (rd_lo due due dp (by omega) (lo_refl due dp)) (by omega)
  have ap : ∀ m, evF T K 44 [.dat due] m = .ok (.bl true) m := fun m => by
    obtain ⟨K, rfl⟩ : ∃ j, K = j + 1 := ⟨K - 1, by omega⟩
    exact apart_nl g dn dp (by omega) (by omega) (by omega)
  have hl := len_sz ds
  have hrun' := fun m => hrun ys m h1
  show ∃ (s' : Sp0) (w5 w6 w7 w8 : Slot), evSs _ _ _ f35l1 _ _ = _ ∧ _
  exists f35l1, itS, guardOf
  rw [compR_ok (by unfold lineMax; omega) e1]
  exists r1
  rw [hrun' (s'.mem r)]
  exists sm, ap, r1, r2
  exact ⟨s', _, _, _, _, rfl, h2⟩
theorem asked (g : Ga T) (gx : Gx T) {K l B : Nat} {cs ds : List D} {due : D} {s : Sp0} {r : Mem} (hp : plL ds = true) (hri : riL ds = true) (hdp : depL ds ≤ 20) (hsz : szL ds ≤ 40000)
    (hrun : ∀ ys m, loL ds ys → evF T K l (cs.map .dat ++ [.dat (.lst ys)]) m = .ok due m) (dp : pl due = true) (dn : nl due = true) (dd : dep due ≤ 20) (dz : sz due ≤ 40000) (hK : 80 ≤ K) (hs : s.At B) (hB : Far (B + 2 * szL ds)) :
    ∃ (s' : Sp0), evF T (K + 1) 35 [.dat (.ref 1), .clo l cs, .dat (.lst ds), .dat due] (s.mem r) = .ok (.bl true) (s'.mem r) ∧ s'.At (B + 2 * szL ds) := by
  obtain ⟨s1, a5, a6, a7, a8, e1, h1⟩ := asked_turn g gx (r := r) (t := .val (.int 0)) (z5 := .no) (z6 := .no) (z7 := .no) (z8 := .no) hp hri hdp hsz hrun dp dn dd dz hK hs (hB.mono (by omega))
  obtain ⟨s2, b5, b6, b7, b8, e2, h2⟩ := asked_turn g gx (r := r) (t := .val (.int 1)) (z5 := a5) (z6 := a6) (z7 := a7) (z8 := a8) hp hri hdp hsz hrun dp dn dd dz hK h1 (hB.mono (by omega))
  rw [evF_to gx.h35 rfl]
  exists f35, rngS_ok (show (0 : Int) ≤ 2 by decide) (by decide)
  rw [show rangeD 0 2 = [.int 0, .int 1] from rfl, forL_go rfl rfl e1, forL_go rfl rfl e2, forL_end rfl]
  exists K_tup
  exact ⟨s2, rfl, h2.mono (by omega)⟩
end
end Ev
/-! Pl13: all is told of a kind -/
namespace Ev
open PySem Fs
local macro_rules | `(tactic| exists $es,*) => `(tactic| simp only [e_var, e_con, e_glo, e_attr, o_ex, o_peek, os_nil, to_no, to_ex, es_nil, as_nil, eo_no, ss_nil, st_retn, st_pass, st_brk, st_cnt, hs_nil, tg_nm, tg_tp, sa_nil, sa_cons, R.bnd_ok, R.bind_ex, R.st_ok, R.st_ex, R.of_some, SR.out_nx, SR.out_rt, SR.out_ex, getV_0, getV_s, getE_0, getE_s, set_0, set_s, args_0, args_1, args_2, args_3, args_4, args_5, slot_d, slot_c, rep_0, rep_s, cellD_l, cellD_d, cloS_c, excS_x, ownS_o, ownL_l, lstC_l, getAll_nil, getAll_cons, consO_s, intO_i, E_tup, E_mk, E_mkr, E_bin, E_neg, E_cmp, E_not, E_and, E_or, E_ite, E_idx, E_sl, E_call, E_callk, E_app, E_isin, E_bi, E_meth, E_all, Os_cons, T_val, T_cmp, T_not, T_and, T_or, Es_cons, As_dat, As_lam, As_pas, Eo_ex, L_disp, L_copy, L_comp, L_cat, L_slice, L_ddisp, L_dict, L_litems, S_it, S_rng, S_rng2, S_enm, S_zip, Ss_cons, St_asg, St_par, St_own, St_frz, St_exp, St_oapp, St_oext, St_setr, St_ife, St_for, St_whl, St_ret, St_raise, St_try, Hs_some, Hs_none, K_tup, K_mk, K_mkr, K_bin2, K_bin1, K_neg, K_cmp2, K_cmp1, K_not, K_nbl, K_and, K_and_t, K_and_f, K_or, K_or_t, K_or_f, K_ite_t, K_ite_f, K_idx2, K_idx1, K_sl3, K_sl2, K_sl1, K_call, K_callk, K_callk_s, K_app, K_app_s, K_isin, K_bi, K_meth2, K_meth_s, K_meth1, K_meth_t, K_all, K_cons, K_os, K_tval, K_tcmp2, K_tcmp1, K_tnot, K_tand_t, K_tand_f, K_tor_t, K_tor_f, K_es, K_as, K_lam, K_pas, K_eo, K_disp, K_copy, K_comp, K_cat2, K_cat1, K_slc3, K_slc2, K_slc1, K_dd, K_dict, K_items, K_it, K_rng, K_rng2b, K_rng2a, K_enm, K_zip2, K_zip1, K_then, K_then_rt, K_then_bk, K_then_ct, K_then_ex, K_asg, K_asg_s, K_par2, K_par1, K_own, K_frz, K_exp, K_yes, K_oapp, K_oapp_s, K_oextL, K_oext, K_oext_s, K_sr, K_sr3, K_sr2, K_sr1, K_if_t, K_if_f, K_for, K_ret, K_raise, K_try_nx, K_try_rt, K_try_ex, K_fin_nx, K_fin_rt, K_fin0_nx, K_fin0_rt, K_hs_t, K_hs_f, K_hs0_t, K_hs0_f, sr_ref, sr_l, noExc_nil, noExc_cons, noX_v, noX_n, noX_x, noX_c, noX_o, gd_t, forL_congr, whileL_congr, compR_congr, compL_congr, b_add, b_sub, b_mul, b_mod, b_div, b_pow, b_cats, b_catl, b_catt, lstAt_l, lstAt_d, dicAt_l, dicAt_d, q_ref, q_tup, q_lst, q_non, q_bl, q_int, q_str, q_dic, c_ref, c_dic, c_tup, c_lst, c_str, c_int, r_ref, r_non, r_bl, r_int, r_str, r_tup, r_lst, y_ref, y_non, y_bl, y_int, y_str, y_tup, y_lst, y_dic, tyAt_l, tyAt_d, anyTy_0, anyTy_s, x_tup, x_lst, x_ref, idxAt_l, idxAt_d, x_cdic, x_dic, x_str, k_int, k_str, v_eq, v_ne, v_lt, v_le, v_gt, v_ge, v_in, v_nin, v_is, v_isn, eq_ii, non_non, non_bl, non_int, non_str, non_tup, non_lst, non_ref, non_dic, in_tup, in_cdic, f_ss, bi_lens, bi_lent, bi_lenl, bi_lenr, lenAt_l, bi_max, bi_min, bi_int, bi_intb, bi_tup, ix_0, ix_1, ix_2, ix_3, ix_4, nth_0, nth_s, nset_0, nset_s, me_ok_pop, me_ok_app, me_ok_cnt, me_ok_cntl, me_ok_get, me_pop, pop_0, me_app, Int.cast_ofNat_Int, Int.natCast_zero, Int.natCast_one, reduceCtorEq, Option.bind_some, Option.map_some, Option.bind_none, Option.map_none, List.map_nil, List.map_cons, List.length_cons, List.length_nil, Int.reduceLT, Int.reduceLE, Int.reduceEq, Int.reduceNe, Int.reduceNeg, Int.reducePow, Int.reduceToNat, Int.reduceAdd, Int.reduceSub, Int.reduceMul, Nat.reduceLT, Nat.reduceLeDiff, Nat.reduceAdd, Nat.reduceSub, Nat.reduceEqDiff, Nat.reduceBEq, Nat.reducePow, and_self, true_and, and_true, Bool.false_eq_true, if_true, if_false, Option.isSome_some, Option.isSome_none, Bool.not_true, Bool.not_false, List.any_nil, List.any_cons, List.all_nil, List.all_cons, Bool.or_true, Bool.true_or, Bool.or_false, Bool.false_or, Bool.and_true, Bool.true_and, Bool.false_and, Bool.and_false, decide_true, decide_false, List.nil_append, List.cons_append, List.append_nil, $[$es:term],*])

structure Gm (T : Txt) : Prop where
  h36 : T.fns 36 = some f36
  h47 : T.fns 47 = some f47
  h48 : T.fns 48 = some f48
  h49 : T.fns 49 = some f49
  l0 : T.fns 10470 = some f10470
  l1 : T.fns 10480 = some f10480
  l2 : T.fns 10481 = some f10481
  l3 : T.fns 10482 = some f10482
  l4 : T.fns 10483 = some f10483
  l5 : T.fns 10484 = some f10484
  l6 : T.fns 10485 = some f10485
  l7 : T.fns 10490 = some f10490
section
variable {T : Txt} {m : Mem}
theorem perm1 {a : D} : permD [a] [0] = some [a] := (rfl)
theorem perm10 {a b : D} : permD [a, b] [1, 0] = some [b, a] := (rfl)
/-- words of steps -/
theorem words_pl : ∀ ws : List (List Nat), (∀ w ∈ ws, isStep w = true) → plL (ws.map .str) = true ∧ riL (ws.map .str) = true ∧ depL (ws.map .str) = 0 ∧ szL (ws.map .str) ≤ 6 * ws.length
  | [], _ => ⟨rfl, rfl, rfl, Nat.le_refl _⟩
  | w :: ws, h => by
    obtain ⟨h1, h2, h3, h4⟩ := words_pl ws fun v hv => h v (List.mem_cons_of_mem _ hv)
    have hw := h w List.mem_cons_self
    simp only [isStep, Bool.or_eq_true, beq_iff_eq] at hw
    have e1 : pl (.str w) = true ∧ sz (.str w) ≤ 6 := by
      rcases hw with rfl | rfl | rfl | rfl <;> exact ⟨rfl, by decide⟩
    simp only [List.map_cons, plL, riL, depL, szL, e1.1, h1, h2, h3, ri, dep, Bool.and_self, Nat.max_self, List.length_cons, true_and]
    omega
theorem eqv_strs : ∀ a b : List (List Nat), PyData.eqvAll (toPL (a.map .str)) (toPL (b.map .str)) = decide (a = b)
  | [], [] => rfl
  | [], _ :: _ => rfl
  | _ :: _, [] => rfl
  | x :: a, y :: b => by
    have ih := eqv_strs a b
    simp only [List.map_cons, toPL, toP, PyData.eqvAll, PyData.eqv, ih]
    have e : ((⟨x.toArray⟩ : Str) == ⟨y.toArray⟩) = decide (x = y) := by
      by_cases h : x = y
      · subst h; simp
      · rw [decide_eq_false h, beq_eq_false_iff_ne]
        intro e
        exact h (congrArg Array.toList (Str.mk.inj e))
    rw [e]
    by_cases h1 : x = y
    · by_cases h2 : a = b
      · simp [h1, h2]
      · simp [h1, h2]
    · simp [h1]
theorem eq_strs {a b : List (List Nat)} (ha : ∀ w ∈ a, isStep w = true) (hb : ∀ w ∈ b, isStep w = true) : eqD m (.tup (a.map .str)) (.tup (b.map .str)) = some (decide (a = b)) := by
  obtain ⟨a1, a2, a3, a4⟩ := words_pl a ha
  obtain ⟨b1, b2, b3, b4⟩ := words_pl b hb
  rw [eq_pl (by simpa [pl] using a1) (by simpa [pl] using b1) (by simp only [dep, a3]; decide) (by simp only [dep, b3]; decide)]
  simp only [toP, PyData.eqv, eqv_strs]
theorem lo_strs : ∀ (a : List (List Nat)) (zs : List D), loL (a.map .str) zs → zs = a.map .str
  | [], zs, h => by simpa [loL] using h
  | w :: a, zs, h => by
    simp only [List.map_cons, loL] at h
    obtain ⟨y, r, rfl, h1, h2⟩ := h
    simp only [loD] at h1
    rw [h1, lo_strs a r h2]
    rfl
/-- the parts at a place among all told -/
theorem inner_ok {k : Ki} {ws : List (List Nat)} : ∃ F : List Ki, (k.places.filter fun p => decide (p.1 = ws)).map (·.2) = F ∧ (F = [] → k.part ws = none) ∧ ∀ q r, F = q :: r → k.part ws = some q := by
  refine ⟨_, rfl, fun h => ?_, fun q r h => ?_⟩
  · cases hp : k.part ws with
    | none => rfl
    | some q =>
      have hm := Ki.part_mem ws k q hp
      have : q ∈ (k.places.filter fun p => decide (p.1 = ws)).map (·.2) := List.mem_map.mpr ⟨(ws, q), List.mem_filter.mpr ⟨hm, by simp⟩, rfl⟩
      rw [h] at this
      cases this
  · have : q ∈ (k.places.filter fun p => decide (p.1 = ws)).map (·.2) := by rw [h]; exact List.mem_cons_self
    obtain ⟨p, hp, rfl⟩ := List.mem_map.mp this
    obtain ⟨h1, h2⟩ := List.mem_filter.mp hp
    have e : p.1 = ws := of_decide_eq_true h2
    rw [← e]
    exact Ki.mem_part k p.1 p.2 h1
/-- the comprehension that seeks them -/
def wordsOf : D → List (List Nat)
  | .tup xs => xs.filterMap fun x => match x with | .str s => some s | _ => none
  | _ => []
theorem inner_row (F : Nat → List Arg → Mem → R D) (C : Nat → Option D) {k : Ki} {ws : List (List Nat)} {w : List Nat} {a b c d e f x8 x10 x11 x12 : Slot} (hw : ∀ v ∈ ws, isStep v = true) (h1 : isStep w = true) (hl : ws.length ≤ 100) : ∀ ps : List (List (List Nat) × Ki), (∀ p ∈ ps, ∀ v ∈ p.1, isStep v = true) →
    compL [] (kSet (.tp [11, 12]) [11, 12] [a, b, c, d, e, f, x11, .val (.tup (ws.map .str)), x8, .val (.str w), x10, x12, .no]) (kTo F C (.ex f47m1c)) (kE F C f47m1e) (ps.map plD) m = .ok (((ps.filter fun p => decide (p.1 = ws ++ [w])).map (·.2)).map Ki.d) m
  | [], _ => comp_end rfl
  | p :: ps, h => by
    have ih := inner_row F C (k := k) (a := a) (b := b) (c := c) (d := d) (e := e) (f := f) (x8 := x8) (x10 := x10) (x11 := x11) (x12 := x12) hw h1 hl ps fun q hq => h q (List.mem_cons_of_mem _ hq)
    have hlen : ((ws.map D.str).length + (0 + 1) ≤ lineMax) := by unfold lineMax; rw [List.length_map]; omega
    have hcat : (ws.map D.str) ++ [D.str w] = (ws ++ [w]).map .str := by simp
    have hall : ∀ v ∈ ws ++ [w], isStep v = true := fun v hv => by
      rcases List.mem_append.mp hv with hv | hv
      · exact hw v hv
      · rw [List.mem_singleton.mp hv]; exact h1
    have hc : kTo F C (.ex f47m1c) [a, b, c, d, e, f, x11, .val (.tup (ws.map .str)), x8, .val (.str w), x10, .val (.tup (p.1.map .str)), .val p.2.d] m = .ok (decide (p.1 = ws ++ [w])) m := by
      show evTo F C (.ex f47m1c) _ _ = _
      exists f47m1c, gd_iff (decide_eq_true hlen), hcat, eq_strs (h p List.mem_cons_self) hall
    cases hd : decide (p.1 = ws ++ [w]) with
    | true =>
      rw [hd] at hc
      have e1 : (((p :: ps).filter fun p => decide (p.1 = ws ++ [w])).map (·.2)).map Ki.d = p.2.d :: (((ps.filter fun p => decide (p.1 = ws ++ [w])).map (·.2)).map Ki.d) := by rw [List.filter_cons, if_pos hd]; rfl
      rw [e1]
      refine comp_go (m2 := m) rfl rfl hc ?_ ih
      show evE F C f47m1e [a, b, c, d, e, f, x11, .val (.tup (ws.map .str)), x8, .val (.str w), x10, .val (.tup (p.1.map .str)), .val p.2.d] _ = _
      exists f47m1e
    | false =>
      rw [hd] at hc
      have e1 : (((p :: ps).filter fun p => decide (p.1 = ws ++ [w])).map (·.2)).map Ki.d = (((ps.filter fun p => decide (p.1 = ws ++ [w])).map (·.2)).map Ki.d) := by rw [List.filter_cons, if_neg (by rw [hd]; decide)]
      rw [e1]
      exact comp_skip rfl rfl hc ih
theorem optD_pl : ∀ o : Option Ki, (∀ k, o = some k → k.deep ≤ 6) → pl (optD o) = true ∧ nl (optD o) = true ∧ dep (optD o) ≤ 6 ∧ sz (optD o) ≤ 2048
  | none, _ => ⟨rfl, rfl, by decide, by decide⟩
  | some k, h => ⟨k.pl_d, k.nl_d, by show dep k.d ≤ 6; rw [k.dep_d]; exact h k rfl, Ki.sz6 (h k rfl) (by decide)⟩
theorem Ki.part_deep : ∀ (ws : List (List Nat)) (k q : Ki), k.part ws = some q → q.deep ≤ k.deep
  | [], k, q, h => by
    have h : some k = some q := h
    cases h
    exact Nat.le_refl _
  | w :: ws, k, q, h => by
    have h : (k.step w).bind (fun k => k.part ws) = some q := h
    cases hs : k.step w with
    | none => rw [hs] at h; cases h
    | some k1 =>
      rw [hs] at h
      have h1 := part_deep ws k1 q h
      have h2 : k1.deep ≤ k.deep := by
        cases k with
        | fn a b =>
          simp only [Ki.step] at hs
          simp only [Ki.deep]
          split at hs
          · cases hs; omega
          · split at hs
            · cases hs; omega
            · cases hs
        | pr a b =>
          simp only [Ki.step] at hs
          simp only [Ki.deep]
          split at hs
          · cases hs; omega
          · split at hs
            · cases hs; omega
            · cases hs
        | _ => cases hs
      omega
theorem same_pl (g : Ga T) {K : Nat} {d : D} (h : pl d = true) (hz : sz d ≤ 100000) (hk : 3 * dep d + 4 ≤ K) : evF T K 40 [.dat d, .dat d] m = .ok (.bl true) m :=
  same_self g (dep d + 1) d K (rd_lo d d h hz (lo_refl d h)) (by omega)
theorem plL_kis : ∀ F : List Ki, (∀ q ∈ F, q.deep ≤ 6) → plL (F.map Ki.d) = true ∧ depL (F.map Ki.d) ≤ 6
  | [], _ => ⟨rfl, by simp [depL]⟩
  | q :: F, h => by
    obtain ⟨h1, h2⟩ := plL_kis F fun z hz => h z (List.mem_cons_of_mem _ hz)
    have := h q List.mem_cons_self
    simp only [List.map_cons, plL, depL, q.pl_d, h1, q.dep_d, Bool.and_self, true_and]
    omega
theorem kis_nil (F : List Ki) (h : plL (F.map Ki.d) = true) (hd : depL (F.map Ki.d) ≤ 6) : eqD m (.lst (F.map Ki.d)) (.lst []) = some F.isEmpty := by
  rw [eq_pl (by simpa [pl] using h) rfl (by simp only [dep]; omega) (by decide)]
  cases F <;> rfl
/-- one turn: a place, and one step more -/
theorem held_turn (g : Ga T) (gx : Gx T) (gk : Gk T) (gm : Gm T) {K B : Nat} {s : Sp0} {r : Mem} {k : Ki} {p : List (List Nat) × Ki} {z2 z3 z4 z5 z9 z10 z11 : Slot} (hd : k.deep ≤ 6) (hp : p ∈ k.places) (hK : 100 ≤ K) (hs : s.At B) (hB : Far (B + 5000)) :
    ∃ (s' : Sp0) (w2 w9 w10 : Slot), kSs (evF T K) T.con T.sub f47l1 [.val (.ref 1), .val k.d, z2, z3, z4, z5, .val (.lst (k.places.map plD)), .val (.tup (p.1.map .str)), .val p.2.d, z9, z10, z11, .no] (s.mem r) = .nx [.val (.ref 1), .val k.d, w2, z3, z4, z5, .val (.lst (k.places.map plD)), .val (.tup (p.1.map .str)), .val p.2.d, w9, w10, z11, .no] (s'.mem r) ∧ s'.At (B + 5000) := by
  obtain ⟨K, rfl⟩ : ∃ j, K = j + 2 := ⟨K - 2, by omega⟩
  have hst := k.places_step p hp
  have hpl := k.places_deep p hp
  have hpt := Ki.mem_part k p.1 p.2 hp
  have hq : p.2.deep ≤ 6 := Nat.le_trans (Ki.part_deep p.1 k p.2 hpt) hd
  obtain ⟨a1, a2, a3, a4⟩ := words_pl p.1 hst
  have ksz := Ki.sz6 hd (by decide)
  have szt : szL [k.d, .tup (p.1.map .str)] ≤ 2200 := by simp only [szL, sz]; omega
  have run : ∀ ys m, loL [k.d, .tup (p.1.map .str)] ys → evF T (K + 1) 10470 ((([] : List D).map .dat) ++ [.dat (.lst ys)]) m = .ok p.2.d m := fun ys m h => by
    simp only [loL] at h
    obtain ⟨y0, r0, rfl, h0, y1, r1, rfl, h1, rfl⟩ := h
    have h1' : y1 = .tup (p.1.map .str) ∨ y1 = .lst (p.1.map .str) := by
      simp only [loD] at h1
      obtain ⟨zs, hz, h2⟩ := h1
      have : zs = p.1.map .str := lo_strs p.1 zs hz
      subst this
      exact h2
    have e := part_at gk (K := K - 1) (told_lo (m := m) h0 hd) h1' hst (by omega)
    rw [show K - 1 + 1 = K by omega, hpt] at e
    rw [List.map_nil, List.nil_append, evF_to gm.l0 rfl]
    exists f10470, e, optD
  obtain ⟨s1, e1, hs1⟩ := asked g gx (K := K + 1) (l := 10470) (cs := []) (ds := [k.d, .tup (p.1.map .str)]) (due := p.2.d) (r := r) (by simp only [plL, k.pl_d, pl, a1, Bool.and_self]) (by simp only [riL, k.ri_d, ri, a2, Bool.and_self])
    (by simp only [depL, k.dep_d, dep, a3]; omega) (by omega) run p.2.pl_d p.2.nl_d (by rw [p.2.dep_d]; omega) (by have := Ki.sz6 hq (by decide); omega) (by omega) hs (hB.mono (by omega))
  obtain ⟨y, s2, e2, hy, hs2⟩ := pick g (k := K) (r := r) hs1 (hB.mono (by omega)) (x := .lst [.str wIn, .str wOut, .str wLeft, .str wRight]) (.inl rfl) (by simp) (by simp)
  obtain ⟨w, rfl, hw⟩ : ∃ w, y = .str w ∧ isStep w = true := by
    simp only [List.mem_cons, List.not_mem_nil, or_false] at hy
    rcases hy with rfl | rfl | rfl | rfl <;> exact ⟨_, rfl, by decide⟩
  obtain ⟨F, hF, f1, f2⟩ := inner_ok (k := k) (ws := p.1 ++ [w])
  have hFd : ∀ q ∈ F, q.deep ≤ 6 := fun q hq => by
    rw [← hF] at hq
    obtain ⟨z, hz, rfl⟩ := List.mem_map.mp hq
    have hz1 := (List.mem_filter.mp hz).1
    exact Nat.le_trans (Ki.part_deep z.1 k z.2 (Ki.mem_part k z.1 z.2 hz1)) hd
  obtain ⟨F1, F2⟩ := plL_kis F hFd
  have row := fun m => inner_row (m := m) (evF T (K + 2)) T.con (k := k) (ws := p.1) (w := w) (a := .val (.ref 1)) (b := .val k.d) (c := z2) (d := z3) (e := z4) (f := z5) (x11 := .val (.lst (k.places.map plD))) (x8 := .val p.2.d) (x10 := z10) (x12 := z11) hst hw (by omega) k.places fun q hq => k.places_step q hq
  rw [hF] at row
  have hall : ∀ v ∈ p.1 ++ [w], isStep v = true := fun v hv => by
    rcases List.mem_append.mp hv with hv | hv
    · exact hst v hv
    · rw [List.mem_singleton.mp hv]; exact hw
  have hpd : ∀ q, k.part (p.1 ++ [w]) = some q → q.deep ≤ 6 := fun q h => Nat.le_trans (Ki.part_deep _ k q h) hd
  obtain ⟨o1, o2, o3, o4⟩ := optD_pl (k.part (p.1 ++ [w])) hpd
  have pa := fun m => part_at gk (K := K + 1) (told_lo (m := m) (lo_self k) hd) (p := .lst ((p.1 ++ [w]).map .str)) (.inr rfl) hall (by omega)
  have sm := fun m => same_pl (m := m) g (K := K + 2) o1 (by omega) (by omega)
  have plen : (k.places.map plD).length ≤ lineMax := by
    have h1 := k.marks_le
    have h3 : 2 ^ (k.deep + 1) ≤ 2 ^ 7 := Nat.pow_le_pow_right (by decide) (by omega)
    rw [List.length_map, k.places_len]
    unfold lineMax
    omega
  have hlen : ((p.1.map D.str).length + (0 + 1) ≤ lineMax) := by unfold lineMax; rw [List.length_map]; omega
  have hcat : (p.1.map D.str) ++ [D.str w] = (p.1 ++ [w]).map .str := by simp
  show ∃ (s' : Sp0) (w2 w9 w10 : Slot), evSs _ _ _ f47l1 _ _ = _ ∧ _
  exists f47l1, e1, e2, itS, guardOf
  rw [compR_ok plen (row _)]
  have hF0 : sz (optD (k.part (p.1 ++ [w]))) ≤ 100000 := by omega
  have cat_ok : ∀ m, catC m (.lst (p.1.map .str)) (.lst [.str w]) = some (.lst ((p.1 ++ [w]).map .str)) := fun m => by
    show (if (p.1.map D.str).length + 1 ≤ lineMax then some (Cell.lst (p.1.map D.str ++ [.str w])) else none) = _
    rw [if_pos hlen, hcat]
  have ne := fun m => kis_nil (m := m) F F1 F2
  have fin : s2.At (B + 5000) := hs2.mono (by omega)
  cases F with
  | nil =>
    rw [f1 rfl] at pa sm
    simp only [optD] at pa sm
    simp only [List.map_nil, List.isEmpty_nil] at ne
    exists ne, copyC, cat_ok, perm10, pa, sm
    exact ⟨s2, _, _, _, rfl, fin⟩
  | cons q F =>
    rw [f2 q F rfl] at pa sm
    simp only [optD] at pa sm
    simp only [List.map_cons, List.isEmpty_cons] at ne
    exists ne, copyC, cat_ok, perm10, pa, sm
    exact ⟨s2, _, _, _, rfl, fin⟩
end
end Ev
/-! Pl14: all is told of a kind, to the end -/
namespace Ev
open PySem Fs
local macro_rules | `(tactic| exists $es,*) => `(tactic| simp only [e_var, e_con, e_glo, e_attr, o_ex, o_peek, os_nil, to_no, to_ex, es_nil, as_nil, eo_no, ss_nil, st_retn, st_pass, st_brk, st_cnt, hs_nil, tg_nm, tg_tp, sa_nil, sa_cons, R.bnd_ok, R.bind_ex, R.st_ok, R.st_ex, R.of_some, SR.out_nx, SR.out_rt, SR.out_ex, getV_0, getV_s, getE_0, getE_s, set_0, set_s, args_0, args_1, args_2, args_3, args_4, args_5, slot_d, slot_c, rep_0, rep_s, cellD_l, cellD_d, cloS_c, excS_x, ownS_o, ownL_l, lstC_l, getAll_nil, getAll_cons, consO_s, intO_i, E_tup, E_mk, E_mkr, E_bin, E_neg, E_cmp, E_not, E_and, E_or, E_ite, E_idx, E_sl, E_call, E_callk, E_app, E_isin, E_bi, E_meth, E_all, Os_cons, T_val, T_cmp, T_not, T_and, T_or, Es_cons, As_dat, As_lam, As_pas, Eo_ex, L_disp, L_copy, L_comp, L_cat, L_slice, L_ddisp, L_dict, L_litems, S_it, S_rng, S_rng2, S_enm, S_zip, Ss_cons, St_asg, St_par, St_own, St_frz, St_exp, St_oapp, St_oext, St_setr, St_ife, St_for, St_whl, St_ret, St_raise, St_try, Hs_some, Hs_none, K_tup, K_mk, K_mkr, K_bin2, K_bin1, K_neg, K_cmp2, K_cmp1, K_not, K_nbl, K_and, K_and_t, K_and_f, K_or, K_or_t, K_or_f, K_ite_t, K_ite_f, K_idx2, K_idx1, K_sl3, K_sl2, K_sl1, K_call, K_callk, K_callk_s, K_app, K_app_s, K_isin, K_bi, K_meth2, K_meth_s, K_meth1, K_meth_t, K_all, K_cons, K_os, K_tval, K_tcmp2, K_tcmp1, K_tnot, K_tand_t, K_tand_f, K_tor_t, K_tor_f, K_es, K_as, K_lam, K_pas, K_eo, K_disp, K_copy, K_comp, K_cat2, K_cat1, K_slc3, K_slc2, K_slc1, K_dd, K_dict, K_items, K_it, K_rng, K_rng2b, K_rng2a, K_enm, K_zip2, K_zip1, K_then, K_then_rt, K_then_bk, K_then_ct, K_then_ex, K_asg, K_asg_s, K_par2, K_par1, K_own, K_frz, K_exp, K_yes, K_oapp, K_oapp_s, K_oextL, K_oext, K_oext_s, K_sr, K_sr3, K_sr2, K_sr1, K_if_t, K_if_f, K_for, K_ret, K_raise, K_try_nx, K_try_rt, K_try_ex, K_fin_nx, K_fin_rt, K_fin0_nx, K_fin0_rt, K_hs_t, K_hs_f, K_hs0_t, K_hs0_f, sr_ref, sr_l, noExc_nil, noExc_cons, noX_v, noX_n, noX_x, noX_c, noX_o, gd_t, forL_congr, whileL_congr, compR_congr, compL_congr, b_add, b_sub, b_mul, b_mod, b_div, b_pow, b_cats, b_catl, b_catt, lstAt_l, lstAt_d, dicAt_l, dicAt_d, q_ref, q_tup, q_lst, q_non, q_bl, q_int, q_str, q_dic, c_ref, c_dic, c_tup, c_lst, c_str, c_int, r_ref, r_non, r_bl, r_int, r_str, r_tup, r_lst, y_ref, y_non, y_bl, y_int, y_str, y_tup, y_lst, y_dic, tyAt_l, tyAt_d, anyTy_0, anyTy_s, x_tup, x_lst, x_ref, idxAt_l, idxAt_d, x_cdic, x_dic, x_str, k_int, k_str, v_eq, v_ne, v_lt, v_le, v_gt, v_ge, v_in, v_nin, v_is, v_isn, eq_ii, non_non, non_bl, non_int, non_str, non_tup, non_lst, non_ref, non_dic, in_tup, in_cdic, f_ss, bi_lens, bi_lent, bi_lenl, bi_lenr, lenAt_l, bi_max, bi_min, bi_int, bi_intb, bi_tup, ix_0, ix_1, ix_2, ix_3, ix_4, nth_0, nth_s, nset_0, nset_s, me_ok_pop, me_ok_app, me_ok_cnt, me_ok_cntl, me_ok_get, me_pop, pop_0, me_app, Int.cast_ofNat_Int, Int.natCast_zero, Int.natCast_one, reduceCtorEq, Option.bind_some, Option.map_some, Option.bind_none, Option.map_none, List.map_nil, List.map_cons, List.length_cons, List.length_nil, Int.reduceLT, Int.reduceLE, Int.reduceEq, Int.reduceNe, Int.reduceNeg, Int.reducePow, Int.reduceToNat, Int.reduceAdd, Int.reduceSub, Int.reduceMul, Nat.reduceLT, Nat.reduceLeDiff, Nat.reduceAdd, Nat.reduceSub, Nat.reduceEqDiff, Nat.reduceBEq, Nat.reducePow, and_self, true_and, and_true, Bool.false_eq_true, if_true, if_false, Option.isSome_some, Option.isSome_none, Bool.not_true, Bool.not_false, List.any_nil, List.any_cons, List.all_nil, List.all_cons, Bool.or_true, Bool.true_or, Bool.or_false, Bool.false_or, Bool.and_true, Bool.true_and, Bool.false_and, Bool.and_false, decide_true, decide_false, List.nil_append, List.cons_append, List.append_nil, $[$es:term],*])
section
variable {T : Txt} {m : Mem}
theorem held_loop (g : Ga T) (gx : Gx T) (gk : Gk T) (gm : Gm T) {K : Nat} {r : Mem} {k : Ki} {z3 z4 z5 : Slot} (hd : k.deep ≤ 6) (hK : 100 ≤ K) : ∀ (zs : List D) (B : Nat) (s : Sp0) (z2 z7 z8 z9 z10 : Slot), (∀ z ∈ zs, ∃ p ∈ k.places, z = plD p) → s.At B → Far (B + 5000 * zs.length) →
    ∃ (s' : Sp0) (e' : Env), forL [] (kTg (.tp [7, 8])) (kSs (evF T K) T.con T.sub f47l1) zs [.val (.ref 1), .val k.d, z2, z3, z4, z5, .val (.lst (k.places.map plD)), z7, z8, z9, z10, .no, .no] (s.mem r) = .nx e' (s'.mem r) ∧ s'.At (B + 5000 * zs.length)
  | [], B, s, z2, z7, z8, z9, z10, _, hs, _ => ⟨s, _, forL_end rfl, hs⟩
  | z :: zs, B, s, z2, z7, z8, z9, z10, h, hs, hB => by
    obtain ⟨p, hp, rfl⟩ := h z List.mem_cons_self
    simp only [List.length_cons] at hB
    obtain ⟨s1, w2, w9, w10, e1, h1⟩ := held_turn g gx gk gm (r := r) (p := p) (z2 := z2) (z3 := z3) (z4 := z4) (z5 := z5) (z9 := z9) (z10 := z10) (z11 := .no) hd hp hK hs (hB.mono (by omega))
    obtain ⟨s2, e', e2, h2⟩ := held_loop g gx gk gm (r := r) (z3 := z3) (z4 := z4) (z5 := z5) hd hK zs (B + 5000) s1 w2 (.val (.tup (p.1.map .str))) (.val p.2.d) w9 w10 (fun y hy => h y (List.mem_cons_of_mem _ hy)) h1 (hB.mono (by omega))
    refine ⟨s2, e', ?_, h2.mono (by simp only [List.length_cons]; omega)⟩
    rw [forL_go rfl rfl e1]
    exact e2
theorem held (g : Ga T) (gx : Gx T) (gk : Gk T) (gf : Gf T) (gm : Gm T) {K B : Nat} {s : Sp0} {r : Mem} {k : Ki} (hd : k.deep ≤ 6) (hK : 110 ≤ K) (hs : s.At B) (hB : Far (B + 40000)) :
    ∃ (s' : Sp0) (r' : Mem), evF T (K + 1) 47 [.dat (.ref 1), .dat k.d] (s.mem r) = .ok (.bl true) (s'.mem r') ∧ s'.At (B + 40000) := by
  have ksz := Ki.sz6 hd (by decide)
  have km : k.marks ≤ 127 := by
    have h1 := k.marks_le
    have h3 : 2 ^ (k.deep + 1) ≤ 2 ^ 7 := Nat.pow_le_pow_right (by decide) (by omega)
    omega
  obtain ⟨K, rfl⟩ : ∃ j, K = j + 2 := ⟨K - 2, by omega⟩
  have d1 := fun m => f_deep (m := m) gf k (K + 2) (by omega)
  have d2 := fun m => f_marks (m := m) gf k (K + 2) (by omega)
  have d3 := fun m => f_head (m := m) (K := K + 1) gf k (by omega)
  obtain ⟨x, s1, e1, hx, h1⟩ := loose_d g (r := r) k.d k.pl_d (K + 1) B s (by rw [k.dep_d]; omega) hs (hB.mono (by omega)) (by omega)
  obtain ⟨p1, p2, p3, p4⟩ := lo_pl k.d x k.pl_d hx
  obtain ⟨tx, r1, r2⟩ := repr_pl (m := []) (d := x) p1 (by rw [p2, k.ri_d]) (by rw [p3, k.dep_d]; omega) (by omega)
  have tx' := fun m => told_lo (m := m) hx hd
  have tk := fun m => told_lo (m := m) (lo_self k) hd
  have q0 := fun m => is_kind (K := K + 1) gk (told_lo (m := m) hx hd).rd.choose_spec (by omega)
  have q0' : ∀ m, evF T (K + 1 + 1) 19 [.dat x] m = .ok (.bl true) m := fun m => by rw [q0 m, (tx' m).is]; rfl
  have q1 := fun m => depth_of (K := K + 1) gk (tx' m) hd (by omega)
  have q2 := fun m => marks_of (K := K + 1) gk (tx' m) hd (by omega)
  have q3 := fun m => head_of (K := K + 1) gk (tx' m) hd (by omega)
  have u0 := fun m => is_kind (K := K + 1) gk (told_lo (m := m) (lo_self k) hd).rd.choose_spec (by omega)
  have u0' : ∀ m, evF T (K + 1 + 1) 19 [.dat k.d] m = .ok (.bl true) m := fun m => by rw [u0 m, (tk m).is]; rfl
  have u1 := fun m => depth_of (K := K + 1) gk (tk m) hd (by omega)
  have u2 := fun m => marks_of (K := K + 1) gk (tk m) hd (by omega)
  have u3 := fun m => head_of (K := K + 1) gk (tk m) hd (by omega)
  have hh : pl k.head = true ∧ dep k.head = 0 ∧ sz k.head ≤ 10 := by cases k <;> exact ⟨rfl, rfl, by simp [Ki.head, sz]⟩
  have sm := fun m => same_pl (m := m) g (K := K + 2) (d := .lst [.bl true, .int k.deep, .int k.marks, k.head]) (by simp only [pl, plL, hh.1, Bool.and_self]) (by simp only [sz, szL]; omega) (by simp only [dep, depL, hh.2.1]; omega)
  have fp := fun m => f_places (m := m) gf k (K + 2) (by omega) (by omega)
  obtain ⟨zs, s2, e2, g1, g2, h2⟩ := mixed_ok g (K := K) (r := r) (xs := k.places.map plD) (by rw [List.length_map, k.places_len]; omega) h1 (hB.mono (by rw [List.length_map, k.places_len]; omega))
  rw [List.length_map, k.places_len] at h2
  have hcut : ∀ z ∈ cut zs none (some 6), ∃ p ∈ k.places, z = plD p := fun z hz => by
    have hz : z ∈ zs := List.mem_of_mem_drop (List.mem_of_mem_take hz)
    obtain ⟨p, hp, rfl⟩ := List.mem_map.mp (g2 z hz)
    exact ⟨p, hp, rfl⟩
  have hcl : (cut zs none (some 6)).length ≤ 6 := by
    unfold cut
    rw [List.length_take]
    have : sIx zs.length zs.length (some 6) ≤ 6 := by
      show (if (6 : Int) < 0 then ((6 : Int) + (zs.length : Int)).toNat else min (6 : Int).toNat zs.length) ≤ 6
      rw [if_neg (by decide)]
      exact Nat.min_le_left _ _
    omega
  obtain ⟨s3, e', e3, h3⟩ := held_loop g gx gk gm (K := K + 2) (r := r ++ [.lst []]) (k := k) (z3 := .val x) (z4 := .val (.str tx)) (z5 := .val (.lst [.bl true, .int k.deep, .int k.marks, k.head])) hd (by omega) (cut zs none (some 6)) (B + sz k.d + k.marks) s2 (.val (.lst [.bl true, .int k.deep, .int k.marks, k.head])) .no .no .no .no hcut h2 (hB.mono (by omega))
  rw [evF_to gm.h47 rfl]
  exists f47, d1, d2, d3, e1, r1, q0', q1, q2, q3, sm, r2, perm1, u0', u1, u2, u3, fp, e2, sliceC, isTup, itS, guardOf
  rw [e3]
  exists K_tup
  exact ⟨s3, _, rfl, h3.mono (by omega)⟩
end
end Ev
/-! Pl15: things that are refused, spoilt behind it -/
namespace Ev
open PySem Fs
local macro_rules | `(tactic| exists $es,*) => `(tactic| simp only [e_var, e_con, e_glo, e_attr, o_ex, o_peek, os_nil, to_no, to_ex, es_nil, as_nil, eo_no, ss_nil, st_retn, st_pass, st_brk, st_cnt, hs_nil, tg_nm, tg_tp, sa_nil, sa_cons, R.bnd_ok, R.bind_ex, R.st_ok, R.st_ex, R.of_some, SR.out_nx, SR.out_rt, SR.out_ex, getV_0, getV_s, getE_0, getE_s, set_0, set_s, args_0, args_1, args_2, args_3, args_4, args_5, slot_d, slot_c, rep_0, rep_s, cellD_l, cellD_d, cloS_c, excS_x, ownS_o, ownL_l, lstC_l, getAll_nil, getAll_cons, consO_s, intO_i, E_tup, E_mk, E_mkr, E_bin, E_neg, E_cmp, E_not, E_and, E_or, E_ite, E_idx, E_sl, E_call, E_callk, E_app, E_isin, E_bi, E_meth, E_all, Os_cons, T_val, T_cmp, T_not, T_and, T_or, Es_cons, As_dat, As_lam, As_pas, Eo_ex, L_disp, L_copy, L_comp, L_cat, L_slice, L_ddisp, L_dict, L_litems, S_it, S_rng, S_rng2, S_enm, S_zip, Ss_cons, St_asg, St_par, St_own, St_frz, St_exp, St_oapp, St_oext, St_setr, St_ife, St_for, St_whl, St_ret, St_raise, St_try, Hs_some, Hs_none, K_tup, K_mk, K_mkr, K_bin2, K_bin1, K_neg, K_cmp2, K_cmp1, K_not, K_nbl, K_and, K_and_t, K_and_f, K_or, K_or_t, K_or_f, K_ite_t, K_ite_f, K_idx2, K_idx1, K_sl3, K_sl2, K_sl1, K_call, K_callk, K_callk_s, K_app, K_app_s, K_isin, K_bi, K_meth2, K_meth_s, K_meth1, K_meth_t, K_all, K_cons, K_os, K_tval, K_tcmp2, K_tcmp1, K_tnot, K_tand_t, K_tand_f, K_tor_t, K_tor_f, K_es, K_as, K_lam, K_pas, K_eo, K_disp, K_copy, K_comp, K_cat2, K_cat1, K_slc3, K_slc2, K_slc1, K_dd, K_dict, K_items, K_it, K_rng, K_rng2b, K_rng2a, K_enm, K_zip2, K_zip1, K_then, K_then_rt, K_then_bk, K_then_ct, K_then_ex, K_asg, K_asg_s, K_par2, K_par1, K_own, K_frz, K_exp, K_yes, K_oapp, K_oapp_s, K_oextL, K_oext, K_oext_s, K_sr, K_sr3, K_sr2, K_sr1, K_if_t, K_if_f, K_for, K_ret, K_raise, K_try_nx, K_try_rt, K_try_ex, K_fin_nx, K_fin_rt, K_fin0_nx, K_fin0_rt, K_hs_t, K_hs_f, K_hs0_t, K_hs0_f, sr_ref, sr_l, noExc_nil, noExc_cons, noX_v, noX_n, noX_x, noX_c, noX_o, gd_t, forL_congr, whileL_congr, compR_congr, compL_congr, b_add, b_sub, b_mul, b_mod, b_div, b_pow, b_cats, b_catl, b_catt, lstAt_l, lstAt_d, dicAt_l, dicAt_d, q_ref, q_tup, q_lst, q_non, q_bl, q_int, q_str, q_dic, c_ref, c_dic, c_tup, c_lst, c_str, c_int, r_ref, r_non, r_bl, r_int, r_str, r_tup, r_lst, y_ref, y_non, y_bl, y_int, y_str, y_tup, y_lst, y_dic, tyAt_l, tyAt_d, anyTy_0, anyTy_s, x_tup, x_lst, x_ref, idxAt_l, idxAt_d, x_cdic, x_dic, x_str, k_int, k_str, v_eq, v_ne, v_lt, v_le, v_gt, v_ge, v_in, v_nin, v_is, v_isn, eq_ii, non_non, non_bl, non_int, non_str, non_tup, non_lst, non_ref, non_dic, in_tup, in_cdic, f_ss, bi_lens, bi_lent, bi_lenl, bi_lenr, lenAt_l, bi_max, bi_min, bi_int, bi_intb, bi_tup, ix_0, ix_1, ix_2, ix_3, ix_4, nth_0, nth_s, nset_0, nset_s, me_ok_pop, me_ok_app, me_ok_cnt, me_ok_cntl, me_ok_get, me_pop, pop_0, me_app, Int.cast_ofNat_Int, Int.natCast_zero, Int.natCast_one, reduceCtorEq, Option.bind_some, Option.map_some, Option.bind_none, Option.map_none, List.map_nil, List.map_cons, List.length_cons, List.length_nil, Int.reduceLT, Int.reduceLE, Int.reduceEq, Int.reduceNe, Int.reduceNeg, Int.reducePow, Int.reduceToNat, Int.reduceAdd, Int.reduceSub, Int.reduceMul, Nat.reduceLT, Nat.reduceLeDiff, Nat.reduceAdd, Nat.reduceSub, Nat.reduceEqDiff, Nat.reduceBEq, Nat.reducePow, and_self, true_and, and_true, Bool.false_eq_true, if_true, if_false, Option.isSome_some, Option.isSome_none, Bool.not_true, Bool.not_false, List.any_nil, List.any_cons, List.all_nil, List.all_cons, Bool.or_true, Bool.true_or, Bool.or_false, Bool.false_or, Bool.and_true, Bool.true_and, Bool.false_and, Bool.and_false, decide_true, decide_false, List.nil_append, List.cons_append, List.append_nil, $[$es:term],*])

def atom : D → Bool
  | .non => true
  | .bl _ => true
  | .int _ => true
  | .str s => okTx s && decide (s ≠ late)
  | _ => false
/-- a thing that is read, spoilt, and read again -/
structure Bt (T : Txt) (Y : Mem) (x : D) : Prop where
  rd : ∀ s : Sp0, Ev.rd (s.mem Y) 12 x = true
  sp : ∃ Y' : Mem, (∀ (s : Sp0) (K : Nat), 45 ≤ K → evF T K 42 [.dat x] (s.mem Y) = .ok .non (s.mem Y')) ∧ ∀ s : Sp0, Ev.rd (s.mem Y') 12 x = true
section
variable {T : Txt} {m : Mem} {Y : Mem}
theorem rd_ref_l {r n : Nat} {xs : List D} (h : m[r]? = some (.lst xs)) (hl : xs.length ≤ 100000) (hx : ∀ y ∈ xs, rd m n y = true) : rd m (n + 1) (.ref r) = true := by
  simp only [rd, h, Bool.and_eq_true, decide_eq_true_eq, List.all_eq_true]
  exact ⟨hl, hx⟩
theorem rd_ref_d {r n : Nat} {kvs : List (DK × D)} (h : m[r]? = some (.dic kvs)) (hl : kvs.length ≤ 100000) (hx : ∀ p ∈ kvs, okK p.1 = true ∧ rd m n p.2 = true) : rd m (n + 1) (.ref r) = true := by
  simp only [rd, h, Bool.and_eq_true, decide_eq_true_eq, List.all_eq_true]
  exact ⟨hl, hx⟩
theorem rd_tup_l {n : Nat} {xs : List D} (hl : xs.length ≤ 100000) (hx : ∀ y ∈ xs, rd m n y = true) : rd m (n + 1) (.tup xs) = true := by
  rw [rd_tup, decide_eq_true hl, List.all_eq_true.mpr hx]
  rfl
theorem atom_rd {x : D} {n : Nat} (h : atom x = true) : rd m (n + 1) x = true := by
  cases x with
  | str s => simp only [atom, Bool.and_eq_true] at h; exact h.1
  | non => rfl
  | bl _ => rfl
  | int _ => rfl
  | _ => simp [atom] at h
theorem atom_sp (g : Ga T) {x : D} {K : Nat} (h : atom x = true) : evF T (K + 1) 42 [.dat x] m = .ok .non m := by
  rw [evF_to g.h42 rfl]
  cases x with
  | non => exists f42
  | bl b => exists f42
  | int i => exists f42
  | str s => exists f42
  | _ => simp [atom] at h
theorem bt_nl (g : Ga T) {x : D} (hp : pl x = true) (hn : nl x = true) (hd : dep x ≤ 10) (hz : sz x ≤ 100000) : Bt T Y x :=
  ⟨fun s => rd_mono (rd_lo x x hp hz (lo_refl x hp)) (by omega), Y, fun s K hK => spoilt_nl g (dep x) x K hn (Nat.le_refl _) (by omega), fun s => rd_mono (rd_lo x x hp hz (lo_refl x hp)) (by omega)⟩
theorem bt_atom (g : Ga T) {x : D} (h : atom x = true) : Bt T Y x :=
  ⟨fun s => atom_rd h, Y, fun s K hK => by obtain ⟨K, rfl⟩ : ∃ j, K = j + 1 := ⟨K - 1, by omega⟩; exact atom_sp g h, fun s => atom_rd h⟩
theorem loop_atoms (g : Ga T) {K : Nat} {gd : Guards} {x : D} {z : Slot} (hg : guardOk m gd = true) (xs : List D) (h : ∀ y ∈ xs, atom y = true) : ∃ z', forL gd (kTg (.nm 2)) (kSs (evF T (K + 1)) T.con T.sub f42l2) xs [.val x, .no, z] m = .nx [.val x, .no, z'] m := by
  obtain ⟨e2, h1, z', rfl⟩ := forL_same (set := kTg (.nm 2)) (f := kSs (evF T (K + 1)) T.con T.sub f42l2) (I := fun e => ∃ z, e = [.val x, .no, z]) (m := m) hg xs (fun y hy e he => by
    obtain ⟨z, rfl⟩ := he
    refine ⟨[.val x, .no, .val y], [.val x, .no, .val y], rfl, ?_, .val y, rfl⟩
    show evSs _ _ _ f42l2 _ _ = _
    exists f42l2, atom_sp g (h y hy)) [.val x, .no, z] ⟨z, rfl⟩
  exact ⟨z', h1⟩
theorem set_mem {s : Sp0} {Y : Mem} {j : Nat} {c : Cell} : (s.mem Y).set (j + 2) c = s.mem (Y.set j c) := (rfl)
theorem get_mem {s : Sp0} {Y : Mem} {j : Nat} : (s.mem Y)[j + 2]? = Y[j]? := (rfl)
theorem app_at {m : Mem} {r : Nat} {d : D} {xs : List D} (h : xs.length < 100000) : appAt m r d (some (.lst xs)) = some (.non, m.set r (.lst (xs ++ [d]))) := by
  have h1 : xs.length < lineMax := by unfold lineMax; omega
  simp only [appAt, h1, if_true]
theorem spoilt_flat (g : Ga T) {s : Sp0} {j : Nat} {xs : List D} {K : Nat} (hj : Y[j]? = some (.lst xs)) (h : ∀ y ∈ xs, atom y = true) (hl : xs.length ≤ 100) : evF T (K + 2) 42 [.dat (.ref (j + 2))] (s.mem Y) = .ok .non (s.mem (Y.set j (.lst (xs ++ [.str late])))) := by
  obtain ⟨z', e⟩ := loop_atoms g (K := K) (m := s.mem Y) (x := .ref (j + 2)) (z := .no) (guard_self (.ref (j + 2))) xs h
  have it : itS (s.mem Y) (.ref (j + 2)) = some (xs, guardOf (s.mem Y) (.ref (j + 2))) := (isSeq_of (.inr (.inr ⟨j + 2, rfl, by rw [get_mem, hj]⟩))).it
  rw [evF_to g.h42 rfl]
  exists f42, get_mem, hj, it
  rw [e]
  exists get_mem, hj, app_at (show xs.length < 100000 by omega), set_mem
theorem bt_flat (g : Ga T) {j : Nat} {xs : List D} (hj : Y[j]? = some (.lst xs)) (h : ∀ y ∈ xs, atom y = true) (hl : xs.length ≤ 100) : Bt T Y (.ref (j + 2)) := by
  have hjl : j < Y.length := (List.getElem?_eq_some_iff.mp hj).1
  refine ⟨fun s => ?_, Y.set j (.lst (xs ++ [.str late])), fun s K hK => ?_, fun s => ?_⟩
  · exact rd_ref_l (n := 11) (by rw [get_mem]; exact hj) (by omega) fun y hy => atom_rd (h y hy)
  · obtain ⟨K, rfl⟩ : ∃ i, K = i + 2 := ⟨K - 2, by omega⟩
    exact spoilt_flat g hj h hl
  · refine rd_ref_l (n := 11) (by rw [get_mem]; exact List.getElem?_set_self hjl) (by simp; omega) fun y hy => ?_
    rcases List.mem_append.mp hy with hy | hy
    · exact atom_rd (h y hy)
    · rw [List.mem_singleton.mp hy]; rfl
theorem bt_dict (g : Ga T) {j : Nat} {w : List Nat} {v : D} (hj : Y[j]? = some (.dic [(.s w, v)])) (hw : okTx w = true) (hw2 : w ≠ late) (h : atom v = true) : Bt T Y (.ref (j + 2)) := by
  have hjl : j < Y.length := (List.getElem?_eq_some_iff.mp hj).1
  refine ⟨fun s => ?_, Y.set j (.dic [(.s w, v), (.s late, .int 1)]), fun s K hK => ?_, fun s => ?_⟩
  · refine rd_ref_d (n := 11) (by rw [get_mem]; exact hj) (by simp) fun p hp => ?_
    rw [List.mem_singleton.mp hp]
    exact ⟨hw, atom_rd h⟩
  · obtain ⟨K, rfl⟩ : ∃ i, K = i + 2 := ⟨K - 2, by omega⟩
    have gk : getK (.s w) [(DK.s w, v)] = some v := by simp [getK]
    have gl : getK (.s late) [(DK.s w, v)] = none := by simp [getK, hw2]
    have pk : putK (.s late) (.int 1) [(DK.s w, v)] = [(.s w, v), (.s late, .int 1)] := by simp [putK, hw2]
    rw [evF_to g.h42 rfl]
    exists f42, get_mem, hj, copyC, DK.d, itS, guardOf
    have b1 : kSs (evF T (K + 1)) T.con T.sub f42l1 [.val (.ref (j + 2)), .val (.str w), .no] (s.mem Y) = .nx [.val (.ref (j + 2)), .val (.str w), .no] (s.mem Y) := by
      show evSs _ _ _ f42l1 _ _ = _
      exists f42l1, get_mem, hj, gk, atom_sp g h
    rw [forL_go rfl rfl b1, forL_end rfl]
    have hl : (0 + 1 < lineMax) := by unfold lineMax; omega
    exists get_mem, hj, meD, Option.getD_none, setrC, gl, pk, hl, set_mem, List.getElem?_set_self hjl
  · refine rd_ref_d (n := 11) (by rw [get_mem]; exact List.getElem?_set_self hjl) (by simp) fun p hp => ?_
    simp only [List.mem_cons, List.not_mem_nil, or_false] at hp
    rcases hp with rfl | rfl
    · exact ⟨hw, atom_rd h⟩
    · exact ⟨rfl, rfl⟩
theorem bt_nest (g : Ga T) {i j : Nat} {xs : List D} (hj : Y[j]? = some (.lst [.ref (i + 2)])) (hi : Y[i]? = some (.lst xs)) (hij : i ≠ j) (h : ∀ y ∈ xs, atom y = true) (hl : xs.length ≤ 100) : Bt T Y (.ref (j + 2)) := by
  have hjl : j < Y.length := (List.getElem?_eq_some_iff.mp hj).1
  have hil : i < Y.length := (List.getElem?_eq_some_iff.mp hi).1
  have inner : ∀ y ∈ xs ++ [.str late], atom y = true ∨ y = .str late := fun y hy => by
    rcases List.mem_append.mp hy with hy | hy
    · exact .inl (h y hy)
    · exact .inr (List.mem_singleton.mp hy)
  refine ⟨fun s => ?_, (Y.set i (.lst (xs ++ [.str late]))).set j (.lst [.ref (i + 2), .str late]), fun s K hK => ?_, fun s => ?_⟩
  · refine rd_ref_l (n := 11) (by rw [get_mem]; exact hj) (by simp) fun y hy => ?_
    rw [List.mem_singleton.mp hy]
    exact rd_ref_l (n := 10) (by rw [get_mem]; exact hi) (by omega) fun y hy => atom_rd (h y hy)
  · obtain ⟨K, rfl⟩ : ∃ i, K = i + 3 := ⟨K - 3, by omega⟩
    have hj2 : (Y.set i (.lst (xs ++ [.str late])))[j]? = some (.lst [.ref (i + 2)]) := by rw [List.getElem?_set_ne hij]; exact hj
    have b1 : kSs (evF T (K + 2)) T.con T.sub f42l2 [.val (.ref (j + 2)), .no, .val (.ref (i + 2))] (s.mem Y) = .nx [.val (.ref (j + 2)), .no, .val (.ref (i + 2))] (s.mem (Y.set i (.lst (xs ++ [.str late])))) := by
      show evSs _ _ _ f42l2 _ _ = _
      exists f42l2, spoilt_flat g hi h hl
    have it : itS (s.mem Y) (.ref (j + 2)) = some ([.ref (i + 2)], [(j + 2, .lst [.ref (i + 2)])]) := by
      have := (isSeq_of (m := s.mem Y) (x := .ref (j + 2)) (xs := [.ref (i + 2)]) (.inr (.inr ⟨j + 2, rfl, by rw [get_mem, hj]⟩))).it
      rw [this]
      show some ([D.ref (i + 2)], (match (s.mem Y)[j + 2]? with | some c => [(j + 2, c)] | none => [])) = _
      rw [get_mem, hj]
    have g1 : guardOk (s.mem Y) [(j + 2, .lst [.ref (i + 2)])] = true := by
      simp only [guardOk, get_mem, hj, Cell.beq_self, Bool.and_self]
    have g2 : guardOk (s.mem (Y.set i (.lst (xs ++ [.str late])))) [(j + 2, .lst [.ref (i + 2)])] = true := by
      simp only [guardOk, get_mem, hj2, Cell.beq_self, Bool.and_self]
    rw [evF_to g.h42 rfl]
    exists f42, get_mem, hj, it
    rw [forL_go g1 rfl b1, forL_end g2]
    exists get_mem, hj2, app_at (show ([D.ref (i + 2)] : List D).length < 100000 by simp), set_mem
  · have e1 : ((Y.set i (.lst (xs ++ [.str late]))).set j (.lst [.ref (i + 2), .str late]))[j]? = some (.lst [.ref (i + 2), .str late]) := List.getElem?_set_self (by simpa using hjl)
    have e2 : ((Y.set i (.lst (xs ++ [.str late]))).set j (.lst [.ref (i + 2), .str late]))[i]? = some (.lst (xs ++ [.str late])) := by rw [List.getElem?_set_ne (Ne.symm hij)]; exact List.getElem?_set_self hil
    refine rd_ref_l (n := 11) (by rw [get_mem]; exact e1) (by simp) fun y hy => ?_
    simp only [List.mem_cons, List.not_mem_nil, or_false] at hy
    rcases hy with rfl | rfl
    · refine rd_ref_l (n := 10) (by rw [get_mem]; exact e2) (by simp; omega) fun y hy => ?_
      rcases inner y hy with h | rfl
      · exact atom_rd h
      · rfl
    · rfl
theorem bt_tup (g : Ga T) {j : Nat} {xs : List D} {a b : D} (hj : Y[j]? = some (.lst xs)) (h : ∀ y ∈ xs, atom y = true) (hl : xs.length ≤ 100) (ha : atom a = true) (hb : atom b = true) : Bt T Y (.tup [.ref (j + 2), a, b]) := by
  have hjl : j < Y.length := (List.getElem?_eq_some_iff.mp hj).1
  refine ⟨fun s => ?_, Y.set j (.lst (xs ++ [.str late])), fun s K hK => ?_, fun s => ?_⟩
  · refine rd_tup_l (n := 11) (by simp) fun y hy => ?_
    simp only [List.mem_cons, List.not_mem_nil, or_false] at hy
    rcases hy with rfl | rfl | rfl
    · exact rd_ref_l (n := 10) (by rw [get_mem]; exact hj) (by omega) fun y hy => atom_rd (h y hy)
    · exact atom_rd ha
    · exact atom_rd hb
  · obtain ⟨K, rfl⟩ : ∃ i, K = i + 3 := ⟨K - 3, by omega⟩
    have b1 : kSs (evF T (K + 2)) T.con T.sub f42l2 [.val (.tup [.ref (j + 2), a, b]), .no, .val (.ref (j + 2))] (s.mem Y) = .nx [.val (.tup [.ref (j + 2), a, b]), .no, .val (.ref (j + 2))] (s.mem (Y.set j (.lst (xs ++ [.str late])))) := by
      show evSs _ _ _ f42l2 _ _ = _
      exists f42l2, spoilt_flat g hj h hl
    obtain ⟨z', e⟩ := loop_atoms g (K := K + 1) (m := s.mem (Y.set j (.lst (xs ++ [.str late])))) (x := .tup [.ref (j + 2), a, b]) (z := .val (.ref (j + 2))) (gd := []) rfl [a, b] (fun y hy => by
      simp only [List.mem_cons, List.not_mem_nil, or_false] at hy
      rcases hy with rfl | rfl
      · exact ha
      · exact hb)
    rw [evF_to g.h42 rfl]
    exists f42, itS, guardOf
    rw [forL_go rfl rfl b1, e]
    exists K_tup
  · refine rd_tup_l (n := 11) (by simp) fun y hy => ?_
    simp only [List.mem_cons, List.not_mem_nil, or_false] at hy
    rcases hy with rfl | rfl | rfl
    · refine rd_ref_l (n := 10) (by rw [get_mem]; exact List.getElem?_set_self hjl) (by simp; omega) fun y hy => ?_
      rcases List.mem_append.mp hy with hy | hy
      · exact atom_rd (h y hy)
      · rw [List.mem_singleton.mp hy]; rfl
    · exact atom_rd ha
    · exact atom_rd hb
end
end Ev
/-! Pl16: copies; things that are no kind -/
namespace Ev
open PySem Fs
local macro_rules | `(tactic| exists $es,*) => `(tactic| simp only [e_var, e_con, e_glo, e_attr, o_ex, o_peek, os_nil, to_no, to_ex, es_nil, as_nil, eo_no, ss_nil, st_retn, st_pass, st_brk, st_cnt, hs_nil, tg_nm, tg_tp, sa_nil, sa_cons, R.bnd_ok, R.bind_ex, R.st_ok, R.st_ex, R.of_some, SR.out_nx, SR.out_rt, SR.out_ex, getV_0, getV_s, getE_0, getE_s, set_0, set_s, args_0, args_1, args_2, args_3, args_4, args_5, slot_d, slot_c, rep_0, rep_s, cellD_l, cellD_d, cloS_c, excS_x, ownS_o, ownL_l, lstC_l, getAll_nil, getAll_cons, consO_s, intO_i, E_tup, E_mk, E_mkr, E_bin, E_neg, E_cmp, E_not, E_and, E_or, E_ite, E_idx, E_sl, E_call, E_callk, E_app, E_isin, E_bi, E_meth, E_all, Os_cons, T_val, T_cmp, T_not, T_and, T_or, Es_cons, As_dat, As_lam, As_pas, Eo_ex, L_disp, L_copy, L_comp, L_cat, L_slice, L_ddisp, L_dict, L_litems, S_it, S_rng, S_rng2, S_enm, S_zip, Ss_cons, St_asg, St_par, St_own, St_frz, St_exp, St_oapp, St_oext, St_setr, St_ife, St_for, St_whl, St_ret, St_raise, St_try, Hs_some, Hs_none, K_tup, K_mk, K_mkr, K_bin2, K_bin1, K_neg, K_cmp2, K_cmp1, K_not, K_nbl, K_and, K_and_t, K_and_f, K_or, K_or_t, K_or_f, K_ite_t, K_ite_f, K_idx2, K_idx1, K_sl3, K_sl2, K_sl1, K_call, K_callk, K_callk_s, K_app, K_app_s, K_isin, K_bi, K_meth2, K_meth_s, K_meth1, K_meth_t, K_all, K_cons, K_os, K_tval, K_tcmp2, K_tcmp1, K_tnot, K_tand_t, K_tand_f, K_tor_t, K_tor_f, K_es, K_as, K_lam, K_pas, K_eo, K_disp, K_copy, K_comp, K_cat2, K_cat1, K_slc3, K_slc2, K_slc1, K_dd, K_dict, K_items, K_it, K_rng, K_rng2b, K_rng2a, K_enm, K_zip2, K_zip1, K_then, K_then_rt, K_then_bk, K_then_ct, K_then_ex, K_asg, K_asg_s, K_par2, K_par1, K_own, K_frz, K_exp, K_yes, K_oapp, K_oapp_s, K_oextL, K_oext, K_oext_s, K_sr, K_sr3, K_sr2, K_sr1, K_if_t, K_if_f, K_for, K_ret, K_raise, K_try_nx, K_try_rt, K_try_ex, K_fin_nx, K_fin_rt, K_fin0_nx, K_fin0_rt, K_hs_t, K_hs_f, K_hs0_t, K_hs0_f, sr_ref, sr_l, noExc_nil, noExc_cons, noX_v, noX_n, noX_x, noX_c, noX_o, gd_t, forL_congr, whileL_congr, compR_congr, compL_congr, b_add, b_sub, b_mul, b_mod, b_div, b_pow, b_cats, b_catl, b_catt, lstAt_l, lstAt_d, dicAt_l, dicAt_d, q_ref, q_tup, q_lst, q_non, q_bl, q_int, q_str, q_dic, c_ref, c_dic, c_tup, c_lst, c_str, c_int, r_ref, r_non, r_bl, r_int, r_str, r_tup, r_lst, y_ref, y_non, y_bl, y_int, y_str, y_tup, y_lst, y_dic, tyAt_l, tyAt_d, anyTy_0, anyTy_s, x_tup, x_lst, x_ref, idxAt_l, idxAt_d, x_cdic, x_dic, x_str, k_int, k_str, v_eq, v_ne, v_lt, v_le, v_gt, v_ge, v_in, v_nin, v_is, v_isn, eq_ii, non_non, non_bl, non_int, non_str, non_tup, non_lst, non_ref, non_dic, in_tup, in_cdic, f_ss, bi_lens, bi_lent, bi_lenl, bi_lenr, lenAt_l, bi_max, bi_min, bi_int, bi_intb, bi_tup, ix_0, ix_1, ix_2, ix_3, ix_4, nth_0, nth_s, nset_0, nset_s, me_ok_pop, me_ok_app, me_ok_cnt, me_ok_cntl, me_ok_get, me_pop, pop_0, me_app, Int.cast_ofNat_Int, Int.natCast_zero, Int.natCast_one, reduceCtorEq, Option.bind_some, Option.map_some, Option.bind_none, Option.map_none, List.map_nil, List.map_cons, List.length_cons, List.length_nil, Int.reduceLT, Int.reduceLE, Int.reduceEq, Int.reduceNe, Int.reduceNeg, Int.reducePow, Int.reduceToNat, Int.reduceAdd, Int.reduceSub, Int.reduceMul, Nat.reduceLT, Nat.reduceLeDiff, Nat.reduceAdd, Nat.reduceSub, Nat.reduceEqDiff, Nat.reduceBEq, Nat.reducePow, and_self, true_and, and_true, Bool.false_eq_true, if_true, if_false, Option.isSome_some, Option.isSome_none, Bool.not_true, Bool.not_false, List.any_nil, List.any_cons, List.all_nil, List.all_cons, Bool.or_true, Bool.true_or, Bool.or_false, Bool.false_or, Bool.and_true, Bool.true_and, Bool.false_and, Bool.and_false, decide_true, decide_false, List.nil_append, List.cons_append, List.append_nil, $[$es:term],*])
section
variable {T : Txt}
theorem mem_len2 {s : Sp0} {Y : Mem} {c : Cell} : (s.mem (Y ++ [c]))[Y.length + 2]? = some c := mem_last
mutual
theorem copied_nl (g : Ga T) : ∀ (d : D), pl d = true → nl d = true → ∀ (K : Nat) (Y : Mem), dep d < K → sz d ≤ 100000 → ∃ ext : Mem, ∀ s : Sp0, evF T (K + 1) 39 [.dat d] (s.mem Y) = .ok d (s.mem (Y ++ ext))
  | .non, _, _, K, Y, _, _ => ⟨[], fun s => by rw [evF_to g.h39 rfl]; exists f39⟩
  | .bl _, _, _, K, Y, _, _ => ⟨[], fun s => by rw [evF_to g.h39 rfl]; exists f39⟩
  | .int _, _, _, K, Y, _, _ => ⟨[], fun s => by rw [evF_to g.h39 rfl]; exists f39⟩
  | .str _, _, _, K, Y, _, _ => ⟨[], fun s => by rw [evF_to g.h39 rfl]; exists f39⟩
  | .tup xs, hp, hn, K, Y, hk, hz => by
    simp only [pl] at hp
    simp only [nl] at hn
    simp only [dep] at hk
    simp only [sz] at hz
    obtain ⟨ext, e⟩ := copied_row g xs hp hn K Y (.tup xs) (by omega) (by omega)
    refine ⟨ext ++ [.lst xs], fun s => ?_⟩
    rw [evF_to g.h39 rfl]
    exists f39, itS, guardOf
    rw [compR_ok (by have := len_sz xs; unfold lineMax; omega) (e s)]
    exists mem_app, mem_len, mem_len2, List.append_assoc
    have : (s.mem (Y ++ (ext ++ [.lst xs])))[(Y ++ ext).length + 2]? = some (.lst xs) := by rw [← List.append_assoc]; exact mem_last
    exists this
  | .lst _, _, hn, _, _, _, _ => by simp [nl] at hn
  | .dic _, hp, _, _, _, _, _ => by simp [pl] at hp
  | .ref _, hp, _, _, _, _, _ => by simp [pl] at hp
  | .cdic _, hp, _, _, _, _, _ => by simp [pl] at hp
theorem copied_row (g : Ga T) : ∀ (xs : List D), plL xs = true → nlL xs = true → ∀ (K : Nat) (Y : Mem) (z : D), depL xs + 1 < K → szL xs ≤ 100000 → ∃ ext : Mem, ∀ s : Sp0, compL [] (kSet (.nm 3) [3] [.val z, .no, .no, .no]) (kTo (evF T K) T.con .no) (kE (evF T K) T.con f39m2e) xs (s.mem Y) = .ok xs (s.mem (Y ++ ext))
  | [], _, _, K, Y, z, _, _ => ⟨[], fun s => by rw [List.append_nil]; exact comp_end rfl⟩
  | x :: xs, hp, hn, K, Y, z, hk, hz => by
    simp only [plL, Bool.and_eq_true] at hp
    simp only [nlL, Bool.and_eq_true] at hn
    simp only [depL] at hk
    simp only [szL] at hz
    obtain ⟨e1, h1⟩ := copied_nl g x hp.1 hn.1 (K - 1) Y (by omega) (by omega)
    rw [show K - 1 + 1 = K by omega] at h1
    obtain ⟨e2, h2⟩ := copied_row g xs hp.2 hn.2 K (Y ++ e1) z (by omega) (by omega)
    refine ⟨e1 ++ e2, fun s => ?_⟩
    rw [← List.append_assoc]
    refine comp_step ?_ (h2 s)
    show evE _ _ f39m2e [.val z, .no, .no, .val x] _ = _
    exists f39m2e, h1 s
end
/-- a thing that is no kind -/
def NoK (T : Txt) (Y : Mem) (x : D) : Prop := Bt T Y x ∧ ∀ s : Sp0, kindOf (s.mem Y) 6 x = none
theorem noK_nl (g : Ga T) {d : D} {Y : Mem} (hp : pl d = true) (hn : nl d = true) (hd : dep d ≤ 10) (hz : sz d ≤ 100000) (h : ∀ m, kindOf m 6 d = none) (K : Nat) (hK : 12 ≤ K) : ∃ (y : D) (ext : Mem), (∀ s : Sp0, evF T K 39 [.dat d] (s.mem Y) = .ok y (s.mem (Y ++ ext))) ∧ NoK T (Y ++ ext) y := by
  obtain ⟨K, rfl⟩ : ∃ j, K = j + 1 := ⟨K - 1, by omega⟩
  obtain ⟨ext, e⟩ := copied_nl g d hp hn K Y (by omega) hz
  exact ⟨d, ext, e, bt_nl g hp hn hd hz, fun s => h _⟩
theorem noK_nil (g : Ga T) {Y : Mem} (K : Nat) (hK : 12 ≤ K) : ∃ (y : D) (ext : Mem), (∀ s : Sp0, evF T K 39 [.dat (.lst [])] (s.mem Y) = .ok y (s.mem (Y ++ ext))) ∧ NoK T (Y ++ ext) y := by
  obtain ⟨K, rfl⟩ : ∃ j, K = j + 1 := ⟨K - 1, by omega⟩
  have hat : (Y ++ [Cell.lst []])[Y.length]? = some (.lst []) := by simp
  refine ⟨.ref (Y.length + 2), [.lst []], fun s => ?_, bt_flat g hat (by simp) (by simp), fun s => ?_⟩
  · rw [evF_to g.h39 rfl]
    exists f39, itS, guardOf
    rw [compR_ok (by unfold lineMax; simp) (comp_end rfl)]
    exists mem_app, mem_len
  · rw [kindOf_row (by simp) (by rw [q_ref, get_mem, hat]; rfl)]
    rfl
theorem noK_dic (g : Ga T) {Y : Mem} (K : Nat) (hK : 12 ≤ K) : ∃ (y : D) (ext : Mem), (∀ s : Sp0, evF T K 39 [.dat (.dic [(.s wFun, .int 1)])] (s.mem Y) = .ok y (s.mem (Y ++ ext))) ∧ NoK T (Y ++ ext) y := by
  obtain ⟨K, rfl⟩ : ∃ j, K = j + 2 := ⟨K - 2, by omega⟩
  have hat : (Y ++ [Cell.dic [(.s wFun, .int 1)]])[Y.length]? = some (.dic [(.s wFun, .int 1)]) := by simp
  refine ⟨.ref (Y.length + 2), [.dic [(.s wFun, .int 1)]], fun s => ?_, bt_dict g hat rfl (by decide) rfl, fun s => ?_⟩
  · have gw : getK (.s wFun) [(DK.s wFun, D.int 1)] = some (.int 1) := rfl
    have c1 : evF T (K + 1) 39 [.dat (.int 1)] (s.mem Y) = .ok (.int 1) (s.mem Y) := by
      rw [evF_to g.h39 rfl]
      exists f39
    have pk : ∀ m, pairsK m [.tup [.str wFun, .int 1]] [] = some [(DK.s wFun, .int 1)] := fun _ => rfl
    rw [evF_to g.h39 rfl]
    exists f39, itS, DK.d
    rw [compR_ok (by unfold lineMax; simp) (comp_step (y := .tup [.str wFun, .int 1]) (m1 := s.mem Y) (by
      show evE _ _ f39m1e [.val (.dic [(.s wFun, .int 1)]), .no, .val (.str wFun), .no] _ = _
      exists f39m1e, gw, c1) (comp_end rfl))]
    exists dictC, pk, mem_app, mem_len
  · show (match seqOf (s.mem (Y ++ [Cell.dic [(.s wFun, .int 1)]])) (.ref (Y.length + 2)) with | some xs => rowK _ xs | none => none) = none
    rw [q_ref, get_mem, hat]
    rfl
theorem noK_row (g : Ga T) {Y : Mem} (K : Nat) (hK : 12 ≤ K) : ∃ (y : D) (ext : Mem), (∀ s : Sp0, evF T K 39 [.dat (.tup [.lst [.str wFun], .str wAny, .str wAny])] (s.mem Y) = .ok y (s.mem (Y ++ ext))) ∧ NoK T (Y ++ ext) y := by
  obtain ⟨K, rfl⟩ : ∃ j, K = j + 3 := ⟨K - 3, by omega⟩
  have c0 : ∀ (w : List Nat) (K : Nat) (m : Mem), evF T (K + 1) 39 [.dat (.str w)] m = .ok (.str w) m := fun w K m => by
    rw [evF_to g.h39 rfl]
    exists f39
  have c1 : ∀ s : Sp0, evF T (K + 2) 39 [.dat (.lst [.str wFun])] (s.mem Y) = .ok (.ref (Y.length + 2)) (s.mem (Y ++ [.lst [.str wFun]])) := fun s => by
    rw [evF_to g.h39 rfl]
    exists f39, itS, guardOf
    rw [compR_ok (by unfold lineMax; simp) (comp_step (y := .str wFun) (m1 := s.mem Y) (by
      show evE _ _ f39m2e [.val (.lst [.str wFun]), .no, .no, .val (.str wFun)] _ = _
      exists f39m2e, c0) (comp_end rfl))]
    exists mem_app, mem_len, mem_len2
  have hat : (Y ++ [Cell.lst [.str wFun], .lst [.ref (Y.length + 2), .str wAny, .str wAny]])[Y.length]? = some (.lst [.str wFun]) := by simp
  refine ⟨.tup [.ref (Y.length + 2), .str wAny, .str wAny], [.lst [.str wFun], .lst [.ref (Y.length + 2), .str wAny, .str wAny]], fun s => ?_, bt_tup g hat (by simp [atom]; decide) (by simp) rfl rfl, fun s => ?_⟩
  · rw [evF_to g.h39 rfl]
    exists f39, itS, guardOf
    rw [compR_ok (by unfold lineMax; simp) (comp_step (y := .ref (Y.length + 2)) (m1 := s.mem (Y ++ [.lst [.str wFun]])) (by
      show evE _ _ f39m2e [.val (.tup [.lst [.str wFun], .str wAny, .str wAny]), .no, .no, .val (.lst [.str wFun])] _ = _
      exists f39m2e, c1) (comp_step (y := .str wAny) (m1 := s.mem (Y ++ [.lst [.str wFun]])) (by
      show evE _ _ f39m2e [.val (.tup [.lst [.str wFun], .str wAny, .str wAny]), .no, .no, .val (.str wAny)] _ = _
      exists f39m2e, c0) (comp_step (y := .str wAny) (m1 := s.mem (Y ++ [.lst [.str wFun]])) (by
      show evE _ _ f39m2e [.val (.tup [.lst [.str wFun], .str wAny, .str wAny]), .no, .no, .val (.str wAny)] _ = _
      exists f39m2e, c0) (comp_end rfl))))]
    have e1 : (Y ++ [Cell.lst [.str wFun]]) ++ [Cell.lst [.ref (Y.length + 2), .str wAny, .str wAny]] = Y ++ [.lst [.str wFun], .lst [.ref (Y.length + 2), .str wAny, .str wAny]] := by simp
    have e2 := mem_last (s := s) (r := Y ++ [Cell.lst [.str wFun]]) (c := .lst [.ref (Y.length + 2), .str wAny, .str wAny])
    exists mem_app, mem_len, e2, e1
    rw [e1] at e2
    exists e2
  · rw [kindOf_row (xs := [.ref (Y.length + 2), .str wAny, .str wAny]) (by simp) rfl]
    exact rowK_no (by simp)
end
end Ev
/-! Pl17: things refused -/
namespace Ev
open PySem Fs
local macro_rules | `(tactic| exists $es,*) => `(tactic| simp only [e_var, e_con, e_glo, e_attr, o_ex, o_peek, os_nil, to_no, to_ex, es_nil, as_nil, eo_no, ss_nil, st_retn, st_pass, st_brk, st_cnt, hs_nil, tg_nm, tg_tp, sa_nil, sa_cons, R.bnd_ok, R.bind_ex, R.st_ok, R.st_ex, R.of_some, SR.out_nx, SR.out_rt, SR.out_ex, getV_0, getV_s, getE_0, getE_s, set_0, set_s, args_0, args_1, args_2, args_3, args_4, args_5, slot_d, slot_c, rep_0, rep_s, cellD_l, cellD_d, cloS_c, excS_x, ownS_o, ownL_l, lstC_l, getAll_nil, getAll_cons, consO_s, intO_i, E_tup, E_mk, E_mkr, E_bin, E_neg, E_cmp, E_not, E_and, E_or, E_ite, E_idx, E_sl, E_call, E_callk, E_app, E_isin, E_bi, E_meth, E_all, Os_cons, T_val, T_cmp, T_not, T_and, T_or, Es_cons, As_dat, As_lam, As_pas, Eo_ex, L_disp, L_copy, L_comp, L_cat, L_slice, L_ddisp, L_dict, L_litems, S_it, S_rng, S_rng2, S_enm, S_zip, Ss_cons, St_asg, St_par, St_own, St_frz, St_exp, St_oapp, St_oext, St_setr, St_ife, St_for, St_whl, St_ret, St_raise, St_try, Hs_some, Hs_none, K_tup, K_mk, K_mkr, K_bin2, K_bin1, K_neg, K_cmp2, K_cmp1, K_not, K_nbl, K_and, K_and_t, K_and_f, K_or, K_or_t, K_or_f, K_ite_t, K_ite_f, K_idx2, K_idx1, K_sl3, K_sl2, K_sl1, K_call, K_callk, K_callk_s, K_app, K_app_s, K_isin, K_bi, K_meth2, K_meth_s, K_meth1, K_meth_t, K_all, K_cons, K_os, K_tval, K_tcmp2, K_tcmp1, K_tnot, K_tand_t, K_tand_f, K_tor_t, K_tor_f, K_es, K_as, K_lam, K_pas, K_eo, K_disp, K_copy, K_comp, K_cat2, K_cat1, K_slc3, K_slc2, K_slc1, K_dd, K_dict, K_items, K_it, K_rng, K_rng2b, K_rng2a, K_enm, K_zip2, K_zip1, K_then, K_then_rt, K_then_bk, K_then_ct, K_then_ex, K_asg, K_asg_s, K_par2, K_par1, K_own, K_frz, K_exp, K_yes, K_oapp, K_oapp_s, K_oextL, K_oext, K_oext_s, K_sr, K_sr3, K_sr2, K_sr1, K_if_t, K_if_f, K_for, K_ret, K_raise, K_try_nx, K_try_rt, K_try_ex, K_fin_nx, K_fin_rt, K_fin0_nx, K_fin0_rt, K_hs_t, K_hs_f, K_hs0_t, K_hs0_f, sr_ref, sr_l, noExc_nil, noExc_cons, noX_v, noX_n, noX_x, noX_c, noX_o, gd_t, forL_congr, whileL_congr, compR_congr, compL_congr, b_add, b_sub, b_mul, b_mod, b_div, b_pow, b_cats, b_catl, b_catt, lstAt_l, lstAt_d, dicAt_l, dicAt_d, q_ref, q_tup, q_lst, q_non, q_bl, q_int, q_str, q_dic, c_ref, c_dic, c_tup, c_lst, c_str, c_int, r_ref, r_non, r_bl, r_int, r_str, r_tup, r_lst, y_ref, y_non, y_bl, y_int, y_str, y_tup, y_lst, y_dic, tyAt_l, tyAt_d, anyTy_0, anyTy_s, x_tup, x_lst, x_ref, idxAt_l, idxAt_d, x_cdic, x_dic, x_str, k_int, k_str, v_eq, v_ne, v_lt, v_le, v_gt, v_ge, v_in, v_nin, v_is, v_isn, eq_ii, non_non, non_bl, non_int, non_str, non_tup, non_lst, non_ref, non_dic, in_tup, in_cdic, f_ss, bi_lens, bi_lent, bi_lenl, bi_lenr, lenAt_l, bi_max, bi_min, bi_int, bi_intb, bi_tup, ix_0, ix_1, ix_2, ix_3, ix_4, nth_0, nth_s, nset_0, nset_s, me_ok_pop, me_ok_app, me_ok_cnt, me_ok_cntl, me_ok_get, me_pop, pop_0, me_app, Int.cast_ofNat_Int, Int.natCast_zero, Int.natCast_one, reduceCtorEq, Option.bind_some, Option.map_some, Option.bind_none, Option.map_none, List.map_nil, List.map_cons, List.length_cons, List.length_nil, Int.reduceLT, Int.reduceLE, Int.reduceEq, Int.reduceNe, Int.reduceNeg, Int.reducePow, Int.reduceToNat, Int.reduceAdd, Int.reduceSub, Int.reduceMul, Nat.reduceLT, Nat.reduceLeDiff, Nat.reduceAdd, Nat.reduceSub, Nat.reduceEqDiff, Nat.reduceBEq, Nat.reducePow, and_self, true_and, and_true, Bool.false_eq_true, if_true, if_false, Option.isSome_some, Option.isSome_none, Bool.not_true, Bool.not_false, List.any_nil, List.any_cons, List.all_nil, List.all_cons, Bool.or_true, Bool.true_or, Bool.or_false, Bool.false_or, Bool.and_true, Bool.true_and, Bool.false_and, Bool.and_false, decide_true, decide_false, List.nil_append, List.cons_append, List.append_nil, $[$es:term],*])
section
variable {T : Txt}
theorem deep_loop (g : Ga T) {K : Nat} {Y : Mem} : ∀ (ds : List D) (B : Nat) (s : Sp0) (k : Ki) (z : Slot), s.At B → Far (B + ds.length) → ∃ (k' : Ki) (s' : Sp0) (z' : Slot), forL [] (kTg (.nm 2)) (kSs (evF T (K + 2)) T.con T.sub f36l1) ds [.val (.ref 1), .val k.d, z, .no] (s.mem Y) = .nx [.val (.ref 1), .val k'.d, z', .no] (s'.mem Y) ∧ k'.deep = k.deep + ds.length ∧ s'.At (B + ds.length)
  | [], B, s, k, z, hs, _ => ⟨k, s, z, forL_end rfl, rfl, hs⟩
  | d :: ds, B, s, k, z, hs, hB => by
    simp only [List.length_cons] at hB
    obtain ⟨b, s1, e1, h1⟩ := chance g (k := K) (r := Y) (n := 2) hs (hB.mono (by omega)) (by decide) (by decide)
    have body : ∃ k1 : Ki, kSs (evF T (K + 2)) T.con T.sub f36l1 [.val (.ref 1), .val k.d, .val d, .no] (s.mem Y) = .nx [.val (.ref 1), .val k1.d, .val d, .no] (s1.mem Y) ∧ k1.deep = k.deep + 1 := by
      show ∃ k1 : Ki, evSs _ _ _ f36l1 _ _ = _ ∧ _
      cases b with
      | true =>
        exists f36l1, e1
        exact ⟨.fn k .any, rfl, by simp [Ki.deep]⟩
      | false =>
        exists f36l1, e1
        exact ⟨.pr .any k, rfl, by simp [Ki.deep]⟩
    obtain ⟨k1, e2, h2⟩ := body
    obtain ⟨k', s2, z', e3, h3, h4⟩ := deep_loop g (K := K) (Y := Y) ds (B + 1) s1 k1 (.val d) h1 (hB.mono (by omega))
    refine ⟨k', s2, z', ?_, by simp only [List.length_cons]; omega, h4.mono (by simp only [List.length_cons]; omega)⟩
    rw [forL_go rfl rfl e2]
    exact e3
theorem no_kind (g : Ga T) (gm : Gm T) {K B : Nat} {s : Sp0} {Y : Mem} (hK : 20 ≤ K) (hs : s.At B) (hB : Far (B + 10)) : ∃ (y : D) (ext : Mem) (s' : Sp0), evF T (K + 1) 36 [.dat (.ref 1)] (s.mem Y) = .ok y (s'.mem (Y ++ ext)) ∧ NoK T (Y ++ ext) y ∧ s'.At (B + 10) := by
  obtain ⟨K, rfl⟩ : ∃ j, K = j + 2 := ⟨K - 2, by omega⟩
  obtain ⟨k, s1, z', e1, h1, h2⟩ := deep_loop g (K := K) (Y := Y) (rangeD 0 7) B s .num .no hs (hB.mono (by simp [rangeD]))
  have hl7 : (rangeD 0 7).length = 7 := by simp [rangeD]
  rw [hl7] at h1 h2
  have h7 : k.deep = 7 := by simpa [Ki.deep] using h1
  obtain ⟨y, s2, e2, hy, h3⟩ := pick g (k := K) (r := Y) h2 (hB.mono (by omega)) (x := .lst [.non, .int 0, .bl true, .str [], .str [65, 110, 121], .str [110, 117, 109, 98, 101, 114], .str wFun, .lst [], .tup [.str wFun], .tup [.str wFun, .str wNum], .tup [.str wFun, .str wNum, .str wNum, .str wNum], k.d, .tup [.str wNum, .str wNum, .str wNum], .tup [.str wFun, .str wNum, .non], .tup [.str wPair, .int 0, .str wAny], .dic [(.s wFun, .int 1)], .tup [.lst [.str wFun], .str wAny, .str wAny]]) (.inl rfl) (by simp) (by simp)
  have cp : ∃ (y' : D) (ext : Mem), (∀ s : Sp0, evF T (K + 2) 39 [.dat y] (s.mem Y) = .ok y' (s.mem (Y ++ ext))) ∧ NoK T (Y ++ ext) y' := by
    simp only [List.mem_cons, List.not_mem_nil, or_false] at hy
    rcases hy with rfl | rfl | rfl | rfl | rfl | rfl | rfl | rfl | rfl | rfl | rfl | rfl | rfl | rfl | rfl | rfl | rfl
    · exact noK_nl g rfl rfl (by decide) (by decide) (fun _ => rfl) _ (by omega)
    · exact noK_nl g rfl rfl (by decide) (by decide) (fun _ => rfl) _ (by omega)
    · exact noK_nl g rfl rfl (by decide) (by decide) (fun _ => rfl) _ (by omega)
    · exact noK_nl g rfl rfl (by decide) (by decide) (fun _ => rfl) _ (by omega)
    · exact noK_nl g rfl rfl (by decide) (by decide) (fun _ => rfl) _ (by omega)
    · exact noK_nl g rfl rfl (by decide) (by decide) (fun _ => rfl) _ (by omega)
    · exact noK_nl g rfl rfl (by decide) (by decide) (fun _ => rfl) _ (by omega)
    · exact noK_nil g _ (by omega)
    · exact noK_nl g rfl rfl (by decide) (by decide) (fun _ => rfl) _ (by omega)
    · exact noK_nl g rfl rfl (by decide) (by decide) (fun _ => rfl) _ (by omega)
    · exact noK_nl g rfl rfl (by decide) (by decide) (fun _ => rfl) _ (by omega)
    · exact noK_nl g k.pl_d k.nl_d (by rw [k.dep_d]; omega) (by have := Ki.sz6 (k := k) (n := 7) (by omega) (by decide); omega) (fun m => by rw [kindOf_lo k 6 k.d (lo_self k), if_neg (by omega)]) _ (by omega)
    · exact noK_nl g rfl rfl (by decide) (by decide) (fun _ => rfl) _ (by omega)
    · exact noK_nl g rfl rfl (by decide) (by decide) (fun _ => rfl) _ (by omega)
    · exact noK_nl g rfl rfl (by decide) (by decide) (fun _ => rfl) _ (by omega)
    · exact noK_dic g _ (by omega)
    · exact noK_row g _ (by omega)
  obtain ⟨y', ext, e3, h4⟩ := cp
  have dd : buildK [DK.s wFun] [.int 1] [] = some [(.s wFun, .int 1)] := rfl
  have hle : (12 + 5 ≤ lineMax) := by unfold lineMax; omega
  rw [evF_to gm.h36 rfl]
  exists f36, rngS_ok (show (0 : Int) ≤ 7 by decide) (by decide)
  simp only [Ki.d] at e1
  rw [e1]
  exists dd, decide_eq_true hle, e2, e3
  exact ⟨y', ext, s2, rfl, h4, h3.mono (by omega)⟩
def dropS : Nat → Ss → Ss
  | 0, s => s
  | n + 1, .cons _ r => dropS n r
  | _ + 1, .nil => .nil
theorem pick_ref (g : Ga T) {K B : Nat} {s : Sp0} {Z : Mem} (hs : s.At B) (hB : Far B) {j : Nat} {xs : List D} (hx : Z[j]? = some (.lst xs)) (hn : xs ≠ []) (hn2 : xs.length < 1000000) : ∃ (y : D) (s' : Sp0), evF T (K + 2) 38 [.dat (.ref 1), .dat (.ref (j + 2))] (s.mem Z) = .ok y (s'.mem Z) ∧ y ∈ xs ∧ s'.At (B + 1) := by
  have h0 : (0 : Int) < xs.length := by have := List.length_pos_iff.mpr hn; omega
  obtain ⟨v, s', e, h1, h2, h⟩ := draw (k := K) (r := Z) g.h1 hs hB h0 (by omega)
  obtain ⟨i, rfl⟩ := Int.eq_ofNat_of_zero_le h1
  have hj : i < xs.length := by omega
  rw [evF_to g.h38 rfl]
  exists f38, get_mem, hx, e, ix_ok hj, List.getElem?_eq_getElem hj
  exact ⟨_, s', rfl, List.getElem_mem hj, h⟩
theorem head_turn (g : Ga T) (gx : Gx T) (gk : Gk T) (gm : Gm T) {K B : Nat} {s : Sp0} {Z : Mem} {no way place z5 : Slot} {k : Ki} (hd : k.deep ≤ 6) (hK : 80 ≤ K) (hs : s.At B) (hB : Far (B + 10)) :
    ∃ (s' : Sp0) (Z' : Mem), evSs (evF T K) T.con T.sub (dropS 9 f48.body) [.val (.ref 1), no, .val k.d, way, place, z5] (s.mem Z) = .rt (.bl true) (s'.mem Z') ∧ s'.At (B + 10) := by
  obtain ⟨K, rfl⟩ : ∃ j, K = j + 4 := ⟨K - 4, by omega⟩
  have lst : ∃ last : D, (pl last = true ∧ nl last = true ∧ dep last ≤ 10 ∧ sz last ≤ 100000) ∧ (∀ m K, evF T (K + 1) 24 [.dat last] m = .ex ⟨10, [(wThing, last)]⟩ m) ∧ ∀ m, evE (evF T (K + 4)) T.con (.ite (.not (.val (.ex (.isin (.ex (.var 2)) [.str])))) (.var 2) (.con (.str [110, 111, 110, 101]))) [.val (.ref 1), no, .val k.d, way, place, z5] m = .ok last m := by
    have words : ∀ (w : List Nat), k.d = .str w → ∃ last : D, (pl last = true ∧ nl last = true ∧ dep last ≤ 10 ∧ sz last ≤ 100000) ∧ (∀ m K, evF T (K + 1) 24 [.dat last] m = .ex ⟨10, [(wThing, last)]⟩ m) ∧ ∀ m, evE (evF T (K + 4)) T.con (.ite (.not (.val (.ex (.isin (.ex (.var 2)) [.str])))) (.var 2) (.con (.str [110, 111, 110, 101]))) [.val (.ref 1), no, .val k.d, way, place, z5] m = .ok last m := fun w hw => by
      refine ⟨.str [110, 111, 110, 101], ⟨rfl, rfl, by decide, by decide⟩, fun m K => need_head_no gk rfl, fun m => ?_⟩
      rw [hw]
      exists K_tup
    have rows : isTy [] k.d [.str] = some false → (∀ m, isTy m k.d [.str] = some false) → ∃ last : D, (pl last = true ∧ nl last = true ∧ dep last ≤ 10 ∧ sz last ≤ 100000) ∧ (∀ m K, evF T (K + 1) 24 [.dat last] m = .ex ⟨10, [(wThing, last)]⟩ m) ∧ ∀ m, evE (evF T (K + 4)) T.con (.ite (.not (.val (.ex (.isin (.ex (.var 2)) [.str])))) (.var 2) (.con (.str [110, 111, 110, 101]))) [.val (.ref 1), no, .val k.d, way, place, z5] m = .ok last m := fun _ h => by
      have := Ki.sz6 hd (by decide)
      refine ⟨k.d, ⟨k.pl_d, k.nl_d, by rw [k.dep_d]; omega, by omega⟩, fun m K => need_head_ns gk (h m), fun m => ?_⟩
      exists h
    cases k with
    | num => exact words _ rfl
    | tru => exact words _ rfl
    | any => exact words _ rfl
    | fn a b => exact rows rfl fun _ => rfl
    | pr a b => exact rows rfl fun _ => rfl
  obtain ⟨last, ⟨l1, l2, l3, l4⟩, l5, l6⟩ := lst
  obtain ⟨y, s1, e1, hy, h1⟩ := pick_ref g (K := K + 2) (Z := Z ++ [.lst [.str wFun]] ++ [.lst [.non, .str wAny, .str [], .int 0, .ref (Z.length + 2), .bl true, .str [102, 117, 110, 115], .tup [.str wNum], last]]) (j := (Z ++ [Cell.lst [.str wFun]]).length) (xs := [.non, .str wAny, .str [], .int 0, .ref (Z.length + 2), .bl true, .str [102, 117, 110, 115], .tup [.str wNum], last]) hs (hB.mono (by omega)) (by simp) (by simp) (by simp)
  have good : Bt T (Z ++ [.lst [.str wFun]] ++ [.lst [.non, .str wAny, .str [], .int 0, .ref (Z.length + 2), .bl true, .str [102, 117, 110, 115], .tup [.str wNum], last]]) y ∧ ∀ (s : Sp0) K, evF T (K + 1) 24 [.dat y] (s.mem (Z ++ [.lst [.str wFun]] ++ [.lst [.non, .str wAny, .str [], .int 0, .ref (Z.length + 2), .bl true, .str [102, 117, 110, 115], .tup [.str wNum], last]])) = .ex ⟨10, [(wThing, y)]⟩ (s.mem (Z ++ [.lst [.str wFun]] ++ [.lst [.non, .str wAny, .str [], .int 0, .ref (Z.length + 2), .bl true, .str [102, 117, 110, 115], .tup [.str wNum], last]])) := by
    have hat : (Z ++ [Cell.lst [.str wFun]] ++ [.lst [.non, .str wAny, .str [], .int 0, .ref (Z.length + 2), .bl true, .str [102, 117, 110, 115], .tup [.str wNum], last]])[Z.length]? = some (.lst [.str wFun]) := by simp
    simp only [List.mem_cons, List.not_mem_nil, or_false] at hy
    rcases hy with rfl | rfl | rfl | rfl | rfl | rfl | rfl | rfl | rfl
    · exact ⟨bt_atom g rfl, fun s K => need_head_ns gk rfl⟩
    · exact ⟨bt_atom g rfl, fun s K => need_head_no gk rfl⟩
    · exact ⟨bt_atom g rfl, fun s K => need_head_no gk rfl⟩
    · exact ⟨bt_atom g rfl, fun s K => need_head_ns gk rfl⟩
    · exact ⟨bt_flat g hat (by simp [atom]; decide) (by simp), fun s K => need_head_ns gk (by rw [y_ref, get_mem, hat]; rfl)⟩
    · exact ⟨bt_atom g rfl, fun s K => need_head_ns gk rfl⟩
    · exact ⟨bt_atom g rfl, fun s K => need_head_no gk rfl⟩
    · exact ⟨bt_nl g rfl rfl (by decide) (by decide), fun s K => need_head_ns gk rfl⟩
    · exact ⟨bt_nl g l1 l2 l3 l4, fun s K => l5 _ K⟩
  obtain ⟨bt, hr⟩ := good
  obtain ⟨Z', sp1, sp2⟩ := bt.sp
  have lam : evF T (K + 2) 10480 ([y].map .dat) (s1.mem (Z ++ [.lst [.str wFun]] ++ [.lst [.non, .str wAny, .str [], .int 0, .ref (Z.length + 2), .bl true, .str [102, 117, 110, 115], .tup [.str wNum], last]])) = .ex ⟨10, [(wThing, y)]⟩ (s1.mem (Z ++ [.lst [.str wFun]] ++ [.lst [.non, .str wAny, .str [], .int 0, .ref (Z.length + 2), .bl true, .str [102, 117, 110, 115], .tup [.str wNum], last]])) := by
    rw [List.map_cons, List.map_nil, evF_to gm.l1 rfl]
    have := ground_no gk (hr s1 (K - 1))
    rw [show K - 1 + 2 = K + 1 by omega] at this
    exists f10480, this
  have rf := refuses (K := K + 3) g gx (w := [104, 101, 97, 100]) rfl (raised_head gx lam) (sp1 s1 (K + 3) (by omega)) (sp2 s1) (by omega)
  exists f48, dropS, mem_app, mem_len, l6
  rw [show evF T (K + 4) 38 _ _ = _ from e1]
  exists K_tup
  rw [show evF T (K + 4) 34 _ _ = _ from rf]
  exists K_tup
  exact ⟨s1, Z', rfl, h1.mono (by omega)⟩
theorem place_turn (g : Ga T) (gx : Gx T) (gk : Gk T) (gm : Gm T) {K B : Nat} {s : Sp0} {Z : Mem} {no way z4 z5 : Slot} {k : Ki} (hd : k.deep ≤ 6) (hK : 80 ≤ K) (hs : s.At B) (hB : Far (B + 20)) :
    ∃ (s' : Sp0) (Z' : Mem), evSs (evF T K) T.con T.sub (dropS 7 f48.body) [.val (.ref 1), no, .val k.d, way, z4, z5] (s.mem Z) = .rt (.bl true) (s'.mem Z') ∧ s'.At (B + 20) := by
  obtain ⟨K, rfl⟩ : ∃ j, K = j + 6 := ⟨K - 6, by omega⟩
  let Z1 := Z ++ [Cell.lst [.str wIn, .int 1]]
  let Z2 := Z1 ++ [Cell.lst [.str [117, 112]]]
  let Z3 := Z2 ++ [Cell.lst [.str wIn]]
  let Z4 := Z3 ++ [Cell.lst [.ref (Z2.length + 2)]]
  let Z5 := Z4 ++ [Cell.dic [(.s wIn, .int 1)]]
  let Z6 := Z5 ++ [Cell.lst [.non]]
  let L : List D := [.non, .int 0, .str wIn, .ref (Z.length + 2), .ref (Z1.length + 2), .ref (Z3.length + 2), .ref (Z4.length + 2), .bl true, .ref (Z5.length + 2), .tup [.str []]]
  let Z7 := Z6 ++ [Cell.lst L]
  have a0 : Z7[Z.length]? = some (.lst [.str wIn, .int 1]) := by simp [Z7, Z6, Z5, Z4, Z3, Z2, Z1]
  have a1 : Z7[Z1.length]? = some (.lst [.str [117, 112]]) := by simp [Z7, Z6, Z5, Z4, Z3, Z2, Z1]
  have a2 : Z7[Z2.length]? = some (.lst [.str wIn]) := by simp [Z7, Z6, Z5, Z4, Z3, Z2, Z1]
  have a3 : Z7[Z3.length]? = some (.lst [.ref (Z2.length + 2)]) := by simp [Z7, Z6, Z5, Z4, Z3, Z2, Z1]
  have a4 : Z7[Z4.length]? = some (.dic [(.s wIn, .int 1)]) := by simp [Z7, Z6, Z5, Z4, Z3, Z2, Z1]
  have a5 : Z7[Z5.length]? = some (.lst [.non]) := by simp [Z7, Z6, Z5, Z4, Z3, Z2, Z1]
  have a6 : Z7[Z6.length]? = some (.lst L) := by simp [Z7]
  obtain ⟨y, s1, e1, hy, h1⟩ := pick_ref g (K := K + 4) (Z := Z7) (j := Z6.length) (xs := L) hs (hB.mono (by omega)) a6 (by simp [L]) (by simp [L])
  have seq : ∀ {j : Nat} {xs : List D}, Z7[j]? = some (.lst xs) → xs.all stepB = false → ∀ (s : Sp0), (∀ y ∈ xs, (∃ w, y = .str w) ∨ (isTy (s.mem Z7) y [.str] = some false ∧ ∀ w, y ≠ .str w)) → ∀ K, evF T (K + 2) 26 [.dat (.ref (j + 2))] (s.mem Z7) = .ex ⟨24, [(wThing, .ref (j + 2))]⟩ (s.mem Z7) := fun {j xs} hj hb s ht K => by
    have := need_place gk (K := K) (m := s.mem Z7) (x := .ref (j + 2)) (isSeq_of (.inr (.inr ⟨j + 2, rfl, by rw [get_mem]; exact hj⟩))) ht
    rw [hb, if_neg (by decide)] at this
    exact this
  have good : Bt T Z7 y ∧ ∀ (s : Sp0) K, evF T (K + 2) 26 [.dat y] (s.mem Z7) = .ex ⟨24, [(wThing, y)]⟩ (s.mem Z7) := by
    simp only [L, List.mem_cons, List.not_mem_nil, or_false] at hy
    rcases hy with rfl | rfl | rfl | rfl | rfl | rfl | rfl | rfl | rfl | rfl
    · exact ⟨bt_atom g rfl, fun s K => need_place_no gk rfl⟩
    · exact ⟨bt_atom g rfl, fun s K => need_place_no gk rfl⟩
    · exact ⟨bt_atom g rfl, fun s K => need_place_no gk rfl⟩
    · exact ⟨bt_flat g a0 (by simp [atom]; decide) (by simp), fun s K => seq a0 rfl s (fun y hy => by
        simp only [List.mem_cons, List.not_mem_nil, or_false] at hy
        rcases hy with rfl | rfl
        · exact .inl ⟨_, rfl⟩
        · exact .inr ⟨rfl, fun w h => nomatch h⟩) K⟩
    · exact ⟨bt_flat g a1 (by simp [atom]; decide) (by simp), fun s K => seq a1 rfl s (fun y hy => by
        rw [List.mem_singleton.mp hy]
        exact .inl ⟨_, rfl⟩) K⟩
    · exact ⟨bt_nest g a3 a2 (by simp [Z3]) (by simp [atom]; decide) (by simp), fun s K => seq a3 rfl s (fun y hy => by
        rw [List.mem_singleton.mp hy]
        exact .inr ⟨by rw [y_ref, get_mem, a2]; rfl, fun w h => nomatch h⟩) K⟩
    · exact ⟨bt_dict g a4 rfl (by decide) rfl, fun s K => need_place_no gk (by rw [y_ref, get_mem, a4]; rfl)⟩
    · exact ⟨bt_atom g rfl, fun s K => need_place_no gk rfl⟩
    · exact ⟨bt_flat g a5 (by simp [atom]) (by simp), fun s K => seq a5 rfl s (fun y hy => by
        rw [List.mem_singleton.mp hy]
        exact .inr ⟨rfl, fun w h => nomatch h⟩) K⟩
    · refine ⟨bt_nl g rfl rfl (by decide) (by decide), fun s K => ?_⟩
      have := need_place gk (K := K) (m := s.mem Z7) (x := .tup [.str []]) (isSeq_of (.inl rfl)) (fun y hy => by
        rw [List.mem_singleton.mp hy]
        exact .inl ⟨_, rfl⟩)
      exact this
  obtain ⟨bt, hr⟩ := good
  obtain ⟨Z', sp1, sp2⟩ := bt.sp
  have lam : evF T (K + 4) 10481 ([k.d, y].map .dat) (s1.mem Z7) = .ex ⟨24, [(wThing, y)]⟩ (s1.mem Z7) := by
    rw [List.map_cons, List.map_cons, List.map_nil, evF_to gm.l2 rfl]
    have := part_no_place gk (K := K) (x := k.d) (k := k) (told_lo (m := s1.mem Z7) (lo_self k) hd) (hr s1 K) (by omega)
    exists f10481, this
  have rf := refuses (K := K + 5) g gx (w := [112, 108, 97, 99, 101]) rfl (raised_place gx lam) (sp1 s1 (K + 5) (by omega)) (sp2 s1) (by omega)
  obtain ⟨s2, Z'', e2, h2⟩ := head_turn g gx gk gm (K := K + 6) (Z := Z') (no := no) (way := way) (place := .val y) (z5 := z5) hd (by omega) h1 (hB.mono (by omega))
  have dd : buildK [DK.s wIn] [.int 1] [] = some [(.s wIn, .int 1)] := rfl
  simp only [f48, dropS] at e2
  exists f48, dropS, mem_app, mem_len, dd
  rw [show evF T (K + 6) 38 _ _ = _ from e1]
  exists K_tup
  rw [show evF T (K + 6) 34 _ _ = _ from rf]
  simp only [↓e2, e_var, e_con, e_glo, e_attr, o_ex, o_peek, os_nil, to_no, to_ex, es_nil, as_nil, eo_no, ss_nil, st_retn, st_pass, st_brk, st_cnt, hs_nil, tg_nm, tg_tp, sa_nil, sa_cons, R.bnd_ok, R.bind_ex, R.st_ok, R.st_ex, R.of_some, SR.out_nx, SR.out_rt, SR.out_ex, getV_0, getV_s, getE_0, getE_s, set_0, set_s, args_0, args_1, args_2, args_3, args_4, args_5, slot_d, slot_c, rep_0, rep_s, cellD_l, cellD_d, cloS_c, excS_x, ownS_o, ownL_l, lstC_l, getAll_nil, getAll_cons, consO_s, intO_i, E_tup, E_mk, E_mkr, E_bin, E_neg, E_cmp, E_not, E_and, E_or, E_ite, E_idx, E_sl, E_call, E_callk, E_app, E_isin, E_bi, E_meth, E_all, Os_cons, T_val, T_cmp, T_not, T_and, T_or, Es_cons, As_dat, As_lam, As_pas, Eo_ex, L_disp, L_copy, L_comp, L_cat, L_slice, L_ddisp, L_dict, L_litems, S_it, S_rng, S_rng2, S_enm, S_zip, Ss_cons, St_asg, St_par, St_own, St_frz, St_exp, St_oapp, St_oext, St_setr, St_ife, St_for, St_whl, St_ret, St_raise, St_try, Hs_some, Hs_none, K_tup, K_mk, K_mkr, K_bin2, K_bin1, K_neg, K_cmp2, K_cmp1, K_not, K_nbl, K_and, K_and_t, K_and_f, K_or, K_or_t, K_or_f, K_ite_t, K_ite_f, K_idx2, K_idx1, K_sl3, K_sl2, K_sl1, K_call, K_callk, K_callk_s, K_app, K_app_s, K_isin, K_bi, K_meth2, K_meth_s, K_meth1, K_meth_t, K_all, K_cons, K_os, K_tval, K_tcmp2, K_tcmp1, K_tnot, K_tand_t, K_tand_f, K_tor_t, K_tor_f, K_es, K_as, K_lam, K_pas, K_eo, K_disp, K_copy, K_comp, K_cat2, K_cat1, K_slc3, K_slc2, K_slc1, K_dd, K_dict, K_items, K_it, K_rng, K_rng2b, K_rng2a, K_enm, K_zip2, K_zip1, K_then, K_then_rt, K_then_bk, K_then_ct, K_then_ex, K_asg, K_asg_s, K_par2, K_par1, K_own, K_frz, K_exp, K_yes, K_oapp, K_oapp_s, K_oextL, K_oext, K_oext_s, K_sr, K_sr3, K_sr2, K_sr1, K_if_t, K_if_f, K_for, K_ret, K_raise, K_try_nx, K_try_rt, K_try_ex, K_fin_nx, K_fin_rt, K_fin0_nx, K_fin0_rt, K_hs_t, K_hs_f, K_hs0_t, K_hs0_f, sr_ref, sr_l, noExc_nil, noExc_cons, noX_v, noX_n, noX_x, noX_c, noX_o, gd_t, forL_congr, whileL_congr, compR_congr, compL_congr, b_add, b_sub, b_mul, b_mod, b_div, b_pow, b_cats, b_catl, b_catt, lstAt_l, lstAt_d, dicAt_l, dicAt_d, q_ref, q_tup, q_lst, q_non, q_bl, q_int, q_str, q_dic, c_ref, c_dic, c_tup, c_lst, c_str, c_int, r_ref, r_non, r_bl, r_int, r_str, r_tup, r_lst, y_ref, y_non, y_bl, y_int, y_str, y_tup, y_lst, y_dic, tyAt_l, tyAt_d, anyTy_0, anyTy_s, x_tup, x_lst, x_ref, idxAt_l, idxAt_d, x_cdic, x_dic, x_str, k_int, k_str, v_eq, v_ne, v_lt, v_le, v_gt, v_ge, v_in, v_nin, v_is, v_isn, eq_ii, non_non, non_bl, non_int, non_str, non_tup, non_lst, non_ref, non_dic, in_tup, in_cdic, f_ss, bi_lens, bi_lent, bi_lenl, bi_lenr, lenAt_l, bi_max, bi_min, bi_int, bi_intb, bi_tup, ix_0, ix_1, ix_2, ix_3, ix_4, nth_0, nth_s, nset_0, nset_s, me_ok_pop, me_ok_app, me_ok_cnt, me_ok_cntl, me_ok_get, me_pop, pop_0, me_app, Int.cast_ofNat_Int, Int.natCast_zero, Int.natCast_one, reduceCtorEq, Option.bind_some, Option.map_some, Option.bind_none, Option.map_none, List.map_nil, List.map_cons, List.length_cons, List.length_nil, Int.reduceLT, Int.reduceLE, Int.reduceEq, Int.reduceNe, Int.reduceNeg, Int.reducePow, Int.reduceToNat, Int.reduceAdd, Int.reduceSub, Int.reduceMul, Nat.reduceLT, Nat.reduceLeDiff, Nat.reduceAdd, Nat.reduceSub, Nat.reduceEqDiff, Nat.reduceBEq, Nat.reducePow, and_self, true_and, and_true, Bool.false_eq_true, if_true, if_false, Option.isSome_some, Option.isSome_none, Bool.not_true, Bool.not_false, List.any_nil, List.any_cons, List.all_nil, List.all_cons, Bool.or_true, Bool.true_or, Bool.or_false, Bool.false_or, Bool.and_true, Bool.true_and, Bool.false_and, Bool.and_false, decide_true, decide_false, List.nil_append, List.cons_append, List.append_nil]
  exact ⟨s2, Z'', rfl, h2.mono (by omega)⟩
end
end Ev
/-! Pl18: things refused; the law -/
namespace Ev
open PySem Fs
local macro_rules | `(tactic| exists $es,*) => `(tactic| simp only [e_var, e_con, e_glo, e_attr, o_ex, o_peek, os_nil, to_no, to_ex, es_nil, as_nil, eo_no, ss_nil, st_retn, st_pass, st_brk, st_cnt, hs_nil, tg_nm, tg_tp, sa_nil, sa_cons, R.bnd_ok, R.bind_ex, R.st_ok, R.st_ex, R.of_some, SR.out_nx, SR.out_rt, SR.out_ex, getV_0, getV_s, getE_0, getE_s, set_0, set_s, args_0, args_1, args_2, args_3, args_4, args_5, slot_d, slot_c, rep_0, rep_s, cellD_l, cellD_d, cloS_c, excS_x, ownS_o, ownL_l, lstC_l, getAll_nil, getAll_cons, consO_s, intO_i, E_tup, E_mk, E_mkr, E_bin, E_neg, E_cmp, E_not, E_and, E_or, E_ite, E_idx, E_sl, E_call, E_callk, E_app, E_isin, E_bi, E_meth, E_all, Os_cons, T_val, T_cmp, T_not, T_and, T_or, Es_cons, As_dat, As_lam, As_pas, Eo_ex, L_disp, L_copy, L_comp, L_cat, L_slice, L_ddisp, L_dict, L_litems, S_it, S_rng, S_rng2, S_enm, S_zip, Ss_cons, St_asg, St_par, St_own, St_frz, St_exp, St_oapp, St_oext, St_setr, St_ife, St_for, St_whl, St_ret, St_raise, St_try, Hs_some, Hs_none, K_tup, K_mk, K_mkr, K_bin2, K_bin1, K_neg, K_cmp2, K_cmp1, K_not, K_nbl, K_and, K_and_t, K_and_f, K_or, K_or_t, K_or_f, K_ite_t, K_ite_f, K_idx2, K_idx1, K_sl3, K_sl2, K_sl1, K_call, K_callk, K_callk_s, K_app, K_app_s, K_isin, K_bi, K_meth2, K_meth_s, K_meth1, K_meth_t, K_all, K_cons, K_os, K_tval, K_tcmp2, K_tcmp1, K_tnot, K_tand_t, K_tand_f, K_tor_t, K_tor_f, K_es, K_as, K_lam, K_pas, K_eo, K_disp, K_copy, K_comp, K_cat2, K_cat1, K_slc3, K_slc2, K_slc1, K_dd, K_dict, K_items, K_it, K_rng, K_rng2b, K_rng2a, K_enm, K_zip2, K_zip1, K_then, K_then_rt, K_then_bk, K_then_ct, K_then_ex, K_asg, K_asg_s, K_par2, K_par1, K_own, K_frz, K_exp, K_yes, K_oapp, K_oapp_s, K_oextL, K_oext, K_oext_s, K_sr, K_sr3, K_sr2, K_sr1, K_if_t, K_if_f, K_for, K_ret, K_raise, K_try_nx, K_try_rt, K_try_ex, K_fin_nx, K_fin_rt, K_fin0_nx, K_fin0_rt, K_hs_t, K_hs_f, K_hs0_t, K_hs0_f, sr_ref, sr_l, noExc_nil, noExc_cons, noX_v, noX_n, noX_x, noX_c, noX_o, gd_t, forL_congr, whileL_congr, compR_congr, compL_congr, b_add, b_sub, b_mul, b_mod, b_div, b_pow, b_cats, b_catl, b_catt, lstAt_l, lstAt_d, dicAt_l, dicAt_d, q_ref, q_tup, q_lst, q_non, q_bl, q_int, q_str, q_dic, c_ref, c_dic, c_tup, c_lst, c_str, c_int, r_ref, r_non, r_bl, r_int, r_str, r_tup, r_lst, y_ref, y_non, y_bl, y_int, y_str, y_tup, y_lst, y_dic, tyAt_l, tyAt_d, anyTy_0, anyTy_s, x_tup, x_lst, x_ref, idxAt_l, idxAt_d, x_cdic, x_dic, x_str, k_int, k_str, v_eq, v_ne, v_lt, v_le, v_gt, v_ge, v_in, v_nin, v_is, v_isn, eq_ii, non_non, non_bl, non_int, non_str, non_tup, non_lst, non_ref, non_dic, in_tup, in_cdic, f_ss, bi_lens, bi_lent, bi_lenl, bi_lenr, lenAt_l, bi_max, bi_min, bi_int, bi_intb, bi_tup, ix_0, ix_1, ix_2, ix_3, ix_4, nth_0, nth_s, nset_0, nset_s, me_ok_pop, me_ok_app, me_ok_cnt, me_ok_cntl, me_ok_get, me_pop, pop_0, me_app, Int.cast_ofNat_Int, Int.natCast_zero, Int.natCast_one, reduceCtorEq, Option.bind_some, Option.map_some, Option.bind_none, Option.map_none, List.map_nil, List.map_cons, List.length_cons, List.length_nil, Int.reduceLT, Int.reduceLE, Int.reduceEq, Int.reduceNe, Int.reduceNeg, Int.reducePow, Int.reduceToNat, Int.reduceAdd, Int.reduceSub, Int.reduceMul, Nat.reduceLT, Nat.reduceLeDiff, Nat.reduceAdd, Nat.reduceSub, Nat.reduceEqDiff, Nat.reduceBEq, Nat.reducePow, and_self, true_and, and_true, Bool.false_eq_true, if_true, if_false, Option.isSome_some, Option.isSome_none, Bool.not_true, Bool.not_false, List.any_nil, List.any_cons, List.all_nil, List.all_cons, Bool.or_true, Bool.true_or, Bool.or_false, Bool.false_or, Bool.and_true, Bool.true_and, Bool.false_and, Bool.and_false, decide_true, decide_false, List.nil_append, List.cons_append, List.append_nil, $[$es:term],*])
section
variable {T : Txt}
theorem lam_no (gk : Gk T) (gm : Gm T) {K l : Nat} {m : Mem} {y : D} (hN : rd m 12 y = true) (h : kindOf m 6 y = none) (hK : 20 ≤ K) (hl : l = 10482 ∨ l = 10483 ∨ l = 10484 ∨ l = 10485) : evF T K l ([y].map .dat) m = .ex ⟨12, [(wThing, y)]⟩ m := by
  obtain ⟨K, rfl⟩ : ∃ j, K = j + 3 := ⟨K - 3, by omega⟩
  have nk := need_kind_no gk (K := K) hN h (by omega)
  rw [List.map_cons, List.map_nil]
  rcases hl with rfl | rfl | rfl | rfl
  · have e : evF T (K + 2) 20 [.dat y] m = .ex ⟨12, [(wThing, y)]⟩ m := by
      rw [evF_to gk.h20 rfl]
      exists f20, nk
    rw [evF_to gm.l3 rfl]
    exists f10482, e
  · have e : evF T (K + 2) 22 [.dat y] m = .ex ⟨12, [(wThing, y)]⟩ m := by
      rw [evF_to gk.h22 rfl]
      exists f22, nk
    rw [evF_to gm.l4 rfl]
    exists f10483, e
  · have e : evF T (K + 2) 23 [.dat y] m = .ex ⟨12, [(wThing, y)]⟩ m := by
      rw [evF_to gk.h23 rfl]
      exists f23, nk
    rw [evF_to gm.l5 rfl]
    exists f10484, e
  · have e := part_no_kind gk (K := K) (p := .non) hN h (by omega)
    rw [evF_to gm.l6 rfl]
    exists f10485, e
theorem refused (g : Ga T) (gx : Gx T) (gk : Gk T) (gf : Gf T) (gm : Gm T) {K B : Nat} {s : Sp0} {Y : Mem} (hK : 100 ≤ K) (hs : s.At B) (hB : Far (B + 100)) :
    ∃ (s' : Sp0) (Y' : Mem), evF T (K + 1) 48 [.dat (.ref 1)] (s.mem Y) = .ok (.bl true) (s'.mem Y') ∧ s'.At (B + 100) := by
  obtain ⟨K, rfl⟩ : ∃ j, K = j + 3 := ⟨K - 3, by omega⟩
  obtain ⟨y, ext, s1, e1, nk, h1⟩ := no_kind g gm (K := K + 2) (Y := Y) (by omega) hs (hB.mono (by omega))
  obtain ⟨bt, hk⟩ := nk
  obtain ⟨k, s2, e2, hd, h2⟩ := f_kind g gf (r := Y ++ ext) 2 (K + 3) (B + 10) s1 (by omega) h1 (hB.mono (by omega))
  obtain ⟨v, s3, e3, v0, v4, h3⟩ := draw (k := K + 2) (r := Y ++ ext) (n := 4) g.h1 h2 (hB.mono (by omega)) (by decide) (by decide)
  obtain ⟨Y', sp1, sp2⟩ := bt.sp
  have ik : ∀ s : Sp0, evF T (K + 3) 19 [.dat y] (s.mem (Y ++ ext)) = .ok (.bl false) (s.mem (Y ++ ext)) := fun s => by
    have := is_kind (K := K + 2) gk (bt.rd s) (by omega)
    rw [hk s] at this
    exact this
  have sm := fun m => same_pl (m := m) g (K := K + 3) (d := .bl false) rfl (by decide) (by simp [dep]; omega)
  have rf : ∀ l, (l = 10482 ∨ l = 10483 ∨ l = 10484 ∨ l = 10485) → evF T (K + 3) 34 [.clo l [y], .dat (.str [107, 105, 110, 100]), .dat y] (s3.mem (Y ++ ext)) = .ok (.bl true) (s3.mem Y') := fun l hl =>
    refuses (K := K + 2) g gx (w := [107, 105, 110, 100]) rfl (raised_kind gx (lam_no gk gm (K := K + 1) (bt.rd s3) (hk s3) (by omega) hl)) (sp1 s3 (K + 2) (by omega)) (sp2 s3) (by omega)
  have rf0 := rf 10482 (by simp)
  have rf1 := rf 10483 (by simp)
  have rf2 := rf 10484 (by simp)
  have rf3 := rf 10485 (by simp)
  obtain ⟨s4, Y4, e4, h4⟩ := place_turn g gx gk gm (K := K + 3) (Z := Y') (no := .val y) (way := .val (.int v)) (z4 := .no) (z5 := .no) (k := k) (by omega) (by omega) h3 (hB.mono (by omega))
  have fin : s4.At (B + 100) := h4.mono (by omega)
  simp only [f48, dropS] at e4
  rw [evF_to gm.h48 rfl]
  exists f48
  rw [show evF T (K + 3) 36 _ _ = _ from e1]
  exists K_tup
  rw [show evF T (K + 3) 31 [.dat (.ref 1), .dat (.int 2)] (s1.mem (Y ++ ext)) = .ok k.d (s2.mem (Y ++ ext)) from e2]
  exists ik, sm
  rw [show evF T (K + 3) 1 _ _ = _ from e3]
  have hv : v = 0 ∨ v = 1 ∨ v = 2 ∨ v = 3 := by omega
  rcases hv with rfl | rfl | rfl | rfl
  · simp only [↓e4, e_var, e_con, e_glo, e_attr, o_ex, o_peek, os_nil, to_no, to_ex, es_nil, as_nil, eo_no, ss_nil, st_retn, st_pass, st_brk, st_cnt, hs_nil, tg_nm, tg_tp, sa_nil, sa_cons, R.bnd_ok, R.bind_ex, R.st_ok, R.st_ex, R.of_some, SR.out_nx, SR.out_rt, SR.out_ex, getV_0, getV_s, getE_0, getE_s, set_0, set_s, args_0, args_1, args_2, args_3, args_4, args_5, slot_d, slot_c, rep_0, rep_s, cellD_l, cellD_d, cloS_c, excS_x, ownS_o, ownL_l, lstC_l, getAll_nil, getAll_cons, consO_s, intO_i, E_tup, E_mk, E_mkr, E_bin, E_neg, E_cmp, E_not, E_and, E_or, E_ite, E_idx, E_sl, E_call, E_callk, E_app, E_isin, E_bi, E_meth, E_all, Os_cons, T_val, T_cmp, T_not, T_and, T_or, Es_cons, As_dat, As_lam, As_pas, Eo_ex, L_disp, L_copy, L_comp, L_cat, L_slice, L_ddisp, L_dict, L_litems, S_it, S_rng, S_rng2, S_enm, S_zip, Ss_cons, St_asg, St_par, St_own, St_frz, St_exp, St_oapp, St_oext, St_setr, St_ife, St_for, St_whl, St_ret, St_raise, St_try, Hs_some, Hs_none, K_tup, K_mk, K_mkr, K_bin2, K_bin1, K_neg, K_cmp2, K_cmp1, K_not, K_nbl, K_and, K_and_t, K_and_f, K_or, K_or_t, K_or_f, K_ite_t, K_ite_f, K_idx2, K_idx1, K_sl3, K_sl2, K_sl1, K_call, K_callk, K_callk_s, K_app, K_app_s, K_isin, K_bi, K_meth2, K_meth_s, K_meth1, K_meth_t, K_all, K_cons, K_os, K_tval, K_tcmp2, K_tcmp1, K_tnot, K_tand_t, K_tand_f, K_tor_t, K_tor_f, K_es, K_as, K_lam, K_pas, K_eo, K_disp, K_copy, K_comp, K_cat2, K_cat1, K_slc3, K_slc2, K_slc1, K_dd, K_dict, K_items, K_it, K_rng, K_rng2b, K_rng2a, K_enm, K_zip2, K_zip1, K_then, K_then_rt, K_then_bk, K_then_ct, K_then_ex, K_asg, K_asg_s, K_par2, K_par1, K_own, K_frz, K_exp, K_yes, K_oapp, K_oapp_s, K_oextL, K_oext, K_oext_s, K_sr, K_sr3, K_sr2, K_sr1, K_if_t, K_if_f, K_for, K_ret, K_raise, K_try_nx, K_try_rt, K_try_ex, K_fin_nx, K_fin_rt, K_fin0_nx, K_fin0_rt, K_hs_t, K_hs_f, K_hs0_t, K_hs0_f, sr_ref, sr_l, noExc_nil, noExc_cons, noX_v, noX_n, noX_x, noX_c, noX_o, gd_t, forL_congr, whileL_congr, compR_congr, compL_congr, b_add, b_sub, b_mul, b_mod, b_div, b_pow, b_cats, b_catl, b_catt, lstAt_l, lstAt_d, dicAt_l, dicAt_d, q_ref, q_tup, q_lst, q_non, q_bl, q_int, q_str, q_dic, c_ref, c_dic, c_tup, c_lst, c_str, c_int, r_ref, r_non, r_bl, r_int, r_str, r_tup, r_lst, y_ref, y_non, y_bl, y_int, y_str, y_tup, y_lst, y_dic, tyAt_l, tyAt_d, anyTy_0, anyTy_s, x_tup, x_lst, x_ref, idxAt_l, idxAt_d, x_cdic, x_dic, x_str, k_int, k_str, v_eq, v_ne, v_lt, v_le, v_gt, v_ge, v_in, v_nin, v_is, v_isn, eq_ii, non_non, non_bl, non_int, non_str, non_tup, non_lst, non_ref, non_dic, in_tup, in_cdic, f_ss, bi_lens, bi_lent, bi_lenl, bi_lenr, lenAt_l, bi_max, bi_min, bi_int, bi_intb, bi_tup, ix_0, ix_1, ix_2, ix_3, ix_4, nth_0, nth_s, nset_0, nset_s, me_ok_pop, me_ok_app, me_ok_cnt, me_ok_cntl, me_ok_get, me_pop, pop_0, me_app, Int.cast_ofNat_Int, Int.natCast_zero, Int.natCast_one, reduceCtorEq, Option.bind_some, Option.map_some, Option.bind_none, Option.map_none, List.map_nil, List.map_cons, List.length_cons, List.length_nil, Int.reduceLT, Int.reduceLE, Int.reduceEq, Int.reduceNe, Int.reduceNeg, Int.reducePow, Int.reduceToNat, Int.reduceAdd, Int.reduceSub, Int.reduceMul, Nat.reduceLT, Nat.reduceLeDiff, Nat.reduceAdd, Nat.reduceSub, Nat.reduceEqDiff, Nat.reduceBEq, Nat.reducePow, and_self, true_and, and_true, Bool.false_eq_true, if_true, if_false, Option.isSome_some, Option.isSome_none, Bool.not_true, Bool.not_false, List.any_nil, List.any_cons, List.all_nil, List.all_cons, Bool.or_true, Bool.true_or, Bool.or_false, Bool.false_or, Bool.and_true, Bool.true_and, Bool.false_and, Bool.and_false, decide_true, decide_false, List.nil_append, List.cons_append, List.append_nil, eq_ii, rf0]
    exact ⟨s4, Y4, rfl, fin⟩
  · simp only [↓e4, e_var, e_con, e_glo, e_attr, o_ex, o_peek, os_nil, to_no, to_ex, es_nil, as_nil, eo_no, ss_nil, st_retn, st_pass, st_brk, st_cnt, hs_nil, tg_nm, tg_tp, sa_nil, sa_cons, R.bnd_ok, R.bind_ex, R.st_ok, R.st_ex, R.of_some, SR.out_nx, SR.out_rt, SR.out_ex, getV_0, getV_s, getE_0, getE_s, set_0, set_s, args_0, args_1, args_2, args_3, args_4, args_5, slot_d, slot_c, rep_0, rep_s, cellD_l, cellD_d, cloS_c, excS_x, ownS_o, ownL_l, lstC_l, getAll_nil, getAll_cons, consO_s, intO_i, E_tup, E_mk, E_mkr, E_bin, E_neg, E_cmp, E_not, E_and, E_or, E_ite, E_idx, E_sl, E_call, E_callk, E_app, E_isin, E_bi, E_meth, E_all, Os_cons, T_val, T_cmp, T_not, T_and, T_or, Es_cons, As_dat, As_lam, As_pas, Eo_ex, L_disp, L_copy, L_comp, L_cat, L_slice, L_ddisp, L_dict, L_litems, S_it, S_rng, S_rng2, S_enm, S_zip, Ss_cons, St_asg, St_par, St_own, St_frz, St_exp, St_oapp, St_oext, St_setr, St_ife, St_for, St_whl, St_ret, St_raise, St_try, Hs_some, Hs_none, K_tup, K_mk, K_mkr, K_bin2, K_bin1, K_neg, K_cmp2, K_cmp1, K_not, K_nbl, K_and, K_and_t, K_and_f, K_or, K_or_t, K_or_f, K_ite_t, K_ite_f, K_idx2, K_idx1, K_sl3, K_sl2, K_sl1, K_call, K_callk, K_callk_s, K_app, K_app_s, K_isin, K_bi, K_meth2, K_meth_s, K_meth1, K_meth_t, K_all, K_cons, K_os, K_tval, K_tcmp2, K_tcmp1, K_tnot, K_tand_t, K_tand_f, K_tor_t, K_tor_f, K_es, K_as, K_lam, K_pas, K_eo, K_disp, K_copy, K_comp, K_cat2, K_cat1, K_slc3, K_slc2, K_slc1, K_dd, K_dict, K_items, K_it, K_rng, K_rng2b, K_rng2a, K_enm, K_zip2, K_zip1, K_then, K_then_rt, K_then_bk, K_then_ct, K_then_ex, K_asg, K_asg_s, K_par2, K_par1, K_own, K_frz, K_exp, K_yes, K_oapp, K_oapp_s, K_oextL, K_oext, K_oext_s, K_sr, K_sr3, K_sr2, K_sr1, K_if_t, K_if_f, K_for, K_ret, K_raise, K_try_nx, K_try_rt, K_try_ex, K_fin_nx, K_fin_rt, K_fin0_nx, K_fin0_rt, K_hs_t, K_hs_f, K_hs0_t, K_hs0_f, sr_ref, sr_l, noExc_nil, noExc_cons, noX_v, noX_n, noX_x, noX_c, noX_o, gd_t, forL_congr, whileL_congr, compR_congr, compL_congr, b_add, b_sub, b_mul, b_mod, b_div, b_pow, b_cats, b_catl, b_catt, lstAt_l, lstAt_d, dicAt_l, dicAt_d, q_ref, q_tup, q_lst, q_non, q_bl, q_int, q_str, q_dic, c_ref, c_dic, c_tup, c_lst, c_str, c_int, r_ref, r_non, r_bl, r_int, r_str, r_tup, r_lst, y_ref, y_non, y_bl, y_int, y_str, y_tup, y_lst, y_dic, tyAt_l, tyAt_d, anyTy_0, anyTy_s, x_tup, x_lst, x_ref, idxAt_l, idxAt_d, x_cdic, x_dic, x_str, k_int, k_str, v_eq, v_ne, v_lt, v_le, v_gt, v_ge, v_in, v_nin, v_is, v_isn, eq_ii, non_non, non_bl, non_int, non_str, non_tup, non_lst, non_ref, non_dic, in_tup, in_cdic, f_ss, bi_lens, bi_lent, bi_lenl, bi_lenr, lenAt_l, bi_max, bi_min, bi_int, bi_intb, bi_tup, ix_0, ix_1, ix_2, ix_3, ix_4, nth_0, nth_s, nset_0, nset_s, me_ok_pop, me_ok_app, me_ok_cnt, me_ok_cntl, me_ok_get, me_pop, pop_0, me_app, Int.cast_ofNat_Int, Int.natCast_zero, Int.natCast_one, reduceCtorEq, Option.bind_some, Option.map_some, Option.bind_none, Option.map_none, List.map_nil, List.map_cons, List.length_cons, List.length_nil, Int.reduceLT, Int.reduceLE, Int.reduceEq, Int.reduceNe, Int.reduceNeg, Int.reducePow, Int.reduceToNat, Int.reduceAdd, Int.reduceSub, Int.reduceMul, Nat.reduceLT, Nat.reduceLeDiff, Nat.reduceAdd, Nat.reduceSub, Nat.reduceEqDiff, Nat.reduceBEq, Nat.reducePow, and_self, true_and, and_true, Bool.false_eq_true, if_true, if_false, Option.isSome_some, Option.isSome_none, Bool.not_true, Bool.not_false, List.any_nil, List.any_cons, List.all_nil, List.all_cons, Bool.or_true, Bool.true_or, Bool.or_false, Bool.false_or, Bool.and_true, Bool.true_and, Bool.false_and, Bool.and_false, decide_true, decide_false, List.nil_append, List.cons_append, List.append_nil, eq_ii, rf1]
    exact ⟨s4, Y4, rfl, fin⟩
  · simp only [↓e4, e_var, e_con, e_glo, e_attr, o_ex, o_peek, os_nil, to_no, to_ex, es_nil, as_nil, eo_no, ss_nil, st_retn, st_pass, st_brk, st_cnt, hs_nil, tg_nm, tg_tp, sa_nil, sa_cons, R.bnd_ok, R.bind_ex, R.st_ok, R.st_ex, R.of_some, SR.out_nx, SR.out_rt, SR.out_ex, getV_0, getV_s, getE_0, getE_s, set_0, set_s, args_0, args_1, args_2, args_3, args_4, args_5, slot_d, slot_c, rep_0, rep_s, cellD_l, cellD_d, cloS_c, excS_x, ownS_o, ownL_l, lstC_l, getAll_nil, getAll_cons, consO_s, intO_i, E_tup, E_mk, E_mkr, E_bin, E_neg, E_cmp, E_not, E_and, E_or, E_ite, E_idx, E_sl, E_call, E_callk, E_app, E_isin, E_bi, E_meth, E_all, Os_cons, T_val, T_cmp, T_not, T_and, T_or, Es_cons, As_dat, As_lam, As_pas, Eo_ex, L_disp, L_copy, L_comp, L_cat, L_slice, L_ddisp, L_dict, L_litems, S_it, S_rng, S_rng2, S_enm, S_zip, Ss_cons, St_asg, St_par, St_own, St_frz, St_exp, St_oapp, St_oext, St_setr, St_ife, St_for, St_whl, St_ret, St_raise, St_try, Hs_some, Hs_none, K_tup, K_mk, K_mkr, K_bin2, K_bin1, K_neg, K_cmp2, K_cmp1, K_not, K_nbl, K_and, K_and_t, K_and_f, K_or, K_or_t, K_or_f, K_ite_t, K_ite_f, K_idx2, K_idx1, K_sl3, K_sl2, K_sl1, K_call, K_callk, K_callk_s, K_app, K_app_s, K_isin, K_bi, K_meth2, K_meth_s, K_meth1, K_meth_t, K_all, K_cons, K_os, K_tval, K_tcmp2, K_tcmp1, K_tnot, K_tand_t, K_tand_f, K_tor_t, K_tor_f, K_es, K_as, K_lam, K_pas, K_eo, K_disp, K_copy, K_comp, K_cat2, K_cat1, K_slc3, K_slc2, K_slc1, K_dd, K_dict, K_items, K_it, K_rng, K_rng2b, K_rng2a, K_enm, K_zip2, K_zip1, K_then, K_then_rt, K_then_bk, K_then_ct, K_then_ex, K_asg, K_asg_s, K_par2, K_par1, K_own, K_frz, K_exp, K_yes, K_oapp, K_oapp_s, K_oextL, K_oext, K_oext_s, K_sr, K_sr3, K_sr2, K_sr1, K_if_t, K_if_f, K_for, K_ret, K_raise, K_try_nx, K_try_rt, K_try_ex, K_fin_nx, K_fin_rt, K_fin0_nx, K_fin0_rt, K_hs_t, K_hs_f, K_hs0_t, K_hs0_f, sr_ref, sr_l, noExc_nil, noExc_cons, noX_v, noX_n, noX_x, noX_c, noX_o, gd_t, forL_congr, whileL_congr, compR_congr, compL_congr, b_add, b_sub, b_mul, b_mod, b_div, b_pow, b_cats, b_catl, b_catt, lstAt_l, lstAt_d, dicAt_l, dicAt_d, q_ref, q_tup, q_lst, q_non, q_bl, q_int, q_str, q_dic, c_ref, c_dic, c_tup, c_lst, c_str, c_int, r_ref, r_non, r_bl, r_int, r_str, r_tup, r_lst, y_ref, y_non, y_bl, y_int, y_str, y_tup, y_lst, y_dic, tyAt_l, tyAt_d, anyTy_0, anyTy_s, x_tup, x_lst, x_ref, idxAt_l, idxAt_d, x_cdic, x_dic, x_str, k_int, k_str, v_eq, v_ne, v_lt, v_le, v_gt, v_ge, v_in, v_nin, v_is, v_isn, eq_ii, non_non, non_bl, non_int, non_str, non_tup, non_lst, non_ref, non_dic, in_tup, in_cdic, f_ss, bi_lens, bi_lent, bi_lenl, bi_lenr, lenAt_l, bi_max, bi_min, bi_int, bi_intb, bi_tup, ix_0, ix_1, ix_2, ix_3, ix_4, nth_0, nth_s, nset_0, nset_s, me_ok_pop, me_ok_app, me_ok_cnt, me_ok_cntl, me_ok_get, me_pop, pop_0, me_app, Int.cast_ofNat_Int, Int.natCast_zero, Int.natCast_one, reduceCtorEq, Option.bind_some, Option.map_some, Option.bind_none, Option.map_none, List.map_nil, List.map_cons, List.length_cons, List.length_nil, Int.reduceLT, Int.reduceLE, Int.reduceEq, Int.reduceNe, Int.reduceNeg, Int.reducePow, Int.reduceToNat, Int.reduceAdd, Int.reduceSub, Int.reduceMul, Nat.reduceLT, Nat.reduceLeDiff, Nat.reduceAdd, Nat.reduceSub, Nat.reduceEqDiff, Nat.reduceBEq, Nat.reducePow, and_self, true_and, and_true, Bool.false_eq_true, if_true, if_false, Option.isSome_some, Option.isSome_none, Bool.not_true, Bool.not_false, List.any_nil, List.any_cons, List.all_nil, List.all_cons, Bool.or_true, Bool.true_or, Bool.or_false, Bool.false_or, Bool.and_true, Bool.true_and, Bool.false_and, Bool.and_false, decide_true, decide_false, List.nil_append, List.cons_append, List.append_nil, eq_ii, rf2]
    exact ⟨s4, Y4, rfl, fin⟩
  · simp only [↓e4, e_var, e_con, e_glo, e_attr, o_ex, o_peek, os_nil, to_no, to_ex, es_nil, as_nil, eo_no, ss_nil, st_retn, st_pass, st_brk, st_cnt, hs_nil, tg_nm, tg_tp, sa_nil, sa_cons, R.bnd_ok, R.bind_ex, R.st_ok, R.st_ex, R.of_some, SR.out_nx, SR.out_rt, SR.out_ex, getV_0, getV_s, getE_0, getE_s, set_0, set_s, args_0, args_1, args_2, args_3, args_4, args_5, slot_d, slot_c, rep_0, rep_s, cellD_l, cellD_d, cloS_c, excS_x, ownS_o, ownL_l, lstC_l, getAll_nil, getAll_cons, consO_s, intO_i, E_tup, E_mk, E_mkr, E_bin, E_neg, E_cmp, E_not, E_and, E_or, E_ite, E_idx, E_sl, E_call, E_callk, E_app, E_isin, E_bi, E_meth, E_all, Os_cons, T_val, T_cmp, T_not, T_and, T_or, Es_cons, As_dat, As_lam, As_pas, Eo_ex, L_disp, L_copy, L_comp, L_cat, L_slice, L_ddisp, L_dict, L_litems, S_it, S_rng, S_rng2, S_enm, S_zip, Ss_cons, St_asg, St_par, St_own, St_frz, St_exp, St_oapp, St_oext, St_setr, St_ife, St_for, St_whl, St_ret, St_raise, St_try, Hs_some, Hs_none, K_tup, K_mk, K_mkr, K_bin2, K_bin1, K_neg, K_cmp2, K_cmp1, K_not, K_nbl, K_and, K_and_t, K_and_f, K_or, K_or_t, K_or_f, K_ite_t, K_ite_f, K_idx2, K_idx1, K_sl3, K_sl2, K_sl1, K_call, K_callk, K_callk_s, K_app, K_app_s, K_isin, K_bi, K_meth2, K_meth_s, K_meth1, K_meth_t, K_all, K_cons, K_os, K_tval, K_tcmp2, K_tcmp1, K_tnot, K_tand_t, K_tand_f, K_tor_t, K_tor_f, K_es, K_as, K_lam, K_pas, K_eo, K_disp, K_copy, K_comp, K_cat2, K_cat1, K_slc3, K_slc2, K_slc1, K_dd, K_dict, K_items, K_it, K_rng, K_rng2b, K_rng2a, K_enm, K_zip2, K_zip1, K_then, K_then_rt, K_then_bk, K_then_ct, K_then_ex, K_asg, K_asg_s, K_par2, K_par1, K_own, K_frz, K_exp, K_yes, K_oapp, K_oapp_s, K_oextL, K_oext, K_oext_s, K_sr, K_sr3, K_sr2, K_sr1, K_if_t, K_if_f, K_for, K_ret, K_raise, K_try_nx, K_try_rt, K_try_ex, K_fin_nx, K_fin_rt, K_fin0_nx, K_fin0_rt, K_hs_t, K_hs_f, K_hs0_t, K_hs0_f, sr_ref, sr_l, noExc_nil, noExc_cons, noX_v, noX_n, noX_x, noX_c, noX_o, gd_t, forL_congr, whileL_congr, compR_congr, compL_congr, b_add, b_sub, b_mul, b_mod, b_div, b_pow, b_cats, b_catl, b_catt, lstAt_l, lstAt_d, dicAt_l, dicAt_d, q_ref, q_tup, q_lst, q_non, q_bl, q_int, q_str, q_dic, c_ref, c_dic, c_tup, c_lst, c_str, c_int, r_ref, r_non, r_bl, r_int, r_str, r_tup, r_lst, y_ref, y_non, y_bl, y_int, y_str, y_tup, y_lst, y_dic, tyAt_l, tyAt_d, anyTy_0, anyTy_s, x_tup, x_lst, x_ref, idxAt_l, idxAt_d, x_cdic, x_dic, x_str, k_int, k_str, v_eq, v_ne, v_lt, v_le, v_gt, v_ge, v_in, v_nin, v_is, v_isn, eq_ii, non_non, non_bl, non_int, non_str, non_tup, non_lst, non_ref, non_dic, in_tup, in_cdic, f_ss, bi_lens, bi_lent, bi_lenl, bi_lenr, lenAt_l, bi_max, bi_min, bi_int, bi_intb, bi_tup, ix_0, ix_1, ix_2, ix_3, ix_4, nth_0, nth_s, nset_0, nset_s, me_ok_pop, me_ok_app, me_ok_cnt, me_ok_cntl, me_ok_get, me_pop, pop_0, me_app, Int.cast_ofNat_Int, Int.natCast_zero, Int.natCast_one, reduceCtorEq, Option.bind_some, Option.map_some, Option.bind_none, Option.map_none, List.map_nil, List.map_cons, List.length_cons, List.length_nil, Int.reduceLT, Int.reduceLE, Int.reduceEq, Int.reduceNe, Int.reduceNeg, Int.reducePow, Int.reduceToNat, Int.reduceAdd, Int.reduceSub, Int.reduceMul, Nat.reduceLT, Nat.reduceLeDiff, Nat.reduceAdd, Nat.reduceSub, Nat.reduceEqDiff, Nat.reduceBEq, Nat.reducePow, and_self, true_and, and_true, Bool.false_eq_true, if_true, if_false, Option.isSome_some, Option.isSome_none, Bool.not_true, Bool.not_false, List.any_nil, List.any_cons, List.all_nil, List.all_cons, Bool.or_true, Bool.true_or, Bool.or_false, Bool.false_or, Bool.and_true, Bool.true_and, Bool.false_and, Bool.and_false, decide_true, decide_false, List.nil_append, List.cons_append, List.append_nil, eq_ii, rf3]
    exact ⟨s4, Y4, rfl, fin⟩
end
end Ev
/-! Pl19: the law of kinds and places -/
namespace Ev
open PySem Fs
local macro_rules | `(tactic| exists $es,*) => `(tactic| simp only [e_var, e_con, e_glo, e_attr, o_ex, o_peek, os_nil, to_no, to_ex, es_nil, as_nil, eo_no, ss_nil, st_retn, st_pass, st_brk, st_cnt, hs_nil, tg_nm, tg_tp, sa_nil, sa_cons, R.bnd_ok, R.bind_ex, R.st_ok, R.st_ex, R.of_some, SR.out_nx, SR.out_rt, SR.out_ex, getV_0, getV_s, getE_0, getE_s, set_0, set_s, args_0, args_1, args_2, args_3, args_4, args_5, slot_d, slot_c, rep_0, rep_s, cellD_l, cellD_d, cloS_c, excS_x, ownS_o, ownL_l, lstC_l, getAll_nil, getAll_cons, consO_s, intO_i, E_tup, E_mk, E_mkr, E_bin, E_neg, E_cmp, E_not, E_and, E_or, E_ite, E_idx, E_sl, E_call, E_callk, E_app, E_isin, E_bi, E_meth, E_all, Os_cons, T_val, T_cmp, T_not, T_and, T_or, Es_cons, As_dat, As_lam, As_pas, Eo_ex, L_disp, L_copy, L_comp, L_cat, L_slice, L_ddisp, L_dict, L_litems, S_it, S_rng, S_rng2, S_enm, S_zip, Ss_cons, St_asg, St_par, St_own, St_frz, St_exp, St_oapp, St_oext, St_setr, St_ife, St_for, St_whl, St_ret, St_raise, St_try, Hs_some, Hs_none, K_tup, K_mk, K_mkr, K_bin2, K_bin1, K_neg, K_cmp2, K_cmp1, K_not, K_nbl, K_and, K_and_t, K_and_f, K_or, K_or_t, K_or_f, K_ite_t, K_ite_f, K_idx2, K_idx1, K_sl3, K_sl2, K_sl1, K_call, K_callk, K_callk_s, K_app, K_app_s, K_isin, K_bi, K_meth2, K_meth_s, K_meth1, K_meth_t, K_all, K_cons, K_os, K_tval, K_tcmp2, K_tcmp1, K_tnot, K_tand_t, K_tand_f, K_tor_t, K_tor_f, K_es, K_as, K_lam, K_pas, K_eo, K_disp, K_copy, K_comp, K_cat2, K_cat1, K_slc3, K_slc2, K_slc1, K_dd, K_dict, K_items, K_it, K_rng, K_rng2b, K_rng2a, K_enm, K_zip2, K_zip1, K_then, K_then_rt, K_then_bk, K_then_ct, K_then_ex, K_asg, K_asg_s, K_par2, K_par1, K_own, K_frz, K_exp, K_yes, K_oapp, K_oapp_s, K_oextL, K_oext, K_oext_s, K_sr, K_sr3, K_sr2, K_sr1, K_if_t, K_if_f, K_for, K_ret, K_raise, K_try_nx, K_try_rt, K_try_ex, K_fin_nx, K_fin_rt, K_fin0_nx, K_fin0_rt, K_hs_t, K_hs_f, K_hs0_t, K_hs0_f, sr_ref, sr_l, noExc_nil, noExc_cons, noX_v, noX_n, noX_x, noX_c, noX_o, gd_t, forL_congr, whileL_congr, compR_congr, compL_congr, b_add, b_sub, b_mul, b_mod, b_div, b_pow, b_cats, b_catl, b_catt, lstAt_l, lstAt_d, dicAt_l, dicAt_d, q_ref, q_tup, q_lst, q_non, q_bl, q_int, q_str, q_dic, c_ref, c_dic, c_tup, c_lst, c_str, c_int, r_ref, r_non, r_bl, r_int, r_str, r_tup, r_lst, y_ref, y_non, y_bl, y_int, y_str, y_tup, y_lst, y_dic, tyAt_l, tyAt_d, anyTy_0, anyTy_s, x_tup, x_lst, x_ref, idxAt_l, idxAt_d, x_cdic, x_dic, x_str, k_int, k_str, v_eq, v_ne, v_lt, v_le, v_gt, v_ge, v_in, v_nin, v_is, v_isn, eq_ii, non_non, non_bl, non_int, non_str, non_tup, non_lst, non_ref, non_dic, in_tup, in_cdic, f_ss, bi_lens, bi_lent, bi_lenl, bi_lenr, lenAt_l, bi_max, bi_min, bi_int, bi_intb, bi_tup, ix_0, ix_1, ix_2, ix_3, ix_4, nth_0, nth_s, nset_0, nset_s, me_ok_pop, me_ok_app, me_ok_cnt, me_ok_cntl, me_ok_get, me_pop, pop_0, me_app, Int.cast_ofNat_Int, Int.natCast_zero, Int.natCast_one, reduceCtorEq, Option.bind_some, Option.map_some, Option.bind_none, Option.map_none, List.map_nil, List.map_cons, List.length_cons, List.length_nil, Int.reduceLT, Int.reduceLE, Int.reduceEq, Int.reduceNe, Int.reduceNeg, Int.reducePow, Int.reduceToNat, Int.reduceAdd, Int.reduceSub, Int.reduceMul, Nat.reduceLT, Nat.reduceLeDiff, Nat.reduceAdd, Nat.reduceSub, Nat.reduceEqDiff, Nat.reduceBEq, Nat.reducePow, and_self, true_and, and_true, Bool.false_eq_true, if_true, if_false, Option.isSome_some, Option.isSome_none, Bool.not_true, Bool.not_false, List.any_nil, List.any_cons, List.all_nil, List.all_cons, Bool.or_true, Bool.true_or, Bool.or_false, Bool.false_or, Bool.and_true, Bool.true_and, Bool.false_and, Bool.and_false, decide_true, decide_false, List.nil_append, List.cons_append, List.append_nil, $[$es:term],*])
section
variable {T : Txt}
theorem law_deep (g : Ga T) {K : Nat} {Y : Mem} {a z4 z5 : Slot} : ∀ (ds : List D) (B : Nat) (s : Sp0) (k : Ki) (z : Slot), s.At B → Far (B + ds.length) → ∃ (k' : Ki) (s' : Sp0) (z' : Slot), forL [] (kTg (.nm 3)) (kSs (evF T (K + 2)) T.con T.sub f49l1) ds [a, .val (.ref 1), .val k.d, z, z4, z5] (s.mem Y) = .nx [a, .val (.ref 1), .val k'.d, z', z4, z5] (s'.mem Y) ∧ k'.deep = k.deep + ds.length ∧ s'.At (B + ds.length)
  | [], B, s, k, z, hs, _ => ⟨k, s, z, forL_end rfl, rfl, hs⟩
  | d :: ds, B, s, k, z, hs, hB => by
    simp only [List.length_cons] at hB
    obtain ⟨y, s1, e1, hy, h1⟩ := pick g (k := K) (r := Y) hs (hB.mono (by omega)) (x := .lst [.tup [.str wFun, k.d, .str wAny], .tup [.str wPair, .str wNum, k.d], .tup [.str wFun, k.d, k.d]]) (.inl rfl) (by simp) (by simp)
    have hk : ∃ k1 : Ki, y = k1.d ∧ k1.deep = k.deep + 1 := by
      simp only [List.mem_cons, List.not_mem_nil, or_false] at hy
      rcases hy with rfl | rfl | rfl
      · exact ⟨.fn k .any, rfl, by simp [Ki.deep]⟩
      · exact ⟨.pr .num k, rfl, by simp [Ki.deep]⟩
      · exact ⟨.fn k k, rfl, by simp [Ki.deep]⟩
    obtain ⟨k1, rfl, hk1⟩ := hk
    have body : kSs (evF T (K + 2)) T.con T.sub f49l1 [a, .val (.ref 1), .val k.d, .val d, z4, z5] (s.mem Y) = .nx [a, .val (.ref 1), .val k1.d, .val d, z4, z5] (s1.mem Y) := by
      show evSs _ _ _ f49l1 _ _ = _
      exists f49l1, e1
    obtain ⟨k', s2, z', e3, h3, h4⟩ := law_deep g (K := K) (Y := Y) (a := a) (z4 := z4) (z5 := z5) ds (B + 1) s1 k1 (.val d) h1 (hB.mono (by omega))
    refine ⟨k', s2, z', ?_, by simp only [List.length_cons]; omega, h4.mono (by simp only [List.length_cons]; omega)⟩
    rw [forL_go rfl rfl body]
    exact e3
theorem law_kinds (g : Ga T) (gf : Gf T) {K : Nat} {Y : Mem} {a c z4 z5 z : Slot} (hK : 20 ≤ K) : ∀ (ds : List D) (B : Nat) (s : Sp0), s.At B → Far (B + 200 * ds.length) → ∃ (ks : List Ki) (s' : Sp0), compL [] (kSet (.nm 3) [3] [a, .val (.ref 1), c, z, z4, z5]) (kTo (evF T (K + 1)) T.con .no) (kE (evF T (K + 1)) T.con f49m1e) ds (s.mem Y) = .ok (ks.map Ki.d) (s'.mem Y) ∧ (∀ k ∈ ks, k.deep ≤ 6) ∧ ks.length = ds.length ∧ s'.At (B + 200 * ds.length)
  | [], B, s, hs, _ => ⟨[], s, comp_end rfl, (fun _ h => by cases h), rfl, hs⟩
  | d :: ds, B, s, hs, hB => by
    simp only [List.length_cons] at hB
    obtain ⟨v, s1, e1, v0, v6, h1⟩ := draw (k := K) (r := Y) (n := 6) g.h1 hs (hB.mono (by omega)) (by decide) (by decide)
    obtain ⟨i, rfl⟩ := Int.eq_ofNat_of_zero_le v0
    have hi : i ≤ 5 := by omega
    have hp : 2 ^ (1 + i) ≤ 2 ^ 6 := Nat.pow_le_pow_right (by decide) (by omega)
    obtain ⟨k, s2, e2, hd, h2⟩ := f_kind g gf (r := Y) (1 + i) (K + 1) (B + 1) s1 (by omega) h1 (hB.mono (by omega))
    obtain ⟨ks, s3, e3, h3, h4, h5⟩ := law_kinds g gf (Y := Y) (a := a) (c := c) (z4 := z4) (z5 := z5) (z := z) hK ds (B + 200) s2 (h2.mono (by omega)) (hB.mono (by omega))
    refine ⟨k :: ks, s3, comp_step (m1 := s2.mem Y) ?_ e3, fun q hq => ?_, by simp only [List.length_cons, h4], h5.mono (by simp only [List.length_cons]; omega)⟩
    · show evE _ _ f49m1e [a, .val (.ref 1), c, .val d, z4, z5] _ = _
      have hc : (1 : Int) + (i : Int) = ((1 + i : Nat) : Int) := by omega
      exists f49m1e, e1, hc
      exact e2
    · rcases List.mem_cons.mp hq with rfl | hq
      · omega
      · exact h3 q hq
theorem law_all (g : Ga T) (gx : Gx T) (gk : Gk T) (gf : Gf T) (gm : Gm T) {K : Nat} {a c z3 z5 : Slot} (hK : 111 ≤ K) : ∀ (ks : List Ki) (B : Nat) (s : Sp0) (Y : Mem) (z : Slot), (∀ k ∈ ks, k.deep ≤ 6) → s.At B → Far (B + 50000 * ks.length) →
    ∃ (s' : Sp0) (Y' : Mem) (z' : Slot), forL [] (kTg (.nm 4)) (kSs (evF T (K + 1)) T.con T.sub f49l2) (ks.map Ki.d) [a, .val (.ref 1), c, z3, z, z5] (s.mem Y) = .nx [a, .val (.ref 1), c, z3, z', z5] (s'.mem Y') ∧ s'.At (B + 50000 * ks.length)
  | [], B, s, Y, z, _, hs, _ => ⟨s, Y, z, forL_end rfl, hs⟩
  | k :: ks, B, s, Y, z, hd, hs, hB => by
    simp only [List.length_cons] at hB
    obtain ⟨s1, Y1, e1, h1⟩ := held g gx gk gf gm (K := K) (r := Y) (hd k List.mem_cons_self) (by omega) hs (hB.mono (by omega))
    obtain ⟨s2, Y2, e2, h2⟩ := refused g gx gk gf gm (K := K) (Y := Y1) (by omega) h1 (hB.mono (by omega))
    have body : kSs (evF T (K + 1)) T.con T.sub f49l2 [a, .val (.ref 1), c, z3, .val k.d, z5] (s.mem Y) = .nx [a, .val (.ref 1), c, z3, .val k.d, z5] (s2.mem Y2) := by
      show evSs _ _ _ f49l2 _ _ = _
      exists f49l2, e1, e2
    obtain ⟨s3, Y3, z', e3, h3⟩ := law_all g gx gk gf gm (a := a) (c := c) (z3 := z3) (z5 := z5) hK ks (B + 50000) s2 Y2 (.val k.d) (fun q hq => hd q (List.mem_cons_of_mem _ hq)) (h2.mono (by omega)) (hB.mono (by omega))
    refine ⟨s3, Y3, z', ?_, h3.mono (by simp only [List.length_cons]; omega)⟩
    rw [List.map_cons, forL_go rfl rfl body]
    exact e3
theorem ground_pl {w : List Nat} (h : isH w = true) : pl (groundD w) = true ∧ nl (groundD w) = true ∧ dep (groundD w) ≤ 20 ∧ sz (groundD w) ≤ 40000 := by
  simp only [isH, Bool.or_eq_true, beq_iff_eq] at h
  rcases h with rfl | rfl | rfl | rfl <;> exact ⟨rfl, rfl, by decide, by decide⟩
theorem law_heads (g : Ga T) (gx : Gx T) (gk : Gk T) (gf : Gf T) (gm : Gm T) {K : Nat} {Y : Mem} {a c z3 z4 : Slot} (hK : 94 ≤ K) : ∀ (ws : List (List Nat)) (B : Nat) (s : Sp0) (z : Slot), (∀ w ∈ ws, isH w = true) → s.At B → Far B →
    ∃ (s' : Sp0) (z' : Slot), forL [] (kTg (.nm 5)) (kSs (evF T (K + 1)) T.con T.sub f49l3) (ws.map .str) [a, .val (.ref 1), c, z3, z4, z] (s.mem Y) = .nx [a, .val (.ref 1), c, z3, z4, z'] (s'.mem Y) ∧ s'.At B
  | [], B, s, z, _, hs, _ => ⟨s, z, forL_end rfl, hs⟩
  | w :: ws, B, s, z, hw, hs, hB => by
    have h0 := hw w List.mem_cons_self
    obtain ⟨p1, p2, p3, p4⟩ := ground_pl h0
    obtain ⟨s1, e1, h1⟩ := asked g gx (K := K) (l := 10490) (cs := [.str w]) (ds := []) (due := groundD w) (r := Y) rfl rfl (by decide) (by decide) (fun ys m h => by
      simp only [loL] at h
      subst h
      obtain ⟨K, rfl⟩ : ∃ j, K = j + 3 := ⟨K - 3, by omega⟩
      have e := ground_of gk (K := K) (m := m) h0
      rw [List.map_cons, List.map_nil, List.cons_append, List.nil_append, evF_to gm.l7 rfl]
      exists f10490, e) p1 p2 p3 p4 (by omega) hs (hB.mono (by simp [szL]))
    have fg := fun m => f_ground (K := K) (m := m) gf (s := w)
    have body : kSs (evF T (K + 1)) T.con T.sub f49l3 [a, .val (.ref 1), c, z3, z4, .val (.str w)] (s.mem Y) = .nx [a, .val (.ref 1), c, z3, z4, .val (.str w)] (s1.mem Y) := by
      show evSs _ _ _ f49l3 _ _ = _
      exists f49l3, fg, e1
    obtain ⟨s2, z', e2, h2⟩ := law_heads g gx gk gf gm (Y := Y) (a := a) (c := c) (z3 := z3) (z4 := z4) hK ws B s1 (.val (.str w)) (fun v hv => hw v (List.mem_cons_of_mem _ hv)) (h1.mono (by simp [szL])) hB
    refine ⟨s2, z', ?_, h2⟩
    rw [List.map_cons, forL_go rfl rfl body]
    exact e2
theorem law_k01 (g : Ga T) (gx : Gx T) (gk : Gk T) (gf : Gf T) (gm : Gm T) (ns : List Int) (hl : ns.length ≤ 63) : ∃ m, evF T 114 49 [.dat (.lst (ns.map .int))] [] = .ok (.bl true) m := by
  obtain ⟨s0, e0, h0⟩ := start_ok g (K := 112) hl
  obtain ⟨y, s1, e1, hy, h1⟩ := pick g (k := 111) (r := []) h0 (by unfold Far; decide) (x := .lst [.str wNum, .str wAny, .str wTru]) (.inl rfl) (by simp) (by simp)
  obtain ⟨k0, rfl, hk0⟩ : ∃ k0 : Ki, y = k0.d ∧ k0.deep = 0 := by
    simp only [List.mem_cons, List.not_mem_nil, or_false] at hy
    rcases hy with rfl | rfl | rfl
    · exact ⟨.num, rfl, rfl⟩
    · exact ⟨.any, rfl, rfl⟩
    · exact ⟨.tru, rfl, rfl⟩
  have hl6 : (rangeD 0 6).length = 6 := by simp [rangeD]
  have hl4 : (rangeD 0 4).length = 4 := by simp [rangeD]
  obtain ⟨k, s2, z2, e2, h2, h3⟩ := law_deep g (K := 111) (Y := []) (a := .val (.lst (ns.map .int))) (z4 := .no) (z5 := .no) (rangeD 0 6) 1 s1 k0 .no h1 (by unfold Far; rw [hl6]; decide)
  rw [hl6] at h2 h3
  have hk : k.deep = 6 := by omega
  obtain ⟨ks, s3, e3, h4, h5, h6⟩ := law_kinds g gf (K := 112) (Y := []) (a := .val (.lst (ns.map .int))) (c := .val k.d) (z := z2) (z4 := .no) (z5 := .no) (by decide) (rangeD 0 4) 7 s2 h3 (by unfold Far; rw [hl4]; decide)
  rw [hl4] at h5 h6
  obtain ⟨s4, Y4, z4, e4, h7⟩ := law_all g gx gk gf gm (K := 112) (a := .val (.lst (ns.map .int))) (c := .val k.d) (z3 := z2) (z5 := .no) (by decide) (k :: ks) (7 + 200 * 4) s3 [] .no (fun q hq => by
    rcases List.mem_cons.mp hq with rfl | hq
    · omega
    · exact h4 q hq) h6 (by unfold Far; rw [List.length_cons, h5]; decide)
  rw [List.length_cons, h5] at h7
  obtain ⟨s5, z5, e5, h8⟩ := law_heads g gx gk gf gm (K := 112) (Y := Y4) (a := .val (.lst (ns.map .int))) (c := .val k.d) (z3 := z2) (z4 := z4) (by decide) [wNum, wTru, wFun, wPair] _ s4 .no (fun w hw => by
    simp only [List.mem_cons, List.not_mem_nil, or_false] at hw
    rcases hw with rfl | rfl | rfl | rfl <;> rfl) h7 (by unfold Far; decide)
  have hcat : ∀ m, catC m (.lst [k.d]) (.lst (ks.map Ki.d)) = some (.lst ((k :: ks).map Ki.d)) := fun m => by
    show (if 1 + (ks.map Ki.d).length ≤ lineMax then some (Cell.lst ([k.d] ++ ks.map Ki.d)) else none) = _
    rw [if_pos (by rw [List.length_map, h5]; unfold lineMax; decide)]
    rfl
  have r6 := rngS_ok (show (0 : Int) ≤ 6 by decide) (by decide)
  have r4 := rngS_ok (show (0 : Int) ≤ 4 by decide) (by decide)
  rw [evF_to gm.h49 rfl]
  exists f49
  rw [show evF T 113 0 _ _ = _ from e0]
  exists K_tup
  rw [show evF T 113 38 _ _ = _ from e1]
  exists r6
  rw [show forL _ _ _ (rangeD 0 6) _ _ = _ from e2]
  exists r4
  rw [compR_ok (by rw [hl4]; unfold lineMax; decide) e3]
  exists hcat, itS, guardOf
  rw [show forL _ _ _ (k.d :: List.map Ki.d ks) _ _ = _ from e4]
  exists itS, guardOf
  rw [show forL _ _ _ [D.str [110, 117, 109], D.str [116, 114, 117, 116, 104], D.str [102, 117, 110], D.str [112, 97, 105, 114]] _ _ = _ from e5]
  have d7 : (Ki.fn k .num).deep = 7 := by simp only [Ki.deep]; omega
  have ik : evF T 113 19 [.dat (.tup [.str wFun, k.d, .str wNum])] (s5.mem Y4) = .ok (.bl false) (s5.mem Y4) := by
    have := is_kind (K := 112) gk (rd_lo (m := s5.mem Y4) (Ki.fn k .num).d (Ki.fn k .num).d (Ki.fn k .num).pl_d (by have := Ki.sz6 (k := Ki.fn k .num) (n := 7) (by omega) (by decide); omega) (lo_self _)) (by decide)
    rw [kindOf_lo (Ki.fn k .num) 6 _ (lo_self _), if_neg (by omega)] at this
    exact this
  have sm := fun m => same_pl (m := m) g (K := 113) (d := .bl false) rfl (by decide) (by decide)
  have sp := fun m => same_pl (m := m) g (K := 113) (d := .tup [.str wPair, .str wAny, .str wAny]) rfl (by decide) (by decide)
  have gp : ∀ m, evF T 113 25 [.dat (.str wPair)] m = .ok (.tup [.str wPair, .str wAny, .str wAny]) m := fun m => ground_of gk (K := 111) rfl
  exists ik, sm, perm1, gp, sp
  exact ⟨_, rfl⟩
end
end Ev
/-! G01: the law's text has what the plain proof asks -/
namespace K01
open Ev Fs
theorem ga : Ga txt := ⟨rfl, rfl, rfl, rfl, rfl, rfl, rfl, rfl, rfl, rfl, rfl⟩
theorem gk : Gk txt := ⟨rfl, rfl, rfl, rfl, rfl, rfl, rfl, rfl, rfl, rfl, rfl, rfl, rfl, rfl, rfl, rfl, rfl, rfl, rfl, rfl⟩
theorem gf : Gf txt := ⟨rfl, rfl, rfl, rfl, rfl, rfl⟩
theorem gm : Gm txt := ⟨rfl, rfl, rfl, rfl, rfl, rfl, rfl, rfl, rfl, rfl, rfl, rfl⟩
theorem two (a d : Nat) : List.contains [a, 0] d = (d == a || d == 0) := by
  simp only [List.contains, List.elem, Bool.or_false]
  cases d == a <;> cases d == 0 <;> rfl
theorem gx : Gx txt := ⟨rfl, rfl, rfl, fun d => two 10 d, fun d => two 12 d, fun d => two 24 d⟩
theorem law_holds (ns : List Int) (h1 : ns.length ≤ 63) (h2 : ∀ z ∈ ns, PySem.Builtin.Int.intBits z ≤ 1048576) : ∃ m, Ev.evF K01.txt 114 49 [.dat (.lst (ns.map .int))] [] = .ok (.bl true) m := law_k01 ga gx gk gf gm ns h1
end K01
theorem PySem.Challenge.cw_onecoat_k01_kinds_and_places_holds : PySem.Challenge.rw_onecoat_k01_kinds_and_places.Holds := by
  w_on; o_law
  refine HandSHeadRun.head_any (r := OpenLaw.row PySem.Challenge.rw_onecoat_k01_kinds_and_places) (q := view (OpenLaw.row PySem.Challenge.rw_onecoat_k01_kinds_and_places).prog [65]) (H := K01h.hk) (ob := K01h.ob) (M := 12000) (loose := K01h.loose) (d := HandSHeadRun.topDef (OpenLaw.row PySem.Challenge.rw_onecoat_k01_kinds_and_places).prog 65) (kwd := []) K01h.ob_eq
    (by kernel_rfl) (fun s => by kernel_rfl) K01h.run (by kernel_rfl) (by kernel_rfl) (by kernel_rfl) (by rfl) (by first | assumption | decide +kernel) (by decide +kernel) ⟨rfl, rfl, rfl, rfl, rfl, by decide +kernel⟩ ?hw ?hc
  case hw => w_witness2
  case hc =>
    exact Ev.law_walkE (l := PySem.Challenge.rw_onecoat_k01_kinds_and_places) (t := K01h.tx) (lid := 49) (k := 114) (x := "script") (by rfl) (by decide) (by kernel_rfl) (by kernel_rfl) (by kernel_rfl) (by kernel_rfl) (by kernel_rfl) ⟨by kernel_rfl, by decide, by decide⟩ K01h.okB K01h.eqs K01.law_holds
