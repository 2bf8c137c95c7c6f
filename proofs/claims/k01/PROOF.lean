import PyProof.Rows.All
import HandS.Conv
import HandS.Exc
import HandS.ExcField
import HandS.ExcIs
import HandS.FStr
import HandS.Flow
import HandS.ForExc
import HandS.ForMost
import HandS.HeadWalk
import HandS.Iter
import HandS.SortInts
import HandS.Text
import HandS.TryOnly
import HandS.TupAny
import HandS.TupLe
import HandS.TupMul
import HandS.WordsExc
import KE.GoesEnum
import KE.KDictCopyH
import KE.KDictKeyed
import KE.KDictSum
import KE.KExcSuper
import KE.SortData
import PyProof.P3In
import PyProof.Rows.TupAdd
import PySem.Challenge.RW_solverhall_k01_clauses_and_problems
set_option Elab.async false
set_option autoImplicit false
set_option linter.all false
/-! FL, part A: a small functional semantics of the Python subset of the laws. Values D, a heap of cells Hs, locals Ls, results R. -/
namespace FL
open PySem

/-- a value: data without the heap, or the place of a cell -/
inductive D where
  | non | bl (b : Bool) | int (i : Int) | str (s : Str) | tup (xs : List D) | loc (n : Nat)
deriving Inhabited

inductive Cell where
  /-- a list -/
  | lst (xs : List D)
  /-- a list that may be read alone (the script) -/
  | flst (xs : List D)
  /-- a dict, in the order of its keys; walked: it may be read alone -/
  | dict (kvs : List (D × D))
  | ldict (kvs : List (D × D))
  /-- an instance of a class of the text -/
  | obj (c : Str) (fs : List (Str × D))
deriving Inhabited

abbrev Hs := List Cell
abbrev Ls := List (Option D)

inductive R (α : Type) where
  | ok (a : α) (h : Hs)
  | exc (c : Str) (fs : List (Str × D)) (h : Hs)
  | bad

namespace R
variable {α β : Type}
def bind (r : R α) (f : α → Hs → R β) : R β := match r with
  | .ok a h => f a h
  | .exc c v h => .exc c v h
  | .bad => .bad
@[simp] theorem bind_ok (a : α) (h : Hs) (f : α → Hs → R β) : (R.ok a h).bind f = f a h := rfl
@[simp] theorem bind_exc (c : Str) (v : List (Str × D)) (h : Hs) (f : α → Hs → R β) : (R.exc c v h : R α).bind f = .exc c v h := rfl
@[simp] theorem bind_bad (f : α → Hs → R β) : (R.bad : R α).bind f = .bad := rfl
@[simp] theorem bind_ite (p : Prop) [Decidable p] (a b : R α) (f : α → Hs → R β) : (if p then a else b).bind f = if p then a.bind f else b.bind f := by split <;> rfl
/-- .. where an exception is not served -/
def must (r : R α) (f : α → Hs → R β) : R β := match r with
  | .ok a h => f a h
  | _ => .bad
@[simp] theorem must_ok (a : α) (h : Hs) (f : α → Hs → R β) : (R.ok a h).must f = f a h := rfl
@[simp] theorem must_exc (c : Str) (v : List (Str × D)) (h : Hs) (f : α → Hs → R β) : (R.exc c v h : R α).must f = .bad := rfl
@[simp] theorem must_bad (f : α → Hs → R β) : (R.bad : R α).must f = .bad := rfl
@[simp] theorem must_ite (p : Prop) [Decidable p] (a b : R α) (f : α → Hs → R β) : (if p then a else b).must f = if p then a.must f else b.must f := by split <;> rfl
end R

/-- a statement's end -/
inductive RS where
  | nx (ls : Ls) (h : Hs)
  | bk (ls : Ls) (h : Hs)
  | ct (ls : Ls) (h : Hs)
  | rt (d : D) (h : Hs)
  | exc (c : Str) (fs : List (Str × D)) (ls : Ls) (h : Hs)
  | bad

/-! ### the places in a value lie below n -/
mutual
def D.closed (n : Nat) : D → Bool
  | .non => true
  | .bl _ => true
  | .int _ => true
  | .str _ => true
  | .tup xs => D.closedL n xs
  | .loc k => decide (k < n)
def D.closedL (n : Nat) : List D → Bool
  | [] => true
  | x :: xs => D.closed n x && D.closedL n xs
end
@[simp] theorem closed_non (n : Nat) : D.closed n .non = true := rfl
@[simp] theorem closed_bl (n : Nat) (b : Bool) : D.closed n (.bl b) = true := rfl
@[simp] theorem closed_int (n : Nat) (i : Int) : D.closed n (.int i) = true := rfl
@[simp] theorem closed_str (n : Nat) (s : Str) : D.closed n (.str s) = true := rfl
@[simp] theorem closed_tup (n : Nat) (xs : List D) : D.closed n (.tup xs) = D.closedL n xs := by rw [D.closed]
@[simp] theorem closed_loc (n k : Nat) : D.closed n (.loc k) = decide (k < n) := by rw [D.closed]
@[simp] theorem closedL_nil (n : Nat) : D.closedL n [] = true := rfl
@[simp] theorem closedL_cons (n : Nat) (x : D) (xs : List D) : D.closedL n (x :: xs) = (D.closed n x && D.closedL n xs) := by rw [D.closedL]
def Cell.closed (n : Nat) : Cell → Bool
  | .lst xs => D.closedL n xs
  | .flst xs => D.closedL n xs
  | .dict kvs => D.closedL n (kvs.map (·.1)) && D.closedL n (kvs.map (·.2))
  | .ldict kvs => D.closedL n (kvs.map (·.1)) && D.closedL n (kvs.map (·.2))
  | .obj _ fs => D.closedL n (fs.map (·.2))

/-! ### data as the library's -/
mutual
def D.pyW (lk : Nat → Option PyData) : D → Option PyData
  | .non => some .none
  | .bl b => some (.bool b)
  | .int i => some (.int i)
  | .str s => some (.str s)
  | .tup xs => (D.pyWL lk xs).map .tuple
  | .loc n => lk n
def D.pyWL (lk : Nat → Option PyData) : List D → Option (List PyData)
  | [] => some []
  | x :: xs => match D.pyW lk x, D.pyWL lk xs with
    | some a, some b => some (a :: b)
    | _, _ => none
end
def lkL (h : Hs) : Nat → Nat → Option PyData
  | 0, _ => none
  | k + 1, n => match h[n]? with
    | some (.lst xs) => (D.pyWL (lkL h k) xs).map .list
    | some (.flst xs) => (D.pyWL (lkL h k) xs).map .list
    | _ => none
def D.py (h : Hs) (d : D) : Option PyData := D.pyW (lkL h 8) d
def pyL (h : Hs) (xs : List D) : Option (List PyData) := D.pyWL (lkL h 8) xs
mutual
def D.key : D → Option NestedKey
  | .non => some .none
  | .bl b => some (.num (if b = true then 1 else 0))
  | .int i => some (.num i)
  | .str s => some (.text s)
  | .tup xs => (D.keyL xs).map .tup
  | .loc _ => none
def D.keyL : List D → Option (List NestedKey)
  | [] => some []
  | x :: xs => match D.key x, D.keyL xs with
    | some a, some b => some (a :: b)
    | _, _ => none
end

/-! ### a list, a dict at a place -/
def lstAt (h : Hs) (n : Nat) : Option (List D) := match h[n]? with
  | some (.lst xs) => some xs
  | some (.flst xs) => some xs
  | _ => none
def mlstAt (h : Hs) (n : Nat) : Option (List D) := match h[n]? with
  | some (.lst xs) => some xs
  | _ => none
def dictAt (h : Hs) (n : Nat) : Option (List (D × D)) := match h[n]? with
  | some (.dict kvs) => some kvs
  | some (.ldict kvs) => some kvs
  | _ => none
def mdictAt (h : Hs) (n : Nat) : Option (List (D × D)) := match h[n]? with
  | some (.dict kvs) => some kvs
  | _ => none
/-- a key that is served: an int, a text -/
def scalK : D → Option L2.Key
  | .int i => some (.inl i)
  | .str s => some (.inr s)
  | _ => none
def keyOk (d : D) : Bool := (scalK d).isSome
def dfind (k : NestedKey) (kvs : List (D × D)) : Option D := (kvs.find? fun p => decide (p.1.key = some k)).map (·.2)
def dput (k : NestedKey) (kd v : D) (kvs : List (D × D)) : List (D × D) :=
  if (kvs.any fun p => decide (p.1.key = some k)) = true then kvs.map (fun p => if p.1.key = some k then (p.1, v) else p) else kvs ++ [(kd, v)]
def ddrop (k : NestedKey) (kvs : List (D × D)) : List (D × D) := kvs.filter fun p => decide (p.1.key ≠ some k)

/-! ### truth, comparisons -/
def truth (h : Hs) : D → Option Bool
  | .non => some false
  | .bl b => some b
  | .int i => some (i != 0)
  | .str s => if s.length ≤ sizeLine then some ((s.length : Int) != 0) else none
  | .tup xs => some (!xs.isEmpty)
  | .loc n => match lstAt h n with
    | some xs => some (!xs.isEmpty)
    | none => match mdictAt h n with
      | some kvs => some (!kvs.isEmpty)
      | none => none
def eqD (h : Hs) (a b : D) : Option Bool := match a.py h, b.py h with
  | some x, some y => if SeqAt.shaped x = true ∧ SeqAt.shaped y = true then some (PyData.eqv x y) else none
  | _, _ => none
def inL (h : Hs) (a : D) (xs : List D) : Option Bool := match a.py h, pyL h xs with
  | some x, some ys => if SeqAt.shaped x = true ∧ SeqAt.shaped (.list ys) = true then some (ys.any fun y => PyData.eqv y x) else none
  | _, _ => none
def inD (h : Hs) (a b : D) : Option Bool := match b with
  | .tup xs => inL h a xs
  | .loc n => match lstAt h n with
    | some xs => inL h a xs
    | none => match dictAt h n, a.key with
      | some kvs, some k => if keyOk a = true then some (dfind k kvs).isSome else none
      | _, _ => none
  | _ => none
def ltD : D → D → Option Bool
  | .int i, .int j => some (decide (i < j))
  | .str s, .str t => some (decide (s.cps.toList < t.cps.toList))
  | _, _ => none
def leD : D → D → Option Bool
  | .int i, .int j => some (decide (i ≤ j))
  | .str s, .str t => some (!decide (t.cps.toList < s.cps.toList))
  | _, _ => none
def isNon : D → Bool
  | .non => true
  | _ => false
def cmpD (op : CmpOp) (h : Hs) (a b : D) : Option Bool := match op with
  | .Eq => eqD h a b
  | .NotEq => (eqD h a b).map (!·)
  | .Lt => ltD a b
  | .LtE => leD a b
  | .Gt => ltD b a
  | .GtE => leD b a
  | .In => inD h a b
  | .NotIn => (inD h a b).map (!·)
  | .Is => if isNon b then some (isNon a) else none
  | .IsNot => if isNon b then some (!isNon a) else none

/-- an optional answer as a result -/
def R.ofO {α : Type} (h : Hs) : Option α → R α
  | some a => .ok a h
  | none => .bad
@[simp] theorem ofO_some {α : Type} (h : Hs) (a : α) : R.ofO h (some a) = .ok a h := rfl
@[simp] theorem ofO_none {α : Type} (h : Hs) : R.ofO h (none : Option α) = .bad := rfl

/-! ### operators -/
def mulOk (i j : Int) : Prop := (-(2 ^ 64) < i ∧ i < 2 ^ 64) ∨ (-(2 ^ 64) < j ∧ j < 2 ^ 64)
noncomputable instance (i j : Int) : Decidable (mulOk i j) := Classical.propDecidable _
def powOk (i j : Int) : Prop := 0 ≤ j ∧ j ≤ 1000000 ∧ i.natAbs < 2 ^ 64
noncomputable instance (i j : Int) : Decidable (powOk i j) := Classical.propDecidable _
def newL (h : Hs) (xs : List D) : R D := .ok (.loc h.length) (h ++ [.lst xs])
noncomputable def binI (op : Operator) (i j : Int) : Option Int := match op with
  | .Add => some (i + j)
  | .Sub => some (i - j)
  | .Mult => if mulOk i j then some (i * j) else none
  | .FloorDiv => if j ≠ 0 ∧ j.natAbs < 1073741824 then some (i.fdiv j) else none
  | .Mod => if j ≠ 0 then some (i.fmod j) else none
  | .Pow => if powOk i j then some (i ^ j.toNat) else none
  | .LShift => if powOk i j then some (i * 2 ^ j.toNat) else none
  | .RShift => if 0 ≤ j then some (i / 2 ^ j.toNat) else none
  | .BitAnd => some (Builtin.bitAnd i j)
  | .BitOr => some (Builtin.bitOr i j)
  | .BitXor => some (Builtin.bitXor i j)
  | _ => none
def repL (xs : List D) (n : Int) : List D := (List.replicate n.toNat xs).flatten
noncomputable def binD (op : Operator) (a b : D) (h : Hs) : R D := match a, b with
  | .int i, .int j => R.ofO h ((binI op i j).map .int)
  | .tup xs, .tup ys => match op with
    | .Add => if xs.length + ys.length ≤ sizeLine then .ok (.tup (xs ++ ys)) h else .bad
    | _ => .bad
  | .str s, .str t => match op with
    | .Add => if s.length + t.length ≤ sizeLine then .ok (.str (s ++ t)) h else .bad
    | _ => .bad
  | .tup xs, .int n => match op with
    | .Mult => if 2 ≤ n ∧ n ≤ 1000 ∧ xs.length ≤ 1000 ∧ xs.isEmpty = false then .ok (.tup (repL xs n)) h else .bad
    | _ => .bad
  | .loc m, .loc n => match op, mlstAt h m, mlstAt h n with
    | .Add, some xs, some ys => if xs.length + ys.length ≤ sizeLine then newL h (xs ++ ys) else .bad
    | _, _, _ => .bad
  | .loc m, .int n => match op, mlstAt h m with
    | .Mult, some xs => if -(2 ^ 63) ≤ n ∧ n < 2 ^ 63 ∧ xs.length * n.toNat ≤ sizeLine then newL h (repL xs n) else .bad
    | _, _ => .bad
  | _, _ => .bad
def negD (a : D) (h : Hs) : R D := match a with
  | .int i => .ok (.int (-i)) h
  | _ => .bad
/-- the part from lo to hi -/
def cut {α : Type} (xs : List α) (lo hi : Option Int) : List α := (xs.drop (HT.sIx xs.length 0 lo)).take (HT.sIx xs.length xs.length hi - HT.sIx xs.length 0 lo)
def idxD (a i : D) (h : Hs) : R D := match a with
  | .tup xs => match i with
    | .int j => R.ofO h (L2.atI xs j)
    | _ => .bad
  | .loc n => match lstAt h n with
    | some xs => match i with
      | .int j => R.ofO h (L2.atI xs j)
      | _ => .bad
    | none => match dictAt h n, i.key with
      | some kvs, some k => if keyOk i = true then R.ofO h (dfind k kvs) else .bad
      | _, _ => .bad
  | _ => .bad
def sliceD (a : D) (lo hi : Option Int) (h : Hs) : R D := match a with
  | .tup xs => .ok (.tup (cut xs lo hi)) h
  | .loc n => match lstAt h n with
    | some xs => newL h (cut xs lo hi)
    | none => .bad
  | _ => .bad
/-- o[i] = v -/
def setIdx (o i v : D) (h : Hs) : R Unit := match o with
  | .loc n => match h[n]? with
    | some (.lst xs) => match i with
      | .int j => match L2.ixN xs.length j with
        | some k => .ok () (h.set n (.lst (xs.set k v)))
        | none => .bad
      | _ => .bad
    | some (.dict kvs) => match i.key with
      | some k => if keyOk i = true ∧ kvs.length < sizeLine then .ok () (h.set n (.dict (dput k i v kvs))) else .bad
      | none => .bad
    | _ => .bad
  | _ => .bad
/-- o.f, o.f = v -/
def getF (o : D) (f : Str) (h : Hs) : R D := match o with
  | .loc n => match h[n]? with
    | some (.obj _ fs) => R.ofO h (fs.lookup f)
    | _ => .bad
  | _ => .bad
def putF (f : Str) (v : D) : List (Str × D) → List (Str × D)
  | [] => [(f, v)]
  | (g, w) :: r => if g = f then (g, v) :: r else (g, w) :: putF f v r
def setF (o : D) (f : Str) (v : D) (h : Hs) : R Unit := match o with
  | .loc n => match h[n]? with
    | some (.obj c fs) => if fs.length < 1000 then .ok () (h.set n (.obj c (putF f v fs))) else .bad
    | _ => .bad
  | _ => .bad

/-! ### built-in functions, methods -/
inductive Bt where
  | len | abs | int | tuple | list | all | any | sum | max | min | sorted | lrange | trange
inductive Bm where
  | append | extend | pop
def bools : List D → Option (List Bool)
  | [] => some []
  | .bl b :: r => (bools r).map (b :: ·)
  | _ :: _ => none
def intsD : List D → Option (List Int)
  | [] => some []
  | .int b :: r => (intsD r).map (b :: ·)
  | _ :: _ => none
/-- the items of a list, a tuple -/
def itemsD (h : Hs) : D → Option (List D)
  | .tup xs => some xs
  | .loc n => lstAt h n
  | _ => none
open Classical in
/-- the sorted list -/
noncomputable def sortD (h : Hs) (ds : List D) : Option (List D) := match pyL h ds with
  | some ys => if PySem.W.AllAlike ys ∧ PySem.W.Sortable ys ∧ ∀ y ∈ ys, y.depth ≤ 64 then some (((ds.zip ys).mergeSort (PySem.W.dataLe false Prod.snd)).map Prod.fst) else none
  | none => none
def bigOk (lo hi : Int) : Prop := -(2 ^ 62) ≤ lo ∧ lo < 2 ^ 62 ∧ -(2 ^ 62) ≤ hi ∧ hi < 2 ^ 62 ∧ (hi - lo).toNat ≤ 2 ^ 24
noncomputable instance (lo hi : Int) : Decidable (bigOk lo hi) := Classical.propDecidable _
def rangeD (lo hi : Int) : List D := (List.range (hi - lo).toNat).map fun i => .int (lo + (i : Nat))
noncomputable def btD (b : Bt) (vs : List D) (h : Hs) : R D := match b, vs with
  | .len, [d] => match itemsD h d with
    | some xs => .ok (.int xs.length) h
    | none => match d with
      | .loc n => R.ofO h ((dictAt h n).map fun kvs => .int kvs.length)
      | .str s => if s.length ≤ sizeLine then .ok (.int s.length) h else .bad
      | _ => .bad
  | .abs, [.int i] => .ok (.int (if i < 0 then -i else i)) h
  | .int, [.int i] => .ok (.int i) h
  | .tuple, [d] => R.ofO h ((itemsD h d).map .tup)
  | .list, [d] => match itemsD h d with
    | some xs => newL h xs
    | none => .bad
  | .all, [.loc n] => R.ofO h (((lstAt h n).bind bools).map fun bs => .bl (bs.all id))
  | .any, [.loc n] => R.ofO h (((lstAt h n).bind bools).map fun bs => .bl (bs.any id))
  | .sum, [.loc n] => R.ofO h (((lstAt h n).bind intsD).map fun is => .int is.sum)
  | .sorted, [.loc n] => match (lstAt h n).bind (sortD h) with
    | some ds => newL h ds
    | none => .bad
  | .lrange, [.int j] => if bigOk 0 j then newL h (rangeD 0 j) else .bad
  | .lrange, [.int i, .int j] => if bigOk i j then newL h (rangeD i j) else .bad
  | .trange, [.int j] => if bigOk 0 j then .ok (.tup (rangeD 0 j)) h else .bad
  | .trange, [.int i, .int j] => if bigOk i j then .ok (.tup (rangeD i j)) h else .bad
  | .max, [.int i, .int j] => .ok (.int (if j > i then j else i)) h
  | .min, [.int i, .int j] => .ok (.int (if j < i then j else i)) h
  | _, _ => .bad
def bmD (m : Bm) (o : D) (vs : List D) (h : Hs) : R D := match o with
  | .loc n => match h[n]? with
    | some (.lst xs) => match m, vs with
      | .append, [d] => if xs.length < sizeLine then .ok .non (h.set n (.lst (xs ++ [d]))) else .bad
      | .extend, [.loc k] => match mlstAt h k with
        | some ys => if xs.length + ys.length ≤ sizeLine then .ok .non (h.set n (.lst (xs ++ ys))) else .bad
        | none => .bad
      | .pop, [] => match xs[xs.length - 1]? with
        | some y => .ok y (h.set n (.lst xs.dropLast))
        | none => .bad
      | .pop, [.int i] => match seqIndex? i xs.length with
        | some k => match xs[k]? with
          | some y => if -(2 ^ 63) ≤ i ∧ i < 2 ^ 63 then .ok y (h.set n (.lst (xs.eraseIdx k))) else .bad
          | none => .bad
        | none => .bad
      | _, _ => .bad
    | _ => .bad
  | _ => .bad

/-- a list that may be written -/
def isLst (h : Hs) : D → Bool
  | .loc n => (mlstAt h n).isSome
  | _ => false
/-! ### what is left behind a call -/
/-- every cell of h0 is in h as it was, or speaks of the cells of h0 alone -/
def OldOk (h0 h : Hs) : Prop := ∀ i, i < h0.length → h[i]? = h0[i]? ∨ ∃ c, h[i]? = some c ∧ c.closed h0.length = true
open Classical in
noncomputable def gc (h0 : Hs) (d : D) (h : Hs) : R D :=
  if OldOk h0 h then
    if d.closed h0.length = true then .ok d (h.take h0.length)
    else match d with
      | .loc k => match h[k]? with
        | some c => if c.closed h0.length = true ∧ h0.length ≤ h.length then .ok (.loc h0.length) (h.take h0.length ++ [c]) else .ok d h
        | none => .ok d h
      | _ => .ok d h
  else .ok d h
open Classical in
noncomputable def gcR (h0 : Hs) (r : R D) : R D := match r with
  | .ok d h => gc h0 d h
  | .exc c fs h => if OldOk h0 h ∧ D.closedL h0.length (fs.map (·.2)) = true then .exc c fs (h.take h0.length) else .exc c fs h
  | .bad => .bad

/-! ### syntax -/
/-- a target of names -/
inductive FT where
  | name (i : Nat) | tup (ts : FT) | tnil | tcons (t ts : FT)
inductive FE where
  | var (i : Nat) | cst (d : D) | glob (x : Str)
  | bin (op : Operator) (a b : FE) | neg (a : FE) | not (a : FE)
  | cmp (op : CmpOp) (a b : FE) | chain (op op' : CmpOp) (a b c : FE)
  | and (a b : FE) | or (a b : FE) | ite (c a b : FE)
  | tup (as : FE) | lst (as : FE) | anil | acons (a as : FE)
  | idx (a i : FE) | slice (a lo hi : FE) | nopart | part (e : FE)
  | call (f : Str) (as : FE) | new (c : Str) (as : FE) | meth (m : Str) (o as : FE) | attr (o : FE) (f : Str)
  | bcall (b : Bt) (as : FE) | bmeth (m : Bm) (o as : FE)
  /-- a list comprehension: its own slots, target, what it walks, test, element -/
  | comp (own : List Nat) (t : FT) (it : FE) (c : FE) (e : FE)
  /-- what is walked -/
  | iseq (e : FE) | irange (as : FE) | ienum (as : FE) | izip (as : FE)
  /-- {}, sorted(e.values()) -/
  | dnil | svals (e : FE)
inductive FG where
  | tgt (t : FT) | sub (o i : FE) | attr (o : FE) (f : Str)
/-- what an except clause returns: e.code; e.code if isinstance(e, S) else .. -/
inductive FX where
  | code | codeIs (S : Str)
inductive FS where
  | pass | brk | cont
  | expr (e : FE) | asg (g : FG) (e : FE) | par (i j : Nat) (a b : FE) | aug (i : Nat) (op : Operator) (e : FE)
  | ret (e : FE) | retN | ite (c : FE) (a b : FS)
  /-- for: the slots that are forgotten behind each turn -/
  | for_ (t : FT) (it : FE) (body : FS) (forget : List Nat)
  | while_ (c : FE) (body : FS) (forget : List Nat)
  | raise (c : Str) (as : FE)
  /-- try: body; except c as (slot i): return x -/
  | try_ (body : FS) (c : Str) (i : Nat) (x : FX)
  | snil | scons (s ss : FS)

/-! ### semantics -/
structure Cfg where
  /-- a def of the text; a method is C.m -/
  call : Str → List D → Hs → R D
  /-- the module's constants -/
  glob : Str → Option D
  /-- the most turns of a while -/
  big : Nat

def wipe (ls : Ls) : List Nat → Ls
  | [] => ls
  | v :: vs => (wipe ls vs).set v none
mutual
def asgT : FT → D → Ls → Option Ls
  | .name i, d, ls => if i < ls.length then some (ls.set i (some d)) else none
  | .tup ts, d, ls => match d with
    | .tup xs => asgTs ts xs ls
    | _ => none
  | .tnil, _, _ => none
  | .tcons _ _, _, _ => none
def asgTs : FT → List D → Ls → Option Ls
  | .tnil, xs, ls => match xs with
    | [] => some ls
    | _ => none
  | .tcons t ts, xs, ls => match xs with
    | x :: xs => (asgT t x ls).bind fun ls' => asgTs ts xs ls'
    | [] => none
  | .name _, _, _ => none
  | .tup _, _, _ => none
end
/-- the cells at ns are as they were -/
def same (ns : List Nat) (h0 h : Hs) : Prop := ∀ n ∈ ns, h[n]? = h0[n]?
open Classical in
/-- the turns of a comprehension -/
noncomputable def compL (ns : List Nat) (h0 : Hs) (step : D → Hs → R (Option D)) : List D → Hs → R (List D)
  | [], h => .ok [] h
  | x :: xs, h => (step x h).must fun y h1 => if same ns h0 h1 then (compL ns h0 step xs h1).must fun ys h2 => .ok (match y with | some y => y :: ys | none => ys) h2 else .bad
def enumFrom (n : Nat) : List D → List D
  | [] => []
  | x :: xs => .tup [.int n, x] :: enumFrom (n + 1) xs
def zipD : List D → List D → List D
  | x :: xs, y :: ys => .tup [x, y] :: zipD xs ys
  | _, _ => []
def small (i : Int) : Prop := -(2 ^ 62) ≤ i ∧ i < 2 ^ 62
noncomputable instance (i : Int) : Decidable (small i) := Classical.propDecidable _
/-- the cell of a list that is walked -/
def placeD : D → List Nat
  | .loc n => [n]
  | _ => []
def enumI (vs : List D) (h : Hs) : R (List D × List Nat) := match vs with
  | [x] => R.ofO h ((itemsD h x).map fun xs => (enumFrom 0 xs, placeD x))
  | _ => .bad
def zipI (vs : List D) (h : Hs) : R (List D × List Nat) := match vs with
  | [x, y] => match itemsD h x, itemsD h y with
    | some xs, some ys => .ok (zipD xs ys, placeD x ++ placeD y) h
    | _, _ => .bad
  | _ => .bad
/-- sorted(d.values()) -/
noncomputable def svalsD (x : D) (h : Hs) : R D := match x with
  | .loc n => match (mdictAt h n).bind fun kvs => sortD h (kvs.map (·.2)) with
    | some ds => newL h ds
    | none => .bad
  | _ => .bad
mutual
noncomputable def ev (Γ : Cfg) : FE → Ls → Hs → R D
  | .var i, ls, h => match ls[i]? with
    | some (some d) => .ok d h
    | _ => .bad
  | .cst d, _, h => .ok d h
  | .glob x, _, h => R.ofO h (Γ.glob x)
  | .bin op a b, ls, h => (ev Γ a ls h).bind fun x h1 => (ev Γ b ls h1).bind fun y h2 => binD op x y h2
  | .neg a, ls, h => (ev Γ a ls h).bind negD
  | .not a, ls, h => (ev Γ a ls h).bind fun x h1 => R.ofO h1 ((truth h1 x).map fun b => .bl (!b))
  | .cmp op a b, ls, h => (ev Γ a ls h).bind fun x h1 => (ev Γ b ls h1).bind fun y h2 => R.ofO h2 ((cmpD op h2 x y).map .bl)
  | .chain op op' a b c, ls, h => (ev Γ a ls h).bind fun x h1 => (ev Γ b ls h1).bind fun y h2 => (R.ofO h2 (cmpD op h2 x y)).bind fun k h2 => if k = true then
      (ev Γ c ls h2).bind fun z h3 => R.ofO h3 ((cmpD op' h3 y z).map .bl) else .ok (.bl false) h2
  | .and a b, ls, h => (ev Γ a ls h).bind fun x h1 => (R.ofO h1 (truth h1 x)).bind fun k h1 => if k = true then ev Γ b ls h1 else .ok x h1
  | .or a b, ls, h => (ev Γ a ls h).bind fun x h1 => (R.ofO h1 (truth h1 x)).bind fun k h1 => if k = true then .ok x h1 else ev Γ b ls h1
  | .ite c a b, ls, h => (ev Γ c ls h).bind fun x h1 => (R.ofO h1 (truth h1 x)).bind fun k h1 => if k = true then ev Γ a ls h1 else ev Γ b ls h1
  | .tup as, ls, h => (evs Γ as ls h).bind fun xs h1 => if xs.length ≤ sizeLine then .ok (.tup xs) h1 else .bad
  | .lst as, ls, h => (evs Γ as ls h).bind fun xs h1 => if xs.length ≤ sizeLine then newL h1 xs else .bad
  | .anil, _, _ => .bad
  | .acons _ _, _, _ => .bad
  | .idx a i, ls, h => (ev Γ a ls h).bind fun x h1 => (ev Γ i ls h1).bind fun y h2 => idxD x y h2
  | .slice a lo hi, ls, h => (ev Γ a ls h).bind fun x h1 => (evPart Γ lo ls h1).bind fun l h2 => (evPart Γ hi ls h2).bind fun u h3 => sliceD x l u h3
  | .nopart, _, _ => .bad
  | .part _, _, _ => .bad
  | .call f as, ls, h => gcR h ((evs Γ as ls h).bind fun xs h1 => Γ.call f xs h1)
  | .new c as, ls, h => (evs Γ as ls h).bind fun xs h1 => (Γ.call (c ++ ".__init__") (.loc h1.length :: xs) (h1 ++ [.obj c []])).bind fun _ h2 => .ok (.loc h1.length) h2
  | .meth m o as, ls, h => gcR h ((ev Γ o ls h).bind fun x h1 => match x with
      | .loc n => match h1[n]? with
        | some (.obj c fs) => if fs.lookup m = none then (evs Γ as ls h1).bind fun xs h2 => Γ.call (c ++ "." ++ m) (x :: xs) h2 else .bad
        | _ => .bad
      | _ => .bad)
  | .attr o f, ls, h => (ev Γ o ls h).bind fun x h1 => getF x f h1
  | .bcall b as, ls, h => gcR h ((evs Γ as ls h).bind fun xs h1 => btD b xs h1)
  | .bmeth m o as, ls, h => gcR h ((ev Γ o ls h).bind fun x h1 => if isLst h1 x = true then (evs Γ as ls h1).bind fun xs h2 => bmD m x xs h2 else .bad)
  | .comp own t it c e, ls, h => (evI Γ it ls h).bind fun w h1 => (compL w.2 h1 (fun x h2 => match asgT t x (wipe ls own) with
      | some ls2 => (ev Γ c ls2 h2).bind fun k h3 => (R.ofO h3 (truth h3 k)).bind fun k h3 => if k = true then (ev Γ e ls2 h3).bind fun y h4 => .ok (some y) h4 else .ok none h3
      | none => .bad) w.1 h1).bind fun ys h2 => if ys.length ≤ sizeLine then newL h2 ys else .bad
  | .iseq _, _, _ => .bad
  | .irange _, _, _ => .bad
  | .ienum _, _, _ => .bad
  | .izip _, _, _ => .bad
  | .dnil, _, h => .ok (.loc h.length) (h ++ [.dict []])
  | .svals e, ls, h => (ev Γ e ls h).bind fun x h1 => svalsD x h1
noncomputable def evs (Γ : Cfg) : FE → Ls → Hs → R (List D)
  | .anil, _, h => .ok [] h
  | .acons a as, ls, h => (ev Γ a ls h).bind fun x h1 => (evs Γ as ls h1).bind fun xs h2 => .ok (x :: xs) h2
  | _, _, _ => .bad
/-- a part of a slice -/
noncomputable def evPart (Γ : Cfg) : FE → Ls → Hs → R (Option Int)
  | .nopart, _, h => .ok none h
  | .part e, ls, h => (ev Γ e ls h).bind fun x h1 => match x with
    | .int i => .ok (some i) h1
    | _ => .bad
  | _, _, _ => .bad
/-- what is walked: its items, the cells that must stay as they are -/
noncomputable def evI (Γ : Cfg) : FE → Ls → Hs → R (List D × List Nat)
  | .iseq e, ls, h => (ev Γ e ls h).bind fun x h1 => R.ofO h1 ((itemsD h1 x).map fun xs => (xs, placeD x))
  | .irange as, ls, h => (evs Γ as ls h).bind fun xs h1 => match xs with
    | [.int j] => if small j then .ok (rangeD 0 j, []) h1 else .bad
    | [.int i, .int j] => if small i ∧ small j then .ok (rangeD i j, []) h1 else .bad
    | _ => .bad
  | .ienum as, ls, h => (evs Γ as ls h).bind fun vs h1 => enumI vs h1
  | .izip as, ls, h => (evs Γ as ls h).bind fun vs h1 => zipI vs h1
  | _, _, _ => .bad
end

/-! ### statements -/
/-- an expression's result, then a statement's -/
def R.andS {α : Type} (r : R α) (ls : Ls) (f : α → Hs → RS) : RS := match r with
  | .ok a h => f a h
  | .exc c fs h => .exc c fs ls h
  | .bad => .bad
@[simp] theorem andS_ok {α : Type} (a : α) (h : Hs) (ls : Ls) (f : α → Hs → RS) : (R.ok a h).andS ls f = f a h := rfl
@[simp] theorem andS_exc {α : Type} (c : Str) (fs : List (Str × D)) (h : Hs) (ls : Ls) (f : α → Hs → RS) : (R.exc c fs h : R α).andS ls f = .exc c fs ls h := rfl
@[simp] theorem andS_bad {α : Type} (ls : Ls) (f : α → Hs → RS) : (R.bad : R α).andS ls f = .bad := rfl
@[simp] theorem andS_ite {α : Type} (p : Prop) [Decidable p] (a b : R α) (ls : Ls) (f : α → Hs → RS) : (if p then a else b).andS ls f = if p then a.andS ls f else b.andS ls f := by split <;> rfl
def RS.andN (r : RS) (f : Ls → Hs → RS) : RS := match r with
  | .nx ls h => f ls h
  | r => r
@[simp] theorem andN_nx (ls : Ls) (h : Hs) (f : Ls → Hs → RS) : (RS.nx ls h).andN f = f ls h := rfl
@[simp] theorem andN_bk (ls : Ls) (h : Hs) (f : Ls → Hs → RS) : (RS.bk ls h).andN f = .bk ls h := rfl
@[simp] theorem andN_ct (ls : Ls) (h : Hs) (f : Ls → Hs → RS) : (RS.ct ls h).andN f = .ct ls h := rfl
@[simp] theorem andN_rt (d : D) (h : Hs) (f : Ls → Hs → RS) : (RS.rt d h).andN f = .rt d h := rfl
@[simp] theorem andN_exc (c : Str) (fs : List (Str × D)) (ls : Ls) (h : Hs) (f : Ls → Hs → RS) : (RS.exc c fs ls h).andN f = .exc c fs ls h := rfl
@[simp] theorem andN_bad (f : Ls → Hs → RS) : RS.bad.andN f = .bad := rfl
@[simp] theorem andN_ite (p : Prop) [Decidable p] (a b : RS) (f : Ls → Hs → RS) : (if p then a else b).andN f = if p then a.andN f else b.andN f := by split <;> rfl

/-- behind a turn: go on with the slots but fg, or leave -/
def turnEnd (fg : List Nat) (r : RS) (go : Ls → Hs → RS) : RS := match r with
  | .nx ls h => go (wipe ls fg) h
  | .ct ls h => go (wipe ls fg) h
  | .bk ls h => .nx (wipe ls fg) h
  | r => r
open Classical in
noncomputable def forL (fg : List Nat) (ns : List Nat) (h0 : Hs) (step : D → Ls → Hs → RS) : List D → Ls → Hs → RS
  | [], ls, h => .nx ls h
  | x :: xs, ls, h => turnEnd fg (step x ls h) fun ls1 h1 => if same ns h0 h1 then forL fg ns h0 step xs ls1 h1 else .bad
def whileL (fg : List Nat) (c : Ls → Hs → R Bool) (body : Ls → Hs → RS) : Nat → Ls → Hs → RS
  | 0, _, _ => .bad
  | k + 1, ls, h => (c ls h).andS ls fun b h1 => if b = true then turnEnd fg (body ls h1) fun ls1 h2 => whileL fg c body k ls1 h2 else .nx ls h1
noncomputable def evT (Γ : Cfg) (c : FE) (ls : Ls) (h : Hs) : R Bool := (ev Γ c ls h).bind fun x h1 => R.ofO h1 (truth h1 x)
noncomputable def asgG (Γ : Cfg) (g : FG) (d : D) (ls : Ls) (h : Hs) : RS := match g with
  | .tgt t => match asgT t d ls with
    | some ls1 => .nx ls1 h
    | none => .bad
  | .sub o i => (ev Γ o ls h).andS ls fun x h1 => (ev Γ i ls h1).andS ls fun y h2 => (setIdx x y d h2).andS ls fun _ h3 => .nx ls h3
  | .attr o f => (ev Γ o ls h).andS ls fun x h1 => (setF x f d h1).andS ls fun _ h2 => .nx ls h2
noncomputable def augRes (op : Operator) (x y : D) (ls : Ls) (i : Nat) (h1 : Hs) : RS := match x, y with
  | .int k, .int l => match op, binI op k l with
    | .Add, some z => .nx (ls.set i (some (.int z))) h1
    | .Sub, some z => .nx (ls.set i (some (.int z))) h1
    | .Mult, some z => .nx (ls.set i (some (.int z))) h1
    | _, _ => .bad
  | _, _ => .bad
def raiseR (c : Str) (vs : List D) (ls : Ls) (h : Hs) : RS := match vs with
  | [.str y] => if y.length ≤ 1000 then .exc c [("code", .str y)] ls h else .bad
  | _ => .bad
def catchR (c : Str) (i : Nat) (r : RS) : RS := match r with
  | .exc c' fs ls h => if c' = c ∧ i < ls.length then (match fs with
    | [(f, d)] => if f = "code" then .rt d h else .bad
    | _ => .bad) else .bad
  | r => r
noncomputable def evS (Γ : Cfg) : FS → Ls → Hs → RS
  | .pass, ls, h => .nx ls h
  | .brk, ls, h => .bk ls h
  | .cont, ls, h => .ct ls h
  | .expr e, ls, h => (ev Γ e ls h).andS ls fun _ h1 => .nx ls h1
  | .asg g e, ls, h => (ev Γ e ls h).andS ls fun d h1 => asgG Γ g d ls h1
  | .par i j a b, ls, h => (ev Γ a ls h).andS ls fun x h1 => (ev Γ b ls h1).andS ls fun y h2 => if i < ls.length ∧ j < ls.length then .nx ((ls.set i (some x)).set j (some y)) h2 else .bad
  | .aug i op e, ls, h => match ls[i]? with
    | some (some x) => (ev Γ e ls h).andS ls fun y h1 => augRes op x y ls i h1
    | _ => .bad
  | .ret e, ls, h => (ev Γ e ls h).andS ls fun d h1 => .rt d h1
  | .retN, _, h => .rt .non h
  | .ite c a b, ls, h => (evT Γ c ls h).andS ls fun k h1 => if k = true then evS Γ a ls h1 else evS Γ b ls h1
  | .for_ t it body fg, ls, h => (evI Γ it ls h).andS ls fun w h1 => forL fg w.2 h1 (fun x ls1 h2 => match asgT t x ls1 with
      | some ls2 => evS Γ body ls2 h2
      | none => .bad) w.1 ls h1
  | .while_ c body fg, ls, h => whileL fg (evT Γ c) (evS Γ body) Γ.big ls h
  | .raise c as, ls, h => (evs Γ as ls h).andS ls fun vs h1 => raiseR c vs ls h1
  | .try_ body c i _, ls, h => catchR c i (evS Γ body ls h)
  | .snil, ls, h => .nx ls h
  | .scons s ss, ls, h => (evS Γ s ls h).andN fun ls1 h1 => evS Γ ss ls1 h1

/-! ### defs -/
structure FDef where
  /-- how many parameters, how many names -/
  np : Nat
  nn : Nat
  body : FS
def startL (np nn : Nat) (vs : List D) : Ls := vs.map some ++ List.replicate (nn - np) none
/-- a def's end as a call's -/
def RS.call : RS → R D
  | .nx _ h => .ok .non h
  | .rt d h => .ok d h
  | .exc c fs _ h => .exc c fs h
  | _ => .bad
@[simp] theorem call_nx (ls : Ls) (h : Hs) : (RS.nx ls h).call = .ok .non h := rfl
@[simp] theorem call_rt (d : D) (h : Hs) : (RS.rt d h).call = .ok d h := rfl
@[simp] theorem call_exc (c : Str) (fs : List (Str × D)) (ls : Ls) (h : Hs) : (RS.exc c fs ls h).call = .exc c fs h := rfl
structure Prog where
  defs : List (Str × FDef)
  glob : List (Str × D)
  big : Nat
/-- the text's defs, to a depth of calls -/
noncomputable def Prog.call (P : Prog) : Nat → Str → List D → Hs → R D
  | 0, _, _, _ => .bad
  | k + 1, f, vs, h => match List.lookup f P.defs with
    | some d => if vs.length = d.np then gcR h (evS ⟨P.call k, fun x => List.lookup x P.glob, P.big⟩ d.body (startL d.np d.nn vs) h).call else .bad
    | none => .bad
noncomputable def Prog.cfg (P : Prog) (k : Nat) : Cfg := ⟨P.call k, fun x => List.lookup x P.glob, P.big⟩
end FL
set_option autoImplicit false
set_option linter.all false
set_option maxRecDepth 100000
/-! FL, part B: how FL's values and cells stand in the layer's heap; what is wanted behind an expression. -/
namespace FL
open PySem L2

/-- the text -/
structure Tx where
  P : Program
  w : World
  K : PySem.W.Frag
  mg : Str → Option Value
abbrev txOf (X : Cx) : Tx := ⟨X.prog, X.w, X.K, X.mg⟩

mutual
inductive RD (K : PySem.W.Frag) (H : Hp) (ρ : List Addr) : D → V → Prop
  | non : RD K H ρ .non .non
  | bl (b : Bool) : RD K H ρ (.bl b) (.bl b)
  | int (i : Int) : RD K H ρ (.int i) (.int i)
  | str (s : Str) : RD K H ρ (.str s) (.str s)
  | tup {ds : List D} {a : Addr} {vs : List V} : SqT K H a vs → RDs K H ρ ds vs → RD K H ρ (.tup ds) (.ref a)
  | loc {n : Nat} {a : Addr} : ρ[n]? = some a → RD K H ρ (.loc n) (.ref a)
inductive RDs (K : PySem.W.Frag) (H : Hp) (ρ : List Addr) : List D → List V → Prop
  | nil : RDs K H ρ [] []
  | cons {d : D} {v : V} {ds : List D} {vs : List V} : RD K H ρ d v → RDs K H ρ ds vs → RDs K H ρ (d :: ds) (v :: vs)
end

/-- the tuples stay -/
def Keeps (H H' : Hp) : Prop := ∀ a xs, Rd H a (.tup xs) → Rd H' a (.tup xs)
theorem Keeps.refl (H : Hp) : Keeps H H := fun _ _ h => h
theorem Keeps.trans {H H1 H2 : Hp} (a : Keeps H H1) (b : Keeps H1 H2) : Keeps H H2 := fun c xs h => b c xs (a c xs h)
theorem Keeps.sqT {K : PySem.W.Frag} {H H' : Hp} (k : Keeps H H') {a : Addr} {xs : List V} (h : SqT K H a xs) : SqT K H' a xs := by
  rcases h with h | h
  · exact .inl (k _ _ h)
  · exact .inr h
theorem Keeps.new {H : Hp} {p : Addr} {o : HO} (hp : H p = none) : Keeps H (upd H p o) := fun a xs h => by
  rcases h with h | ⟨ob, h⟩
  · exact .inl (by rw [upd_ne (ne_of_none h hp)]; exact h)
  · exact .inr ⟨ob, by rw [upd_ne (ne_of_none h hp)]; exact h⟩
theorem Keeps.put {H : Hp} {p : Addr} {o u : HO} (hp : H p = some u) (h1 : ∀ xs, u ≠ .tup xs) (h2 : ∀ ob xs, u ≠ .frz ob (.tup xs)) : Keeps H (upd H p o) := fun a xs h => by
  have ne : a ≠ p := by
    rintro rfl
    rcases h with h | ⟨ob, h⟩
    · rw [hp] at h; exact h1 xs (Option.some.inj h)
    · rw [hp] at h; exact h2 ob xs (Option.some.inj h)
  rcases h with h | ⟨ob, h⟩
  · exact .inl (by rw [upd_ne ne]; exact h)
  · exact .inr ⟨ob, by rw [upd_ne ne]; exact h⟩

/-- more places -/
def Ext (ρ ρ' : List Addr) : Prop := ∀ (n : Nat) (a : Addr), ρ[n]? = some a → ρ'[n]? = some a
theorem Ext.refl (ρ : List Addr) : Ext ρ ρ := fun _ _ h => h
theorem Ext.trans {ρ ρ1 ρ2 : List Addr} (a : Ext ρ ρ1) (b : Ext ρ1 ρ2) : Ext ρ ρ2 := fun n x h => b n x (a n x h)
theorem Ext.app (ρ more : List Addr) : Ext ρ (ρ ++ more) := fun n a h => by
  rw [List.getElem?_append_left (List.getElem?_eq_some_iff.mp h).1]; exact h
theorem Ext.len {ρ ρ' : List Addr} (e : Ext ρ ρ') : ρ.length ≤ ρ'.length := by
  by_cases h : ρ.length = 0
  · omega
  · have hl : ρ.length - 1 < ρ.length := by omega
    have := e (ρ.length - 1) _ (List.getElem?_eq_getElem hl)
    have := (List.getElem?_eq_some_iff.mp this).1
    omega

mutual
theorem RD.mono {K : PySem.W.Frag} {H H' : Hp} {ρ ρ' : List Addr} (k : Keeps H H') (e : Ext ρ ρ') : ∀ {d : D} {v : V}, RD K H ρ d v → RD K H' ρ' d v
  | .non, _, .non => .non
  | .bl _, _, .bl _ => .bl _
  | .int _, _, .int _ => .int _
  | .str _, _, .str _ => .str _
  | .tup _, _, .tup h hs => .tup (k.sqT h) (RDs.mono k e hs)
  | .loc _, _, .loc h => .loc (e _ _ h)
theorem RDs.mono {K : PySem.W.Frag} {H H' : Hp} {ρ ρ' : List Addr} (k : Keeps H H') (e : Ext ρ ρ') : ∀ {ds : List D} {vs : List V}, RDs K H ρ ds vs → RDs K H' ρ' ds vs
  | [], _, .nil => .nil
  | _ :: _, _, .cons h hs => .cons (RD.mono k e h) (RDs.mono k e hs)
end
mutual
theorem RD.closed {K : PySem.W.Frag} {H : Hp} {ρ : List Addr} : ∀ {d : D} {v : V}, RD K H ρ d v → d.closed ρ.length = true
  | .non, _, .non => rfl
  | .bl _, _, .bl _ => rfl
  | .int _, _, .int _ => rfl
  | .str _, _, .str _ => rfl
  | .tup _, _, .tup h hs => by rw [D.closed]; exact RDs.closed hs
  | .loc _, _, .loc h => by rw [D.closed]; exact decide_eq_true (List.getElem?_eq_some_iff.mp h).1
theorem RDs.closed {K : PySem.W.Frag} {H : Hp} {ρ : List Addr} : ∀ {ds : List D} {vs : List V}, RDs K H ρ ds vs → D.closedL ρ.length ds = true
  | [], _, .nil => rfl
  | _ :: _, _, .cons h hs => by rw [D.closedL, RD.closed h, RDs.closed hs]; rfl
end
mutual
theorem RD.down {K : PySem.W.Frag} {H : Hp} {ρ ρ' : List Addr} (e : Ext ρ ρ') : ∀ {d : D} {v : V}, RD K H ρ' d v → d.closed ρ.length = true → RD K H ρ d v
  | .non, _, .non, _ => .non
  | .bl _, _, .bl _, _ => .bl _
  | .int _, _, .int _, _ => .int _
  | .str _, _, .str _, _ => .str _
  | .tup _, _, .tup h hs, c => .tup h (RDs.down e hs (by rw [D.closed] at c; exact c))
  | .loc n, _, .loc h, c => by
    rw [D.closed] at c
    have hn : n < ρ.length := of_decide_eq_true c
    have q := e n _ (List.getElem?_eq_getElem hn)
    rw [h] at q
    exact .loc (by rw [List.getElem?_eq_getElem hn]; exact q.symm)
theorem RDs.down {K : PySem.W.Frag} {H : Hp} {ρ ρ' : List Addr} (e : Ext ρ ρ') : ∀ {ds : List D} {vs : List V}, RDs K H ρ' ds vs → D.closedL ρ.length ds = true → RDs K H ρ ds vs
  | [], _, .nil, _ => .nil
  | _ :: _, _, .cons h hs, c => by
    rw [D.closedL, Bool.and_eq_true] at c
    exact .cons (RD.down e h c.1) (RDs.down e hs c.2)
end
section
variable {K : PySem.W.Frag} {H : Hp} {ρ : List Addr}
theorem RDs.length : ∀ {ds : List D} {vs : List V}, RDs K H ρ ds vs → ds.length = vs.length
  | [], _, .nil => rfl
  | _ :: _, _, .cons _ hs => by rw [List.length_cons, List.length_cons, RDs.length hs]
theorem RDs.get : ∀ {ds : List D} {vs : List V} {i : Nat} {d : D}, RDs K H ρ ds vs → ds[i]? = some d → ∃ v, vs[i]? = some v ∧ RD K H ρ d v
  | [], _, _, _, .nil, e => by simp at e
  | _ :: _, _, 0, _, .cons h _, e => by simp at e; subst e; exact ⟨_, rfl, h⟩
  | _ :: _, _, i + 1, d, .cons _ hs, e => by
    obtain ⟨v, h1, h2⟩ := RDs.get (i := i) (d := d) hs (by simpa using e)
    exact ⟨v, by simpa using h1, h2⟩
theorem RDs.getV : ∀ {ds : List D} {vs : List V} {i : Nat} {v : V}, RDs K H ρ ds vs → vs[i]? = some v → ∃ d, ds[i]? = some d ∧ RD K H ρ d v
  | [], _, _, _, .nil, e => by simp at e
  | _ :: _, _, 0, _, .cons h _, e => by simp at e; subst e; exact ⟨_, rfl, h⟩
  | _ :: _, _, i + 1, d, .cons _ hs, e => by
    obtain ⟨v, h1, h2⟩ := RDs.getV (i := i) (v := d) hs (by simpa using e)
    exact ⟨v, by simpa using h1, h2⟩
theorem RDs.append : ∀ {ds es : List D} {vs us : List V}, RDs K H ρ ds vs → RDs K H ρ es us → RDs K H ρ (ds ++ es) (vs ++ us)
  | [], _, _, _, .nil, s => s
  | _ :: _, _, _, _, .cons h hs, s => .cons h (RDs.append hs s)
theorem RDs.take : ∀ {ds : List D} {vs : List V} (n : Nat), RDs K H ρ ds vs → RDs K H ρ (ds.take n) (vs.take n)
  | _, _, 0, _ => .nil
  | [], _, _ + 1, .nil => .nil
  | _ :: _, _, n + 1, .cons h hs => .cons h (RDs.take n hs)
theorem RDs.drop : ∀ {ds : List D} {vs : List V} (n : Nat), RDs K H ρ ds vs → RDs K H ρ (ds.drop n) (vs.drop n)
  | _, _, 0, h => h
  | [], _, _ + 1, .nil => .nil
  | _ :: _, _, n + 1, .cons _ hs => RDs.drop n hs
theorem RDs.set {d : D} {v : V} (r : RD K H ρ d v) : ∀ {ds : List D} {vs : List V} (i : Nat), RDs K H ρ ds vs → RDs K H ρ (ds.set i d) (vs.set i v)
  | [], _, _, .nil => .nil
  | _ :: _, _, 0, .cons _ hs => .cons r hs
  | _ :: _, _, i + 1, .cons h hs => .cons h (RDs.set r i hs)
theorem RDs.eraseIdx : ∀ {ds : List D} {vs : List V} (i : Nat), RDs K H ρ ds vs → RDs K H ρ (ds.eraseIdx i) (vs.eraseIdx i)
  | [], _, _, .nil => .nil
  | _ :: _, _, 0, .cons _ hs => hs
  | _ :: _, _, i + 1, .cons h hs => .cons h (RDs.eraseIdx i hs)
theorem RDs.dropLast {ds : List D} {vs : List V} (h : RDs K H ρ ds vs) : RDs K H ρ ds.dropLast vs.dropLast := by
  rw [List.dropLast_eq_take, List.dropLast_eq_take, h.length]; exact h.take _
theorem RDs.replicate {ds : List D} {vs : List V} (h : RDs K H ρ ds vs) : ∀ n : Nat, RDs K H ρ (List.replicate n ds).flatten (List.replicate n vs).flatten
  | 0 => .nil
  | n + 1 => by rw [List.replicate_succ, List.replicate_succ, List.flatten_cons, List.flatten_cons]; exact h.append (RDs.replicate h n)
theorem RDs.ints : ∀ (is : List Int), RDs K H ρ (is.map .int) (is.map V.int)
  | [] => .nil
  | i :: is => .cons (.int i) (RDs.ints is)
end

/-! ### cells -/
def fieldsR (K : PySem.W.Frag) (H : Hp) (ρ : List Addr) (fs : List (Str × D)) (gs : List (Str × V)) : Prop := Paired (fun (p : Str × D) (q : Str × V) => p.1 = q.1 ∧ RD K H ρ p.2 q.2) fs gs
/-- a list that is read alone: known to the object, or the module's own -/
def FrL (K : PySem.W.Frag) (H : Hp) (a : Addr) (xs : List V) : Prop := (∃ o, H a = some (.frz o (.lst xs))) ∨
  ∃ (o : Obj) (its : Array Value) (n : Nat), K.lookup a = some o ∧ o.cls = .type "list" ∧ o.dict = none ∧ o.data = .seq its n ∧ its.size ≤ sizeLine ∧ Vals xs its.toList
theorem FrL.sq {K : PySem.W.Frag} {H : Hp} {a : Addr} {xs : List V} (h : FrL K H a xs) : SqL K H a xs := by
  rcases h with h | h
  · exact .inl (.inr h)
  · exact .inr h
/-- a dict's items: keys that are ints and texts -/
def KS (K : PySem.W.Frag) (H : Hp) (ρ : List Addr) (kvs : List (D × D)) (vs : List (L2.Key × V)) : Prop := Paired (fun (p : D × D) (q : L2.Key × V) => scalK p.1 = some q.1 ∧ RD K H ρ p.2 q.2) kvs vs
theorem KS.mono {K : PySem.W.Frag} {H H' : Hp} {ρ ρ' : List Addr} (k : Keeps H H') (e : Ext ρ ρ') {fs : List (D × D)} {gs : List (L2.Key × V)} (h : KS K H ρ fs gs) : KS K H' ρ' fs gs :=
  Paired.mapP h fun _ _ ⟨h1, h2⟩ => ⟨h1, h2.mono k e⟩
theorem scal_closed {d : D} {k : L2.Key} (h : scalK d = some k) (n : Nat) : d.closed n = true := by
  cases d <;> first | rfl | cases h
theorem KS.closed {K : PySem.W.Frag} {H : Hp} {ρ : List Addr} : ∀ {fs : List (D × D)} {gs : List (L2.Key × V)}, KS K H ρ fs gs → D.closedL ρ.length (fs.map (·.1)) = true ∧ D.closedL ρ.length (fs.map (·.2)) = true
  | _, _, .nil => ⟨rfl, rfl⟩
  | _, _, .cons h hs => by
    obtain ⟨z1, z2⟩ := KS.closed hs
    rw [List.map_cons, List.map_cons, D.closedL, D.closedL, h.2.closed, scal_closed h.1, z1, z2]; exact ⟨rfl, rfl⟩
theorem KS.down {K : PySem.W.Frag} {H : Hp} {ρ ρ' : List Addr} (e : Ext ρ ρ') : ∀ {fs : List (D × D)} {gs : List (L2.Key × V)}, KS K H ρ' fs gs → D.closedL ρ.length (fs.map (·.2)) = true → KS K H ρ fs gs
  | _, _, .nil, _ => .nil
  | _, _, .cons h hs, c => by
    rw [List.map_cons, D.closedL, Bool.and_eq_true] at c
    exact .cons ⟨h.1, h.2.down e c.1⟩ (KS.down e hs c.2)
theorem KS.length {K : PySem.W.Frag} {H : Hp} {ρ : List Addr} {fs : List (D × D)} {gs : List (L2.Key × V)} (h : KS K H ρ fs gs) : fs.length = gs.length := Paired.length h
theorem scal_key {d e : D} {k l : L2.Key} {nk : NestedKey} (hd : scalK d = some k) (he : scalK e = some l) (hk : e.key = some nk) : d.key = some nk ↔ k = l := by
  cases d <;> cases hd <;> cases e <;> cases he <;> simp only [D.key, Option.some.injEq] at hk ⊢ <;> subst hk <;> simp
theorem KS.find {K : PySem.W.Frag} {H : Hp} {ρ : List Addr} {e : D} {l : L2.Key} {nk : NestedKey} (he : scalK e = some l) (hk : e.key = some nk) : ∀ {fs : List (D × D)} {gs : List (L2.Key × V)}, KS K H ρ fs gs →
    (∀ d, dfind nk fs = some d → ∃ v, valV gs l = some v ∧ RD K H ρ d v) ∧ (dfind nk fs = none → valV gs l = none)
  | _, _, .nil => ⟨fun d h => by simp [dfind] at h, fun _ => rfl⟩
  | (x, d0) :: fs, (y, v0) :: gs, .cons h hs => by
    obtain ⟨h1, h2⟩ := h
    have ik := scal_key h1 he hk
    by_cases c : x.key = some nk
    · have c2 : y = l := ik.mp c
      rw [valV_pos c2]
      unfold dfind
      rw [List.find?_cons_of_pos (by simpa using c)]
      exact ⟨fun d q => ⟨v0, rfl, by rw [← Option.some.inj q]; exact h2⟩, fun q => nomatch q⟩
    · have c2 : ¬ y = l := fun z => c (ik.mpr z)
      rw [valV_neg c2]
      unfold dfind
      rw [List.find?_cons_of_neg (by simpa using c)]
      exact KS.find he hk hs
theorem KS.any {K : PySem.W.Frag} {H : Hp} {ρ : List Addr} {e : D} {l : L2.Key} {nk : NestedKey} (he : scalK e = some l) (hk : e.key = some nk) : ∀ {fs : List (D × D)} {gs : List (L2.Key × V)}, KS K H ρ fs gs →
    (fs.any fun p => decide (p.1.key = some nk)) = gs.any fun kv => decide (kv.1 = l)
  | _, _, .nil => rfl
  | (x, d0) :: fs, (y, v0) :: gs, .cons h hs => by
    rw [List.any_cons, List.any_cons, KS.any he hk hs]
    congr 1
    exact decide_eq_decide.mpr (scal_key h.1 he hk)
theorem KS.repl {K : PySem.W.Frag} {H : Hp} {ρ : List Addr} {e d : D} {v : V} {l : L2.Key} {nk : NestedKey} (he : scalK e = some l) (hk : e.key = some nk) (rd : RD K H ρ d v) : ∀ {fs : List (D × D)} {gs : List (L2.Key × V)}, KS K H ρ fs gs →
    KS K H ρ (fs.map fun p => if p.1.key = some nk then (p.1, d) else p) (gs.map fun kv => if kv.1 = l then (kv.1, v) else kv)
  | _, _, .nil => .nil
  | (x, d0) :: fs, (y, v0) :: gs, .cons h hs => by
    rw [List.map_cons, List.map_cons]
    refine .cons ?_ (KS.repl he hk rd hs)
    have ik := scal_key h.1 he hk
    by_cases c : x.key = some nk
    · have c2 : y = l := ik.mp c
      rw [if_pos c, if_pos c2]; exact ⟨h.1, rd⟩
    · have c2 : ¬ y = l := fun z => c (ik.mpr z)
      rw [if_neg c, if_neg c2]; exact h
theorem KS.snoc {K : PySem.W.Frag} {H : Hp} {ρ : List Addr} {e d : D} {v : V} {l : L2.Key} (he : scalK e = some l) (rd : RD K H ρ d v) : ∀ {fs : List (D × D)} {gs : List (L2.Key × V)}, KS K H ρ fs gs → KS K H ρ (fs ++ [(e, d)]) (gs ++ [(l, v)])
  | _, _, .nil => .cons ⟨he, rd⟩ .nil
  | _, _, .cons h hs => .cons h (KS.snoc he rd hs)
theorem KS.put {K : PySem.W.Frag} {H : Hp} {ρ : List Addr} {e d : D} {v : V} {l : L2.Key} {nk : NestedKey} (he : scalK e = some l) (hk : e.key = some nk) (rd : RD K H ρ d v) {fs : List (D × D)} {gs : List (L2.Key × V)} (h : KS K H ρ fs gs) : KS K H ρ (dput nk e d fs) (putK gs l v) := by
  unfold dput putK
  rw [h.any he hk]
  split
  · exact h.repl he hk rd
  · exact h.snoc he rd
theorem KS.vals {K : PySem.W.Frag} {H : Hp} {ρ : List Addr} : ∀ {fs : List (D × D)} {gs : List (L2.Key × V)}, KS K H ρ fs gs → RDs K H ρ (fs.map (·.2)) (gs.map (·.2))
  | _, _, .nil => .nil
  | _, _, .cons h hs => .cons h.2 (KS.vals hs)
def CR (T : Tx) (H : Hp) (ρ : List Addr) (a : Addr) : Cell → Prop
  | .lst ds => ∃ vs, H a = some (.lst vs) ∧ RDs T.K H ρ ds vs
  | .flst ds => ∃ vs, FrL T.K H a vs ∧ RDs T.K H ρ ds vs
  | .dict kvs => ∃ vs, H a = some (.dK vs) ∧ KS T.K H ρ kvs vs
  | .ldict kvs => ∃ o vs, H a = some (.frz o (.dK vs)) ∧ KS T.K H ρ kvs vs
  | .obj c fs => ∃ C dx gs, T.mg c = some (.ref C) ∧ H a = some (.ins C dx gs) ∧ fieldsR T.K H ρ fs gs
def Cell.mut : Cell → Bool
  | .flst _ => false
  | _ => true
structure HR (T : Tx) (H : Hp) (ρ : List Addr) (h : Hs) : Prop where
  len : ρ.length = h.length
  at_ : ∀ (n : Nat) (c : Cell) (a : Addr), h[n]? = some c → ρ[n]? = some a → CR T H ρ a c
  inj : ∀ (m n : Nat) (a : Addr) (c c' : Cell), ρ[m]? = some a → ρ[n]? = some a → h[m]? = some c → h[n]? = some c' → c.mut = true → c'.mut = true → m = n
  pos : 0 < h.length
  /-- the first cell alone is for reading -/
  zc : ∀ (n : Nat) (c : Cell), h[n]? = some c → (c.mut = false ↔ n = 0)

theorem fieldsR.mono {K : PySem.W.Frag} {H H' : Hp} {ρ ρ' : List Addr} (k : Keeps H H') (e : Ext ρ ρ') {fs : List (Str × D)} {gs : List (Str × V)} (h : fieldsR K H ρ fs gs) : fieldsR K H' ρ' fs gs :=
  Paired.mapP h fun _ _ ⟨h1, h2⟩ => ⟨h1, h2.mono k e⟩
theorem fieldsR.closed {K : PySem.W.Frag} {H : Hp} {ρ : List Addr} : ∀ {fs : List (Str × D)} {gs : List (Str × V)}, fieldsR K H ρ fs gs → D.closedL ρ.length (fs.map (·.2)) = true
  | _, _, .nil => rfl
  | _, _, .cons h hs => by rw [List.map_cons, D.closedL, h.2.closed, fieldsR.closed hs]; rfl
theorem fieldsR.down {K : PySem.W.Frag} {H : Hp} {ρ ρ' : List Addr} (e : Ext ρ ρ') : ∀ {fs : List (Str × D)} {gs : List (Str × V)}, fieldsR K H ρ' fs gs → D.closedL ρ.length (fs.map (·.2)) = true → fieldsR K H ρ fs gs
  | _, _, .nil, _ => .nil
  | _, _, .cons h hs, c => by
    rw [List.map_cons, D.closedL, Bool.and_eq_true] at c
    exact .cons ⟨h.1, h.2.down e c.1⟩ (fieldsR.down e hs c.2)
theorem fieldsR.lookup {K : PySem.W.Frag} {H : Hp} {ρ : List Addr} {f : Str} : ∀ {fs : List (Str × D)} {gs : List (Str × V)}, fieldsR K H ρ fs gs →
    (∀ d, fs.lookup f = some d → ∃ v, gs.lookup f = some v ∧ RD K H ρ d v) ∧ (fs.lookup f = none → gs.lookup f = none)
  | _, _, .nil => ⟨fun d h => by simp at h, fun _ => rfl⟩
  | (x, d0) :: fs, (y, v0) :: gs, .cons h hs => by
    obtain ⟨h1, h2⟩ := h
    have h1 : x = y := h1
    subst h1
    by_cases e : f = x
    · subst e
      simp only [List.lookup_cons, beq_self_eq_true]
      exact ⟨fun d q => ⟨v0, rfl, by rw [← Option.some.inj q]; exact h2⟩, fun q => nomatch q⟩
    · have e' : (f == x) = false := beq_eq_false_iff_ne.mpr e
      simp only [List.lookup_cons, e']
      exact fieldsR.lookup hs
theorem fieldsR.length {K : PySem.W.Frag} {H : Hp} {ρ : List Addr} {fs : List (Str × D)} {gs : List (Str × V)} (h : fieldsR K H ρ fs gs) : fs.length = gs.length := Paired.length h

section
variable {T : Tx} {H H' : Hp} {ρ ρ' : List Addr} {a : Addr}
/-- a cell's object stands as it did -/
theorem CR.mono {c : Cell} (h : CR T H ρ a c) (k : Keeps H H') (e : Ext ρ ρ') (hs : ∀ o, H a = some o → H' a = some o) : CR T H' ρ' a c := by
  cases c with
  | lst ds => obtain ⟨vs, h1, h2⟩ := h; exact ⟨vs, hs _ h1, h2.mono k e⟩
  | flst ds =>
    obtain ⟨vs, h1, h2⟩ := h
    refine ⟨vs, ?_, h2.mono k e⟩
    rcases h1 with ⟨o, h1⟩ | h1
    · exact .inl ⟨o, hs _ h1⟩
    · exact .inr h1
  | dict kvs => obtain ⟨vs, h1, h2⟩ := h; exact ⟨vs, hs _ h1, h2.mono k e⟩
  | ldict kvs => obtain ⟨o, vs, h1, h2⟩ := h; exact ⟨o, vs, hs _ h1, h2.mono k e⟩
  | obj c fs => obtain ⟨C, dx, gs, h0, h1, h2⟩ := h; exact ⟨C, dx, gs, h0, hs _ h1, h2.mono k e⟩
theorem CR.closed {c : Cell} (h : CR T H ρ a c) : c.closed ρ.length = true := by
  cases c with
  | lst ds => obtain ⟨vs, _, h2⟩ := h; exact h2.closed
  | flst ds => obtain ⟨vs, _, h2⟩ := h; exact h2.closed
  | dict kvs => obtain ⟨vs, _, h2⟩ := h; rw [Cell.closed, h2.closed.1, h2.closed.2]; rfl
  | ldict kvs => obtain ⟨o, vs, _, h2⟩ := h; rw [Cell.closed, h2.closed.1, h2.closed.2]; rfl
  | obj c fs => obtain ⟨C, dx, gs, h0, h1, h2⟩ := h; exact fieldsR.closed h2
theorem CR.down {c : Cell} (e : Ext ρ ρ') (h : CR T H ρ' a c) (hc : c.closed ρ.length = true) : CR T H ρ a c := by
  cases c with
  | lst ds => obtain ⟨vs, h1, h2⟩ := h; exact ⟨vs, h1, h2.down e hc⟩
  | flst ds => obtain ⟨vs, h1, h2⟩ := h; exact ⟨vs, h1, h2.down e hc⟩
  | dict kvs => rw [Cell.closed, Bool.and_eq_true] at hc; obtain ⟨vs, h1, h2⟩ := h; exact ⟨vs, h1, h2.down e hc.2⟩
  | ldict kvs => rw [Cell.closed, Bool.and_eq_true] at hc; obtain ⟨o, vs, h1, h2⟩ := h; exact ⟨o, vs, h1, h2.down e hc.2⟩
  | obj c fs => obtain ⟨C, dx, gs, h0, h1, h2⟩ := h; exact ⟨C, dx, gs, h0, h1, h2.down e hc⟩
/-- a cell that may be written stands in the heap -/
theorem CR.there {c : Cell} (h : CR T H ρ a c) (m : c.mut = true) : ∃ o, H a = some o ∧ (∀ xs, o ≠ .tup xs) ∧ (∀ ob xs, o ≠ .frz ob (.tup xs)) ∧ (∀ ob xs, o ≠ .frz ob (.lst xs)) := by
  cases c with
  | lst ds => obtain ⟨vs, h1, h2⟩ := h; exact ⟨_, h1, fun _ => nofun, fun _ _ => nofun, fun _ _ => nofun⟩
  | flst ds => cases m
  | dict kvs => obtain ⟨vs, h1, h2⟩ := h; exact ⟨_, h1, fun _ => nofun, fun _ _ => nofun, fun _ _ => nofun⟩
  | ldict kvs => obtain ⟨o, vs, h1, h2⟩ := h; exact ⟨_, h1, fun _ => nofun, fun _ _ => nofun, fun _ _ => nofun⟩
  | obj c fs => obtain ⟨C, dx, gs, h0, h1, h2⟩ := h; exact ⟨_, h1, fun _ => nofun, fun _ _ => nofun, fun _ _ => nofun⟩
end

namespace HR
variable {T : Tx} {H H' : Hp} {ρ ρ' : List Addr} {h : Hs}
theorem get (r : HR T H ρ h) {n : Nat} {a : Addr} (e : ρ[n]? = some a) : ∃ c, h[n]? = some c ∧ CR T H ρ a c := by
  have hn : n < h.length := by rw [← r.len]; exact (List.getElem?_eq_some_iff.mp e).1
  exact ⟨h[n], List.getElem?_eq_getElem hn, r.at_ n _ a (List.getElem?_eq_getElem hn) e⟩
/-- all that the heap tracked is as it was -/
theorem keep (r : HR T H ρ h) (s : Same H H') : HR T H' ρ h := by
  have k : Keeps H H' := fun a xs q => by
    rcases q with q | ⟨o, q⟩
    · exact .inl (s _ _ q)
    · exact .inr ⟨o, s _ _ q⟩
  exact ⟨r.len, fun n c a h1 h2 => (r.at_ n c a h1 h2).mono k (Ext.refl _) fun o e => s _ _ e, r.inj, r.pos, r.zc⟩
/-- a new object that FL doesn't see -/
theorem newO (r : HR T H ρ h) {p : Addr} {o : HO} (hp : H p = none) : HR T (upd H p o) ρ h := r.keep fun b u e => by rw [upd_ne (ne_of_none e hp)]; exact e
/-- a new cell -/
theorem newC (r : HR T H ρ h) {p : Addr} {o : HO} {c : Cell} (hp : H p = none) (hm : c.mut = true) (hc : CR T (upd H p o) (ρ ++ [p]) p c) : HR T (upd H p o) (ρ ++ [p]) (h ++ [c]) := by
  have r' := r.newO (o := o) hp
  have hl : (ρ ++ [p]).length = (h ++ [c]).length := by rw [List.length_append, List.length_append, r.len]; rfl
  have split : ∀ n x, (ρ ++ [p])[n]? = some x → (ρ[n]? = some x) ∨ (n = ρ.length ∧ x = p) := fun n x e => by
    by_cases hn : n < ρ.length
    · rw [List.getElem?_append_left hn] at e; exact .inl e
    · rw [List.getElem?_append_right (by omega)] at e
      have h2 : n - ρ.length < [p].length := (List.getElem?_eq_some_iff.mp e).1
      have h3 : n = ρ.length := by simp at h2; omega
      subst h3; simp at e; exact .inr ⟨rfl, e.symm⟩
  have splitH : ∀ n x, n < ρ.length → (h ++ [c])[n]? = some x → h[n]? = some x := fun n x hn e => by
    rw [List.getElem?_append_left (by rw [← r.len]; exact hn)] at e; exact e
  have atP : (h ++ [c])[ρ.length]? = some c := by rw [r.len]; simp
  refine ⟨hl, fun n x a e1 e2 => ?_, fun m n a x y e1 e2 e3 e4 m1 m2 => ?_, by rw [List.length_append]; have := r.pos; omega, fun n x e => ?_⟩
  · rcases split n a e2 with q | ⟨q1, q2⟩
    · exact (r'.at_ n x a (splitH n x (List.getElem?_eq_some_iff.mp q).1 e1) q).mono (Keeps.refl _) (Ext.app _ _) fun _ z => z
    · subst q1; subst q2
      rw [atP] at e1; cases e1; exact hc
  · have noP : ∀ (n : Nat) (x : Cell), ρ[n]? = some p → (h ++ [c])[n]? = some x → x.mut = true → False := fun n x q1 q2 q3 => by
      have cr := r.at_ n x p (splitH n x (List.getElem?_eq_some_iff.mp q1).1 q2) q1
      obtain ⟨o, ho, _⟩ := cr.there q3
      rw [hp] at ho; cases ho
    rcases split m a e1 with q | ⟨q1, q2⟩
    · rcases split n a e2 with q' | ⟨q1', q2'⟩
      · exact r.inj m n a x y q q' (splitH m x (List.getElem?_eq_some_iff.mp q).1 e3) (splitH n y (List.getElem?_eq_some_iff.mp q').1 e4) m1 m2
      · subst q2'; exact (noP m x q e3 m1).elim
    · rcases split n a e2 with q' | ⟨q1', q2'⟩
      · subst q2; exact (noP n y q' e4 m2).elim
      · omega
  · by_cases hn : n < h.length
    · rw [List.getElem?_append_left hn] at e; exact r.zc n x e
    · rw [List.getElem?_append_right (by omega)] at e
      have h2 : n - h.length < [c].length := (List.getElem?_eq_some_iff.mp e).1
      have h3 : n = h.length := by simp at h2; omega
      subst h3; simp at e; subst e
      have := r.pos
      rw [hm]
      constructor
      · intro z; cases z
      · intro z; omega
end HR

/-! ### what FL's steps leave as it is -/
/-- the tuples stay, and all that FL doesn't see -/
structure KF (H : Hp) (ρ : List Addr) (H' : Hp) (ρ' : List Addr) : Prop where
  k : Keeps H H'
  fr : ∀ (a : Addr) (o : HO), H a = some o → (∀ n : Nat, n ≠ 0 → ρ[n]? ≠ some a) → H' a = some o ∧ ∀ n : Nat, n ≠ 0 → ρ'[n]? ≠ some a
instance {H H' : Hp} {ρ ρ' : List Addr} : CoeOut (KF H ρ H' ρ') (Keeps H H') := ⟨fun x => x.k⟩
theorem KF.refl (H : Hp) (ρ : List Addr) : KF H ρ H ρ := ⟨Keeps.refl H, fun _ _ h n => ⟨h, n⟩⟩
theorem KF.trans {H H1 H2 : Hp} {ρ ρ1 ρ2 : List Addr} (a : KF H ρ H1 ρ1) (b : KF H1 ρ1 H2 ρ2) : KF H ρ H2 ρ2 :=
  ⟨a.k.trans b.k, fun c o h n => let ⟨h1, n1⟩ := a.fr c o h n; b.fr c o h1 n1⟩
theorem KF.new {H : Hp} {ρ : List Addr} {p : Addr} {o : HO} (hp : H p = none) : KF H ρ (upd H p o) ρ :=
  ⟨Keeps.new hp, fun a u h n => ⟨by rw [upd_ne (ne_of_none h hp)]; exact h, n⟩⟩
theorem KF.newC {H : Hp} {ρ : List Addr} {p : Addr} {o : HO} (hp : H p = none) : KF H ρ (upd H p o) (ρ ++ [p]) :=
  ⟨Keeps.new hp, fun a u h n => ⟨by rw [upd_ne (ne_of_none h hp)]; exact h, fun m m0 e => by
    by_cases hm : m < ρ.length
    · rw [List.getElem?_append_left hm] at e; exact n m m0 e
    · rw [List.getElem?_append_right (by omega)] at e
      have h2 : m - ρ.length < [p].length := (List.getElem?_eq_some_iff.mp e).1
      have h3 : m - ρ.length = 0 := by simp at h2; omega
      rw [h3] at e; simp at e; exact ne_of_none h hp e.symm⟩⟩
theorem KF.put {H : Hp} {ρ : List Addr} {p : Addr} {o : HO} {n : Nat} (n0 : n ≠ 0) (hp : ρ[n]? = some p) (k : Keeps H (upd H p o)) : KF H ρ (upd H p o) ρ :=
  ⟨k, fun a u h m => ⟨by rw [upd_ne (fun e => m n n0 (by rw [e]; exact hp))]; exact h, m⟩⟩

/-- a cell written -/
theorem HR.setC {T : Tx} {H : Hp} {ρ : List Addr} {h : Hs} (r : HR T H ρ h) {n : Nat} {a : Addr} {o : HO} {c c' : Cell} (hn : h[n]? = some c) (ha : ρ[n]? = some a) (m : c.mut = true) (m' : c'.mut = true) (hc : CR T (upd H a o) ρ a c') : HR T (upd H a o) ρ (h.set n c') ∧ KF H ρ (upd H a o) ρ := by
  obtain ⟨u, hu, u1, u2, u3⟩ := (r.at_ n c a hn ha).there m
  have k : Keeps H (upd H a o) := Keeps.put hu u1 u2
  have hlt : n < h.length := (List.getElem?_eq_some_iff.mp hn).1
  refine ⟨⟨by rw [List.length_set]; exact r.len, fun j x b e1 e2 => ?_, fun i j b x y e1 e2 e3 e4 m1 m2 => ?_, by rw [List.length_set]; exact r.pos, fun j x e => ?_⟩, KF.put (fun z => by have := (r.zc n c hn).mpr z; rw [m] at this; cases this) ha k⟩
  · by_cases hj : n = j
    · subst hj
      rw [List.getElem?_set_self hlt] at e1
      cases e1
      rw [ha] at e2; cases e2; exact hc
    · rw [List.getElem?_set_ne hj] at e1
      have cr := r.at_ j x b e1 e2
      by_cases hb : b = a
      · subst hb
        cases hx : x.mut with
        | true => exact absurd (r.inj n j b c x ha e2 hn e1 m hx) hj
        | false =>
          cases x with
          | flst ds =>
            obtain ⟨vs, h1, h2⟩ := cr
            refine ⟨vs, ?_, h2.mono k (Ext.refl _)⟩
            rcases h1 with ⟨ob, h1⟩ | h1
            · rw [hu] at h1; exact absurd (Option.some.inj h1) (u3 ob vs)
            · exact .inr h1
          | lst _ => cases hx
          | dict _ => cases hx
          | ldict _ => cases hx
          | obj _ _ => cases hx
      · exact cr.mono k (Ext.refl _) fun ob e => by rw [upd_ne hb]; exact e
  · have old : ∀ (j : Nat) (x : Cell) (b : Addr), ρ[j]? = some b → (h.set n c')[j]? = some x → x.mut = true → ∃ y : Cell, h[j]? = some y ∧ y.mut = true := fun j x b q1 q2 q3 => by
      by_cases hj : n = j
      · subst hj; exact ⟨c, hn, m⟩
      · rw [List.getElem?_set_ne hj] at q2; exact ⟨x, q2, q3⟩
    obtain ⟨x', g1, g2⟩ := old i x b e1 e3 m1
    obtain ⟨y', g3, g4⟩ := old j y b e2 e4 m2
    exact r.inj i j b x' y' e1 e2 g1 g3 g2 g4
  · by_cases hj : n = j
    · subst hj
      rw [List.getElem?_set_self hlt] at e; cases e
      rw [m', ← r.zc n c hn, m]
    · rw [List.getElem?_set_ne hj] at e; exact r.zc j x e

/-! ### locals, exceptions -/
def RL (K : PySem.W.Frag) (H : Hp) (ρ : List Addr) (ls : Ls) (σ : St) : Prop := ls.length = σ.length ∧ ∀ (i : Nat) (d : D), ls[i]? = some (some d) → ∃ v, σ[i]? = some (some v) ∧ RD K H ρ d v
theorem RL.mono {K : PySem.W.Frag} {H H' : Hp} {ρ ρ' : List Addr} {ls : Ls} {σ : St} (r : RL K H ρ ls σ) (k : Keeps H H') (e : Ext ρ ρ') : RL K H' ρ' ls σ :=
  ⟨r.1, fun i d q => let ⟨v, h1, h2⟩ := r.2 i d q; ⟨v, h1, h2.mono k e⟩⟩
theorem RL.set {K : PySem.W.Frag} {H : Hp} {ρ : List Addr} {ls : Ls} {σ : St} (r : RL K H ρ ls σ) {d : D} {v : V} (rd : RD K H ρ d v) (i : Nat) : RL K H ρ (ls.set i (some d)) (σ.set i (some v)) := by
  refine ⟨by rw [List.length_set, List.length_set]; exact r.1, fun j x q => ?_⟩
  by_cases hj : i = j
  · subst hj
    by_cases hi : i < ls.length
    · rw [List.getElem?_set_self hi] at q; cases q
      exact ⟨v, List.getElem?_set_self (by rw [← r.1]; exact hi), rd⟩
    · rw [List.getElem?_eq_none (by rw [List.length_set]; omega)] at q; cases q
  · rw [List.getElem?_set_ne hj] at q ⊢
    exact r.2 j x q
theorem RL.forget {K : PySem.W.Frag} {H : Hp} {ρ : List Addr} {ls : Ls} {σ : St} (r : RL K H ρ ls σ) : ∀ vs : List Nat, RL K H ρ (FL.wipe ls vs) (L2.wipe σ vs)
  | [] => r
  | i :: vs => by
    have q := RL.forget r vs
    unfold FL.wipe L2.wipe
    refine ⟨by rw [List.length_set, List.length_set]; exact q.1, fun j x e => ?_⟩
    by_cases hj : i = j
    · subst hj
      by_cases hi : i < (FL.wipe ls vs).length
      · rw [List.getElem?_set_self hi] at e; cases e
      · rw [List.getElem?_eq_none (by rw [List.length_set]; omega)] at e; cases e
    · rw [List.getElem?_set_ne hj] at e ⊢
      exact q.2 j x e
theorem wipe_length (ls : Ls) : ∀ vs : List Nat, (FL.wipe ls vs).length = ls.length
  | [] => rfl
  | v :: vs => by unfold FL.wipe; rw [List.length_set, wipe_length ls vs]
theorem wipe_some {ls : Ls} {i : Nat} {x : D} : ∀ {vs : List Nat}, (FL.wipe ls vs)[i]? = some (some x) → ls[i]? = some (some x) ∧ i ∉ vs
  | [], h => ⟨h, by simp⟩
  | v :: vs, h => by
    unfold FL.wipe at h
    by_cases hi : v = i
    · subst hi
      by_cases hv : v < (FL.wipe ls vs).length
      · rw [List.getElem?_set_self hv] at h; cases h
      · rw [List.getElem?_eq_none (by simpa using hv)] at h; cases h
    · rw [List.getElem?_set_ne hi] at h
      obtain ⟨h1, h2⟩ := wipe_some h
      exact ⟨h1, by simp only [List.mem_cons, not_or]; exact ⟨fun e => hi e.symm, h2⟩⟩
/-- some slots forgotten, others perhaps too, in FL alone -/
theorem RL.forgetL {K : PySem.W.Frag} {H : Hp} {ρ : List Addr} {ls : Ls} {σ : St} (r : RL K H ρ ls σ) (vs : List Nat) : RL K H ρ (FL.wipe ls vs) σ :=
  ⟨by rw [wipe_length]; exact r.1, fun i d q => r.2 i d (wipe_some q).1⟩

/-- an exception of FL's and of the layer's -/
def XR (T : Tx) (H : Hp) (ρ : List Addr) (c : Str) (fs : List (Str × D)) (cls : Value) (dx : Option Addr) : Prop :=
  ∃ C, T.mg c = some (.ref C) ∧ cls = .ref C ∧ ((fs = [] ∧ dx = none) ∨ ∃ d gs, dx = some d ∧ H d = some (.xd gs) ∧ fieldsR T.K H ρ fs gs)

/-! ### what is wanted of a result -/
section
variable {α β γ δ : Type}
def PR (T : Tx) (W : WX) (σ : St) (H : Hp) (ρ : List Addr) (RA : Hp → List Addr → α → β → Prop) (Q : β → Hp → Prop) : R α → Prop
  | .ok a h => ∀ (ρ' : List Addr) (b : β) (H' : Hp), Ext ρ ρ' → KF H ρ H' ρ' → HR T H' ρ' h → RA H' ρ' a b → Q b H'
  | .exc c fs h => ∀ (ρ' : List Addr) (cls : Value) (dx : Option Addr) (H' : Hp), Ext ρ ρ' → KF H ρ H' ρ' → HR T H' ρ' h → XR T H' ρ' c fs cls dx → W cls dx σ H'
  | .bad => False
variable {T : Tx} {W : WX} {σ : St} {H H1 : Hp} {ρ ρ1 : List Addr} {RA : Hp → List Addr → α → β → Prop} {RC : Hp → List Addr → γ → δ → Prop} {Q : β → Hp → Prop} {Q1 : δ → Hp → Prop}
theorem PR.after {r : R α} (h : PR T W σ H ρ RA Q r) (e : Ext ρ ρ1) (k : KF H ρ H1 ρ1) : PR T W σ H1 ρ1 RA Q r := by
  cases r with
  | ok a h' => exact fun ρ' b H' e' k' => h ρ' b H' (e.trans e') (k.trans k')
  | exc c fs h' => exact fun ρ' cls dx H' e' k' => h ρ' cls dx H' (e.trans e') (k.trans k')
  | bad => exact h
/-- one step, then what follows -/
theorem PR.bind {r : R α} {f : α → Hs → R γ} (hp : PR T W σ H ρ RC Q1 (r.bind f))
    (k : ∀ (a : α) (h1 : Hs) (ρ1 : List Addr) (b : β) (H1 : Hp), r = .ok a h1 → Ext ρ ρ1 → KF H ρ H1 ρ1 → HR T H1 ρ1 h1 → RA H1 ρ1 a b → PR T W σ H1 ρ1 RC Q1 (f a h1) → Q b H1) : PR T W σ H ρ RA Q r := by
  cases r with
  | ok a h' => exact fun ρ' b H' e' k' hr ra => k a h' ρ' b H' rfl e' k' hr ra (hp.after e' k')
  | exc c fs h' => exact hp
  | bad => exact hp
theorem PR.ok {a : α} {b : β} {h : Hs} (hp : PR T W σ H ρ RA Q (.ok a h)) (hr : HR T H ρ h) (ra : RA H ρ a b) : Q b H := hp ρ b H (Ext.refl _) (KF.refl _ _) hr ra
theorem PR.ofO {a : Option α} {h : Hs} (hp : PR T W σ H ρ RA Q (R.ofO h a)) : ∃ x, a = some x ∧ PR T W σ H ρ RA Q (.ok x h) := by
  cases a with
  | none => exact hp.elim
  | some x => exact ⟨x, rfl, hp⟩
end
abbrev RAd (K : PySem.W.Frag) : Hp → List Addr → D → V → Prop := fun H ρ d v => RD K H ρ d v
abbrev RAs (K : PySem.W.Frag) : Hp → List Addr → List D → List V → Prop := fun H ρ ds vs => RDs K H ρ ds vs
abbrev RAe (α : Type) : Hp → List Addr → α → α → Prop := fun _ _ a b => a = b

theorem OldOk.closed {T : Tx} {H H' : Hp} {ρ ρ' : List Addr} {h0 h : Hs} (r0 : HR T H ρ h0) (r : HR T H' ρ' h) (e : Ext ρ ρ') (o : OldOk h0 h) : ∀ (i : Nat) (c : Cell), i < h0.length → h[i]? = some c → c.closed ρ.length = true := fun i c hi hc => by
  rcases o i hi with q | ⟨c', q, z⟩
  · rw [hc] at q
    have ha : ρ[i]? = some (ρ[i]'(by rw [r0.len]; exact hi)) := List.getElem?_eq_getElem _
    exact (r0.at_ i c _ q.symm ha).closed
  · rw [hc] at q; cases q
    rw [r0.len]; exact z
/-- the cells behind the first ones forgotten -/
theorem HR.taken {T : Tx} {H H' : Hp} {ρ ρ' : List Addr} {h0 h : Hs} (r0 : HR T H ρ h0) (r : HR T H' ρ' h) (e : Ext ρ ρ') (o : OldOk h0 h) : HR T H' ρ (h.take h0.length) := by
  have hl : h0.length ≤ h.length := by rw [← r0.len, ← r.len]; exact e.len
  have tk : ∀ (n : Nat) (c : Cell), (h.take h0.length)[n]? = some c → n < h0.length ∧ h[n]? = some c := fun n c q => by
    have hn := (List.getElem?_eq_some_iff.mp q).1
    rw [List.length_take] at hn
    have hn' : n < h0.length := by omega
    rw [List.getElem?_take_of_lt hn'] at q
    exact ⟨hn', q⟩
  refine ⟨by rw [List.length_take, r0.len]; omega, fun n c a e1 e2 => ?_, fun m n a c c' e1 e2 e3 e4 m1 m2 => ?_, by rw [List.length_take]; have := r0.pos; omega, fun n c e => r.zc n c (tk n c e).2⟩
  · obtain ⟨h1, h2⟩ := tk n c e1
    exact (r.at_ n c a h2 (e n a e2)).down e (OldOk.closed r0 r e o n c h1 h2)
  · exact r.inj m n a c c' (e m a e1) (e n a e2) (tk m c e3).2 (tk n c' e4).2 m1 m2
theorem gc_sound {T : Tx} {W : WX} {σ : St} {H : Hp} {ρ : List Addr} {Q : VK} {h0 : Hs} {r : R D} (r0 : HR T H ρ h0) (hp : PR T W σ H ρ (RAd T.K) Q (gcR h0 r)) : PR T W σ H ρ (RAd T.K) Q r := by
  cases r with
  | bad => exact hp
  | exc c fs h =>
    intro ρ' cls dx H' e k hr hx
    simp only [gcR] at hp
    split at hp
    · rename_i ho
      refine hp ρ cls dx H' (Ext.refl _) ⟨k.k, fun a o h n => ⟨(k.fr a o h n).1, n⟩⟩ (r0.taken hr e ho.1) ?_
      obtain ⟨C, h1, h2, h3⟩ := hx
      refine ⟨C, h1, h2, h3.imp id ?_⟩
      rintro ⟨d, gs, g1, g2, g3⟩
      exact ⟨d, gs, g1, g2, g3.down e (by rw [r0.len]; exact ho.2)⟩
    · exact hp ρ' cls dx H' e k hr hx
  | ok d h =>
    intro ρ' v H' e k hr rd
    simp only [gcR, gc] at hp
    split at hp
    · rename_i ho
      split at hp
      · rename_i hd
        exact hp ρ v H' (Ext.refl _) ⟨k.k, fun a o h n => ⟨(k.fr a o h n).1, n⟩⟩ (r0.taken hr e ho) (rd.down e (by rw [r0.len]; exact hd))
      · split at hp
        · rename_i n hd
          split at hp
          · rename_i c hc
            split at hp
            · rename_i hcl
              cases rd with
              | loc ha =>
                rename_i a
                have rt := r0.taken hr e ho
                have cr := hr.at_ n c a hc ha
                have hn0 : n ≠ 0 := fun z => hd (by rw [D.closed, z]; exact decide_eq_true r0.pos)
                refine hp (ρ ++ [a]) (.ref a) H' (Ext.app _ _) ⟨k.k, fun b o h n => ⟨(k.fr b o h n).1, fun m m0 em => by
                  by_cases hm : m < ρ.length
                  · rw [List.getElem?_append_left hm] at em; exact n m m0 em
                  · rw [List.getElem?_append_right (by omega)] at em
                    have h2 : m - ρ.length < [a].length := (List.getElem?_eq_some_iff.mp em).1
                    have h3 : m - ρ.length = 0 := by simp at h2; omega
                    rw [h3] at em; simp at em
                    subst em
                    exact (k.fr a o h n).2 _ hn0 ha⟩⟩ ?_ (.loc (by rw [← r0.len]; simp))
                -- the cell n moved to the end
                have cr' : CR T H' (ρ ++ [a]) a c := (cr.down e (by rw [r0.len]; exact hcl.1)).mono (Keeps.refl _) (Ext.app _ _) fun _ z => z
                have hnge : ¬ n < h0.length := fun z => hd (by rw [D.closed]; exact decide_eq_true z)
                have tl : (h.take h0.length).length = h0.length := by rw [List.length_take]; omega
                have split : ∀ (m : Nat) (x : Addr), (ρ ++ [a])[m]? = some x → (ρ[m]? = some x ∧ m < h0.length) ∨ (m = h0.length ∧ x = a) := fun m x e1 => by
                  by_cases hm : m < ρ.length
                  · rw [List.getElem?_append_left hm] at e1; exact .inl ⟨e1, by rw [← r0.len]; exact hm⟩
                  · rw [List.getElem?_append_right (by omega)] at e1
                    have h2 : m - ρ.length < [a].length := (List.getElem?_eq_some_iff.mp e1).1
                    have h3 : m = ρ.length := by simp at h2; omega
                    subst h3; simp at e1; exact .inr ⟨r0.len, e1.symm⟩
                have hsplit : ∀ (m : Nat) (x : Cell), m < h0.length → (h.take h0.length ++ [c])[m]? = some x → (h.take h0.length)[m]? = some x ∧ h[m]? = some x := fun m x hm e1 => by
                  rw [List.getElem?_append_left (by omega)] at e1
                  refine ⟨e1, ?_⟩
                  rw [List.getElem?_take_of_lt hm] at e1; exact e1
                have hat : (h.take h0.length ++ [c])[h0.length]? = some c := by
                  rw [List.getElem?_append_right (by omega), tl]; simp
                refine ⟨by rw [List.length_append, List.length_append, tl, r0.len]; rfl, fun m x b e1 e2 => ?_, fun i j b x y e1 e2 e3 e4 m1 m2 => ?_, by rw [List.length_append]; simp, fun m x e1 => ?_⟩
                · rcases split m b e2 with ⟨q, qm⟩ | ⟨q1, q2⟩
                  · exact (rt.at_ m x b (hsplit m x qm e1).1 q).mono (Keeps.refl _) (Ext.app _ _) fun _ z => z
                  · subst q1; subst q2
                    rw [hat] at e1; cases e1; exact cr'
                · rcases split i b e1 with ⟨q, qm⟩ | ⟨q1, q2⟩
                  · rcases split j b e2 with ⟨q', qm'⟩ | ⟨q1', q2'⟩
                    · exact hr.inj i j b x y (e i b q) (e j b q') (hsplit i x qm e3).2 (hsplit j y qm' e4).2 m1 m2
                    · subst q1'; subst q2'
                      rw [hat] at e4; cases e4
                      exact absurd (hr.inj i n b x c (e i b q) ha (hsplit i x qm e3).2 hc m1 m2) (by omega)
                  · rcases split j b e2 with ⟨q', qm'⟩ | ⟨q1', q2'⟩
                    · subst q1; subst q2
                      rw [hat] at e3; cases e3
                      exact absurd (hr.inj j n b y c (e j b q') ha (hsplit j y qm' e4).2 hc m2 m1) (by omega)
                    · omega
                · by_cases hm : m < h0.length
                  · exact hr.zc m x (hsplit m x hm e1).2
                  · rw [List.getElem?_append_right (by omega)] at e1
                    have h2 : m - (h.take h0.length).length < [c].length := (List.getElem?_eq_some_iff.mp e1).1
                    have h3 : m = h0.length := by simp at h2; omega
                    subst h3
                    rw [tl] at e1; simp at e1; subst e1
                    have := r0.pos
                    rw [hr.zc n c hc]; omega
            · exact hp ρ' v H' e k hr rd
          · exact hp ρ' v H' e k hr rd
        · exact hp ρ' v H' e k hr rd
    · exact hp ρ' v H' e k hr rd

/-! ### the readings of FL's syntax -/
def tE (Γ : Cfg) (T : Tx) (W : WX) (fe : FE) : TE := fun σ H Q => ∃ ρ ls h, RL T.K H ρ ls σ ∧ HR T H ρ h ∧ PR T W σ H ρ (RAd T.K) Q (ev Γ fe ls h)
def tEs (Γ : Cfg) (T : Tx) (W : WX) (fe : FE) : TA := fun σ H Q => ∃ ρ ls h, RL T.K H ρ ls σ ∧ HR T H ρ h ∧ PR T W σ H ρ (RAs T.K) Q (evs Γ fe ls h)
def tT (Γ : Cfg) (T : Tx) (W : WX) (fe : FE) : TT := fun σ H Q => ∃ ρ ls h, RL T.K H ρ ls σ ∧ HR T H ρ h ∧ PR T W σ H ρ (RAe Bool) Q (evT Γ fe ls h)
theorem peW {X : Cx} {e : Expr} {t t' : TE} (h : PE X e t) (w : ∀ σ H Q, t' σ H Q → t σ H Q) : PE X e t' := ⟨fun pins s σ H Q I q => h.run pins s σ H Q I (w σ H Q q)⟩
theorem ptW {X : Cx} {e : Expr} {t t' : TT} (h : PT X e t) (w : ∀ σ H Q, t' σ H Q → t σ H Q) : PT X e t' := ⟨fun pins s σ H Q I q => h.run pins s σ H Q I (w σ H Q q)⟩
theorem paW {X : Cx} {e : List Expr} {t t' : TA} (h : PA X e t) (w : ∀ σ H Q, t' σ H Q → t σ H Q) : PA X e t' := ⟨fun pos pins s σ H Q I q => h.run pos pins s σ H Q I (w σ H Q q)⟩
theorem psW {X : Cx} {e : Stmt} {t t' : TS} (h : PS X e t) (w : ∀ D σ H, t' D σ H → t D σ H) : PS X e t' := ⟨fun pins s σ H D I q => h.run pins s σ H D I (w D σ H q)⟩
end FL
set_option autoImplicit false
set_option linter.all false
set_option maxRecDepth 100000
/-! FL, part C: the operations by values. -/
namespace FL
open PySem L2 PyProof.Rows PySem.SeqAt

section
variable {X : Cx} {H : Hp} {ρ : List Addr} {h : Hs} {T : Tx}
theorem HR.lst (r : HR T H ρ h) {n : Nat} {a : Addr} {xs : List D} (ha : ρ[n]? = some a) (hx : lstAt h n = some xs) : ∃ vs, SqL T.K H a vs ∧ RDs T.K H ρ xs vs := by
  obtain ⟨c, hc, cr⟩ := r.get ha
  unfold lstAt at hx
  rw [hc] at hx
  cases c with
  | lst ds => cases hx; obtain ⟨vs, h1, h2⟩ := cr; exact ⟨vs, SqL.of h1, h2⟩
  | flst ds => cases hx; obtain ⟨vs, h1, h2⟩ := cr; exact ⟨vs, h1.sq, h2⟩
  | dict _ => cases hx
  | ldict _ => cases hx
  | obj _ _ => cases hx
theorem HR.mlst (r : HR T H ρ h) {n : Nat} {a : Addr} {xs : List D} (ha : ρ[n]? = some a) (hx : mlstAt h n = some xs) : ∃ vs, H a = some (.lst vs) ∧ RDs T.K H ρ xs vs := by
  obtain ⟨c, hc, cr⟩ := r.get ha
  unfold mlstAt at hx
  rw [hc] at hx
  cases c with
  | lst ds => cases hx; exact cr
  | flst ds => cases hx
  | dict _ => cases hx
  | ldict _ => cases hx
  | obj _ _ => cases hx
theorem HR.dict (r : HR T H ρ h) {n : Nat} {a : Addr} {kvs : List (D × D)} (ha : ρ[n]? = some a) (hx : dictAt h n = some kvs) : ∃ vs, Rd H a (.dK vs) ∧ KS T.K H ρ kvs vs := by
  obtain ⟨c, hc, cr⟩ := r.get ha
  unfold dictAt at hx
  rw [hc] at hx
  cases c with
  | lst ds => cases hx
  | flst ds => cases hx
  | dict _ => cases hx; obtain ⟨vs, h1, h2⟩ := cr; exact ⟨vs, .inl h1, h2⟩
  | ldict _ => cases hx; obtain ⟨o, vs, h1, h2⟩ := cr; exact ⟨vs, .inr ⟨o, h1⟩, h2⟩
  | obj _ _ => cases hx
theorem HR.mdict (r : HR T H ρ h) {n : Nat} {a : Addr} {kvs : List (D × D)} (ha : ρ[n]? = some a) (hx : mdictAt h n = some kvs) : ∃ vs, H a = some (.dK vs) ∧ KS T.K H ρ kvs vs := by
  obtain ⟨c, hc, cr⟩ := r.get ha
  unfold mdictAt at hx
  rw [hc] at hx
  cases c with
  | lst ds => cases hx
  | flst ds => cases hx
  | dict _ => cases hx; exact cr
  | ldict _ => cases hx
  | obj _ _ => cases hx
theorem scal_V {K : PySem.W.Frag} {d : D} {v : V} {k : L2.Key} (rd : RD K H ρ d v) (e : scalK d = some k) : v = kV k := by
  cases rd <;> cases e <;> rfl
/-- a new list, a new tuple in the layer's heap -/
theorem HR.newLst (r : HR T H ρ h) {p : Addr} {ds : List D} {vs : List V} (hp : H p = none) (rd : RDs T.K H ρ ds vs) : HR T (upd H p (.lst vs)) (ρ ++ [p]) (h ++ [.lst ds]) :=
  r.newC hp rfl ⟨vs, upd_same, rd.mono (Keeps.new hp) (Ext.app _ _)⟩
theorem RD.newTup {K : PySem.W.Frag} {p : Addr} {ds : List D} {vs : List V} (hp : H p = none) (rd : RDs K H ρ ds vs) : RD K (upd H p (.tup vs)) ρ (.tup ds) (.ref p) :=
  .tup (SqT.of upd_same) (rd.mono (Keeps.new hp) (Ext.refl _))
theorem lastLoc {K : PySem.W.Frag} (r : HR T H ρ h) (p : Addr) : RD K H (ρ ++ [p]) (.loc h.length) (.ref p) := .loc (by rw [← r.len]; simp)
section
variable {W : WX} {τ : L2.St} {Q : VK}
theorem PR.newL {xs : List D} (hp : PR T W τ H ρ (RAd T.K) Q (newL h xs)) (r : HR T H ρ h) {vs : List V} (rd : RDs T.K H ρ xs vs) : ∀ p, H p = none → Q (.ref p) (upd H p (.lst vs)) := fun p hn =>
  hp (ρ ++ [p]) (.ref p) _ (Ext.app _ _) (KF.newC hn) (r.newLst hn rd) (.loc (by rw [← r.len]; simp))
theorem PR.newT {xs : List D} (hp : PR T W τ H ρ (RAd T.K) Q (.ok (.tup xs) h)) (r : HR T H ρ h) {vs : List V} (rd : RDs T.K H ρ xs vs) : ∀ p, H p = none → Q (.ref p) (upd H p (.tup vs)) := fun p hn =>
  hp ρ (.ref p) _ (Ext.refl _) (KF.new hn) (r.newO hn) (RD.newTup hn rd)
end
end

/-! ### operators -/
/-- two values, what is wanted of FL's answer -/
def rD (T : Tx) (f : D → D → Hs → R D) : R2 := fun x y H Q => ∃ (W : WX) (τ : L2.St) (ρ : List Addr) (a b : D) (h : Hs), RD T.K H ρ a x ∧ RD T.K H ρ b y ∧ HR T H ρ h ∧ PR T W τ H ρ (RAd T.K) Q (f a b h)
section
variable {X : Cx}
theorem binI_ok {op : Operator} (pins : List (Addr × Obj)) (s : Shared) (σ : L2.St) (H : Hp) (i j k : Int) (v u : Value) (Q : VK) (I : Inv X pins σ H s) (rx : RelV (.int i) v) (ry : RelV (.int j) u) (e : binI op i j = some k) (q : Q (.int k) H) :
    wpAny (model X.prog X.w) X.A (binaryOp op v u) (EP X pins σ Q) X.xe s := by
  cases op with
  | Add => cases e; exact op_add pins s σ H _ _ v u Q I rx ry ⟨i, j, rfl, rfl, q⟩
  | Sub => cases e; exact op_sub pins s σ H _ _ v u Q I rx ry ⟨i, j, rfl, rfl, q⟩
  | Mult => simp only [binI] at e; split at e <;> cases e; rename_i hm; exact op_mul pins s σ H _ _ v u Q I rx ry ⟨i, j, rfl, rfl, hm, q⟩
  | FloorDiv => simp only [binI] at e; split at e <;> cases e; rename_i hm; exact op_fdivN pins s σ H _ _ v u Q I rx ry ⟨i, j, rfl, rfl, hm, q⟩
  | Mod => simp only [binI] at e; split at e <;> cases e; rename_i hm; exact op_modN pins s σ H _ _ v u Q I rx ry ⟨i, j, rfl, rfl, hm, q⟩
  | Pow => simp only [binI] at e; split at e <;> cases e; rename_i hm; exact op_pow pins s σ H _ _ v u Q I rx ry ⟨i, j, rfl, rfl, hm, q⟩
  | LShift => simp only [binI] at e; split at e <;> cases e; rename_i hm; exact op_shl pins s σ H _ _ v u Q I rx ry ⟨i, j, rfl, rfl, hm, q⟩
  | RShift => simp only [binI] at e; split at e <;> cases e; rename_i hm; exact op_shr pins s σ H _ _ v u Q I rx ry ⟨i, j, rfl, rfl, hm, q⟩
  | BitAnd => cases e; exact op_and pins s σ H _ _ v u Q I rx ry ⟨i, j, rfl, rfl, q⟩
  | BitOr => cases e; exact op_or pins s σ H _ _ v u Q I rx ry ⟨i, j, rfl, rfl, q⟩
  | BitXor => cases e; exact op_xor pins s σ H _ _ v u Q I rx ry ⟨i, j, rfl, rfl, q⟩
  | _ => cases e
theorem op_bin {op : Operator} : OpR X (binaryOp op) (rD (txOf X) (binD op)) := by
  intro pins s σ H x y v u Q I rx ry hh
  obtain ⟨W, τ, ρ, a, b, h, ra, rb, hr, hp⟩ := hh
  cases ra with
  | non => exact hp.elim
  | bl _ => exact hp.elim
  | int i =>
    cases rb with
    | int j =>
      obtain ⟨k, e0, hp⟩ := hp.ofO
      obtain ⟨z, e1, rfl⟩ := Option.map_eq_some_iff.mp e0
      exact binI_ok pins s σ H i j z v u Q I rx ry e1 (hp.ok hr (.int z))
    | _ => exact hp.elim
  | str x =>
    cases rb with
    | str y =>
      cases op with
      | Add =>
        simp only [binD] at hp
        split at hp
        · rename_i hz
          exact op_add_str pins s σ H _ _ v u Q I rx ry ⟨x, y, rfl, rfl, hz, hp.ok hr (.str _)⟩
        · exact hp.elim
      | _ => exact hp.elim
    | _ => exact hp.elim
  | @tup xs p vs hs rs =>
    cases rb with
    | @tup ys q us hs' rs' =>
      cases op with
      | Add =>
        simp only [binD] at hp
        split at hp
        · rename_i hz
          refine op_catA pins s σ H _ _ v u Q I rx ry ⟨p, q, vs, us, rfl, rfl, hs, hs', by rw [← rs.length, ← rs'.length]; exact hz, fun e => ?_, fun _ e => ?_, fun _ _ => hp.newT hr (rs.append rs')⟩
          · subst e; cases rs; exact hp.ok hr (.tup hs' rs')
          · subst e; cases rs'; exact hp.ok hr (.tup hs (by simpa using rs))
        · exact hp.elim
      | _ => exact hp.elim
    | int n =>
      cases op with
      | Mult =>
        simp only [binD] at hp
        split at hp
        · rename_i hz
          obtain ⟨h1, h2, h3, h4⟩ := hz
          refine op_repT pins s σ H _ _ v u Q I rx ry ⟨p, n, vs, rfl, rfl, hs, fun e => ?_, h1, h2, by rw [← rs.length]; exact h3, hp.newT hr (rs.replicate _)⟩
          subst e; cases rs; cases h4
        · exact hp.elim
      | _ => exact hp.elim
    | _ => exact hp.elim
  | @loc m p hm =>
    cases rb with
    | @loc n q hn =>
      cases op with
      | Add =>
        simp only [binD] at hp
        split at hp
        · rename_i xs ys e1 e2
          split at hp
          · rename_i hz
            obtain ⟨vs, g1, g2⟩ := hr.mlst hm (by assumption)
            obtain ⟨us, g3, g4⟩ := hr.mlst hn (by assumption)
            exact op_cat pins s σ H _ _ v u Q I rx ry ⟨p, q, vs, us, rfl, rfl, g1, g3, by rw [← g2.length, ← g4.length]; exact hz, hp.newL hr (g2.append g4)⟩
          · exact hp.elim
        · exact hp.elim
      | _ => exact hp.elim
    | int n =>
      cases op with
      | Mult =>
        simp only [binD] at hp
        split at hp
        · split at hp
          · rename_i hz
            obtain ⟨vs, g1, g2⟩ := hr.mlst hm (by assumption)
            exact op_rep pins s σ H _ _ v u Q I rx ry ⟨p, n, vs, rfl, rfl, g1, hz.1, hz.2.1, by rw [← g2.length]; exact hz.2.2, hp.newL hr (g2.replicate _)⟩
          · exact hp.elim
        · exact hp.elim
      | _ => exact hp.elim
    | _ => exact hp.elim
end

/-! ### data -/
section
variable {K : PySem.W.Frag} {T : Tx} {H : Hp} {ρ : List Addr} {h : Hs}
mutual
theorem pyW_dp {lk : Nat → Option PyData} (hl : ∀ n a p, ρ[n]? = some a → lk n = some p → Dp K H (.ref a) p) : ∀ {d : D} {v : V} {x : PyData}, RD K H ρ d v → d.pyW lk = some x → Dp K H v x
  | .non, _, _, .non, e => by cases e; exact .non
  | .bl _, _, _, .bl _, e => by cases e; exact .bl _
  | .int _, _, _, .int _, e => by cases e; exact .int _
  | .str _, _, _, .str _, e => by cases e; exact .str _
  | .tup _, _, _, .tup h hs, e => by
    rw [D.pyW] at e
    obtain ⟨ys, e1, rfl⟩ := Option.map_eq_some_iff.mp e
    exact .tup h (pyWL_dp hl hs e1)
  | .loc _, _, _, .loc h, e => hl _ _ _ h e
theorem pyWL_dp {lk : Nat → Option PyData} (hl : ∀ n a p, ρ[n]? = some a → lk n = some p → Dp K H (.ref a) p) : ∀ {ds : List D} {vs : List V} {xs : List PyData}, RDs K H ρ ds vs → D.pyWL lk ds = some xs → DpAll K H vs xs
  | [], _, _, .nil, e => by cases e; exact .nil
  | d :: ds, _, _, .cons h hs, e => by
    rw [D.pyWL] at e
    split at e
    · rename_i a b e1 e2
      cases e
      exact .cons (pyW_dp hl h e1) (pyWL_dp hl hs e2)
    · cases e
end
theorem lkL_dp (r : HR T H ρ h) : ∀ (k n : Nat) (a : Addr) (p : PyData), ρ[n]? = some a → lkL h k n = some p → Dp T.K H (.ref a) p
  | 0, _, _, _, _, e => by cases e
  | k + 1, n, a, p, ha, e => by
    obtain ⟨c, hc, cr⟩ := r.get ha
    rw [lkL, hc] at e
    cases c with
    | lst xs =>
      obtain ⟨ys, e1, rfl⟩ := Option.map_eq_some_iff.mp e
      obtain ⟨vs, h1, h2⟩ := cr
      exact .lst (SqL.of h1) (pyWL_dp (lkL_dp r k) h2 e1)
    | flst xs =>
      obtain ⟨ys, e1, rfl⟩ := Option.map_eq_some_iff.mp e
      obtain ⟨vs, h1, h2⟩ := cr
      exact .lst h1.sq (pyWL_dp (lkL_dp r k) h2 e1)
    | dict _ => cases e
    | ldict _ => cases e
    | obj _ _ => cases e
theorem py_dp (r : HR T H ρ h) {d : D} {v : V} {x : PyData} (rd : RD T.K H ρ d v) (e : d.py h = some x) : Dp T.K H v x := pyW_dp (lkL_dp r 8) rd e
theorem pyL_dp (r : HR T H ρ h) {ds : List D} {vs : List V} {xs : List PyData} (rd : RDs T.K H ρ ds vs) (e : pyL h ds = some xs) : DpAll T.K H vs xs := pyWL_dp (lkL_dp r 8) rd e
end

section
variable {X : Cx}
/-- a comparison by FL's answer -/
def rC (T : Tx) (f : D → D → Hs → Option Bool) : R2 := fun x y H Q => ∃ (ρ : List Addr) (a b : D) (h : Hs) (k : Bool), RD T.K H ρ a x ∧ RD T.K H ρ b y ∧ HR T H ρ h ∧ f a b h = some k ∧ Q (.bl k) H
theorem eqD_some {h : Hs} {a b : D} {k : Bool} (e : eqD h a b = some k) : ∃ x y, a.py h = some x ∧ b.py h = some y ∧ SeqAt.shaped x = true ∧ SeqAt.shaped y = true ∧ k = PyData.eqv x y := by
  unfold eqD at e
  split at e
  · rename_i x y e1 e2
    split at e
    · rename_i hs
      cases e
      exact ⟨x, y, e1, e2, hs.1, hs.2, rfl⟩
    · cases e
  · cases e
theorem inL_some {h : Hs} {a : D} {xs : List D} {k : Bool} (e : inL h a xs = some k) : ∃ x ys, a.py h = some x ∧ pyL h xs = some ys ∧ SeqAt.shaped x = true ∧ SeqAt.shaped (.list ys) = true ∧ k = (ys.any fun y => PyData.eqv y x) := by
  unfold inL at e
  split at e
  · rename_i x y e1 e2
    split at e
    · rename_i hs
      cases e
      exact ⟨x, y, e1, e2, hs.1, hs.2, rfl⟩
    · cases e
  · cases e
theorem room_in {A : Around} {xs : List PyData} {d : PyData} (hd : SeqAt.shaped d = true) (hu : A.units + 65 < cLine) : A.units + 1 + min (PyData.depthAll xs) d.depth < cLine := room_in_shaped hd hu
theorem isNon_eq {K : PySem.W.Frag} {H : Hp} {ρ : List Addr} {d : D} {v : V} (r : RD K H ρ d v) : isNon d = decide (v = .non) := by
  cases r <;> simp [isNon]
/-- x in t, x not in t -/
theorem in_any (neg : Bool) (hu : X.A.units + 65 < cLine) (pins : List (Addr × Obj)) (s : Shared) (σ : L2.St) (H : Hp) (x y : V) (v u : Value) (Q : VK) (I : Inv X pins σ H s) (rx : RelV x v) (ry : RelV y u)
    {ρ : List Addr} {a b : D} {h : Hs} {k : Bool} (ra : RD X.K H ρ a x) (rb : RD X.K H ρ b y) (hr : HR (txOf X) H ρ h) (e : inD h a b = some k) (q : Q (.bl (if neg = true then !k else k)) H) :
    wpAny (model X.prog X.w) X.A (compareOp (if neg = true then .NotIn else .In) v u) (EP X pins σ Q) X.xe s := by
  have fin : EP X pins σ Q (.bool (if neg = true then !k else k)) s := ⟨.bl _, H, I, rfl, q⟩
  have hL : ∀ (p : Addr) (xs : List D) (vs : List V), y = .ref p → SqL X.K H p vs → RDs X.K H ρ xs vs → inL h a xs = some k → wpAny (model X.prog X.w) X.A (compareOp (if neg = true then .NotIn else .In) v u) (EP X pins σ Q) X.xe s := by
    intro p xs vs e1 hs rs e2
    subst e1
    obtain ⟨dx, ys, g1, g2, g3, g4, rfl⟩ := inL_some e2
    obtain ⟨as, r1⟩ := Dp.reads I dx x v (py_dp hr ra g1) rx
    obtain ⟨bs, r2⟩ := Dp.reads I (.list ys) (.ref p) u (.lst hs (pyL_dp hr rs g2)) ry
    have c1 : PyData.canLayAll0 ys = true := by have := SeqAt.canLay_of_shaped g4; rw [PyData.canLay0] at this; exact this
    cases neg with
    | false => exact in_list_reads r2 r1 c1 (SeqAt.canLay_of_shaped g3) (room_in g3 hu) fin
    | true => exact notIn_list_reads r2 r1 c1 (SeqAt.canLay_of_shaped g3) (room_in g3 hu) fin
  cases rb with
  | @tup xs p vs hs rs =>
    obtain ⟨dx, ys, g1, g2, g3, g4, rfl⟩ := inL_some (show inL h a xs = some k from e)
    obtain ⟨as, r1⟩ := Dp.reads I dx x v (py_dp hr ra g1) rx
    obtain ⟨bs, r2⟩ := Dp.reads I (.tuple ys) (.ref p) u (.tup hs (pyL_dp hr rs g2)) ry
    have c1 : PyData.canLayAll0 ys = true := by have := SeqAt.canLay_of_shaped g4; rw [PyData.canLay0] at this; exact this
    cases neg with
    | false => exact in_tuple_reads r2 r1 c1 (SeqAt.canLay_of_shaped g3) (room_in g3 hu) fin
    | true => exact notIn_tuple_reads r2 r1 c1 (SeqAt.canLay_of_shaped g3) (room_in g3 hu) fin
  | @loc n p hn =>
    simp only [inD] at e
    split at e
    · rename_i xs hx
      obtain ⟨vs, h1, h2⟩ := hr.lst hn hx
      exact hL p xs vs rfl h1 h2 e
    · split at e
      · rename_i kvs nk e1 e2
        split at e
        · rename_i hk
          obtain ⟨l, hl⟩ := Option.isSome_iff_exists.mp hk
          obtain ⟨vs, g1, g2⟩ := hr.dict hn e1
          obtain ⟨z1, z2⟩ := KS.find hl e2 g2
          have ex := scal_V ra hl
          subst ex
          obtain rfl : u = Value.ref p := ry
          have q0 : (valV vs l).isSome = k := by
            cases hd : dfind nk kvs with
            | none => rw [hd] at e; rw [z2 hd]; exact Option.some.inj e
            | some d => rw [hd] at e; obtain ⟨v', hv, _⟩ := z1 d hd; rw [hv]; exact Option.some.inj e
          have g : DGet H p (kV l) (valV vs l) := .inl ⟨vs, l, g1, rfl, rfl⟩
          have hu1 : X.A.units + 1 < cLine := by omega
          cases neg with
          | false => exact d_in hu1 I g rx fun s' I' => ⟨.bl _, H, I', rfl, by rw [q0]; exact q⟩
          | true => exact d_notIn hu1 I g rx fun s' I' => ⟨.bl _, H, I', rfl, by rw [q0]; exact q⟩
        · cases e
      · cases e
  | _ => cases e
theorem op_cmp {op : CmpOp} (hu : X.A.units + 65 < cLine) : OpR X (compareOp op) (rC (txOf X) fun a b h => cmpD op h a b) := by
  intro pins s σ H x y v u Q I rx ry hh
  obtain ⟨ρ, a, b, h, k, ra, rb, hr, e, q⟩ := hh
  have hu64 : X.A.units + 64 < cLine := by omega
  cases op with
  | Eq =>
    obtain ⟨dx, dy, g1, g2, g3, g4, rfl⟩ := eqD_some e
    exact op_eqD hu64 pins s σ H x y v u Q I rx ry ⟨dx, dy, py_dp hr ra g1, py_dp hr rb g2, g3, g4, q⟩
  | NotEq =>
    obtain ⟨k', e', rfl⟩ := Option.map_eq_some_iff.mp e
    obtain ⟨dx, dy, g1, g2, g3, g4, rfl⟩ := eqD_some e'
    exact op_neD hu64 pins s σ H x y v u Q I rx ry ⟨dx, dy, py_dp hr ra g1, py_dp hr rb g2, g3, g4, q⟩
  | Lt =>
    cases ra <;> cases rb <;> cases e
    · exact op_lt pins s σ H _ _ v u Q I rx ry ⟨_, _, rfl, rfl, q⟩
    · exact op_lt_str pins s σ H _ _ v u Q I rx ry ⟨_, _, rfl, rfl, q⟩
  | LtE =>
    cases ra <;> cases rb <;> cases e
    · exact op_le pins s σ H _ _ v u Q I rx ry ⟨_, _, rfl, rfl, q⟩
    · exact op_le_str pins s σ H _ _ v u Q I rx ry ⟨_, _, rfl, rfl, q⟩
  | Gt =>
    cases ra <;> cases rb <;> cases e
    · exact op_gt pins s σ H _ _ v u Q I rx ry ⟨_, _, rfl, rfl, q⟩
    · exact op_gt_str pins s σ H _ _ v u Q I rx ry ⟨_, _, rfl, rfl, q⟩
  | GtE =>
    cases ra <;> cases rb <;> cases e
    · exact op_ge pins s σ H _ _ v u Q I rx ry ⟨_, _, rfl, rfl, q⟩
    · exact op_ge_str pins s σ H _ _ v u Q I rx ry ⟨_, _, rfl, rfl, q⟩
  | In => exact in_any false hu pins s σ H x y v u Q I rx ry ra rb hr e q
  | NotIn =>
    obtain ⟨k', e', rfl⟩ := Option.map_eq_some_iff.mp e
    exact in_any true hu pins s σ H x y v u Q I rx ry ra rb hr e' q
  | Is =>
    simp only [cmpD] at e
    split at e
    · rename_i hb
      cases e
      have hy : y = .non := by have := isNon_eq rb; rw [hb] at this; exact of_decide_eq_true this.symm
      exact op_isN pins s σ H x y v u Q I rx ry ⟨hy, by rw [← isNon_eq ra]; exact q⟩
    · cases e
  | IsNot =>
    simp only [cmpD] at e
    split at e
    · rename_i hb
      cases e
      have hy : y = .non := by have := isNon_eq rb; rw [hb] at this; exact of_decide_eq_true this.symm
      exact op_notN pins s σ H x y v u Q I rx ry ⟨hy, by rw [← isNon_eq ra]; exact q⟩
    · cases e
/-- truth -/
theorem truth_ok {T : Tx} {H : Hp} {ρ : List Addr} {h : Hs} {d : D} {v : V} {k : Bool} (rd : RD T.K H ρ d v) (hr : HR T H ρ h) (e : truth h d = some k) : TruV T.K v H k := by
  cases rd with
  | non => cases e; rfl
  | bl b => cases e; rfl
  | int i => cases e; rfl
  | str s =>
    simp only [truth] at e
    split at e
    · rename_i hz; cases e; exact ⟨hz, rfl⟩
    · cases e
  | @tup xs p vs hs rs =>
    cases e
    refine .inr (.inl ⟨vs, hs, ?_⟩)
    have := rs.length
    cases xs <;> cases vs <;> simp_all
  | @loc n p hn =>
    simp only [truth] at e
    split at e
    · rename_i xs hx
      cases e
      obtain ⟨vs, h1, h2⟩ := hr.lst hn hx
      refine .inl ⟨vs, h1, ?_⟩
      have := h2.length
      cases xs <;> cases vs <;> simp_all
    · split at e
      · rename_i kvs hx
        cases e
        obtain ⟨vs, h1, h2⟩ := hr.mdict hn hx
        refine .inr (.inr ⟨vs, h1, ?_⟩)
        have := h2.length
        cases kvs <;> cases vs <;> simp_all
      · cases e
end

/-! ### items, slices, stores -/
section
variable {X : Cx}
theorem atI_rd {K : PySem.W.Frag} {H : Hp} {ρ : List Addr} {ds : List D} {vs : List V} {i : Int} {d : D} (r : RDs K H ρ ds vs) (e : atI ds i = some d) : ∃ v, atI vs i = some v ∧ RD K H ρ d v := by
  unfold atI at e ⊢
  rw [← r.length]
  cases hx : ixN ds.length i with
  | none => rw [hx] at e; cases e
  | some j =>
    rw [hx] at e
    exact r.get e
theorem ix_dict {value slice : Expr} {pins : List (Addr × Obj)} {H : Hp} {s : Shared} {σ : L2.St} {p : Addr} {y v : V} {u : Value} {Q : VK} (hu : X.A.units + 1 < cLine) (I : Inv X pins σ H s) (ry : RelV y u) (g : DGet H p y (some v)) (q : Q v H)
    (hs : subscripted slice false (.ref p) u = operate [.ref p, u] (getItem (.ref p) u)) : wpAny (model X.prog X.w) X.A (subscriptTail value slice (.ref p) u) (EP X pins σ Q) X.xe s := by
  have hT := dict_typeIs I g
  unfold subscriptTail
  refine wpAny_bind ?_
  rw [getitemInPython_of_ne hT.not_modules]
  refine wpAny_bind (wpAny_specialOf hT PySem.F.slot_dict_getitem.lookup ?_)
  have fin : wpAny (model X.prog X.w) X.A (subscripted slice false (.ref p) u) (fun r s₃ => wpAny (model X.prog X.w) X.A (letTemporaryGo value (.ref p) r >>= fun _ => pure r) (EP X pins σ Q) X.xe s₃) X.xe s := by
    rw [hs]
    exact wpAny_operating (d_getItem hu I g ry fun w' s' I' rw' => wpAny_bind (wpAny_letTemporaryGo (wpAny_pure ⟨v, H, I', rw', q⟩)))
  first
    | exact wpAny_pure (wpAny_bind fin)
    | exact wpAny_bind (wpAny_pure (wpAny_bind fin))
    | exact wpAny_bind fin
theorem ix_any (hu : X.A.units + 65 < cLine) : IxR X (rD (txOf X) idxD) := by
  intro value slice pins s σ H x y v u Q I rx ry hh hs
  obtain ⟨W, τ, ρ, a, b, h, ra, rb, hr, hp⟩ := hh
  cases ra with
  | @tup xs p vs g1 g2 =>
    cases rb with
    | int j =>
      obtain ⟨d, e, hp⟩ := PR.ofO (show PR (txOf X) W τ H ρ _ Q (R.ofO h (atI xs j)) from hp)
      obtain ⟨z, e1, e2⟩ := atI_rd g2 e
      exact ix_tup value slice pins s σ H _ _ v u Q I rx ry ⟨p, vs, j, z, rfl, rfl, g1, e1, hp.ok hr e2⟩ hs
    | _ => exact hp.elim
  | @loc n p hn =>
    simp only [idxD] at hp
    split at hp
    · rename_i xs hx
      obtain ⟨vs, g1, g2⟩ := hr.lst hn hx
      cases rb with
      | int j =>
        obtain ⟨d, e, hp⟩ := PR.ofO (show PR (txOf X) W τ H ρ _ Q (R.ofO h (atI xs j)) from hp)
        obtain ⟨z, e1, e2⟩ := atI_rd g2 e
        exact ix_list value slice pins s σ H _ _ v u Q I rx ry ⟨p, vs, j, z, rfl, rfl, g1, e1, hp.ok hr e2⟩ hs
      | _ => exact hp.elim
    · split at hp
      · rename_i kvs nk e1 e2
        split at hp
        · rename_i hk
          obtain ⟨l, hl⟩ := Option.isSome_iff_exists.mp hk
          obtain ⟨vs, g1, g2⟩ := hr.dict hn e1
          obtain ⟨d, ed, hp⟩ := hp.ofO
          obtain ⟨v', hv, rv'⟩ := (KS.find hl e2 g2).1 d ed
          have ex := scal_V rb hl
          subst ex
          obtain rfl : v = Value.ref p := rx
          exact ix_dict (by omega) I ry (.inl ⟨vs, l, g1, rfl, hv.symm⟩) (hp.ok hr rv') hs
        · exact hp.elim
      · exact hp.elim
  | _ => exact hp.elim
/-- a part, by FL's answer -/
def rSlD (T : Tx) : V → Option Int → Option Int → Hp → VK → Prop := fun x lo hi H Q => ∃ (W : WX) (τ : L2.St) (ρ : List Addr) (a : D) (h : Hs), RD T.K H ρ a x ∧ HR T H ρ h ∧ PR T W τ H ρ (RAd T.K) Q (sliceD a lo hi h)
theorem cut_rd {K : PySem.W.Frag} {H : Hp} {ρ : List Addr} {ds : List D} {vs : List V} (r : RDs K H ρ ds vs) (lo hi : Option Int) : RDs K H ρ (cut ds lo hi) (cutV vs lo hi) := by
  unfold cut cutV
  rw [← r.length]
  exact (r.drop _).take _
theorem sl_any : SlR X (rSlD (txOf X)) := by
  intro pins s σ H x v vl vu lo hi sl Q I rx hs pl pu hh
  obtain ⟨W, τ, ρ, a, h, ra, hr, hp⟩ := hh
  cases ra with
  | @tup xs p vs g1 g2 =>
    refine sl_tupA pins s σ H _ v vl vu lo hi sl Q I rx hs pl pu ⟨p, vs, rfl, g1, fun hw => ?_, fun _ => PR.newT hp hr (cut_rd g2 lo hi)⟩
    refine PR.ok hp hr (.tup g1 ?_)
    have c := cut_rd g2 lo hi
    have e : cutV vs lo hi = vs := by
      unfold cutV; rw [hw.1, hw.2]; simp
    rw [e] at c
    exact c
  | @loc n p hn =>
    simp only [sliceD] at hp
    split at hp
    · rename_i xs hx
      obtain ⟨vs, g1, g2⟩ := hr.lst hn hx
      exact sl_list pins s σ H _ v vl vu lo hi sl Q I rx hs pl pu ⟨p, vs, rfl, g1, PR.newL hp hr (cut_rd g2 lo hi)⟩
    · exact hp.elim
  | _ => exact absurd hp id
/-- o[i] = v by FL's answer -/
def rSetD (T : Tx) : TSet := fun o i v H Q => ∃ (W : WX) (τ : L2.St) (ρ : List Addr) (a b d : D) (h : Hs), RD T.K H ρ a o ∧ RD T.K H ρ b i ∧ RD T.K H ρ d v ∧ HR T H ρ h ∧ PR T W τ H ρ (RAe Unit) (fun _ H' => Q H') (setIdx a b d h)
theorem set_any (hu : X.A.units + 65 < cLine) : PSet X (rSetD (txOf X)) := by
  intro pins s σ H o i v ov iv u Q I ro ri rv hh
  obtain ⟨W, τ, ρ, a, b, d, h, ra, rb, rd, hr, hp⟩ := hh
  cases ra with
  | @loc n p hn =>
    simp only [setIdx] at hp
    split at hp
    · rename_i xs hx
      cases rb with
      | int j =>
        simp only at hp
        split at hp
        · rename_i k hk
          obtain ⟨vs, g1, g2⟩ := hr.at_ n _ p hx hn
          refine set_list pins s σ H _ _ v ov iv u Q I ro ri rv ⟨p, vs, j, k, rfl, rfl, g1, by rw [← g2.length]; exact hk, ?_⟩
          obtain ⟨q1, q2⟩ := hr.setC (o := .lst (vs.set k v)) hx hn rfl (c' := .lst (xs.set k d)) rfl ⟨vs.set k v, upd_same, (g2.set rd k).mono (Keeps.put g1 (fun _ => nofun) (fun _ _ => nofun)) (Ext.refl _)⟩
          exact hp ρ () _ (Ext.refl _) q2 q1 rfl
        · exact hp.elim
      | _ => exact hp.elim
    · rename_i kvs hx
      split at hp
      · rename_i nk e2
        split at hp
        · rename_i hk
          obtain ⟨l, hl⟩ := Option.isSome_iff_exists.mp hk.1
          obtain ⟨vs, g1, g2⟩ := hr.at_ n _ p hx hn
          have ex := scal_V rb hl
          subst ex
          obtain rfl : ov = Value.ref p := ro
          have hz : vs.length < sizeLine := by rw [← g2.length]; exact hk.2
          obtain ⟨q1, q2⟩ := hr.setC (o := .dK (putK vs l v)) hx hn rfl (c' := .dict (dput nk b d kvs)) rfl ⟨_, upd_same, (g2.put hl e2 rd).mono (Keeps.put g1 (fun _ => nofun) (fun _ _ => nofun)) (Ext.refl _)⟩
          exact d_setItem (by omega) I (DPut.k g1 hz) ri rv fun s' I' => ⟨_, I', hp ρ () _ (Ext.refl _) q2 q1 rfl⟩
        · exact hp.elim
      · exact hp.elim
    · exact hp.elim
  | _ => exact hp.elim
end

/-! ### built-in functions -/
def rB (T : Tx) (f : List D → Hs → R D) : List V → Hp → VK → Prop := fun xs H Q => ∃ (W : WX) (τ : L2.St) (ρ : List Addr) (ds : List D) (h : Hs), RDs T.K H ρ ds xs ∧ HR T H ρ h ∧ PR T W τ H ρ (RAd T.K) Q (f ds h)
section
variable {X : Cx}
theorem CallR.weak {f : Value} {r r' : List V → Hp → VK → Prop} (c : CallR X f r) (h : ∀ xs H Q, r' xs H Q → r xs H Q) : CallR X f r' := fun pins s σ H xs us Q I rv q => c pins s σ H xs us Q I rv (h xs H Q q)
theorem bools_rd {K : PySem.W.Frag} {H : Hp} {ρ : List Addr} : ∀ {ds : List D} {vs : List V} {bs : List Bool}, RDs K H ρ ds vs → bools ds = some bs → vs = bs.map V.bl
  | [], _, _, .nil, e => by cases e; rfl
  | _ :: _, _, _, .cons h hs, e => by
    cases h with
    | bl b =>
      rw [bools] at e
      obtain ⟨bs', e1, rfl⟩ := Option.map_eq_some_iff.mp e
      rw [bools_rd hs e1]; rfl
    | _ => cases e
theorem intsD_rd {K : PySem.W.Frag} {H : Hp} {ρ : List Addr} : ∀ {ds : List D} {vs : List V} {bs : List Int}, RDs K H ρ ds vs → intsD ds = some bs → vs = bs.map V.int
  | [], _, _, .nil, e => by cases e; rfl
  | _ :: _, _, _, .cons h hs, e => by
    cases h with
    | int b =>
      rw [intsD] at e
      obtain ⟨bs', e1, rfl⟩ := Option.map_eq_some_iff.mp e
      rw [intsD_rd hs e1]; rfl
    | _ => cases e
theorem HR.items {T : Tx} {H : Hp} {ρ : List Addr} {h : Hs} (hr : HR T H ρ h) {d : D} {v : V} {xs : List D} (rd : RD T.K H ρ d v) (e : itemsD h d = some xs) : ∃ p vs, v = .ref p ∧ (SqL T.K H p vs ∨ SqT T.K H p vs) ∧ RDs T.K H ρ xs vs ∧ ((∃ n, d = .loc n ∧ SqL T.K H p vs ∧ ρ[n]? = some p) ∨ (d = .tup xs ∧ SqT T.K H p vs)) := by
  cases rd with
  | @tup ys p vs g1 g2 => cases e; exact ⟨p, vs, rfl, .inr g1, g2, .inr ⟨rfl, g1⟩⟩
  | @loc n p hn => obtain ⟨vs, g1, g2⟩ := hr.lst hn e; exact ⟨p, vs, rfl, .inl g1, g2, .inl ⟨n, rfl, g1, hn⟩⟩
  | _ => cases e
theorem one_rd {K : PySem.W.Frag} {H : Hp} {ρ : List Addr} {ds : List D} {v : V} (r : RDs K H ρ ds [v]) : ∃ d, ds = [d] ∧ RD K H ρ d v := by
  cases r with
  | cons h hs => cases hs; exact ⟨_, rfl, h⟩
theorem ct_len : CallR X (.builtin "len") (rB (txOf X) (btD .len)) := by
  intro pins s σ H xs us Q I rv hh
  obtain ⟨W, τ, ρ, ds, h, rd, hr, hp⟩ := hh
  match ds, rd with
  | [], _ => exact hp.elim
  | _ :: _ :: _, _ => exact hp.elim
  | [d], .cons h1 .nil =>
    simp only [btD] at hp
    split at hp
    · rename_i xs hx
      obtain ⟨p, vs, rfl, g1, g2, _⟩ := hr.items h1 hx
      exact call_len_seq pins s σ H _ us Q I rv ⟨p, vs, rfl, g1, by rw [← g2.length]; exact hp.ok hr (.int _)⟩
    · split at hp
      · rename_i n
        cases h1 with
        | @loc _ p hn =>
          obtain ⟨z, ez, hp⟩ := hp.ofO
          obtain ⟨kvs, e1, rfl⟩ := Option.map_eq_some_iff.mp ez
          obtain ⟨vs, g1, g2⟩ := hr.dict hn e1
          obtain ⟨u, rfl, ru⟩ := vals1 rv
          obtain rfl : u = Value.ref p := ru
          refine d_len I g1 fun t s' I' => ⟨.int _, H, I', ⟨t, rfl⟩, ?_⟩
          rw [← g2.length]
          exact hp.ok hr (.int _)
      · cases h1 with
        | str =>
          split at hp
          · rename_i hz
            exact call_len pins s σ H _ us Q I rv ⟨_, _, rfl, (⟨hz, rfl⟩ : LenV X.K (.str _) H _), hp.ok hr (.int _)⟩
          · exact hp.elim
      · exact hp.elim
theorem ct_abs : CallR X (.builtin "abs") (rB (txOf X) (btD .abs)) := by
  intro pins s σ H xs us Q I rv hh
  obtain ⟨W, τ, ρ, ds, h, rd, hr, hp⟩ := hh
  match ds, rd with
  | [], _ => exact hp.elim
  | d :: _ :: _, _ => cases d <;> exact hp.elim
  | [d], .cons h1 .nil =>
    cases h1 with
    | int i => exact call_abs pins s σ H _ us Q I rv ⟨i, rfl, PR.ok hp hr (.int _)⟩
    | _ => exact hp.elim
theorem ct_int : CallR X (.type "int") (rB (txOf X) (btD .int)) := by
  intro pins s σ H xs us Q I rv hh
  obtain ⟨W, τ, ρ, ds, h, rd, hr, hp⟩ := hh
  match ds, rd with
  | [], _ => exact hp.elim
  | d :: _ :: _, _ => cases d <;> exact hp.elim
  | [d], .cons h1 .nil =>
    cases h1 with
    | int i => exact call_int1 pins s σ H _ us Q I rv (.inl ⟨i, rfl, PR.ok hp hr (.int _)⟩)
    | _ => exact hp.elim
theorem ct_tuple : CallR X (.type "tuple") (rB (txOf X) (btD .tuple)) := by
  intro pins s σ H xs us Q I rv hh
  obtain ⟨W, τ, ρ, ds, h, rd, hr, hp⟩ := hh
  match ds, rd with
  | [], _ => exact hp.elim
  | _ :: _ :: _, _ => exact hp.elim
  | [d], .cons h1 .nil =>
    obtain ⟨e, e1, hp1⟩ := PR.ofO (show PR (txOf X) W τ H ρ _ Q (R.ofO h ((itemsD h d).map D.tup)) from hp)
    obtain ⟨xs, hx, rfl⟩ := Option.map_eq_some_iff.mp e1
    obtain ⟨p, vs, rfl, g1, g2, g3⟩ := hr.items h1 hx
    refine call_tuple_of pins s σ H _ us Q I rv ⟨p, vs, rfl, ?_⟩
    rcases g3 with ⟨n, rfl, g3, _⟩ | ⟨rfl, g3⟩
    · exact .inl ⟨g3, hp1.newT hr g2⟩
    · exact .inr ⟨g3, hp1.ok hr (.tup g3 g2)⟩
theorem ct_list : CallR X (.type "list") (rB (txOf X) (btD .list)) := by
  intro pins s σ H xs us Q I rv hh
  obtain ⟨W, τ, ρ, ds, h, rd, hr, hp⟩ := hh
  match ds, rd with
  | [], _ => exact hp.elim
  | _ :: _ :: _, _ => exact hp.elim
  | [d], .cons h1 .nil =>
    simp only [btD] at hp
    split at hp
    · rename_i xs hx
      obtain ⟨p, vs, rfl, g1, g2, g3⟩ := hr.items h1 hx
      exact call_list_of pins s σ H _ us Q I rv ⟨p, vs, rfl, g1, hp.newL hr g2⟩
    · exact hp.elim
theorem ct_all (hc : X.calm = true) : CallR X (.builtin "all") (rB (txOf X) (btD .all)) := by
  intro pins s σ H xs us Q I rv hh
  obtain ⟨W, τ, ρ, ds, h, rd, hr, hp⟩ := hh
  match ds, rd with
  | [], _ => exact hp.elim
  | d :: _ :: _, _ => cases d <;> exact hp.elim
  | [d], .cons h1 .nil =>
    cases h1 with
    | @loc n p ha =>
      obtain ⟨d, e1, hp⟩ := PR.ofO (show PR (txOf X) W τ H ρ _ Q (R.ofO h _) from hp)
      obtain ⟨bs, e2, rfl⟩ := Option.map_eq_some_iff.mp e1
      obtain ⟨ys, e3, e4⟩ := Option.bind_eq_some_iff.mp e2
      obtain ⟨vs, g1, g2⟩ := hr.lst ha e3
      exact cr_all hc pins s σ H _ us Q I rv ⟨p, bs, rfl, by rw [← bools_rd g2 e4]; exact g1, hp.ok hr (.bl _)⟩
    | _ => exact hp.elim
theorem ct_any (hc : X.calm = true) : CallR X (.builtin "any") (rB (txOf X) (btD .any)) := by
  intro pins s σ H xs us Q I rv hh
  obtain ⟨W, τ, ρ, ds, h, rd, hr, hp⟩ := hh
  match ds, rd with
  | [], _ => exact hp.elim
  | d :: _ :: _, _ => cases d <;> exact hp.elim
  | [d], .cons h1 .nil =>
    cases h1 with
    | @loc n p ha =>
      obtain ⟨d, e1, hp⟩ := PR.ofO (show PR (txOf X) W τ H ρ _ Q (R.ofO h _) from hp)
      obtain ⟨bs, e2, rfl⟩ := Option.map_eq_some_iff.mp e1
      obtain ⟨ys, e3, e4⟩ := Option.bind_eq_some_iff.mp e2
      obtain ⟨vs, g1, g2⟩ := hr.lst ha e3
      exact cr_any hc pins s σ H _ us Q I rv ⟨p, bs, rfl, by rw [← bools_rd g2 e4]; exact g1, hp.ok hr (.bl _)⟩
    | _ => exact hp.elim
theorem ct_sum (hc : X.calm = true) : CallR X (.builtin "sum") (rB (txOf X) (btD .sum)) := by
  intro pins s σ H xs us Q I rv hh
  obtain ⟨W, τ, ρ, ds, h, rd, hr, hp⟩ := hh
  match ds, rd with
  | [], _ => exact hp.elim
  | d :: _ :: _, _ => cases d <;> exact hp.elim
  | [d], .cons h1 .nil =>
    cases h1 with
    | @loc n p ha =>
      obtain ⟨d, e1, hp⟩ := PR.ofO (show PR (txOf X) W τ H ρ _ Q (R.ofO h _) from hp)
      obtain ⟨bs, e2, rfl⟩ := Option.map_eq_some_iff.mp e1
      obtain ⟨ys, e3, e4⟩ := Option.bind_eq_some_iff.mp e2
      obtain ⟨vs, g1, g2⟩ := hr.lst ha e3
      exact cr_sum hc pins s σ H _ us Q I rv ⟨p, bs, rfl, by rw [← intsD_rd g2 e4]; exact g1, hp.ok hr (.int _)⟩
    | _ => exact hp.elim

theorem each_of {pins : List (Addr × Obj)} {σ : L2.St} {H : Hp} {s : Shared} (I : Inv X pins σ H s) {ρ : List Addr} : ∀ {ds : List D} {vs : List V} {its : List Value} {ys : List PyData}, RDs X.K H ρ ds vs → Vals vs its → DpAll X.K H vs ys →
    PySem.W.EachIs (fun (v : Value) (b : D × PyData) => (∃ x, RelV x v ∧ RD X.K H ρ b.1 x) ∧ ∃ as, Reads s.heap v b.2 as) its (ds.zip ys)
  | [], _, _, _, .nil, .nil, .nil => .nil
  | _ :: _, _, _, _, .cons h hs, .cons r rs, .cons d dd => .cons ⟨⟨_, r, h⟩, Dp.reads I _ _ _ d r⟩ (each_of I hs rs dd)
theorem each_back {K : PySem.W.Frag} {H : Hp} {ρ : List Addr} : ∀ {out : List Value} {bs : List (D × PyData)}, PySem.W.EachIs (fun (v : Value) (b : D × PyData) => ∃ x, RelV x v ∧ RD K H ρ b.1 x) out bs → ∃ vs, Vals vs out ∧ RDs K H ρ (bs.map (·.1)) vs
  | _, _, .nil => ⟨[], .nil, .nil⟩
  | _, _, .cons ⟨x, r, d⟩ t => let ⟨vs, h1, h2⟩ := each_back t; ⟨x :: vs, .cons r h1, .cons d h2⟩
theorem dpAll_length {K : PySem.W.Frag} {H : Hp} : ∀ {vs : List V} {ys : List PyData}, DpAll K H vs ys → vs.length = ys.length
  | _, _, .nil => rfl
  | _, _, .cons _ t => by rw [List.length_cons, List.length_cons, dpAll_length t]
theorem ct_sorted (hu : X.A.units + 66 < cLine) : CallR X (.builtin "sorted") (rB (txOf X) (btD .sorted)) := by
  intro pins s σ H xs us Q I rv hh
  obtain ⟨W, τ, ρ, ds, h, rd, hr, hp⟩ := hh
  match ds, rd with
  | [], _ => exact hp.elim
  | d :: _ :: _, _ => cases d <;> exact hp.elim
  | [d], .cons h1 .nil =>
    cases h1 with
    | @loc n p ha =>
      simp only [btD] at hp
      split at hp
      · rename_i es he
        obtain ⟨ds, e1, e2⟩ := Option.bind_eq_some_iff.mp he
        obtain ⟨vs, g1, g2⟩ := hr.lst ha e1
        unfold sortD at e2
        split at e2
        · rename_i ys hy
          split at e2
          · rename_i hc
            cases e2
            obtain ⟨c1, c2, c3⟩ := hc
            obtain ⟨u, rfl, ru⟩ := vals1 rv
            obtain rfl : u = Value.ref p := ru
            obtain ⟨its, r1, pl, hz⟩ := I.list g1
            have dp := pyL_dp hr g2 hy
            have ea := each_of I g2 r1 dp
            have hlen : ds.length = ys.length := by rw [g2.length]; exact dpAll_length dp
            have hm : (ds.zip ys).map Prod.snd = ys := List.map_snd_zip (by omega)
            have hzl : (ds.zip ys).length ≤ sizeLine := by rw [List.length_zip, g2.length]; omega
            refine PySem.W.sorted_data (enc := Prod.snd) pl.isList (ea.mono fun _ _ z => z.1) (ea.mono fun _ _ z => z.2) (by rw [hm]; exact c1) (by rw [hm]; exact c2) hzl (fun b hb => ?_) fun out ol eo => ?_
            · have := c3 b.2 (by rw [← hm]; exact List.mem_map_of_mem hb)
              omega
            · obtain ⟨vs', k1, k2⟩ := each_back eo
              obtain ⟨ep, he'⟩ := PyProof.Rows.sortedAll_at s.heap its (List.toArray out)
              refine ⟨.ref _, upd H (s.heap.objs.size + 1) (.lst vs'), I.laid (t' := s.toks) (fun _ _ => PyProof.Rows.sortedAll_old) (Nat.le_succ _) ⟨by rw [k1.length, ol]; exact hzl, out, ep, k1, he'⟩, rfl, hp.newL hr k2 _ (I.hok.fresh (Nat.le_succ _))⟩
          · cases e2
        · cases e2
      · exact hp.elim
    | _ => exact hp.elim
theorem ct_max (hc : X.calm = true) : CallR X (.builtin "max") (rB (txOf X) (btD .max)) := by
  intro pins s σ H xs us Q I rv hh
  obtain ⟨W, τ, ρ, ds, h, rd, hr, hp⟩ := hh
  match ds, rd with
  | [], _ => exact hp.elim
  | [d], _ => cases d <;> exact hp.elim
  | d :: e :: _ :: _, _ => cases d <;> first | exact hp.elim | (cases e <;> exact hp.elim)
  | [d, e], .cons h1 (.cons h2 .nil) =>
    cases h1 with
    | int i =>
      cases h2 with
      | int j => exact call_max2 hc pins s σ H _ us Q I rv ⟨i, j, rfl, PR.ok hp hr (.int _)⟩
      | _ => exact hp.elim
    | _ => exact hp.elim
theorem ct_min (hc : X.calm = true) : CallR X (.builtin "min") (rB (txOf X) (btD .min)) := by
  intro pins s σ H xs us Q I rv hh
  obtain ⟨W, τ, ρ, ds, h, rd, hr, hp⟩ := hh
  match ds, rd with
  | [], _ => exact hp.elim
  | [d], _ => cases d <;> exact hp.elim
  | d :: e :: _ :: _, _ => cases d <;> first | exact hp.elim | (cases e <;> exact hp.elim)
  | [d, e], .cons h1 (.cons h2 .nil) =>
    cases h1 with
    | int i =>
      cases h2 with
      | int j => exact call_min2 hc pins s σ H _ us Q I rv ⟨i, j, rfl, PR.ok hp hr (.int _)⟩
      | _ => exact hp.elim
    | _ => exact hp.elim

/-! ### methods of lists -/
def rM (T : Tx) (m : Bm) : V → List V → Hp → VK → Prop := fun x xs H Q => ∃ (W : WX) (τ : L2.St) (ρ : List Addr) (o : D) (ds : List D) (h : Hs), RD T.K H ρ o x ∧ RDs T.K H ρ ds xs ∧ HR T H ρ h ∧ PR T W τ H ρ (RAd T.K) Q (bmD m o ds h)
theorem two_rd {K : PySem.W.Frag} {H : Hp} {ρ : List Addr} {ds : List D} {v : V} (r : RDs K H ρ ds [v]) : ∃ d, ds = [d] ∧ RD K H ρ d v := one_rd r
theorem mt_app : MtR X "list.append" (rM (txOf X) .append) := by
  intro pins s σ H x xs v us Q I rx rv hh
  obtain ⟨W, τ, ρ, o, ds, h, ro, rd, hr, hp⟩ := hh
  cases ro with
  | @loc n p hn =>
    simp only [bmD] at hp
    split at hp
    · rename_i ys hx
      obtain ⟨vs, g1, g2⟩ := hr.at_ n _ p hx hn
      match ds, rd with
      | [], _ => exact hp.elim
      | _ :: _ :: _, _ => exact hp.elim
      | [d], .cons (v := y) h1 .nil =>
        simp only at hp
        split at hp
        · rename_i hz
          obtain ⟨q1, q2⟩ := hr.setC (o := .lst (vs ++ [y])) hx hn rfl (c' := .lst (ys ++ [d])) rfl ⟨_, upd_same, (g2.append (.cons h1 .nil)).mono (Keeps.put g1 (fun _ => nofun) (fun _ _ => nofun)) (Ext.refl _)⟩
          exact mt_append pins s σ H _ _ v us Q I rx rv ⟨p, vs, _, rfl, rfl, g1, by rw [← g2.length]; exact hz, hp ρ .non _ (Ext.refl _) q2 q1 .non⟩
        · exact hp.elim
    · exact hp.elim
  | _ => exact hp.elim
theorem mt_ext : MtR X "list.extend" (rM (txOf X) .extend) := by
  intro pins s σ H x xs v us Q I rx rv hh
  obtain ⟨W, τ, ρ, o, ds, h, ro, rd, hr, hp⟩ := hh
  cases ro with
  | @loc n p hn =>
    simp only [bmD] at hp
    split at hp
    · rename_i ys hx
      obtain ⟨vs, g1, g2⟩ := hr.at_ n _ p hx hn
      match ds, rd with
      | [], _ => exact hp.elim
      | d :: _ :: _, _ => cases d <;> exact hp.elim
      | [d], .cons h1 .nil =>
        cases h1 with
        | @loc k b hk =>
          simp only at hp
          split at hp
          · rename_i zs hzs
            split at hp
            · rename_i hz
              obtain ⟨us', g3, g4⟩ := hr.mlst hk hzs
              obtain ⟨q1, q2⟩ := hr.setC (o := .lst (vs ++ us')) hx hn rfl (c' := .lst (ys ++ zs)) rfl ⟨_, upd_same, (g2.append g4).mono (Keeps.put g1 (fun _ => nofun) (fun _ _ => nofun)) (Ext.refl _)⟩
              exact mt_extend pins s σ H _ _ v us Q I rx rv ⟨p, b, vs, us', rfl, rfl, g1, g3, by rw [← g2.length, ← g4.length]; exact hz, hp ρ .non _ (Ext.refl _) q2 q1 .non⟩
            · exact hp.elim
          · exact hp.elim
        | _ => exact hp.elim
    · exact hp.elim
  | _ => exact hp.elim
theorem mt_pop0 : MtR X "list.pop" (fun x xs H Q => xs = [] ∧ rM (txOf X) .pop x xs H Q) := by
  intro pins s σ H x xs v us Q I rx rv hh
  obtain ⟨hxs, W, τ, ρ, o, ds, h, ro, rd, hr, hp⟩ := hh
  subst hxs
  cases rd
  cases ro with
  | @loc n p hn =>
    simp only [bmD] at hp
    split at hp
    · rename_i ys hx
      obtain ⟨vs, g1, g2⟩ := hr.at_ n _ p hx hn
      split at hp
      · rename_i y hy
        obtain ⟨z, e1, e2⟩ := g2.get hy
        obtain ⟨q1, q2⟩ := hr.setC (o := .lst vs.dropLast) hx hn rfl (c' := .lst ys.dropLast) rfl ⟨_, upd_same, g2.dropLast.mono (Keeps.put g1 (fun _ => nofun) (fun _ _ => nofun)) (Ext.refl _)⟩
        exact mt_pop pins s σ H _ _ v us Q I rx rv ⟨p, vs, z, rfl, rfl, g1, by rw [← g2.length]; exact e1, hp ρ z _ (Ext.refl _) q2 q1 (e2.mono q2 (Ext.refl _))⟩
      · exact hp.elim
    · exact hp.elim
  | _ => exact hp.elim
theorem mt_pop1 : MtR X "list.pop" (fun x xs H Q => xs ≠ [] ∧ rM (txOf X) .pop x xs H Q) := by
  intro pins s σ H x xs v us Q I rx rv hh
  obtain ⟨hxs, W, τ, ρ, o, ds, h, ro, rd, hr, hp⟩ := hh
  cases ro with
  | @loc n p hn =>
    simp only [bmD] at hp
    split at hp
    · rename_i ys hx
      obtain ⟨vs, g1, g2⟩ := hr.at_ n _ p hx hn
      match ds, rd with
      | [], .nil => exact absurd rfl hxs
      | d :: _ :: _, _ => cases d <;> exact hp.elim
      | [d], .cons h1 .nil =>
        cases h1 with
        | int i =>
          simp only at hp
          split at hp
          · rename_i k hk
            split at hp
            · rename_i y hy
              split at hp
              · rename_i hb
                obtain ⟨z, e1, e2⟩ := g2.get hy
                obtain ⟨q1, q2⟩ := hr.setC (o := .lst (vs.eraseIdx k)) hx hn rfl (c' := .lst (ys.eraseIdx k)) rfl ⟨_, upd_same, (g2.eraseIdx k).mono (Keeps.put g1 (fun _ => nofun) (fun _ _ => nofun)) (Ext.refl _)⟩
                exact mt_popAt pins s σ H _ _ v us Q I rx rv ⟨p, vs, i, k, z, rfl, rfl, g1, hb.1, hb.2, by rw [← g2.length]; exact hk, e1, hp ρ z _ (Ext.refl _) q2 q1 (e2.mono q2 (Ext.refl _))⟩
              · exact hp.elim
            · exact hp.elim
          · exact hp.elim
        | _ => exact hp.elim
    · exact hp.elim
  | _ => exact hp.elim
theorem ty_list {T : Tx} {H : Hp} {ρ : List Addr} {h : Hs} (hr : HR T H ρ h) {o : D} {x : V} (ro : RD T.K H ρ o x) {n : Nat} {ys : List D} (e : o = .loc n) (hx : h[n]? = some (.lst ys)) : tyV T.K "list" x H := by
  subst e
  cases ro with
  | loc hn =>
    obtain ⟨vs, g1, _⟩ := hr.at_ n _ _ hx hn
    exact .inl ⟨rfl, vs, SqL.of g1⟩
end
end FL
set_option autoImplicit false
set_option linter.all false
set_option maxRecDepth 100000
set_option maxHeartbeats 2000000
/-! FL, part X: own exceptions class E(SolverError) with super().__init__(f'refused: {code}'); self.code = code. -/
namespace FL
open PySem PySem.W PySem.Calls PyProof.Rows PySem.HandSPX
namespace EX
def iA (p1 p2 : Pos) : Arguments := { posonlyargs := [], args := [{ arg := "self", annotation := none, pos := p1 }, { arg := "code", annotation := none, pos := p2 }], vararg := none, kwonlyargs := [], kw_defaults := [], kwarg := none, defaults := [] }
def iJ (k : Nat) (q1 q2 q3 q4 : Pos) : Expr := .JoinedStr [.Constant (.str "refused: ") k q1, .FormattedValue (.Name "code" q2) (-1) none q3] q4
def iB (k : Nat) (p0 p1 p2 p3 p4 q1 q2 q3 q4 r1 r2 r3 r4 : Pos) : List Stmt :=
  [.Expr (.Call (.Attribute (.Call (.Name "super" p0) [] [] p1) "__init__" p2) [iJ k q1 q2 q3 q4] [] p3) p4, .Assign [.Attribute (.Name "self" r1) "code" r2] (.Name "code" r3) r4]
def iS : Scope := { kind := .function, names := [(PySem.Str.ofString "self", .local), (PySem.Str.ofString "code", .local), (PySem.Str.ofString "__class__", .free), (PySem.Str.ofString "super", .globalImplicit)], isGenerator := false, isCoroutine := false, more := [] }
/-- what the written part says of the class under the name cn, at C, and of its __init__, at fI -/
structure Txt (prog : Program) (K : Frag) (mg : Str → Option Value) (cn : Str) (C fI : Addr) : Prop where
  gC : mg cn = some (.ref C)
  gS : mg "super" = none
  pS : (prog.main.scope.names.lookup ("super" : Str)).isSome = false
  cls : ∃ nm q N bs bm sn sub ab col dd k0 k1 k2 k3 k5, K.lookup C = some (excClassObj nm q C N bs bm true sn sub ab col dd k0 k1 k2 k3 k5 "ValueError.__new__") ∧ refsVE bm = true
  sa : findIn K (.ref C) "__setattr__" = some (some (.builtin "object.__setattr__"))
  ga : findIn K (.ref C) "__getattribute__" = some (some (.builtin "BaseException.__getattribute__"))
  gg : findIn K (.ref C) "__getattr__" = some none
  noN : findIn K (.ref C) "code" = some none
  iC : findIn K (.ref C) "__init__" = some (some (.ref fI))
  tC : typeIn K (.ref fI) = some (.type "function")
  kC : keepIn K (.ref C) = true
  exC : subIn K (.ref C) (.type "BaseException") = some true
  veC : subIn K (.ref C) (.type "ValueError") = some true
  tyC : typeIn K (.ref C) = some (.type "type")
  hdC : hasDictIn K C = true
  suI : ∀ cd, clsIn K C = some cd → alongIn K "__init__" ((cd.mro.dropWhile (· != .ref C)).drop 1) = some (some (.builtin "ValueError.__init__"))
  mrC : mroIn K C (.ref C) = some true
  opq : nsIn K cStatics "thirdparty.any" = some none
  fn : ∃ (oc : Value) (od : Option Addr) (doc pm : Value) (an : Option Addr) (cda cc : Addr) (ct : Value) (osl : Array (Option Value)) (k : Nat) (a1 a2 p0 p1 p2 p3 p4 q1 q2 q3 q4 r1 r2 r3 r4 : Pos) (qual : Str) (cl : Value) (cld : Option Addr) (csl : Array (Option Value)) (ccl : Value) (cdd : Option Addr) (vs : Array Value) (ccs : Array (Option Value)) (file : Str) (tf : Tok),
    K.lookup fI = some ⟨oc, od, .func (ksFn "__init__" qual (iA a1 a2) (iB k p0 p1 p2 p3 p4 q1 q2 q3 q4 r1 r2 r3 r4) iS .none .none doc pm an (.ref cda) ct cc), osl⟩ ∧ codeIn K (.ref cda) qual = true ∧ p2.endLine = p3.line ∧
    K.lookup cc = some ⟨cl, cld, .cell (some (.ref C)), csl⟩ ∧ K.lookup cda = some ⟨ccl, cdd, .fields vs, ccs⟩ ∧ vs[2]? = some (.str file tf) ∧ ((prog.main.file : Str) == file) = true
/-- .. told of the written part alone -/
structure TxtK (prog : Program) (K : Frag) (cn : Str) (C fI : Addr) : Prop where
  gC : nsIn K mainGlobals cn = some (some (.ref C))
  gS : nsIn K mainGlobals "super" = some none
  pS : (prog.main.scope.names.lookup ("super" : Str)).isSome = false
  cls : ∃ nm q N bs bm sn sub ab col dd k0 k1 k2 k3 k5, K.lookup C = some (excClassObj nm q C N bs bm true sn sub ab col dd k0 k1 k2 k3 k5 "ValueError.__new__") ∧ refsVE bm = true
  sa : findIn K (.ref C) "__setattr__" = some (some (.builtin "object.__setattr__"))
  ga : findIn K (.ref C) "__getattribute__" = some (some (.builtin "BaseException.__getattribute__"))
  gg : findIn K (.ref C) "__getattr__" = some none
  noN : findIn K (.ref C) "code" = some none
  iC : findIn K (.ref C) "__init__" = some (some (.ref fI))
  tC : typeIn K (.ref fI) = some (.type "function")
  kC : keepIn K (.ref C) = true
  exC : subIn K (.ref C) (.type "BaseException") = some true
  veC : subIn K (.ref C) (.type "ValueError") = some true
  seC : subIn K (.ref C) (.ref C) = some true
  tyC : typeIn K (.ref C) = some (.type "type")
  hdC : hasDictIn K C = true
  suI : ks_superIn K C C "__init__" = some (some (.builtin "ValueError.__init__"))
  mrC : mroIn K C (.ref C) = some true
  opq : nsIn K cStatics "thirdparty.any" = some none
  fn : ∃ (oc : Value) (od : Option Addr) (doc pm : Value) (an : Option Addr) (cda cc : Addr) (ct : Value) (osl : Array (Option Value)) (k : Nat) (a1 a2 p0 p1 p2 p3 p4 q1 q2 q3 q4 r1 r2 r3 r4 : Pos) (qual : Str) (cl : Value) (cld : Option Addr) (csl : Array (Option Value)) (ccl : Value) (cdd : Option Addr) (vs : Array Value) (ccs : Array (Option Value)) (file : Str) (tf : Tok),
    K.lookup fI = some ⟨oc, od, .func (ksFn "__init__" qual (iA a1 a2) (iB k p0 p1 p2 p3 p4 q1 q2 q3 q4 r1 r2 r3 r4) iS .none .none doc pm an (.ref cda) ct cc), osl⟩ ∧ codeIn K (.ref cda) qual = true ∧ p2.endLine = p3.line ∧
    K.lookup cc = some ⟨cl, cld, .cell (some (.ref C)), csl⟩ ∧ K.lookup cda = some ⟨ccl, cdd, .fields vs, ccs⟩ ∧ vs[2]? = some (.str file tf) ∧ ((prog.main.file : Str) == file) = true
theorem TxtK.txt {prog : Program} {K : Frag} {mg : Str → Option Value} {cn : Str} {C fI : Addr} {h : Heap} (T : TxtK prog K cn C fI) (X : K.In h) (g : h.Ns mainGlobals mg) : Txt prog K mg cn C fI :=
  ⟨mg_of X g T.gC, mg_none_of X g T.gS, T.pS, T.cls, T.sa, T.ga, T.gg, T.noN, T.iC, T.tC, T.kC, T.exC, T.veC, T.tyC, T.hdC, fun cd hc => by have e := T.suI; unfold ks_superIn at e; rw [hc] at e; exact e, T.mrC, T.opq, T.fn⟩
theorem TxtK.te {prog : Program} {K : Frag} {cn : Str} {C fI : Addr} (T : TxtK prog K cn C fI) : exmOne K (.ref C) (.ref C) = some true := exm_ref T.exC T.hdC T.tyC T.seC
theorem txtK_mk {prog : Program} {K : Frag} {cn : Str} {C fI S N : Addr} {nm q : Str} {bs : List Value} {sn : List Str} {sub : List Value} {ab : Bool} {col : Option Bool} {dd : Option Addr} {m0 m1 m2 m3 m5 : Option Value}
    {oc : Value} {od : Option Addr} {doc pm : Value} {an : Option Addr} {cda cc : Addr} {ct : Value} {osl : Array (Option Value)} {k : Nat} {a1 a2 p0 p1 p2 p3 p4 q1 q2 q3 q4 r1 r2 r3 r4 : Pos} {qual : Str} {cl : Value} {cld : Option Addr} {csl : Array (Option Value)} {ccl : Value} {cdd : Option Addr} {vs : Array Value} {ccs : Array (Option Value)} {file : Str} {tf : Tok}
    (gC : nsIn K mainGlobals cn = some (some (.ref C))) (gS : nsIn K mainGlobals "super" = some none) (pS : (prog.main.scope.names.lookup ("super" : Str)).isSome = false)
    (xC : K.lookup C = some (excClassObj nm q C N bs [.ref S, .type "ValueError", .type "Exception", .type "BaseException", .type "object"] true sn sub ab col dd m0 m1 m2 m3 m5 "ValueError.__new__"))
    (sa : findIn K (.ref C) "__setattr__" = some (some (.builtin "object.__setattr__"))) (ga : findIn K (.ref C) "__getattribute__" = some (some (.builtin "BaseException.__getattribute__"))) (gg : findIn K (.ref C) "__getattr__" = some none) (noN : findIn K (.ref C) "code" = some none)
    (iC : findIn K (.ref C) "__init__" = some (some (.ref fI))) (tC : typeIn K (.ref fI) = some (.type "function")) (kC : keepIn K (.ref C) = true) (exC : subIn K (.ref C) (.type "BaseException") = some true) (veC : subIn K (.ref C) (.type "ValueError") = some true) (seC : subIn K (.ref C) (.ref C) = some true)
    (tyC : typeIn K (.ref C) = some (.type "type")) (hdC : hasDictIn K C = true) (suI : ks_superIn K C C "__init__" = some (some (.builtin "ValueError.__init__"))) (mrC : mroIn K C (.ref C) = some true) (opq : nsIn K cStatics "thirdparty.any" = some none)
    (lF : K.lookup fI = some ⟨oc, od, .func (ksFn "__init__" qual (iA a1 a2) (iB k p0 p1 p2 p3 p4 q1 q2 q3 q4 r1 r2 r3 r4) iS .none .none doc pm an (.ref cda) ct cc), osl⟩) (cF : codeIn K (.ref cda) qual = true) (hl : p2.endLine = p3.line)
    (lc : K.lookup cc = some ⟨cl, cld, .cell (some (.ref C)), csl⟩) (ld : K.lookup cda = some ⟨ccl, cdd, .fields vs, ccs⟩) (hv : vs[2]? = some (.str file tf)) (hf : ((prog.main.file : Str) == file) = true) : ∃ C fI, TxtK prog K cn C fI :=
  ⟨C, fI, gC, gS, pS, ⟨nm, q, N, bs, _, sn, sub, ab, col, dd, m0, m1, m2, m3, m5, xC, by show refsVE [.type "ValueError", .type "Exception", .type "BaseException", .type "object"] = true; decide +kernel⟩, sa, ga, gg, noN, iC, tC, kC, exC, veC, seC, tyC, hdC, suI, mrC, opq,
    ⟨oc, od, doc, pm, an, cda, cc, ct, osl, k, a1, a2, p0, p1, p2, p3, p4, q1, q2, q3, q4, r1, r2, r3, r4, qual, cl, cld, csl, ccl, cdd, vs, ccs, file, tf, lF, cF, hl, lc, ld, hv, hf⟩⟩
/-- what __init__ leaves of a fresh exception at x -/
structure InitEnd (h h' : Heap) (x C dx : Addr) (v : Value) : Prop where
  keep : ∀ b o, b ≠ x → h.get? b = some o → h'.get? b = some o
  obj : ∃ t1 : Addr, h'.get? x = some { cls := .ref C, dict := some dx, data := .fields #[.ref t1, .none, .none, .none, .bool false, .none] }
  dbig : h.objs.size ≤ dx
  dne : dx ≠ x
  ns : h'.Ns1 dx (fun y => if y = "code" then some v else none)
section
variable {prog : Program} {w : World} {M : Model} {A : Around} {E : Value → Shared → Prop} {R : Result → Shared → Prop} {s : Shared} {K : Frag} {mg mb : Str → Option Value} {cn : Str} {C fI : Addr}
theorem call_mwVE {h : Heap} {g : Array GenState} {d : Drawn} {tk : Nat} {os : OsState} {u x t : Addr} {rest : List Value} {Q : Value → Shared → Prop} {nm q : Str} {N : Addr} {bs bm : List Value} {hdct : Bool} {sn : List Str} {sub : List Value} {ab : Bool} {col : Option Bool} {dd : Option Addr} {k0 k1 k2 k3 k5 : Option Value}
    (hC : h.get? C = some (excClassObj nm q C N bs bm hdct sn sub ab col dd k0 k1 k2 k3 k5 "ValueError.__new__")) (hu : h.get? u = some (kxs_mw "ValueError.__init__" x)) (he : h.get? x = some (excO C t)) (hz : rest.length ≤ sizeLine)
    (hq : ∀ h' t1, (∀ b o, b ≠ x → h.get? b = some o → h'.get? b = some o) → h'.get? x = some (excO C t1) → Q .none ⟨h', g, d, tk, os⟩) :
    wpAny (model prog w) A (call (.ref u) rest) Q E ⟨h, g, d, tk, os⟩ := by
  refine wpAny_call (codeAny_of_tree ?_)
  show wpAny _ A.in1 (callAny (.ref u) ⟨rest, []⟩) _ _ _
  simp only [callAny]
  refine wpAny_bind (wpAny_load hu ?_)
  simp only [kxs_mw, show (Value.type "method-wrapper" == Value.type "method" || Value.type "method-wrapper" == Value.type "builtin_function_or_method" || Value.type "method-wrapper" == Value.type "method-wrapper") = true by decide, if_true]
  refine KFB.if_so (by decide) ?_
  refine wpAny_bind (check_bound_init F.excBase_ValueError.toExcCallFacts hC he rfl ?_)
  refine wpAny_bind (wpAny_pure (wpAny_pure ?_))
  refine ⟨plainId_quiet F.excBase_ValueError.init.plain _, codeAny_builtin F.excBase_ValueError.initEntry ?_⟩
  exact exc_init_tree (cls := .ref C) (t0 := t) (dv := none) (c2 := .none) (c3 := .none) (b4 := .bool false) he hz fun h' k e' _ => hq h' _ k e'
theorem ldE {env : Env} {m : Str → Option Value} {x : Str} {pos : Pos} {v : Value} {Q : Value → Shared → Prop} (hn : s.heap.Ns env.locals m) (hv : m x = some v) (h : Q v s)
    (hk : env.scope.kind = .function) (hl : env.kindOf x = some .local) (hd : (x == ("__debug__" : Str)) = false := by decide) : wpAny M A (eval (.Name x pos) env) Q E s := wpAny_Name (wpAny_loadName_local hk hl hn hv h) hd
theorem init_ok (T : Txt prog K mg cn C fI) {x t0 : Addr} {y : Str} {ty : Tok} (X : K.In s.heap) (hlim : s.heap.NoLimit) (hG : s.heap.Ns mainGlobals mg) (hB : s.heap.Ns builtinsNs mb) (hBs : mb "super" = some (.type "super")) (hx : s.heap.get? x = some (excO C t0)) (hnx : K.lookup x = none) (hroom : A.depth < recursionLimit) (hy : y.length ≤ 1000)
    (hq : ∀ h' tk dx, InitEnd s.heap h' x C dx (.str y ty) → R (.ok (.ret .none)) { s with heap := h', toks := tk }) :
    codeAny (model prog w) A (.call (.ref fI) ⟨[.ref x, .str y ty], []⟩) R s := by
  obtain ⟨oc, od, doc, pm, an, cda, cc, ct, osl, k, a1, a2, p0, p1, p2, p3, p4, q1, q2, q3, q4, r1, r2, r3, r4, qual, cl, cld, csl, ccl, cdd, vs, ccs, file, tf, ho, hcd, hln, hcell, hcode, hvs, hfile⟩ := T.fn
  obtain ⟨nm, q, N, bs, bm, sn, sub, ab, col, dd, k0, k1, k2, k3, k5, hC, hbm⟩ := T.cls
  have hcl : clsIn K C = some { name := nm, bases := bs, mro := .ref C :: bm, ns := N, qualname := q, hasDict := true, slotNames := sn, subclasses := sub, abstract := ab, collection := col, hasDel := false } := by unfold clsIn; rw [hC] <;> rfl
  refine ks_codeAny_call_defAt (fd := ksFn "__init__" qual (iA a1 a2) (iB k p0 p1 p2 p3 p4 q1 q2 q3 q4 r1 r2 r3 r4) iS .none .none doc pm an (.ref cda) ct cc) (body := iB k p0 p1 p2 p3 p4 q1 q2 q3 q4 r1 r2 r3 r4) (binds := [("self", .ref x), ("code", .str y ty)]) hroom (X _ _ ho) rfl hlim (codeRec_of X hcd) rfl
    (BindsTo.of_eq (by first | rfl | with_unfolding_all rfl)) (by show ∀ z ∈ iS.names, z.2 ≠ .cell; decide +kernel) (by show ∀ z ∈ ([("self", .ref x), ("code", .str y ty)] : List (Str × Value)), iS.names.lookup z.1 = some .local; intro z hz; simp only [List.mem_cons, List.not_mem_nil, or_false] at hz; rcases hz with rfl | rfl <;> rfl) (fun h₁ hns hk₁ => ?_) rfl rfl rfl
  have hL : s.heap.objs.size ≠ x := Nat.ne_of_gt (Heap.lt_size hx)
  have X₁ : K.In h₁ := X.keeps hk₁
  have hx₁ := hk₁ _ _ hx
  show PySem.wpAt (model prog w) (A.deeper (ksEnv qual iS s.heap.objs.size fI (.ref cda) cc)) (.func (iB k p0 p1 p2 p3 p4 q1 q2 q3 q4 r1 r2 r3 r4) (ksEnv qual iS s.heap.objs.size fI (.ref cda) cc)) (execs (iB k p0 p1 p2 p3 p4 q1 q2 q3 q4 r1 r2 r3 r4) (ksEnv qual iS s.heap.objs.size fI (.ref cda) cc)) _ _ _
  have hn1 : h₁.Ns s.heap.objs.size (fun x_1 => ([("self", Value.ref x), ("code", Value.str y ty)] : List (Str × Value)).reverse.lookup x_1) := hns
  have hself : (([("self", Value.ref x), ("code", Value.str y ty)] : List (Str × Value)).reverse.lookup ("self" : Str)) = some (.ref x) := by rfl
  have hcode1 : (([("self", Value.ref x), ("code", Value.str y ty)] : List (Str × Value)).reverse.lookup ("code" : Str)) = some (.str y ty) := by rfl
  have hform : ∀ env : Env, methodCallForm ([iJ k q1 q2 q3 q4].length + ([] : List Keyword).length) (backTo p3 (starEach [iJ k q1 q2 q3 q4] env)) (backToKw p3 (keywordEach [] env)) = true := fun env => by rfl
  refine ks_wpAt_execs_cons (ks_wpAt_Expr_any (ks_wpAt_MethodCall (pl := L2.plainOf (.Call (.Name "super" p0) [] [] p1) (ksEnv qual iS s.heap.objs.size fI (.ref cda) cc)) ?_ ?_) rfl rfl)
  rotate_left
  · rw [arm_eval_Call]
    have e := fun ov => L2.mcall_line (o := .Call (.Name "super" p0) [] [] p1) (m := "__init__") (apos := p2) (pos := p3) (env := ksEnv qual iS s.heap.objs.size fI (.ref cda) cc) (ov := ov) (hform (ksEnv qual iS s.heap.objs.size fI (.ref cda) cc)) (by rw [hln]; simp)
    simp only [e]
    rfl
  -- super()
  obtain ⟨oD, hD1, hD2⟩ : ∃ oD, h₁.get? C = some oD ∧ oD.data = .cls { name := nm, bases := bs, mro := .ref C :: bm, ns := N, qualname := q, hasDict := true, slotNames := sn, subclasses := sub, abstract := ab, collection := col, hasDel := false } := ⟨_, X₁ _ _ hC, rfl⟩
  refine ks_wpAt_super_base (f := fI) (cc := cda) (of := ⟨oc, od, .func (ksFn "__init__" qual (iA a1 a2) (iB k p0 p1 p2 p3 p4 q1 q2 q3 q4 r1 r2 r3 r4) iS .none .none doc pm an (.ref cda) ct cc), osl⟩) rfl rfl (by decide) rfl (X₁ _ _ ho) rfl rfl rfl (X₁ _ _ hcode) rfl hvs hfile T.pS ?_
  refine ks_loadName_global rfl rfl (loadGlobal_builtin (env := ksEnv qual iS s.heap.objs.size fI (.ref cda) cc) (hG.keeps hk₁) T.gS (hB.keeps hk₁) hBs ⟨rfl, ?_⟩)
  refine wpAny_loadName_free rfl rfl rfl ⟨_, X₁ _ _ hcell, rfl⟩ ?_
  refine wpAny_loadName_local rfl rfl hn1 hself ?_
  refine ks_wpAny_isType_cls hD1 hD2 ⟨rfl, ?_⟩
  refine ks_wpAny_call_super hD1 hD2 hx₁ rfl (fun c e => by cases e) (looks_mroIn X₁ T.mrC) (fun h2 hso k2 => ?_)
  have X2 : K.In h2 := X₁.keeps k2
  have hx2 := k2 _ _ hx₁
  have I2 : InstAt h2 x (excO C t0) C none := ⟨hx2, rfl, rfl, trivial⟩
  refine kxs_getMethod kxs_ValueError hso (looks_opaque X2 T.opq) (l₀ := .ref C :: bm) (fun A Q E s' k' q' => wpAny_bind ((looks_clsIn X2 hcl) A _ E s' k' (wpAny_pure q'))) rfl X2 (T.suI _ hcl) (I2.type.andThen (looks_subIn X2 T.veC)) (ks_ne X2 I2 hcl) (by decide) ?_
  have k3 : ∀ b o, h₁.get? b = some o → (h2.push (kxs_mw "ValueError.__init__" x)).get? b = some o := fun b o e => Heap.get?_push_of_some _ (k2 b o e)
  have hu3 : (h2.push (kxs_mw "ValueError.__init__" x)).get? h2.objs.size = some (kxs_mw "ValueError.__init__" x) := Heap.get?_push_size _ rfl
  generalize hh3 : h2.push (kxs_mw "ValueError.__init__" x) = h3 at k3 hu3 ⊢
  generalize h2.objs.size = u at hu3 ⊢
  have hn3 : h3.Ns s.heap.objs.size _ := hn1.keeps k3
  refine kxs_callWith (i := "ValueError.__init__") (x := x) (by rfl) (evalArgs_plain ?_)
  -- f'refused: {code}'
  have X3 : K.In h3 := X₁.keeps k3
  have hx3 := k3 _ _ hx₁
  have len2 : (Str.empty ++ ("refused: " : Str) ++ y).length ≤ sizeLine := by
    show (Str.empty.cps ++ ("refused: " : Str).cps ++ y.cps).size ≤ _
    have e9 : (("refused: " : Str).cps).size = 9 := by decide +kernel
    have e0 : (Str.empty.cps).size = 0 := by decide +kernel
    have ey : y.cps.size ≤ 1000 := hy
    rw [Array.size_append, Array.size_append, e9, e0, sizeLine_eq]
    omega
  have len1 : (Str.empty ++ ("refused: " : Str)).length ≤ sizeLine := by decide +kernel
  have fin : ∀ (tk : Nat) (out : Value), wpAny (model prog w) (A.deeper (ksEnv qual iS s.heap.objs.size fI (.ref cda) cc)) (call (.ref u) [out]) (fun _ s' => PySem.wpAt (model prog w) (A.deeper (ksEnv qual iS s.heap.objs.size fI (.ref cda) cc)) (.func (iB k p0 p1 p2 p3 p4 q1 q2 q3 q4 r1 r2 r3 r4) (ksEnv qual iS s.heap.objs.size fI (.ref cda) cc))
      (execs [.Assign [.Attribute (.Name "self" r1) "code" r2] (.Name "code" r3) r4] (ksEnv qual iS s.heap.objs.size fI (.ref cda) cc)) (fun f s' => R (.ok (.ret (match f with | .ret v => v | _ => .none))) s')
      (fun e s' => wpAny (model prog w) (A.deeper (ksEnv qual iS s.heap.objs.size fI (.ref cda) cc)) (leaving (ksEnv qual iS s.heap.objs.size fI (.ref cda) cc) e) (fun _ s'' => R (.error e) s'') (fun e' s'' => R (.error e') s'') s') s')
      (fun e s' => wpAny (model prog w) (A.deeper (ksEnv qual iS s.heap.objs.size fI (.ref cda) cc)) (leaving (ksEnv qual iS s.heap.objs.size fI (.ref cda) cc) e) (fun _ s'' => R (.error e) s'') (fun e' s'' => R (.error e') s'') s') ⟨h3, s.gens, s.drawn, tk, s.os⟩ := by
    intro tk out
    refine call_mwVE (X3 _ _ hC) hu3 hx3 (by show 1 ≤ sizeLine; rw [sizeLine_eq]; omega) fun h4 t1 k4 hx4 => ?_
    have X4 : K.In h4 := fun a o e => k4 a o (fun z => by rw [z, hnx] at e; cases e) (X3 a o e)
    have hn4 : h4.Ns s.heap.objs.size _ := hn3.at fun o e => k4 _ o hL e
    refine ks_wpAt_execs_cons (ks_wpAt_Assign_Attr (wpAt_of_wpAny (ldE hn4 hcode1 (ldE hn4 hself ?_ rfl rfl) rfl rfl)))
    refine set_plain X4 (ox := excO C t1) (od := none) ⟨hx4, rfl, rfl, trivial⟩ T.sa ?_
    refine exc_osa X4 hx4 hcl (show refsVE (.ref C :: bm) = true from hbm) rfl T.noN (fun h5 tk5 dx k5 dn dne hx5 hn5 => ?_)
    refine wpAt_of_wpAny (wpAny_execs_nil (hq h5 tk5 dx ⟨fun b o hb e => k5 b o hb (k4 b o hb (k3 b o (hk₁ b o e))), ⟨t1, hx5⟩, ?_, dne, hn5⟩))
    have lt4 : s.heap.objs.size < h4.objs.size := hn4.lt
    exact Nat.le_of_lt (Nat.lt_of_lt_of_le lt4 dn)
  refine spliced_cons ?_
  show wpAny _ _ (eval (.JoinedStr [.Constant (.str "refused: ") k q1, .FormattedValue (.Name "code" q2) (-1) none q3] q4) (ksEnv qual iS s.heap.objs.size fI (.ref cda) cc)) _ _ _
  refine wpAny_JoinedStr (Calls.Constant_str ⟨_, _, rfl, len1, wpAny_FormattedValue_plain (ldE hn3 hcode1 (wpAny_formatField_str ⟨y, _, rfl, len2, len2, spliced_nil ⟨hu3, fin _ _⟩⟩ ⟨y, _, rfl, len2, len2, spliced_nil ⟨hu3, fin _ _⟩⟩ (by rw [sizeLine_eq]; omega)) rfl rfl)⟩)
/-- a made one -/
structure Made (h h' : Heap) (e C d : Addr) (v : Value) : Prop where
  keep : ∀ b o, h.get? b = some o → h'.get? b = some o
  new : h.objs.size ≤ e
  obj : ∃ oe vs, h'.get? e = some oe ∧ oe.cls = .ref C ∧ oe.dict = some d ∧ oe.data = .fields vs ∧ vs[1]? = some .none
  dbig : h.objs.size ≤ d
  dne : d ≠ e
  ns : h'.Ns1 d (fun y => if y = "code" then some v else none)
theorem made_ok (T : Txt prog K mg cn C fI) {y : Str} {ty : Tok} (X : K.In s.heap) (hlim : s.heap.NoLimit) (hG : s.heap.Ns mainGlobals mg) (hB : s.heap.Ns builtinsNs mb) (hBs : mb "super" = some (.type "super")) (hroom : A.depth + 1 < recursionLimit) (hy : y.length ≤ 1000)
    (hq : ∀ h' tk e d, Made s.heap h' e C d (.str y ty) → R (.ok (.ret (.ref e))) { s with heap := h', toks := tk }) :
    codeAny (model prog w) A (.call (.ref C) ⟨[.str y ty], []⟩) R s := by
  obtain ⟨nm, q, N, bs, bm, sn, sub, ab, col, dd, k0, k1, k2, k3, k5, hC, hbm⟩ := T.cls
  obtain ⟨hp, g, dr, tk, os⟩ := s
  have k : ∀ b o, hp.get? b = some o → ((hp.push (kdv_tup [.str y ty])).push (excO C hp.objs.size)).get? b = some o := fun b o e => Heap.get?_push_of_some _ (Heap.get?_push_of_some _ e)
  have hget : ((hp.push (kdv_tup [.str y ty])).push (excO C hp.objs.size)).get? (hp.objs.size + 1) = some (excO C hp.objs.size) := by heap_get
  have hnx : K.lookup (hp.objs.size + 1) = none := by
    cases e : K.lookup (hp.objs.size + 1) with
    | none => rfl
    | some o =>
      have z : hp.get? (hp.objs.size + 1) = some o := X _ _ e
      exact absurd (Nat.lt_of_succ_lt (Heap.lt_size z)) (Nat.lt_irrefl _)
  refine call_own F.excBase_ValueError (fun X => refsVE_contains X bm hbm) (X _ _ hC) (looks_findIn X T.iC) (fun self => bind_fn X self T.tC) (by show 1 ≤ sizeLine; rw [sizeLine_eq]; omega) ?_
  refine init_ok (s := ⟨(hp.push (kdv_tup [.str y ty])).push (excO C hp.objs.size), g, dr, tk, os⟩) T (X.keeps k) (hlim.keeps k) (hG.keeps k) (hB.keeps k) hBs hget hnx ?_ hy fun h' tk' dx ⟨k', ⟨t1, hx⟩, dn, dne, hns⟩ => ?_
  · show A.depth + 1 < recursionLimit
    exact hroom
  · have old : ∀ b o, hp.get? b = some o → h'.get? b = some o := fun b o e => k' b o (Nat.ne_of_lt (Nat.lt_succ_of_lt (Heap.lt_size e))) (k b o e)
    have z : hp.objs.size + 1 + 1 ≤ dx := by
      first
        | (simpa only [Heap.size_push] using dn)
        | exact dn
        | (have q := dn; rw [Heap.size_push, Heap.size_push] at q; exact q)
    exact ⟨rfl, hq h' tk' (hp.objs.size + 1) dx ⟨old, Nat.le_succ _, ⟨_, _, hx, rfl, rfl, rfl, rfl⟩, Nat.le_trans (Nat.le_trans (Nat.le_succ _) (Nat.le_succ _)) z, dne, hns⟩⟩
end
end EX
end FL
namespace FL.EX
open PySem PySem.Spec PyProof.Rows L2
theorem relO_code {v : V} {v' : Value} (r : L2.RelV v v') (f : Str) : L2.RelO (List.lookup f [(("code" : Str), v)]) (if f = "code" then some v' else none) := by
  by_cases hw : f = "code"
  · subst hw
    rw [if_pos rfl]
    have q : List.lookup ("code" : Str) [(("code" : Str), v)] = some v := by simp [List.lookup]
    rw [q]
    exact r
  · rw [if_neg hw]
    have qw : (f == ("code" : Str)) = false := by simpa using hw
    have q2 : List.lookup f [(("code" : Str), v)] = none := by simp [List.lookup, qw]
    rw [q2]
    trivial
section
variable {X : Cx} {C fI : Addr} {cn : Str}
def tMk (C : Addr) (ta : TA) : L2.St → Hp → XK → Prop := fun σ H Q => ta σ H fun vs H1 => ∃ y : Str, vs = [.str y] ∧ y.length ≤ 1000 ∧ ∀ d, H1 d = none → Q (.ref C) (some d) (upd H1 d (.xd [("code", .str y)]))
theorem pmk {a : Expr} {ta : TA} {p pos : Pos} {k : Nat} (T : Txt X.prog X.K X.mg cn C fI) (hr : Room k X.A) (ha : PA X [a] ta) (hg : Gl X cn) (hd : (cn == ("__debug__" : Str)) = false)
    (he : starEach (a :: []) X.env = (false, eval a X.env) :: starEach [] X.env) :
    PMk X (.Call (.Name cn p) [a] [] pos) (tMk C ta) := by
  intro pins s σ H Q I h
  refine wpAny_Call_Name_kw (ld_glob I hg T.gC ?_ hd)
  refine PySem.W.callWith_K (h₀ := X.base) I.ok.mod.kin T.kC (thn (ha.run pos pins s σ H _ I h) fun us s1 hh => ?_) he (by rfl)
  obtain ⟨vs, H1, I1, r1, y, ev, hy, q1⟩ := hh
  subst ev
  refine ⟨I1.kIn, ?_⟩
  cases r1 with
  | cons rv rn =>
    rename_i v' us'
    cases rn
    obtain ⟨ty, rfl⟩ := rv
    show wpAny _ _ (call (.ref C) [.str y ty]) _ _ _
    have hlim := I1.nolimit
    obtain ⟨mb, b1, b2⟩ := I1.mod.blt
    have hB := b1.keeps I1.bk
    have hG := I1.mod.glob.keeps I1.bk
    obtain ⟨hp, g, dr, tk, os⟩ := s1
    refine wpAny_call (made_ok T I1.kIn hlim hG hB ((b2 "super" (by decide)).trans (by first | rfl | kernel_rfl | decide +kernel)) (by have := hr.dp; omega) hy fun h' tk' e d M => ?_)
    show MkP X pins σ Q (.ref e) ⟨h', g, dr, tk', os⟩
    obtain ⟨oe, fv, hoe, hc, hd, hdat, h1⟩ := M.obj
    have hns := M.ns
    obtain ⟨G', g1, g2⟩ := restrict h' fun b => decide (b ≠ e)
    have gk : ∀ b, b ≠ e → G'.get? b = h'.get? b := fun b hb => g1 b (decide_eq_true hb)
    have ge : G'.get? e = none := g2 e (by simp)
    have old : ∀ b o, hp.get? b = some o → G'.get? b = some o := fun b o q => (gk b (Nat.ne_of_lt (Nat.lt_of_lt_of_le (Heap.lt_size q) M.new))).trans (M.keep b o q)
    have ob : L2.ObjOk X.prog X.w (upd H1 d (.xd [("code", .str y)])) G' d (.xd [("code", .str y)]) :=
      ⟨_, hns.at (fun o q => (gk d M.dne).trans q), fun f => relO_code (v := .str y) ⟨ty, rfl⟩ f⟩
    have J : L2.Inv X pins σ (upd H1 d (.xd [("code", .str y)])) ⟨G', g, dr, tk', os⟩ := I1.laid (t' := tk') old M.dbig ob
    refine ⟨e, oe, fv, ⟨G', g, dr, tk', os⟩, _, .ref C, some d, rfl, J, fun b o q => ?_, ge, hoe, ⟨hc, hd⟩, hdat, h1, ?_, rfl, I1.bare, raises_own T.exC T.tyC, q1 d (I1.hok.fresh M.dbig)⟩
    · by_cases hb : b = e
      · have q' : G'.get? b = some o := q
        rw [hb, ge] at q'; cases q'
      · exact (gk b hb).symm.trans q
    · rw [upd_ne (Ne.symm M.dne)]
      exact I1.hok.fresh M.new
end
end FL.EX
/-! ### isinstance of a caught own error that has its dict -/
namespace FL.EX
open PySem PySem.W PySem.Spec PySem.Calls PyProof.Rows
section
variable {prog : Program} {w : World} {A : Around} {E : Value → Shared → Prop} {s : Shared} {K : Frag} {x D : Addr} {ox : Obj} {od : Option Obj}
theorem find_data {C : Addr} {name : Str} {a g : Value} (hc : (clsIn K C).isSome = true) (ha : findIn K (.ref C) name = some (some a)) (hg : specialIn K a "__get__" = some (some g)) (ht : takesIn K a = some true) : findObj K C od name = some (.bind g a) := by
  obtain ⟨cd, hc⟩ := Option.isSome_iff_exists.mp hc
  unfold findObj
  rw [hc, Option.bind_some, ha, Option.bind_some]
  simp [hg, ht]
theorem class_at {Q : Option Value → Shared → Prop} (T : L2.ExcC K D) (X : K.In s.heap) (I : InstAt s.heap x ox D od) (h : Q (some (.ref D)) { s with toks := s.toks + 1 }) : wpAny (model prog w) A (getAttr? (.ref x) "__class__") Q E s := by
  have hf : findObj K D od "__class__" = some (.bind (.builtin "getset_descriptor.__get__") (.builtin "object.__class__")) := find_data (by obtain ⟨cd, hc, _⟩ := any_some T.hd; rw [hc]; rfl) T.ha T.hn T.ht
  obtain ⟨hp, g, d, t, os⟩ := s
  have L0 := I.type (M := model prog w)
  have sub : Looks (model prog w) hp (isInstance (.ref x) (.type "BaseException")) true := L0.andThen (looks_subIn X T.hs)
  have e2 : (Value.builtin "BaseException.__getattribute__" == Value.builtin "object.__getattribute__") = false := by decide +kernel
  have e1 : (onTheHeap (Value.ref D) && Value.builtin "BaseException.__getattribute__" == Value.builtin "object.__getattribute__") = false := by rw [e2]; rfl
  unfold getAttr? getAttrBy? getAttrBy
  refine wpAny_bind (wpAny_mkText (wpAny_bind (wpAny_attempt (wpAny_holding (wpAny_bind (L0.at (wpAny_bind ((looks_findIn (M := model prog w) X T.hg).at ?_))))))))
  show wpAny _ _ (if (onTheHeap (Value.ref D) && Value.builtin "BaseException.__getattribute__" == Value.builtin "object.__getattribute__") = true then _ else _) _ _ _
  rw [e1, if_neg Bool.false_ne_true]
  unfold getAttrByItsOwn hookBefore
  refine wpAny_bind ?_
  rw [if_pos (show onTheHeap (Value.ref D) = true from rfl)]
  refine (looks_findIn (M := model prog w) X T.hk).at ?_
  refine wpAny_bind (wpAny_attempt (wpAny_holding ?_))
  unfold callGetattribute
  rw [show (false && onTheHeap (Value.builtin "BaseException.__getattribute__")) = false from rfl, if_neg Bool.false_ne_true]
  unfold boundAndCalled
  rw [PySem.F.excAttr_ValueError.ga.bind (.ref x)]
  refine wpAny_bind (wpAny_pure ?_)
  show wpAny _ _ (call (.builtin "BaseException.__getattribute__") [.ref x, .str "__class__" t]) _ _ _
  refine wpAny_call (codeAny_call_builtin PySem.F.excAttr_ValueError.ga.plain PySem.F.entry_bexc_ga ?_)
  refine @check_slot (model prog w) _ _ ⟨hp, g, d, t + 1, os⟩ "BaseException.__getattribute__" "BaseException" "__getattribute__" (.ref x) [.str "__class__" t] [] _ (by decide +kernel) (by decide +kernel) sub (PySem.F.args_bexc_ga (.ref x) (.str "__class__" t)) ?_
  unfold Builtin.«object.__getattribute__»
  refine wpAny_bind (wpAny_of_eq (a := ((Value.ref x : Value), [Value.str "__class__" t])) (by first | rfl | (simp only [slotArgs]; rfl)) ?_)
  refine wpAny_bind (wpAny_pure (wpAny_bind (L0.at (wpAny_bind ((looks_find (M := model prog w) X I hf).at ?_)))))
  show wpAny _ _ (holding [Value.builtin "object.__class__"] (call (.builtin "getset_descriptor.__get__") [.builtin "object.__class__", .ref x, .ref D]) >>= ret) _ _ _
  refine wpAny_bind (wpAny_holding (wpAny_call (class_get (s := ⟨hp, g, d, t + 1, os⟩) (ox := ox) (od := od) X I T.hm ?_)))
  refine wpAny_pure ?_
  show wpAny _ _ (handedOut (.ref D)) _ _ _
  rw [handedOut_of (v := .ref D) rfl]
  first
    | exact wpAny_pure (wpAny_pure h)
    | exact wpAny_pure h
    | exact wpAny_pure (wpAny_bind (wpAny_pure (wpAny_pure h)))
theorem kitx (T : L2.ExcC K D) : KitX K (.ref x) (.ref D) (fun h => InstAt h x ox D od) where
  ty := fun _ _ _ I => I.type
  it := fun _ _ X _ => by
    obtain ⟨cdD, hcD, _⟩ := any_some T.hd
    unfold clsIn at hcD
    split at hcD
    · rename_i c' d' cd' sl' ho
      intro A' Q' E' s' k q
      unfold isType loadHead
      exact wpAny_bind (wpAny_loadPart (k _ _ (X _ _ ho)) (wpAny_pure q))
    · cases hcD
  ne := fun h tp dd its n sl X htp => by
    obtain ⟨cdD, hcD, _⟩ := any_some T.hd
    refine Bool.eq_false_iff.mpr fun q => ?_
    have e : D = tp := Value.ref.inj (beq_iff_eq.mp q)
    subst e
    unfold clsIn at hcD
    split at hcD
    · rename_i c' d' cd' sl' ho
      have z := (X _ _ ho).symm.trans htp
      cases z
    · cases hcD
  ca := fun X I k => class_at T X I k
end
open L2
/-- isinstance(e, S), e the exception that the suite holds (its dict at dd) -/
def rIs (K : PySem.W.Frag) (D S a : Addr) (cls : Value) (d : Option Addr) : List V → Hp → VK → Prop := fun xs H Q => ∃ dd fs, cls = .ref D ∧ d = some dd ∧ xs = [.ref a, .ref S] ∧ H dd = some (.xd fs) ∧ PySem.W.kitOne K (.ref D) (.ref S) = some true ∧ Q (.bl true) H
theorem call_is {X : Cx} {a D S : Addr} {cls : Value} {d : Option Addr} {oe : Obj} {pn : List (Addr × Obj)} (C : ExcC X.K D) (hz : Zc cls d oe) (hf : ∃ vs, oe.data = .fields vs) : CallR (X.suite a ((a, oe) :: pn)) (.builtin "isinstance") (rIs X.K D S a cls d) := by
  intro pins s σ H xs us Q I r h
  obtain ⟨dd, fs, rfl, rfl, rfl, hd, e, q⟩ := h
  cases r with
  | cons rx rr =>
    cases rr with
    | cons rt rr =>
      cases rr
      cases rx
      cases rt
      obtain ⟨hget, _⟩ := I.pin (a, oe) (List.mem_append.mpr (.inl List.mem_cons_self))
      obtain ⟨vs, hv⟩ := hf
      have hx : L2.ObjOk X.prog X.w H s.heap dd (.xd fs) := I.hok dd _ hd
      obtain ⟨mA, hns, _⟩ := hx
      obtain ⟨od, ho, _⟩ := lookIn_ns hns
      have J : PySem.W.InstAt s.heap a oe D (some od) := by
        obtain ⟨oc, odd, oda, osl⟩ := oe
        obtain ⟨h1, h2⟩ := hz
        dsimp only at h1 h2 hv
        subst h1 h2 hv
        exact ⟨hget, rfl, rfl, ho⟩
      exact PySem.W.kia_one (kitx C) I.kIn J e (fun z => nomatch z) fun tk => ⟨.bl true, H, I.kept (t' := tk) fun _ _ z => z, rfl, q⟩
end FL.EX
set_option autoImplicit false
set_option linter.all false
set_option maxRecDepth 100000
/-! FL, part D: FL's syntax beside Python's; soundness of expressions. -/
namespace FL
open PySem L2 PyProof.Rows PySem.SeqAt

/-- the names of the text -/
structure Sg where
  fns : List Str
  clss : List Str
  blt : List Str
  glob : List (Str × D)
  /-- own exceptions: class E(..): def __init__(self, code): super().__init__(f'refused: {code}'); self.code = code -/
  errs : List Str
  /-- a class of theirs, a base -/
  isE : List (Str × Str)
/-- the names of a def (or of a comprehension's block) -/
structure Sx where
  N : List Str
  sc : Scope
  fn : Str → Bool

def isGl (sc : Scope) (x : Str) : Bool := decide (sc.names.lookup x = some .globalImplicit) && !(x == ("__debug__" : Str))
def isVis (sc : Scope) (x : Str) : Bool := match sc.names.lookup x with
  | some .local => !(x == ("__debug__" : Str)) && !(x == ("__classdict__" : Str))
  | some .cell => !(x == ("__debug__" : Str)) && !(x == ("__classdict__" : Str))
  | some .free => !(x == ("__debug__" : Str)) && !(x == ("__classdict__" : Str))
  | _ => false
def isLoc (S : Sx) (x : Str) : Bool := match S.sc.names.lookup x with
  | some .local => true
  | some .cell => S.fn x
  | _ => false
def noStar : Expr → Bool
  | .Starred .. => false
  | _ => true
def noSlice : Expr → Bool
  | .Slice .. => false
  | _ => true
def noSet : Expr → Bool
  | .Set .. => false
  | _ => true
/-- no call (super()) -/
def noCall : Expr → Bool
  | .Call .. => false
  | _ => true
def btName : Bt → Str
  | .len => "len" | .abs => "abs" | .int => "int" | .tuple => "tuple" | .list => "list" | .all => "all" | .any => "any" | .sum => "sum" | .max => "max" | .min => "min" | .sorted => "sorted"
  | .lrange => "list" | .trange => "tuple"
def bmName : Bm → Str
  | .append => "append" | .extend => "extend" | .pop => "pop"
def ftSlots : FT → List Nat
  | .name i => [i]
  | .tup ts => ftSlots ts
  | .tnil => []
  | .tcons t ts => ftSlots t ++ ftSlots ts
def mT (S : Sx) : FT → Expr → Bool
  | .name i, .Name x _ => decide (S.N[i]? = some x) && isLoc S x
  | .tup ts, .Tuple es _ _ => mTs S ts es
  | _, _ => false
where mTs (S : Sx) : FT → List Expr → Bool
  | .tnil, [] => true
  | .tcons t ts, e :: es => noStar e && mT S t e && mTs S ts es
  | _, _ => false
def blk (S : Sx) (scope : Scope) : Sx := ⟨S.N, relS scope S.sc, fun x => scope.names.lookup x == some .cell⟩
def ownOf (S : Sx) (own : List Nat) : List (Str × Nat) := own.map fun i => ((S.N[i]?).getD Str.empty, i)
/-- no test -/
def noIf : FE → Bool
  | .cst (.bl true) => true
  | _ => false
theorem noIf_eq {c : FE} (h : noIf c = true) : c = .cst (.bl true) := by
  unfold noIf at h
  split at h
  · rfl
  · cases h
def isTup : Expr → Bool
  | .Tuple _ _ _ => true
  | _ => false
/-- e.m() alone -/
def viewC (m : Str) : List Expr → Option (Expr × Pos × Pos)
  | [.Call (.Attribute eo y apos) [] [] cpos] => if y = m then some (eo, apos, cpos) else none
  | _ => none
theorem viewC_eq {m : Str} {es : List Expr} {eo : Expr} {apos cpos : Pos} (h : viewC m es = some (eo, apos, cpos)) : es = [.Call (.Attribute eo m apos) [] [] cpos] := by
  unfold viewC at h
  split at h
  · split at h
    · rename_i e; subst e; cases h; rfl
    · cases h
  · cases h
mutual
def mE (G : Sg) : FE → Sx → Expr → Bool
  | .var i, S, .Name x _ => decide (S.N[i]? = some x) && isVis S.sc x
  | .cst .non, _, .Constant .none _ _ => true
  | .cst (.bl b), _, .Constant (.bool c) _ _ => b == c
  | .cst (.int i), _, .Constant (.int j) _ _ => decide (i = j)
  | .cst (.str i), _, .Constant (.str j) _ _ => decide (i = j)
  | .glob x, S, .Name y _ => decide (x = y) && isGl S.sc y && (G.glob.lookup x).isSome
  | .bin op a b, S, .BinOp ea op' eb _ => decide (op = op') && mE G a S ea && mE G b S eb
  | .neg a, S, .UnaryOp .USub ea _ => mE G a S ea
  | .not a, S, .UnaryOp .Not ea _ => mE G a S ea
  | .cmp op a b, S, .Compare ea [op'] [eb] _ => decide (op = op') && noSet eb && mE G a S ea && mE G b S eb
  | .chain op op' a b c, S, .Compare ea [p, p'] [eb, ec] _ => decide (op = p) && decide (op' = p') && noSet ec && mE G a S ea && mE G b S eb && mE G c S ec
  | .and a b, S, .BoolOp .And es pos => match es with
    | [ea, eb] => mE G a S ea && mE G b S eb
    | ea :: eb :: ec :: r => mE G a S ea && mE G b S (.BoolOp .And (eb :: ec :: r) pos)
    | _ => false
  | .or a b, S, .BoolOp .Or es pos => match es with
    | [ea, eb] => mE G a S ea && mE G b S eb
    | ea :: eb :: ec :: r => mE G a S ea && mE G b S (.BoolOp .Or (eb :: ec :: r) pos)
    | _ => false
  | .ite c a b, S, .IfExp ec ea eb _ => mE G c S ec && mE G a S ea && mE G b S eb
  | .tup as, S, .Tuple es _ _ => mEs G as S es
  | .lst as, S, .List es _ => mEs G as S es
  | .idx a i, S, .Subscript ea ei _ => noSlice ei && mE G a S ea && mE G i S ei
  | .slice a lo hi, S, .Subscript ea (.Slice l u none _) _ => mE G a S ea && mP G lo S l && mP G hi S u
  | .call f as, S, .Call (.Name x _) es [] _ => decide (f = x) && isGl S.sc x && G.fns.contains f && !es.isEmpty && mEs G as S es
  | .bcall b as, S, .Call (.Name x _) es [] _ => decide (btName b = x) && isGl S.sc x && G.blt.contains x && (match b with
    | .lrange => (match es with
      | [.Call (.Name y _) rs [] _] => decide (y = ("range" : Str)) && isGl S.sc y && G.blt.contains y && decide (rs.length ≤ 2) && mEs G as S rs
      | _ => false)
    | .trange => (match es with
      | [.Call (.Name y _) rs [] _] => decide (y = ("range" : Str)) && isGl S.sc y && G.blt.contains y && decide (rs.length ≤ 2) && mEs G as S rs
      | _ => false)
    | _ => !es.isEmpty && mEs G as S es)
  | .dnil, _, .Dict [] [] _ => true
  | .svals e, S, .Call (.Name x _) es [] _ => decide (x = ("sorted" : Str)) && isGl S.sc x && G.blt.contains x && (match viewC "values" es with
    | some (eo, apos, cpos) => noCall eo && apos.endLine == cpos.line && mE G e S eo
    | none => false)
  | .bmeth m o as, S, .Call (.Attribute eo x apos) es [] cpos => decide (bmName m = x) && noCall eo && apos.endLine == cpos.line && decide (es.length ≤ 1) && mE G o S eo && mEs G as S es
  | .comp own t it c e, S, .ListComp elt [⟨tg, iter, ifs, an⟩] scope _ => decide (an = 0) && blkC S.N S.sc scope (ownOf S own) && noSet iter && mI G it S tg iter && mT (blk S scope) t tg && (ftSlots t).all own.contains && mE G e (blk S scope) elt &&
    (match ifs with
    | [] => noIf c
    | [i] => mE G c (blk S scope) i
    | _ => false)
  | _, _, _ => false
def mEs (G : Sg) : FE → Sx → List Expr → Bool
  | .anil, _, [] => true
  | .acons a as, S, e :: es => noStar e && mE G a S e && mEs G as S es
  | _, _, _ => false
def mP (G : Sg) : FE → Sx → Option Expr → Bool
  | .nopart, _, none => true
  | .part e, S, some x => mE G e S x
  | _, _, _ => false
/-- what is walked, to a target -/
def mI (G : Sg) : FE → Sx → Expr → Expr → Bool
  | .iseq e, S, _, x => mE G e S x
  | .irange as, S, _, .Call (.Name x _) es [] _ => decide (x = ("range" : Str)) && isGl S.sc x && G.blt.contains x && decide (es.length ≤ 2) && mEs G as S es
  | .ienum as, S, tg, .Call (.Name x _) es [] _ => isTup tg && decide (x = ("enumerate" : Str)) && isGl S.sc x && G.blt.contains x && decide (es.length = 1) && mEs G as S es
  | .izip as, S, tg, .Call (.Name x _) es [] _ => isTup tg && decide (x = ("zip" : Str)) && isGl S.sc x && G.blt.contains x && decide (es.length = 2) && mEs G as S es
  | _, _, _, _ => false
end

/-! ### where one stands -/
/-- what a call of a def wants -/
def spF (T : Tx) (g : List D → Hs → R D) : Sp := fun vs H Q E => ∃ (ρ : List Addr) (ds : List D) (h : Hs), RDs T.K H ρ ds vs ∧ HR T H ρ h ∧ PR T (fun c d _ H' => E c d H') [] H ρ (RAd T.K) Q (g ds h)
/-- the text as it stands behind the top, calls to a depth k -/
structure Text (G : Sg) (T : Tx) (B : Heap) (Γ : Cfg) (k : Nat) : Prop where
  fns : ∀ f, G.fns.contains f = true → ∃ (a : Addr) (fd : FuncData) (ps : List Str), T.mg f = some (.ref a) ∧ PySem.W.keepIn T.K (.ref a) = true ∧ Binds T.K fd ps [] ∧ FnOk T.P T.w T.K T.mg B (CX T.P T.w) k a fd ps (spF T (Γ.call f))
  blt : ∀ x, G.blt.contains x = true → T.mg x = none
  glob : ∀ x d, G.glob.lookup x = some d → Γ.glob x = some d ∧ ∃ u v, T.mg x = some u ∧ RelV v u ∧ ∀ H ρ, RD T.K H ρ d v
  errs : ∀ c, G.errs.contains c = true → ∃ C fI, EX.Txt T.P T.K T.mg c C fI ∧ PySem.W.exmOne T.K (.ref C) (.ref C) = some true
  isE : ∀ c S, G.isE.contains (c, S) = true → ∃ C Sa, T.mg c = some (.ref C) ∧ T.mg S = some (.ref Sa) ∧ ExcC T.K C ∧ PySem.W.kitOne T.K (.ref C) (.ref Sa) = some true
structure Ok (T : Tx) (B : Heap) (k : Nat) (S : Sx) (X : Cx) (W : WX) : Prop where
  tx : txOf X = T
  base : X.base = B
  N : X.N = S.N
  sc : X.env.scope = S.sc
  fn : X.fn = S.fn
  nd : X.N.Nodup
  calm : X.calm = true
  takes : Takes X W
  room : Room k X.A
  own : PassesOwn (model X.prog X.w) X.A X.env X.xe

theorem isGl_ok {X : Cx} {S : Sx} (e : X.env.scope = S.sc) {x : Str} (h : isGl S.sc x = true) : Gl X x ∧ (x == ("__debug__" : Str)) = false := by
  unfold isGl at h
  rw [Bool.and_eq_true] at h
  exact ⟨by unfold Gl Env.kindOf; rw [e]; exact of_decide_eq_true h.1, by simpa using h.2⟩
theorem isVis_ok {X : Cx} {S : Sx} (e : X.env.scope = S.sc) {x : Str} (h : isVis S.sc x = true) : Vis X.env.scope x ∧ (x == ("__debug__" : Str)) = false ∧ (x == ("__classdict__" : Str)) = false := by
  unfold isVis at h
  unfold Vis
  rw [e]
  split at h
  all_goals first | (rw [Bool.and_eq_true] at h; exact ⟨by simp_all, by simpa using h.1, by simpa using h.2⟩) | cases h
theorem isLoc_ok {X : Cx} {S : Sx} (e : X.env.scope = S.sc) (ef : X.fn = S.fn) {x : Str} (h : isLoc S x = true) : L2.Loc X.env.scope x ∧ (X.fn x = true ∨ X.env.scope.names.lookup x = some .local) := by
  unfold isLoc at h
  unfold L2.Loc
  rw [e, ef]
  split at h
  · rename_i q; exact ⟨.inl q, .inr q⟩
  · rename_i q; exact ⟨.inr q, .inl h⟩
  · cases h
theorem star_cons {env : Env} {e : Expr} {es : List Expr} (h : noStar e = true) : starEach (e :: es) env = (false, eval e env) :: starEach es env := by
  cases e <;> first | rfl | cases h
theorem assign_cons {env : Env} {e : Expr} {es : List Expr} (h : noStar e = true) : assignEach (e :: es) env = (false, assign e env) :: assignEach es env := by
  cases e <;> first | rfl | cases h
theorem slice_plain {e : Expr} (h : noSlice e = true) : PlainIx e := by
  intro o i
  cases e <;> first | rfl | cases h
theorem set_mark {op : CmpOp} {e : Expr} (h : noSet e = true) : behindInMarks op e = false := by
  cases e <;> first | rfl | cases h
theorem set_fold {env : Env} {e : Expr} (h : noSet e = true) : ∀ x, foldedSetIterable e env x = pure x := by
  intro x
  cases e <;> first | rfl | cases h
theorem call_base {env : Env} {e : Expr} {f : Str} (h : noCall e = true) : attributeBase e f env (eval e env) = eval e env := by
  cases e <;> first | rfl | cases h
theorem stars_plain {G : Sg} {S : Sx} {env : Env} {pos : Pos} : ∀ {as : FE} {es : List Expr}, mEs G as S es = true → (backTo pos (starEach es env)).any (·.1) = false := by
  have key : ∀ (es : List Expr), es.all noStar = true → ∀ pos, (backTo pos (starEach es env)).any (·.1) = false := by
    intro es
    induction es with
    | nil => intro _ _; rfl
    | cons e es ih =>
      intro h pos
      rw [List.all_cons, Bool.and_eq_true] at h
      rw [star_cons h.1]
      have := ih h.2 pos
      cases hs : starEach es env with
      | nil => simp [backTo]
      | cons y ys => rw [hs] at this; simp_all [backTo]
  have all : ∀ (as : FE) (es : List Expr), mEs G as S es = true → es.all noStar = true := by
    intro as
    induction as with
    | acons a as _ ih =>
      intro es h
      cases es with
      | nil => rfl
      | cons e es =>
        simp only [mEs, Bool.and_eq_true] at h
        rw [List.all_cons, h.1.1, ih es h.2]; rfl
    | _ => intro es h; cases es <;> first | rfl | (simp [mEs] at h)
  intro as es h
  exact key es (all as es h) pos

/-! ### readings -/
def tP (Γ : Cfg) (T : Tx) (W : WX) (fe : FE) : TO := fun σ H Q => ∃ ρ ls h, RL T.K H ρ ls σ ∧ HR T H ρ h ∧ PR T W σ H ρ (RAe (Option Int)) Q (evPart Γ fe ls h)
theorem PR.imp {α β : Type} {T : Tx} {W W' : WX} {σ σ' : L2.St} {H : Hp} {ρ : List Addr} {RA : Hp → List Addr → α → β → Prop} {Q Q' : β → Hp → Prop} {r : R α} (h : PR T W σ H ρ RA Q r) (hq : ∀ b H', Q b H' → Q' b H') (hw : ∀ c d H', W c d σ H' → W' c d σ' H') : PR T W' σ' H ρ RA Q' r := by
  cases r with
  | ok a h' => exact fun ρ' b H' e k hr ra => hq _ _ (h ρ' b H' e k hr ra)
  | exc c fs h' => exact fun ρ' cls dx H' e k hr x => hw _ _ _ (h ρ' cls dx H' e k hr x)
  | bad => exact h
section
variable {G : Sg} {T : Tx} {B : Heap} {Γ : Cfg} {k : Nat} {S : Sx} {X : Cx} {W : WX}
theorem poW {e : Option Expr} {t t' : TO} (h : PO X e t) (w : ∀ σ H Q, t' σ H Q → t σ H Q) : PO X e t' := ⟨fun pins s σ H Q I q => h.run pins s σ H Q I (w σ H Q q)⟩
theorem Ok.un (O : Ok T B k S X W) : X.A.units + 66 < cLine := by have := O.room.un; omega
theorem Ok.tx' (O : Ok T B k S X W) : txOf X = T := O.tx
/-- a value's test -/
def plainT : Expr → Bool
  | .UnaryOp .Not _ _ => false
  | .BoolOp .. => false
  | .IfExp .. => false
  | .Compare .. => false
  | _ => true
theorem pt_of {e : Expr} {fe : FE} (O : Ok T B k S X W) (he : PE X e (tE Γ T W fe)) (hp : plainT e = true) : PT X e (tT Γ T W fe) := by
  have hw : ∀ whole, isTrue e X.env whole = (do let v ← whole; standAt e.pos; holding [v] (truthy v)) := by
    intro whole
    cases e with
    | UnaryOp op a p => cases op <;> first | rfl | cases hp
    | _ => first | rfl | cases hp
  refine ptW (pt_truth he hw) fun σ H Q hh => ?_
  obtain ⟨ρ, ls, h, rl, hr, hq⟩ := hh
  refine ⟨ρ, ls, h, rl, hr, ?_⟩
  unfold evT at hq
  refine PR.bind hq fun d h1 ρ1 v H1 _ e k1 hr1 rd hq1 => ?_
  obtain ⟨b, eb, hq1⟩ := hq1.ofO
  have : X.K = T.K := congrArg Tx.K O.tx
  rw [this]
  exact ⟨b, truth_ok rd hr1 eb, hq1.ok hr1 rfl⟩

theorem s_var {i : Nat} {x : Str} {pos : Pos} (O : Ok T B k S X W) (h1 : S.N[i]? = some x) (h2 : isVis S.sc x = true) : PE X (.Name x pos) (tE Γ T W (.var i)) := by
  obtain ⟨v1, v2, v3⟩ := isVis_ok O.sc h2
  refine peW (pe_var (by rw [O.N]; exact h1) v1 v2 v3) fun σ H Q hh => ?_
  obtain ⟨ρ, ls, h, rl, hr, hq⟩ := hh
  rw [ev] at hq
  split at hq
  · rename_i d hd
    obtain ⟨v, e1, e2⟩ := rl.2 i d hd
    exact ⟨v, e1, hq.ok hr e2⟩
  · exact hq.elim
theorem s_const {e : Expr} {d : D} {v : V} (he : PE X e (tC v)) (hd : ∀ H ρ, RD T.K H ρ d v) : PE X e (tE Γ T W (.cst d)) := by
  refine peW he fun σ H Q hh => ?_
  obtain ⟨ρ, ls, h, rl, hr, hq⟩ := hh
  rw [ev] at hq
  exact PR.ok hq hr (hd H ρ)
theorem s_glob {x : Str} {pos : Pos} (O : Ok T B k S X W) (X0 : Text G T B Γ k) (h1 : isGl S.sc x = true) (h2 : (G.glob.lookup x).isSome = true) : PE X (.Name x pos) (tE Γ T W (.glob x)) := by
  obtain ⟨g1, g2⟩ := isGl_ok O.sc h1
  obtain ⟨d, hd⟩ := Option.isSome_iff_exists.mp h2
  obtain ⟨e1, u, v, m, r, rd⟩ := X0.glob x d hd
  have hm : X.mg x = some u := by rw [← m, ← O.tx]
  refine peW (pe_glob g1 hm r g2) fun σ H Q hh => ?_
  obtain ⟨ρ, ls, h, rl, hr, hq⟩ := hh
  rw [ev, e1] at hq
  exact PR.ok hq hr (rd H ρ)
theorem s_bin {a b : FE} {ea eb : Expr} {op : Operator} {pos : Pos} (O : Ok T B k S X W) (ha : PE X ea (tE Γ T W a)) (hb : PE X eb (tE Γ T W b)) : PE X (.BinOp ea op eb pos) (tE Γ T W (.bin op a b)) := by
  refine peW (pe_op op_bin ha hb) fun σ H Q hh => ?_
  obtain ⟨ρ, ls, h, rl, hr, hq⟩ := hh
  rw [ev] at hq
  refine ⟨ρ, ls, h, rl, hr, PR.bind hq fun d h1 ρ1 v H1 _ e k1 hr1 rd hq1 => ?_⟩
  refine ⟨ρ1, ls, h1, rl.mono k1 e, hr1, PR.bind hq1 fun d2 h2 ρ2 v2 H2 _ e2 k2 hr2 rd2 hq2 => ?_⟩
  rw [O.tx]
  exact ⟨W, σ, ρ2, d, d2, h2, rd.mono k2 e2, rd2, hr2, hq2⟩
theorem s_neg {a : FE} {ea : Expr} {pos : Pos} (O : Ok T B k S X W) (ha : PE X ea (tE Γ T W a)) : PE X (.UnaryOp .USub ea pos) (tE Γ T W (.neg a)) := by
  refine peW (pe_un un_neg ha) fun σ H Q hh => ?_
  obtain ⟨ρ, ls, h, rl, hr, hq⟩ := hh
  rw [ev] at hq
  refine ⟨ρ, ls, h, rl, hr, PR.bind hq fun d h1 ρ1 v H1 _ e k1 hr1 rd hq1 => ?_⟩
  cases rd with
  | int i => exact ⟨i, rfl, PR.ok hq1 hr1 (.int _)⟩
  | _ => exact hq1.elim
theorem s_not {a : FE} {ea : Expr} {pos : Pos} (O : Ok T B k S X W) (ha : PE X ea (tE Γ T W a)) : PE X (.UnaryOp .Not ea pos) (tE Γ T W (.not a)) := by
  refine peW (pe_notT ha) fun σ H Q hh => ?_
  obtain ⟨ρ, ls, h, rl, hr, hq⟩ := hh
  rw [ev] at hq
  refine ⟨ρ, ls, h, rl, hr, PR.bind hq fun d h1 ρ1 v H1 _ e k1 hr1 rd hq1 => ?_⟩
  obtain ⟨z, ez, hq1⟩ := hq1.ofO
  obtain ⟨b, eb, rfl⟩ := Option.map_eq_some_iff.mp ez
  have hK : X.K = T.K := congrArg Tx.K O.tx
  rw [hK]
  exact ⟨b, truth_ok rd hr1 eb, PR.ok hq1 hr1 (.bl _)⟩
theorem t_not {a : FE} {ea : Expr} {pos : Pos} (ha : PT X ea (tT Γ T W a)) : PT X (.UnaryOp .Not ea pos) (tT Γ T W (.not a)) := by
  refine ptW (pt_not ha) fun σ H Q hh => ?_
  obtain ⟨ρ, ls, h, rl, hr, hq⟩ := hh
  refine ⟨ρ, ls, h, rl, hr, ?_⟩
  unfold evT at hq ⊢
  rw [ev] at hq
  cases hx : ev Γ a ls h with
  | bad => rw [hx] at hq; exact hq
  | exc c fs h' => rw [hx] at hq; exact hq
  | ok d h' =>
    rw [hx] at hq
    simp only [R.bind_ok] at hq ⊢
    cases ht : truth h' d with
    | none => rw [ht] at hq; exact hq
    | some b =>
      rw [ht] at hq
      simp only [Option.map_some, ofO_some, R.bind_ok, truth] at hq ⊢
      exact fun ρ' b' H' e k hr' ra => by subst ra; exact hq ρ' _ H' e k hr' rfl
theorem s_cmp {a b : FE} {ea eb : Expr} {op : CmpOp} {pos : Pos} (O : Ok T B k S X W) (hs : noSet eb = true) (ha : PE X ea (tE Γ T W a)) (hb : PE X eb (tE Γ T W b)) : PE X (.Compare ea [op] [eb] pos) (tE Γ T W (.cmp op a b)) := by
  refine peW (pe_cmpR (op_cmp (by have := O.un; omega)) ha hb (set_mark hs)) fun σ H Q hh => ?_
  obtain ⟨ρ, ls, h, rl, hr, hq⟩ := hh
  rw [ev] at hq
  refine ⟨ρ, ls, h, rl, hr, PR.bind hq fun d h1 ρ1 v H1 _ e k1 hr1 rd hq1 => ?_⟩
  refine ⟨ρ1, ls, h1, rl.mono k1 e, hr1, PR.bind hq1 fun d2 h2 ρ2 v2 H2 _ e2 k2 hr2 rd2 hq2 => ?_⟩
  obtain ⟨z, ez, hq2⟩ := hq2.ofO
  obtain ⟨c, ec, rfl⟩ := Option.map_eq_some_iff.mp ez
  rw [O.tx]
  exact ⟨ρ2, d, d2, h2, c, rd.mono k2 e2, rd2, hr2, ec, hq2.ok hr2 (.bl _)⟩
theorem t_cmp {a b : FE} {ea eb : Expr} {op : CmpOp} {pos : Pos} (O : Ok T B k S X W) (hs : noSet eb = true) (ha : PE X ea (tE Γ T W a)) (hb : PE X eb (tE Γ T W b)) : PT X (.Compare ea [op] [eb] pos) (tT Γ T W (.cmp op a b)) := by
  refine ptW (pt_cmpR (op_cmp (by have := O.un; omega)) ha hb (set_mark hs)) fun σ H Q hh => ?_
  obtain ⟨ρ, ls, h, rl, hr, hq⟩ := hh
  unfold evT at hq
  rw [ev] at hq
  simp only [R.bind] at hq
  refine ⟨ρ, ls, h, rl, hr, PR.bind (f := fun x h1 => (ev Γ b ls h1).bind fun y h2 => (R.ofO h2 ((cmpD op h2 x y).map D.bl)).bind fun x h1 => R.ofO h1 (truth h1 x)) (RC := RAe Bool) (Q1 := Q) (by
    revert hq; cases ev Γ a ls h <;> simp only [R.bind] <;> intro hq <;> first | exact hq | skip
    rename_i d h1; revert hq; cases ev Γ b ls h1 <;> intro hq <;> first | exact hq | skip) fun d h1 ρ1 v H1 _ e k1 hr1 rd hq1 => ?_⟩
  refine ⟨ρ1, ls, h1, rl.mono k1 e, hr1, PR.bind hq1 fun d2 h2 ρ2 v2 H2 _ e2 k2 hr2 rd2 hq2 => ?_⟩
  cases ec : cmpD op h2 d d2 with
  | none => rw [ec] at hq2; exact hq2.elim
  | some c =>
    rw [ec] at hq2
    rw [O.tx]
    exact ⟨ρ2, d, d2, h2, c, rd.mono k2 e2, rd2, hr2, ec, c, rfl, PR.ok (RA := RAe Bool) hq2 hr2 rfl⟩
theorem s_chain {a b c : FE} {ea eb ec : Expr} {op op' : CmpOp} {pos : Pos} (O : Ok T B k S X W) (hs : noSet ec = true) (ha : PE X ea (tE Γ T W a)) (hb : PE X eb (tE Γ T W b)) (hc : PE X ec (tE Γ T W c)) :
    PE X (.Compare ea [op, op'] [eb, ec] pos) (tE Γ T W (.chain op op' a b c)) := by
  have hu : X.A.units + 65 < cLine := by have := O.un; omega
  refine peW (pe_chain (op_cmp hu) (op_cmp hu) ha hb hc (show lastMarks [op, op'] [eb, ec] = false from set_mark hs)) fun σ H Q hh => ?_
  obtain ⟨ρ, ls, h, rl, hr, hq⟩ := hh
  rw [ev] at hq
  refine ⟨ρ, ls, h, rl, hr, PR.bind hq fun d h1 ρ1 v H1 _ e k1 hr1 rd hq1 => ?_⟩
  refine ⟨ρ1, ls, h1, rl.mono k1 e, hr1, PR.bind hq1 fun d2 h2 ρ2 v2 H2 _ e2 k2 hr2 rd2 hq2 => ?_⟩
  cases q : cmpD op h2 d d2 with
  | none => rw [q] at hq2; exact hq2.elim
  | some b1 =>
    rw [q] at hq2
    simp only [ofO_some, R.bind_ok] at hq2
    rw [O.tx]
    refine ⟨ρ2, d, d2, h2, b1, rd.mono k2 e2, rd2, hr2, q, b1, rfl, ?_⟩
    cases b1 with
    | false => exact PR.ok hq2 hr2 (.bl _)
    | true =>
      rw [if_pos rfl] at hq2 ⊢
      refine ⟨ρ2, ls, h2, (rl.mono k1.k e).mono k2.k e2, hr2, PR.bind hq2 fun d3 h3 ρ3 v3 H3 _ e3 k3 hr3 rd3 hq3 => ?_⟩
      obtain ⟨z, ez, hq3⟩ := hq3.ofO
      obtain ⟨cc, ecc, rfl⟩ := Option.map_eq_some_iff.mp ez
      exact ⟨ρ3, d2, d3, h3, cc, rd2.mono k3 e3, rd3, hr3, ecc, hq3.ok hr3 (.bl _)⟩

theorem s_and {a b : FE} {ea eb : Expr} {r : List Expr} {pos : Pos} (O : Ok T B k S X W) (ha : PE X ea (tE Γ T W a)) (hb : PE X (.BoolOp .And (eb :: r) pos) (tE Γ T W b)) : PE X (.BoolOp .And (ea :: eb :: r) pos) (tE Γ T W (.and a b)) := by
  refine peW (pe_andT ha hb) fun σ H Q hh => ?_
  obtain ⟨ρ, ls, h, rl, hr, hq⟩ := hh
  rw [ev] at hq
  refine ⟨ρ, ls, h, rl, hr, PR.bind hq fun d h1 ρ1 v H1 _ e k1 hr1 rd hq1 => ?_⟩
  have hK : X.K = T.K := congrArg Tx.K O.tx
  rw [hK]
  cases q : truth h1 d with
  | none => rw [q] at hq1; exact hq1.elim
  | some c =>
    rw [q] at hq1
    refine ⟨c, truth_ok rd hr1 q, ?_⟩
    cases c with
    | true => exact ⟨ρ1, ls, h1, rl.mono k1 e, hr1, hq1⟩
    | false => exact PR.ok hq1 hr1 rd
theorem s_or {a b : FE} {ea eb : Expr} {r : List Expr} {pos : Pos} (O : Ok T B k S X W) (ha : PE X ea (tE Γ T W a)) (hb : PE X (.BoolOp .Or (eb :: r) pos) (tE Γ T W b)) : PE X (.BoolOp .Or (ea :: eb :: r) pos) (tE Γ T W (.or a b)) := by
  refine peW (pe_orT ha hb) fun σ H Q hh => ?_
  obtain ⟨ρ, ls, h, rl, hr, hq⟩ := hh
  rw [ev] at hq
  refine ⟨ρ, ls, h, rl, hr, PR.bind hq fun d h1 ρ1 v H1 _ e k1 hr1 rd hq1 => ?_⟩
  have hK : X.K = T.K := congrArg Tx.K O.tx
  rw [hK]
  cases q : truth h1 d with
  | none => rw [q] at hq1; exact hq1.elim
  | some c =>
    rw [q] at hq1
    refine ⟨c, truth_ok rd hr1 q, ?_⟩
    cases c with
    | false => exact ⟨ρ1, ls, h1, rl.mono k1 e, hr1, hq1⟩
    | true => exact PR.ok hq1 hr1 rd
theorem evT_and (a b : FE) (ls : Ls) (h : Hs) : evT Γ (.and a b) ls h = (evT Γ a ls h).bind fun k h1 => if k = true then evT Γ b ls h1 else .ok false h1 := by
  unfold evT
  rw [ev]
  cases ev Γ a ls h with
  | bad => rfl
  | exc _ _ _ => rfl
  | ok d h1 =>
    simp only [R.bind_ok]
    cases q : truth h1 d with
    | none => rfl
    | some c => cases c <;> simp [q]
theorem evT_or (a b : FE) (ls : Ls) (h : Hs) : evT Γ (.or a b) ls h = (evT Γ a ls h).bind fun k h1 => if k = true then .ok true h1 else evT Γ b ls h1 := by
  unfold evT
  rw [ev]
  cases ev Γ a ls h with
  | bad => rfl
  | exc _ _ _ => rfl
  | ok d h1 =>
    simp only [R.bind_ok]
    cases q : truth h1 d with
    | none => rfl
    | some c => cases c <;> simp [q]
theorem evT_ite (c a b : FE) (ls : Ls) (h : Hs) : evT Γ (.ite c a b) ls h = (evT Γ c ls h).bind fun k h1 => if k = true then evT Γ a ls h1 else evT Γ b ls h1 := by
  unfold evT
  rw [ev]
  cases ev Γ c ls h with
  | bad => rfl
  | exc _ _ _ => rfl
  | ok d h1 =>
    simp only [R.bind_ok]
    cases q : truth h1 d with
    | none => rfl
    | some c => cases c <;> simp
theorem t_and {a b : FE} {ea eb : Expr} {r : List Expr} {pos : Pos} (ha : PT X ea (tT Γ T W a)) (hb : PW X (.BoolOp .And (eb :: r) pos) (tT Γ T W b)) : PW X (.BoolOp .And (ea :: eb :: r) pos) (tT Γ T W (.and a b)) := by
  refine ⟨fun wh pins s σ H Q I hh => (pw_and ha hb).run wh pins s σ H Q I ?_⟩
  obtain ⟨ρ, ls, h, rl, hr, hq⟩ := hh
  rw [evT_and] at hq
  refine ⟨ρ, ls, h, rl, hr, PR.bind hq fun d h1 ρ1 v H1 _ e k1 hr1 rd hq1 => ?_⟩
  cases rd
  cases d with
  | true => exact ⟨ρ1, ls, h1, rl.mono k1 e, hr1, hq1⟩
  | false => exact PR.ok (RA := RAe Bool) hq1 hr1 rfl
theorem t_or {a b : FE} {ea eb : Expr} {r : List Expr} {pos : Pos} (ha : PT X ea (tT Γ T W a)) (hb : PW X (.BoolOp .Or (eb :: r) pos) (tT Γ T W b)) : PW X (.BoolOp .Or (ea :: eb :: r) pos) (tT Γ T W (.or a b)) := by
  refine ⟨fun wh pins s σ H Q I hh => (pw_or ha hb).run wh pins s σ H Q I ?_⟩
  obtain ⟨ρ, ls, h, rl, hr, hq⟩ := hh
  rw [evT_or] at hq
  refine ⟨ρ, ls, h, rl, hr, PR.bind hq fun d h1 ρ1 v H1 _ e k1 hr1 rd hq1 => ?_⟩
  cases rd
  cases d with
  | false => exact ⟨ρ1, ls, h1, rl.mono k1 e, hr1, hq1⟩
  | true => exact PR.ok (RA := RAe Bool) hq1 hr1 rfl
theorem s_ite {c a b : FE} {ec ea eb : Expr} {pos : Pos} (hc : PT X ec (tT Γ T W c)) (ha : PE X ea (tE Γ T W a)) (hb : PE X eb (tE Γ T W b)) : PE X (.IfExp ec ea eb pos) (tE Γ T W (.ite c a b)) := by
  refine peW (pe_ifExp hc ha hb) fun σ H Q hh => ?_
  obtain ⟨ρ, ls, h, rl, hr, hq⟩ := hh
  have e0 : ev Γ (.ite c a b) ls h = (evT Γ c ls h).bind fun k h1 => if k = true then ev Γ a ls h1 else ev Γ b ls h1 := by
    rw [ev]; unfold evT
    cases ev Γ c ls h <;> rfl
  rw [e0] at hq
  refine ⟨ρ, ls, h, rl, hr, PR.bind hq fun d h1 ρ1 v H1 _ e k1 hr1 rd hq1 => ?_⟩
  cases rd
  cases d with
  | true => exact ⟨ρ1, ls, h1, rl.mono k1 e, hr1, hq1⟩
  | false => exact ⟨ρ1, ls, h1, rl.mono k1 e, hr1, hq1⟩
/-- a if c else b as a test -/
theorem pt_ifExp {c a b : Expr} {tc ta tb : TT} {pos : Pos} (hc : PT X c tc) (ha : PT X a ta) (hb : PT X b tb) : PT X (.IfExp c a b pos) (fun σ H Q => tc σ H fun k H1 => if k = true then ta σ H1 Q else tb σ H1 Q) := by
  refine ⟨fun pins s σ H Q I h => ?_⟩
  rw [PySem.isTrue]
  refine wpAny_bind (thn (hc.run pins s σ H _ I h) fun d s1 ⟨H1, I1, q1⟩ => ?_)
  cases d with
  | true => exact ha.run pins s1 σ H1 Q I1 q1
  | false => exact hb.run pins s1 σ H1 Q I1 q1
theorem t_ite {c a b : FE} {ec ea eb : Expr} {pos : Pos} (hc : PT X ec (tT Γ T W c)) (ha : PT X ea (tT Γ T W a)) (hb : PT X eb (tT Γ T W b)) : PT X (.IfExp ec ea eb pos) (tT Γ T W (.ite c a b)) := by
  refine ptW (pt_ifExp hc ha hb) fun σ H Q hh => ?_
  obtain ⟨ρ, ls, h, rl, hr, hq⟩ := hh
  rw [evT_ite] at hq
  refine ⟨ρ, ls, h, rl, hr, PR.bind hq fun d h1 ρ1 v H1 _ e k1 hr1 rd hq1 => ?_⟩
  cases rd
  cases d with
  | true => exact ⟨ρ1, ls, h1, rl.mono k1 e, hr1, hq1⟩
  | false => exact ⟨ρ1, ls, h1, rl.mono k1 e, hr1, hq1⟩
theorem t_chain {a b c : FE} {ea eb ec : Expr} {op op' : CmpOp} {pos : Pos} (O : Ok T B k S X W) (hs : noSet ec = true) (ha : PE X ea (tE Γ T W a)) (hb : PE X eb (tE Γ T W b)) (hc : PE X ec (tE Γ T W c)) :
    PT X (.Compare ea [op, op'] [eb, ec] pos) (tT Γ T W (.chain op op' a b c)) := by
  have hu : X.A.units + 65 < cLine := by have := O.un; omega
  refine ptW (pt_chain (op_cmp hu) (op_cmp hu) ha hb hc (show lastMarks [op, op'] [eb, ec] = false from set_mark hs)) fun σ H Q hh => ?_
  obtain ⟨ρ, ls, h, rl, hr, hq⟩ := hh
  have e0 : evT Γ (.chain op op' a b c) ls h = (ev Γ a ls h).bind fun x h1 => (ev Γ b ls h1).bind fun y h2 => (R.ofO h2 (cmpD op h2 x y)).bind fun k h2 => if k = true then
      (ev Γ c ls h2).bind fun z h3 => R.ofO h3 (cmpD op' h3 y z) else .ok false h2 := by
    unfold evT
    rw [ev]
    cases ev Γ a ls h with
    | bad => rfl
    | exc _ _ _ => rfl
    | ok d h1 =>
      simp only [R.bind_ok]
      cases ev Γ b ls h1 with
      | bad => rfl
      | exc _ _ _ => rfl
      | ok d2 h2 =>
        simp only [R.bind_ok]
        cases cmpD op h2 d d2 with
        | none => rfl
        | some b1 =>
          cases b1 with
          | false => rfl
          | true =>
            simp only [ofO_some, R.bind_ok, if_true]
            cases ev Γ c ls h2 with
            | bad => rfl
            | exc _ _ _ => rfl
            | ok d3 h3 =>
              simp only [R.bind_ok]
              cases cmpD op' h3 d2 d3 <;> rfl
  rw [e0] at hq
  refine ⟨ρ, ls, h, rl, hr, PR.bind hq fun d h1 ρ1 v H1 _ e k1 hr1 rd hq1 => ?_⟩
  refine ⟨ρ1, ls, h1, rl.mono k1 e, hr1, PR.bind hq1 fun d2 h2 ρ2 v2 H2 _ e2 k2 hr2 rd2 hq2 => ?_⟩
  cases q : cmpD op h2 d d2 with
  | none => rw [q] at hq2; exact hq2.elim
  | some b1 =>
    rw [q] at hq2
    simp only [ofO_some, R.bind_ok] at hq2
    rw [O.tx]
    refine ⟨ρ2, d, d2, h2, b1, rd.mono k2 e2, rd2, hr2, q, b1, rfl, ?_⟩
    cases b1 with
    | false => exact ⟨false, rfl, PR.ok (RA := RAe Bool) hq2 hr2 rfl⟩
    | true =>
      rw [if_pos rfl] at hq2 ⊢
      refine ⟨ρ2, ls, h2, (rl.mono k1.k e).mono k2.k e2, hr2, PR.bind hq2 fun d3 h3 ρ3 v3 H3 _ e3 k3 hr3 rd3 hq3 => ?_⟩
      obtain ⟨cc, ecc, hq3⟩ := hq3.ofO
      exact ⟨ρ3, d2, d3, h3, cc, rd2.mono k3 e3, rd3, hr3, ecc, cc, rfl, PR.ok (RA := RAe Bool) hq3 hr3 rfl⟩

/-! ### displays, items, slices -/
theorem a_nil : PA X [] (tEs Γ T W .anil) := by
  refine paW pa_nil fun σ H Q hh => ?_
  obtain ⟨ρ, ls, h, rl, hr, hq⟩ := hh
  rw [evs] at hq
  exact PR.ok hq hr .nil
theorem a_cons {a as : FE} {e : Expr} {es : List Expr} (hs : noStar e = true) (ha : PE X e (tE Γ T W a)) (has : PA X es (tEs Γ T W as)) : PA X (e :: es) (tEs Γ T W (.acons a as)) := by
  refine paW (pa_cons ha has (star_cons hs)) fun σ H Q hh => ?_
  obtain ⟨ρ, ls, h, rl, hr, hq⟩ := hh
  rw [evs] at hq
  refine ⟨ρ, ls, h, rl, hr, PR.bind hq fun d h1 ρ1 v H1 _ e k1 hr1 rd hq1 => ?_⟩
  refine ⟨ρ1, ls, h1, rl.mono k1 e, hr1, PR.bind hq1 fun ds h2 ρ2 vs H2 _ e2 k2 hr2 rds hq2 => ?_⟩
  exact PR.ok hq2 hr2 (.cons (rd.mono k2 e2) rds)
theorem s_tup {as : FE} {es : List Expr} {x1 : Nat} {pos : Pos} (has : PA X es (tEs Γ T W as)) : PE X (.Tuple es x1 pos) (tE Γ T W (.tup as)) := by
  refine peW (pe_tup has) fun σ H Q hh => ?_
  obtain ⟨ρ, ls, h, rl, hr, hq⟩ := hh
  rw [ev] at hq
  refine ⟨ρ, ls, h, rl, hr, PR.bind hq fun ds h1 ρ1 vs H1 _ e k1 hr1 rds hq1 => ?_⟩
  split at hq1
  · rename_i hz
    exact ⟨by rw [← RDs.length rds]; exact hz, hq1.newT hr1 rds⟩
  · exact hq1.elim
theorem s_lst {as : FE} {es : List Expr} {pos : Pos} (has : PA X es (tEs Γ T W as)) : PE X (.List es pos) (tE Γ T W (.lst as)) := by
  refine peW (pe_lst has) fun σ H Q hh => ?_
  obtain ⟨ρ, ls, h, rl, hr, hq⟩ := hh
  rw [ev] at hq
  refine ⟨ρ, ls, h, rl, hr, PR.bind hq fun ds h1 ρ1 vs H1 _ e k1 hr1 rds hq1 => ?_⟩
  split at hq1
  · rename_i hz
    exact ⟨by rw [← RDs.length rds]; exact hz, hq1.newL hr1 rds⟩
  · exact hq1.elim
theorem s_idx {a i : FE} {ea ei : Expr} {pos : Pos} (O : Ok T B k S X W) (hs : noSlice ei = true) (ha : PE X ea (tE Γ T W a)) (hi : PE X ei (tE Γ T W i)) : PE X (.Subscript ea ei pos) (tE Γ T W (.idx a i)) := by
  refine peW (pe_ix (ix_any (by have := O.un; omega)) ha hi (slice_plain hs)) fun σ H Q hh => ?_
  obtain ⟨ρ, ls, h, rl, hr, hq⟩ := hh
  rw [ev] at hq
  refine ⟨ρ, ls, h, rl, hr, PR.bind hq fun d h1 ρ1 v H1 _ e k1 hr1 rd hq1 => ?_⟩
  refine ⟨ρ1, ls, h1, rl.mono k1 e, hr1, PR.bind hq1 fun d2 h2 ρ2 v2 H2 _ e2 k2 hr2 rd2 hq2 => ?_⟩
  rw [O.tx]
  exact ⟨W, σ, ρ2, d, d2, h2, rd.mono k2 e2, rd2, hr2, hq2⟩
theorem p_none : PO X none (tP Γ T W .nopart) := by
  refine poW po_none fun σ H Q hh => ?_
  obtain ⟨ρ, ls, h, rl, hr, hq⟩ := hh
  rw [evPart] at hq
  exact PR.ok hq hr rfl
theorem p_some {a : FE} {e : Expr} (ha : PE X e (tE Γ T W a)) : PO X (some e) (tP Γ T W (.part a)) := by
  refine poW (po_some ha) fun σ H Q hh => ?_
  obtain ⟨ρ, ls, h, rl, hr, hq⟩ := hh
  rw [evPart] at hq
  refine ⟨ρ, ls, h, rl, hr, PR.bind hq fun d h1 ρ1 v H1 _ e k1 hr1 rd hq1 => ?_⟩
  cases rd with
  | int i => exact ⟨i, rfl, PR.ok (RA := RAe (Option Int)) hq1 hr1 rfl⟩
  | _ => exact hq1.elim
theorem s_slice {a lo hi : FE} {ea : Expr} {l u : Option Expr} {p2 pos : Pos} (O : Ok T B k S X W) (ha : PE X ea (tE Γ T W a)) (hl : PO X l (tP Γ T W lo)) (hu : PO X u (tP Γ T W hi)) : PE X (.Subscript ea (.Slice l u none p2) pos) (tE Γ T W (.slice a lo hi)) := by
  refine peW (pe_slice sl_any ha hl hu) fun σ H Q hh => ?_
  obtain ⟨ρ, ls, h, rl, hr, hq⟩ := hh
  rw [ev] at hq
  refine ⟨ρ, ls, h, rl, hr, PR.bind hq fun d h1 ρ1 v H1 _ e k1 hr1 rd hq1 => ?_⟩
  refine ⟨ρ1, ls, h1, rl.mono k1 e, hr1, PR.bind hq1 fun d2 h2 ρ2 v2 H2 _ e2 k2 hr2 rd2 hq2 => ?_⟩
  refine ⟨ρ2, ls, h2, (rl.mono k1.k e).mono k2.k e2, hr2, PR.bind hq2 fun d3 h3 ρ3 v3 H3 _ e3 k3 hr3 rd3 hq3 => ?_⟩
  cases rd2
  cases rd3
  rw [O.tx]
  exact ⟨W, σ, ρ3, d, h3, (rd.mono k2.k e2).mono k3.k e3, hr3, hq3⟩

/-! ### calls -/
theorem s_call {f : Str} {as : FE} {e : Expr} {es : List Expr} {p pos : Pos} (O : Ok T B k S X W) (X0 : Text G T B Γ k) (h1 : isGl S.sc f = true) (h2 : G.fns.contains f = true) (hm : mEs G as S (e :: es) = true) (has : PA X (e :: es) (tEs Γ T W as)) :
    PE X (.Call (.Name f p) (e :: es) [] pos) (tE Γ T W (.call f as)) := by
  obtain ⟨g1, g2⟩ := isGl_ok O.sc h1
  obtain ⟨a, fd, ps, m1, m2, m3, F⟩ := X0.fns f h2
  have hst : noStar e = true := by
    cases as <;> simp only [mEs] at hm <;> first | (simp at hm; done) | skip
    simp only [Bool.and_eq_true] at hm; exact hm.1.1
  have hpl : (backTo pos (starEach es X.env)).any (·.1) = false := by
    cases as <;> simp only [mEs] at hm <;> first | (simp at hm; done) | skip
    simp only [Bool.and_eq_true] at hm; exact stars_plain hm.2
  obtain rfl : txOf X = T := O.tx
  obtain rfl : X.base = B := O.base
  refine peW (pe_callS F O.room g1 m1 m2 m3 (fun σ => passAt O.takes σ) has g2 (star_cons hst) hpl) fun σ H Q hh => ?_
  obtain ⟨ρ, ls, h, rl, hr, hq⟩ := hh
  rw [ev] at hq
  refine ⟨ρ, ls, h, rl, hr, PR.bind (gc_sound hr hq) fun ds h1 ρ1 vs H1 _ e k1 hr1 rds hq1 => ?_⟩
  exact ⟨ρ1, ds, h1, rds, hr1, hq1.imp (fun _ _ q => q) fun _ _ _ q => q⟩

theorem mEs_cons {as : FE} {e : Expr} {es : List Expr} (hm : mEs G as S (e :: es) = true) : noStar e = true ∧ ∀ (env : Env) (pos : Pos), (backTo pos (starEach es env)).any (·.1) = false := by
  cases as <;> simp only [mEs] at hm <;> first | (simp at hm; done) | skip
  simp only [Bool.and_eq_true] at hm; exact ⟨hm.1.1, fun env pos => stars_plain hm.2⟩
theorem s_bcallB {b : Bt} {x : Str} {id : String} {as : FE} {e : Expr} {es : List Expr} {p pos : Pos} (O : Ok T B k S X W) (X0 : Text G T B Γ k) (h1 : isGl S.sc x = true) (h2 : G.blt.contains x = true) (hm : mEs G as S (e :: es) = true) (has : PA X (e :: es) (tEs Γ T W as))
    (hc : CallR X (.builtin id) (rB (txOf X) (btD b))) (hb : bootBuiltins x = some (.builtin id)) (hn : x ≠ "__name__") : PE X (.Call (.Name x p) (e :: es) [] pos) (tE Γ T W (.bcall b as)) := by
  obtain ⟨g1, g2⟩ := isGl_ok O.sc h1
  obtain ⟨n1, n2⟩ := mEs_cons hm
  have hmg : X.mg x = none := by have := X0.blt x h2; rw [← O.tx] at this; exact this
  refine peW (pe_callB hc g1 hmg hb has hn g2 (star_cons n1) (n2 _ _)) fun σ H Q hh => ?_
  obtain ⟨ρ, ls, h, rl, hr, hq⟩ := hh
  rw [ev] at hq
  refine ⟨ρ, ls, h, rl, hr, PR.bind (gc_sound hr hq) fun ds h1 ρ1 vs H1 _ e k1 hr1 rds hq1 => ?_⟩
  rw [O.tx]
  exact ⟨W, σ, ρ1, ds, h1, rds, hr1, hq1⟩
theorem s_bcallT {b : Bt} {x : Str} {id : String} {as : FE} {e : Expr} {es : List Expr} {p pos : Pos} (O : Ok T B k S X W) (X0 : Text G T B Γ k) (h1 : isGl S.sc x = true) (h2 : G.blt.contains x = true) (hm : mEs G as S (e :: es) = true) (has : PA X (e :: es) (tEs Γ T W as))
    (hc : CallR X (.type id) (rB (txOf X) (btD b))) (hb : bootBuiltins x = some (.type id)) (hn : x ≠ "__name__") : PE X (.Call (.Name x p) (e :: es) [] pos) (tE Γ T W (.bcall b as)) := by
  obtain ⟨g1, g2⟩ := isGl_ok O.sc h1
  obtain ⟨n1, n2⟩ := mEs_cons hm
  have hmg : X.mg x = none := by have := X0.blt x h2; rw [← O.tx] at this; exact this
  refine peW (pe_callTy hc g1 hmg hb has hn g2 (star_cons n1) (n2 _ _)) fun σ H Q hh => ?_
  obtain ⟨ρ, ls, h, rl, hr, hq⟩ := hh
  rw [ev] at hq
  refine ⟨ρ, ls, h, rl, hr, PR.bind (gc_sound hr hq) fun ds h1 ρ1 vs H1 _ e k1 hr1 rds hq1 => ?_⟩
  rw [O.tx]
  exact ⟨W, σ, ρ1, ds, h1, rds, hr1, hq1⟩
/-- range(a), range(a, b) as an argument -/
def tRgA (ta : TA) : L2.St → Hp → (Int → Int → Hp → Prop) → Prop := fun σ H Q => ta σ H fun vs H1 => (∃ j, vs = [.int j] ∧ Q 0 j H1) ∨ ∃ i j, vs = [.int i, .int j] ∧ Q i j H1
theorem prg_a {e : Expr} {es : List Expr} {ta : TA} {p pos : Pos} (hg : Gl X "range") (hm : X.mg "range" = none) (ha : PA X (e :: es) ta) (hs : noStar e = true) (hpl : (backTo pos (starEach es X.env)).any (·.1) = false) :
    PRg X (.Call (.Name "range" p) (e :: es) [] pos) (tRgA ta) := by
  intro pins s σ H Q I h
  refine Call_ (ld_blt I hg hm boot_range (PyProof.Rows.callWith_type1 (thn (ha.run pos pins s σ H _ I h) fun us s1 ⟨vs, H1, I1, r1, q1⟩ => ?_) (star_cons hs) hpl))
  rcases q1 with ⟨j, e1, q⟩ | ⟨i, j, e1, q⟩
  · subst e1
    obtain ⟨u, rfl, t, rfl⟩ := vals1 r1
    exact call_range_1 ⟨_, 0, j, _, _, _, H1, rfl, IsRange.new _ _ _ _ _ _ _, I1.kept fun b u e => Heap.get?_push_of_some _ e, q⟩
  · subst e1
    obtain ⟨u, w, rfl, ⟨t, rfl⟩, ⟨t', rfl⟩⟩ := vals2 r1
    exact call_range_2 ⟨_, i, j, _, _, _, H1, rfl, IsRange.new _ _ _ _ _ _ _, I1.kept fun b u e => Heap.get?_push_of_some _ e, q⟩
theorem rgV_rd {K : PySem.W.Frag} {H : Hp} {ρ : List Addr} (lo hi : Int) : RDs K H ρ (rangeD lo hi) (rgV lo hi) := by
  unfold rangeD rgV
  generalize (hi - lo).toNat = n
  have key : ∀ l : List Nat, RDs K H ρ (l.map fun i => D.int (lo + (i : Nat))) (l.map fun i => V.int (lo + (i : Nat))) := by
    intro l
    induction l with
    | nil => exact .nil
    | cons a l ih => exact .cons (.int _) ih
  exact key _
theorem s_lrange {as : FE} {r : Expr} {rs : List Expr} {p p1 pos pos1 : Pos} (O : Ok T B k S X W) (X0 : Text G T B Γ k) (h1 : isGl S.sc ("list" : Str) = true) (h2 : G.blt.contains ("list" : Str) = true) (h3 : isGl S.sc ("range" : Str) = true) (h4 : G.blt.contains ("range" : Str) = true)
    (hm : mEs G as S (r :: rs) = true) (has : PA X (r :: rs) (tEs Γ T W as)) : PE X (.Call (.Name "list" p) [.Call (.Name "range" p1) (r :: rs) [] pos1] [] pos) (tE Γ T W (.bcall .lrange as)) := by
  obtain ⟨g1, g2⟩ := isGl_ok O.sc h1
  obtain ⟨g3, g4⟩ := isGl_ok O.sc h3
  obtain ⟨n1, n2⟩ := mEs_cons hm
  have m1 : X.mg ("list" : Str) = none := by have := X0.blt _ h2; rw [← O.tx] at this; exact this
  have m2 : X.mg ("range" : Str) = none := by have := X0.blt _ h4; rw [← O.tx] at this; exact this
  refine peW (pe_listRg O.calm g1 m1 (prg_a g3 m2 has n1 (n2 _ _))) fun σ H Q hh => ?_
  obtain ⟨ρ, ls, h, rl, hr, hq⟩ := hh
  rw [ev] at hq
  refine ⟨ρ, ls, h, rl, hr, PR.bind (gc_sound hr hq) fun ds h1 ρ1 vs H1 _ e k1 hr1 rds hq1 => ?_⟩
  cases rds with
  | nil => exact hq1.elim
  | @cons d v ds vs hd hds =>
    cases hds with
    | nil =>
      cases hd with
      | int j =>
        have hq1 : PR T W σ H1 ρ1 (RAd T.K) Q (if bigOk 0 j then newL h1 (rangeD 0 j) else .bad) := hq1
        split at hq1
        · rename_i hb
          exact .inl ⟨j, rfl, hb, hq1.newL hr1 (rgV_rd 0 j)⟩
        · exact hq1.elim
      | _ => exact hq1.elim
    | @cons d2 v2 ds vs hd2 hds =>
      cases hds with
      | nil =>
        cases hd with
        | int i =>
          cases hd2 with
          | int j =>
            have hq1 : PR T W σ H1 ρ1 (RAd T.K) Q (if bigOk i j then newL h1 (rangeD i j) else .bad) := hq1
            split at hq1
            · rename_i hb
              exact .inr ⟨i, j, rfl, hb, hq1.newL hr1 (rgV_rd i j)⟩
            · exact hq1.elim
          | _ => exact hq1.elim
        | _ => exact hq1.elim
      | @cons d3 v3 ds vs hd3 hds => exfalso; revert hq1; cases d <;> first | (exact fun z => z) | (cases d2 <;> exact fun z => z)
theorem s_trange {as : FE} {r : Expr} {rs : List Expr} {p p1 pos pos1 : Pos} (O : Ok T B k S X W) (X0 : Text G T B Γ k) (h1 : isGl S.sc ("tuple" : Str) = true) (h2 : G.blt.contains ("tuple" : Str) = true) (h3 : isGl S.sc ("range" : Str) = true) (h4 : G.blt.contains ("range" : Str) = true)
    (hm : mEs G as S (r :: rs) = true) (has : PA X (r :: rs) (tEs Γ T W as)) : PE X (.Call (.Name "tuple" p) [.Call (.Name "range" p1) (r :: rs) [] pos1] [] pos) (tE Γ T W (.bcall .trange as)) := by
  obtain ⟨g1, g2⟩ := isGl_ok O.sc h1
  obtain ⟨g3, g4⟩ := isGl_ok O.sc h3
  obtain ⟨n1, n2⟩ := mEs_cons hm
  have m1 : X.mg ("tuple" : Str) = none := by have := X0.blt _ h2; rw [← O.tx] at this; exact this
  have m2 : X.mg ("range" : Str) = none := by have := X0.blt _ h4; rw [← O.tx] at this; exact this
  refine peW (pe_tupRg O.calm g1 m1 (prg_a g3 m2 has n1 (n2 _ _))) fun σ H Q hh => ?_
  obtain ⟨ρ, ls, h, rl, hr, hq⟩ := hh
  rw [ev] at hq
  refine ⟨ρ, ls, h, rl, hr, PR.bind (gc_sound hr hq) fun ds h1 ρ1 vs H1 _ e k1 hr1 rds hq1 => ?_⟩
  cases rds with
  | nil => exact hq1.elim
  | @cons d v ds vs hd hds =>
    cases hds with
    | nil =>
      cases hd with
      | int j =>
        have hq1 : PR T W σ H1 ρ1 (RAd T.K) Q (if bigOk 0 j then .ok (.tup (rangeD 0 j)) h1 else .bad) := hq1
        split at hq1
        · rename_i hb
          exact .inl ⟨j, rfl, hb, hq1.newT hr1 (rgV_rd 0 j)⟩
        · exact hq1.elim
      | _ => exact hq1.elim
    | @cons d2 v2 ds vs hd2 hds =>
      cases hds with
      | nil =>
        cases hd with
        | int i =>
          cases hd2 with
          | int j =>
            have hq1 : PR T W σ H1 ρ1 (RAd T.K) Q (if bigOk i j then .ok (.tup (rangeD i j)) h1 else .bad) := hq1
            split at hq1
            · rename_i hb
              exact .inr ⟨i, j, rfl, hb, hq1.newT hr1 (rgV_rd i j)⟩
            · exact hq1.elim
          | _ => exact hq1.elim
        | _ => exact hq1.elim
      | @cons d3 v3 ds vs hd3 hds => exfalso; revert hq1; cases d <;> first | (exact fun z => z) | (cases d2 <;> exact fun z => z)
/-- o.m(e), o.m() of a list -/
theorem s_bmeth1 {m : Bm} {o as : FE} {eo e : Expr} {id : String} {apos cpos : Pos} {r : V → List V → Hp → VK → Prop} (O : Ok T B k S X W) (hc : noCall eo = true) (hl : (apos.endLine == cpos.line) = true) (hm : mEs G as S [e] = true) (ho : PE X eo (tE Γ T W o)) (has : PA X [e] (tEs Γ T W as))
    (slot : Slot "list" (bmName m) id) (hty : typeOf (.builtin id) = pure (.type "method_descriptor")) (hr : MtR X id r) (hrr : ∀ x xs H Q, xs ≠ [] → rM (txOf X) m x xs H Q → r x xs H Q) :
    PE X (.Call (.Attribute eo (bmName m) apos) [e] [] cpos) (tE Γ T W (.bmeth m o as)) := by
  obtain ⟨n1, n2⟩ := mEs_cons hm
  have hfew : ((backTo cpos (starEach [e] X.env)).all (fun x => !x.1) && (backToKw cpos (keywordEach [] X.env)).all (fun x => x.1.isSome) && decide ([e].length + ([] : List Keyword).length + (if ([] : List Keyword).isEmpty then 0 else 1) < 30)) = true := by
    rw [star_cons n1]; rfl
  refine peW (pe_bm PySem.F.plainAttrs_list slot hty hr ho has (call_base hc) hfew hl (star_cons n1) (n2 _ _)) fun σ H Q hh => ?_
  obtain ⟨ρ, ls, h, rl, hr, hq⟩ := hh
  rw [ev] at hq
  refine ⟨ρ, ls, h, rl, hr, PR.bind (gc_sound hr hq) fun d h1 ρ1 v H1 _ e k1 hr1 rd hq1 => ?_⟩
  have hK : X.K = T.K := congrArg Tx.K O.tx
  split at hq1
  · rename_i hi
    have ty : tyV T.K "list" v H1 := by
      cases d with
      | loc n =>
        obtain ⟨xs, hx⟩ := Option.isSome_iff_exists.mp (show (mlstAt h1 n).isSome = true from hi)
        unfold mlstAt at hx
        split at hx
        · rename_i ys hy; exact ty_list hr1 rd rfl hy
        · cases hx
      | _ => cases hi
    rw [hK]
    refine ⟨ty, ρ1, ls, h1, rl.mono k1 e, hr1, PR.bind hq1 fun ds h2 ρ2 vs H2 ee e2 k2 hr2 rds hq2 => ?_⟩
    refine hrr _ _ _ _ ?_ (by rw [O.tx]; exact ⟨W, σ, ρ2, d, ds, h2, rd.mono k2 e2, rds, hr2, hq2⟩)
    intro z
    subst z
    cases rds
    cases as <;> simp only [mEs] at hm <;> first | (simp at hm; done) | skip
    rename_i a as'
    rw [evs] at ee
    cases q : ev Γ a ls h1 with
    | bad => rw [q] at ee; cases ee
    | exc _ _ _ => rw [q] at ee; cases ee
    | ok x h' =>
      rw [q] at ee
      simp only [R.bind_ok] at ee
      cases q2 : evs Γ as' ls h' with
      | bad => rw [q2] at ee; cases ee
      | exc _ _ _ => rw [q2] at ee; cases ee
      | ok xs h'' => rw [q2] at ee; simp at ee
  · exact hq1.elim
theorem s_bmeth0 {m : Bm} {o as : FE} {eo : Expr} {id : String} {apos cpos : Pos} {r : V → List V → Hp → VK → Prop} (O : Ok T B k S X W) (hc : noCall eo = true) (hl : (apos.endLine == cpos.line) = true) (hm : mEs G as S [] = true) (ho : PE X eo (tE Γ T W o))
    (slot : Slot "list" (bmName m) id) (hty : typeOf (.builtin id) = pure (.type "method_descriptor")) (hr : MtR X id r) (hrr : ∀ x H Q, rM (txOf X) m x [] H Q → r x [] H Q) :
    PE X (.Call (.Attribute eo (bmName m) apos) [] [] cpos) (tE Γ T W (.bmeth m o as)) := by
  refine peW (pe_bm0 PySem.F.plainAttrs_list slot hty hr ho (call_base hc) hl) fun σ H Q hh => ?_
  obtain ⟨ρ, ls, h, rl, hr, hq⟩ := hh
  rw [ev] at hq
  refine ⟨ρ, ls, h, rl, hr, PR.bind (gc_sound hr hq) fun d h1 ρ1 v H1 _ e k1 hr1 rd hq1 => ?_⟩
  have hK : X.K = T.K := congrArg Tx.K O.tx
  split at hq1
  · rename_i hi
    have ty : tyV T.K "list" v H1 := by
      cases d with
      | loc n =>
        obtain ⟨xs, hx⟩ := Option.isSome_iff_exists.mp (show (mlstAt h1 n).isSome = true from hi)
        unfold mlstAt at hx
        split at hx
        · rename_i ys hy; exact ty_list hr1 rd rfl hy
        · cases hx
      | _ => cases hi
    rw [hK]
    cases as <;> simp only [mEs] at hm <;> first | (simp at hm; done) | skip
    rw [evs] at hq1
    exact ⟨ty, hrr _ _ _ (by rw [O.tx]; exact ⟨W, σ, ρ1, d, [], h1, rd, .nil, hr1, hq1⟩)⟩
  · exact hq1.elim
end

/-! ### what is walked -/
/-- a result, then what follows, over FL's state and the layer's -/
def PK {α : Type} (T : Tx) (W : WX) (σ : L2.St) (H : Hp) (ρ : List Addr) (K : α → Hs → List Addr → Hp → Prop) : R α → Prop
  | .ok a h => ∀ (ρ' : List Addr) (H' : Hp), Ext ρ ρ' → KF H ρ H' ρ' → HR T H' ρ' h → K a h ρ' H'
  | .exc c fs h => ∀ (ρ' : List Addr) (cls : Value) (dx : Option Addr) (H' : Hp), Ext ρ ρ' → KF H ρ H' ρ' → HR T H' ρ' h → XR T H' ρ' c fs cls dx → W cls dx σ H'
  | .bad => False
section
variable {α β γ : Type} {T : Tx} {W : WX} {σ : L2.St} {H H1 : Hp} {ρ ρ1 : List Addr} {K : α → Hs → List Addr → Hp → Prop} {K1 : γ → Hs → List Addr → Hp → Prop} {RA : Hp → List Addr → α → β → Prop} {Q : β → Hp → Prop}
theorem PK.after {r : R α} (h : PK T W σ H ρ K r) (e : Ext ρ ρ1) (k : KF H ρ H1 ρ1) : PK T W σ H1 ρ1 K r := by
  cases r with
  | ok a h' => exact fun ρ' H' e' k' => h ρ' H' (e.trans e') (k.trans k')
  | exc c fs h' => exact fun ρ' cls dx H' e' k' => h ρ' cls dx H' (e.trans e') (k.trans k')
  | bad => exact h
/-- one step by the layer's reading of it, then what follows -/
theorem PK.bindR {r : R α} {f : α → Hs → R γ} (hp : PK T W σ H ρ K1 (r.bind f))
    (k : ∀ (a : α) (h1 : Hs) (ρ1 : List Addr) (b : β) (H1 : Hp), r = .ok a h1 → Ext ρ ρ1 → KF H ρ H1 ρ1 → HR T H1 ρ1 h1 → RA H1 ρ1 a b → PK T W σ H1 ρ1 K1 (f a h1) → Q b H1) : PR T W σ H ρ RA Q r := by
  cases r with
  | ok a h' => exact fun ρ' b H' e' k' hr ra => k a h' ρ' b H' rfl e' k' hr ra (hp.after e' k')
  | exc c fs h' => exact hp
  | bad => exact hp
theorem PK.bind {r : R α} {f : α → Hs → R γ} (hp : PK T W σ H ρ K1 (r.bind f))
    (k : ∀ (a : α) (h1 : Hs) (ρ1 : List Addr) (H1 : Hp), r = .ok a h1 → Ext ρ ρ1 → KF H ρ H1 ρ1 → HR T H1 ρ1 h1 → PK T W σ H1 ρ1 K1 (f a h1) → K a h1 ρ1 H1) : PK T W σ H ρ K r := by
  cases r with
  | ok a h' => exact fun ρ' H' e' k' hr => k a h' ρ' H' rfl e' k' hr (hp.after e' k')
  | exc c fs h' => exact hp
  | bad => exact hp
theorem PR.bindK {δ : Type} {RC : Hp → List Addr → γ → δ → Prop} {Q1 : δ → Hp → Prop} {r : R α} {f : α → Hs → R γ} (hp : PR T W σ H ρ RC Q1 (r.bind f))
    (k : ∀ (a : α) (h1 : Hs) (ρ1 : List Addr) (H1 : Hp), r = .ok a h1 → Ext ρ ρ1 → KF H ρ H1 ρ1 → HR T H1 ρ1 h1 → PR T W σ H1 ρ1 RC Q1 (f a h1) → K a h1 ρ1 H1) : PK T W σ H ρ K r := by
  cases r with
  | ok a h' => exact fun ρ' H' e' k' hr => k a h' ρ' H' rfl e' k' hr (hp.after e' k')
  | exc c fs h' => exact hp
  | bad => exact hp
theorem PK.ok {a : α} {h : Hs} (hp : PK T W σ H ρ K (.ok a h)) (hr : HR T H ρ h) : K a h ρ H := hp ρ H (Ext.refl _) (KF.refl _ _) hr
theorem PK.ofO {a : Option α} {h : Hs} (hp : PK T W σ H ρ K (R.ofO h a)) : ∃ x, a = some x ∧ PK T W σ H ρ K (.ok x h) := by
  cases a with
  | none => exact hp.elim
  | some x => exact ⟨x, rfl, hp⟩
end
/-- the layer's walk J yields FL's items, as long as the cells ns are as they were -/
structure Walk (T : Tx) (J : It) (items : List D) (ns : List Nat) (h0 : Hs) (ρ0 : List Addr) (H0 : Hp) : Prop where
  go : ∀ (i : Nat) (ρ : List Addr) (H : Hp) (h : Hs), HR T H ρ h → Ext ρ0 ρ → Keeps H0 H → same ns h0 h → i < items.length → J.go i H
  yld : ∀ (i : Nat) (ρ : List Addr) (H : Hp) (h : Hs) (x : V) (H' : Hp) (d : D), HR T H ρ h → Ext ρ0 ρ → Keeps H0 H → same ns h0 h → items[i]? = some d → J.yld i H x H' → Same H H' ∧ RD T.K H' ρ d x
  stop : ∀ (ρ : List Addr) (H : Hp) (h : Hs), HR T H ρ h → Ext ρ0 ρ → Keeps H0 H → same ns h0 h → J.stop items.length H
def tI (Γ : Cfg) (T : Tx) (W : WX) (fe : FE) : TI := fun σ H R => ∃ ρ ls h, RL T.K H ρ ls σ ∧ HR T H ρ h ∧ PK T W σ H ρ (fun w h1 ρ1 H1 => ∀ J, Walk T J w.1 w.2 h1 ρ1 H1 → R J H1) (evI Γ fe ls h)
theorem sameKeeps {H H' : Hp} (s : Same H H') : Keeps H H' := fun a xs q => by
  rcases q with q | ⟨o, q⟩
  · exact .inl (s _ _ q)
  · exact .inr ⟨o, s _ _ q⟩
theorem same_lst {T : Tx} {H : Hp} {ρ0 ρ : List Addr} {h0 h : Hs} {n : Nat} {p : Addr} {xs : List D} (hr : HR T H ρ h) (e : Ext ρ0 ρ) (hp : ρ0[n]? = some p) (hx : lstAt h0 n = some xs) (hs : h[n]? = h0[n]?) : ∃ vs, SqL T.K H p vs ∧ RDs T.K H ρ xs vs :=
  hr.lst (e n p hp) (by unfold lstAt at hx ⊢; rw [hs]; exact hx)
theorem sqL_inj {T : Tx} {H : Hp} {p : Addr} {xs ys : List V} {X : Cx} {pins : List (Addr × Obj)} {σ : L2.St} {s : Shared} (I : Inv X pins σ H s) (h1 : SqL X.K H p xs) (h2 : SqL X.K H p ys) : xs = ys := I.list_inj h1 h2
theorem walk_list {T : Tx} {h0 : Hs} {ρ0 : List Addr} {H0 : Hp} {n : Nat} {p : Addr} {xs : List D} (hp : ρ0[n]? = some p) (hx : lstAt h0 n = some xs) : Walk T (Itl T.K p) xs [n] h0 ρ0 H0 where
  go := fun i ρ H h hr e _ hs hi => by
    obtain ⟨vs, g1, g2⟩ := same_lst hr e hp hx (hs n (by simp))
    exact ⟨vs, vs[i]'(by rw [← g2.length]; exact hi), g1, List.getElem?_eq_getElem _⟩
  yld := fun i ρ H h x H' d hr e _ hs hd hy => by
    obtain ⟨vs, g1, g2⟩ := same_lst hr e hp hx (hs n (by simp))
    obtain ⟨e1, hy⟩ := hy
    subst e1
    obtain ⟨v, q1, q2⟩ := g2.get hd
    rw [hy vs g1] at q1; cases q1
    exact ⟨Same.refl _, q2⟩
  stop := fun ρ H h hr e _ hs => by
    obtain ⟨vs, g1, g2⟩ := same_lst hr e hp hx (hs n (by simp))
    exact ⟨vs, g1, by rw [g2.length]; exact Nat.le_refl _⟩
theorem walk_tup {T : Tx} {h0 : Hs} {ρ0 : List Addr} {H0 : Hp} {p : Addr} {xs : List D} {vs : List V} (g1 : SqT T.K H0 p vs) (g2 : RDs T.K H0 ρ0 xs vs) : Walk T (Itt T.K p) xs [] h0 ρ0 H0 where
  go := fun i ρ H h hr e k hs hi => ⟨vs, vs[i]'(by rw [← g2.length]; exact hi), k.sqT g1, List.getElem?_eq_getElem _⟩
  yld := fun i ρ H h x H' d hr e k hs hd hy => by
    obtain ⟨e1, hy⟩ := hy
    subst e1
    obtain ⟨v, q1, q2⟩ := g2.get hd
    rw [hy vs (k.sqT g1)] at q1; cases q1
    exact ⟨Same.refl _, q2.mono k e⟩
  stop := fun ρ H h hr e k hs => ⟨vs, k.sqT g1, by rw [g2.length]; exact Nat.le_refl _⟩
theorem walk_range {T : Tx} {h0 : Hs} {ρ0 : List Addr} {H0 : Hp} (lo hi : Int) : Walk T (Itr lo (hi - lo).toNat) (rangeD lo hi) [] h0 ρ0 H0 where
  go := fun i ρ H h hr e k hs hi => by unfold rangeD at hi; rw [List.length_map, List.length_range] at hi; exact hi
  yld := fun i ρ H h x H' d hr e k hs hd hy => by
    obtain ⟨e1, hy⟩ := hy
    subst e1 hy
    unfold rangeD at hd
    rw [List.getElem?_map] at hd
    obtain ⟨j, q1, rfl⟩ := Option.map_eq_some_iff.mp hd
    obtain ⟨q2, q3⟩ := List.getElem?_eq_some_iff.mp q1
    rw [List.getElem_range] at q3
    subst q3
    exact ⟨Same.refl _, .int _⟩
  stop := fun ρ H h hr e k hs => by show _ ≤ _; unfold rangeD; rw [List.length_map, List.length_range]; exact Nat.le_refl _
section
variable {G : Sg} {T : Tx} {B : Heap} {Γ : Cfg} {k : Nat} {S : Sx} {X : Cx} {W : WX} {tg : Expr}
theorem i_seq {a : FE} {e : Expr} (O : Ok T B k S X W) (ha : PE X e (tE Γ T W a)) : PI X tg e (tI Γ T W (.iseq a)) := by
  refine ⟨fun pins s σ H RJ I hh => ?_⟩
  obtain ⟨ρ, ls, h, rl, hr, hq⟩ := hh
  rw [evI] at hq
  have hK : X.K = T.K := congrArg Tx.K O.tx
  cases q : ev Γ a ls h with
  | bad => rw [q] at hq; exact hq.elim
  | exc c fs h' =>
    rw [q] at hq
    exact (pi_list ha).run pins s σ H RJ I ⟨ρ, ls, h, rl, hr, by rw [q]; exact hq⟩
  | ok d h1 =>
    rw [q] at hq
    simp only [R.bind_ok] at hq
    obtain ⟨z, ez, hq⟩ := hq.ofO
    obtain ⟨xs, hx, rfl⟩ := Option.map_eq_some_iff.mp ez
    cases d with
    | loc n =>
      refine (pi_list ha).run pins s σ H RJ I ⟨ρ, ls, h, rl, hr, by
        rw [q]
        intro ρ1 v H1 e k1 hr1 rd
        cases rd with
        | @loc _ p hp =>
          obtain ⟨vs, g1, g2⟩ := hr1.lst hp hx
          rw [hK]
          exact ⟨p, rfl, ⟨vs, g1⟩, hq ρ1 H1 e k1 hr1 _ (walk_list hp hx)⟩⟩
    | tup ys =>
      refine (pi_tup ha).run pins s σ H RJ I ⟨ρ, ls, h, rl, hr, by
        rw [q]
        intro ρ1 v H1 e k1 hr1 rd
        cases hx
        cases rd with
        | @tup _ p vs g1 g2 =>
          rw [hK]
          exact ⟨p, rfl, ⟨vs, g1⟩, hq ρ1 H1 e k1 hr1 _ (walk_tup g1 g2)⟩⟩
    | _ => cases hx
theorem i_range {as : FE} {e : Expr} {es : List Expr} {p pos : Pos} (O : Ok T B k S X W) (X0 : Text G T B Γ k) (h3 : isGl S.sc ("range" : Str) = true) (h4 : G.blt.contains ("range" : Str) = true) (hm : mEs G as S (e :: es) = true) (has : PA X (e :: es) (tEs Γ T W as)) :
    PI X tg (.Call (.Name "range" p) (e :: es) [] pos) (tI Γ T W (.irange as)) := by
  obtain ⟨g3, g4⟩ := isGl_ok O.sc h3
  obtain ⟨n1, n2⟩ := mEs_cons hm
  have m2 : X.mg ("range" : Str) = none := by have := X0.blt _ h4; rw [← O.tx] at this; exact this
  refine ⟨fun pins s σ H RJ I hh => ?_⟩
  obtain ⟨ρ, ls, h, rl, hr, hq⟩ := hh
  rw [evI] at hq
  refine Call_ (ld_blt I g3 m2 boot_range (PyProof.Rows.callWith_type1 (thn (has.run pos pins s σ H (fun vs H1 => (∃ j, vs = [.int j] ∧ small j ∧ RJ (Itr 0 j.toNat) H1) ∨ ∃ i j, vs = [.int i, .int j] ∧ small i ∧ small j ∧ RJ (Itr i (j - i).toNat) H1) I
    ⟨ρ, ls, h, rl, hr, PK.bindR hq fun ds h1 ρ1 vs H1 _ e k1 hr1 rds hq1 => ?_⟩) fun us s1 ⟨vs, H1, I1, r1, q1⟩ => ?_) (star_cons n1) (n2 _ _)))
  · cases rds with
    | nil => exact hq1.elim
    | @cons d v ds vs hd hds =>
      cases hds with
      | nil =>
        cases hd with
        | int j =>
          have hq1 : PK T W σ H1 ρ1 _ (if small j then R.ok (rangeD 0 j, ([] : List Nat)) h1 else .bad) := hq1
          split at hq1
          · rename_i hb
            refine .inl ⟨j, rfl, hb, PK.ok hq1 hr1 _ ?_⟩
            have := walk_range (T := T) (h0 := h1) (ρ0 := ρ1) (H0 := H1) 0 j
            rw [Int.sub_zero] at this
            exact this
          · exact hq1.elim
        | _ => exact hq1.elim
      | @cons d2 v2 ds vs hd2 hds =>
        cases hds with
        | nil =>
          cases hd with
          | int i =>
            cases hd2 with
            | int j =>
              have hq1 : PK T W σ H1 ρ1 _ (if small i ∧ small j then R.ok (rangeD i j, ([] : List Nat)) h1 else .bad) := hq1
              split at hq1
              · rename_i hb
                exact .inr ⟨i, j, rfl, hb.1, hb.2, PK.ok hq1 hr1 _ (walk_range i j)⟩
              · exact hq1.elim
            | _ => exact hq1.elim
          | _ => exact hq1.elim
        | @cons d3 v3 ds vs hd3 hds => exfalso; revert hq1; cases d <;> first | (exact fun z => z) | (cases d2 <;> exact fun z => z)
  · rcases q1 with ⟨j, e1, b, q⟩ | ⟨i, j, e1, b1, b2, q⟩
    · subst e1
      obtain ⟨u, rfl, t, rfl⟩ := vals1 r1
      exact call_range_1 (range_it I1 (by omega) (by omega) b.1 b.2 (by simpa using q))
    · subst e1
      obtain ⟨u, w, rfl, ⟨t, rfl⟩, ⟨t', rfl⟩⟩ := vals2 r1
      exact call_range_2 (range_it I1 b1.1 b1.2 b2.1 b2.2 q)
end
end FL
set_option autoImplicit false
set_option linter.all false
set_option maxRecDepth 100000
/-! FL, part E: targets, comprehensions. -/
namespace FL
open PySem L2 PyProof.Rows PySem.SeqAt

def only (l : List Nat) (σ σ' : L2.St) : Prop := σ'.length = σ.length ∧ ∀ j, j ∉ l → σ'[j]? = σ[j]?
theorem only.refl (l : List Nat) (σ : L2.St) : only l σ σ := ⟨rfl, fun _ _ => rfl⟩
theorem only.trans {l l1 l2 : List Nat} {σ σ1 σ2 : L2.St} (h1 : only l1 σ σ1) (h2 : only l2 σ1 σ2) (s1 : ∀ j ∈ l1, j ∈ l) (s2 : ∀ j ∈ l2, j ∈ l) : only l σ σ2 :=
  ⟨h2.1.trans h1.1, fun j hj => (h2.2 j fun z => hj (s2 j z)).trans (h1.2 j fun z => hj (s1 j z))⟩
theorem wipe_get (σ : L2.St) (j : Nat) : ∀ vs : List Nat, (L2.wipe σ vs)[j]? = if j ∈ vs ∧ j < σ.length then some none else σ[j]?
  | [] => by simp [L2.wipe]
  | v :: vs => by
    unfold L2.wipe
    by_cases hv : v = j
    · subst hv
      by_cases hl : v < σ.length
      · rw [List.getElem?_set_self (by rw [L2.wipe_length]; exact hl), if_pos ⟨by simp, hl⟩]
      · rw [List.getElem?_eq_none (by rw [List.length_set, L2.wipe_length]; omega), if_neg (fun z => hl z.2), List.getElem?_eq_none (by omega)]
    · rw [List.getElem?_set_ne hv, wipe_get σ j vs]
      have : (j ∈ v :: vs) ↔ (j ∈ vs) := by simp [Ne.symm hv]
      simp only [this]
theorem wipe_only {l vs : List Nat} {σ σ2 : L2.St} (h : only l (L2.wipe σ vs) σ2) (hs : ∀ j ∈ l, j ∈ vs) : L2.wipe σ2 vs = L2.wipe σ vs := by
  have hl : σ2.length = σ.length := by rw [h.1, L2.wipe_length]
  refine List.ext_getElem? fun j => ?_
  rw [wipe_get, wipe_get, hl]
  by_cases hj : j ∈ vs
  · by_cases hl2 : j < σ.length
    · rw [if_pos ⟨hj, hl2⟩, if_pos ⟨hj, hl2⟩]
    · rw [if_neg (fun z => hl2 z.2), if_neg (fun z => hl2 z.2), List.getElem?_eq_none (by omega), List.getElem?_eq_none (by omega)]
  · rw [if_neg (fun z => hj z.1), if_neg (fun z => hj z.1), h.2 j (fun z => hj (hs j z)), wipe_get, if_neg (fun z => hj z.1)]

def tG (T : Tx) (t : FT) : TG := fun v σ H Q => ∃ ρ ls d ls2, RL T.K H ρ ls σ ∧ RD T.K H ρ d v ∧ asgT t d ls = some ls2 ∧ ∀ σ2, RL T.K H ρ ls2 σ2 → only (ftSlots t) σ σ2 → Q σ2 H
def tGs (T : Tx) (t : FT) : TGs := fun vs σ H Q => ∃ ρ ls ds ls2, RL T.K H ρ ls σ ∧ RDs T.K H ρ ds vs ∧ asgTs t ds ls = some ls2 ∧ ∀ σ2, RL T.K H ρ ls2 σ2 → only (ftSlots t) σ σ2 → Q σ2 H
section
variable {G : Sg} {T : Tx} {B : Heap} {Γ : Cfg} {k : Nat} {S : Sx} {X : Cx} {W : WX}
theorem pgW {e : Expr} {t t' : TG} (h : PG X e t) (w : ∀ v σ H Q, t' v σ H Q → t v σ H Q) : PG X e t' := ⟨fun pins s σ H v u Q I r q => h.run pins s σ H v u Q I r (w v σ H Q q)⟩
theorem pgsW {e : List Expr} {t t' : TGs} (h : PGs X e t) (w : ∀ v σ H Q, t' v σ H Q → t v σ H Q) : PGs X e t' := ⟨fun pins s σ H v u Q I r q => h.run pins s σ H v u Q I r (w v σ H Q q)⟩
theorem mTs_star : ∀ {ts : FT} {es : List Expr}, mT.mTs S ts es = true → (∀ env : Env, (assignEach es env).length = es.length ∧ (assignEach es env).findIdx? (·.1) = none) ∧ ∀ (xs : List D) (ls ls2 : Ls), asgTs ts xs ls = some ls2 → xs.length = es.length := by
  intro ts
  induction ts with
  | tnil =>
    intro es h
    cases es with
    | nil => exact ⟨fun env => ⟨rfl, rfl⟩, fun xs ls ls2 e => by cases xs <;> first | rfl | (simp [asgTs] at e)⟩
    | cons => simp [mT.mTs] at h
  | tcons t ts _ ih =>
    intro es h
    cases es with
    | nil => simp [mT.mTs] at h
    | cons e es =>
      simp only [mT.mTs, Bool.and_eq_true] at h
      obtain ⟨⟨h1, h2⟩, h3⟩ := h
      obtain ⟨i1, i2⟩ := ih h3
      refine ⟨fun env => ?_, fun xs ls ls2 e => ?_⟩
      · rw [assign_cons h1]
        obtain ⟨j1, j2⟩ := i1 env
        refine ⟨by rw [List.length_cons, List.length_cons, j1], ?_⟩
        rw [List.findIdx?_cons]
        simp [j2]
      · cases xs with
        | nil => simp [asgTs] at e
        | cons x xs =>
          simp only [asgTs] at e
          obtain ⟨ls', _, e2⟩ := Option.bind_eq_some_iff.mp e
          rw [List.length_cons, List.length_cons, i2 xs ls' ls2 e2]
  | name i => intro es h; cases es <;> simp [mT.mTs] at h
  | tup ts _ => intro es h; cases es <;> simp [mT.mTs] at h
theorem g_ok (O : Ok T B k S X W) : ∀ t : FT, (∀ e, mT S t e = true → PG X e (tG T t)) ∧ (∀ es, mT.mTs S t es = true → PGs X es (tGs T t)) := by
  have hK : X.K = T.K := congrArg Tx.K O.tx
  intro t
  induction t with
  | name i =>
    refine ⟨fun e h => ?_, fun es h => by cases es <;> simp [mT.mTs] at h⟩
    cases e <;> first | (simp [mT] at h; done) | skip
    rename_i x pos
    simp only [mT, Bool.and_eq_true, decide_eq_true_eq] at h
    obtain ⟨l1, l2⟩ := isLoc_ok O.sc O.fn h.2
    refine pgW (pg_name (i := i) O.nd (by rw [O.N]; exact h.1) l1 l2) fun v σ H Q hh => ?_
    obtain ⟨ρ, ls, d, ls2, rl, rd, ea, q⟩ := hh
    simp only [asgT] at ea
    split at ea
    · cases ea
      exact q _ (rl.set rd i) ⟨List.length_set, fun j hj => List.getElem?_set_ne (by simp [ftSlots] at hj; exact fun z => hj z.symm)⟩
    · cases ea
  | tup ts ih =>
    refine ⟨fun e h => ?_, fun es h => by cases es <;> simp [mT.mTs] at h⟩
    cases e <;> first | (simp [mT] at h; done) | skip
    rename_i es n pos
    simp only [mT] at h
    obtain ⟨s1, s2⟩ := mTs_star h
    refine pgW (pg_tup O.calm (ih.2 es h) (s1 _).1 (s1 _).2) fun v σ H Q hh => ?_
    obtain ⟨ρ, ls, d, ls2, rl, rd, ea, q⟩ := hh
    cases rd with
    | @tup xs p vs g1 g2 =>
      simp only [asgT] at ea
      rw [hK]
      exact ⟨p, vs, rfl, g1, by rw [← g2.length]; exact s2 _ _ _ ea, ρ, ls, xs, ls2, rl, g2, ea, q⟩
    | _ => cases ea
  | tnil =>
    refine ⟨fun e h => by cases e <;> simp [mT] at h, fun es h => ?_⟩
    cases es with
    | cons => simp [mT.mTs] at h
    | nil =>
      refine pgsW pgs_nil fun vs σ H Q hh => ?_
      obtain ⟨ρ, ls, ds, ls2, rl, rds, ea, q⟩ := hh
      cases rds with
      | nil => cases ea; exact ⟨rfl, q _ rl (only.refl _ _)⟩
      | cons => cases ea
  | tcons t ts iht ihts =>
    refine ⟨fun e h => by cases e <;> simp [mT] at h, fun es h => ?_⟩
    cases es with
    | nil => simp [mT.mTs] at h
    | cons e es =>
      simp only [mT.mTs, Bool.and_eq_true] at h
      obtain ⟨⟨h1, h2⟩, h3⟩ := h
      refine pgsW (pgs_cons (iht.1 e h2) (ihts.2 es h3) (by rw [assign_cons h1]; rfl)) fun vs σ H Q hh => ?_
      obtain ⟨ρ, ls, ds, ls2, rl, rds, ea, q⟩ := hh
      cases rds with
      | nil => cases ea
      | @cons d v ds vs hd hds =>
        simp only [asgTs] at ea
        obtain ⟨ls', e1, e2⟩ := Option.bind_eq_some_iff.mp ea
        refine ⟨v, vs, rfl, ρ, ls, d, ls', rl, hd, e1, fun σ2 rl2 o2 => ⟨ρ, ls', ds, ls2, rl2, hds, e2, fun σ3 rl3 o3 => q σ3 rl3 ?_⟩⟩
        exact o2.trans o3 (fun j hj => by simp [ftSlots, hj]) (fun j hj => by simp [ftSlots, hj])

/-! ### list comprehensions -/
abbrev WN : WX := fun _ _ _ _ => False
theorem Ok.blk (O : Ok T B k S X W) (scope : Scope) (s : Shared) (H : Hp) (C : Addr) (cl : List (Str × Addr)) (fp : List Addr) : Ok T B k (FL.blk S scope) (X.blk s H scope (compEnvC scope cl C X.env) fp) WN where
  tx := O.tx
  base := O.base
  N := O.N
  sc := by show relS scope X.env.scope = relS scope S.sc; rw [O.sc]
  fn := rfl
  nd := O.nd
  calm := O.calm
  takes := fun u s' ⟨_, _, _, _, _, _, _, _, _, _, _, _, _, _, _, _, z⟩ => z.elim
  room := O.room
  own := PassesOwn.never
/-- a list that FL doesn't see grows -/
theorem HR.grow {H : Hp} {ρ : List Addr} {h : Hs} (r : HR T H ρ h) {D : Addr} {xs ys : List V} (hD : H D = some (.lst xs)) (hn : ∀ n : Nat, n ≠ 0 → ρ[n]? ≠ some D) : HR T (upd H D (.lst ys)) ρ h ∧ Keeps H (upd H D (.lst ys)) := by
  have k : Keeps H (upd H D (.lst ys)) := Keeps.put hD (fun _ => nofun) (fun _ _ => nofun)
  refine ⟨⟨r.len, fun n c a h1 h2 => ?_, r.inj, r.pos, r.zc⟩, k⟩
  have cr := r.at_ n c a h1 h2
  by_cases ha : a = D
  · subst ha
    have n0 : n = 0 := Decidable.byContradiction fun z => hn n z h2
    have := (r.zc n c h1).mpr n0
    cases c with
    | flst ds =>
      obtain ⟨vs, g1, g2⟩ := cr
      refine ⟨vs, ?_, g2.mono k (Ext.refl _)⟩
      rcases g1 with ⟨ob, g1⟩ | g1
      · rw [hD] at g1; cases g1
      · exact .inr g1
    | _ => cases this
  · exact cr.mono k (Ext.refl _) fun o e => by rw [upd_ne ha]; exact e
/-- a new object stands at no cell but the first -/
theorem HR.fresh {H : Hp} {ρ : List Addr} {h : Hs} (r : HR T H ρ h) {D : Addr} (hD : H D = none) : ∀ n : Nat, n ≠ 0 → ρ[n]? ≠ some D := fun n hn e => by
  obtain ⟨c, hc, cr⟩ := r.get e
  have hm : c.mut = true := by
    cases q : c.mut with
    | true => rfl
    | false => exact absurd ((r.zc n c hc).mp q) hn
  obtain ⟨o, ho, _⟩ := cr.there hm
  rw [hD] at ho; cases ho
/-- a list that FL doesn't see becomes a cell -/
theorem HR.adopt {H : Hp} {ρ : List Addr} {h : Hs} (r : HR T H ρ h) {D : Addr} {xs : List FL.D} {vs : List V} (hD : H D = some (.lst vs)) (hn : ∀ n : Nat, n ≠ 0 → ρ[n]? ≠ some D) (rd : RDs T.K H ρ xs vs) : HR T H (ρ ++ [D]) (h ++ [.lst xs]) := by
  have split : ∀ (n : Nat) (x : Addr), (ρ ++ [D])[n]? = some x → (ρ[n]? = some x ∧ n < ρ.length) ∨ (n = ρ.length ∧ x = D) := fun n x e => by
    by_cases hn : n < ρ.length
    · rw [List.getElem?_append_left hn] at e; exact .inl ⟨e, hn⟩
    · rw [List.getElem?_append_right (by omega)] at e
      have h2 : n - ρ.length < [D].length := (List.getElem?_eq_some_iff.mp e).1
      have h3 : n = ρ.length := by simp at h2; omega
      subst h3; simp at e; exact .inr ⟨rfl, e.symm⟩
  have splitH : ∀ (n : Nat) (x : Cell), n < ρ.length → (h ++ [.lst xs])[n]? = some x → h[n]? = some x := fun n x hn e => by
    rw [List.getElem?_append_left (by rw [← r.len]; exact hn)] at e; exact e
  have atP : (h ++ [Cell.lst xs])[ρ.length]? = some (.lst xs) := by rw [r.len]; simp
  refine ⟨by rw [List.length_append, List.length_append, r.len]; rfl, fun n x a e1 e2 => ?_, fun m n a x y e1 e2 e3 e4 m1 m2 => ?_, by rw [List.length_append]; have := r.pos; omega, fun n x e => ?_⟩
  · rcases split n a e2 with ⟨q, qn⟩ | ⟨q1, q2⟩
    · exact (r.at_ n x a (splitH n x qn e1) q).mono (Keeps.refl _) (Ext.app _ _) fun _ z => z
    · subst q1; subst q2
      rw [atP] at e1; cases e1; exact ⟨vs, hD, rd.mono (Keeps.refl _) (Ext.app _ _)⟩
  · have no : ∀ (n : Nat) (x : Cell), ρ[n]? = some D → n < ρ.length → (h ++ [.lst xs])[n]? = some x → x.mut = true → False := fun n x q1 qn q2 q3 => by
      refine hn n (fun z => ?_) q1
      have := (r.zc n x (splitH n x qn q2)).mpr z
      rw [q3] at this; cases this
    rcases split m a e1 with ⟨q, qn⟩ | ⟨q1, q2⟩
    · rcases split n a e2 with ⟨q', qn'⟩ | ⟨q1', q2'⟩
      · exact r.inj m n a x y q q' (splitH m x qn e3) (splitH n y qn' e4) m1 m2
      · subst q2'; exact (no m x q qn e3 m1).elim
    · rcases split n a e2 with ⟨q', qn'⟩ | ⟨q1', q2'⟩
      · subst q2; exact (no n y q' qn' e4 m2).elim
      · omega
  · by_cases hm : n < h.length
    · rw [List.getElem?_append_left hm] at e; exact r.zc n x e
    · rw [List.getElem?_append_right (by omega)] at e
      have h2 : n - h.length < [Cell.lst xs].length := (List.getElem?_eq_some_iff.mp e).1
      have h3 : n = h.length := by simp at h2; omega
      subst h3; simp at e; subst e
      have := r.pos
      constructor
      · intro z; cases z
      · intro z; omega
/-- one turn of a comprehension -/
noncomputable def compStep (Γ : Cfg) (own : List Nat) (t : FT) (c e : FE) (ls : Ls) (x : FL.D) (h2 : Hs) : R (Option FL.D) := match asgT t x (FL.wipe ls own) with
  | some ls2 => (ev Γ c ls2 h2).bind fun k h3 => (R.ofO h3 (truth h3 k)).bind fun k h3 => if k = true then (ev Γ e ls2 h3).bind fun y h4 => .ok (some y) h4 else .ok none h3
  | none => .bad
theorem compStep_ok {own : List Nat} {t : FT} {c e : FE} {ls : Ls} {x : FL.D} {h2 h3 : Hs} {y : Option FL.D} (q : compStep Γ own t c e ls x h2 = .ok y h3) : ∃ ls2 b h', asgT t x (FL.wipe ls own) = some ls2 ∧ evT Γ c ls2 h2 = .ok b h' ∧
    ((b = true ∧ ∃ z, ev Γ e ls2 h' = .ok z h3 ∧ y = some z) ∨ (b = false ∧ y = none ∧ h3 = h')) := by
  unfold compStep at q
  split at q
  · rename_i ls2 h1
    refine ⟨ls2, ?_⟩
    unfold evT
    cases q1 : ev Γ c ls2 h2 with
    | bad => rw [q1] at q; cases q
    | exc _ _ _ => rw [q1] at q; cases q
    | ok k h' =>
      rw [q1] at q
      simp only [R.bind_ok] at q ⊢
      cases q2 : truth h' k with
      | none => rw [q2] at q; cases q
      | some b =>
        rw [q2] at q
        simp only [ofO_some, R.bind_ok] at q
        refine ⟨b, h', h1, rfl, ?_⟩
        cases b with
        | false => cases q; exact .inr ⟨rfl, rfl, rfl⟩
        | true =>
          rw [if_pos rfl] at q
          cases q3 : ev Γ e ls2 h' with
          | bad => rw [q3] at q; cases q
          | exc _ _ _ => rw [q3] at q; cases q
          | ok z h4 => rw [q3] at q; cases q; exact .inl ⟨rfl, z, rfl, rfl⟩
  · cases q
/-- what is left to be done of a comprehension -/
noncomputable def compRest (ns : List Nat) (h1 : Hs) (step : FL.D → Hs → R (Option FL.D)) (ys : List FL.D) (L : List FL.D) (h2 : Hs) : R FL.D := (compL ns h1 step L h2).must fun zs h3 => if (ys ++ zs).length ≤ sizeLine then newL h3 (ys ++ zs) else .bad
theorem compL_exc (ns : List Nat) (h1 : Hs) (step : FL.D → Hs → R (Option FL.D)) : ∀ (L : List FL.D) (h2 : Hs) (c : Str) (fs : List (Str × FL.D)) (h3 : Hs), compL ns h1 step L h2 ≠ .exc c fs h3
  | [], h2, c, fs, h3 => by rw [compL]; exact fun z => nomatch z
  | x :: xs, h2, c, fs, h3 => by
    rw [compL]
    cases step x h2 with
    | bad => exact fun z => nomatch z
    | exc _ _ _ => exact fun z => nomatch z
    | ok y h' =>
      simp only [R.must_ok]
      split
      · cases compL ns h1 step xs h' with
        | bad => exact fun z => nomatch z
        | exc _ _ _ => exact fun z => nomatch z
        | ok ys h'' => exact fun z => nomatch z
      · exact fun z => nomatch z
/-- .. behind one more turn -/
theorem compRest_cons {ns : List Nat} {h1 : Hs} {step : FL.D → Hs → R (Option FL.D)} {ys L : List FL.D} {x : FL.D} {h2 : Hs} {σ : L2.St} {H : Hp} {ρ : List Addr} {Q : VK} (hp : PR T W σ H ρ (RAd T.K) Q (compRest ns h1 step ys (x :: L) h2)) :
    ∃ y h3, step x h2 = .ok y h3 ∧ same ns h1 h3 ∧ compRest ns h1 step ys (x :: L) h2 = compRest ns h1 step (match y with | some y => ys ++ [y] | none => ys) L h3 ∧ (∀ z, y = some z → ys.length < sizeLine) := by
  unfold compRest at hp ⊢
  rw [compL] at hp ⊢
  cases q : step x h2 with
  | bad => rw [q] at hp; exact hp.elim
  | exc _ _ _ => rw [q] at hp; exact hp.elim
  | ok y h3 =>
    rw [q] at hp
    simp only [R.must_ok] at hp ⊢
    split at hp
    · rename_i hsm
      refine ⟨y, h3, rfl, hsm, ?_, ?_⟩
      · rw [if_pos hsm]
        cases compL ns h1 step L h3 with
        | bad => rfl
        | exc _ _ _ => rfl
        | ok zs h4 => cases y <;> simp
      · intro z hz
        subst hz
        cases q2 : compL ns h1 step L h3 with
        | bad => rw [q2] at hp; exact hp.elim
        | exc _ _ _ => rw [q2] at hp; exact hp.elim
        | ok zs h4 =>
          rw [q2] at hp
          simp only [R.must_ok] at hp
          split at hp
          · rename_i hl
            simp at hl; omega
          · exact hp.elim
    · exact hp.elim
/-- between two turns -/
structure CInv (T : Tx) (W : WX) (σ : L2.St) (Q : VK) (H1 : Hp) (ρ1 : List Addr) (h1 : Hs) (ns : List Nat) (step : FL.D → Hs → R (Option FL.D)) (items : List FL.D) (D : Addr) (i : Nat) (H2 : Hp) (ρ2 : List Addr) (h2 : Hs) (acc : List V) (ys : List FL.D) : Prop where
  hr : HR T H2 ρ2 h2
  e : Ext ρ1 ρ2
  k : Keeps H1 H2
  hD : H2 D = some (.lst acc)
  nD : ∀ n : Nat, n ≠ 0 → ρ2[n]? ≠ some D
  rds : RDs T.K H2 ρ2 ys acc
  sm : same ns h1 h2
  fr : ∀ (a : Addr) (o : HO), a ≠ D → H1 a = some o → (∀ n : Nat, n ≠ 0 → ρ1[n]? ≠ some a) → H2 a = some o ∧ ∀ n : Nat, n ≠ 0 → ρ2[n]? ≠ some a
  hq : PR T W σ H1 ρ1 (RAd T.K) Q (compRest ns h1 step ys (items.drop i) h2)
theorem ownOf_eq (S : Sx) (own : List Nat) : (ownOf S own).map (·.2) = own := by unfold ownOf; rw [List.map_map]; simp [Function.comp_def]
theorem comp_read {own : List Nat} {t : FT} {it c e : FE} (hsl : (ftSlots t).all own.contains = true) {σ : L2.St} {H : Hp} {Q : VK} (hh : tE Γ T W (.comp own t it c e) σ H Q) : tLc (tI Γ T W it) (tG T t) (tT Γ T WN c) (tE Γ T WN e) own σ H Q := by
  have hin : ∀ j ∈ ftSlots t, j ∈ own := fun j hj => by simpa using List.all_eq_true.mp hsl j hj
  obtain ⟨ρ, ls, h, rl, hr, hq⟩ := hh
  rw [ev] at hq
  refine ⟨ρ, ls, h, rl, hr, PR.bindK hq fun w h1 ρ1 H1 _ e1 k1 hr1 hq1 J wk => fun D hD => ?_⟩
  obtain ⟨items, ns⟩ := w
  have rl1 : RL T.K H1 ρ1 ls σ := rl.mono k1 e1
  have wk' : Walk T J items ns h1 ρ1 H1 := wk
  have hq2 : PR T W σ H1 ρ1 (RAd T.K) Q (compRest ns h1 (compStep Γ own t c e ls) [] items h1) := by
    have hq1 : PR T W σ H1 ρ1 (RAd T.K) Q ((compL ns h1 (compStep Γ own t c e ls) items h1).bind fun ys h2 => if ys.length ≤ sizeLine then newL h2 ys else .bad) := hq1
    unfold compRest
    cases q : compL ns h1 (compStep Γ own t c e ls) items h1 with
    | bad => rw [q] at hq1; exact hq1.elim
    | exc _ _ _ => exact (compL_exc _ _ _ _ _ _ _ _ q).elim
    | ok zs h3 => rw [q] at hq1; exact hq1
  refine ⟨fun i m H2 => m = items.length - i ∧ i ≤ items.length ∧ ∃ ρ2 h2 acc ys, CInv T W σ Q H1 ρ1 h1 ns (compStep Γ own t c e ls) items D i H2 ρ2 h2 acc ys, ⟨items.length, by simp, Nat.zero_le _, ρ1, h1, [], [], ?_⟩, ?_⟩
  · exact ⟨hr1.newO hD, Ext.refl _, Keeps.new hD, upd_same, hr1.fresh hD, .nil, fun _ _ => rfl, fun a o ne h n => ⟨by rw [upd_ne ne]; exact h, n⟩, by simpa using hq2⟩
  · rintro i m H2 ⟨rfl, hi2, ρ2, h2, acc, ys, cv⟩
    by_cases hlt : i < items.length
    · have hd := List.drop_eq_getElem_cons hlt
      have hq3 := cv.hq
      rw [hd] at hq3
      obtain ⟨y, h3, es, sm3, er, hsz⟩ := compRest_cons hq3
      rw [er] at hq3
      obtain ⟨ls2, b, h', ea, et, ey⟩ := compStep_ok es
      refine .inr ⟨wk'.go i ρ2 H2 h2 cv.hr cv.e cv.k cv.sm hlt, fun H' => ∃ ρ' hh' acc' ys', CInv T W σ Q H1 ρ1 h1 ns (compStep Γ own t c e ls) items D (i + 1) H' ρ' hh' acc' ys', fun H' hH' => ⟨items.length - (i + 1), by omega, rfl, by omega, hH'⟩, fun x H3 hy => ?_⟩
      obtain ⟨s3, rdx⟩ := wk'.yld i ρ2 H2 h2 x H3 items[i] cv.hr cv.e cv.k cv.sm (List.getElem?_eq_getElem hlt) hy
      have hr3 := cv.hr.keep s3
      have k13 : Keeps H1 H3 := cv.k.trans (sameKeeps s3)
      have hD3 : H3 D = some (.lst acc) := s3 _ _ cv.hD
      refine ⟨ρ2, FL.wipe ls own, items[i], ls2, (rl1.mono k13 cv.e).forget own, rdx, ea, fun σ3 rl3 on3 => ⟨wipe_only on3 hin, ρ2, ls2, h2, rl3, hr3, ?_⟩⟩
      rw [et]
      rintro ρ4 b' H4 e4 k4 hr4 rfl
      obtain ⟨hD4, nD4⟩ := k4.fr D _ hD3 cv.nD
      rcases ey with ⟨rfl, z, ez, rfl⟩ | ⟨rfl, rfl, rfl⟩
      · rw [if_pos rfl]
        refine ⟨ρ4, ls2, h', rl3.mono k4.k e4, hr4, ?_⟩
        rw [ez]
        intro ρ5 v H5 e5 k5 hr5 rd5
        obtain ⟨hD5, nD5⟩ := k5.fr D _ hD4 nD4
        have k25 : Keeps H2 H5 := ((sameKeeps s3).trans k4.k).trans k5.k
        obtain ⟨hg1, hg2⟩ := hr5.grow (ys := acc ++ [v]) hD5 nD5
        refine ⟨acc, hD5, by rw [← cv.rds.length]; exact hsz z rfl, ρ5, h3, acc ++ [v], ys ++ [z], hg1, cv.e.trans (e4.trans e5), (cv.k.trans k25).trans hg2, upd_same, nD5, ?_, sm3, ?_, hq3⟩
        · exact ((cv.rds.mono k25 (e4.trans e5)).append (.cons rd5 .nil)).mono hg2 (Ext.refl _)
        · intro a o ne h0 n0
          obtain ⟨q1, q2⟩ := cv.fr a o ne h0 n0
          obtain ⟨q3, q4⟩ := k4.fr a o (s3 _ _ q1) q2
          obtain ⟨q5, q6⟩ := k5.fr a o q3 q4
          exact ⟨by rw [upd_ne ne]; exact q5, q6⟩
      · rw [if_neg Bool.false_ne_true]
        have k24 : Keeps H2 H4 := (sameKeeps s3).trans k4.k
        refine ⟨ρ4, h3, acc, ys, hr4, cv.e.trans e4, cv.k.trans k24, hD4, nD4, cv.rds.mono k24 e4, sm3, ?_, hq3⟩
        intro a o ne h0 n0
        obtain ⟨q1, q2⟩ := cv.fr a o ne h0 n0
        exact k4.fr a o (s3 _ _ q1) q2
    · have ei : i = items.length := by omega
      subst ei
      refine .inl ⟨wk'.stop ρ2 H2 h2 cv.hr cv.e cv.k cv.sm, ?_⟩
      have hq3 := cv.hq
      rw [List.drop_length] at hq3
      unfold compRest at hq3
      rw [compL] at hq3
      simp only [R.must_ok, List.append_nil] at hq3
      split at hq3
      · -- the list at D becomes a cell of FL's
        refine hq3 (ρ2 ++ [D]) (.ref D) H2 (cv.e.trans (Ext.app _ _)) ?_ ?_ (.loc (by rw [← cv.hr.len]; simp))
        · refine ⟨cv.k, fun a o h0 n0 => ?_⟩
          have ne : a ≠ D := ne_of_none h0 hD
          obtain ⟨q1, q2⟩ := cv.fr a o ne h0 n0
          refine ⟨q1, fun m m0 em => ?_⟩
          by_cases hm : m < ρ2.length
          · rw [List.getElem?_append_left hm] at em; exact q2 m m0 em
          · rw [List.getElem?_append_right (by omega)] at em
            have h2 : m - ρ2.length < [D].length := (List.getElem?_eq_some_iff.mp em).1
            have h3 : m - ρ2.length = 0 := by simp at h2; omega
            rw [h3] at em; simp at em; exact ne em.symm
        · exact cv.hr.adopt cv.hD cv.nD cv.rds
      · exact hq3.elim
theorem s_comp {own : List Nat} {t : FT} {it c e : FE} {elt tg iter : Expr} {ifs : List Expr} {scope : Scope} {pos : Pos} (O : Ok T B k S X W) (hb : blkC S.N S.sc scope (ownOf S own) = true) (hs : noSet iter = true) (hi : PI X tg iter (tI Γ T W it))
    (hg : mT (FL.blk S scope) t tg = true) (hsl : (ftSlots t).all own.contains = true) (ht : ∀ X', Ok T B k (FL.blk S scope) X' WN → PTs X' ifs (tT Γ T WN c)) (he : ∀ X', Ok T B k (FL.blk S scope) X' WN → PE X' elt (tE Γ T WN e)) :
    PE X (.ListComp elt [⟨tg, iter, ifs, 0⟩] scope pos) (tE Γ T W (.comp own t it c e)) := by
  have okb : BlkOk X.N X.env.scope scope (ownOf S own) := by rw [O.N, O.sc]; exact blkOk_by hb
  refine peW (pe_lc O.calm O.nd hi okb (fun s H C cl fp => (g_ok (O.blk scope s H C cl fp) t).1 tg hg) (fun s H C cl fp => ht _ (O.blk scope s H C cl fp)) (fun s H C cl fp => he _ (O.blk scope s H C cl fp)) (set_fold hs)) fun σ H Q hh => ?_
  rw [ownOf_eq]
  exact comp_read hsl hh
/-- y = [..]: the compiler's own road -/
theorem p_setLc {i : Nat} {y : Str} {own : List Nat} {t : FT} {it c e : FE} {elt tg iter : Expr} {ifs : List Expr} {scope : Scope} {py pos spos : Pos} (O : Ok T B k S X W) (hy : X.N[i]? = some y) (hyl : X.env.scope.names.lookup y = some .local)
    (hl : (py.line == pos.line) = true) (ha : (scope.names.any fun (n, k) => n == y && (k == .local || k == .cell)) = false) (hk : X.env.scope.kind = .function)
    (hb : blkC S.N S.sc scope (ownOf S own) = true) (hs : noSet iter = true) (hi : PI X tg iter (tI Γ T W it))
    (hg : mT (FL.blk S scope) t tg = true) (hsl : (ftSlots t).all own.contains = true) (ht : ∀ X', Ok T B k (FL.blk S scope) X' WN → PTs X' ifs (tT Γ T WN c)) (he : ∀ X', Ok T B k (FL.blk S scope) X' WN → PE X' elt (tE Γ T WN e)) :
    PS X (.Assign [.Name y py] (.ListComp elt [⟨tg, iter, ifs, 0⟩] scope pos) spos) (tAsg (tE Γ T W (.comp own t it c e)) (gName i)) := by
  have okb : BlkOk X.N X.env.scope scope (ownOf S own) := by rw [O.N, O.sc]; exact blkOk_by hb
  refine psW (ps_setLc O.calm O.nd hy hyl (sw_true hk hyl hl ha) hi okb (fun s H C cl fp => (g_ok (O.blk scope s H C cl fp) t).1 tg hg) (fun s H C cl fp => ht _ (O.blk scope s H C cl fp)) (fun s H C cl fp => he _ (O.blk scope s H C cl fp)) (set_fold hs)) fun D σ H hh => ?_
  unfold tAsg at hh ⊢
  rw [ownOf_eq]
  exact comp_read hsl hh
end
end FL
set_option autoImplicit false
set_option linter.all false
set_option maxRecDepth 100000
set_option maxHeartbeats 1000000
/-! FL, part K: enumerate and zip over lists and tuples. -/
namespace FL
open PySem L2 PyProof.Rows PySem.SeqAt
/-! ### a list (false), a tuple (true) -/
def SqS (b : Bool) (K : PySem.W.Frag) (H : Hp) (a : Addr) (xs : List V) : Prop := match b with
  | true => SqT K H a xs
  | false => SqL K H a xs
def PosS (b : Bool) (h : Heap) (it a : Addr) (i : Nat) : Prop := match b with
  | true => h.IsTupleIter it a i
  | false => h.IsListIter it a i
def IsS (b : Bool) (h : Heap) (a : Addr) (items : Array Value) : Prop := match b with
  | true => h.IsTuple a items
  | false => h.IsList a items
def objS (b : Bool) (a : Addr) : Obj := match b with
  | true => { cls := .type "tuple_iterator", data := .fields #[.ref a, .int 0 0] }
  | false => { cls := .type "list_iterator", data := .fields #[.ref a, .int 0 0] }
section
variable {b b1 b2 : Bool}
theorem objS_free {a : Addr} : (objS b a).isFreed = false := by cases b <;> rfl
theorem posS_0 {h : Heap} {it a : Addr} (e : h.get? it = some (objS b a)) : PosS b h it a 0 := by
  cases b <;> exact ⟨_, e, rfl, rfl⟩
theorem PosS.at {h h' : Heap} {it a : Addr} {i : Nat} (x : PosS b h it a i) (k : ∀ o, h.get? it = some o → h'.get? it = some o) : PosS b h' it a i := by
  cases b
  · exact Heap.IsListIter.at x k
  · exact Heap.IsTupleIter.at x k
theorem PosS.obj {h : Heap} {it a : Addr} {i : Nat} (x : PosS b h it a i) : ∃ o, h.get? it = some o ∧ ∀ v, o.data ≠ .cell v := by
  cases b
  · obtain ⟨o, e, _, d⟩ := x
    exact ⟨o, e, fun v q => by rw [d] at q; cases q⟩
  · obtain ⟨o, e, _, d⟩ := x
    exact ⟨o, e, fun v q => by rw [d] at q; cases q⟩
theorem PosS.lt {h : Heap} {it a : Addr} {i : Nat} (x : PosS b h it a i) : it < h.objs.size := by
  obtain ⟨o, e, _⟩ := x.obj
  exact Heap.lt_size e
theorem srcNe {h : Heap} {it a a' : Addr} {i : Nat} {items : Array Value} (x : PosS b1 h it a' i) (y : IsS b2 h a items) : a ≠ it := by
  rintro rfl
  cases b1 <;> cases b2 <;> (obtain ⟨o, e, _, d⟩ := x; obtain ⟨o', e', c', n, d'⟩ := y; rw [e] at e'; cases e'; rw [d] at d'; cases d')
theorem srcNe2 {h : Heap} {e a : Addr} {o : Obj} {vs : Array Value} {items : Array Value} (x : h.get? e = some o) (d : o.data = .fields vs) (y : IsS b h a items) : e ≠ a := by
  rintro rfl
  cases b <;> (obtain ⟨o', e', c', n, d'⟩ := y; rw [x] at e'; cases e'; rw [d] at d'; cases d')
theorem IsS.lt {h : Heap} {a : Addr} {items : Array Value} (y : IsS b h a items) : a < h.objs.size := by
  cases b <;> (obtain ⟨o, e, _⟩ := y; exact Heap.lt_size e)
theorem drawsS {prog : Program} {w : World} {A : Around} (hh : A.handled = none) (it a : Addr) (hne : a ≠ it) (items : Array Value) :
    Draws prog w A it [it, a] items.size (fun i v => items[i]? = some v) (fun i h => PosS b h it a i ∧ IsS b h a items) := by
  cases b
  · exact Draws.list hh it a hne items
  · exact Draws.tuple hh it a hne items
theorem beginsS (a : Addr) (items : Array Value) : Begins (.ref a) (objS b a) fun h => IsS b h a items := by
  cases b
  · exact begins_list a items
  · exact begins_tuple a items
variable {X : Cx} {pins : List (Addr × Obj)} {σ : L2.St} {H : Hp} {s : Shared} {a : Addr} {xs ys : List V}
theorem invS (I : L2.Inv X pins σ H s) (h : SqS b X.K H a xs) : ∃ its : List Value, Vals xs its ∧ IsS b s.heap a its.toArray := by
  cases b
  · obtain ⟨its, r, p, _⟩ := I.list h
    exact ⟨its, r, p.isList⟩
  · obtain ⟨its, r, p, _⟩ := I.tuple h
    exact ⟨its, r, p⟩
theorem invS_inj (I : L2.Inv X pins σ H s) (h : SqS b X.K H a xs) (h' : SqS b X.K H a ys) : xs = ys := by
  cases b
  · exact I.list_inj h h'
  · exact I.tuple_inj h h'
end
theorem meets_enumerate_new1 {v : Value} {o : Obj} {H : Heap → Prop} (B : Begins v o H) :
    Meets (Builtin.«enumerate.__new__» ⟨[.type "enumerate", v], []⟩) (fun _ R s => H s.heap ∧
      R (.ok (.ret (.ref (s.heap.push o).objs.size))) { s with heap := (s.heap.push o).push { cls := .type "enumerate", data := .fields #[.none, .bool false, .ref s.heap.objs.size, rawInt 0, .none, .none] } }) :=
  .of_wp fun prog w A R s h => by
    obtain ⟨hp, g, d, tk, os⟩ := s; obtain ⟨h1, h⟩ := h
    have hsub := sub_enumerate
    have q1 : ∀ {A' : Around} {E : Value → Shared → Prop} {Q : Value → Shared → Prop}, Q (.ref hp.objs.size) ⟨hp.push o, g, d, tk, os⟩ → wpAny (model prog w) A' (pyIter v) Q E ⟨hp, g, d, tk, os⟩ :=
      fun q => B.iter prog w _ _ ⟨hp, g, d, tk, os⟩ _ h1 q
    wp_walk using q1
    refine wpAny_stack_any fun st => wpAny_pure ?_
    split
    · rename_i c _ _ _ _ _
      cases (c == Value.type "enumerate")
      · wp_walk using q1
        exact ⟨_, rfl, h⟩
      · wp_walk using q1
        exact ⟨_, rfl, h⟩
    · wp_walk using q1
      exact ⟨_, rfl, h⟩
theorem enum_begins1 {prog : Program} {w : World} {A : Around} {E : Value → Shared → Prop} {s : Shared} {v : Value} {o : Obj} {H : Heap → Prop} {Q : Value → Shared → Prop} (B : Begins v o H) (h1 : H s.heap)
    (h : ∀ h', IsEnum h' (s.heap.objs.size + 1) s.heap.objs.size 0 .none → h'.get? s.heap.objs.size = some o → h'.objs.size = s.heap.objs.size + 2 →
      (∀ b o, s.heap.get? b = some o → h'.get? b = some o) → Q (.ref (s.heap.objs.size + 1)) { s with heap := h' }) :
    wpAny (model prog w) A (call (.type "enumerate") [v]) Q E s := by
  refine callType_new F.called_enumerate (by decide) (F.typeCall_enumerate_1 _) (F.newCall_enumerate_1 _) (fun obj => F.args_object_init_2 obj _) F.entry_enumerate_new
    (meets_enumerate_new1 B) ⟨h1, ?_⟩
  have hz : (s.heap.push o).objs.size = s.heap.objs.size + 1 := Heap.size_push ..
  show _ ∧ _
  rw [hz]
  have he : IsEnum ((s.heap.push o).push { cls := .type "enumerate", data := .fields #[.none, .bool false, .ref s.heap.objs.size, rawInt 0, .none, .none] }) (s.heap.objs.size + 1) s.heap.objs.size 0 .none := by
    have := Heap.get?_push_size (s.heap.push o) (o := { cls := .type "enumerate", data := .fields #[.none, .bool false, .ref s.heap.objs.size, rawInt 0, .none, .none] }) rfl
    rw [hz] at this; exact this
  refine ⟨⟨_, he, rfl⟩, h _ he (Heap.get?_push_of_some _ (Heap.get?_push_size _ B.free)) (by rw [Heap.size_push, hz]) fun b o x => Heap.get?_push_of_some _ (Heap.get?_push_of_some _ x)⟩
/-! ### enumerate -/
def IteS (b : Bool) (K : PySem.W.Frag) (a : Addr) (n : Nat) : It :=
  ⟨fun i H => ∃ (xs : List V) (x : V), SqS b K H a xs ∧ xs[i]? = some x ∧ xs.length = n, fun i H v H' => ∃ T x, v = .ref T ∧ H T = none ∧ H' = upd H T (.tup [.int (i : Nat), x]) ∧ ∀ xs, SqS b K H a xs → xs[i]? = some x, fun i H => ∃ xs : List V, SqS b K H a xs ∧ xs.length = i⟩
theorem turn_enumS {P : Program} {w : World} {K : PySem.W.Frag} {elts : List Expr} {kk : Nat} {tpos : Pos} (b : Bool) (a e it : Addr) (n : Nat) :
    Turn P w K (.Tuple elts kk tpos) (IteS b K a n) [e, it] e (fun i h => (∃ old, IsEnum h e it ((i : Nat) : Int) old) ∧ PosS b h it a i ∧ e ≠ it) where
  mem := by simp
  obj := fun i h st c hc => by
    obtain ⟨⟨old, he⟩, hp, _⟩ := st
    have e' : c = e ∨ c = it := by simpa using hc
    rcases e' with z | z
    · rw [z]; exact ⟨_, he, fun v q => nomatch q⟩
    · rw [z]; exact hp.obj
  keep := fun i h h' st k => let ⟨⟨old, he⟩, hi, hne⟩ := st; ⟨⟨old, k e (by simp) _ he⟩, hi.at fun o q => k it (by simp) o q, hne⟩
  item := by
    intro X hP hw hK hc i pins s σ H E I hf st hg
    subst hP hw hK
    obtain ⟨⟨old, he⟩, hit, hne⟩ := st
    obtain ⟨xs, x, hq, hx, hn⟩ := hg
    obtain ⟨its, rv, p⟩ := invS I hq
    obtain ⟨u, hu, ru⟩ := rv.get hx
    have hel : e < s.heap.objs.size := Heap.lt_size he
    have hil : it < s.heap.objs.size := hit.lt
    have ea : e ≠ a := srcNe2 he rfl p
    have D := drawsS (b := b) (prog := X.prog) (w := X.w) (A := X.A.in1) (I.ok.hd hc) it a (srcNe hit p) its.toArray
    have hlt : i < its.toArray.size := by simpa using (List.getElem?_eq_some_iff.mp hu).1
    refine wpAny_pyNext_enum_itemC D he ⟨hit, p⟩ hlt hne (by simp; exact ⟨hne, ea⟩) fun y h' tk hy ho st' hT hsz hk => ?_
    have hy' : y = u := by
      rw [List.getElem?_toArray] at hy
      rw [hu] at hy
      exact (Option.some.inj hy).symm
    subst hy'
    refine ⟨_, rfl, wpAny_letOwnedTupleGo_enum (s := { s with heap := h', toks := tk + 1 }) ho fun h'' he' sb => ?_⟩
    have hT2 : h''.get? s.heap.objs.size = some { cls := .type "tuple", data := .seq #[.int i tk, y] } := (sb.2 _ (Nat.ne_of_gt hel)).trans hT
    have new : ObjOk X.prog X.w (upd H s.heap.objs.size (.tup [.int (i : Nat), x])) h'' s.heap.objs.size (.tup [.int (i : Nat), x]) :=
      ⟨by show 2 ≤ sizeLine; decide, [.int i tk, y], .cons ⟨_, rfl⟩ (.cons ru .nil), ⟨_, hT2, rfl, _, rfl⟩⟩
    have I1 : L2.Inv X pins σ (upd H s.heap.objs.size (.tup [.int (i : Nat), x])) { s with heap := h'', toks := tk + 1 } :=
      I.turnedNew (ch := [e, it]) (fun b ob hb q => (sb.2 b (fun z => hb (by simp [z]))).trans (hk b ob (fun z => hb (by simp [z])) (fun z => hb (by simp [z])) q)) hf (Nat.le_refl _) new
    refine ⟨.ref s.heap.objs.size, _, I1, rfl, ⟨_, x, rfl, I.hok.fresh (Nat.le_refl _), rfl, fun ys hy => by rw [invS_inj I hy hq]; exact hx⟩, ⟨⟨y, ?_⟩, st'.1.at fun o q => (sb.2 it (Ne.symm hne)).trans q, hne⟩, fun b hb => ?_⟩
    · have e1 : ((i + 1 : Nat) : Int) = (i : Int) + 1 := by omega
      rw [e1]; exact he'
    · have hb' : b < s.heap.objs.size := by
        have e' : b = e ∨ b = it := by simpa using hb
        rcases e' with z | z
        · rw [z]; exact hel
        · rw [z]; exact hil
      rw [upd_ne (Nat.ne_of_lt hb')]
      exact (hf b hb).1
  done := by
    intro X hP hw hK hc i pins s σ H E I hf st hg
    subst hP hw hK
    obtain ⟨⟨old, he⟩, hit, hne⟩ := st
    obtain ⟨xs, hq, hx⟩ := hg
    obtain ⟨its, rv, p⟩ := invS I hq
    obtain ⟨f0, f1, f2, f3, f4, f5⟩ := hf it (by simp)
    have hl : its.toArray.size = i := by rw [List.size_toArray, ← rv.length]; exact hx
    have D := drawsS (b := b) (prog := X.prog) (w := X.w) (A := X.A.in1) (I.ok.hd hc) it a (srcNe hit p) its.toArray
    exact wpAny_pyNext_enum_endD D he ⟨by rw [hl]; exact hit, p⟩ fun h' eb => ⟨rfl, I.turned (t' := s.toks) (fun b o hb q => eb b o hb q) f0 f1 f3 f4 f5⟩
  self := fun A i s Q E st h => let ⟨⟨_, he⟩, _⟩ := st; wpAny_pyIter_enum he h
def iEnumS (K : PySem.W.Frag) (ta : TA) : TI := fun σ H R => ta σ H fun vs H1 => ∃ b a xs, vs = [.ref a] ∧ SqS b K H1 a xs ∧ R (IteS b K a xs.length) H1
theorem pi_enumS {X : Cx} {e : Expr} {ta : TA} {p pos tpos : Pos} {elts : List Expr} {kk : Nat} (hg : Gl X "enumerate") (hm : X.mg "enumerate" = none) (ha : PA X [e] ta) (hs : starEach [e] X.env = [(false, eval e X.env)]) :
    PI X (.Tuple elts kk tpos) (.Call (.Name "enumerate" p) [e] [] pos) (iEnumS X.K ta) := by
  refine ⟨fun pins s σ H R I h => ?_⟩
  refine Call_ (ld_blt I hg hm boot_enumerate (PyProof.Rows.callWith_type1 (thn (ha.run pos pins s σ H _ I h) fun us s1 ⟨vs, H1, I1, r1, q1⟩ => ?_) hs rfl))
  obtain ⟨b, a, xs, ex, hq, q⟩ := q1
  subst ex
  cases r1 with
  | cons r rr =>
    cases rr
    cases r
    obtain ⟨its, rv, p'⟩ := invS I1 hq
    refine enum_begins1 (beginsS a its.toArray) p' fun h' he hit hsz hk => wpAny_pyIter_enum he ?_
    have I2 : L2.Inv X pins σ H1 { s1 with heap := h' } := I1.kept (t' := s1.toks) hk
    refine ⟨s1.heap.objs.size + 1, [s1.heap.objs.size + 1, s1.heap.objs.size], _, _, H1, rfl, I2, turn_enumS b a (s1.heap.objs.size + 1) s1.heap.objs.size _, ⟨⟨.none, he⟩, posS_0 hit, Nat.succ_ne_self _⟩, fun b hb => ?_, q⟩
    have e' : b = s1.heap.objs.size + 1 ∨ b = s1.heap.objs.size := by simpa using hb
    have hle : s1.heap.objs.size ≤ b := by
      rcases e' with z | z
      · rw [z]; exact Nat.le_add_right _ _
      · rw [z]; exact Nat.le_refl _
    exact I1.fpOk hle (I1.hok.fresh hle)
/-! ### zip -/
def ItzS (b1 b2 : Bool) (K : PySem.W.Frag) (a1 a2 : Addr) (n1 n2 : Nat) : It :=
  ⟨fun i H => ∃ (xs ys : List V) (x y : V), SqS b1 K H a1 xs ∧ SqS b2 K H a2 ys ∧ xs[i]? = some x ∧ ys[i]? = some y ∧ xs.length = n1 ∧ ys.length = n2,
    fun i H v H' => ∃ T x y, v = .ref T ∧ H T = none ∧ H' = upd H T (.tup [x, y]) ∧ (∀ xs, SqS b1 K H a1 xs → xs[i]? = some x) ∧ ∀ ys, SqS b2 K H a2 ys → ys[i]? = some y,
    fun i H => ∃ xs ys : List V, SqS b1 K H a1 xs ∧ SqS b2 K H a2 ys ∧ i ≤ xs.length ∧ i ≤ ys.length ∧ (i = xs.length ∨ i = ys.length)⟩
structure ZipOk (z TI TO i1 i2 : Addr) : Prop where
  TIz : TI ≠ z
  TOz : TO ≠ z
  TITO : TI ≠ TO
  TIi1 : TI ≠ i1
  TIi2 : TI ≠ i2
  zi1 : z ≠ i1
  zi2 : z ≠ i2
  TOi1 : TO ≠ i1
  TOi2 : TO ≠ i2
  i12 : i1 ≠ i2
theorem zipSepS {z TI TO i1 i2 a1 a2 : Addr} (D : ZipOk z TI TO i1 i2) (h1 : z ≠ a1) (h2 : z ≠ a2) (h3 : TO ≠ a1) (h4 : TO ≠ a2) (h5 : i1 ≠ a2) (h6 : i2 ≠ a1) : ZipSep2 z TI TO i1 i2 [i1, a1] [i2, a2] :=
  ⟨D.TIz, D.TOz, D.TITO, D.TIi1, by simp, by simp [D.zi1, h1], by simp [D.TOi1, h3], D.TIi2, by simp, by simp [D.zi2, h2], by simp [D.TOi2, h4], by simp [D.i12, h5], by simp [Ne.symm D.i12, h6]⟩
theorem ne_add3 {n a : Nat} (h : a < n) : n + 3 ≠ a := by omega
theorem turn_zipS {P : Program} {w : World} {K : PySem.W.Frag} {elts : List Expr} {kk : Nat} {tpos : Pos} {b1 b2 : Bool} {a1 a2 z TI TO i1 i2 : Addr} {n1 n2 : Nat} (D : ZipOk z TI TO i1 i2) (la1 : TO ≠ a1) (la2 : TO ≠ a2) :
    Turn P w K (.Tuple elts kk tpos) (ItzS b1 b2 K a1 a2 n1 n2) [z, TI, TO, i1, i2] z (fun i h => IsZip h z TI TO .none ∧ IsPair h TI (.ref i1) (.ref i2) ∧ (∃ x y, IsPair h TO x y) ∧ PosS b1 h i1 a1 i ∧ PosS b2 h i2 a2 i) where
  mem := by simp
  obj := fun i h st c hc => by
    obtain ⟨hz, hTI, ⟨x, y, hTO⟩, h1, h2⟩ := st
    have e' : c = z ∨ c = TI ∨ c = TO ∨ c = i1 ∨ c = i2 := by simpa using hc
    rcases e' with q | q | q | q | q
    · rw [q]; exact ⟨_, hz, fun v q => nomatch q⟩
    · rw [q]; exact ⟨_, hTI, fun v q => nomatch q⟩
    · rw [q]; exact ⟨_, hTO, fun v q => nomatch q⟩
    · rw [q]; exact h1.obj
    · rw [q]; exact h2.obj
  keep := fun i h h' st k => by
    obtain ⟨hz, hTI, ⟨x, y, hTO⟩, h1, h2⟩ := st
    exact ⟨k z (by simp) _ hz, k TI (by simp) _ hTI, ⟨x, y, k TO (by simp) _ hTO⟩, h1.at fun o q => k i1 (by simp) o q, h2.at fun o q => k i2 (by simp) o q⟩
  item := by
    intro X hP hw hK hc i pins s σ H E I hf st hg
    subst hP hw hK
    obtain ⟨hz, hTI, ⟨x0, y0, hTO⟩, h1, h2⟩ := st
    obtain ⟨xs, ys, x, y, hqx, hqy, hx, hy, _, _⟩ := hg
    obtain ⟨its, rv, p⟩ := invS I hqx
    obtain ⟨its2, rv2, p2⟩ := invS I hqy
    obtain ⟨u, hu, ru⟩ := rv.get hx
    obtain ⟨u2, hu2, ru2⟩ := rv2.get hy
    have hzl : z < s.heap.objs.size := Heap.lt_size hz
    have D1 := drawsS (b := b1) (prog := X.prog) (w := X.w) (A := X.A.in1) (I.ok.hd hc) i1 a1 (srcNe h1 p) its.toArray
    have D2 := drawsS (b := b2) (prog := X.prog) (w := X.w) (A := X.A.in1) (I.ok.hd hc) i2 a2 (srcNe h2 p2) its2.toArray
    have S : ZipSep2 z TI TO i1 i2 [i1, a1] [i2, a2] := zipSepS D (srcNe2 hz rfl p) (srcNe2 hz rfl p2) la1 la2 (Ne.symm (srcNe h1 p2)) (Ne.symm (srcNe h2 p))
    refine wpAny_pyNext_zipD2_item S D1 D2 hz hTI hTO ⟨h1, p⟩ ⟨h2, p2⟩ (by simpa using (List.getElem?_eq_some_iff.mp hu).1) (by simpa using (List.getElem?_eq_some_iff.mp hu2).1) fun v1 v2 h' tk hv1 hv2 z' TO' h1' h2' hT hsz hk => ?_
    have e1 : v1 = u := by
      rw [List.getElem?_toArray, hu] at hv1
      exact (Option.some.inj hv1).symm
    have e2 : v2 = u2 := by
      rw [List.getElem?_toArray, hu2] at hv2
      exact (Option.some.inj hv2).symm
    subst e1 e2
    refine ⟨_, rfl, wpAny_letOwnedTupleGo_zip (s := { s with heap := h', toks := tk }) z' fun h'' z'' sb => ?_⟩
    have hT2 : h''.get? s.heap.objs.size = some { cls := .type "tuple", data := .seq #[v1, v2] } := (sb.2 _ (Nat.ne_of_gt hzl)).trans hT
    have new : ObjOk X.prog X.w (upd H s.heap.objs.size (.tup [x, y])) h'' s.heap.objs.size (.tup [x, y]) :=
      ⟨by show 2 ≤ sizeLine; decide, [v1, v2], .cons ru (.cons ru2 .nil), ⟨_, hT2, rfl, _, rfl⟩⟩
    have I1 : L2.Inv X pins σ (upd H s.heap.objs.size (.tup [x, y])) { s with heap := h'', toks := tk } :=
      I.turnedNew (ch := [z, TI, TO, i1, i2]) (fun c o hb q => (sb.2 c (fun q' => hb (by simp [q']))).trans (hk c o (fun q' => hb (by simp [q'])) (fun q' => hb (by simp [q'])) (fun q' => hb (by simp [q'])) (fun q' => hb (by simp [q'])) q)) hf (Nat.le_refl _) new
    refine ⟨.ref s.heap.objs.size, _, I1, rfl, ⟨_, x, y, rfl, I.hok.fresh (Nat.le_refl _), rfl, fun l hl => by rw [invS_inj I hl hqx]; exact hx, fun l hl => by rw [invS_inj I hl hqy]; exact hy⟩, ⟨z'', ?_, ⟨v1, v2, ?_⟩, ?_, ?_⟩, fun c hcm => ?_⟩
    · exact (sb.2 _ D.TIz).trans (hk _ _ D.TIz D.TITO D.TIi1 D.TIi2 hTI)
    · exact (sb.2 _ D.TOz).trans TO'
    · exact h1'.1.at fun o q => (sb.2 _ (Ne.symm D.zi1)).trans q
    · exact h2'.1.at fun o q => (sb.2 _ (Ne.symm D.zi2)).trans q
    · have hlt : c < s.heap.objs.size := by
        have e' : c = z ∨ c = TI ∨ c = TO ∨ c = i1 ∨ c = i2 := by simpa using hcm
        rcases e' with q | q | q | q | q
        · rw [q]; exact hzl
        · rw [q]; exact Heap.lt_size hTI
        · rw [q]; exact Heap.lt_size hTO
        · rw [q]; exact h1.lt
        · rw [q]; exact h2.lt
      rw [upd_ne (Nat.ne_of_lt hlt)]
      exact (hf c hcm).1
  done := by
    intro X hP hw hK hc i pins s σ H E I hf st hg
    subst hP hw hK
    obtain ⟨hz, hTI, ⟨x0, y0, hTO⟩, h1, h2⟩ := st
    obtain ⟨xs, ys, hqx, hqy, le1, le2, hend⟩ := hg
    obtain ⟨its, rv, p⟩ := invS I hqx
    obtain ⟨its2, rv2, p2⟩ := invS I hqy
    have l1 := rv.length
    have l2 := rv2.length
    have D1 := drawsS (b := b1) (prog := X.prog) (w := X.w) (A := X.A.in1) (I.ok.hd hc) i1 a1 (srcNe h1 p) its.toArray
    have D2 := drawsS (b := b2) (prog := X.prog) (w := X.w) (A := X.A.in1) (I.ok.hd hc) i2 a2 (srcNe h2 p2) its2.toArray
    have S : ZipSep2 z TI TO i1 i2 [i1, a1] [i2, a2] := zipSepS D (srcNe2 hz rfl p) (srcNe2 hz rfl p2) la1 la2 (Ne.symm (srcNe h1 p2)) (Ne.symm (srcNe h2 p))
    exact wpAny_pyNext_zipD2_end S D1 D2 hz hTI hTO ⟨h1, p⟩ ⟨h2, p2⟩ (by simp; omega) (by simp; omega) (by simp; omega) fun h' tk hk => ⟨rfl, I.turnedL (ch := [z, TI, TO, i1, i2]) (fun c o hb q =>
      hk c o (fun q' => hb (by simp [q'])) (fun q' => hb (by simp [q'])) (fun q' => hb (by simp [q'])) (fun q' => hb (by simp [q'])) q) hf⟩
  self := fun A i s Q E st h => wpAny_pyIter_zip st.1 h
def iZipS (K : PySem.W.Frag) (ta : TA) : TI := fun σ H R => ta σ H fun vs H1 => ∃ b1 b2 a1 a2 xs ys, vs = [.ref a1, .ref a2] ∧ SqS b1 K H1 a1 xs ∧ SqS b2 K H1 a2 ys ∧ R (ItzS b1 b2 K a1 a2 xs.length ys.length) H1
theorem pi_zipS {X : Cx} {e e2 : Expr} {ta : TA} {p pos tpos : Pos} {elts : List Expr} {kk : Nat} (hg : Gl X "zip") (hm : X.mg "zip" = none) (ha : PA X [e, e2] ta)
    (hs : starEach [e, e2] X.env = (false, eval e X.env) :: starEach [e2] X.env) (hpl : (backTo pos (starEach [e2] X.env)).any (·.1) = false) :
    PI X (.Tuple elts kk tpos) (.Call (.Name "zip" p) [e, e2] [] pos) (iZipS X.K ta) := by
  refine ⟨fun pins s σ H R I h => ?_⟩
  refine Call_ (ld_blt I hg hm PyProof.Rows.boot_zip (PyProof.Rows.callWith_type1 (thn (ha.run pos pins s σ H _ I h) fun us s1 ⟨vs, H1, I1, r1, q1⟩ => ?_) hs hpl))
  obtain ⟨b1, b2, a, b, xs, ys, ex, hqx, hqy, q⟩ := q1
  subst ex
  cases r1 with
  | cons r rr =>
    cases rr with
    | cons r' rr =>
      cases rr
      cases r
      cases r'
      obtain ⟨its, rv, p1⟩ := invS I1 hqx
      obtain ⟨its2, rv2, p2⟩ := invS I1 hqy
      have la : a < s1.heap.objs.size := p1.lt
      have lb : b < s1.heap.objs.size := p2.lt
      refine zip_begins2 (beginsS (b := b1) a its.toArray) (beginsS (b := b2) b its2.toArray) p1 p2 fun h' hz hTI hTO h1 h2 hsz hk => wpAny_pyIter_zip hz ?_
      have I2 : L2.Inv X pins σ H1 { s1 with heap := h' } := I1.kept (t' := s1.toks) hk
      have D : ZipOk (s1.heap.objs.size + 4) (s1.heap.objs.size + 2) (s1.heap.objs.size + 3) s1.heap.objs.size (s1.heap.objs.size + 1) := by
        constructor <;> (intro q; have q : (_ : Nat) = _ := q; omega)
      refine ⟨s1.heap.objs.size + 4, [s1.heap.objs.size + 4, s1.heap.objs.size + 2, s1.heap.objs.size + 3, s1.heap.objs.size, s1.heap.objs.size + 1], _, _, H1, rfl, I2, turn_zipS D (ne_add3 la) (ne_add3 lb),
        ⟨hz, hTI, ⟨_, _, hTO⟩, posS_0 h1, posS_0 h2⟩, fun c hcm => ?_, q⟩
      have e' : c = s1.heap.objs.size + 4 ∨ c = s1.heap.objs.size + 2 ∨ c = s1.heap.objs.size + 3 ∨ c = s1.heap.objs.size ∨ c = s1.heap.objs.size + 1 := by simpa using hcm
      have hle : s1.heap.objs.size ≤ c := by
        rcases e' with z | z | z | z | z
        · rw [z]; exact Nat.le_add_right _ _
        · rw [z]; exact Nat.le_add_right _ _
        · rw [z]; exact Nat.le_add_right _ _
        · rw [z]; exact Nat.le_refl _
        · rw [z]; exact Nat.le_add_right _ _
      exact I1.fpOk hle (I1.hok.fresh hle)
end FL
set_option autoImplicit false
set_option linter.all false
set_option maxRecDepth 100000
set_option maxHeartbeats 1000000
/-! FL, part M: sorted over what is no list: the values of a dict, its keys. -/
namespace FL
open PySem L2 PyProof.Rows PySem.SeqAt
theorem ObjOk.there {P : Program} {w : World} {H : Hp} {h : Heap} {a : Addr} {o : HO} (x : L2.ObjOk P w H h a o) : ∃ ob, h.get? a = some ob := by
  cases o with
  | lst xs => obtain ⟨_, _, _, _, e⟩ := x; exact ⟨_, e⟩
  | tup xs => obtain ⟨_, _, _, o, e, _⟩ := x; exact ⟨_, e⟩
  | dK kvs => obtain ⟨_, _, _, _, o, _, _, e, _⟩ := x; exact ⟨_, e⟩
  | dT kvs => obtain ⟨_, _, _, _, o, _, _, e, _⟩ := x; exact ⟨_, e⟩
  | set S n => obtain ⟨o, _, _, _, e, _⟩ := x; exact ⟨_, e⟩
  | ins C dx fs => obtain ⟨_, _, _, e, _⟩ := x; exact ⟨_, e⟩
  | own y => exact x
  | xd fs => obtain ⟨_, ⟨_, _, _, e, _⟩, _⟩ := x; exact ⟨_, e⟩
  | rng lo hi => obtain ⟨_, _, _, e⟩ := x; exact ⟨_, e⟩
  | frz ob u => obtain ⟨e, _⟩ := x; exact ⟨_, e⟩
  | tbl ps => exact ⟨_, (show h.get? a = some _ from x)⟩
  | met f y => exact ⟨_, (show h.get? a = some _ from x)⟩
  | ext φ => obtain ⟨_, ⟨_, e⟩, _⟩ := x; exact ⟨_, e⟩
section
variable {X : Cx} {pins : List (Addr × Obj)} {σ : L2.St} {H : Hp} {s : Shared} {h' : Heap} {a : Addr} {o : HO}
/-- a new object where nothing stood -/
theorem laidN {t' : Nat} (I : L2.Inv X pins σ H s) (k : ∀ b u, s.heap.get? b = some u → h'.get? b = some u) (hp : s.heap.get? a = none) (new : L2.ObjOk X.prog X.w (upd H a o) h' a o) : H a = none ∧ L2.Inv X pins σ (upd H a o) { s with heap := h', toks := t' } := by
  have hn : H a = none := by
    cases e : H a with
    | none => rfl
    | some u =>
      obtain ⟨ob, eo⟩ := FL.ObjOk.there (I.hok a u e)
      rw [hp] at eo; cases eo
  refine ⟨hn, I.un ⟨fun b u q _ _ _ => k b u q, fun b u q _ _ _ => ⟨u.slots, k b u q⟩, fun b u q n _ => ?_, fun b u q _ => ⟨u, k b u q⟩, fun b xs q => by rw [upd_ne (ne_of_none q hn)]; exact q, fun b u xs q => by rw [upd_ne (ne_of_none q hn)]; exact q,
    fun b ps q => ⟨#[], by rw [upd_ne (ne_of_none q hn), q]; simp⟩⟩ fun b u e => ?_⟩
  · rw [upd_ne (fun z => by rw [z, hp] at q; cases q)]; exact n
  · by_cases hb : b = a
    · subst hb; rw [upd_same] at e; cases e; exact new
    · rw [upd_ne hb] at e
      exact (I.hok b u e).stay (fun c v _ q => k c v q) (fun c q => by rw [upd_ne (ne_of_none q hn)]; exact q) fun c xs q => by rw [upd_ne (ne_of_none q hn)]; exact q
end
mutual
theorem reads_live {h : Heap} : ∀ {v : Value} {d : PyData} {as : List Addr}, Reads h v d as → ∀ b ∈ as, ∃ o, h.get? b = some o
  | _, _, _, .none, _, hb => nomatch hb
  | _, _, _, .bool _, _, hb => nomatch hb
  | _, _, _, .int _ _, _, hb => nomatch hb
  | _, _, _, .str _ _, _, hb => nomatch hb
  | _, _, _, .list e _ _ r, b, hb => by
    rcases List.mem_cons.mp hb with z | z
    · subst z; exact ⟨_, e⟩
    · exact readsAll_live r b z
  | _, _, _, .tuple _ _ _ r, b, hb => readsAll_live r b hb
  | _, _, _, .dict e _ _ r1 r2, b, hb => by
    rcases List.mem_append.mp hb with z | z
    · rcases List.mem_cons.mp z with q | q
      · subst q; exact ⟨_, e⟩
      · exact readsAll_live r1 b q
    · exact readsAll_live r2 b z
theorem readsAll_live {h : Heap} : ∀ {vs : List Value} {ds : List PyData} {as : List Addr}, ReadsAll h vs ds as → ∀ b ∈ as, ∃ o, h.get? b = some o
  | _, _, _, .nil, _, hb => nomatch hb
  | _, _, _, .cons r rs, b, hb => by
    rcases List.mem_append.mp hb with z | z
    · exact reads_live r b z
    · exact readsAll_live rs b z
end
theorem sortedSrc {prog : Program} {w : World} {A : Around} {E : Value → Shared → Prop} {s : Shared} {Ty : String} {r d : Addr} {n : Nat} {P : Nat → Value → Prop} {OK : Heap → Prop} {Q : Value → Shared → Prop} (K : PySem.W.KdlSrc prog w Ty r d n P OK) (hh : A.handled = none) (hok : OK s.heap) (hn : n ≤ sizeLine)
    (h : ∀ (h' : Heap) (tk : Nat) (vs : List Value), (∀ b o, s.heap.get? b = some o → h'.get? b = some o) → vs.length = n → (∀ (j : Nat) (v : Value), vs[j]? = some v → P j v) →
      wpAny (model prog w) A.in1 (call (.builtin "list.sort") [.ref h'.objs.size]) (fun _ s' => Q (.ref h'.objs.size) s') E { s with heap := h'.push { cls := .type "list", data := .seq vs.toArray }, toks := tk }) :
    wpAny (model prog w) A (call (.builtin "sorted") [.ref r]) Q E s := by
  refine Calls.call_function_entry PyProof.Rows.kind_sorted PyProof.Rows.plain_sorted PyProof.Rows.entry_sorted (PyProof.Rows.args_sorted1 _) ?_
  unfold Builtin.«sorted»
  refine wpAny_bind (m := checkCount "sorted" 1 1 _) (wpAny_pure ?_)
  refine wpAny_bind (PySem.W.kdu_collect (A := A.in1) K hh hok hn fun h' tk acc hk hacc => ?_)
  have hl : acc.toList.length = n := by rw [Array.length_toList]; exact hacc.1
  refine wpAny_bind (wpAny_newList ?_ (by rw [hl]; exact hn))
  have hg := h h' tk acc.toList hk hl (fun j v e => hacc.2 j v (by rw [← Array.getElem?_toList]; exact e))
  refine wpAny_bind (wpAny_holding (wpAny_mono hg (fun _ s' x => ?_) fun _ _ e => e))
  exact wpAny_pure ⟨_, rfl, x⟩
/-! ### the values of a dict, as a view -/
def valsO (p d : Addr) : HO := .ext fun h => h.IsValuesView p d
theorem valsO_ok {P : Program} {w : World} {H : Hp} {h : Heap} {p d : Addr} (e : h.get? p = some { cls := .type "dict_values", data := .fields #[.ref d] }) : L2.ObjOk P w H h p (valsO p d) :=
  ⟨⟨_, e, rfl, rfl⟩, ⟨_, e⟩, fun h1 h2 x k => let ⟨o, ho, r⟩ := x; ⟨o, k o ho, r⟩⟩
def rVals : V → List V → Hp → VK → Prop := fun x xs H Q => ∃ (a : Addr) (kvs : List (L2.Key × V)), x = .ref a ∧ xs = [] ∧ H a = some (.dK kvs) ∧ ∀ p, H p = none → Q (.ref p) (upd H p (valsO p a))
theorem mt_vals {X : Cx} : MtR X "dict.values" rVals := by
  intro pins s σ H x xs v us Q I rx rxs h
  obtain ⟨a, kvs, rfl, rfl, ha, q⟩ := h
  cases rx
  cases rxs
  obtain ⟨z, hd, vs, rel, dd⟩ := dk_of I.hok ha
  refine call_meetsIn PySem.F.slot_dict_values dd.typeIs PySem.F.entry_dict_values (PySem.F.args_dict_values_1 _) (meets_dict_values (mixKind X.prog X.w) a hd) ⟨⟨vs, dd⟩, ?_⟩
  exact ⟨.ref s.heap.objs.size, upd H s.heap.objs.size (valsO s.heap.objs.size a), I.laid (t' := s.toks) (fun b u e => Heap.get?_push_of_some _ e) (Nat.le_refl _) (valsO_ok (Heap.get?_push_size _ rfl)), rfl, q _ (I.hok.fresh (Nat.le_refl _))⟩
/-- sorted(..) of what reads as the items ds -/
def sortR (T : Tx) (ds : List D) (h : Hs) (H : Hp) (Q : VK) : Prop := ∃ (W : WX) (τ : L2.St) (ρ : List Addr) (vs : List V), RDs T.K H ρ ds vs ∧ HR T H ρ h ∧ PR T W τ H ρ (RAd T.K) Q (match sortD h ds with | some es => newL h es | none => .bad)
theorem sort_go {X : Cx} {pins : List (Addr × Obj)} {σ : L2.St} {H : Hp} {s : Shared} {Q : VK} (hu : X.A.units + 66 < cLine) (I : L2.Inv X pins σ H s) {ds : List D} {h : Hs} {W : WX} {τ : L2.St} {ρ : List Addr} {vs : List V} (rd : RDs X.K H ρ ds vs) (hr : HR (txOf X) H ρ h)
    (hp : PR (txOf X) W τ H ρ (RAd X.K) Q (match sortD h ds with | some es => newL h es | none => .bad)) {its : List Value} (rv : Vals vs its) {h' : Heap} {tk : Nat} (k : ∀ b o, s.heap.get? b = some o → h'.get? b = some o) (hz : its.length ≤ sizeLine) :
    wpAny (model X.prog X.w) X.A.in1 (call (.builtin "list.sort") [.ref h'.objs.size]) (fun _ s' => EP X pins σ Q (.ref h'.objs.size) s') X.xe { s with heap := h'.push { cls := .type "list", data := .seq its.toArray }, toks := tk } := by
  split at hp
  · rename_i es he
    unfold sortD at he
    split at he
    · rename_i ys hy
      split at he
      · rename_i hc
        cases he
        obtain ⟨c1, c2, c3⟩ := hc
        have dp := pyL_dp hr rd hy
        have ea := each_of I rd rv dp
        have hlen : ds.length = ys.length := by rw [rd.length]; exact dpAll_length dp
        have hm : (ds.zip ys).map Prod.snd = ys := List.map_snd_zip (by omega)
        have hzl : (ds.zip ys).length ≤ sizeLine := by rw [List.length_zip, rd.length, rv.length]; omega
        have hob : (h'.push { cls := .type "list", data := .seq its.toArray }).get? h'.objs.size = some (seqObj "list" its.toArray 0) := Heap.get?_push_size _ rfl
        have kb : ∀ b o, s.heap.get? b = some o → (h'.push { cls := .type "list", data := .seq its.toArray }).get? b = some o := fun b o e => Heap.get?_push_of_some _ (k b o e)
        have ne : ∀ b o, s.heap.get? b = some o → b ≠ h'.objs.size := fun b o e => Nat.ne_of_lt (Heap.lt_size (k b o e))
        refine PySem.W.list_sort_data (enc := Prod.snd) hob (ea.mono fun _ _ z => z.1) (ea.mono fun _ _ z => ?_) (by rw [hm]; exact c1) (by rw [hm]; exact c2) hzl (fun b hb => ?_) fun out ol eo => ?_
        · obtain ⟨as, r⟩ := z.2
          refine ⟨as, PyProof.Rows.Reads.keeps kb r, fun q => ?_⟩
          obtain ⟨o, ho⟩ := reads_live r _ q
          exact ne _ _ ho rfl
        · have := c3 b.2 (by rw [← hm]; exact List.mem_map_of_mem hb)
          show X.A.units + 1 + 1 + _ < cLine
          omega
        · obtain ⟨vs', k1, k2⟩ := each_back eo
          obtain ⟨ep, he'⟩ := PyProof.Rows.sortedHeap_at (vs := its) (out := List.toArray out) hob
          have hn : s.heap.get? h'.objs.size = none := by
            cases e : s.heap.get? h'.objs.size with
            | none => rfl
            | some o => exact absurd rfl (ne _ _ e)
          obtain ⟨hn2, J⟩ := laidN (t' := tk) (a := h'.objs.size) (o := .lst vs') (h' := sortedHeap (h'.push { cls := .type "list", data := .seq its.toArray }) h'.objs.size its (List.toArray out)) I
            (fun b o e => (PyProof.Rows.sortedHeap_old (ne _ _ e) (Heap.lt_size (kb b o e))).trans (kb b o e)) hn ⟨by rw [k1.length, ol]; exact hzl, out, ep, k1, he'⟩
          exact ⟨.ref _, _, J, rfl, hp.newL hr k2 _ hn2⟩
      · cases he
    · cases he
  · exact hp.elim
def rSortV (T : Tx) : List V → Hp → VK → Prop := fun vs H Q => ∃ (p a : Addr) (gs : List (L2.Key × V)) (ds : List D) (h : Hs) (W : WX) (τ : L2.St) (ρ : List Addr), vs = [.ref p] ∧ H p = some (valsO p a) ∧ H a = some (.dK gs) ∧ RDs T.K H ρ ds (gs.map (·.2)) ∧ HR T H ρ h ∧
  PR T W τ H ρ (RAd T.K) Q (match sortD h ds with | some es => newL h es | none => .bad)
theorem kv_vals {κ : Type} : ∀ {gs : List (κ × V)} {vs : List (κ × Value)}, KV gs vs → Vals (gs.map (·.2)) (vs.map (·.2))
  | _, _, .nil => .nil
  | _, _, .cons h hs => .cons h.2 (kv_vals hs)
theorem cr_sortV {X : Cx} (hc : X.calm = true) (hu : X.A.units + 66 < cLine) : CallR X (.builtin "sorted") (rSortV (txOf X)) := by
  intro pins s σ H xs us Q I r hh
  obtain ⟨p, a, gs, ds, h, W, τ, ρ, rfl, hpv, ha, rd, hr, hp⟩ := hh
  obtain rfl := Vals.ref1 r
  have view : s.heap.IsValuesView p a := (show L2.ObjOk X.prog X.w H s.heap p (valsO p a) from I.hok p _ hpv).1
  obtain ⟨z, hd, vs, rel, dd⟩ := dk_of I.hok ha
  obtain ⟨ep, hat⟩ := dd.dictAt
  refine sortedSrc (PySem.W.kdl_values (knd := mixKind X.prog X.w) (kvs := vs) (ep := ep)) (I.ok.hd hc) ⟨view, hat⟩ (by rw [← rel.length]; exact z) fun h' tk its k hl hv => ?_
  have ei : its = vs.map (·.2) := by
    refine List.ext_getElem? fun j => ?_
    by_cases hj : j < its.length
    · obtain ⟨kk, hk⟩ := hv j its[j] (List.getElem?_eq_getElem hj)
      rw [List.getElem?_map, hk, List.getElem?_eq_getElem hj]; rfl
    · rw [List.getElem?_eq_none (by omega), List.getElem?_eq_none (by rw [List.length_map]; omega)]
  rw [ei]
  exact sort_go hu I rd hr hp (kv_vals rel) k (by rw [List.length_map, ← rel.length]; exact z)
section
variable {G : Sg} {T : Tx} {B : Heap} {Γ : Cfg} {k : Nat} {S : Sx} {X : Cx} {W : WX} {tg : Expr}
theorem s_svals {e : FE} {eo : Expr} {apos cpos p pos : Pos} (O : Ok T B k S X W) (X0 : Text G T B Γ k) (h1 : isGl S.sc ("sorted" : Str) = true) (h2 : G.blt.contains ("sorted" : Str) = true) (hc : noCall eo = true) (hl : (apos.endLine == cpos.line) = true) (he : PE X eo (tE Γ T W e)) :
    PE X (.Call (.Name "sorted" p) [.Call (.Attribute eo "values" apos) [] [] cpos] [] pos) (tE Γ T W (.svals e)) := by
  obtain ⟨g1, g2⟩ := isGl_ok O.sc h1
  have m2 : X.mg ("sorted" : Str) = none := by have := X0.blt _ h2; rw [← O.tx] at this; exact this
  refine peW (pe_callB (cr_sortV O.calm O.un) g1 m2 PyProof.Rows.boot_sorted (pa_cons (pe_bm0 PySem.F.plainAttrs_dict PySem.F.slot_dict_values PySem.F.type_dict_values mt_vals he (call_base hc) hl) pa_nil) (by decide) g2) fun σ H Q hh => ?_
  obtain ⟨ρ, ls, h, rl, hr, hq⟩ := hh
  rw [ev] at hq
  have hK : X.K = T.K := congrArg Tx.K O.tx
  refine ⟨ρ, ls, h, rl, hr, PR.bind hq fun d h1 ρ1 v H1 _ e1 k1 hr1 rd hq1 => ?_⟩
  cases rd with
  | @loc n a hn =>
    simp only [svalsD] at hq1
    cases hm : mdictAt h1 n with
    | none => rw [hm] at hq1; exact hq1.elim
    | some kvs =>
      rw [hm, Option.bind_some] at hq1
      obtain ⟨gs, g3, g4⟩ := hr1.mdict hn hm
      refine ⟨.inr (.inr (.inl ⟨rfl, .inl ⟨gs, g3⟩⟩)), a, gs, rfl, rfl, g3, fun p hp => ?_⟩
      have kf : KF H1 ρ1 (upd H1 p (valsO p a)) ρ1 := KF.new hp
      rw [O.tx]
      exact ⟨p, a, gs, kvs.map (·.2), h1, W, σ, ρ1, rfl, upd_same, by rw [upd_ne (ne_of_none g3 hp)]; exact g3, g4.vals.mono kf.k (Ext.refl _), hr1.newO hp, hq1.after (Ext.refl _) kf⟩
  | _ => exact hq1.elim
theorem s_dnil {pos : Pos} : PE X (.Dict [] [] pos) (tE Γ T W .dnil) := by
  refine peW pe_dnewK fun σ H Q hh => ?_
  obtain ⟨ρ, ls, h, rl, hr, hq⟩ := hh
  rw [ev] at hq
  intro p hp
  exact hq (ρ ++ [p]) (.ref p) _ (Ext.app _ _) (KF.newC hp) (hr.newC hp rfl ⟨[], upd_same, .nil⟩) (.loc (by rw [← hr.len]; simp))
/-! ### enumerate, zip -/
/-- what is walked: a list's cell, a tuple -/
def SrcAt (T : Tx) (b : Bool) (p : Addr) (xs : List D) (ns : List Nat) (h0 : Hs) (ρ0 : List Addr) (H0 : Hp) : Prop :=
  ∀ (ρ : List Addr) (H : Hp) (h : Hs), HR T H ρ h → Ext ρ0 ρ → Keeps H0 H → same ns h0 h → ∃ vs, SqS b T.K H p vs ∧ RDs T.K H ρ xs vs
theorem src_of {d : D} {v : V} {xs : List D} {h0 : Hs} {ρ0 : List Addr} {H0 : Hp} (hr : HR T H0 ρ0 h0) (rd : RD T.K H0 ρ0 d v) (hx : itemsD h0 d = some xs) : ∃ b p vs, v = .ref p ∧ SqS b T.K H0 p vs ∧ xs.length = vs.length ∧ SrcAt T b p xs (placeD d) h0 ρ0 H0 := by
  cases rd with
  | @loc n p hn =>
    obtain ⟨vs, g1, g2⟩ := hr.lst hn hx
    exact ⟨false, p, vs, rfl, g1, g2.length, fun ρ H h hr1 e k sm => same_lst hr1 e hn hx (sm n (by simp [placeD]))⟩
  | @tup ys p vs g1 g2 =>
    cases hx
    exact ⟨true, p, vs, rfl, g1, g2.length, fun ρ H h hr1 e k sm => ⟨vs, k.sqT g1, g2.mono k e⟩⟩
  | _ => cases hx
theorem enumFrom_get : ∀ (xs : List D) (k i : Nat), (enumFrom k xs)[i]? = (xs[i]?).map fun x => .tup [.int ((k + i : Nat) : Int), x]
  | [], k, i => by simp [enumFrom]
  | x :: xs, k, 0 => by simp [enumFrom]
  | x :: xs, k, i + 1 => by
    rw [enumFrom, List.getElem?_cons_succ, List.getElem?_cons_succ, enumFrom_get xs (k + 1) i]
    congr 2
    funext z
    rw [show k + 1 + i = k + (i + 1) by omega]
theorem enumFrom_length : ∀ (xs : List D) (k : Nat), (enumFrom k xs).length = xs.length
  | [], _ => rfl
  | _ :: xs, k => by rw [enumFrom, List.length_cons, List.length_cons, enumFrom_length xs]
theorem zipD_get : ∀ (xs ys : List D) (i : Nat) (z : D), (zipD xs ys)[i]? = some z → ∃ x y, xs[i]? = some x ∧ ys[i]? = some y ∧ z = .tup [x, y]
  | [], _, i, z, h => by simp [zipD] at h
  | _ :: _, [], i, z, h => by simp [zipD] at h
  | x :: xs, y :: ys, 0, z, h => by simp [zipD] at h; exact ⟨x, y, rfl, rfl, h.symm⟩
  | x :: xs, y :: ys, i + 1, z, h => by
    rw [zipD, List.getElem?_cons_succ] at h
    rw [List.getElem?_cons_succ, List.getElem?_cons_succ]
    exact zipD_get xs ys i z h
theorem zipD_length : ∀ (xs ys : List D), (zipD xs ys).length = min xs.length ys.length
  | [], _ => by simp [zipD]
  | _ :: _, [] => by simp [zipD]
  | _ :: xs, _ :: ys => by rw [zipD, List.length_cons, zipD_length xs ys, List.length_cons, List.length_cons]; omega
theorem walk_enum {b : Bool} {p : Addr} {xs : List D} {n : Nat} {ns : List Nat} {h0 : Hs} {ρ0 : List Addr} {H0 : Hp} (sr : SrcAt T b p xs ns h0 ρ0 H0) (hn : xs.length = n) : Walk T (IteS b T.K p n) (enumFrom 0 xs) ns h0 ρ0 H0 where
  go := fun i ρ H h hr e k sm hi => by
    obtain ⟨vs, g1, g2⟩ := sr ρ H h hr e k sm
    rw [enumFrom_length] at hi
    exact ⟨vs, vs[i]'(by rw [← g2.length]; exact hi), g1, List.getElem?_eq_getElem _, by rw [← g2.length]; exact hn⟩
  yld := fun i ρ H h x H' d hr e k sm hd hy => by
    obtain ⟨vs, g1, g2⟩ := sr ρ H h hr e k sm
    obtain ⟨Tn, y, rfl, hT, rfl, hv⟩ := hy
    rw [enumFrom_get] at hd
    obtain ⟨z, ez, rfl⟩ := Option.map_eq_some_iff.mp hd
    obtain ⟨v, q1, q2⟩ := g2.get ez
    rw [hv vs g1] at q1; cases q1
    refine ⟨fun c o q => by rw [upd_ne (ne_of_none q hT)]; exact q, ?_⟩
    rw [Nat.zero_add]
    exact RD.newTup hT (.cons (.int _) (.cons q2 .nil))
  stop := fun ρ H h hr e k sm => by
    obtain ⟨vs, g1, g2⟩ := sr ρ H h hr e k sm
    exact ⟨vs, g1, by rw [enumFrom_length, g2.length]⟩
theorem walk_zip {b1 b2 : Bool} {p1 p2 : Addr} {xs ys : List D} {n1 n2 : Nat} {ns1 ns2 : List Nat} {h0 : Hs} {ρ0 : List Addr} {H0 : Hp} (s1 : SrcAt T b1 p1 xs ns1 h0 ρ0 H0) (s2 : SrcAt T b2 p2 ys ns2 h0 ρ0 H0) (e1 : xs.length = n1) (e2 : ys.length = n2) :
    Walk T (ItzS b1 b2 T.K p1 p2 n1 n2) (zipD xs ys) (ns1 ++ ns2) h0 ρ0 H0 where
  go := fun i ρ H h hr e k sm hi => by
    obtain ⟨vs, g1, g2⟩ := s1 ρ H h hr e k fun n hn => sm n (List.mem_append_left _ hn)
    obtain ⟨us, g3, g4⟩ := s2 ρ H h hr e k fun n hn => sm n (List.mem_append_right _ hn)
    rw [zipD_length, g2.length, g4.length] at hi
    exact ⟨vs, us, vs[i]'(by omega), us[i]'(by omega), g1, g3, List.getElem?_eq_getElem _, List.getElem?_eq_getElem _, by rw [← g2.length]; exact e1, by rw [← g4.length]; exact e2⟩
  yld := fun i ρ H h x H' d hr e k sm hd hy => by
    obtain ⟨vs, g1, g2⟩ := s1 ρ H h hr e k fun n hn => sm n (List.mem_append_left _ hn)
    obtain ⟨us, g3, g4⟩ := s2 ρ H h hr e k fun n hn => sm n (List.mem_append_right _ hn)
    obtain ⟨Tn, y, y2, rfl, hT, rfl, hv, hv2⟩ := hy
    obtain ⟨a, b, ea, eb, rfl⟩ := zipD_get xs ys i d hd
    obtain ⟨v, q1, q2⟩ := g2.get ea
    obtain ⟨v2, q3, q4⟩ := g4.get eb
    rw [hv vs g1] at q1; cases q1
    rw [hv2 us g3] at q3; cases q3
    exact ⟨fun c o q => by rw [upd_ne (ne_of_none q hT)]; exact q, RD.newTup hT (.cons q2 (.cons q4 .nil))⟩
  stop := fun ρ H h hr e k sm => by
    obtain ⟨vs, g1, g2⟩ := s1 ρ H h hr e k fun n hn => sm n (List.mem_append_left _ hn)
    obtain ⟨us, g3, g4⟩ := s2 ρ H h hr e k fun n hn => sm n (List.mem_append_right _ hn)
    refine ⟨vs, us, g1, g3, ?_⟩
    rw [zipD_length, g2.length, g4.length]
    omega
theorem i_enum {as : FE} {e : Expr} {elts : List Expr} {kk : Nat} {p pos tpos : Pos} (O : Ok T B k S X W) (X0 : Text G T B Γ k) (h3 : isGl S.sc ("enumerate" : Str) = true) (h4 : G.blt.contains ("enumerate" : Str) = true) (hm : mEs G as S [e] = true) (has : PA X [e] (tEs Γ T W as)) :
    PI X (.Tuple elts kk tpos) (.Call (.Name "enumerate" p) [e] [] pos) (tI Γ T W (.ienum as)) := by
  obtain ⟨g3, g4⟩ := isGl_ok O.sc h3
  obtain ⟨n1, n2⟩ := mEs_cons hm
  have m2 : X.mg ("enumerate" : Str) = none := by have := X0.blt _ h4; rw [← O.tx] at this; exact this
  have hK : X.K = T.K := congrArg Tx.K O.tx
  refine ⟨fun pins s σ H RJ I hh => ?_⟩
  obtain ⟨ρ, ls, h, rl, hr, hq⟩ := hh
  rw [evI] at hq
  refine (pi_enumS g3 m2 has (by rw [star_cons n1]; rfl)).run pins s σ H RJ I ⟨ρ, ls, h, rl, hr, PK.bindR hq fun ds h1 ρ1 vs H1 _ e1 k1 hr1 rds hq1 => ?_⟩
  cases rds with
  | nil => exact hq1.elim
  | @cons d v ds vs hd hds =>
    cases hds with
    | nil =>
      have hq1 : PK T W σ H1 ρ1 _ (R.ofO h1 ((itemsD h1 d).map fun xs => (enumFrom 0 xs, placeD d))) := hq1
      obtain ⟨z, ez, hq1⟩ := hq1.ofO
      obtain ⟨xs, hx, rfl⟩ := Option.map_eq_some_iff.mp ez
      obtain ⟨b, a, vs, rfl, g1, g2, sr⟩ := src_of hr1 hd hx
      rw [hK]
      exact ⟨b, a, vs, rfl, g1, PK.ok hq1 hr1 _ (walk_enum sr g2)⟩
    | cons _ _ => exact (show False from hq1).elim
theorem i_zip {as : FE} {e e2 : Expr} {elts : List Expr} {kk : Nat} {p pos tpos : Pos} (O : Ok T B k S X W) (X0 : Text G T B Γ k) (h3 : isGl S.sc ("zip" : Str) = true) (h4 : G.blt.contains ("zip" : Str) = true) (hm : mEs G as S [e, e2] = true) (has : PA X [e, e2] (tEs Γ T W as)) :
    PI X (.Tuple elts kk tpos) (.Call (.Name "zip" p) [e, e2] [] pos) (tI Γ T W (.izip as)) := by
  obtain ⟨g3, g4⟩ := isGl_ok O.sc h3
  obtain ⟨n1, n2⟩ := mEs_cons hm
  have m2 : X.mg ("zip" : Str) = none := by have := X0.blt _ h4; rw [← O.tx] at this; exact this
  have hK : X.K = T.K := congrArg Tx.K O.tx
  refine ⟨fun pins s σ H RJ I hh => ?_⟩
  obtain ⟨ρ, ls, h, rl, hr, hq⟩ := hh
  rw [evI] at hq
  refine (pi_zipS g3 m2 has (star_cons n1) (n2 _ _)).run pins s σ H RJ I ⟨ρ, ls, h, rl, hr, PK.bindR hq fun ds h1 ρ1 vs H1 _ e1 k1 hr1 rds hq1 => ?_⟩
  cases rds with
  | nil => exact (show False from hq1).elim
  | @cons d v ds vs hd hds =>
    cases hds with
    | nil => exact (show False from hq1).elim
    | @cons d2 v2 ds vs hd2 hds =>
      cases hds with
      | nil =>
        simp only [zipI] at hq1
        split at hq1
        · rename_i xs ys hx hy
          obtain ⟨b1, a1, vs1, rfl, g1, g2, sr1⟩ := src_of hr1 hd hx
          obtain ⟨b2, a2, vs2, rfl, g3, g4, sr2⟩ := src_of hr1 hd2 hy
          rw [hK]
          exact ⟨b1, b2, a1, a2, vs1, vs2, rfl, g1, g3, PK.ok hq1 hr1 _ (walk_zip sr1 sr2 g2 g4)⟩
        · exact hq1.elim
      | cons _ _ => exact (show False from hq1).elim
end
end FL
set_option autoImplicit false
set_option linter.all false
set_option maxRecDepth 100000
set_option maxHeartbeats 4000000
/-! FL, part F: soundness of expressions, by induction. -/
namespace FL
open PySem L2 PyProof.Rows PySem.SeqAt

structure Snd (G : Sg) (T : Tx) (B : Heap) (Γ : Cfg) (k : Nat) (fe : FE) : Prop where
  E : ∀ (S : Sx) (e : Expr) (X : Cx) (W : WX), Ok T B k S X W → mE G fe S e = true → PE X e (tE Γ T W fe)
  A : ∀ (S : Sx) (es : List Expr) (X : Cx) (W : WX), Ok T B k S X W → mEs G fe S es = true → PA X es (tEs Γ T W fe)
  P : ∀ (S : Sx) (o : Option Expr) (X : Cx) (W : WX), Ok T B k S X W → mP G fe S o = true → PO X o (tP Γ T W fe)
  I : ∀ (S : Sx) (tg it : Expr) (X : Cx) (W : WX), Ok T B k S X W → mI G fe S tg it = true → PI X tg it (tI Γ T W fe)
  C : ∀ (S : Sx) (e : Expr) (X : Cx) (W : WX), Ok T B k S X W → mE G fe S e = true → PT X e (tT Γ T W fe)
  W : ∀ (S : Sx) (op : BoolOp) (es : List Expr) (pos : Pos) (X : Cx) (W : WX), Ok T B k S X W → mE G fe S (.BoolOp op es pos) = true → PW X (.BoolOp op es pos) (tT Γ T W fe)
section
variable {G : Sg} {T : Tx} {B : Heap} {Γ : Cfg} {k : Nat}
theorem noA {fe : FE} {S : Sx} {es : List Expr} {p : Prop} (h : mEs G fe S es = true) (h2 : mEs G fe S es = false) : p := by rw [h2] at h; cases h
/-- of an expression that is a value alone -/
theorem Snd.val {fe : FE} (E : ∀ (S : Sx) (e : Expr) (X : Cx) (W : WX), Ok T B k S X W → mE G fe S e = true → PE X e (tE Γ T W fe)) (hp : ∀ (S : Sx) (e : Expr), mE G fe S e = true → plainT e = true)
    (hA : ∀ (S : Sx) (es : List Expr), mEs G fe S es = false) (hP : ∀ (S : Sx) (o : Option Expr), mP G fe S o = false) (hI : ∀ (S : Sx) (tg it : Expr), mI G fe S tg it = false) : Snd G T B Γ k fe where
  E := E
  A := fun S es X W _ h => by rw [hA] at h; cases h
  P := fun S o X W _ h => by rw [hP] at h; cases h
  I := fun S tg it X W _ h => by rw [hI] at h; cases h
  C := fun S e X W O h => pt_of O (E S e X W O h) (hp S e h)
  W := fun S op es pos X W O h => by have := hp S _ h; cases this
theorem Snd.val2 {fe : FE} (E : ∀ (S : Sx) (e : Expr) (X : Cx) (W : WX), Ok T B k S X W → mE G fe S e = true → PE X e (tE Γ T W fe)) (C : ∀ (S : Sx) (e : Expr) (X : Cx) (W : WX), Ok T B k S X W → mE G fe S e = true → PT X e (tT Γ T W fe))
    (hB : ∀ (S : Sx) (op : BoolOp) (es : List Expr) (pos : Pos), mE G fe S (.BoolOp op es pos) = false)
    (hA : ∀ (S : Sx) (es : List Expr), mEs G fe S es = false) (hP : ∀ (S : Sx) (o : Option Expr), mP G fe S o = false) (hI : ∀ (S : Sx) (tg it : Expr), mI G fe S tg it = false) : Snd G T B Γ k fe where
  E := E
  A := fun S es X W _ h => by rw [hA] at h; cases h
  P := fun S o X W _ h => by rw [hP] at h; cases h
  I := fun S tg it X W _ h => by rw [hI] at h; cases h
  C := C
  W := fun S op es pos X W O h => by rw [hB] at h; cases h
theorem Snd.none {fe : FE} (hE : ∀ (S : Sx) (e : Expr), mE G fe S e = false) (A : ∀ (S : Sx) (es : List Expr) (X : Cx) (W : WX), Ok T B k S X W → mEs G fe S es = true → PA X es (tEs Γ T W fe)) (P : ∀ (S : Sx) (o : Option Expr) (X : Cx) (W : WX), Ok T B k S X W → mP G fe S o = true → PO X o (tP Γ T W fe))
    (I : ∀ (S : Sx) (tg it : Expr) (X : Cx) (W : WX), Ok T B k S X W → mI G fe S tg it = true → PI X tg it (tI Γ T W fe)) : Snd G T B Γ k fe where
  E := fun S e X W _ h => by rw [hE] at h; cases h
  A := A
  P := P
  I := I
  C := fun S e X W _ h => by rw [hE] at h; cases h
  W := fun S op es pos X W _ h => by rw [hE] at h; cases h

theorem nA {fe : FE} (h : ∀ S : Sx, mEs G fe S = fun _ => false) : ∀ (S : Sx) (es : List Expr), mEs G fe S es = false := fun S es => by rw [h]
theorem tests_of {fe : FE} {S : Sx} {ifs : List Expr} (hS : Snd G T B Γ k fe) (h : (match ifs with
    | [] => noIf fe
    | [i] => mE G fe S i
    | _ => false) = true) : ∀ X', Ok T B k S X' WN → PTs X' ifs (tT Γ T WN fe) := by
  intro X' O
  match ifs, h with
  | [], h =>
    have e := noIf_eq h
    subst e
    refine ⟨fun pins s σ H Q I hh => pts_nil.run pins s σ H Q I ?_⟩
    obtain ⟨ρ, ls, h, rl, hr, hq⟩ := hh
    have hq : PR T WN σ H ρ (RAe Bool) Q (R.ok true h) := by unfold evT at hq; rw [ev] at hq; exact hq
    exact PR.ok (RA := RAe Bool) hq hr rfl
  | [i], h => exact pts_one (hS.C S i X' WN O h)
theorem snd (X0 : Text G T B Γ k) : ∀ fe : FE, Snd G T B Γ k fe := by
  intro fe
  induction fe with
  | var i =>
    refine .val (fun S e X W O h => ?_) (fun S e h => ?_) (fun S es => by cases es <;> simp [mEs]) (fun S o => by cases o <;> simp [mP]) (fun S tg it => by simp [mI])
    · cases e <;> first | (simp [mE] at h; done) | skip
      simp only [mE, Bool.and_eq_true, decide_eq_true_eq] at h
      exact s_var O h.1 h.2
    · cases e <;> first | (simp [mE] at h; done) | rfl
  | cst d =>
    refine .val (fun S e X W O h => ?_) (fun S e h => ?_) (fun S es => by cases es <;> simp [mEs]) (fun S o => by cases o <;> simp [mP]) (fun S tg it => by simp [mI])
    · cases e <;> first | (cases d <;> simp [mE] at h; done) | skip
      rename_i c n pos
      cases d <;> cases c <;> simp [mE] at h
      · exact s_const pe_non fun _ _ => .non
      · subst h; exact s_const pe_bl fun _ _ => .bl _
      · subst h; exact s_const pe_int fun _ _ => .int _
      · subst h; exact s_const pe_str fun _ _ => .str _
    · cases e <;> first | (cases d <;> simp [mE] at h; done) | rfl
  | glob x =>
    refine .val (fun S e X W O h => ?_) (fun S e h => ?_) (fun S es => by cases es <;> simp [mEs]) (fun S o => by cases o <;> simp [mP]) (fun S tg it => by simp [mI])
    · cases e <;> first | (simp [mE] at h; done) | skip
      simp only [mE, Bool.and_eq_true, decide_eq_true_eq] at h
      obtain ⟨⟨h1, h2⟩, h3⟩ := h
      subst h1
      exact s_glob O X0 h2 h3
    · cases e <;> first | (simp [mE] at h; done) | rfl
  | bin op a b iha ihb =>
    refine .val (fun S e X W O h => ?_) (fun S e h => ?_) (fun S es => by cases es <;> simp [mEs]) (fun S o => by cases o <;> simp [mP]) (fun S tg it => by simp [mI])
    · cases e <;> first | (simp [mE] at h; done) | skip
      simp only [mE, Bool.and_eq_true, decide_eq_true_eq] at h
      obtain ⟨⟨h1, h2⟩, h3⟩ := h
      subst h1
      exact s_bin O (iha.E S _ X W O h2) (ihb.E S _ X W O h3)
    · cases e <;> first | (simp [mE] at h; done) | rfl
  | neg a iha =>
    refine .val (fun S e X W O h => ?_) (fun S e h => ?_) (fun S es => by cases es <;> simp [mEs]) (fun S o => by cases o <;> simp [mP]) (fun S tg it => by simp [mI])
    · cases e <;> first | (simp [mE] at h; done) | skip
      rename_i op ea pos
      cases op <;> first | (simp [mE] at h; done) | skip
      simp only [mE] at h
      exact s_neg O (iha.E S _ X W O h)
    · cases e <;> first | (simp [mE] at h; done) | skip
      rename_i op ea pos
      cases op <;> first | (simp [mE] at h; done) | rfl
  | not a iha =>
    refine .val2 (fun S e X W O h => ?_) (fun S e X W O h => ?_) (fun S op es pos => by simp [mE]) (fun S es => by cases es <;> simp [mEs]) (fun S o => by cases o <;> simp [mP]) (fun S tg it => by simp [mI])
    · cases e <;> first | (simp [mE] at h; done) | skip
      rename_i op ea pos
      cases op <;> first | (simp [mE] at h; done) | skip
      simp only [mE] at h
      exact s_not O (iha.E S _ X W O h)
    · cases e <;> first | (simp [mE] at h; done) | skip
      rename_i op ea pos
      cases op <;> first | (simp [mE] at h; done) | skip
      simp only [mE] at h
      exact t_not (iha.C S _ X W O h)
  | cmp op a b iha ihb =>
    have key : ∀ (S : Sx) (e : Expr), mE G (.cmp op a b) S e = true → ∃ ea eb pos, e = .Compare ea [op] [eb] pos ∧ noSet eb = true ∧ mE G a S ea = true ∧ mE G b S eb = true := by
      intro S e h
      cases e <;> first | (simp [mE] at h; done) | skip
      rename_i ea ops cs pos
      match ops, cs, h with
      | [op'], [eb], h =>
        simp only [mE, Bool.and_eq_true, decide_eq_true_eq] at h
        obtain ⟨⟨⟨h1, h2⟩, h3⟩, h4⟩ := h
        subst h1
        exact ⟨ea, eb, pos, rfl, h2, h3, h4⟩
      | [], _, h => simp [mE] at h
      | [_], [], h => simp [mE] at h
      | [_], _ :: _ :: _, h => simp [mE] at h
      | _ :: _ :: _, _, h => simp [mE] at h
    refine .val2 (fun S e X W O h => ?_) (fun S e X W O h => ?_) (fun S op es pos => by simp [mE]) (fun S es => by cases es <;> simp [mEs]) (fun S o => by cases o <;> simp [mP]) (fun S tg it => by simp [mI])
    · obtain ⟨ea, eb, pos, rfl, h2, h3, h4⟩ := key S e h
      exact s_cmp O h2 (iha.E S _ X W O h3) (ihb.E S _ X W O h4)
    · obtain ⟨ea, eb, pos, rfl, h2, h3, h4⟩ := key S e h
      exact t_cmp O h2 (iha.E S _ X W O h3) (ihb.E S _ X W O h4)
  | chain op op' a b c iha ihb ihc =>
    have key : ∀ (S : Sx) (e : Expr), mE G (.chain op op' a b c) S e = true → ∃ ea eb ec pos, e = .Compare ea [op, op'] [eb, ec] pos ∧ noSet ec = true ∧ mE G a S ea = true ∧ mE G b S eb = true ∧ mE G c S ec = true := by
      intro S e h
      cases e <;> first | (simp [mE] at h; done) | skip
      rename_i ea ops cs pos
      match ops, cs, h with
      | [p, p'], [eb, ec], h =>
        simp only [mE, Bool.and_eq_true, decide_eq_true_eq] at h
        obtain ⟨⟨⟨⟨⟨h1, h1'⟩, h2⟩, h3⟩, h4⟩, h5⟩ := h
        subst h1; subst h1'
        exact ⟨ea, eb, ec, pos, rfl, h2, h3, h4, h5⟩
      | [], _, h => simp [mE] at h
      | [_], _, h => simp [mE] at h
      | [_, _], [], h => simp [mE] at h
      | [_, _], [_], h => simp [mE] at h
      | [_, _], _ :: _ :: _ :: _, h => simp [mE] at h
      | _ :: _ :: _ :: _, _, h => simp [mE] at h
    refine .val2 (fun S e X W O h => ?_) (fun S e X W O h => ?_) (fun S op es pos => by simp [mE]) (fun S es => by cases es <;> simp [mEs]) (fun S o => by cases o <;> simp [mP]) (fun S tg it => by simp [mI])
    · obtain ⟨ea, eb, ec, pos, rfl, h2, h3, h4, h5⟩ := key S e h
      exact s_chain O h2 (iha.E S _ X W O h3) (ihb.E S _ X W O h4) (ihc.E S _ X W O h5)
    · obtain ⟨ea, eb, ec, pos, rfl, h2, h3, h4, h5⟩ := key S e h
      exact t_chain O h2 (iha.E S _ X W O h3) (ihb.E S _ X W O h4) (ihc.E S _ X W O h5)
  | and a b iha ihb =>
    have key : ∀ (S : Sx) (e : Expr), mE G (.and a b) S e = true → ∃ ea eb r pos, e = .BoolOp .And (ea :: eb :: r) pos ∧ mE G a S ea = true ∧ ((r = [] ∧ mE G b S eb = true) ∨ mE G b S (.BoolOp .And (eb :: r) pos) = true) := by
      intro S e h
      cases e <;> first | (simp [mE] at h; done) | skip
      rename_i op es pos
      cases op <;> first | (simp [mE] at h; done) | skip
      match es, h with
      | [], h => simp [mE] at h
      | [_], h => simp [mE] at h
      | [ea, eb], h => simp only [mE, Bool.and_eq_true] at h; exact ⟨ea, eb, [], pos, rfl, h.1, .inl ⟨rfl, h.2⟩⟩
      | ea :: eb :: ec :: r, h => simp only [mE, Bool.and_eq_true] at h; exact ⟨ea, eb, ec :: r, pos, rfl, h.1, .inr h.2⟩
    have kW : ∀ (S : Sx) (e : Expr) (X : Cx) (W : WX), Ok T B k S X W → mE G (.and a b) S e = true → PW X e (tT Γ T W (.and a b)) := by
      intro S e X W O h
      obtain ⟨ea, eb, r, pos, rfl, h1, h2⟩ := key S e h
      rcases h2 with ⟨rfl, h2⟩ | h2
      · exact t_and (iha.C S _ X W O h1) (pw_and1 (ihb.C S _ X W O h2))
      · exact t_and (iha.C S _ X W O h1) (ihb.W S _ _ _ X W O h2)
    refine ⟨fun S e X W O h => ?_, fun S es X W O h => by cases es <;> simp [mEs] at h, fun S o X W O h => by cases o <;> simp [mP] at h, fun S tg it X W O h => by simp [mI] at h, fun S e X W O h => (kW S e X W O h).pt, fun S op es pos X W O h => kW S _ X W O h⟩
    obtain ⟨ea, eb, r, pos, rfl, h1, h2⟩ := key S e h
    rcases h2 with ⟨rfl, h2⟩ | h2
    · exact s_and O (iha.E S _ X W O h1) (pe_one (ihb.E S _ X W O h2))
    · exact s_and O (iha.E S _ X W O h1) (ihb.E S _ X W O h2)
  | or a b iha ihb =>
    have key : ∀ (S : Sx) (e : Expr), mE G (.or a b) S e = true → ∃ ea eb r pos, e = .BoolOp .Or (ea :: eb :: r) pos ∧ mE G a S ea = true ∧ ((r = [] ∧ mE G b S eb = true) ∨ mE G b S (.BoolOp .Or (eb :: r) pos) = true) := by
      intro S e h
      cases e <;> first | (simp [mE] at h; done) | skip
      rename_i op es pos
      cases op <;> first | (simp [mE] at h; done) | skip
      match es, h with
      | [], h => simp [mE] at h
      | [_], h => simp [mE] at h
      | [ea, eb], h => simp only [mE, Bool.and_eq_true] at h; exact ⟨ea, eb, [], pos, rfl, h.1, .inl ⟨rfl, h.2⟩⟩
      | ea :: eb :: ec :: r, h => simp only [mE, Bool.and_eq_true] at h; exact ⟨ea, eb, ec :: r, pos, rfl, h.1, .inr h.2⟩
    have kW : ∀ (S : Sx) (e : Expr) (X : Cx) (W : WX), Ok T B k S X W → mE G (.or a b) S e = true → PW X e (tT Γ T W (.or a b)) := by
      intro S e X W O h
      obtain ⟨ea, eb, r, pos, rfl, h1, h2⟩ := key S e h
      rcases h2 with ⟨rfl, h2⟩ | h2
      · exact t_or (iha.C S _ X W O h1) (pw_or1 (ihb.C S _ X W O h2))
      · exact t_or (iha.C S _ X W O h1) (ihb.W S _ _ _ X W O h2)
    refine ⟨fun S e X W O h => ?_, fun S es X W O h => by cases es <;> simp [mEs] at h, fun S o X W O h => by cases o <;> simp [mP] at h, fun S tg it X W O h => by simp [mI] at h, fun S e X W O h => (kW S e X W O h).pt, fun S op es pos X W O h => kW S _ X W O h⟩
    obtain ⟨ea, eb, r, pos, rfl, h1, h2⟩ := key S e h
    rcases h2 with ⟨rfl, h2⟩ | h2
    · exact s_or O (iha.E S _ X W O h1) (pe_one (ihb.E S _ X W O h2))
    · exact s_or O (iha.E S _ X W O h1) (ihb.E S _ X W O h2)
  | ite c a b ihc iha ihb =>
    refine .val2 (fun S e X W O h => ?_) (fun S e X W O h => ?_) (fun S op es pos => by simp [mE]) (fun S es => by cases es <;> simp [mEs]) (fun S o => by cases o <;> simp [mP]) (fun S tg it => by simp [mI])
    · cases e <;> first | (simp [mE] at h; done) | skip
      simp only [mE, Bool.and_eq_true] at h
      exact s_ite (ihc.C S _ X W O h.1.1) (iha.E S _ X W O h.1.2) (ihb.E S _ X W O h.2)
    · cases e <;> first | (simp [mE] at h; done) | skip
      simp only [mE, Bool.and_eq_true] at h
      exact t_ite (ihc.C S _ X W O h.1.1) (iha.C S _ X W O h.1.2) (ihb.C S _ X W O h.2)
  | tup as ih =>
    refine .val (fun S e X W O h => ?_) (fun S e h => ?_) (fun S es => by cases es <;> simp [mEs]) (fun S o => by cases o <;> simp [mP]) (fun S tg it => by simp [mI])
    · cases e <;> first | (simp [mE] at h; done) | skip
      simp only [mE] at h
      exact s_tup (ih.A S _ X W O h)
    · cases e <;> first | (simp [mE] at h; done) | rfl
  | lst as ih =>
    refine .val (fun S e X W O h => ?_) (fun S e h => ?_) (fun S es => by cases es <;> simp [mEs]) (fun S o => by cases o <;> simp [mP]) (fun S tg it => by simp [mI])
    · cases e <;> first | (simp [mE] at h; done) | skip
      simp only [mE] at h
      exact s_lst (ih.A S _ X W O h)
    · cases e <;> first | (simp [mE] at h; done) | rfl
  | anil =>
    refine .none (fun S e => by cases e <;> simp [mE]) (fun S es X W O h => ?_) (fun S o X W O h => by cases o <;> simp [mP] at h) (fun S tg it X W O h => by simp [mI] at h)
    cases es with
    | nil => exact a_nil
    | cons => simp [mEs] at h
  | acons a as iha ihas =>
    refine .none (fun S e => by cases e <;> simp [mE]) (fun S es X W O h => ?_) (fun S o X W O h => by cases o <;> simp [mP] at h) (fun S tg it X W O h => by simp [mI] at h)
    cases es with
    | nil => simp [mEs] at h
    | cons e es =>
      simp only [mEs, Bool.and_eq_true] at h
      exact a_cons h.1.1 (iha.E S _ X W O h.1.2) (ihas.A S _ X W O h.2)
  | idx a i iha ihi =>
    refine .val (fun S e X W O h => ?_) (fun S e h => ?_) (fun S es => by cases es <;> simp [mEs]) (fun S o => by cases o <;> simp [mP]) (fun S tg it => by simp [mI])
    · cases e <;> first | (simp [mE] at h; done) | skip
      simp only [mE, Bool.and_eq_true] at h
      exact s_idx O h.1.1 (iha.E S _ X W O h.1.2) (ihi.E S _ X W O h.2)
    · cases e <;> first | (simp [mE] at h; done) | rfl
  | slice a lo hi iha ihl ihh =>
    refine .val (fun S e X W O h => ?_) (fun S e h => ?_) (fun S es => by cases es <;> simp [mEs]) (fun S o => by cases o <;> simp [mP]) (fun S tg it => by simp [mI])
    · cases e <;> first | (simp [mE] at h; done) | skip
      rename_i ea es pos
      cases es <;> first | (simp [mE] at h; done) | skip
      rename_i l u st p2
      cases st <;> first | (simp [mE] at h; done) | skip
      simp only [mE, Bool.and_eq_true] at h
      exact s_slice O (iha.E S _ X W O h.1.1) (ihl.P S _ X W O h.1.2) (ihh.P S _ X W O h.2)
    · cases e <;> first | (simp [mE] at h; done) | rfl
  | nopart =>
    refine .none (fun S e => by cases e <;> simp [mE]) (fun S es X W O h => by cases es <;> simp [mEs] at h) (fun S o X W O h => ?_) (fun S tg it X W O h => by simp [mI] at h)
    cases o with
    | none => exact p_none
    | some e => simp [mP] at h
  | part a iha =>
    refine .none (fun S e => by cases e <;> simp [mE]) (fun S es X W O h => by cases es <;> simp [mEs] at h) (fun S o X W O h => ?_) (fun S tg it X W O h => by simp [mI] at h)
    cases o with
    | none => simp [mP] at h
    | some e => simp only [mP] at h; exact p_some (iha.E S _ X W O h)
  | call f as ih =>
    have key : ∀ (S : Sx) (e : Expr), mE G (.call f as) S e = true → ∃ p e1 es pos, e = .Call (.Name f p) (e1 :: es) [] pos ∧ isGl S.sc f = true ∧ G.fns.contains f = true ∧ mEs G as S (e1 :: es) = true := by
      intro S e h
      cases e <;> first | (simp [mE] at h; done) | skip
      rename_i fn es kws pos
      cases fn <;> cases kws <;> first | (simp [mE] at h; done) | skip
      rename_i x p
      simp only [mE, Bool.and_eq_true, decide_eq_true_eq] at h
      obtain ⟨⟨⟨⟨h1, h2⟩, h3⟩, h4⟩, h5⟩ := h
      subst h1
      cases es with
      | nil => simp at h4
      | cons e1 es => exact ⟨p, e1, es, pos, rfl, h2, h3, h5⟩
    refine .val (fun S e X W O h => ?_) (fun S e h => ?_) (fun S es => by cases es <;> simp [mEs]) (fun S o => by cases o <;> simp [mP]) (fun S tg it => by simp [mI])
    · obtain ⟨p, e1, es, pos, rfl, h2, h3, h5⟩ := key S e h
      exact s_call O X0 h2 h3 h5 (ih.A S _ X W O h5)
    · obtain ⟨p, e1, es, pos, rfl, _⟩ := key S e h; rfl
  | new c as ih =>
    exact .val (fun S e X W O h => by cases e <;> simp [mE] at h) (fun S e h => by cases e <;> simp [mE] at h) (fun S es => by cases es <;> simp [mEs]) (fun S o => by cases o <;> simp [mP]) (fun S tg it => by simp [mI])
  | meth m o as iho ihas =>
    exact .val (fun S e X W O h => by cases e <;> simp [mE] at h) (fun S e h => by cases e <;> simp [mE] at h) (fun S es => by cases es <;> simp [mEs]) (fun S o => by cases o <;> simp [mP]) (fun S tg it => by simp [mI])
  | attr o f iho =>
    exact .val (fun S e X W O h => by cases e <;> simp [mE] at h) (fun S e h => by cases e <;> simp [mE] at h) (fun S es => by cases es <;> simp [mEs]) (fun S o => by cases o <;> simp [mP]) (fun S tg it => by simp [mI])
  | bcall b as ih =>
    have key : ∀ (S : Sx) (e : Expr), mE G (.bcall b as) S e = true → ∃ p es pos, e = .Call (.Name (btName b) p) es [] pos ∧ isGl S.sc (btName b) = true ∧ G.blt.contains (btName b) = true ∧ (match b with
        | .lrange => (match es with
          | [.Call (.Name y _) rs [] _] => decide (y = ("range" : Str)) && isGl S.sc y && G.blt.contains y && decide (rs.length ≤ 2) && mEs G as S rs
          | _ => false)
        | .trange => (match es with
          | [.Call (.Name y _) rs [] _] => decide (y = ("range" : Str)) && isGl S.sc y && G.blt.contains y && decide (rs.length ≤ 2) && mEs G as S rs
          | _ => false)
        | _ => !es.isEmpty && mEs G as S es) = true := by
      intro S e h
      cases e <;> first | (simp [mE] at h; done) | skip
      rename_i fn es kws pos
      cases fn <;> cases kws <;> first | (simp [mE] at h; done) | skip
      rename_i x p
      simp only [mE] at h
      rw [Bool.and_eq_true, Bool.and_eq_true, Bool.and_eq_true, decide_eq_true_eq] at h
      obtain ⟨⟨⟨h1, h2⟩, h3⟩, h4⟩ := h
      subst h1
      exact ⟨p, es, pos, rfl, h2, h3, h4⟩
    have kr : ∀ (S : Sx) (es : List Expr), (match es with
          | [.Call (.Name y _) rs [] _] => decide (y = ("range" : Str)) && isGl S.sc y && G.blt.contains y && decide (rs.length ≤ 2) && mEs G as S rs
          | _ => false) = true → ∃ p1 rs pos1, es = [.Call (.Name "range" p1) rs [] pos1] ∧ isGl S.sc "range" = true ∧ G.blt.contains "range" = true ∧ mEs G as S rs = true := by
      intro S es h
      split at h
      · rename_i y p1 rs pos1
        simp only [Bool.and_eq_true, decide_eq_true_eq] at h
        obtain ⟨⟨⟨⟨h1, h2⟩, h3⟩, h4⟩, h5⟩ := h
        subst h1
        exact ⟨p1, rs, pos1, rfl, h2, h3, h5⟩
      · cases h
    have emp : ∀ (S : Sx) (es : List Expr), (!es.isEmpty && mEs G as S es) = true → ∃ e1 r, es = e1 :: r ∧ mEs G as S (e1 :: r) = true := by
      intro S es h
      cases es with
      | nil => simp at h
      | cons e1 r => exact ⟨e1, r, rfl, by simpa using h⟩
    have nor : ∀ (S : Sx) (X : Cx) (W : WX), mEs G as S [] = true → ∀ (ls : Ls) (h : Hs), evs Γ as ls h = .ok [] h := by
      intro S X W h ls hh
      cases as <;> simp [mEs] at h
      rw [evs]
    refine .val (fun S e X W O h => ?_) (fun S e h => ?_) (fun S es => by cases es <;> simp [mEs]) (fun S o => by cases o <;> simp [mP]) (fun S tg it => by simp [mI])
    · obtain ⟨p, es, pos, rfl, h2, h3, h4⟩ := key S e h
      have hu : X.A.units + 66 < cLine := O.un
      cases b with
      | len => obtain ⟨e1, r, rfl, h5⟩ := emp S es h4; exact s_bcallB O X0 h2 h3 h5 (ih.A S _ X W O h5) ct_len (by decide +kernel) (by decide +kernel)
      | abs => obtain ⟨e1, r, rfl, h5⟩ := emp S es h4; exact s_bcallB O X0 h2 h3 h5 (ih.A S _ X W O h5) ct_abs (by decide +kernel) (by decide +kernel)
      | int => obtain ⟨e1, r, rfl, h5⟩ := emp S es h4; exact s_bcallT O X0 h2 h3 h5 (ih.A S _ X W O h5) ct_int (by decide +kernel) (by decide +kernel)
      | tuple => obtain ⟨e1, r, rfl, h5⟩ := emp S es h4; exact s_bcallT O X0 h2 h3 h5 (ih.A S _ X W O h5) ct_tuple (by decide +kernel) (by decide +kernel)
      | list => obtain ⟨e1, r, rfl, h5⟩ := emp S es h4; exact s_bcallT O X0 h2 h3 h5 (ih.A S _ X W O h5) ct_list (by decide +kernel) (by decide +kernel)
      | all => obtain ⟨e1, r, rfl, h5⟩ := emp S es h4; exact s_bcallB O X0 h2 h3 h5 (ih.A S _ X W O h5) (ct_all O.calm) (by decide +kernel) (by decide +kernel)
      | any => obtain ⟨e1, r, rfl, h5⟩ := emp S es h4; exact s_bcallB O X0 h2 h3 h5 (ih.A S _ X W O h5) (ct_any O.calm) (by decide +kernel) (by decide +kernel)
      | sum => obtain ⟨e1, r, rfl, h5⟩ := emp S es h4; exact s_bcallB O X0 h2 h3 h5 (ih.A S _ X W O h5) (ct_sum O.calm) (by decide +kernel) (by decide +kernel)
      | max => obtain ⟨e1, r, rfl, h5⟩ := emp S es h4; exact s_bcallB O X0 h2 h3 h5 (ih.A S _ X W O h5) (ct_max O.calm) (by decide +kernel) (by decide +kernel)
      | min => obtain ⟨e1, r, rfl, h5⟩ := emp S es h4; exact s_bcallB O X0 h2 h3 h5 (ih.A S _ X W O h5) (ct_min O.calm) (by decide +kernel) (by decide +kernel)
      | sorted => obtain ⟨e1, r, rfl, h5⟩ := emp S es h4; exact s_bcallB O X0 h2 h3 h5 (ih.A S _ X W O h5) (ct_sorted hu) (by decide +kernel) (by decide +kernel)
      | lrange =>
        obtain ⟨p1, rs, pos1, rfl, g1, g2, g3⟩ := kr S es h4
        cases rs with
        | cons r rs => exact s_lrange O X0 h2 h3 g1 g2 g3 (ih.A S _ X W O g3)
        | nil =>
          refine ⟨fun pins s σ H Q I hh => ?_⟩
          obtain ⟨ρ, ls, hh, rl, hr, hq⟩ := hh
          rw [ev, nor S X W g3] at hq
          exact (gc_sound hr hq).elim
      | trange =>
        obtain ⟨p1, rs, pos1, rfl, g1, g2, g3⟩ := kr S es h4
        cases rs with
        | cons r rs => exact s_trange O X0 h2 h3 g1 g2 g3 (ih.A S _ X W O g3)
        | nil =>
          refine ⟨fun pins s σ H Q I hh => ?_⟩
          obtain ⟨ρ, ls, hh, rl, hr, hq⟩ := hh
          rw [ev, nor S X W g3] at hq
          exact (gc_sound hr hq).elim
    · obtain ⟨p, es, pos, rfl, _⟩ := key S e h; rfl
  | bmeth m o as iho ih =>
    have key : ∀ (S : Sx) (e : Expr), mE G (.bmeth m o as) S e = true → ∃ eo apos es cpos, e = .Call (.Attribute eo (bmName m) apos) es [] cpos ∧ noCall eo = true ∧ (apos.endLine == cpos.line) = true ∧ es.length ≤ 1 ∧ mE G o S eo = true ∧ mEs G as S es = true := by
      intro S e h
      cases e <;> first | (simp [mE] at h; done) | skip
      rename_i fn es kws pos
      cases fn <;> cases kws <;> first | (simp [mE] at h; done) | skip
      rename_i eo x p
      simp only [mE] at h
      rw [Bool.and_eq_true, Bool.and_eq_true, Bool.and_eq_true, Bool.and_eq_true, Bool.and_eq_true, decide_eq_true_eq, decide_eq_true_eq] at h
      obtain ⟨⟨⟨⟨⟨h1, h2⟩, h3⟩, h4⟩, h5⟩, h6⟩ := h
      subst h1
      exact ⟨eo, p, es, pos, rfl, h2, h3, h4, h5, h6⟩
    refine .val (fun S e X W O h => ?_) (fun S e h => ?_) (fun S es => by cases es <;> simp [mEs]) (fun S o => by cases o <;> simp [mP]) (fun S tg it => by simp [mI])
    · obtain ⟨eo, apos, es, cpos, rfl, h1, h2, h3, h4, h5⟩ := key S e h
      have hO := iho.E S _ X W O h4
      have hA := ih.A S _ X W O h5
      match es, h3, h5, hA with
      | _ :: _ :: _, h3, _, _ => simp at h3
      | [e1], _, h5, hA =>
        cases m with
        | append => exact s_bmeth1 O h1 h2 h5 hO hA PySem.F.slot_list_append PySem.F.type_list_append mt_app (fun _ _ _ _ _ q => q)
        | extend => exact s_bmeth1 O h1 h2 h5 hO hA PySem.F.slot_list_extend PySem.F.type_list_extend mt_ext (fun _ _ _ _ _ q => q)
        | pop => exact s_bmeth1 O h1 h2 h5 hO hA PySem.F.slot_list_pop PySem.F.type_list_pop mt_pop1 (fun _ _ _ _ n q => ⟨n, q⟩)
      | [], _, h5, hA =>
        cases m with
        | append => exact s_bmeth0 O h1 h2 h5 hO PySem.F.slot_list_append PySem.F.type_list_append mt_app (fun _ _ _ q => q)
        | extend => exact s_bmeth0 O h1 h2 h5 hO PySem.F.slot_list_extend PySem.F.type_list_extend mt_ext (fun _ _ _ q => q)
        | pop => exact s_bmeth0 O h1 h2 h5 hO PySem.F.slot_list_pop PySem.F.type_list_pop mt_pop0 (fun _ _ _ q => ⟨rfl, q⟩)
    · obtain ⟨eo, apos, es, cpos, rfl, _⟩ := key S e h; rfl
  | comp own t it c e iht ihc ihe =>
    refine .val (fun S ex X W O h => ?_) (fun S ex h => ?_) (fun S es => by cases es <;> simp [mEs]) (fun S o => by cases o <;> simp [mP]) (fun S tg it => by simp [mI])
    · cases ex <;> first | (simp [mE] at h; done) | skip
      rename_i elt gs scope pos
      match gs, h with
      | [], h => simp [mE] at h
      | _ :: _ :: _, h => simp [mE] at h
      | [⟨tg, iter, ifs, a⟩], h =>
        simp only [mE] at h
        rw [Bool.and_eq_true, Bool.and_eq_true, Bool.and_eq_true, Bool.and_eq_true, Bool.and_eq_true, Bool.and_eq_true, Bool.and_eq_true, decide_eq_true_eq] at h
        obtain ⟨⟨⟨⟨⟨⟨⟨h0, h1⟩, h2⟩, h3⟩, h4⟩, h5⟩, h6⟩, h7⟩ := h
        subst h0
        exact s_comp O h1 h2 (iht.I S _ _ X W O h3) h4 h5 (tests_of ihc h7) (fun X' O' => ihe.E _ _ X' WN O' h6)
    · cases ex <;> first | (simp [mE] at h; done) | rfl
  | iseq e ih =>
    refine .none (fun S e => by cases e <;> simp [mE]) (fun S es X W O h => by cases es <;> simp [mEs] at h) (fun S o X W O h => by cases o <;> simp [mP] at h) (fun S tg it X W O h => ?_)
    simp only [mI] at h
    exact i_seq O (ih.E S _ X W O h)
  | irange as ih =>
    refine .none (fun S e => by cases e <;> simp [mE]) (fun S es X W O h => by cases es <;> simp [mEs] at h) (fun S o X W O h => by cases o <;> simp [mP] at h) (fun S tg it X W O h => ?_)
    cases it <;> first | (simp [mI] at h; done) | skip
    rename_i fn es kws pos
    cases fn <;> cases kws <;> first | (simp [mI] at h; done) | skip
    rename_i x p
    simp only [mI, Bool.and_eq_true, decide_eq_true_eq] at h
    obtain ⟨⟨⟨⟨h1, h2⟩, h3⟩, h4⟩, h5⟩ := h
    subst h1
    cases es with
    | cons e es => exact i_range O X0 h2 h3 h5 (ih.A S _ X W O h5)
    | nil =>
      refine ⟨fun pins s σ H Q I hh => ?_⟩
      obtain ⟨ρ, ls, hh, rl, hr, hq⟩ := hh
      cases as <;> simp [mEs] at h5
      rw [evI, evs] at hq
      exact hq.elim
  | ienum as ih =>
    refine .none (fun S e => by cases e <;> simp [mE]) (fun S es X W O h => by cases es <;> simp [mEs] at h) (fun S o X W O h => by cases o <;> simp [mP] at h) (fun S tg it X W O h => ?_)
    cases it <;> first | (simp [mI] at h; done) | skip
    rename_i fn es kws pos
    cases fn <;> cases kws <;> first | (simp [mI] at h; done) | skip
    rename_i x p
    simp only [mI, Bool.and_eq_true, decide_eq_true_eq] at h
    obtain ⟨⟨⟨⟨⟨h0, h1⟩, h2⟩, h3⟩, h4⟩, h5⟩ := h
    subst h1
    cases tg <;> first | (cases h0; done) | skip
    match es, h4 with
    | [e], _ => exact i_enum O X0 h2 h3 h5 (ih.A S _ X W O h5)
  | izip as ih =>
    refine .none (fun S e => by cases e <;> simp [mE]) (fun S es X W O h => by cases es <;> simp [mEs] at h) (fun S o X W O h => by cases o <;> simp [mP] at h) (fun S tg it X W O h => ?_)
    cases it <;> first | (simp [mI] at h; done) | skip
    rename_i fn es kws pos
    cases fn <;> cases kws <;> first | (simp [mI] at h; done) | skip
    rename_i x p
    simp only [mI, Bool.and_eq_true, decide_eq_true_eq] at h
    obtain ⟨⟨⟨⟨⟨h0, h1⟩, h2⟩, h3⟩, h4⟩, h5⟩ := h
    subst h1
    cases tg <;> first | (cases h0; done) | skip
    match es, h4 with
    | [e, e2], _ => exact i_zip O X0 h2 h3 h5 (ih.A S _ X W O h5)
  | dnil =>
    refine .val (fun S e X W O h => ?_) (fun S e h => ?_) (fun S es => by cases es <;> simp [mEs]) (fun S o => by cases o <;> simp [mP]) (fun S tg it => by simp [mI])
    · cases e <;> first | (simp [mE] at h; done) | skip
      rename_i ks vs pos
      cases ks <;> cases vs <;> first | (simp [mE] at h; done) | skip
      exact s_dnil
    · cases e <;> first | (simp [mE] at h; done) | rfl
  | svals e ih =>
    refine .val (fun S x X W O h => ?_) (fun S x h => ?_) (fun S es => by cases es <;> simp [mEs]) (fun S o => by cases o <;> simp [mP]) (fun S tg it => by simp [mI])
    · cases x <;> first | (simp [mE] at h; done) | skip
      rename_i fn es kws pos
      cases fn <;> cases kws <;> first | (simp [mE] at h; done) | skip
      simp only [mE, Bool.and_eq_true, decide_eq_true_eq] at h
      obtain ⟨⟨⟨h1, h2⟩, h3⟩, h4⟩ := h
      subst h1
      split at h4
      · rename_i eo apos cpos hv
        rw [viewC_eq hv]
        simp only [Bool.and_eq_true] at h4
        exact s_svals O X0 h2 h3 h4.1.1 h4.1.2 (ih.E S eo X W O h4.2)
      · cases h4
    · cases x <;> first | (simp [mE] at h; done) | rfl
end
end FL
set_option autoImplicit false
set_option linter.all false
set_option maxRecDepth 100000
/-! FL, part G: statements. -/
namespace FL
open PySem L2 PyProof.Rows PySem.SeqAt

def noComp : Expr → Bool
  | .ListComp .. => false
  | .SetComp .. => false
  | .DictComp .. => false
  | _ => true
def noTup : Expr → Bool
  | .Tuple .. => false
  | .List .. => false
  | _ => true
def mSetLc (G : Sg) (S : Sx) : FT → FE → Expr → Expr → Bool
  | .name i, .comp own t2 it c el, .Name y py, .ListComp elt [g] scope p => decide (S.N[i]? = some y) && decide (S.sc.names.lookup y = some .local) && (py.line == p.line) && !(scope.names.any fun (n, k) => n == y && (k == .local || k == .cell)) && mE G (.comp own t2 it c el) S (.ListComp elt [g] scope p)
  | _, _, _, _ => false
def mRaise (G : Sg) (S : Sx) (c : Str) (as : FE) : Expr → Bool
  | .Call (.Name x _) [a] [] _ => decide (c = x) && isGl S.sc x && G.errs.contains x && mEs G as S [a]
  | _ => false
/-- the suite of an except clause -/
def mFX (G : Sg) (S : Sx) (c n : Str) : FX → List Stmt → Bool
  | .code, [.Return (some (.Attribute (.Name y _) f _)) _] => decide (y = n) && decide (f = ("code" : Str))
  | .codeIs S0, [.Return (some (.IfExp (.Call (.Name z _) [.Name y1 _, .Name y2 _] [] _) (.Attribute (.Name y _) f _) (.Constant (.str _) _ _) _)) _] => decide (y = n) && decide (y1 = n) && decide (y2 = S0) && decide (f = ("code" : Str)) &&
    decide (z = ("isinstance" : Str)) && isGl S.sc z && G.blt.contains z && isGl S.sc y2 && G.isE.contains (c, y2)
  | _, _ => false
def mHandler (G : Sg) (S : Sx) (c : Str) (i : Nat) (x : FX) : List ExceptHandler → Bool
  | [.ExceptHandler (some (.Name z _)) (some n) suite _] => decide (c = z) && isGl S.sc z && G.errs.contains z && decide (S.N[i]? = some n) && decide (S.sc.names.lookup n = some .local) && !(n == ("__debug__" : Str)) && !(n == ("__classdict__" : Str)) && mFX G S c n x suite
  | _ => false
def mAsg (G : Sg) (S : Sx) (e : FE) (tg x : Expr) : FG → Bool
  | .tgt t => (noComp x && (noTup tg || noTup x) && noStar tg && mT S t tg && mE G e S x) || mSetLc G S t e tg x
  | .sub o i => match tg with
    | .Subscript eo ei _ => noComp x && noSlice ei && mE G o S eo && mE G i S ei && mE G e S x
    | _ => false
  | .attr _ _ => false
mutual
def mS (G : Sg) : FS → Sx → Stmt → Bool
  | .pass, _, .Pass _ => true
  | .brk, _, .Break _ => true
  | .cont, _, .Continue _ => true
  | .expr e, S, .Expr x _ => noComp x && mE G e S x
  | .asg g e, S, .Assign tgs x _ => (match tgs with
    | [tg] => mAsg G S e tg x g
    | _ => false)
  | .aug i op e, S, .AugAssign (.Name x _) op' v _ => decide (op = op') && decide (S.N[i]? = some x) && isLoc S x && mE G e S v
  | .raise c as, S, .Raise (some x) none _ => mRaise G S c as x
  | .try_ body c i x, S, .Try ys hs [] [] _ => mSs G body S ys && mHandler G S c i x hs
  | .ret e, S, .Return (some x) _ => mE G e S x
  | .retN, _, .Return none _ => true
  | .ite c a b, S, .If x y z _ => mE G c S x && mSs G a S y && mSs G b S z
  | .for_ t it body _, S, .For tg x ys [] _ => noSet x && mI G it S tg x && mT S t tg && mSs G body S ys
  | .while_ c body _, S, .While x ys [] _ => mE G c S x && mSs G body S ys
  | _, _, _ => false
def mSs (G : Sg) : FS → Sx → List Stmt → Bool
  | .snil, _, [] => true
  | .scons s ss, S, x :: xs => mS G s S x && mSs G ss S xs
  | _, _, _ => false
end

/-! ### readings -/
def PRS (T : Tx) (W : WX) (H : Hp) (ρ : List Addr) (D : Ends) : RS → Prop
  | .nx ls h => ∀ (ρ' : List Addr) (σ' : L2.St) (H' : Hp), Ext ρ ρ' → KF H ρ H' ρ' → HR T H' ρ' h → RL T.K H' ρ' ls σ' → D.nx σ' H'
  | .bk ls h => ∀ (ρ' : List Addr) (σ' : L2.St) (H' : Hp), Ext ρ ρ' → KF H ρ H' ρ' → HR T H' ρ' h → RL T.K H' ρ' ls σ' → D.bk σ' H'
  | .ct ls h => ∀ (ρ' : List Addr) (σ' : L2.St) (H' : Hp), Ext ρ ρ' → KF H ρ H' ρ' → HR T H' ρ' h → RL T.K H' ρ' ls σ' → D.ct σ' H'
  | .rt d h => ∀ (ρ' : List Addr) (v : V) (H' : Hp), Ext ρ ρ' → KF H ρ H' ρ' → HR T H' ρ' h → RD T.K H' ρ' d v → D.rt v H'
  | .exc c fs ls h => ∀ (ρ' : List Addr) (cls : Value) (dx : Option Addr) (σ' : L2.St) (H' : Hp), Ext ρ ρ' → KF H ρ H' ρ' → HR T H' ρ' h → RL T.K H' ρ' ls σ' → XR T H' ρ' c fs cls dx → W cls dx σ' H'
  | .bad => False
def tS (Γ : Cfg) (T : Tx) (W : WX) (fs : FS) : TS := fun D σ H => ∃ ρ ls h, RL T.K H ρ ls σ ∧ HR T H ρ h ∧ PRS T W H ρ D (evS Γ fs ls h)
theorem pssW {X : Cx} {e : List Stmt} {t t' : TS} (h : PSs X e t) (w : ∀ D σ H, t' D σ H → t D σ H) : PSs X e t' := ⟨fun pins s σ H D I q => h.run pins s σ H D I (w D σ H q)⟩
section
variable {α β : Type} {T : Tx} {W : WX} {σ : L2.St} {H H1 : Hp} {ρ ρ1 : List Addr} {D : Ends} {RA : Hp → List Addr → α → β → Prop} {Q : β → Hp → Prop} {K : α → Hs → List Addr → Hp → Prop}
theorem PRS.after {r : RS} (h : PRS T W H ρ D r) (e : Ext ρ ρ1) (k : KF H ρ H1 ρ1) : PRS T W H1 ρ1 D r := by
  cases r with
  | nx ls h' => exact fun ρ' σ' H' e' k' => h ρ' σ' H' (e.trans e') (k.trans k')
  | bk ls h' => exact fun ρ' σ' H' e' k' => h ρ' σ' H' (e.trans e') (k.trans k')
  | ct ls h' => exact fun ρ' σ' H' e' k' => h ρ' σ' H' (e.trans e') (k.trans k')
  | rt d h' => exact fun ρ' v H' e' k' => h ρ' v H' (e.trans e') (k.trans k')
  | exc c fs ls h' => exact fun ρ' cls dx σ' H' e' k' => h ρ' cls dx σ' H' (e.trans e') (k.trans k')
  | bad => exact h
theorem PRS.andS {r : R α} {ls : Ls} {f : α → Hs → RS} (hp : PRS T W H ρ D (r.andS ls f)) (rl : RL T.K H ρ ls σ)
    (k : ∀ (a : α) (h1 : Hs) (ρ1 : List Addr) (b : β) (H1 : Hp), r = .ok a h1 → Ext ρ ρ1 → KF H ρ H1 ρ1 → HR T H1 ρ1 h1 → RA H1 ρ1 a b → PRS T W H1 ρ1 D (f a h1) → Q b H1) : PR T W σ H ρ RA Q r := by
  cases r with
  | ok a h' => exact fun ρ' b H' e' k' hr ra => k a h' ρ' b H' rfl e' k' hr ra (hp.after e' k')
  | exc c fs h' => exact fun ρ' cls dx H' e' k' hr x => hp ρ' cls dx σ H' e' k' hr (rl.mono k'.k e') x
  | bad => exact hp
theorem PRS.andK {r : R α} {ls : Ls} {f : α → Hs → RS} (hp : PRS T W H ρ D (r.andS ls f)) (rl : RL T.K H ρ ls σ)
    (k : ∀ (a : α) (h1 : Hs) (ρ1 : List Addr) (H1 : Hp), r = .ok a h1 → Ext ρ ρ1 → KF H ρ H1 ρ1 → HR T H1 ρ1 h1 → PRS T W H1 ρ1 D (f a h1) → K a h1 ρ1 H1) : PK T W σ H ρ K r := by
  cases r with
  | ok a h' => exact fun ρ' H' e' k' hr => k a h' ρ' H' rfl e' k' hr (hp.after e' k')
  | exc c fs h' => exact fun ρ' cls dx H' e' k' hr x => hp ρ' cls dx σ H' e' k' hr (rl.mono k'.k e') x
  | bad => exact hp
theorem PRS.nx {ls : Ls} {h : Hs} (hp : PRS T W H ρ D (.nx ls h)) (hr : HR T H ρ h) (rl : RL T.K H ρ ls σ) : D.nx σ H := hp ρ σ H (Ext.refl _) (KF.refl _ _) hr rl
end
section
variable {G : Sg} {T : Tx} {B : Heap} {Γ : Cfg} {k : Nat} {S : Sx} {X : Cx} {W : WX}
theorem comp_none {e : Expr} {l : Nat} {env : Env} (h : noComp e = true) (tg : Option Expr) : swapsWith e tg l env = pure false := by
  cases e <;> first | rfl | cases h
theorem ss_pass {pos : Pos} : PS X (.Pass pos) (tS Γ T W .pass) := by
  refine psW ps_pass fun D σ H hh => ?_
  obtain ⟨ρ, ls, h, rl, hr, hq⟩ := hh
  rw [evS] at hq
  exact hq.nx hr rl
theorem ss_brk {pos : Pos} : PS X (.Break pos) (tS Γ T W .brk) := by
  refine psW ps_break fun D σ H hh => ?_
  obtain ⟨ρ, ls, h, rl, hr, hq⟩ := hh
  rw [evS] at hq
  exact hq ρ σ H (Ext.refl _) (KF.refl _ _) hr rl
theorem ss_cont {pos : Pos} : PS X (.Continue pos) (tS Γ T W .cont) := by
  refine psW ps_continue fun D σ H hh => ?_
  obtain ⟨ρ, ls, h, rl, hr, hq⟩ := hh
  rw [evS] at hq
  exact hq ρ σ H (Ext.refl _) (KF.refl _ _) hr rl
theorem ss_expr {e : FE} {x : Expr} {pos : Pos} (hc : noComp x = true) (he : PE X x (tE Γ T W e)) : PS X (.Expr x pos) (tS Γ T W (.expr e)) := by
  refine psW (ps_expr he (comp_none hc _)) fun D σ H hh => ?_
  obtain ⟨ρ, ls, h, rl, hr, hq⟩ := hh
  rw [evS] at hq
  exact ⟨ρ, ls, h, rl, hr, hq.andS rl fun d h1 ρ1 v H1 _ e k1 hr1 rd hq1 => hq1.nx hr1 (rl.mono k1 e)⟩
theorem ss_ret {e : FE} {x : Expr} {pos : Pos} (he : PE X x (tE Γ T W e)) : PS X (.Return (some x) pos) (tS Γ T W (.ret e)) := by
  refine psW (ps_ret he) fun D σ H hh => ?_
  obtain ⟨ρ, ls, h, rl, hr, hq⟩ := hh
  rw [evS] at hq
  exact ⟨ρ, ls, h, rl, hr, hq.andS rl fun d h1 ρ1 v H1 _ e k1 hr1 rd hq1 => hq1 ρ1 v H1 (Ext.refl _) (KF.refl _ _) hr1 rd⟩
theorem ss_retN {pos : Pos} : PS X (.Return none pos) (tS Γ T W .retN) := by
  refine psW ps_retN fun D σ H hh => ?_
  obtain ⟨ρ, ls, h, rl, hr, hq⟩ := hh
  rw [evS] at hq
  exact hq ρ .non H (Ext.refl _) (KF.refl _ _) hr .non
theorem ss_asg {t : FT} {e : FE} {tg x : Expr} {pos : Pos} (O : Ok T B k S X W) (hc : noComp x = true) (ht : (noTup tg || noTup x) = true) (hst : noStar tg = true) (hg : mT S t tg = true) (he : PE X x (tE Γ T W e)) : PS X (.Assign [tg] x pos) (tS Γ T W (.asg (.tgt t) e)) := by
  have hw : swappedStores [tg] x X.env = pure none := by
    cases tg <;> first | rfl | (cases x <;> first | rfl | cases ht)
  refine psW (ps_asg he ((g_ok O t).1 tg hg) (comp_none hc _) hw (by rw [assign_cons hst]; rfl)) fun D σ H hh => ?_
  obtain ⟨ρ, ls, h, rl, hr, hq⟩ := hh
  rw [evS] at hq
  refine ⟨ρ, ls, h, rl, hr, hq.andS rl fun d h1 ρ1 v H1 _ e k1 hr1 rd hq1 => ?_⟩
  simp only [asgG] at hq1
  split at hq1
  · rename_i ls2 ea
    exact ⟨ρ1, ls, d, ls2, rl.mono k1 e, rd, ea, fun σ2 rl2 _ => hq1.nx hr1 rl2⟩
  · exact hq1.elim
theorem ss_sub {o i e : FE} {eo ei x : Expr} {p pos : Pos} (O : Ok T B k S X W) (hc : noComp x = true) (hs : noSlice ei = true) (ho : PE X eo (tE Γ T W o)) (hi : PE X ei (tE Γ T W i)) (he : PE X x (tE Γ T W e)) : PS X (.Assign [.Subscript eo ei p] x pos) (tS Γ T W (.asg (.sub o i) e)) := by
  have ha : ∀ v, assign (.Subscript eo ei p) X.env v = (do
      let ov ← holding [v] (eval eo X.env)
      let iv ← holding [v, ov] (eval ei X.env)
      standAt p
      holding [v, ov, iv] (setItem ov iv v)
      release [v, ov, iv] []) := by
    intro v
    cases ei <;> first | rfl | cases hs
  refine psW (ps_asg he (pg_sub ho hi (set_any (by have := O.un; omega)) ha) (by simp only [swapsWithSole]; exact comp_none hc _) rfl rfl) fun D σ H hh => ?_
  obtain ⟨ρ, ls, h, rl, hr, hq⟩ := hh
  rw [evS] at hq
  refine ⟨ρ, ls, h, rl, hr, hq.andS rl fun d h1 ρ1 v H1 _ e k1 hr1 rd hq1 => ?_⟩
  have rl1 := rl.mono k1.k e
  refine ⟨ρ1, ls, h1, rl1, hr1, hq1.andS rl1 fun d2 h2 ρ2 v2 H2 _ e2 k2 hr2 rd2 hq2 => ?_⟩
  have rl2 := rl1.mono k2.k e2
  refine ⟨ρ2, ls, h2, rl2, hr2, hq2.andS rl2 fun d3 h3 ρ3 v3 H3 _ e3 k3 hr3 rd3 hq3 => ?_⟩
  rw [O.tx]
  exact ⟨W, σ, ρ3, d2, d3, d, h3, rd2.mono k3 e3, rd3, (rd.mono k2.k e2).mono k3.k e3, hr3, hq3.andS ((rl2.mono k3.k e3)) fun _ h4 ρ4 _ H4 _ e4 k4 hr4 _ hq4 => hq4.nx hr4 ((rl2.mono k3.k e3).mono k4.k e4)⟩
theorem ss_aug {i : Nat} {op : Operator} {e : FE} {x : Str} {v : Expr} {p pos : Pos} (O : Ok T B k S X W) (h1 : S.N[i]? = some x) (h2 : isLoc S x = true) (he : PE X v (tE Γ T W e)) : PS X (.AugAssign (.Name x p) op v pos) (tS Γ T W (.aug i op e)) := by
  obtain ⟨l1, l2⟩ := isLoc_ok O.sc O.fn h2
  refine ⟨fun pins s σ H D I hh => ?_⟩
  obtain ⟨ρ, ls, h, rl, hr, hq⟩ := hh
  rw [evS] at hq
  split at hq
  · rename_i d hd
    obtain ⟨u, e1, e2⟩ := rl.2 i d hd
    have nx : ∀ {h1 : Hs} {ρ1 : List Addr} {H1 : Hp} {z : Int}, Ext ρ ρ1 → KF H ρ H1 ρ1 → HR T H1 ρ1 h1 → PRS T W H1 ρ1 D (.nx (ls.set i (some (.int z))) h1) → D.nx (σ.set i (some (.int z))) H1 :=
      fun e k hr1 hq1 => hq1.nx hr1 ((rl.mono k.k e).set (.int _) i)
    have go : ∀ {ti : TIp}, PIp X op ti → (∀ (d2 : FL.D) (h1 : Hs) (ρ1 : List Addr) (v2 : V) (H1 : Hp), Ext ρ ρ1 → KF H ρ H1 ρ1 → HR T H1 ρ1 h1 → RD T.K H1 ρ1 d2 v2 → PRS T W H1 ρ1 D (augRes op d d2 ls i h1) → ti u v2 H1 fun z H2 => D.nx (σ.set i (some z)) H2) → wpAny (model X.prog X.w) X.A (exec (.AugAssign (.Name x p) op v pos) X.env) (SP X pins D) X.xe s := by
      intro ti hti hk
      refine (ps_aug O.nd (by rw [O.N]; exact h1) l1 he hti l2).run pins s σ H D I ⟨u, e1, ρ, ls, h, rl, hr, hq.andS rl fun d2 h1 ρ1 v2 H1 _ e k1 hr1 rd2 hq1 => hk d2 h1 ρ1 v2 H1 e k1 hr1 rd2 hq1⟩
    cases d with
    | int m =>
      cases e2
      cases op with
      | Add =>
        exact go ip_add fun d2 h1 ρ1 v2 H1 e k1 hr1 rd2 hq1 => by
          cases rd2 with
          | int l => exact ⟨m, l, rfl, rfl, nx e k1 hr1 hq1⟩
          | _ => exact hq1.elim
      | Sub =>
        exact go ip_sub fun d2 h1 ρ1 v2 H1 e k1 hr1 rd2 hq1 => by
          cases rd2 with
          | int l => exact ⟨m, l, rfl, rfl, nx e k1 hr1 hq1⟩
          | _ => exact hq1.elim
      | Mult =>
        exact go (ti := rI CMul fun i j => .int (i * j)) iop_mul fun d2 h1 ρ1 v2 H1 e k1 hr1 rd2 hq1 => by
          cases rd2 with
          | int l =>
            by_cases hm : mulOk m l
            · simp only [augRes, binI, if_pos hm] at hq1
              exact ⟨m, l, rfl, rfl, hm, nx e k1 hr1 hq1⟩
            · simp only [augRes, binI, if_neg hm] at hq1
              exact hq1.elim
          | _ => exact hq1.elim
      | _ => exact go (ti := fun _ _ _ _ => False) (fun _ _ _ _ _ _ _ _ _ _ _ _ z => z.elim) fun d2 h1 ρ1 v2 H1 e k1 hr1 rd2 hq1 => by cases rd2 <;> exact hq1.elim
    | _ => exact go (ti := fun _ _ _ _ => False) (fun _ _ _ _ _ _ _ _ _ _ _ _ z => z.elim) fun d2 h1 ρ1 v2 H1 e k1 hr1 rd2 hq1 => hq1.elim
  · exact hq.elim
theorem ss_ite {c : FE} {a b : FS} {x : Expr} {y z : List Stmt} {pos : Pos} (hc : PT X x (tT Γ T W c)) (ha : PSs X y (tS Γ T W a)) (hb : PSs X z (tS Γ T W b)) : PS X (.If x y z pos) (tS Γ T W (.ite c a b)) := by
  refine psW (ps_if hc ha hb) fun D σ H hh => ?_
  obtain ⟨ρ, ls, h, rl, hr, hq⟩ := hh
  rw [evS] at hq
  refine ⟨ρ, ls, h, rl, hr, hq.andS rl fun d h1 ρ1 v H1 _ e k1 hr1 rd hq1 => ?_⟩
  cases rd
  cases d with
  | true => exact ⟨ρ1, ls, h1, rl.mono k1 e, hr1, hq1⟩
  | false => exact ⟨ρ1, ls, h1, rl.mono k1 e, hr1, hq1⟩
theorem ss_nil : PSs X [] (tS Γ T W .snil) := by
  refine pssW pss_nil fun D σ H hh => ?_
  obtain ⟨ρ, ls, h, rl, hr, hq⟩ := hh
  rw [evS] at hq
  exact hq.nx hr rl
theorem ss_cons {s ss : FS} {x : Stmt} {xs : List Stmt} (hs : PS X x (tS Γ T W s)) (hss : PSs X xs (tS Γ T W ss)) : PSs X (x :: xs) (tS Γ T W (.scons s ss)) := by
  refine pssW (pss_cons hs hss) fun D σ H hh => ?_
  obtain ⟨ρ, ls, h, rl, hr, hq⟩ := hh
  rw [evS] at hq
  refine ⟨ρ, ls, h, rl, hr, ?_⟩
  cases q : evS Γ s ls h with
  | nx ls1 h1 =>
    rw [q] at hq
    exact fun ρ' σ' H' e k hr' rl' => ⟨ρ', ls1, h1, rl', hr', PRS.after (show PRS T W H ρ D (evS Γ ss ls1 h1) from hq) e k⟩
  | bk _ _ => rw [q] at hq; exact hq
  | ct _ _ => rw [q] at hq; exact hq
  | rt _ _ => rw [q] at hq; exact hq
  | exc _ _ _ _ => rw [q] at hq; exact hq
  | bad => rw [q] at hq; exact hq
/-- behind a turn -/
theorem turn_ok {fg : List Nat} {r : RS} {go : Ls → Hs → RS} {H : Hp} {ρ : List Addr} {D : Ends} {N : L2.St → Hp → Prop} (hq : PRS T W H ρ D (turnEnd fg r go))
    (hN : ∀ (ls : Ls) (h : Hs) (ρ' : List Addr) (σ' : L2.St) (H' : Hp), Ext ρ ρ' → KF H ρ H' ρ' → HR T H' ρ' h → RL T.K H' ρ' (FL.wipe ls fg) σ' → PRS T W H' ρ' D (go (FL.wipe ls fg) h) → N σ' H') :
    PRS T W H ρ { D with nx := N, ct := N, bk := D.nx } r := by
  cases r with
  | nx ls h => exact fun ρ' σ' H' e k hr rl => hN ls h ρ' σ' H' e k hr (rl.forgetL fg) (PRS.after (show PRS T W H ρ D (go (FL.wipe ls fg) h) from hq) e k)
  | ct ls h => exact fun ρ' σ' H' e k hr rl => hN ls h ρ' σ' H' e k hr (rl.forgetL fg) (PRS.after (show PRS T W H ρ D (go (FL.wipe ls fg) h) from hq) e k)
  | bk ls h => exact fun ρ' σ' H' e k hr rl => hq ρ' σ' H' e k hr (rl.forgetL fg)
  | rt d h => exact hq
  | exc c fs ls h => exact hq
  | bad => exact hq
theorem ss_for {t : FT} {it : FE} {body : FS} {fg : List Nat} {tg x : Expr} {ys : List Stmt} {pos : Pos} (O : Ok T B k S X W) (hs : noSet x = true) (hi : PI X tg x (tI Γ T W it)) (hg : mT S t tg = true) (hb : PSs X ys (tS Γ T W body)) : PS X (.For tg x ys [] pos) (tS Γ T W (.for_ t it body fg)) := by
  refine psW (ps_for O.own O.calm hi ((g_ok O t).1 tg hg) hb (set_fold hs)) fun D σ H hh => ?_
  obtain ⟨ρ, ls, h, rl, hr, hq⟩ := hh
  rw [evS] at hq
  refine ⟨ρ, ls, h, rl, hr, hq.andK rl fun w h1 ρ1 H1 _ e1 k1 hr1 hq1 J wk => ?_⟩
  obtain ⟨items, ns⟩ := w
  have wk' : Walk T J items ns h1 ρ1 H1 := wk
  generalize hstep : (fun (x : FL.D) (ls1 : Ls) (h2 : Hs) => match asgT t x ls1 with
      | some ls2 => evS Γ body ls2 h2
      | none => .bad) = step at hq1
  refine ⟨fun i m σ2 H2 => m = items.length - i ∧ i ≤ items.length ∧ ∃ (ρ2 : List Addr) (ls2 : Ls) (h2 : Hs), RL T.K H2 ρ2 ls2 σ2 ∧ HR T H2 ρ2 h2 ∧ Ext ρ1 ρ2 ∧ Keeps H1 H2 ∧ same ns h1 h2 ∧ PRS T W H2 ρ2 D (forL fg ns h1 step (items.drop i) ls2 h2), ⟨items.length, by simp, Nat.zero_le _, ρ1, ls, h1, rl.mono k1 e1, hr1, Ext.refl _, Keeps.refl _, fun _ _ => rfl, by simpa using hq1⟩, ?_⟩
  rintro i m σ2 H2 ⟨rfl, hi2, ρ2, ls2, h2, rl2, hr2, e2, k2, sm, hq2⟩
  by_cases hlt : i < items.length
  · rw [List.drop_eq_getElem_cons hlt, forL] at hq2
    refine .inr ⟨wk'.go i ρ2 H2 h2 hr2 e2 k2 sm hlt, fun σ' H' => ∃ (ρ3 : List Addr) (ls3 : Ls) (h3 : Hs), RL T.K H' ρ3 ls3 σ' ∧ HR T H' ρ3 h3 ∧ Ext ρ1 ρ3 ∧ Keeps H1 H' ∧ same ns h1 h3 ∧ PRS T W H' ρ3 D (forL fg ns h1 step (items.drop (i + 1)) ls3 h3), fun σ' H' hh => ⟨items.length - (i + 1), by omega, rfl, by omega, hh⟩, fun v H3 hy => ?_⟩
    obtain ⟨s3, rdx⟩ := wk'.yld i ρ2 H2 h2 v H3 items[i] hr2 e2 k2 sm (List.getElem?_eq_getElem hlt) hy
    have hr3 := hr2.keep s3
    have k23 : Keeps H2 H3 := sameKeeps s3
    rw [← hstep] at hq2
    cases ea : asgT t items[i] ls2 with
    | none => simp only [ea] at hq2; exact hq2.elim
    | some ls3 =>
      simp only [ea] at hq2
      rw [hstep] at hq2
      refine ⟨ρ2, ls2, items[i], ls3, rl2.mono k23 (Ext.refl _), rdx, ea, fun σ3 rl3 _ => ⟨ρ2, ls3, h2, rl3, hr3, ?_⟩⟩
      have kf : KF H2 ρ2 H3 ρ2 := ⟨k23, fun a o h n => ⟨s3 _ _ h, n⟩⟩
      refine turn_ok (hq2.after (Ext.refl _) kf) fun ls4 h4 ρ4 σ4 H4 e4 k4 hr4 rl4 hq4 => ?_
      split at hq4
      · rename_i hsm
        exact ⟨ρ4, _, h4, rl4, hr4, e2.trans e4, (k2.trans k23).trans k4.k, hsm, hq4⟩
      · exact hq4.elim
  · have ei : i = items.length := by omega
    subst ei
    rw [List.drop_length, forL] at hq2
    exact .inl ⟨wk'.stop ρ2 H2 h2 hr2 e2 k2 sm, hq2.nx hr2 rl2⟩
theorem ss_while {c : FE} {body : FS} {fg : List Nat} {x : Expr} {ys : List Stmt} {pos : Pos} (O : Ok T B k S X W) (hc : PT X x (tT Γ T W c)) (hb : PSs X ys (tS Γ T W body)) : PS X (.While x ys [] pos) (tS Γ T W (.while_ c body fg)) := by
  refine psW (ps_while O.own hc hb) fun D σ H hh => ?_
  obtain ⟨ρ, ls, h, rl, hr, hq⟩ := hh
  rw [evS] at hq
  refine ⟨fun m σ2 H2 => ∃ (ρ2 : List Addr) (ls2 : Ls) (h2 : Hs), RL T.K H2 ρ2 ls2 σ2 ∧ HR T H2 ρ2 h2 ∧ PRS T W H2 ρ2 D (whileL fg (evT Γ c) (evS Γ body) m ls2 h2), ⟨Γ.big, ρ, ls, h, rl, hr, hq⟩, ?_⟩
  rintro m σ2 H2 ⟨ρ2, ls2, h2, rl2, hr2, hq2⟩
  cases m with
  | zero => exact hq2.elim
  | succ m =>
    rw [whileL] at hq2
    refine ⟨ρ2, ls2, h2, rl2, hr2, hq2.andS rl2 fun d h3 ρ3 v H3 _ e3 k3 hr3 rd hq3 => ?_⟩
    cases rd
    cases d with
    | false =>
      rw [if_neg Bool.false_ne_true] at hq3 ⊢
      exact hq3.nx hr3 (rl2.mono k3 e3)
    | true =>
      rw [if_pos rfl] at hq3 ⊢
      refine ⟨fun σ' H' => ∃ (ρ3 : List Addr) (ls3 : Ls) (h3 : Hs), RL T.K H' ρ3 ls3 σ' ∧ HR T H' ρ3 h3 ∧ PRS T W H' ρ3 D (whileL fg (evT Γ c) (evS Γ body) m ls3 h3), fun σ' H' hh => ⟨m, Nat.lt_succ_self m, hh⟩, ρ3, ls2, h3, rl2.mono k3 e3, hr3, ?_⟩
      exact turn_ok hq3 fun ls4 h4 ρ4 σ4 H4 e4 k4 hr4 rl4 hq4 => ⟨ρ4, _, h4, rl4, hr4, hq4⟩
theorem ss_raise {c : Str} {as : FE} {x : Expr} {pos : Pos} (O : Ok T B k S X W) (X0 : Text G T B Γ k) (hm : mRaise G S c as x = true) (has : ∀ a, mEs G as S [a] = true → PA X [a] (tEs Γ T W as)) : PS X (.Raise (some x) none pos) (tS Γ T W (.raise c as)) := by
  unfold mRaise at hm
  split at hm
  · rename_i z p a pos2
    simp only [Bool.and_eq_true, decide_eq_true_eq] at hm
    obtain ⟨⟨⟨rfl, h1⟩, h2⟩, h3⟩ := hm
    obtain ⟨g1, g2⟩ := isGl_ok O.sc h1
    obtain ⟨C, fI, Tx, _⟩ := X0.errs _ h2
    have Tx' : EX.Txt X.prog X.K X.mg c C fI := by have e := O.tx; rw [← e] at Tx; exact Tx
    refine psW (ps_raise O.calm O.takes (EX.pmk Tx' O.room (has a h3) g1 g2 (star_cons (mEs_cons h3).1))) fun D σ H hh => ?_
    obtain ⟨ρ, ls, h, rl, hr, hq⟩ := hh
    rw [evS] at hq
    refine ⟨ρ, ls, h, rl, hr, hq.andS rl fun ds h1 ρ1 vs H1 _ e k1 hr1 rds hq1 => ?_⟩
    unfold raiseR at hq1
    split at hq1
    · split at hq1
      · rename_i y _ hy
        cases rds with
        | cons rd rds =>
          cases rds
          cases rd
          refine ⟨y, rfl, hy, fun d hd => ?_⟩
          have kf : KF H1 ρ1 (upd H1 d (.xd [("code", V.str y)])) ρ1 := KF.new hd
          exact hq1 ρ1 (.ref C) (some d) σ _ (Ext.refl _) kf (hr1.newO hd) ((rl.mono k1.k e).mono kf.k (Ext.refl _)) ⟨C, Tx.gC, rfl, .inr ⟨d, _, rfl, upd_same, .cons ⟨rfl, .str y⟩ .nil⟩⟩
      · exact hq1.elim
    · exact hq1.elim
  · cases hm
/-- what the suite reads -/
theorem s_suite {c n : Str} {i : Nat} {x : FX} {C fI : Addr} {suite : List Stmt} (O : Ok T B k S X W) (X0 : Text G T B Γ k) (Tx : EX.Txt X.prog X.K X.mg c C fI) (hi : S.N[i]? = some n) (hl : S.sc.names.lookup n = some .local) (hd1 : (n == ("__debug__" : Str)) = false) (hd2 : (n == ("__classdict__" : Str)) = false) (hx : mFX G S c n x suite = true) :
    ∃ b₀ r, suite = b₀ :: r ∧ ∀ (a : Addr) (oe : Obj) (cls : Value) (d : Option Addr) (pn : List (Addr × Obj)), Zc cls d oe → (∃ vs, oe.data = .fields vs) → PSs (X.suite a ((a, oe) :: pn)) (b₀ :: r) (fun D σ H => σ[i]? = some (some (.ref a)) ∧ cls = .ref C ∧ ∃ (dd : Addr) (v : V), d = some dd ∧ H dd = some (.xd [("code", v)]) ∧ D.rt v H) := by
  have hxf : XfC X.K C := ⟨Tx.ga, Tx.gg, Tx.exC, Tx.hdC⟩
  have etx := O.tx
  have hv : ∀ (a : Addr) (pn : List (Addr × Obj)) (p : Pos), PE (X.suite a pn) (.Name n p) (tVar i) := fun a pn p => pe_var (i := i) (by show X.N[i]? = some n; rw [O.N]; exact hi) (by show Vis X.env.scope n; rw [O.sc]; exact .inl hl) hd1 hd2
  cases x with
  | codeIs S0 =>
    unfold mFX at hx
    split at hx
    · rename_i he; cases he
    · rename_i S1 z p1 y1 p2 y2 p3 p4 y p5 f p6 s0 k0 p7 p8 p9 he
      cases he
      simp only [Bool.and_eq_true, decide_eq_true_eq] at hx
      obtain ⟨⟨⟨⟨⟨⟨⟨⟨rfl, rfl⟩, rfl⟩, rfl⟩, rfl⟩, h1⟩, h2⟩, h3⟩, h4⟩ := hx
      obtain ⟨C', Sa, i1, i2, i3, i4⟩ := X0.isE _ _ h4
      have e1 : X.mg c = some (.ref C') := by rw [← etx] at i1; exact i1
      have e2 : X.mg y2 = some (.ref Sa) := by rw [← etx] at i2; exact i2
      have e3 : ExcC X.K C' := by rw [← etx] at i3; exact i3
      have e4 : PySem.W.kitOne X.K (.ref C') (.ref Sa) = some true := by rw [← etx] at i4; exact i4
      have eC : C' = C := by have := e1.symm.trans Tx.gC; cases this; rfl
      subst eC
      obtain ⟨g1, g2⟩ := isGl_ok O.sc h1
      obtain ⟨g3, g4⟩ := isGl_ok O.sc h3
      have m2 : X.mg ("isinstance" : Str) = none := by have := X0.blt _ h2; rw [← O.tx] at this; exact this
      refine ⟨_, _, rfl, fun a oe cls d pn hz hf => ?_⟩
      have hcall : PE (X.suite a ((a, oe) :: pn)) (.Call (.Name "isinstance" p1) [.Name y1 p2, .Name y2 p3] [] p4) (tCB (EX.rIs X.K C' Sa a cls d) _) :=
        pe_callB (X := X.suite a ((a, oe) :: pn)) (EX.call_is e3 hz hf) g1 m2 PyProof.Rows.boot_isinstance (pa_cons (hv a _ p2) (pa_cons (pe_glob (X := X.suite a ((a, oe) :: pn)) (v := .ref Sa) g3 e2 rfl g4) pa_nil)) (by decide) g2
      refine pssW (pss_cons (ps_ret (pe_ifExp (pt_truth hcall (fun _ => rfl)) (pe_xf hxf Tx.noN hz hf (hv a _ p5)) pe_str)) pss_nil) fun D σ H hh => ?_
      obtain ⟨q1, q2, dd, v, q3, q4, q⟩ := hh
      exact ⟨_, q1, dd, _, q2, q3, rfl, q4, e4, true, rfl, _, q1, rfl, q2, dd, _, v, q3, q4, by simp [List.lookup], q⟩
    · cases hx
  | code =>
    unfold mFX at hx
    split at hx
    · rename_i y p1 f p2 p3 _
      simp only [Bool.and_eq_true, decide_eq_true_eq] at hx
      obtain ⟨rfl, rfl⟩ := hx
      refine ⟨_, _, rfl, fun a oe cls d pn hz hf => pssW (pss_cons (ps_ret (pe_xf hxf Tx.noN hz hf (hv a _ p1))) pss_nil) fun D σ H hh => ?_⟩
      obtain ⟨e1, e2, dd, v, e3, e4, q⟩ := hh
      exact ⟨_, e1, rfl, e2, dd, _, v, e3, e4, by simp [List.lookup], q⟩
    · rename_i he; cases he
    · cases hx
theorem ss_try {body : FS} {c : Str} {i : Nat} {x : FX} {ys : List Stmt} {hs : List ExceptHandler} {pos : Pos} (O : Ok T B k S X W) (X0 : Text G T B Γ k) (hst : X.stack = X.env :: X.outer) (hfr : X.env.frame = some X.env.locals) (hk : X.env.scope.kind = .function) (hm : mHandler G S c i x hs = true)
    (hb : ∀ (X' : Cx) (W' : WX), Ok T B k S X' W' → X'.stack = X'.env :: X'.outer → X'.env.frame = some X'.env.locals → PSs X' ys (tS Γ T W' body)) : PS X (.Try ys hs [] [] pos) (tS Γ T W (.try_ body c i x)) := by
  unfold mHandler at hm
  split at hm
  · rename_i z np n suite pos'
    simp only [Bool.and_eq_true, decide_eq_true_eq, Bool.not_eq_true'] at hm
    obtain ⟨⟨⟨⟨⟨⟨⟨rfl, h1⟩, h2⟩, h3⟩, h4⟩, h5⟩, h6⟩, h7⟩ := hm
    obtain ⟨g1, g2⟩ := isGl_ok O.sc h1
    obtain ⟨C, fI, Tx, te⟩ := X0.errs _ h2
    have etx := O.tx
    have Tx' : EX.Txt X.prog X.K X.mg c C fI := by have Tx := Tx; rw [← etx] at Tx; exact Tx
    have te' : PySem.W.exmOne X.K (.ref C) (.ref C) = some true := by have te := te; rw [← etx] at te; exact te
    obtain ⟨b₀, r, rfl, hsu⟩ := s_suite O X0 Tx' h3 h4 h5 h6 h7
    refine psW (ps_try_as (i := i) (tb := fun W' => tS Γ T W' body) hst hfr O.nd (by rw [O.N]; exact h3) (by show X.env.scope.names.lookup n = _; rw [O.sc]; exact h4) ⟨g1, g2, .inl Tx'.gC⟩ O.takes (fun W' pn xe tk po => hb (X.tr pn xe) W' ⟨O.tx, O.base, O.N, O.sc, O.fn, O.nd, O.calm, tk, O.room, po⟩ hst hfr) hsu) fun D σ H hh => ?_
    obtain ⟨ρ, ls, h, rl, hr, hq⟩ := hh
    rw [evS] at hq
    refine ⟨ρ, ls, h, rl, hr, ?_⟩
    cases q : evS Γ body ls h with
    | nx ls1 h1 => rw [q] at hq; exact hq
    | bk ls1 h1 => rw [q] at hq; exact hq
    | ct ls1 h1 => rw [q] at hq; exact hq
    | rt d h1 => rw [q] at hq; exact hq
    | bad => rw [q] at hq; exact hq.elim
    | exc c' fs ls1 h1 =>
      rw [q] at hq
      simp only [catchR] at hq
      split at hq
      · rename_i ec
        obtain ⟨rfl, hlt⟩ := ec
        split at hq
        · rename_i f d
          split at hq
          · rename_i ef
            subst ef
            rintro ρ' cls dx σ' H' e' k' hr' rl' ⟨C', gC', rfl, hx⟩
            have eC : C' = C := by have := gC'.symm.trans Tx.gC; cases this; rfl
            subst eC
            rcases hx with ⟨hx, _⟩ | ⟨dd, gs, rfl, hdd, hfs⟩
            · cases hx
            · cases hfs with
              | @cons _ b _ _ hp hps =>
                cases hps
                obtain ⟨bf, bv⟩ := b
                obtain ⟨hp1, hp2⟩ := hp
                have hp1 : (("code" : Str)) = bf := hp1
                subst hp1
                refine ⟨true, te', fun _ a ha => ⟨?_, rfl, dd, bv, rfl, hdd, hq ρ' bv H' e' k' hr' hp2⟩, fun z => Bool.noConfusion z⟩
                exact List.getElem?_set_self (by rw [← rl'.1]; exact hlt)
          · exact hq.elim
        · exact hq.elim
      · exact hq.elim
  · cases hm
end
end FL
set_option autoImplicit false
set_option linter.all false
set_option maxRecDepth 100000
set_option maxHeartbeats 2000000
/-! FL, part H: soundness of statements, of defs. -/
namespace FL
open PySem L2 PyProof.Rows PySem.SeqAt
section
variable {G : Sg} {T : Tx} {B : Heap} {Γ : Cfg} {k : Nat}
/-- a def's own context -/
def OkF (X : Cx) : Prop := X.stack = X.env :: X.outer ∧ X.env.frame = some X.env.locals
structure SndS (G : Sg) (T : Tx) (B : Heap) (Γ : Cfg) (k : Nat) (fs : FS) : Prop where
  S : ∀ (S : Sx) (x : Stmt) (X : Cx) (W : WX), S.sc.kind = .function → OkF X → Ok T B k S X W → mS G fs S x = true → PS X x (tS Γ T W fs)
  Ss : ∀ (S : Sx) (xs : List Stmt) (X : Cx) (W : WX), S.sc.kind = .function → OkF X → Ok T B k S X W → mSs G fs S xs = true → PSs X xs (tS Γ T W fs)
theorem SndS.one {fs : FS} (h : ∀ (S : Sx) (x : Stmt) (X : Cx) (W : WX), S.sc.kind = .function → OkF X → Ok T B k S X W → mS G fs S x = true → PS X x (tS Γ T W fs)) (h2 : ∀ (S : Sx) (xs : List Stmt), mSs G fs S xs = false) : SndS G T B Γ k fs :=
  ⟨h, fun S xs X W _ _ O q => by rw [h2] at q; cases q⟩
theorem ss_setLc {i : Nat} {y : Str} {own : List Nat} {t : FT} {it c e : FE} {elt tg iter : Expr} {ifs : List Expr} {an : Int} {scope : Scope} {py pos spos : Pos} {S : Sx} {X : Cx} {W : WX} (O : Ok T B k S X W) (X0 : Text G T B Γ k) (hk : S.sc.kind = .function) (hy : S.N[i]? = some y) (hyl : S.sc.names.lookup y = some .local)
    (hl : (py.line == pos.line) = true) (ha : (scope.names.any fun (n, k) => n == y && (k == .local || k == .cell)) = false) (hm : mE G (.comp own t it c e) S (.ListComp elt [⟨tg, iter, ifs, an⟩] scope pos) = true) :
    PS X (.Assign [.Name y py] (.ListComp elt [⟨tg, iter, ifs, an⟩] scope pos) spos) (tS Γ T W (.asg (.tgt (.name i)) (.comp own t it c e))) := by
  simp only [mE, Bool.and_eq_true, decide_eq_true_eq, Bool.not_eq_true'] at hm
  obtain ⟨⟨⟨⟨⟨⟨⟨rfl, hb⟩, hs⟩, hi⟩, hg⟩, hsl⟩, he⟩, hif⟩ := hm
  have hyl' : X.env.scope.names.lookup y = some .local := by rw [O.sc]; exact hyl
  refine psW (p_setLc O (by rw [O.N]; exact hy) hyl' hl ha (by rw [O.sc]; exact hk) hb hs ((snd X0 it).I S tg iter X W O hi) hg hsl (tests_of (snd X0 c) hif) (fun X' O' => (snd X0 e).E _ elt X' WN O' he)) fun D σ H hh => ?_
  obtain ⟨ρ, ls, h, rl, hr, hq⟩ := hh
  rw [evS] at hq
  refine ⟨ρ, ls, h, rl, hr, hq.andS rl fun d h1 ρ1 v H1 _ e k1 hr1 rd hq1 => ?_⟩
  simp only [asgG, asgT] at hq1
  split at hq1
  · rename_i ls2 ea
    split at ea
    · cases ea
      exact hq1.nx hr1 ((rl.mono k1 e).set rd i)
    · cases ea
  · exact hq1.elim
theorem sndS (X0 : Text G T B Γ k) : ∀ fs : FS, SndS G T B Γ k fs := by
  intro fs
  induction fs with
  | pass =>
    refine .one (fun S x X W _ _ O h => ?_) (fun S xs => by cases xs <;> simp [mSs])
    cases x <;> first | (simp [mS] at h; done) | exact ss_pass
  | brk =>
    refine .one (fun S x X W _ _ O h => ?_) (fun S xs => by cases xs <;> simp [mSs])
    cases x <;> first | (simp [mS] at h; done) | exact ss_brk
  | cont =>
    refine .one (fun S x X W _ _ O h => ?_) (fun S xs => by cases xs <;> simp [mSs])
    cases x <;> first | (simp [mS] at h; done) | exact ss_cont
  | expr e =>
    refine .one (fun S x X W _ _ O h => ?_) (fun S xs => by cases xs <;> simp [mSs])
    cases x <;> first | (simp [mS] at h; done) | skip
    simp only [mS, Bool.and_eq_true] at h
    exact ss_expr h.1 ((snd X0 e).E S _ X W O h.2)
  | asg g e =>
    refine .one (fun S x X W hk hf O h => ?_) (fun S xs => by cases xs <;> simp [mSs])
    cases x <;> first | (simp [mS] at h; done) | skip
    rename_i tgs x pos
    simp only [mS] at h
    split at h
    · rename_i tg
      cases g with
      | attr o f => cases h
      | sub o i =>
        simp only [mAsg] at h
        split at h
        · simp only [Bool.and_eq_true] at h
          obtain ⟨⟨⟨⟨hc, hs⟩, ho⟩, hi⟩, he⟩ := h
          exact ss_sub O hc hs ((snd X0 o).E S _ X W O ho) ((snd X0 i).E S _ X W O hi) ((snd X0 e).E S _ X W O he)
        · cases h
      | tgt t =>
        simp only [mAsg, Bool.or_eq_true] at h
        rcases h with h | h
        · simp only [Bool.and_eq_true] at h
          obtain ⟨⟨⟨⟨hc, ht⟩, hst⟩, hg⟩, he⟩ := h
          exact ss_asg O hc ht hst hg ((snd X0 e).E S _ X W O he)
        · unfold mSetLc at h
          split at h
          · rename_i g scope p
            simp only [Bool.and_eq_true, decide_eq_true_eq, Bool.not_eq_true'] at h
            obtain ⟨⟨⟨⟨hy, hyl⟩, hl⟩, ha⟩, he⟩ := h
            obtain ⟨tg, iter, ifs, an⟩ := g
            exact ss_setLc O X0 hk hy hyl hl ha he
          · cases h
    · cases h
  | par i j a b =>
    exact .one (fun S x X W _ _ O h => by cases x <;> simp [mS] at h) (fun S xs => by cases xs <;> simp [mSs])
  | aug i op e =>
    refine .one (fun S x X W _ _ O h => ?_) (fun S xs => by cases xs <;> simp [mSs])
    cases x <;> first | (simp [mS] at h; done) | skip
    rename_i tg op' v pos
    cases tg <;> first | (simp [mS] at h; done) | skip
    simp only [mS, Bool.and_eq_true, decide_eq_true_eq] at h
    obtain ⟨⟨⟨rfl, h1⟩, h2⟩, he⟩ := h
    exact ss_aug O h1 h2 ((snd X0 e).E S _ X W O he)
  | ret e =>
    refine .one (fun S x X W _ _ O h => ?_) (fun S xs => by cases xs <;> simp [mSs])
    cases x <;> first | (simp [mS] at h; done) | skip
    rename_i v pos
    cases v <;> first | (simp [mS] at h; done) | skip
    simp only [mS] at h
    exact ss_ret ((snd X0 e).E S _ X W O h)
  | retN =>
    refine .one (fun S x X W _ _ O h => ?_) (fun S xs => by cases xs <;> simp [mSs])
    cases x <;> first | (simp [mS] at h; done) | skip
    rename_i v pos
    cases v <;> first | (simp [mS] at h; done) | skip
    refine psW ps_retN fun D σ H hh => ?_
    obtain ⟨ρ, ls, h, rl, hr, hq⟩ := hh
    rw [evS] at hq
    exact hq ρ V.non H (Ext.refl _) (KF.refl _ _) hr .non
  | ite c a b iha ihb =>
    refine .one (fun S x X W hk hf O h => ?_) (fun S xs => by cases xs <;> simp [mSs])
    cases x <;> first | (simp [mS] at h; done) | skip
    simp only [mS, Bool.and_eq_true] at h
    exact ss_ite ((snd X0 c).C S _ X W O h.1.1) (iha.Ss S _ X W hk hf O h.1.2) (ihb.Ss S _ X W hk hf O h.2)
  | for_ t it body fg ih =>
    refine .one (fun S x X W hk hf O h => ?_) (fun S xs => by cases xs <;> simp [mSs])
    cases x <;> first | (simp [mS] at h; done) | skip
    rename_i tg x ys els pos
    cases els <;> first | (simp [mS] at h; done) | skip
    simp only [mS, Bool.and_eq_true] at h
    obtain ⟨⟨⟨h1, h2⟩, h3⟩, h4⟩ := h
    exact ss_for O h1 ((snd X0 it).I S _ _ X W O h2) h3 (ih.Ss S _ X W hk hf O h4)
  | while_ c body fg ih =>
    refine .one (fun S x X W hk hf O h => ?_) (fun S xs => by cases xs <;> simp [mSs])
    cases x <;> first | (simp [mS] at h; done) | skip
    rename_i x ys els pos
    cases els <;> first | (simp [mS] at h; done) | skip
    simp only [mS, Bool.and_eq_true] at h
    exact ss_while O ((snd X0 c).C S _ X W O h.1) (ih.Ss S _ X W hk hf O h.2)
  | raise c as =>
    refine .one (fun S x X W hk hf O h => ?_) (fun S xs => by cases xs <;> simp [mSs])
    cases x <;> first | (simp [mS] at h; done) | skip
    rename_i v cause pos
    cases v <;> cases cause <;> first | (simp [mS] at h; done) | skip
    simp only [mS] at h
    exact ss_raise O X0 h fun a ha => (snd X0 as).A S _ X W O ha
  | try_ body c i x ih =>
    refine .one (fun S y X W hk hf O h => ?_) (fun S xs => by cases xs <;> simp [mSs])
    cases y <;> first | (simp [mS] at h; done) | skip
    rename_i ys hs els fin pos
    cases els <;> cases fin <;> first | (simp [mS] at h; done) | skip
    simp only [mS, Bool.and_eq_true] at h
    exact ss_try O X0 hf.1 hf.2 (by rw [O.sc]; exact hk) h.2 fun X' W' O' h1 h2 => ih.Ss S _ X' W' hk ⟨h1, h2⟩ O' h.1
  | snil =>
    refine ⟨fun S x X W _ _ O h => by cases x <;> simp [mS] at h, fun S xs X W hk hf O h => ?_⟩
    cases xs with
    | nil => exact ss_nil
    | cons _ _ => simp [mSs] at h
  | scons s ss ih1 ih2 =>
    refine ⟨fun S x X W _ _ O h => by cases x <;> simp [mS] at h, fun S xs X W hk hf O h => ?_⟩
    cases xs with
    | nil => simp [mSs] at h
    | cons x xs =>
      simp only [mSs, Bool.and_eq_true] at h
      exact ss_cons (ih1.S S _ X W hk hf O h.1) (ih2.Ss S _ X W hk hf O h.2)
end
end FL
set_option autoImplicit false
set_option linter.all false
set_option maxRecDepth 100000
set_option maxHeartbeats 2000000
/-! FL, part I: the defs of a text, by the depth of calls. -/
namespace FL
open PySem L2 PyProof.Rows PySem.SeqAt
structure DefT where
  name : Str
  st : Stmt
  N : List Str
  ps : List Str
  d : FDef
def DefT.ok (G : Sg) (t : DefT) : Bool := C8.scC t.N t.ps (defScope t.st) && mSs G t.d.body ⟨t.N, defScope t.st, fun _ => true⟩ (defBody t.st) && decide (t.d.np = t.ps.length) && decide (t.d.nn = t.N.length)
section
variable {G : Sg} {T : Tx} {B : Heap} {P : Prog} {k : Nat}
theorem RL_start {K : PySem.W.Frag} {H : Hp} {ρ : List Addr} {ds : List D} {vs : List V} {N : List Str} (h : RDs K H ρ ds vs) : RL K H ρ (startL ds.length N.length ds) (start N vs) := by
  unfold startL L2.start
  refine ⟨by simp [h.length], fun i d q => ?_⟩
  by_cases hi : i < ds.length
  · rw [List.getElem?_append_left (by simpa using hi), List.getElem?_map] at q
    cases e : ds[i]? with
    | none => rw [e] at q; cases q
    | some d2 =>
      rw [e] at q; cases q
      obtain ⟨v, hv, rd⟩ := h.get e
      have hi2 : i < vs.length := by rw [← h.length]; exact hi
      exact ⟨v, by rw [List.getElem?_append_left (by simpa using hi2), List.getElem?_map, hv]; rfl, rd⟩
  · rw [List.getElem?_append_right (by simpa using hi), List.getElem?_replicate] at q
    split at q <;> cases q
theorem PRS_call {r : RS} {W : WX} {H : Hp} {ρ : List Addr} {Q : VK} {E : XK} (h : PR T (fun c d _ H' => E c d H') [] H ρ (RAd T.K) Q r.call) : PRS T (fun c d _ H' => E c d H') H ρ { nx := fun _ H' => Q .non H', rt := Q } r := by
  cases r with
  | nx ls h1 => exact fun ρ' σ' H' e k' hr rl => h ρ' .non H' e k' hr .non
  | bk _ _ => exact (show False from h).elim
  | ct _ _ => exact (show False from h).elim
  | rt d h1 => exact fun ρ' v H' e k' hr rd => h ρ' v H' e k' hr rd
  | exc c fs ls h1 => exact fun ρ' cls dx σ' H' e k' hr rl x => h ρ' cls dx H' e k' hr x
  | bad => exact h
theorem spF_zero {T : Tx} {vs : List V} {H : Hp} {Q : VK} {E : XK} {g : List FL.D → Hs → R FL.D} (h : spF T g vs H Q E) (hg : ∀ ds h, g ds h = .bad) : False := by
  obtain ⟨ρ, ds, h, _, _, hq⟩ := h
  rw [hg] at hq
  exact hq
theorem fn_step (X0 : Text G T B (P.cfg k) k) {t : DefT} (ok : t.ok G = true) {qual : Str} {x : Str} {f : Addr} {fd : FuncData} (F : L2.Fun T.K x qual t.st f fd) (hl : List.lookup t.name P.defs = some t.d) :
    FnOk T.P T.w T.K T.mg B (L2.CX T.P T.w) (k + 1) f fd t.ps (spF T (P.call (k + 1) t.name)) := by
  unfold DefT.ok at ok
  simp only [Bool.and_eq_true, decide_eq_true_eq] at ok
  obtain ⟨⟨⟨hsc, hm⟩, hnp⟩, hnn⟩ := ok
  have S : FnScope t.N t.ps (defScope t.st) := C8.fnScope_by hsc
  have bad : ∀ ds h, ¬ ds.length = t.d.np → P.call (k + 1) t.name ds h = .bad := fun ds h hn => by
    simp only [Prog.call, hl, if_neg hn]
  refine F.okX S (fun vs H Q E h => ?_) (fun cdv A outer s H vs Q E hr h => ⟨tS (P.cfg k) T (fun cls d _ H => E cls d H) t.d.body, ?_, ?_⟩)
  · obtain ⟨ρ, ds, h, rds, hr, hq⟩ := h
    by_cases hn : ds.length = t.d.np
    · rw [← rds.length, hn, hnp]
    · rw [bad ds h hn] at hq; exact hq.elim
  · refine (sndS X0 t.d.body).Ss ⟨t.N, defScope t.st, fun _ => true⟩ (defBody t.st) _ _ S.kind ⟨rfl, rfl⟩ ⟨rfl, rfl, rfl, rfl, rfl, S.nd, rfl, takes_of rfl rfl rfl rfl, hr, passes_of rfl⟩ hm
  · obtain ⟨ρ, ds, h, rds, hr, hq⟩ := h
    by_cases hn : ds.length = t.d.np
    · simp only [Prog.call, hl, if_pos hn] at hq
      have hq := gc_sound hr hq
      refine ⟨ρ, startL t.d.np t.d.nn ds, h, ?_, hr, PRS_call (W := fun c d _ H' => E c d H') hq⟩
      rw [← hn, hnn]
      exact RL_start rds
    · rw [bad ds h hn] at hq; exact hq.elim
/-- what the top has written of a def -/
def DefAt (T : Tx) (t : DefT) : Prop := ∃ (f : Addr) (fd : FuncData), T.mg t.name = some (.ref f) ∧ L2.Fun T.K t.name t.name t.st f fd ∧ Binds T.K fd t.ps []
theorem text_all {L : List DefT} (hok : ∀ t ∈ L, t.ok G = true) (hat : ∀ t ∈ L, DefAt T t) (hl : ∀ t ∈ L, List.lookup t.name P.defs = some t.d) (hf : ∀ f, G.fns.contains f = true → ∃ t ∈ L, t.name = f)
    (hb : ∀ x, G.blt.contains x = true → T.mg x = none) (hg : ∀ x d, List.lookup x G.glob = some d → List.lookup x P.glob = some d ∧ ∃ u v, T.mg x = some u ∧ RelV v u ∧ ∀ H ρ, RD T.K H ρ d v)
    (he : ∀ c, G.errs.contains c = true → ∃ C fI, EX.Txt T.P T.K T.mg c C fI ∧ PySem.W.exmOne T.K (.ref C) (.ref C) = some true)
    (hi : ∀ c S, G.isE.contains (c, S) = true → ∃ C Sa, T.mg c = some (.ref C) ∧ T.mg S = some (.ref Sa) ∧ ExcC T.K C ∧ PySem.W.kitOne T.K (.ref C) (.ref Sa) = some true) : ∀ k, Text G T B (P.cfg k) k := by
  intro k
  induction k with
  | zero =>
    refine ⟨fun f h => ?_, hb, hg, he, hi⟩
    obtain ⟨t, ht, rfl⟩ := hf f h
    obtain ⟨f, fd, h1, F, bi⟩ := hat t ht
    refine ⟨f, fd, t.ps, h1, F.kp, bi, fun vs H Q E z => (spF_zero z fun _ _ => rfl).elim, fun A outer s H args us vs Q E _ _ _ _ z => (spF_zero z fun _ _ => rfl).elim⟩
  | succ k ih =>
    refine ⟨fun f h => ?_, hb, hg, he, hi⟩
    obtain ⟨t, ht, rfl⟩ := hf f h
    obtain ⟨f, fd, h1, F, bi⟩ := hat t ht
    exact ⟨f, fd, t.ps, h1, F.kp, bi, fn_step ih (hok t ht) F (hl t ht)⟩
end
end FL
set_option autoImplicit false
set_option linter.all false
set_option maxRecDepth 100000
set_option maxHeartbeats 2000000
/-! FL, part J: the law's end. -/
namespace FL
open PySem L2 PyProof.Rows PySem.SeqAt
/-- every parameter of a def is given -/
def BindOk (t : DefT) : Prop := ∀ (kV doc pm : Value) (an : Option Addr) (cdv ct : Value) (us : List Value), us.length = t.ps.length →
  bindArgs (PySem.W.fnOf t.name t.name (defArgs t.st) (defBody t.st) (defScope t.st) .none kV doc pm an cdv ct) ⟨us, []⟩ = pure (t.ps.zip us)
/-- a def in the written part -/
structure DefKAt (K : PySem.W.Frag) (t : DefT) (f : Addr) (fd : FuncData) : Prop where
  ns : PySem.W.nsIn K mainGlobals t.name = some (some (.ref f))
  F : L2.Fun K t.name t.name t.st f fd
def DefK (K : PySem.W.Frag) (t : DefT) : Prop := ∃ f fd, DefKAt K t f fd
theorem defK_mk {K : PySem.W.Frag} {t : DefT} {f : Addr} {oc : Value} {od an : Option Addr} {osl : Array (Option Value)} {kV doc pm cdv ct : Value} (a : PySem.W.nsIn K mainGlobals t.name = some (some (.ref f)))
    (l : K.lookup f = some ⟨oc, od, .func (PySem.W.fnOf t.name t.name (defArgs t.st) (defBody t.st) (defScope t.st) .none kV doc pm an cdv ct), osl⟩)
    (c : PySem.W.codeIn K cdv t.name = true) (k : PySem.W.keepIn K (.ref f) = true) : DefK K t := ⟨f, _, a, fun_mk l c k⟩
theorem DefK.at {K : PySem.W.Frag} {t : DefT} (h : DefK K t) (b : BindOk t) {P : Program} {w : World} {mg : Str → Option Value} {hp : Heap} (X : K.In hp) (g : hp.Ns mainGlobals mg) : DefAt ⟨P, w, K, mg⟩ t := by
  obtain ⟨f, fd, a, F⟩ := h
  exact ⟨f, fd, PySem.W.mg_of X g a, F, F.binds b⟩
/-- the constants of the module -/
def GlobK (K : PySem.W.Frag) (gl : List (Str × D)) : Prop := ∀ x d, List.lookup x gl = some d → ∃ u v, PySem.W.nsIn K mainGlobals x = some (some u) ∧ RelV v u ∧ ∀ H ρ, RD K H ρ d v
structure TextK (Pg : Program) (G : Sg) (P : Prog) (L : List DefT) (K : PySem.W.Frag) : Prop where
  ok : ∀ t ∈ L, t.ok G = true
  bi : ∀ t ∈ L, BindOk t
  at_ : ∀ t ∈ L, DefK K t
  lk : ∀ t ∈ L, List.lookup t.name P.defs = some t.d
  fn : ∀ f, G.fns.contains f = true → ∃ t ∈ L, t.name = f
  bl : ∀ x, G.blt.contains x = true → PySem.W.nsIn K mainGlobals x = some none
  gl : GlobK K G.glob
  er : ∀ c, G.errs.contains c = true → ∃ C fI, EX.TxtK Pg K c C fI
  ie : ∀ c S, G.isE.contains (c, S) = true → ∃ C Sa, PySem.W.nsIn K mainGlobals c = some (some (.ref C)) ∧ PySem.W.nsIn K mainGlobals S = some (some (.ref Sa)) ∧ ExcC K C ∧ PySem.W.kitOne K (.ref C) (.ref Sa) = some true
  gP : ∀ x d, List.lookup x G.glob = some d → List.lookup x P.glob = some d
theorem TextK.text {G : Sg} {P : Prog} {L : List DefT} {K : PySem.W.Frag} {Pg : Program} (t : TextK Pg G P L K) {w : World} {mg : Str → Option Value} {B hp : Heap} (X : K.In hp) (g : hp.Ns mainGlobals mg) (k : Nat) : Text G ⟨Pg, w, K, mg⟩ B (P.cfg k) k := by
  refine text_all t.ok (fun d h => (t.at_ d h).at (t.bi d h) X g) t.lk t.fn (fun x h => PySem.W.mg_none_of X g (t.bl x h)) (fun x d h => ⟨t.gP x d h, ?_⟩) (fun c h => let ⟨C, fI, z⟩ := t.er c h; ⟨C, fI, z.txt X g, z.te⟩) (fun c S h => let ⟨C, Sa, z1, z2, z3, z4⟩ := t.ie c S h; ⟨C, Sa, PySem.W.mg_of X g z1, PySem.W.mg_of X g z2, z3, z4⟩) k
  obtain ⟨u, v, h1, h2, h3⟩ := t.gl x d h
  exact ⟨u, v, PySem.W.mg_of X g h1, h2, h3⟩
def spLaw (K : PySem.W.Frag) : Sp := fun vs H Q _ => ∃ (a : Addr) (ns : List Int), vs = [.ref a] ∧ Only H ∧ SqL K H a (ns.map V.int) ∧ ns.length ≤ 63 ∧ ∀ H', Q (.bl true) H'
theorem hr_start {T : Tx} {H : Hp} {a : Addr} {ns : List Int} (o : Only H) (s : SqL T.K H a (ns.map V.int)) : HR T H [a] [.flst (ns.map .int)] := by
  have fr : FrL T.K H a (ns.map V.int) := by
    rcases s with s | s
    · rcases s with s | s
      · rcases o a with q | ⟨o', xs, q⟩
        · rw [s] at q; cases q
        · rw [s] at q; cases q
      · exact .inl s
    · exact .inr s
  refine ⟨rfl, fun n c b e1 e2 => ?_, fun m n b c c' e1 e2 e3 e4 m1 m2 => ?_, by simp, fun n c e => ?_⟩
  · match n, e1, e2 with
    | 0, e1, e2 =>
      simp at e1 e2
      subst e1; subst e2
      exact ⟨_, fr, RDs.ints ns⟩
    | n + 1, e1, e2 => simp at e1
  · match m, e3 with
    | 0, e3 => simp at e3; subst e3; cases m1
    | m + 1, e3 => simp at e3
  · match n, e with
    | 0, e => simp at e; subst e; exact ⟨fun _ => rfl, fun _ => rfl⟩
    | n + 1, e => simp at e
theorem walk {l : PySem.W.OpenLaw} {q : Program} {loose : List Str} {XP : (Str → Option Value) → Heap → Prop} {YP : World → Heap → Prop} {d : DefRec} {K : Params → PySem.W.Frag} {k : Nat} {G : Sg} {P : Prog} {L : List DefT} {t : DefT}
    (hn : l.most = some 63) (hdf : d.params.defaults = []) (hr : Room (k + 1) callerA) (hY : ∀ (w : World) (h : Heap), YP w h → (K w.params).In h) (hd : d.name = t.name) (ht : t ∈ L) (hps : t.ps = [("script" : Str)])
    (tk : ∀ w : World, TextK l.prog G P L (K w.params))
    (pure_ : ∀ ns : List Int, ns.length ≤ 63 → ∃ h, P.call (k + 1) t.name [.loc 0] [.flst (ns.map .int)] = .ok (.bl true) h) : PySem.W.WalkO q loose XP YP l.row.toRowW d [] (fun f vs => PySem.call f vs) := by
  refine L2.walk_of (n := 63) (k := k + 1) (x := "script") (CX := fun w => L2.CX l.prog w) (K := K) (sp := fun w => spLaw (K w.params)) hn (by decide) hdf hr hY (fun w mg fa h KX g hmg => ?_) (fun w H a ns hl o s => ⟨a, ns, rfl, o, s, hl, fun _ => rfl⟩) (fun w H s e s' z => ?_)
  · obtain ⟨f, fd, a, F⟩ := (tk w).at_ t ht
    have e := (hd ▸ hmg).symm.trans (PySem.W.mg_of KX g a)
    cases e
    refine ⟨fd, fun s u => ?_, fun base KB gB => ?_⟩
    · obtain ⟨oc, od, kV, doc, pm, an, cdv, ct, osl, rfl, lk, hcd⟩ := F.ex
      have z := (tk w).bi t ht kV doc pm an cdv ct [u] (by rw [hps]; rfl)
      rw [hps] at z
      exact .of_eq z
    · have T := (tk w).text (Pg := l.prog) (w := w) (B := base) KX g k
      have z := fn_step T ((tk w).ok t ht) F ((tk w).lk t ht)
      rw [hps] at z
      refine z.imp fun vs H Q E hs => ?_
      obtain ⟨a, ns, rfl, o, s, hl, hq⟩ := hs
      obtain ⟨h1, e1⟩ := pure_ ns hl
      refine ⟨[a], [.loc 0], [.flst (ns.map .int)], .cons (.loc rfl) .nil, hr_start o s, ?_⟩
      rw [e1]
      rintro ρ' v H' e k hr rd
      cases rd
      exact hq H'
  · obtain ⟨_, _, _, _, _, _, _, _, _, _, _, _, z⟩ := z
    exact z.elim
/-! ### for the printed texts -/
theorem mem_all {α : Type} [BEq α] [LawfulBEq α] {l : List α} {p : α → Prop} (h : ∀ x ∈ l, p x) {x : α} (hx : l.contains x = true) : p x := h x (by simpa using hx)
theorem fns_in {fs : List Str} {L : List DefT} (h : (fs.all fun f => L.any fun t => decide (t.name = f)) = true) (f : Str) (hf : fs.contains f = true) : ∃ t ∈ L, t.name = f := by
  obtain ⟨t, h1, h2⟩ := List.any_eq_true.mp (List.all_eq_true.mp h f (by simpa using hf))
  exact ⟨t, h1, of_decide_eq_true h2⟩
theorem glob_all {K : PySem.W.Frag} {gl : List (Str × D)} (h : ∀ p ∈ gl, ∃ u v, PySem.W.nsIn K mainGlobals p.1 = some (some u) ∧ RelV v u ∧ ∀ H ρ, RD K H ρ p.2 v) : GlobK K gl := by
  intro x d hx
  exact h (x, d) (mem_of_lookup hx)
theorem glob_int {K : PySem.W.Frag} {x : Str} {i : Int} {t : Tok} (h : PySem.W.nsIn K mainGlobals x = some (some (.int i t))) : ∃ u v, PySem.W.nsIn K mainGlobals x = some (some u) ∧ RelV v u ∧ ∀ H ρ, RD K H ρ (.int i) v := ⟨_, .int i, h, ⟨t, rfl⟩, fun _ _ => .int i⟩
theorem glob_str {K : PySem.W.Frag} {x : Str} {i : Str} {t : Tok} (h : PySem.W.nsIn K mainGlobals x = some (some (.str i t))) : ∃ u v, PySem.W.nsIn K mainGlobals x = some (some u) ∧ RelV v u ∧ ∀ H ρ, RD K H ρ (.str i) v := ⟨_, .str i, h, ⟨t, rfl⟩, fun _ _ => .str i⟩
theorem kit_of {K : PySem.W.Frag} {C S : Addr} (hd : PySem.W.hasDictIn K S = true) (ty : PySem.W.typeIn K (.ref S) = some (.type "type")) (h : PySem.W.subIn K (.ref C) (.ref S) = some true) : PySem.W.kitOne K (.ref C) (.ref S) = some true := by
  obtain ⟨cd, hc, _⟩ := PySem.W.any_some hd
  unfold PySem.W.kitOne
  split
  · rfl
  · show (if ((PySem.W.clsIn K S).isSome && PySem.W.typeIn K (.ref S) == some (.type "type")) = true then PySem.W.subIn K (.ref C) (.ref S) else none) = some true
    have e2 : ((PySem.W.clsIn K S).isSome && PySem.W.typeIn K (.ref S) == some (.type "type")) = true := by rw [hc, ty] <;> rfl
    rw [if_pos e2]; exact h
theorem isE_mk {K : PySem.W.Frag} {c S : Str} {C Sa : Addr} (a : PySem.W.nsIn K mainGlobals c = some (some (.ref C))) (b : PySem.W.nsIn K mainGlobals S = some (some (.ref Sa)))
    (hg : PySem.W.findIn K (.ref C) "__getattribute__" = some (some (.builtin "BaseException.__getattribute__"))) (hk : PySem.W.findIn K (.ref C) "__getattr__" = some none) (hs : PySem.W.subIn K (.ref C) (.type "BaseException") = some true) (hd : PySem.W.hasDictIn K C = true)
    (ha : PySem.W.findIn K (.ref C) "__class__" = some (some (.builtin "object.__class__"))) (hn : PySem.W.specialIn K (.builtin "object.__class__") "__get__" = some (some (.builtin "getset_descriptor.__get__"))) (ht : PySem.W.takesIn K (.builtin "object.__class__") = some true) (hm : PySem.W.mroIn K C (.type "object") = some true)
    (o1 : PySem.W.hasDictIn K Sa = true) (o2 : PySem.W.typeIn K (.ref Sa) = some (.type "type")) (o3 : PySem.W.subIn K (.ref C) (.ref Sa) = some true) : ∃ C Sa, PySem.W.nsIn K mainGlobals c = some (some (.ref C)) ∧ PySem.W.nsIn K mainGlobals S = some (some (.ref Sa)) ∧ ExcC K C ∧ PySem.W.kitOne K (.ref C) (.ref Sa) = some true := ⟨C, Sa, a, b, ⟨hg, hk, hs, hd, ha, hn, ht, hm⟩, kit_of o1 o2 o3⟩
end FL
set_option autoImplicit false
set_option linter.all false
set_option maxRecDepth 100000
set_option maxHeartbeats 2000000
/-! the text of the law -/
namespace FL.L
open PySem L2
def top (i : Nat) : Stmt := PySem.Challenge.pw_solverhall_k01_clauses_and_problems.main.body.getD i (.Pass ⟨0, 0, 0, 0⟩)
def b_check_clause : FS := (.scons (.ite (.not (.bcall .all (.acons (.comp [3, 4] (.tup (.tcons (.name 3) (.tcons (.name 4) .tnil))) (.izip (.acons (.var 1) (.acons (.slice (.var 1) (.part (.cst (.int 1))) .nopart) .anil))) (.cst (.bl true)) (.cmp .Lt (.var 3) (.var 4))) .anil))) (.scons (.raise "InputError" (.acons (.cst (.str "clause")) .anil))
  .snil) .snil)
  (.scons (.ite (.not (.bcall .all (.acons (.comp [2] (.name 2) (.iseq (.var 1)) (.cst (.bl true)) (.and (.cmp .NotEq (.var 2) (.cst (.int 0))) (.cmp .LtE (.bcall .abs (.acons (.var 2) .anil)) (.var 0)))) .anil))) (.scons (.raise "InputError" (.acons (.cst (.str "clause")) .anil))
  .snil) .snil)
  (.scons (.ite (.bcall .any (.acons (.comp [2] (.name 2) (.iseq (.var 1)) (.cst (.bl true)) (.cmp .In (.neg (.var 2)) (.var 1))) .anil)) (.scons (.raise "InputError" (.acons (.cst (.str "both")) .anil))
  .snil) .snil)
  .snil)))
def t_check_clause : DefT := ⟨"check_clause", top 6, ["count", "clause", "literal", "first", "second"], ["count", "clause"], ⟨2, 5, b_check_clause⟩⟩
def b_check_problem : FS := (.scons (.asg (.tgt (.tup (.tcons (.name 2) (.tcons (.name 3) .tnil)))) (.var 0))
  (.scons (.ite (.not (.chain .LtE .LtE (.cst (.int 0)) (.var 2) (.glob "MOST_VARS"))) (.scons (.raise "InputError" (.acons (.cst (.str "vars")) .anil))
  .snil) .snil)
  (.scons (.ite (.cmp .Gt (.bcall .len (.acons (.var 3) .anil)) (.glob "MOST_CLAUSES")) (.scons (.raise "InputError" (.acons (.cst (.str "many")) .anil))
  .snil) .snil)
  (.scons (.for_ (.name 1) (.iseq (.var 3)) (.scons (.expr (.call "check_clause" (.acons (.var 2) (.acons (.var 1) .anil))))
  .snil) [1])
  .snil))))
def t_check_problem : DefT := ⟨"check_problem", top 7, ["problem", "clause", "count", "clauses"], ["problem"], ⟨1, 4, b_check_problem⟩⟩
def b_is_true : FS := (.scons (.ret (.cmp .Eq (.idx (.var 1) (.bin .Sub (.bcall .abs (.acons (.var 0) .anil)) (.cst (.int 1)))) (.cmp .Gt (.var 0) (.cst (.int 0)))))
  .snil)
def t_is_true : DefT := ⟨"is_true", top 8, ["literal", "values"], ["literal", "values"], ⟨2, 2, b_is_true⟩⟩
def b_holds : FS := (.scons (.ret (.bcall .any (.acons (.comp [2] (.name 2) (.iseq (.var 0)) (.cst (.bl true)) (.call "is_true" (.acons (.var 2) (.acons (.var 1) .anil)))) .anil)))
  .snil)
def t_holds : DefT := ⟨"holds", top 9, ["clause", "values", "literal"], ["clause", "values"], ⟨2, 3, b_holds⟩⟩
def b_broken : FS := (.scons (.for_ (.tup (.tcons (.name 2) (.tcons (.name 3) .tnil))) (.ienum (.acons (.idx (.var 0) (.cst (.int 1))) .anil)) (.scons (.ite (.not (.call "holds" (.acons (.var 3) (.acons (.var 1) .anil)))) (.scons (.ret (.var 2))
  .snil) .snil)
  .snil) [2, 3])
  (.scons (.ret (.cst .non))
  .snil))
def t_broken : DefT := ⟨"broken", top 10, ["problem", "values", "number", "clause"], ["problem", "values"], ⟨2, 4, b_broken⟩⟩
def b_is_model : FS := (.scons (.ret (.and (.cmp .Eq (.bcall .len (.acons (.var 1) .anil)) (.idx (.var 0) (.cst (.int 0)))) (.cmp .Is (.call "broken" (.acons (.var 0) (.acons (.var 1) .anil))) (.cst .non))))
  .snil)
def t_is_model : DefT := ⟨"is_model", top 11, ["problem", "values"], ["problem", "values"], ⟨2, 2, b_is_model⟩⟩
def b_restricted_clauses : FS := (.scons (.asg (.tgt (.name 2)) (.lst .anil))
  (.scons (.for_ (.name 3) (.iseq (.var 0)) (.scons (.ite (.cmp .NotIn (.var 1) (.var 3)) (.scons (.expr (.bmeth .append (.var 2) (.acons (.bcall .tuple (.acons (.comp [4] (.name 4) (.iseq (.var 3)) (.cmp .NotEq (.var 4) (.neg (.var 1))) (.var 4)) .anil)) .anil)))
  .snil) .snil)
  .snil) [3])
  (.scons (.ret (.bcall .tuple (.acons (.var 2) .anil)))
  .snil)))
def t_restricted_clauses : DefT := ⟨"restricted_clauses", top 12, ["clauses", "literal", "found", "clause", "one"], ["clauses", "literal"], ⟨2, 5, b_restricted_clauses⟩⟩
def b_restricted : FS := (.scons (.ret (.tup (.acons (.idx (.var 0) (.cst (.int 0))) (.acons (.call "restricted_clauses" (.acons (.idx (.var 0) (.cst (.int 1))) (.acons (.var 1) .anil))) .anil))))
  .snil)
def t_restricted : DefT := ⟨"restricted", top 13, ["problem", "literal"], ["problem", "literal"], ⟨2, 2, b_restricted⟩⟩
def b_added : FS := (.scons (.ret (.tup (.acons (.idx (.var 0) (.cst (.int 0))) (.acons (.bin .Add (.idx (.var 0) (.cst (.int 1))) (.bcall .tuple (.acons (.var 1) .anil))) .anil))))
  .snil)
def t_added : DefT := ⟨"added", top 14, ["problem", "clauses"], ["problem", "clauses"], ⟨2, 2, b_added⟩⟩
def b_has_all : FS := (.scons (.ret (.bcall .all (.acons (.comp [2] (.name 2) (.iseq (.var 1)) (.cst (.bl true)) (.cmp .In (.var 2) (.var 0))) .anil)))
  .snil)
def t_has_all : DefT := ⟨"has_all", top 15, ["whole", "part", "literal"], ["whole", "part"], ⟨2, 3, b_has_all⟩⟩
def b_tidied : FS := (.scons (.asg (.tgt (.tup (.tcons (.name 2) (.tcons (.name 3) .tnil)))) (.var 0))
  (.scons (.asg (.tgt (.name 1)) (.lst .anil))
  (.scons (.for_ (.tup (.tcons (.name 4) (.tcons (.name 5) .tnil))) (.ienum (.acons (.var 3) .anil)) (.scons (.asg (.tgt (.name 6)) (.comp [8] (.name 8) (.iseq (.slice (.var 3) .nopart (.part (.var 4)))) (.call "has_all" (.acons (.var 5) (.acons (.var 8) .anil))) (.var 8)))
  (.scons (.asg (.tgt (.name 7)) (.comp [8] (.name 8) (.iseq (.slice (.var 3) (.part (.bin .Add (.var 4) (.cst (.int 1)))) .nopart)) (.and (.call "has_all" (.acons (.var 5) (.acons (.var 8) .anil))) (.cmp .NotEq (.var 8) (.var 5))) (.var 8)))
  (.scons (.ite (.and (.not (.var 6)) (.not (.var 7))) (.scons (.expr (.bmeth .append (.var 1) (.acons (.var 5) .anil)))
  .snil) .snil)
  .snil))) [4, 5, 6, 7])
  (.scons (.ret (.tup (.acons (.var 2) (.acons (.bcall .tuple (.acons (.var 1) .anil)) .anil))))
  .snil))))
def t_tidied : DefT := ⟨"tidied", top 16, ["problem", "found", "count", "clauses", "number", "clause", "ahead", "behind", "one"], ["problem"], ⟨1, 9, b_tidied⟩⟩
def b__law_begin : FS := (.scons (.asg (.tgt (.name 1)) (.cst (.int 1)))
  (.scons (.for_ (.name 2) (.iseq (.var 0)) (.scons (.asg (.tgt (.name 1)) (.bin .Mod (.bin .Add (.bin .Add (.bin .Mult (.var 1) (.cst (.int 69621))) (.bin .Mod (.bcall .int (.acons (.var 2) .anil)) (.cst (.int 2147483629)))) (.cst (.int 7))) (.cst (.int 2147483647))))
  .snil) [2])
  (.scons (.ret (.lst (.acons (.bcall .list (.acons (.var 0) .anil)) (.acons (.cst (.int 0)) (.acons (.cst (.int 0)) (.acons (.var 1) .anil))))))
  .snil)))
def t__law_begin : DefT := ⟨"_law_begin", top 18, ["script", "seed", "cell"], ["script"], ⟨1, 3, b__law_begin⟩⟩
def b__law_take : FS := (.scons (.ite (.and (.cmp .Eq (.idx (.var 0) (.cst (.int 2))) (.cst (.int 0))) (.cmp .Lt (.idx (.var 0) (.cst (.int 1))) (.bcall .len (.acons (.idx (.var 0) (.cst (.int 0))) .anil)))) (.scons (.asg (.sub (.var 0) (.cst (.int 2))) (.bcall .abs (.acons (.bcall .int (.acons (.idx (.idx (.var 0) (.cst (.int 0))) (.idx (.var 0) (.cst (.int 1)))) .anil)) .anil)))
  (.scons (.asg (.sub (.var 0) (.cst (.int 1))) (.bin .Add (.idx (.var 0) (.cst (.int 1))) (.cst (.int 1))))
  (.scons (.ite (.cmp .Lt (.idx (.var 0) (.cst (.int 2))) (.bin .Pow (.cst (.int 10)) (.cst (.int 18)))) (.scons (.asg (.tgt (.name 3)) (.bcall .int (.acons (.idx (.var 0) (.cst (.int 2))) .anil)))
  (.scons (.asg (.sub (.var 0) (.cst (.int 2))) (.cst (.int 0)))
  (.scons (.ret (.bin .Mod (.var 3) (.var 1)))
  .snil))) .snil)
  .snil))) .snil)
  (.scons (.ite (.cmp .Gt (.idx (.var 0) (.cst (.int 2))) (.cst (.int 0))) (.scons (.asg (.tgt (.name 2)) (.bin .Mod (.bcall .int (.acons (.idx (.var 0) (.cst (.int 2))) .anil)) (.var 1)))
  (.scons (.asg (.sub (.var 0) (.cst (.int 2))) (.bin .FloorDiv (.bcall .int (.acons (.idx (.var 0) (.cst (.int 2))) .anil)) (.var 1)))
  (.scons (.ret (.var 2))
  .snil))) .snil)
  (.scons (.asg (.sub (.var 0) (.cst (.int 3))) (.bin .Mod (.bcall .int (.acons (.bin .Add (.bin .Mult (.idx (.var 0) (.cst (.int 3))) (.cst (.int 48271))) (.cst (.int 11))) .anil)) (.cst (.int 2147483647))))
  (.scons (.ret (.bin .Mod (.bcall .int (.acons (.bin .FloorDiv (.idx (.var 0) (.cst (.int 3))) (.cst (.int 3))) .anil)) (.var 1)))
  .snil))))
def t__law_take : DefT := ⟨"_law_take", top 19, ["d", "many", "digit", "small"], ["d", "many"], ⟨2, 4, b__law_take⟩⟩
def b__law_pick : FS := (.scons (.ret (.idx (.var 1) (.call "_law_take" (.acons (.var 0) (.acons (.bcall .len (.acons (.var 1) .anil)) .anil)))))
  .snil)
def t__law_pick : DefT := ⟨"_law_pick", top 20, ["d", "menu"], ["d", "menu"], ⟨2, 2, b__law_pick⟩⟩
def b__law_clause : FS := (.scons (.asg (.tgt (.name 3)) .dnil)
  (.scons (.for_ (.name 4) (.irange (.acons (.bin .Add (.cst (.int 1)) (.call "_law_take" (.acons (.var 0) (.acons (.var 2) .anil)))) .anil)) (.scons (.asg (.tgt (.name 5)) (.bin .Add (.cst (.int 1)) (.call "_law_take" (.acons (.var 0) (.acons (.var 1) .anil)))))
  (.scons (.asg (.sub (.var 3) (.var 5)) (.ite (.cmp .Eq (.call "_law_take" (.acons (.var 0) (.acons (.cst (.int 2)) .anil))) (.cst (.int 0))) (.var 5) (.bin .Sub (.cst (.int 0)) (.var 5))))
  .snil)) [4, 5])
  (.scons (.ret (.bcall .tuple (.acons (.svals (.var 3)) .anil)))
  .snil)))
def t__law_clause : DefT := ⟨"_law_clause", top 21, ["d", "count", "most", "literals", "k", "variable"], ["d", "count", "most"], ⟨3, 6, b__law_clause⟩⟩
def b__law_problem : FS := (.scons (.asg (.tgt (.name 4)) (.bin .Add (.cst (.int 1)) (.call "_law_take" (.acons (.var 0) (.acons (.var 1) .anil)))))
  (.scons (.asg (.tgt (.name 5)) (.comp [6] (.name 6) (.irange (.acons (.call "_law_take" (.acons (.var 0) (.acons (.bin .Add (.var 2) (.cst (.int 1))) .anil))) .anil)) (.cst (.bl true)) (.call "_law_clause" (.acons (.var 0) (.acons (.var 4) (.acons (.var 3) .anil))))))
  (.scons (.ite (.cmp .Eq (.call "_law_take" (.acons (.var 0) (.acons (.cst (.int 20)) .anil))) (.cst (.int 0))) (.scons (.expr (.bmeth .append (.var 5) (.acons (.tup .anil) .anil)))
  .snil) .snil)
  (.scons (.ret (.tup (.acons (.var 4) (.acons (.bcall .tuple (.acons (.var 5) .anil)) .anil))))
  .snil))))
def t__law_problem : DefT := ⟨"_law_problem", top 22, ["d", "count", "many", "most", "size", "clauses", "k"], ["d", "count", "many", "most"], ⟨4, 7, b__law_problem⟩⟩
def b__law_worlds : FS := (.scons (.asg (.tgt (.name 1)) (.lst (.acons (.tup .anil) .anil)))
  (.scons (.for_ (.name 2) (.irange (.acons (.var 0) .anil)) (.scons (.asg (.tgt (.name 3)) (.lst .anil))
  (.scons (.for_ (.name 4) (.iseq (.var 1)) (.scons (.expr (.bmeth .extend (.var 3) (.acons (.lst (.acons (.bin .Add (.var 4) (.tup (.acons (.cst (.bl false)) .anil))) (.acons (.bin .Add (.var 4) (.tup (.acons (.cst (.bl true)) .anil))) .anil))) .anil)))
  .snil) [4])
  (.scons (.asg (.tgt (.name 1)) (.var 3))
  .snil))) [2, 3, 4])
  (.scons (.ret (.var 1))
  .snil)))
def t__law_worlds : DefT := ⟨"_law_worlds", top 23, ["count", "rows", "k", "longer", "row"], ["count"], ⟨1, 5, b__law_worlds⟩⟩
def b__law_holds : FS := (.scons (.ret (.bcall .any (.acons (.comp [2] (.name 2) (.iseq (.var 0)) (.cst (.bl true)) (.cmp .Eq (.idx (.var 1) (.bin .Sub (.bcall .abs (.acons (.var 2) .anil)) (.cst (.int 1)))) (.cmp .Gt (.var 2) (.cst (.int 0))))) .anil)))
  .snil)
def t__law_holds : DefT := ⟨"_law_holds", top 24, ["clause", "values", "literal"], ["clause", "values"], ⟨2, 3, b__law_holds⟩⟩
def b__law_models : FS := (.scons (.ret (.comp [1] (.name 1) (.iseq (.call "_law_worlds" (.acons (.idx (.var 0) (.cst (.int 0))) .anil))) (.bcall .all (.acons (.comp [2] (.name 2) (.iseq (.idx (.var 0) (.cst (.int 1)))) (.cst (.bl true)) (.call "_law_holds" (.acons (.var 2) (.acons (.var 1) .anil)))) .anil)) (.var 1)))
  .snil)
def t__law_models : DefT := ⟨"_law_models", top 25, ["problem", "values", "clause"], ["problem"], ⟨1, 3, b__law_models⟩⟩
def b__law_code : FS := (.scons (.try_ (.scons (.expr (.call "check_problem" (.acons (.var 0) .anil)))
  .snil) "InputError" 1 (.codeIs "SolverError"))
  (.scons (.ret (.cst (.str "")))
  .snil))
def t__law_code : DefT := ⟨"_law_code", top 26, ["problem", "e"], ["problem"], ⟨1, 2, b__law_code⟩⟩
def b_law : FS := (.scons (.asg (.tgt (.name 1)) (.call "_law_begin" (.acons (.var 0) .anil)))
  (.scons (.asg (.tgt (.name 2)) (.lst (.acons (.tup (.acons (.tup (.acons (.bin .Sub (.cst (.int 0)) (.cst (.int 1))) (.acons (.tup .anil) .anil))) (.acons (.cst (.str "vars")) .anil))) (.acons (.tup (.acons (.tup (.acons (.cst (.int 25)) (.acons (.tup .anil) .anil))) (.acons (.cst (.str "vars")) .anil))) (.acons (.tup (.acons (.tup (.acons (.cst (.int 2)) (.acons (.bin .Mult (.tup (.acons (.tup (.acons (.cst (.int 1)) .anil)) .anil)) (.cst (.int 201))) .anil))) (.acons (.cst (.str "many")) .anil))) (.acons (.tup (.acons (.tup (.acons (.cst (.int 2)) (.acons (.tup (.acons (.tup (.acons (.cst (.int 2)) (.acons (.cst (.int 1)) .anil))) .anil)) .anil))) (.acons (.cst (.str "clause")) .anil))) (.acons (.tup (.acons (.tup (.acons (.cst (.int 2)) (.acons (.tup (.acons (.tup (.acons (.cst (.int 1)) (.acons (.cst (.int 1)) .anil))) .anil)) .anil))) (.acons (.cst (.str "clause")) .anil))) (.acons (.tup (.acons (.tup (.acons (.cst (.int 2)) (.acons (.tup (.acons (.tup (.acons (.cst (.int 0)) (.acons (.cst (.int 1)) .anil))) .anil)) .anil))) (.acons (.cst (.str "clause")) .anil))) .anil))))))))
  (.scons (.expr (.bmeth .extend (.var 2) (.acons (.lst (.acons (.tup (.acons (.tup (.acons (.cst (.int 2)) (.acons (.tup (.acons (.tup (.acons (.cst (.int 3)) .anil)) .anil)) .anil))) (.acons (.cst (.str "clause")) .anil))) (.acons (.tup (.acons (.tup (.acons (.cst (.int 2)) (.acons (.tup (.acons (.tup (.acons (.bin .Sub (.cst (.int 0)) (.cst (.int 3))) .anil)) .anil)) .anil))) (.acons (.cst (.str "clause")) .anil))) (.acons (.tup (.acons (.tup (.acons (.cst (.int 2)) (.acons (.tup (.acons (.tup (.acons (.bin .Sub (.cst (.int 0)) (.cst (.int 1))) (.acons (.cst (.int 1)) .anil))) .anil)) .anil))) (.acons (.cst (.str "both")) .anil))) .anil)))) .anil)))
  (.scons (.expr (.bmeth .extend (.var 2) (.acons (.lst (.acons (.tup (.acons (.tup (.acons (.cst (.int 2)) (.acons (.tup (.acons (.tup (.acons (.bin .Sub (.cst (.int 0)) (.cst (.int 2))) (.acons (.bin .Sub (.cst (.int 0)) (.cst (.int 1))) (.acons (.cst (.int 2)) .anil)))) (.acons (.tup (.acons (.cst (.int 2)) (.acons (.cst (.int 1)) .anil))) .anil))) .anil))) (.acons (.cst (.str "both")) .anil))) (.acons (.tup (.acons (.tup (.acons (.cst (.int 2)) (.acons (.tup (.acons (.tup (.acons (.cst (.int 2)) (.acons (.cst (.int 1)) .anil))) (.acons (.tup (.acons (.bin .Sub (.cst (.int 0)) (.cst (.int 1))) (.acons (.cst (.int 1)) .anil))) .anil))) .anil))) (.acons (.cst (.str "clause")) .anil))) (.acons (.tup (.acons (.tup (.acons (.cst (.int 24)) (.acons (.bin .Mult (.tup (.acons (.tup (.acons (.bin .Sub (.cst (.int 0)) (.cst (.int 24))) (.acons (.bin .Sub (.cst (.int 24)) (.cst (.int 1))) .anil))) .anil)) (.cst (.int 200))) .anil))) (.acons (.cst (.str "")) .anil))) (.acons (.tup (.acons (.tup (.acons (.cst (.int 0)) (.acons (.tup (.acons (.tup .anil) .anil)) .anil))) (.acons (.cst (.str "")) .anil))) (.acons (.tup (.acons (.tup (.acons (.cst (.int 25)) (.acons (.bin .Mult (.tup (.acons (.tup (.acons (.cst (.int 1)) .anil)) .anil)) (.cst (.int 201))) .anil))) (.acons (.cst (.str "vars")) .anil))) .anil)))))) .anil)))
  (.scons (.ite (.bcall .any (.acons (.comp [3, 19] (.tup (.tcons (.name 3) (.tcons (.name 19) .tnil))) (.iseq (.var 2)) (.cst (.bl true)) (.cmp .NotEq (.call "_law_code" (.acons (.var 3) .anil)) (.var 19))) .anil)) (.scons (.ret (.cst (.bl false)))
  .snil) .snil)
  (.scons (.asg (.tgt (.name 3)) (.call "_law_problem" (.acons (.var 1) (.acons (.cst (.int 6)) (.acons (.cst (.int 8)) (.acons (.cst (.int 4)) .anil))))))
  (.scons (.asg (.tgt (.tup (.tcons (.name 12) (.tcons (.name 13) .tnil)))) (.var 3))
  (.scons (.asg (.tgt (.name 4)) (.call "_law_models" (.acons (.var 3) .anil)))
  (.scons (.for_ (.name 5) (.iseq (.comp [11] (.name 11) (.irange (.acons (.cst (.int 4)) .anil)) (.cst (.bl true)) (.call "_law_pick" (.acons (.var 1) (.acons (.call "_law_worlds" (.acons (.var 12) .anil)) .anil))))) (.scons (.asg (.tgt (.name 14)) (.comp [17] (.name 17) (.iseq (.var 13)) (.cst (.bl true)) (.call "holds" (.acons (.var 17) (.acons (.var 5) .anil)))))
  (.scons (.asg (.tgt (.name 15)) (.comp [11] (.name 11) (.irange (.acons (.bcall .len (.acons (.var 13) .anil)) .anil)) (.not (.call "_law_holds" (.acons (.idx (.var 13) (.var 11)) (.acons (.var 5) .anil)))) (.var 11)))
  (.scons (.ite (.or (.cmp .NotEq (.var 14) (.comp [17] (.name 17) (.iseq (.var 13)) (.cst (.bl true)) (.call "_law_holds" (.acons (.var 17) (.acons (.var 5) .anil))))) (.cmp .NotEq (.call "broken" (.acons (.var 3) (.acons (.var 5) .anil))) (.ite (.cmp .Gt (.bcall .len (.acons (.var 15) .anil)) (.cst (.int 0))) (.idx (.var 15) (.cst (.int 0))) (.cst .non)))) (.scons (.ret (.cst (.bl false)))
  .snil) .snil)
  (.scons (.ite (.or (.cmp .NotEq (.call "is_model" (.acons (.var 3) (.acons (.var 5) .anil))) (.cmp .In (.var 5) (.var 4))) (.or (.call "is_model" (.acons (.var 3) (.acons (.bin .Add (.var 5) (.tup (.acons (.cst (.bl true)) .anil))) .anil))) (.call "is_model" (.acons (.var 3) (.acons (.slice (.var 5) (.part (.cst (.int 1))) .nopart) .anil))))) (.scons (.ret (.cst (.bl false)))
  .snil) .snil)
  .snil)))) [5, 14, 15])
  (.scons (.asg (.tgt (.name 6)) (.bin .Mult (.call "_law_pick" (.acons (.var 1) (.acons (.lst (.acons (.cst (.int 1)) (.acons (.bin .Sub (.cst (.int 0)) (.cst (.int 1))) .anil))) .anil))) (.bin .Add (.cst (.int 1)) (.call "_law_take" (.acons (.var 1) (.acons (.var 12) .anil))))))
  (.scons (.asg (.tgt (.name 7)) (.bcall .tuple (.acons (.comp [17] (.name 17) (.iseq (.var 13)) (.cmp .NotIn (.var 6) (.var 17)) (.bcall .tuple (.acons (.comp [20] (.name 20) (.iseq (.var 17)) (.cmp .NotEq (.var 20) (.bin .Sub (.cst (.int 0)) (.var 6))) (.var 20)) .anil))) .anil)))
  (.scons (.ite (.cmp .NotEq (.call "restricted" (.acons (.var 3) (.acons (.var 6) .anil))) (.tup (.acons (.var 12) (.acons (.var 7) .anil)))) (.scons (.ret (.cst (.bl false)))
  .snil) .snil)
  (.scons (.asg (.tgt (.name 8)) (.comp [5] (.name 5) (.iseq (.var 4)) (.cmp .Eq (.idx (.var 5) (.bin .Sub (.bcall .abs (.acons (.var 6) .anil)) (.cst (.int 1)))) (.cmp .Gt (.var 6) (.cst (.int 0)))) (.var 5)))
  (.scons (.ite (.cmp .NotEq (.var 8) (.comp [5] (.name 5) (.iseq (.call "_law_models" (.acons (.tup (.acons (.var 12) (.acons (.var 7) .anil))) .anil))) (.cmp .Eq (.idx (.var 5) (.bin .Sub (.bcall .abs (.acons (.var 6) .anil)) (.cst (.int 1)))) (.cmp .Gt (.var 6) (.cst (.int 0)))) (.var 5))) (.scons (.ret (.cst (.bl false)))
  .snil) .snil)
  (.scons (.asg (.tgt (.name 9)) (.comp [11] (.name 11) (.irange (.acons (.call "_law_take" (.acons (.var 1) (.acons (.cst (.int 3)) .anil))) .anil)) (.cst (.bl true)) (.call "_law_clause" (.acons (.var 1) (.acons (.var 12) (.acons (.cst (.int 3)) .anil))))))
  (.scons (.ite (.cmp .NotEq (.call "added" (.acons (.var 3) (.acons (.var 9) .anil))) (.tup (.acons (.var 12) (.acons (.bin .Add (.var 13) (.bcall .tuple (.acons (.var 9) .anil))) .anil)))) (.scons (.ret (.cst (.bl false)))
  .snil) .snil)
  (.scons (.asg (.tgt (.name 10)) (.lst .anil))
  (.scons (.for_ (.name 11) (.irange (.acons (.bcall .len (.acons (.var 13) .anil)) .anil)) (.scons (.asg (.tgt (.name 16)) (.comp [18] (.name 18) (.irange (.acons (.bcall .len (.acons (.var 13) .anil)) .anil)) (.and (.cmp .NotEq (.var 18) (.var 11)) (.and (.bcall .all (.acons (.comp [20] (.name 20) (.iseq (.idx (.var 13) (.var 18))) (.cst (.bl true)) (.cmp .In (.var 20) (.idx (.var 13) (.var 11)))) .anil)) (.or (.cmp .NotEq (.idx (.var 13) (.var 18)) (.idx (.var 13) (.var 11))) (.cmp .Lt (.var 18) (.var 11))))) (.var 18)))
  (.scons (.expr (.bmeth .extend (.var 10) (.acons (.ite (.cmp .Eq (.bcall .len (.acons (.var 16) .anil)) (.cst (.int 0))) (.lst (.acons (.idx (.var 13) (.var 11)) .anil)) (.lst .anil)) .anil)))
  .snil)) [11, 16])
  (.scons (.ret (.and (.cmp .Eq (.call "tidied" (.acons (.var 3) .anil)) (.tup (.acons (.var 12) (.acons (.bcall .tuple (.acons (.var 10) .anil)) .anil)))) (.cmp .Eq (.call "_law_models" (.acons (.tup (.acons (.var 12) (.acons (.bcall .tuple (.acons (.var 10) .anil)) .anil))) .anil)) (.var 4))))
  .snil)))))))))))))))))))
def t_law : DefT := ⟨"law", top 27, ["script", "d", "bad", "problem", "models", "values", "literal", "left", "with_literal", "more", "kept", "k", "count", "clauses", "told", "wrong", "over", "clause", "j", "code", "one"], ["script"], ⟨1, 21, b_law⟩⟩
def gl : List (Str × FL.D) := [("MOST_CLAUSES", .int 200), ("MOST_VARS", .int 24)]
def sg : Sg := ⟨["check_clause", "check_problem", "is_true", "holds", "broken", "is_model", "restricted_clauses", "restricted", "added", "has_all", "tidied", "_law_begin", "_law_take", "_law_pick", "_law_clause", "_law_problem", "_law_worlds", "_law_holds", "_law_models", "_law_code", "law"], [], ["abs", "all", "any", "enumerate", "int", "isinstance", "len", "list", "range", "sorted", "tuple", "zip"], gl, ["InputError"], [("InputError", "SolverError")]⟩
def pg : Prog := ⟨[("check_clause", t_check_clause.d), ("check_problem", t_check_problem.d), ("is_true", t_is_true.d), ("holds", t_holds.d), ("broken", t_broken.d), ("is_model", t_is_model.d), ("restricted_clauses", t_restricted_clauses.d), ("restricted", t_restricted.d), ("added", t_added.d), ("has_all", t_has_all.d), ("tidied", t_tidied.d), ("_law_begin", t__law_begin.d), ("_law_take", t__law_take.d), ("_law_pick", t__law_pick.d), ("_law_clause", t__law_clause.d), ("_law_problem", t__law_problem.d), ("_law_worlds", t__law_worlds.d), ("_law_holds", t__law_holds.d), ("_law_models", t__law_models.d), ("_law_code", t__law_code.d), ("law", t_law.d)], gl, 1000000000⟩
def defs : List DefT := [t_check_clause, t_check_problem, t_is_true, t_holds, t_broken, t_is_model, t_restricted_clauses, t_restricted, t_added, t_has_all, t_tidied, t__law_begin, t__law_take, t__law_pick, t__law_clause, t__law_problem, t__law_worlds, t__law_holds, t__law_models, t__law_code, t_law]
theorem ok_check_clause : t_check_clause.ok sg = true := by decide +kernel
theorem bi_check_clause : BindOk t_check_clause := fun _ _ _ _ _ _ us hl => match us, hl with | [_, _], _ => rfl
theorem ok_check_problem : t_check_problem.ok sg = true := by decide +kernel
theorem bi_check_problem : BindOk t_check_problem := fun _ _ _ _ _ _ us hl => match us, hl with | [_], _ => rfl
theorem ok_is_true : t_is_true.ok sg = true := by decide +kernel
theorem bi_is_true : BindOk t_is_true := fun _ _ _ _ _ _ us hl => match us, hl with | [_, _], _ => rfl
theorem ok_holds : t_holds.ok sg = true := by decide +kernel
theorem bi_holds : BindOk t_holds := fun _ _ _ _ _ _ us hl => match us, hl with | [_, _], _ => rfl
theorem ok_broken : t_broken.ok sg = true := by decide +kernel
theorem bi_broken : BindOk t_broken := fun _ _ _ _ _ _ us hl => match us, hl with | [_, _], _ => rfl
theorem ok_is_model : t_is_model.ok sg = true := by decide +kernel
theorem bi_is_model : BindOk t_is_model := fun _ _ _ _ _ _ us hl => match us, hl with | [_, _], _ => rfl
theorem ok_restricted_clauses : t_restricted_clauses.ok sg = true := by decide +kernel
theorem bi_restricted_clauses : BindOk t_restricted_clauses := fun _ _ _ _ _ _ us hl => match us, hl with | [_, _], _ => rfl
theorem ok_restricted : t_restricted.ok sg = true := by decide +kernel
theorem bi_restricted : BindOk t_restricted := fun _ _ _ _ _ _ us hl => match us, hl with | [_, _], _ => rfl
theorem ok_added : t_added.ok sg = true := by decide +kernel
theorem bi_added : BindOk t_added := fun _ _ _ _ _ _ us hl => match us, hl with | [_, _], _ => rfl
theorem ok_has_all : t_has_all.ok sg = true := by decide +kernel
theorem bi_has_all : BindOk t_has_all := fun _ _ _ _ _ _ us hl => match us, hl with | [_, _], _ => rfl
theorem ok_tidied : t_tidied.ok sg = true := by decide +kernel
theorem bi_tidied : BindOk t_tidied := fun _ _ _ _ _ _ us hl => match us, hl with | [_], _ => rfl
theorem ok__law_begin : t__law_begin.ok sg = true := by decide +kernel
theorem bi__law_begin : BindOk t__law_begin := fun _ _ _ _ _ _ us hl => match us, hl with | [_], _ => rfl
theorem ok__law_take : t__law_take.ok sg = true := by decide +kernel
theorem bi__law_take : BindOk t__law_take := fun _ _ _ _ _ _ us hl => match us, hl with | [_, _], _ => rfl
theorem ok__law_pick : t__law_pick.ok sg = true := by decide +kernel
theorem bi__law_pick : BindOk t__law_pick := fun _ _ _ _ _ _ us hl => match us, hl with | [_, _], _ => rfl
theorem ok__law_clause : t__law_clause.ok sg = true := by decide +kernel
theorem bi__law_clause : BindOk t__law_clause := fun _ _ _ _ _ _ us hl => match us, hl with | [_, _, _], _ => rfl
theorem ok__law_problem : t__law_problem.ok sg = true := by decide +kernel
theorem bi__law_problem : BindOk t__law_problem := fun _ _ _ _ _ _ us hl => match us, hl with | [_, _, _, _], _ => rfl
theorem ok__law_worlds : t__law_worlds.ok sg = true := by decide +kernel
theorem bi__law_worlds : BindOk t__law_worlds := fun _ _ _ _ _ _ us hl => match us, hl with | [_], _ => rfl
theorem ok__law_holds : t__law_holds.ok sg = true := by decide +kernel
theorem bi__law_holds : BindOk t__law_holds := fun _ _ _ _ _ _ us hl => match us, hl with | [_, _], _ => rfl
theorem ok__law_models : t__law_models.ok sg = true := by decide +kernel
theorem bi__law_models : BindOk t__law_models := fun _ _ _ _ _ _ us hl => match us, hl with | [_], _ => rfl
theorem ok__law_code : t__law_code.ok sg = true := by decide +kernel
theorem bi__law_code : BindOk t__law_code := fun _ _ _ _ _ _ us hl => match us, hl with | [_], _ => rfl
theorem ok_law : t_law.ok sg = true := by decide +kernel
theorem bi_law : BindOk t_law := fun _ _ _ _ _ _ us hl => match us, hl with | [_], _ => rfl
theorem l_check_clause : List.lookup ("check_clause" : Str) pg.defs = some t_check_clause.d := by kernel_rfl
theorem l_check_problem : List.lookup ("check_problem" : Str) pg.defs = some t_check_problem.d := by kernel_rfl
theorem l_is_true : List.lookup ("is_true" : Str) pg.defs = some t_is_true.d := by kernel_rfl
theorem l_holds : List.lookup ("holds" : Str) pg.defs = some t_holds.d := by kernel_rfl
theorem l_broken : List.lookup ("broken" : Str) pg.defs = some t_broken.d := by kernel_rfl
theorem l_is_model : List.lookup ("is_model" : Str) pg.defs = some t_is_model.d := by kernel_rfl
theorem l_restricted_clauses : List.lookup ("restricted_clauses" : Str) pg.defs = some t_restricted_clauses.d := by kernel_rfl
theorem l_restricted : List.lookup ("restricted" : Str) pg.defs = some t_restricted.d := by kernel_rfl
theorem l_added : List.lookup ("added" : Str) pg.defs = some t_added.d := by kernel_rfl
theorem l_has_all : List.lookup ("has_all" : Str) pg.defs = some t_has_all.d := by kernel_rfl
theorem l_tidied : List.lookup ("tidied" : Str) pg.defs = some t_tidied.d := by kernel_rfl
theorem l__law_begin : List.lookup ("_law_begin" : Str) pg.defs = some t__law_begin.d := by kernel_rfl
theorem l__law_take : List.lookup ("_law_take" : Str) pg.defs = some t__law_take.d := by kernel_rfl
theorem l__law_pick : List.lookup ("_law_pick" : Str) pg.defs = some t__law_pick.d := by kernel_rfl
theorem l__law_clause : List.lookup ("_law_clause" : Str) pg.defs = some t__law_clause.d := by kernel_rfl
theorem l__law_problem : List.lookup ("_law_problem" : Str) pg.defs = some t__law_problem.d := by kernel_rfl
theorem l__law_worlds : List.lookup ("_law_worlds" : Str) pg.defs = some t__law_worlds.d := by kernel_rfl
theorem l__law_holds : List.lookup ("_law_holds" : Str) pg.defs = some t__law_holds.d := by kernel_rfl
theorem l__law_models : List.lookup ("_law_models" : Str) pg.defs = some t__law_models.d := by kernel_rfl
theorem l__law_code : List.lookup ("_law_code" : Str) pg.defs = some t__law_code.d := by kernel_rfl
theorem l_law : List.lookup ("law" : Str) pg.defs = some t_law.d := by kernel_rfl
theorem lk_all : ∀ t ∈ defs, List.lookup t.name pg.defs = some t.d := List.forall_mem_cons.mpr ⟨l_check_clause, List.forall_mem_cons.mpr ⟨l_check_problem, List.forall_mem_cons.mpr ⟨l_is_true, List.forall_mem_cons.mpr ⟨l_holds, List.forall_mem_cons.mpr ⟨l_broken, List.forall_mem_cons.mpr ⟨l_is_model, List.forall_mem_cons.mpr ⟨l_restricted_clauses, List.forall_mem_cons.mpr ⟨l_restricted, List.forall_mem_cons.mpr ⟨l_added, List.forall_mem_cons.mpr ⟨l_has_all, List.forall_mem_cons.mpr ⟨l_tidied, List.forall_mem_cons.mpr ⟨l__law_begin, List.forall_mem_cons.mpr ⟨l__law_take, List.forall_mem_cons.mpr ⟨l__law_pick, List.forall_mem_cons.mpr ⟨l__law_clause, List.forall_mem_cons.mpr ⟨l__law_problem, List.forall_mem_cons.mpr ⟨l__law_worlds, List.forall_mem_cons.mpr ⟨l__law_holds, List.forall_mem_cons.mpr ⟨l__law_models, List.forall_mem_cons.mpr ⟨l__law_code, List.forall_mem_cons.mpr ⟨l_law, (fun _ h => nomatch h)⟩⟩⟩⟩⟩⟩⟩⟩⟩⟩⟩⟩⟩⟩⟩⟩⟩⟩⟩⟩⟩
theorem fn_all : ∀ f, sg.fns.contains f = true → ∃ t ∈ defs, t.name = f := fns_in (by decide +kernel)
theorem text_mk {Pg : Program} {K : PySem.W.Frag} (d_check_clause : DefK K t_check_clause) (d_check_problem : DefK K t_check_problem) (d_is_true : DefK K t_is_true) (d_holds : DefK K t_holds) (d_broken : DefK K t_broken) (d_is_model : DefK K t_is_model) (d_restricted_clauses : DefK K t_restricted_clauses) (d_restricted : DefK K t_restricted) (d_added : DefK K t_added) (d_has_all : DefK K t_has_all) (d_tidied : DefK K t_tidied) (d__law_begin : DefK K t__law_begin) (d__law_take : DefK K t__law_take) (d__law_pick : DefK K t__law_pick) (d__law_clause : DefK K t__law_clause) (d__law_problem : DefK K t__law_problem) (d__law_worlds : DefK K t__law_worlds) (d__law_holds : DefK K t__law_holds) (d__law_models : DefK K t__law_models) (d__law_code : DefK K t__law_code) (d_law : DefK K t_law) (n_abs : PySem.W.nsIn K mainGlobals "abs" = some none) (n_all : PySem.W.nsIn K mainGlobals "all" = some none) (n_any : PySem.W.nsIn K mainGlobals "any" = some none) (n_enumerate : PySem.W.nsIn K mainGlobals "enumerate" = some none) (n_int : PySem.W.nsIn K mainGlobals "int" = some none) (n_isinstance : PySem.W.nsIn K mainGlobals "isinstance" = some none) (n_len : PySem.W.nsIn K mainGlobals "len" = some none) (n_list : PySem.W.nsIn K mainGlobals "list" = some none) (n_range : PySem.W.nsIn K mainGlobals "range" = some none) (n_sorted : PySem.W.nsIn K mainGlobals "sorted" = some none) (n_tuple : PySem.W.nsIn K mainGlobals "tuple" = some none) (n_zip : PySem.W.nsIn K mainGlobals "zip" = some none) (g_MOST_CLAUSES : ∃ u v, PySem.W.nsIn K mainGlobals "MOST_CLAUSES" = some (some u) ∧ L2.RelV v u ∧ ∀ H ρ, RD K H ρ (.int 200) v) (g_MOST_VARS : ∃ u v, PySem.W.nsIn K mainGlobals "MOST_VARS" = some (some u) ∧ L2.RelV v u ∧ ∀ H ρ, RD K H ρ (.int 24) v) (e_InputError : ∃ C fI, EX.TxtK Pg K "InputError" C fI) (i_InputError_SolverError : ∃ C Sa, PySem.W.nsIn K mainGlobals "InputError" = some (some (.ref C)) ∧ PySem.W.nsIn K mainGlobals "SolverError" = some (some (.ref Sa)) ∧ ExcC K C ∧ PySem.W.kitOne K (.ref C) (.ref Sa) = some true) : TextK Pg sg pg defs K where
  ok := List.forall_mem_cons.mpr ⟨ok_check_clause, List.forall_mem_cons.mpr ⟨ok_check_problem, List.forall_mem_cons.mpr ⟨ok_is_true, List.forall_mem_cons.mpr ⟨ok_holds, List.forall_mem_cons.mpr ⟨ok_broken, List.forall_mem_cons.mpr ⟨ok_is_model, List.forall_mem_cons.mpr ⟨ok_restricted_clauses, List.forall_mem_cons.mpr ⟨ok_restricted, List.forall_mem_cons.mpr ⟨ok_added, List.forall_mem_cons.mpr ⟨ok_has_all, List.forall_mem_cons.mpr ⟨ok_tidied, List.forall_mem_cons.mpr ⟨ok__law_begin, List.forall_mem_cons.mpr ⟨ok__law_take, List.forall_mem_cons.mpr ⟨ok__law_pick, List.forall_mem_cons.mpr ⟨ok__law_clause, List.forall_mem_cons.mpr ⟨ok__law_problem, List.forall_mem_cons.mpr ⟨ok__law_worlds, List.forall_mem_cons.mpr ⟨ok__law_holds, List.forall_mem_cons.mpr ⟨ok__law_models, List.forall_mem_cons.mpr ⟨ok__law_code, List.forall_mem_cons.mpr ⟨ok_law, (fun _ h => nomatch h)⟩⟩⟩⟩⟩⟩⟩⟩⟩⟩⟩⟩⟩⟩⟩⟩⟩⟩⟩⟩⟩
  bi := List.forall_mem_cons.mpr ⟨bi_check_clause, List.forall_mem_cons.mpr ⟨bi_check_problem, List.forall_mem_cons.mpr ⟨bi_is_true, List.forall_mem_cons.mpr ⟨bi_holds, List.forall_mem_cons.mpr ⟨bi_broken, List.forall_mem_cons.mpr ⟨bi_is_model, List.forall_mem_cons.mpr ⟨bi_restricted_clauses, List.forall_mem_cons.mpr ⟨bi_restricted, List.forall_mem_cons.mpr ⟨bi_added, List.forall_mem_cons.mpr ⟨bi_has_all, List.forall_mem_cons.mpr ⟨bi_tidied, List.forall_mem_cons.mpr ⟨bi__law_begin, List.forall_mem_cons.mpr ⟨bi__law_take, List.forall_mem_cons.mpr ⟨bi__law_pick, List.forall_mem_cons.mpr ⟨bi__law_clause, List.forall_mem_cons.mpr ⟨bi__law_problem, List.forall_mem_cons.mpr ⟨bi__law_worlds, List.forall_mem_cons.mpr ⟨bi__law_holds, List.forall_mem_cons.mpr ⟨bi__law_models, List.forall_mem_cons.mpr ⟨bi__law_code, List.forall_mem_cons.mpr ⟨bi_law, (fun _ h => nomatch h)⟩⟩⟩⟩⟩⟩⟩⟩⟩⟩⟩⟩⟩⟩⟩⟩⟩⟩⟩⟩⟩
  at_ := List.forall_mem_cons.mpr ⟨d_check_clause, List.forall_mem_cons.mpr ⟨d_check_problem, List.forall_mem_cons.mpr ⟨d_is_true, List.forall_mem_cons.mpr ⟨d_holds, List.forall_mem_cons.mpr ⟨d_broken, List.forall_mem_cons.mpr ⟨d_is_model, List.forall_mem_cons.mpr ⟨d_restricted_clauses, List.forall_mem_cons.mpr ⟨d_restricted, List.forall_mem_cons.mpr ⟨d_added, List.forall_mem_cons.mpr ⟨d_has_all, List.forall_mem_cons.mpr ⟨d_tidied, List.forall_mem_cons.mpr ⟨d__law_begin, List.forall_mem_cons.mpr ⟨d__law_take, List.forall_mem_cons.mpr ⟨d__law_pick, List.forall_mem_cons.mpr ⟨d__law_clause, List.forall_mem_cons.mpr ⟨d__law_problem, List.forall_mem_cons.mpr ⟨d__law_worlds, List.forall_mem_cons.mpr ⟨d__law_holds, List.forall_mem_cons.mpr ⟨d__law_models, List.forall_mem_cons.mpr ⟨d__law_code, List.forall_mem_cons.mpr ⟨d_law, (fun _ h => nomatch h)⟩⟩⟩⟩⟩⟩⟩⟩⟩⟩⟩⟩⟩⟩⟩⟩⟩⟩⟩⟩⟩
  lk := lk_all
  fn := fn_all
  bl := fun x h => mem_all (l := (["abs", "all", "any", "enumerate", "int", "isinstance", "len", "list", "range", "sorted", "tuple", "zip"] : List Str)) (p := fun x => PySem.W.nsIn K mainGlobals x = some none) (List.forall_mem_cons.mpr ⟨n_abs, List.forall_mem_cons.mpr ⟨n_all, List.forall_mem_cons.mpr ⟨n_any, List.forall_mem_cons.mpr ⟨n_enumerate, List.forall_mem_cons.mpr ⟨n_int, List.forall_mem_cons.mpr ⟨n_isinstance, List.forall_mem_cons.mpr ⟨n_len, List.forall_mem_cons.mpr ⟨n_list, List.forall_mem_cons.mpr ⟨n_range, List.forall_mem_cons.mpr ⟨n_sorted, List.forall_mem_cons.mpr ⟨n_tuple, List.forall_mem_cons.mpr ⟨n_zip, (fun _ h => nomatch h)⟩⟩⟩⟩⟩⟩⟩⟩⟩⟩⟩⟩) h
  gl := glob_all (List.forall_mem_cons.mpr ⟨g_MOST_CLAUSES, List.forall_mem_cons.mpr ⟨g_MOST_VARS, (fun _ h => nomatch h)⟩⟩)
  er := fun x h => mem_all (l := (["InputError"] : List Str)) (p := fun x => ∃ C fI, EX.TxtK Pg K x C fI) (List.forall_mem_cons.mpr ⟨e_InputError, (fun _ h => nomatch h)⟩) h
  ie := fun c S h => mem_all (l := ([("InputError", "SolverError")] : List (Str × Str))) (p := fun z => ∃ C Sa, PySem.W.nsIn K mainGlobals z.1 = some (some (.ref C)) ∧ PySem.W.nsIn K mainGlobals z.2 = some (some (.ref Sa)) ∧ ExcC K C ∧ PySem.W.kitOne K (.ref C) (.ref Sa) = some true) (List.forall_mem_cons.mpr ⟨i_InputError_SolverError, (fun _ h => nomatch h)⟩) h
  gP := fun x d h => h
theorem law_mem : t_law ∈ defs := by unfold defs; simp
end FL.L
set_option autoImplicit false
set_option linter.all false
set_option maxRecDepth 100000
/-! FL, part P: the evaluator's small steps, for the plain proofs. -/
namespace FL
open PySem
/-! ### data without places -/
mutual
def D.flat : D → Bool
  | .tup xs => D.flatL xs
  | .loc _ => false
  | _ => true
def D.flatL : List D → Bool
  | [] => true
  | x :: xs => D.flat x && D.flatL xs
end
mutual
theorem flat_closed (n : Nat) : ∀ d : D, d.flat = true → d.closed n = true
  | .non, _ => rfl
  | .bl _, _ => rfl
  | .int _, _ => rfl
  | .str _, _ => rfl
  | .tup xs, h => by rw [D.flat] at h; rw [closed_tup]; exact flatL_closed n xs h
  | .loc _, h => by simp [D.flat] at h
theorem flatL_closed (n : Nat) : ∀ xs : List D, D.flatL xs = true → D.closedL n xs = true
  | [], _ => rfl
  | x :: xs, h => by
    rw [D.flatL, Bool.and_eq_true] at h
    rw [closedL_cons, flat_closed n x h.1, flatL_closed n xs h.2]; rfl
end
@[simp] theorem flat_non : D.flat .non = true := by rw [D.flat]; all_goals simp
@[simp] theorem flat_bl (b : Bool) : D.flat (.bl b) = true := by rw [D.flat]; all_goals simp
@[simp] theorem flat_int (b : Int) : D.flat (.int b) = true := by rw [D.flat]; all_goals simp
@[simp] theorem flat_str (b : Str) : D.flat (.str b) = true := by rw [D.flat]; all_goals simp
@[simp] theorem flat_tup (xs : List D) : D.flat (.tup xs) = D.flatL xs := by rw [D.flat]
@[simp] theorem flat_loc (n : Nat) : D.flat (.loc n) = false := by rw [D.flat]
@[simp] theorem flatL_nil : D.flatL [] = true := by rw [D.flatL]
@[simp] theorem flatL_cons (x : D) (xs : List D) : D.flatL (x :: xs) = (D.flat x && D.flatL xs) := by rw [D.flatL]
theorem flatL_iff : ∀ xs : List D, D.flatL xs = true ↔ ∀ x ∈ xs, x.flat = true
  | [] => by simp
  | x :: xs => by rw [flatL_cons, Bool.and_eq_true, flatL_iff xs]; simp
/-! ### behind a call -/
theorem OldOk.app (h g : Hs) : OldOk h (h ++ g) := fun i hi => .inl (by rw [List.getElem?_append_left hi])
theorem OldOk.refl (h : Hs) : OldOk h h := fun i hi => .inl rfl
theorem gcR_same {h : Hs} {d : D} (hd : d.closed h.length = true) : gcR h (.ok d h) = .ok d h := by
  simp only [gcR, gc, if_pos (OldOk.refl h), if_pos hd, List.take_length]
theorem gcR_app {h g : Hs} {d : D} (hd : d.closed h.length = true) : gcR h (.ok d (h ++ g)) = .ok d h := by
  simp only [gcR, gc, if_pos (OldOk.app h g), if_pos hd, List.take_left]
@[simp] theorem gcR_int (h : Hs) (i : Int) : gcR h (.ok (.int i) h) = .ok (.int i) h := gcR_same rfl
@[simp] theorem gcR_bl (h : Hs) (i : Bool) : gcR h (.ok (.bl i) h) = .ok (.bl i) h := gcR_same rfl
@[simp] theorem gcR_non (h : Hs) : gcR h (.ok .non h) = .ok .non h := gcR_same rfl
@[simp] theorem gcR_str (h : Hs) (s : Str) : gcR h (.ok (.str s) h) = .ok (.str s) h := gcR_same rfl
@[simp] theorem gcR_bad (h : Hs) : gcR h .bad = .bad := rfl
/-- a new list alone -/
theorem gcR_new {h : Hs} {c : Cell} : gcR h (.ok (.loc h.length) (h ++ [c])) = .ok (.loc h.length) (h ++ [c]) := by
  have e1 : ¬ (D.closed h.length (.loc h.length) = true) := by simp
  have e2 : (h ++ [c])[h.length]? = some c := by simp
  simp only [gcR, gc, if_pos (OldOk.app h _), if_neg e1, e2]
  split
  · rw [List.take_left]
  · rfl
/-- a cell written -/
theorem OldOk.set {h : Hs} {n : Nat} {c : Cell} (hc : c.closed h.length = true) : OldOk h (h.set n c) := fun i hi => by
  by_cases e : n = i
  · subst e
    exact .inr ⟨c, by rw [List.getElem?_set_self hi], hc⟩
  · exact .inl (by rw [List.getElem?_set_ne e])
theorem gcR_set {h : Hs} {n : Nat} {c : Cell} {d : D} (hc : c.closed h.length = true) (hd : d.closed h.length = true) : gcR h (.ok d (h.set n c)) = .ok d (h.set n c) := by
  simp only [gcR, gc, if_pos (OldOk.set hc), if_pos hd]
  congr 1
  exact List.take_of_length_le (by simp)
theorem gcR_setApp {h g : Hs} {n : Nat} {c : Cell} {d : D} (hn : n < h.length) (hc : c.closed h.length = true) (hd : d.closed h.length = true) : gcR h (.ok d (h.set n c ++ g)) = .ok d (h.set n c) := by
  have o : OldOk h (h.set n c ++ g) := fun i hi => by
    rw [List.getElem?_append_left (by simpa using hi)]
    exact OldOk.set hc i hi
  have e : (h.set n c ++ g).take h.length = h.set n c := by
    rw [List.take_append_of_le_length (by simp)]; exact List.take_of_length_le (by simp)
  simp only [gcR, gc, if_pos o, if_pos hd, e]
/-! ### comparisons of scalars -/
@[simp] theorem py_int (h : Hs) (i : Int) : D.py h (.int i) = some (.int i) := rfl
@[simp] theorem py_bl (h : Hs) (i : Bool) : D.py h (.bl i) = some (.bool i) := rfl
@[simp] theorem py_str (h : Hs) (i : Str) : D.py h (.str i) = some (.str i) := rfl
@[simp] theorem py_non (h : Hs) : D.py h .non = some .none := rfl
@[simp] theorem eqD_int (h : Hs) (i j : Int) : eqD h (.int i) (.int j) = some (decide (i = j)) := by
  simp only [eqD, py_int]
  rw [if_pos ⟨rfl, rfl⟩]
  simp only [PyData.eqv]
  rw [Option.some.injEq, Bool.eq_iff_iff]
  simp
@[simp] theorem eqD_bl (h : Hs) (i j : Bool) : eqD h (.bl i) (.bl j) = some (decide (i = j)) := by
  simp only [eqD, py_bl]
  rw [if_pos ⟨rfl, rfl⟩]
  simp only [PyData.eqv]
  rw [Option.some.injEq, Bool.eq_iff_iff]
  simp
/-! ### the first part first -/
section
variable {α β : Type}
theorem bind_congr' {r r' : R α} {f : α → Hs → R β} (h : r = r') : r.bind f = r'.bind f := by rw [h]
theorem must_congr' {r r' : R α} {f : α → Hs → R β} (h : r = r') : r.must f = r'.must f := by rw [h]
theorem andS_congr' {r r' : R α} {ls : Ls} {f : α → Hs → RS} (h : r = r') : r.andS ls f = r'.andS ls f := by rw [h]
theorem andN_congr' {r r' : RS} {f : Ls → Hs → RS} (h : r = r') : r.andN f = r'.andN f := by rw [h]
theorem turnEnd_congr' {fg : List Nat} {r r' : RS} {f : Ls → Hs → RS} (h : r = r') : turnEnd fg r f = turnEnd fg r' f := by rw [h]
theorem forL_congr' {fg ns : List Nat} {h0 h h' : Hs} {step : D → Ls → Hs → RS} {xs xs' : List D} {ls ls' : Ls} (e1 : xs = xs') (e2 : ls = ls') (e3 : h = h') : forL fg ns h0 step xs ls h = forL fg ns h0 step xs' ls' h' := by rw [e1, e2, e3]
theorem compL_congr' {ns : List Nat} {h0 h h' : Hs} {step : D → Hs → R (Option D)} {xs xs' : List D} (e1 : xs = xs') (e3 : h = h') : compL ns h0 step xs h = compL ns h0 step xs' h' := by rw [e1, e3]
theorem whileL_congr' {fg : List Nat} {c : Ls → Hs → R Bool} {body : Ls → Hs → RS} {k : Nat} {ls ls' : Ls} {h h' : Hs} (e2 : ls = ls') (e3 : h = h') : whileL fg c body k ls h = whileL fg c body k ls' h' := by rw [e2, e3]
@[simp] theorem catchR_nx (c : Str) (i : Nat) (ls : Ls) (h : Hs) : catchR c i (.nx ls h) = .nx ls h := rfl
@[simp] theorem catchR_rt (c : Str) (i : Nat) (d : D) (h : Hs) : catchR c i (.rt d h) = .rt d h := rfl
@[simp] theorem turnEnd_nx (fg : List Nat) (ls : Ls) (h : Hs) (f : Ls → Hs → RS) : turnEnd fg (.nx ls h) f = f (wipe ls fg) h := rfl
@[simp] theorem turnEnd_ct (fg : List Nat) (ls : Ls) (h : Hs) (f : Ls → Hs → RS) : turnEnd fg (.ct ls h) f = f (wipe ls fg) h := rfl
@[simp] theorem turnEnd_bk (fg : List Nat) (ls : Ls) (h : Hs) (f : Ls → Hs → RS) : turnEnd fg (.bk ls h) f = .nx (wipe ls fg) h := rfl
@[simp] theorem turnEnd_rt (fg : List Nat) (d : D) (h : Hs) (f : Ls → Hs → RS) : turnEnd fg (.rt d h) f = .rt d h := rfl
@[simp] theorem turnEnd_exc (fg : List Nat) (c : Str) (fs : List (Str × D)) (ls : Ls) (h : Hs) (f : Ls → Hs → RS) : turnEnd fg (.exc c fs ls h) f = .exc c fs ls h := rfl
@[simp] theorem turnEnd_ite (fg : List Nat) (p : Prop) [Decidable p] (a b : RS) (f : Ls → Hs → RS) : turnEnd fg (if p then a else b) f = if p then turnEnd fg a f else turnEnd fg b f := by split <;> rfl
theorem call_ite (p : Prop) [Decidable p] (a b : RS) : (if p then a else b).call = if p then a.call else b.call := by split <;> rfl
end
/-! ### lists by place -/
theorem atI_nat {α : Type} (xs : List α) (n : Nat) : L2.atI xs (n : Int) = xs[n]? := by
  unfold L2.atI L2.ixN
  rw [if_pos (Int.natCast_nonneg n)]
  by_cases h : n < xs.length
  · rw [if_pos (by omega)]; simp
  · rw [if_neg (by omega), List.getElem?_eq_none (by omega)]; rfl
theorem atI_pos {α : Type} (xs : List α) {i : Int} (h : 0 ≤ i) : L2.atI xs i = xs[i.toNat]? := by
  obtain ⟨n, rfl⟩ := Int.eq_ofNat_of_zero_le h
  rw [atI_nat]; rfl
@[simp] theorem atI_lit {α : Type} (xs : List α) (n : Nat) : L2.atI xs (no_index (OfNat.ofNat n : Int)) = xs[n]? := atI_nat xs n
theorem ixN_pos {n : Nat} {i : Int} (h : 0 ≤ i) (h2 : i < n) : L2.ixN n i = some i.toNat := by
  unfold L2.ixN; rw [if_pos h, if_pos h2]
@[simp] theorem ixN_lit (m n : Nat) : L2.ixN m (no_index (OfNat.ofNat n : Int)) = if n < m then some n else none := by
  have e : (OfNat.ofNat n : Int) = (n : Int) := rfl
  rw [e]
  unfold L2.ixN
  rw [if_pos (Int.natCast_nonneg n)]
  by_cases h : n < m
  · rw [if_pos h, if_pos (by omega)]; simp
  · rw [if_neg h, if_neg (by omega)]
theorem lstAt_of {h : Hs} {n : Nat} {xs : List D} (e : h[n]? = some (.lst xs)) : lstAt h n = some xs := by unfold lstAt; rw [e]
theorem lstAt_fr {h : Hs} {n : Nat} {xs : List D} (e : h[n]? = some (.flst xs)) : lstAt h n = some xs := by unfold lstAt; rw [e]
theorem mlstAt_of {h : Hs} {n : Nat} {xs : List D} (e : h[n]? = some (.lst xs)) : mlstAt h n = some xs := by unfold mlstAt; rw [e]
theorem idx_of {h : Hs} {n : Nat} {xs : List D} {j : Int} (e : lstAt h n = some xs) : idxD (.loc n) (.int j) h = R.ofO h (L2.atI xs j) := by simp only [idxD, e]
@[simp] theorem idx_tup (h : Hs) (xs : List D) (j : Int) : idxD (.tup xs) (.int j) h = R.ofO h (L2.atI xs j) := rfl
theorem set_of {h : Hs} {n : Nat} {xs : List D} {j : Int} {v : D} (e : h[n]? = some (.lst xs)) : setIdx (.loc n) (.int j) v h = match L2.ixN xs.length j with
    | some k => .ok () (h.set n (.lst (xs.set k v)))
    | none => .bad := by unfold setIdx; first | (simp only [e]; done) | (simp only [e]; cases L2.ixN xs.length j <;> rfl)
theorem len_of {h : Hs} {n : Nat} {xs : List D} (e : lstAt h n = some xs) : btD .len [.loc n] h = .ok (.int xs.length) h := by simp only [btD, itemsD, e]
@[simp] theorem len_tup (h : Hs) (xs : List D) : btD .len [.tup xs] h = .ok (.int xs.length) h := rfl
@[simp] theorem bt_abs (h : Hs) (i : Int) : btD .abs [.int i] h = .ok (.int (if i < 0 then -i else i)) h := rfl
@[simp] theorem bt_int (h : Hs) (i : Int) : btD .int [.int i] h = .ok (.int i) h := rfl
@[simp] theorem truth_bl (h : Hs) (b : Bool) : truth h (.bl b) = some b := rfl
@[simp] theorem cmp_eq (h : Hs) (a b : D) : cmpD .Eq h a b = eqD h a b := rfl
@[simp] theorem cmp_ne (h : Hs) (a b : D) : cmpD .NotEq h a b = (eqD h a b).map (!·) := rfl
@[simp] theorem cmp_lt (h : Hs) (a b : Int) : cmpD .Lt h (.int a) (.int b) = some (decide (a < b)) := rfl
@[simp] theorem cmp_le (h : Hs) (a b : Int) : cmpD .LtE h (.int a) (.int b) = some (decide (a ≤ b)) := rfl
@[simp] theorem cmp_gt (h : Hs) (a b : Int) : cmpD .Gt h (.int a) (.int b) = some (decide (b < a)) := rfl
@[simp] theorem cmp_ge (h : Hs) (a b : Int) : cmpD .GtE h (.int a) (.int b) = some (decide (b ≤ a)) := rfl
@[simp] theorem bin_int (op : Operator) (i j : Int) (h : Hs) : binD op (.int i) (.int j) h = R.ofO h ((binI op i j).map .int) := rfl
@[simp] theorem binI_add (i j : Int) : binI .Add i j = some (i + j) := rfl
@[simp] theorem binI_sub (i j : Int) : binI .Sub i j = some (i - j) := rfl
@[simp] theorem binI_mul (i j : Int) : binI .Mult i j = if mulOk i j then some (i * j) else none := rfl
theorem mul_l {i j : Int} (h : -(2 ^ 64) < i ∧ i < 2 ^ 64) : binI .Mult i j = some (i * j) := if_pos (.inl h)
theorem mul_r {i j : Int} (h : -(2 ^ 64) < j ∧ j < 2 ^ 64) : binI .Mult i j = some (i * j) := if_pos (.inr h)
@[simp] theorem binI_mod (i j : Int) : binI .Mod i j = if j ≠ 0 then some (i.fmod j) else none := rfl
@[simp] theorem binI_fdiv (i j : Int) : binI .FloorDiv i j = if j ≠ 0 ∧ j.natAbs < 1073741824 then some (i.fdiv j) else none := rfl
@[simp] theorem bin_tup (xs ys : List D) (h : Hs) : binD .Add (.tup xs) (.tup ys) h = if xs.length + ys.length ≤ sizeLine then .ok (.tup (xs ++ ys)) h else .bad := rfl
theorem size_big : sizeLine = 16777216 := PySem.sizeLine_eq
theorem lt_of_get {α : Type} {h : List α} {n : Nat} {c : α} (e : h[n]? = some c) : n < h.length := (List.getElem?_eq_some_iff.mp e).1
theorem lstAt_set {h : Hs} {n : Nat} {xs : List D} (hl : n < h.length) : lstAt (h.set n (.lst xs)) n = some xs := lstAt_of (List.getElem?_set_self hl)
theorem idx_set {h : Hs} {n : Nat} {xs : List D} {j : Int} (hl : n < h.length) : idxD (.loc n) (.int j) (h.set n (.lst xs)) = R.ofO (h.set n (.lst xs)) (L2.atI xs j) := idx_of (lstAt_set hl)
theorem set_set {h : Hs} {n : Nat} {xs : List D} {j : Int} {v : D} (hl : n < h.length) : setIdx (.loc n) (.int j) v (h.set n (.lst xs)) = match L2.ixN xs.length j with
    | some k => .ok () (h.set n (.lst (xs.set k v)))
    | none => .bad := by rw [set_of (List.getElem?_set_self hl)]; cases L2.ixN xs.length j <;> simp
theorem R.andS_of {α : Type} {r : R α} {a : α} {h : Hs} {ls : Ls} {f : α → Hs → RS} (e : r = .ok a h) : r.andS ls f = f a h := by rw [e]; rfl
theorem seq_nx {Γ : Cfg} {s ss : FS} {ls ls1 : Ls} {h h1 : Hs} (e : evS Γ s ls h = .nx ls1 h1) : evS Γ (.scons s ss) ls h = evS Γ ss ls1 h1 := by rw [evS, e]; rfl
theorem seq_rt {Γ : Cfg} {s ss : FS} {ls : Ls} {h h1 : Hs} {d : D} (e : evS Γ s ls h = .rt d h1) : evS Γ (.scons s ss) ls h = .rt d h1 := by rw [evS, e]; rfl
/-! ### comprehensions, loops -/
theorem same_refl (ns : List Nat) (h : Hs) : same ns h h := fun _ _ => rfl
noncomputable def cstep (Γ : Cfg) (own : List Nat) (t : FT) (c e : FE) (ls : Ls) : D → Hs → R (Option D) := fun x h2 => match asgT t x (wipe ls own) with
  | some ls2 => (ev Γ c ls2 h2).bind fun k h3 => (R.ofO h3 (truth h3 k)).bind fun k h3 => if k = true then (ev Γ e ls2 h3).bind fun y h4 => .ok (some y) h4 else .ok none h3
  | none => .bad
theorem comp_pure {α : Type} {en : α → D} {f : α → Option D} {ns : List Nat} {h : Hs} {step : D → Hs → R (Option D)} : ∀ {xs : List α}, (∀ x ∈ xs, step (en x) h = .ok (f x) h) → compL ns h step (xs.map en) h = .ok (xs.filterMap f) h
  | [], _ => by rw [List.map_nil, compL]; rfl
  | x :: xs, hs => by
    rw [List.map_cons, compL, hs x (by simp), R.must_ok, if_pos (same_refl ns h), comp_pure (fun y hy => hs y (by simp [hy])), R.must_ok, List.filterMap_cons]
    cases f x <;> rfl
theorem comp_run {Γ : Cfg} {own : List Nat} {t : FT} {it c e : FE} {ls : Ls} {h : Hs} {α : Type} {en : α → D} {xs : List α} (f : α → Option D) {ns : List Nat} (hi : evI Γ it ls h = .ok (xs.map en, ns) h) (hs : ∀ x ∈ xs, cstep Γ own t c e ls (en x) h = .ok (f x) h) (hz : xs.length ≤ sizeLine) :
    ev Γ (.comp own t it c e) ls h = newL h (xs.filterMap f) := by
  rw [ev, hi, R.bind_ok]
  show (compL ns h (cstep Γ own t c e ls) (xs.map en) h).bind _ = _
  rw [comp_pure hs, R.bind_ok, if_pos (Nat.le_trans (List.length_filterMap_le _ _) hz)]
theorem filterMap_some {α β : Type} (f : α → β) (xs : List α) : xs.filterMap (fun x => some (f x)) = xs.map f := by simp
theorem filterMap_if {α : Type} (p : α → Bool) (f : α → D) (xs : List α) : xs.filterMap (fun x => if p x = true then some (f x) else none) = (xs.filter p).map f := by
  induction xs with
  | nil => rfl
  | cons x xs ih =>
    rw [List.filterMap_cons, List.filter_cons]
    cases h : p x <;> simp [ih]
theorem bools_map (bs : List Bool) : bools (bs.map .bl) = some bs := by
  induction bs with
  | nil => rfl
  | cons b bs ih => rw [List.map_cons, bools, ih]; rfl
theorem ints_map (bs : List Int) : intsD (bs.map .int) = some bs := by
  induction bs with
  | nil => rfl
  | cons b bs ih => rw [List.map_cons, intsD, ih]; rfl
@[simp] theorem newL_bind {β : Type} (h : Hs) (xs : List D) (f : D → Hs → R β) : (newL h xs).bind f = f (.loc h.length) (h ++ [.lst xs]) := rfl
@[simp] theorem newL_andS (h : Hs) (xs : List D) (ls : Ls) (f : D → Hs → RS) : (newL h xs).andS ls f = f (.loc h.length) (h ++ [.lst xs]) := rfl
theorem lstAt_last (h : Hs) (xs : List D) : lstAt (h ++ [.lst xs]) h.length = some xs := lstAt_of (by simp)
theorem any_new (h : Hs) (bs : List Bool) : gcR h (btD .any [.loc h.length] (h ++ [.lst (bs.map .bl)])) = .ok (.bl (bs.any id)) h := by
  simp only [btD, lstAt_last, Option.bind_some, bools_map, Option.map_some, ofO_some]
  exact gcR_app rfl
theorem all_new (h : Hs) (bs : List Bool) : gcR h (btD .all [.loc h.length] (h ++ [.lst (bs.map .bl)])) = .ok (.bl (bs.all id)) h := by
  simp only [btD, lstAt_last, Option.bind_some, bools_map, Option.map_some, ofO_some]
  exact gcR_app rfl
theorem tuple_new (h : Hs) (ds : List D) (hd : D.flatL ds = true) : gcR h (btD .tuple [.loc h.length] (h ++ [.lst ds])) = .ok (.tup ds) h := by
  simp only [btD, itemsD, lstAt_last, Option.map_some, ofO_some]
  exact gcR_app (by rw [closed_tup]; exact flatL_closed _ _ hd)
theorem flatL_map {α : Type} (f : α → D) (xs : List α) (h : ∀ x ∈ xs, (f x).flat = true) : D.flatL (xs.map f) = true := by
  rw [flatL_iff]; intro d hd
  obtain ⟨x, hx, rfl⟩ := List.mem_map.mp hd
  exact h x hx
/-! ### the evaluator's rows, one by one -/
@[simp] theorem ev_var (Γ : Cfg) (i : Nat) (ls : Ls) (h : Hs) : ev Γ (.var i) ls h = match ls[i]? with
    | some (some d) => .ok d h
    | _ => .bad := by rw [ev] <;> rfl
@[simp] theorem ev_cst (Γ : Cfg) (d : D) (ls : Ls) (h : Hs) : ev Γ (.cst d) ls h = .ok d h := by rw [ev] <;> rfl
@[simp] theorem ev_glob (Γ : Cfg) (x : Str) (ls : Ls) (h : Hs) : ev Γ (.glob x) ls h = R.ofO h (Γ.glob x) := by rw [ev] <;> rfl
@[simp] theorem ev_bin (Γ : Cfg) (op : Operator) (a : FE) (b : FE) (ls : Ls) (h : Hs) : ev Γ (.bin op a b) ls h = (ev Γ a ls h).bind fun x h1 => (ev Γ b ls h1).bind fun y h2 => binD op x y h2 := by rw [ev] <;> rfl
@[simp] theorem ev_neg (Γ : Cfg) (a : FE) (ls : Ls) (h : Hs) : ev Γ (.neg a) ls h = (ev Γ a ls h).bind negD := by rw [ev] <;> rfl
@[simp] theorem ev_not (Γ : Cfg) (a : FE) (ls : Ls) (h : Hs) : ev Γ (.not a) ls h = (ev Γ a ls h).bind fun x h1 => R.ofO h1 ((truth h1 x).map fun b => .bl (!b)) := by rw [ev] <;> rfl
@[simp] theorem ev_cmp (Γ : Cfg) (op : CmpOp) (a : FE) (b : FE) (ls : Ls) (h : Hs) : ev Γ (.cmp op a b) ls h = (ev Γ a ls h).bind fun x h1 => (ev Γ b ls h1).bind fun y h2 => R.ofO h2 ((cmpD op h2 x y).map .bl) := by rw [ev] <;> rfl
@[simp] theorem ev_chain (Γ : Cfg) (op : CmpOp) (op' : CmpOp) (a : FE) (b : FE) (c : FE) (ls : Ls) (h : Hs) : ev Γ (.chain op op' a b c) ls h = (ev Γ a ls h).bind fun x h1 => (ev Γ b ls h1).bind fun y h2 => (R.ofO h2 (cmpD op h2 x y)).bind fun k h2 => if k = true then
      (ev Γ c ls h2).bind fun z h3 => R.ofO h3 ((cmpD op' h3 y z).map .bl) else .ok (.bl false) h2 := by rw [ev] <;> rfl
@[simp] theorem ev_and (Γ : Cfg) (a : FE) (b : FE) (ls : Ls) (h : Hs) : ev Γ (.and a b) ls h = (ev Γ a ls h).bind fun x h1 => (R.ofO h1 (truth h1 x)).bind fun k h1 => if k = true then ev Γ b ls h1 else .ok x h1 := by rw [ev] <;> rfl
@[simp] theorem ev_or (Γ : Cfg) (a : FE) (b : FE) (ls : Ls) (h : Hs) : ev Γ (.or a b) ls h = (ev Γ a ls h).bind fun x h1 => (R.ofO h1 (truth h1 x)).bind fun k h1 => if k = true then .ok x h1 else ev Γ b ls h1 := by rw [ev] <;> rfl
@[simp] theorem ev_ite (Γ : Cfg) (c : FE) (a : FE) (b : FE) (ls : Ls) (h : Hs) : ev Γ (.ite c a b) ls h = (ev Γ c ls h).bind fun x h1 => (R.ofO h1 (truth h1 x)).bind fun k h1 => if k = true then ev Γ a ls h1 else ev Γ b ls h1 := by rw [ev] <;> rfl
@[simp] theorem ev_tup (Γ : Cfg) (as : FE) (ls : Ls) (h : Hs) : ev Γ (.tup as) ls h = (evs Γ as ls h).bind fun xs h1 => if xs.length ≤ sizeLine then .ok (.tup xs) h1 else .bad := by rw [ev] <;> rfl
@[simp] theorem ev_lst (Γ : Cfg) (as : FE) (ls : Ls) (h : Hs) : ev Γ (.lst as) ls h = (evs Γ as ls h).bind fun xs h1 => if xs.length ≤ sizeLine then newL h1 xs else .bad := by rw [ev] <;> rfl
@[simp] theorem ev_idx (Γ : Cfg) (a : FE) (i : FE) (ls : Ls) (h : Hs) : ev Γ (.idx a i) ls h = (ev Γ a ls h).bind fun x h1 => (ev Γ i ls h1).bind fun y h2 => idxD x y h2 := by rw [ev] <;> rfl
@[simp] theorem ev_slice (Γ : Cfg) (a : FE) (lo : FE) (hi : FE) (ls : Ls) (h : Hs) : ev Γ (.slice a lo hi) ls h = (ev Γ a ls h).bind fun x h1 => (evPart Γ lo ls h1).bind fun l h2 => (evPart Γ hi ls h2).bind fun u h3 => sliceD x l u h3 := by rw [ev] <;> rfl
@[simp] theorem ev_call (Γ : Cfg) (f : Str) (as : FE) (ls : Ls) (h : Hs) : ev Γ (.call f as) ls h = gcR h ((evs Γ as ls h).bind fun xs h1 => Γ.call f xs h1) := by rw [ev] <;> rfl
@[simp] theorem ev_new (Γ : Cfg) (c : Str) (as : FE) (ls : Ls) (h : Hs) : ev Γ (.new c as) ls h = (evs Γ as ls h).bind fun xs h1 => (Γ.call (c ++ ".__init__") (.loc h1.length :: xs) (h1 ++ [.obj c []])).bind fun _ h2 => .ok (.loc h1.length) h2 := by rw [ev] <;> rfl
@[simp] theorem ev_meth (Γ : Cfg) (m : Str) (o : FE) (as : FE) (ls : Ls) (h : Hs) : ev Γ (.meth m o as) ls h = gcR h ((ev Γ o ls h).bind fun x h1 => match x with
      | .loc n => match h1[n]? with
        | some (.obj c fs) => if fs.lookup m = none then (evs Γ as ls h1).bind fun xs h2 => Γ.call (c ++ "." ++ m) (x :: xs) h2 else .bad
        | _ => .bad
      | _ => .bad) := by rw [ev] <;> rfl
@[simp] theorem ev_attr (Γ : Cfg) (o : FE) (f : Str) (ls : Ls) (h : Hs) : ev Γ (.attr o f) ls h = (ev Γ o ls h).bind fun x h1 => getF x f h1 := by rw [ev] <;> rfl
@[simp] theorem ev_bcall (Γ : Cfg) (b : Bt) (as : FE) (ls : Ls) (h : Hs) : ev Γ (.bcall b as) ls h = gcR h ((evs Γ as ls h).bind fun xs h1 => btD b xs h1) := by rw [ev] <;> rfl
@[simp] theorem ev_bmeth (Γ : Cfg) (m : Bm) (o : FE) (as : FE) (ls : Ls) (h : Hs) : ev Γ (.bmeth m o as) ls h = gcR h ((ev Γ o ls h).bind fun x h1 => if isLst h1 x = true then (evs Γ as ls h1).bind fun xs h2 => bmD m x xs h2 else .bad) := by rw [ev] <;> rfl
@[simp] theorem ev_dnil (Γ : Cfg)  (ls : Ls) (h : Hs) : ev Γ (.dnil) ls h = .ok (.loc h.length) (h ++ [.dict []]) := by rw [ev] <;> rfl
@[simp] theorem ev_svals (Γ : Cfg) (e : FE) (ls : Ls) (h : Hs) : ev Γ (.svals e) ls h = (ev Γ e ls h).bind fun x h1 => svalsD x h1 := by rw [ev] <;> rfl
@[simp] theorem evs_anil (Γ : Cfg)  (ls : Ls) (h : Hs) : evs Γ (.anil) ls h = .ok [] h := by rw [evs] <;> rfl
@[simp] theorem evs_acons (Γ : Cfg) (a : FE) (as : FE) (ls : Ls) (h : Hs) : evs Γ (.acons a as) ls h = (ev Γ a ls h).bind fun x h1 => (evs Γ as ls h1).bind fun xs h2 => .ok (x :: xs) h2 := by rw [evs] <;> rfl
@[simp] theorem evPart_nopart (Γ : Cfg)  (ls : Ls) (h : Hs) : evPart Γ (.nopart) ls h = .ok none h := by rw [evPart] <;> rfl
@[simp] theorem evPart_part (Γ : Cfg) (e : FE) (ls : Ls) (h : Hs) : evPart Γ (.part e) ls h = (ev Γ e ls h).bind fun x h1 => match x with
    | .int i => .ok (some i) h1
    | _ => .bad := by rw [evPart] <;> rfl
@[simp] theorem evI_iseq (Γ : Cfg) (e : FE) (ls : Ls) (h : Hs) : evI Γ (.iseq e) ls h = (ev Γ e ls h).bind fun x h1 => R.ofO h1 ((itemsD h1 x).map fun xs => (xs, placeD x)) := by rw [evI] <;> rfl
@[simp] theorem evI_irange (Γ : Cfg) (as : FE) (ls : Ls) (h : Hs) : evI Γ (.irange as) ls h = (evs Γ as ls h).bind fun xs h1 => match xs with
    | [.int j] => if small j then .ok (rangeD 0 j, []) h1 else .bad
    | [.int i, .int j] => if small i ∧ small j then .ok (rangeD i j, []) h1 else .bad
    | _ => .bad := by rw [evI] <;> rfl
@[simp] theorem evI_ienum (Γ : Cfg) (as : FE) (ls : Ls) (h : Hs) : evI Γ (.ienum as) ls h = (evs Γ as ls h).bind fun vs h1 => enumI vs h1 := by rw [evI] <;> rfl
@[simp] theorem evI_izip (Γ : Cfg) (as : FE) (ls : Ls) (h : Hs) : evI Γ (.izip as) ls h = (evs Γ as ls h).bind fun vs h1 => zipI vs h1 := by rw [evI] <;> rfl
@[simp] theorem evS_pass (Γ : Cfg)  (ls : Ls) (h : Hs) : evS Γ (.pass) ls h = .nx ls h := by rw [evS] <;> rfl
@[simp] theorem evS_brk (Γ : Cfg)  (ls : Ls) (h : Hs) : evS Γ (.brk) ls h = .bk ls h := by rw [evS] <;> rfl
@[simp] theorem evS_cont (Γ : Cfg)  (ls : Ls) (h : Hs) : evS Γ (.cont) ls h = .ct ls h := by rw [evS] <;> rfl
@[simp] theorem evS_expr (Γ : Cfg) (e : FE) (ls : Ls) (h : Hs) : evS Γ (.expr e) ls h = (ev Γ e ls h).andS ls fun _ h1 => .nx ls h1 := by rw [evS] <;> rfl
@[simp] theorem evS_asg (Γ : Cfg) (g : FG) (e : FE) (ls : Ls) (h : Hs) : evS Γ (.asg g e) ls h = (ev Γ e ls h).andS ls fun d h1 => asgG Γ g d ls h1 := by rw [evS] <;> rfl
@[simp] theorem evS_par (Γ : Cfg) (i : Nat) (j : Nat) (a : FE) (b : FE) (ls : Ls) (h : Hs) : evS Γ (.par i j a b) ls h = (ev Γ a ls h).andS ls fun x h1 => (ev Γ b ls h1).andS ls fun y h2 => if i < ls.length ∧ j < ls.length then .nx ((ls.set i (some x)).set j (some y)) h2 else .bad := by rw [evS] <;> rfl
@[simp] theorem evS_aug (Γ : Cfg) (i : Nat) (op : Operator) (e : FE) (ls : Ls) (h : Hs) : evS Γ (.aug i op e) ls h = match ls[i]? with
    | some (some x) => (ev Γ e ls h).andS ls fun y h1 => augRes op x y ls i h1
    | _ => .bad := by rw [evS] <;> rfl
@[simp] theorem evS_ret (Γ : Cfg) (e : FE) (ls : Ls) (h : Hs) : evS Γ (.ret e) ls h = (ev Γ e ls h).andS ls fun d h1 => .rt d h1 := by rw [evS] <;> rfl
@[simp] theorem evS_retN (Γ : Cfg)  (ls : Ls) (h : Hs) : evS Γ (.retN) ls h = .rt .non h := by rw [evS] <;> rfl
@[simp] theorem evS_ite (Γ : Cfg) (c : FE) (a : FS) (b : FS) (ls : Ls) (h : Hs) : evS Γ (.ite c a b) ls h = (evT Γ c ls h).andS ls fun k h1 => if k = true then evS Γ a ls h1 else evS Γ b ls h1 := by rw [evS] <;> rfl
@[simp] theorem evS_raise (Γ : Cfg) (c : Str) (as : FE) (ls : Ls) (h : Hs) : evS Γ (.raise c as) ls h = (evs Γ as ls h).andS ls fun vs h1 => raiseR c vs ls h1 := by rw [evS] <;> rfl
@[simp] theorem evS_try_ (Γ : Cfg) (body : FS) (c : Str) (i : Nat) (z0 : FX) (ls : Ls) (h : Hs) : evS Γ (.try_ body c i z0) ls h = catchR c i (evS Γ body ls h) := by rw [evS] <;> rfl
@[simp] theorem evS_snil (Γ : Cfg)  (ls : Ls) (h : Hs) : evS Γ (.snil) ls h = .nx ls h := by rw [evS] <;> rfl
@[simp] theorem evS_scons (Γ : Cfg) (s : FS) (ss : FS) (ls : Ls) (h : Hs) : evS Γ (.scons s ss) ls h = (evS Γ s ls h).andN fun ls1 h1 => evS Γ ss ls1 h1 := by rw [evS] <;> rfl
@[simp] theorem asgG_tgt (Γ : Cfg) (t : FT) (d : D) (ls : Ls) (h : Hs) : asgG Γ (.tgt t) d ls h = match asgT t d ls with
    | some ls1 => .nx ls1 h
    | none => .bad := rfl
@[simp] theorem asgG_sub (Γ : Cfg) (o i : FE) (d : D) (ls : Ls) (h : Hs) : asgG Γ (.sub o i) d ls h = (ev Γ o ls h).andS ls fun x h1 => (ev Γ i ls h1).andS ls fun y h2 => (setIdx x y d h2).andS ls fun _ h3 => .nx ls h3 := rfl
@[simp] theorem asgT_name (i : Nat) (d : D) (ls : Ls) : asgT (.name i) d ls = if i < ls.length then some (ls.set i (some d)) else none := by rw [asgT]
@[simp] theorem asgT_tup (ts : FT) (xs : List D) (ls : Ls) : asgT (.tup ts) (.tup xs) ls = asgTs ts xs ls := by rw [asgT]
@[simp] theorem asgTs_nil (ls : Ls) : asgTs .tnil [] ls = some ls := by rw [asgTs]
@[simp] theorem asgTs_cons (t ts : FT) (x : D) (xs : List D) (ls : Ls) : asgTs (.tcons t ts) (x :: xs) ls = (asgT t x ls).bind fun ls' => asgTs ts xs ls' := by rw [asgTs]
theorem evS_for (Γ : Cfg) (t : FT) (it : FE) (body : FS) (fg : List Nat) (ls : Ls) (h : Hs) : evS Γ (.for_ t it body fg) ls h = (evI Γ it ls h).andS ls fun w h1 => forL fg w.2 h1 (fun x ls1 h2 => match asgT t x ls1 with
      | some ls2 => evS Γ body ls2 h2
      | none => .bad) w.1 ls h1 := by rw [evS] <;> rfl
@[simp] theorem cfg_call (P : Prog) (k : Nat) : (P.cfg k).call = P.call k := rfl
theorem cfg_glob (P : Prog) (k : Nat) : (P.cfg k).glob = fun x => List.lookup x P.glob := rfl
theorem call_eq {P : Prog} {k : Nat} {f : Str} {d : FDef} {vs : List D} {h : Hs} (hl : List.lookup f P.defs = some d) (hn : vs.length = d.np) : P.call (k + 1) f vs h = gcR h (evS (P.cfg k) d.body (startL d.np d.nn vs) h).call := by
  simp only [Prog.call, hl, if_pos hn]; rfl
theorem any_newF {α : Type} (h : Hs) (p : α → Bool) (xs : List α) : gcR h (btD .any [.loc h.length] (h ++ [.lst (xs.map (D.bl ∘ p))])) = .ok (.bl (xs.any p)) h := by
  have e := any_new h (xs.map p)
  rw [List.map_map] at e
  rw [e]; simp
theorem all_newF {α : Type} (h : Hs) (p : α → Bool) (xs : List α) : gcR h (btD .all [.loc h.length] (h ++ [.lst (xs.map (D.bl ∘ p))])) = .ok (.bl (xs.all p)) h := by
  have e := all_new h (xs.map p)
  rw [List.map_map] at e
  rw [e]; simp
theorem comp_map {Γ : Cfg} {own : List Nat} {t : FT} {it c e : FE} {ls : Ls} {h : Hs} {α : Type} {en : α → D} {xs : List α} (f : α → D) {ns : List Nat} (hi : evI Γ it ls h = .ok (xs.map en, ns) h) (hz : xs.length ≤ sizeLine) (hs : ∀ x ∈ xs, cstep Γ own t c e ls (en x) h = .ok (some (f x)) h) :
    ev Γ (.comp own t it c e) ls h = newL h (xs.map f) := by
  rw [comp_run (fun x => some (f x)) hi hs hz, filterMap_some]
theorem comp_filter {Γ : Cfg} {own : List Nat} {t : FT} {it c e : FE} {ls : Ls} {h : Hs} {α : Type} {en : α → D} {xs : List α} (p : α → Bool) (f : α → D) {ns : List Nat} (hi : evI Γ it ls h = .ok (xs.map en, ns) h) (hz : xs.length ≤ sizeLine) (hs : ∀ x ∈ xs, cstep Γ own t c e ls (en x) h = .ok (if p x = true then some (f x) else none) h) :
    ev Γ (.comp own t it c e) ls h = newL h ((xs.filter p).map f) := by
  rw [comp_run (fun x => if p x = true then some (f x) else none) hi hs hz, filterMap_if]
/-! ### equal data -/
theorem shaped_int (i : Int) : SeqAt.shaped (.int i) = true := rfl
@[simp] theorem gcR_exc {h : Hs} {c : Str} {s f : Str} : gcR h (.exc c [(f, .str s)] h) = .exc c [(f, .str s)] h := by
  simp [gcR, OldOk.refl]
end FL
set_option autoImplicit false
set_option linter.all false
set_option maxRecDepth 100000
set_option maxHeartbeats 2000000
namespace FL.L
open PySem FL
def DrawSt (m : Nat) (st : List FL.D) : Prop := ∃ a b c : Int, st = [.loc m, .int a, .int b, .int c] ∧ 0 ≤ a ∧ 0 ≤ b
theorem DrawSt.closed {m n : Nat} {st : List FL.D} (h : DrawSt m st) (hm : m < n) : (Cell.lst st).closed n = true := by
  obtain ⟨a, b, c, rfl, _, _⟩ := h
  simp [Cell.closed, hm]
theorem take_ok {P : Prog} {k : Nat} (hP : List.lookup ("_law_take" : Str) P.defs = some t__law_take.d) {h : Hs} {n m : Nat} {xs : List Int} {st : List FL.D} {many : Int} (hn : h[n]? = some (.lst st)) (hm : h[m]? = some (.lst (xs.map .int))) (hs : DrawSt m st) (h0 : 0 < many) (h1 : many < 1000000) :
    ∃ r st', 0 ≤ r ∧ r < many ∧ DrawSt m st' ∧ P.call (k + 1) "_law_take" [.loc n, .int many] h = .ok (.int r) (h.set n (.lst st')) := by
  obtain ⟨a, b, c, rfl, ha, hb⟩ := hs
  have ln := lstAt_of hn
  have lm := lstAt_of hm
  have hl := lt_of_get hn
  have hml := lt_of_get hm
  have hmany : many ≠ 0 := by omega
  have hmany2 : many.natAbs < 1073741824 := by omega
  have fm : ∀ i : Int, 0 ≤ i.fmod many ∧ i.fmod many < many := fun i => ⟨Int.fmod_nonneg_of_pos i h0, Int.fmod_lt_of_pos i h0⟩
  have go : ∀ (r : Int) (st' : List FL.D), 0 ≤ r → r < many → DrawSt m st' → gcR h (.ok (.int r) (h.set n (.lst st'))) = .ok (.int r) (h.set n (.lst st')) := fun r st' _ _ hd => gcR_set (hd.closed hml) rfl
  simp only [Prog.call, hP]
  by_cases c1 : b = 0
  · subst c1
    by_cases c2 : a < xs.length
    · obtain ⟨y, hy⟩ : ∃ y, xs[a.toNat]? = some y := ⟨_, List.getElem?_eq_getElem (by omega)⟩
      have ey : L2.atI (xs.map FL.D.int) a = some (.int y) := by rw [atI_pos _ ha, List.getElem?_map, hy]; rfl
      have hv0 : (0 : Int) ≤ (if y < 0 then -y else y) := by split <;> omega
      generalize hv : (if y < 0 then -y else y) = v at hv0
      by_cases c3 : v < 1000000000000000000
      · refine ⟨v.fmod many, [.loc m, .int (a + 1), .int 0, .int c], (fm v).1, (fm v).2, ⟨_, _, _, rfl, by omega, by omega⟩, ?_⟩
        have := go (v.fmod many) [.loc m, .int (a + 1), .int 0, .int c] (fm v).1 (fm v).2 ⟨_, _, _, rfl, by omega, by omega⟩
        simpa [t__law_take, b__law_take, startL, evS, ev, evs, evT, idx_of ln, idx_of lm, len_of lm, asgG, asgT, set_of hn, idx_set hl, set_set hl, binI, powOk, hmany, hmany2, c2, ey, hv, c3] using this
      · have v0 : 0 < v := by omega
        have hd : 0 ≤ v.fdiv many := by rw [Int.fdiv_eq_ediv_of_nonneg _ (by omega)]; exact Int.ediv_nonneg (by omega) (by omega)
        refine ⟨v.fmod many, [.loc m, .int (a + 1), .int (v.fdiv many), .int c], (fm v).1, (fm v).2, ⟨_, _, _, rfl, by omega, hd⟩, ?_⟩
        have := go (v.fmod many) [.loc m, .int (a + 1), .int (v.fdiv many), .int c] (fm v).1 (fm v).2 ⟨_, _, _, rfl, by omega, hd⟩
        simpa [t__law_take, b__law_take, startL, evS, ev, evs, evT, idx_of ln, idx_of lm, len_of lm, asgG, asgT, set_of hn, idx_set hl, set_set hl, binI, powOk, hmany, hmany2, c2, ey, hv, c3, v0] using this
    · have hmul : binI .Mult c 48271 = some (c * 48271) := mul_r (by omega)
      have hc : (0 : Int) ≤ 0 := Int.le_refl 0
      generalize hw : (c * 48271 + 11).fmod 2147483647 = w
      refine ⟨(w.fdiv 3).fmod many, [.loc m, .int a, .int 0, .int w], (fm _).1, (fm _).2, ⟨_, _, _, rfl, ha, hc⟩, ?_⟩
      have := go ((w.fdiv 3).fmod many) [.loc m, .int a, .int 0, .int w] (fm _).1 (fm _).2 ⟨_, _, _, rfl, ha, hc⟩
      simpa [t__law_take, b__law_take, startL, evS, ev, evs, evT, idx_of ln, idx_of lm, len_of lm, asgG, asgT, set_of hn, idx_set hl, set_set hl, binI, powOk, hmany, hmany2, c2, mulOk, hw] using this
  · have v0 : 0 < b := by omega
    have hd : 0 ≤ b.fdiv many := by rw [Int.fdiv_eq_ediv_of_nonneg _ (by omega)]; exact Int.ediv_nonneg (by omega) (by omega)
    refine ⟨b.fmod many, [.loc m, .int a, .int (b.fdiv many), .int c], (fm b).1, (fm b).2, ⟨_, _, _, rfl, ha, hd⟩, ?_⟩
    have := go (b.fmod many) [.loc m, .int a, .int (b.fdiv many), .int c] (fm b).1 (fm b).2 ⟨_, _, _, rfl, ha, hd⟩
    simpa [t__law_take, b__law_take, startL, evS, ev, evs, evT, idx_of ln, idx_of lm, len_of lm, asgG, asgT, set_of hn, idx_set hl, set_set hl, binI, powOk, hmany, hmany2, c1, v0] using this
end FL.L
set_option autoImplicit false
set_option linter.all false
set_option maxRecDepth 100000
/-! FL, part Q: loops by invariants; equal data by type. -/
namespace FL
open PySem
/-! ### one turn of a for -/
noncomputable def stp (Γ : Cfg) (t : FT) (b : FS) (x : D) (ls : Ls) (h : Hs) : RS := match asgT t x ls with
  | some ls2 => evS Γ b ls2 h
  | none => .bad
theorem stp_def (Γ : Cfg) (t : FT) (b : FS) (x : D) (ls : Ls) (h : Hs) : stp Γ t b x ls h = match asgT t x ls with
  | some ls2 => evS Γ b ls2 h
  | none => .bad := rfl
@[simp] theorem ev_for (Γ : Cfg) (t : FT) (it : FE) (body : FS) (fg : List Nat) (ls : Ls) (h : Hs) : evS Γ (.for_ t it body fg) ls h = (evI Γ it ls h).andS ls fun w h1 => forL fg w.2 h1 (stp Γ t body) w.1 ls h1 := by rw [evS]; rfl
@[simp] theorem ev_comp (Γ : Cfg) (own : List Nat) (t : FT) (it c e : FE) (ls : Ls) (h : Hs) : ev Γ (.comp own t it c e) ls h = (evI Γ it ls h).bind fun w h1 => (compL w.2 h1 (cstep Γ own t c e ls) w.1 h1).bind fun ys h2 => if ys.length ≤ sizeLine then newL h2 ys else .bad := by rw [ev]; rfl
@[simp] theorem ev_T (Γ : Cfg) (c : FE) (ls : Ls) (h : Hs) : evT Γ c ls h = (ev Γ c ls h).bind fun x h1 => R.ofO h1 (truth h1 x) := rfl
@[simp] theorem same_nil (h h' : Hs) : same [] h h' = True := by unfold same; simp
theorem same_t (h h' : Hs) : same [] h h' := by simp
theorem gcR_flat {h g : Hs} {d : D} (hd : d.flat = true) : gcR h (.ok d (h ++ g)) = .ok d h := gcR_app (flat_closed _ _ hd)
theorem gcR_flat0 {h : Hs} {d : D} (hd : d.flat = true) : gcR h (.ok d h) = .ok d h := gcR_same (flat_closed _ _ hd)
/-- a for by an invariant; it may return -/
theorem for_inv {fg ns : List Nat} {h0 : Hs} {step : D → Ls → Hs → RS} {α : Type} {en : α → D} (I : List α → Ls → Hs → Prop) (Q : D → Hs → Prop) : ∀ {xs ds : List α} {ls : Ls} {h : Hs}, I ds ls h →
    (∀ x es rest ls h, I es ls h → ds ++ xs = es ++ x :: rest → (∃ ls1 h1, (step (en x) ls h = .nx ls1 h1 ∨ step (en x) ls h = .ct ls1 h1) ∧ same ns h0 h1 ∧ I (es ++ [x]) (wipe ls1 fg) h1) ∨ ∃ d h1, step (en x) ls h = .rt d h1 ∧ Q d h1) →
    (∃ ls1 h1, forL fg ns h0 step (xs.map en) ls h = .nx ls1 h1 ∧ I (ds ++ xs) ls1 h1) ∨ ∃ d h1, forL fg ns h0 step (xs.map en) ls h = .rt d h1 ∧ Q d h1
  | [], ds, ls, h, hI, _ => .inl ⟨ls, h, by rw [List.map_nil, forL], by simpa using hI⟩
  | x :: xs, ds, ls, h, hI, hs => by
    rcases hs x ds xs ls h hI rfl with ⟨ls1, h1, e, sm, hI2⟩ | ⟨d, h1, e, q⟩
    · rcases for_inv I Q (xs := xs) hI2 fun y es rest ls h hI hy => hs y es rest ls h hI (by simpa using hy) with ⟨ls2, h2, e2, i2⟩ | ⟨d, h2, e2, q2⟩
      · refine .inl ⟨ls2, h2, ?_, by simpa using i2⟩
        rw [List.map_cons, forL]
        rcases e with e | e <;> rw [e] <;> simp only [turnEnd_nx, turnEnd_ct] <;> rw [if_pos sm, e2]
      · refine .inr ⟨d, h2, ?_, q2⟩
        rw [List.map_cons, forL]
        rcases e with e | e <;> rw [e] <;> simp only [turnEnd_nx, turnEnd_ct] <;> rw [if_pos sm, e2]
    · exact .inr ⟨d, h1, by rw [List.map_cons, forL, e]; rfl, q⟩
/-- .. that never returns -/
theorem for_inv' {fg ns : List Nat} {h0 : Hs} {step : D → Ls → Hs → RS} {α : Type} {en : α → D} (I : List α → Ls → Hs → Prop) {xs : List α} {ls : Ls} {h : Hs} (hI : I [] ls h)
    (hs : ∀ x ds rest ls h, I ds ls h → xs = ds ++ x :: rest → ∃ ls1 h1, step (en x) ls h = .nx ls1 h1 ∧ same ns h0 h1 ∧ I (ds ++ [x]) (wipe ls1 fg) h1) :
    ∃ ls1 h1, forL fg ns h0 step (xs.map en) ls h = .nx ls1 h1 ∧ I xs ls1 h1 := by
  rcases for_inv I (fun _ _ => False) hI fun x ds rest ls h hI hx => let ⟨ls1, h1, e, s, i⟩ := hs x ds rest ls h hI hx; .inl ⟨ls1, h1, .inl e, s, i⟩ with h | ⟨_, _, _, q⟩
  · exact h
  · exact q.elim
/-- a for that folds -/
theorem for_fold {fg ns : List Nat} {h0 : Hs} {step : D → Ls → Hs → RS} {α σ : Type} {en : α → D} (L : σ → Ls) (G : σ → Hs) (F : σ → α → σ) : ∀ {xs : List α} {s : σ},
    (∀ x s, x ∈ xs → ∃ ls1, step (en x) (L s) (G s) = .nx ls1 (G (F s x)) ∧ same ns h0 (G (F s x)) ∧ wipe ls1 fg = L (F s x)) →
    forL fg ns h0 step (xs.map en) (L s) (G s) = .nx (L (xs.foldl F s)) (G (xs.foldl F s))
  | [], s, _ => by rw [List.map_nil, forL]; rfl
  | x :: xs, s, hs => by
    obtain ⟨ls1, e, sm, w⟩ := hs x s (by simp)
    rw [List.map_cons, forL, e, turnEnd_nx, if_pos sm, w, for_fold L G F fun y s hy => hs y s (by simp [hy])]
    rfl
/-- a comprehension with effects -/
theorem comp_inv {ns : List Nat} {h0 : Hs} {step : D → Hs → R (Option D)} {α : Type} {en : α → D} (I : List α → List D → Hs → Prop) : ∀ {xs ds : List α} {acc : List D} {h : Hs}, I ds acc h →
    (∀ x es rest acc h, I es acc h → ds ++ xs = es ++ x :: rest → ∃ y h1, step (en x) h = .ok y h1 ∧ same ns h0 h1 ∧ I (es ++ [x]) (acc ++ y.toList) h1) →
    ∃ ys h1, compL ns h0 step (xs.map en) h = .ok ys h1 ∧ I (ds ++ xs) (acc ++ ys) h1
  | [], ds, acc, h, hI, _ => ⟨[], h, by rw [List.map_nil, compL], by simpa using hI⟩
  | x :: xs, ds, acc, h, hI, hs => by
    obtain ⟨y, h1, e, sm, i1⟩ := hs x ds xs acc h hI rfl
    obtain ⟨ys, h2, e2, i2⟩ := comp_inv I (xs := xs) i1 fun z es rest acc h hI hz => hs z es rest acc h hI (by simpa using hz)
    refine ⟨y.toList ++ ys, h2, ?_, by simpa using i2⟩
    rw [List.map_cons, compL, e, R.must_ok, if_pos sm, e2, R.must_ok]
    cases y <;> rfl
/-- a for that looks for one -/
theorem for_find {fg ns : List Nat} {h : Hs} {step : D → Ls → Hs → RS} {α : Type} {en : α → D} (p : α → Bool) (r : α → D) {ls : Ls} : ∀ {xs : List α},
    (∀ x ∈ xs, p x = false → ∃ ls1, step (en x) ls h = .nx ls1 h ∧ wipe ls1 fg = ls) → (∀ x ∈ xs, p x = true → step (en x) ls h = .rt (r x) h) →
    forL fg ns h step (xs.map en) ls h = match xs.find? p with
      | some x => .rt (r x) h
      | none => .nx ls h
  | [], _, _ => by rw [List.map_nil, forL]; rfl
  | x :: xs, h1, h2 => by
    rw [List.map_cons, forL, List.find?_cons]
    cases e : p x with
    | true => rw [h2 x (by simp) e]; rfl
    | false =>
      obtain ⟨ls1, e1, w⟩ := h1 x (by simp) e
      rw [e1, turnEnd_nx, w, if_pos (same_refl ns h), for_find p r (fun y hy => h1 y (by simp [hy])) fun y hy => h2 y (by simp [hy])]
theorem enumFrom_map {α : Type} (en : α → D) : ∀ (xs : List α) (m : Nat), enumFrom m (xs.map en) = (xs.zipIdx m).map fun p => .tup [.int p.2, en p.1]
  | [], _ => rfl
  | x :: xs, m => by rw [List.map_cons, enumFrom, List.zipIdx_cons, List.map_cons, enumFrom_map en xs]
theorem zipD_map {α β : Type} (f : α → D) (g : β → D) : ∀ (xs : List α) (ys : List β), zipD (xs.map f) (ys.map g) = (xs.zip ys).map fun p => .tup [f p.1, g p.2]
  | [], _ => by simp [zipD]
  | _ :: _, [] => by simp [zipD]
  | x :: xs, y :: ys => by simp only [List.map_cons, zipD, List.zip_cons_cons, zipD_map f g xs ys]
theorem rangeD_nat (n : Nat) : rangeD 0 (n : Int) = (List.range n).map fun k => D.int (k : Nat) := by
  unfold rangeD
  rw [show ((n : Int) - 0).toNat = n by omega]
  simp
theorem cut_map {α : Type} (f : α → D) (xs : List α) (lo hi : Option Int) : cut (xs.map f) lo hi = (cut xs lo hi).map f := by
  unfold cut; simp
/-! ### a built-in function of a comprehension -/
noncomputable def bcomp (b : Bt) (step : D → Hs → R (Option D)) (r : R (List D × List Nat)) (h : Hs) : R D :=
  gcR h ((r.bind fun w h1 => (compL w.2 h1 step w.1 h1).bind fun ys h2 => if ys.length ≤ sizeLine then newL h2 ys else .bad).bind fun x h1 => btD b [x] h1)
theorem bcomp_congr' {b : Bt} {step : D → Hs → R (Option D)} {r r' : R (List D × List Nat)} {h : Hs} (e : r = r') : bcomp b step r h = bcomp b step r' h := by rw [e]
@[simp high] theorem ev_bcomp (Γ : Cfg) (b : Bt) (own : List Nat) (t : FT) (it c e : FE) (ls : Ls) (h : Hs) : ev Γ (.bcall b (.acons (.comp own t it c e) .anil)) ls h = bcomp b (cstep Γ own t c e ls) (evI Γ it ls h) h := by
  rw [ev_bcall, evs_acons, ev_comp]
  unfold bcomp
  generalize (evI Γ it ls h).bind _ = r
  cases r <;> simp
section
variable {α : Type} {en : α → D} {step : D → Hs → R (Option D)} {ns : List Nat} {h : Hs} {xs : List α}
theorem bcomp_run (f : α → Option D) {b : Bt} (hs : ∀ x ∈ xs, step (en x) h = .ok (f x) h) (hz : xs.length ≤ sizeLine) : bcomp b step (.ok (xs.map en, ns) h) h = gcR h (btD b [.loc h.length] (h ++ [.lst (xs.filterMap f)])) := by
  unfold bcomp
  rw [R.bind_ok, comp_pure hs, R.bind_ok, if_pos (Nat.le_trans (List.length_filterMap_le _ _) hz)]
  rfl
theorem comp_l (f : α → D) (hs : ∀ x ∈ xs, step (en x) h = .ok (some (f x)) h) (hz : xs.length ≤ sizeLine) : ((compL ns h step (xs.map en) h).bind fun ys h2 => if ys.length ≤ sizeLine then newL h2 ys else .bad) = newL h (xs.map f) := by
  rw [comp_pure (f := fun x => some (f x)) hs, R.bind_ok, if_pos (Nat.le_trans (List.length_filterMap_le _ _) hz), filterMap_some]
theorem comp_lf (p : α → Bool) (f : α → D) (hs : ∀ x ∈ xs, step (en x) h = .ok (if p x = true then some (f x) else none) h) (hz : xs.length ≤ sizeLine) : ((compL ns h step (xs.map en) h).bind fun ys h2 => if ys.length ≤ sizeLine then newL h2 ys else .bad) = newL h ((xs.filter p).map f) := by
  rw [comp_pure (f := fun x => if p x = true then some (f x) else none) hs, R.bind_ok, if_pos (Nat.le_trans (List.length_filterMap_le _ _) hz), filterMap_if]
theorem any_b (p : α → Bool) (hs : ∀ x ∈ xs, step (en x) h = .ok (some (.bl (p x))) h) (hz : xs.length ≤ sizeLine) : bcomp .any step (.ok (xs.map en, ns) h) h = .ok (.bl (xs.any p)) h := by
  rw [bcomp_run _ hs hz, filterMap_some]
  exact any_newF h p xs
theorem all_b (p : α → Bool) (hs : ∀ x ∈ xs, step (en x) h = .ok (some (.bl (p x))) h) (hz : xs.length ≤ sizeLine) : bcomp .all step (.ok (xs.map en, ns) h) h = .ok (.bl (xs.all p)) h := by
  rw [bcomp_run _ hs hz, filterMap_some]
  exact all_newF h p xs
theorem tuple_b (f : α → D) (hs : ∀ x ∈ xs, step (en x) h = .ok (some (f x)) h) (hf : ∀ x ∈ xs, (f x).flat = true) (hz : xs.length ≤ sizeLine) : bcomp .tuple step (.ok (xs.map en, ns) h) h = .ok (.tup (xs.map f)) h := by
  rw [bcomp_run _ hs hz, filterMap_some]
  exact tuple_new h _ (flatL_map f xs hf)
theorem tuple_bf (p : α → Bool) (f : α → D) (hs : ∀ x ∈ xs, step (en x) h = .ok (if p x = true then some (f x) else none) h) (hf : ∀ x ∈ xs, (f x).flat = true) (hz : xs.length ≤ sizeLine) : bcomp .tuple step (.ok (xs.map en, ns) h) h = .ok (.tup ((xs.filter p).map f)) h := by
  rw [bcomp_run _ hs hz, filterMap_if]
  exact tuple_new h _ (flatL_map f _ fun x hx => hf x (List.mem_filter.mp hx).1)
end
/-- a for whose state is a function of the items done -/
theorem for_fn {fg ns : List Nat} {h0 : Hs} {step : D → Ls → Hs → RS} {α : Type} {en : α → D} (L : List α → Ls) (G : List α → Hs) : ∀ (ds xs : List α),
    (∀ es x rest, ds ++ xs = es ++ x :: rest → ∃ ls1, step (en x) (L es) (G es) = .nx ls1 (G (es ++ [x])) ∧ same ns h0 (G (es ++ [x])) ∧ wipe ls1 fg = L (es ++ [x])) →
    forL fg ns h0 step (xs.map en) (L ds) (G ds) = .nx (L (ds ++ xs)) (G (ds ++ xs))
  | ds, [], _ => by rw [List.map_nil, forL]; simp
  | ds, x :: xs, hs => by
    obtain ⟨ls1, e, sm, w⟩ := hs ds x xs rfl
    rw [List.map_cons, forL, e, turnEnd_nx, if_pos sm, w, for_fn L G (ds ++ [x]) xs fun es y rest ey => hs es y rest (by simpa using ey)]
    simp
theorem for_fn0 {fg ns : List Nat} {h0 h : Hs} {step : D → Ls → Hs → RS} {α : Type} {en : α → D} (L : List α → Ls) (G : List α → Hs) {ls : Ls} {xs : List α} (e1 : ls = L []) (e2 : h = G [])
    (hs : ∀ es x rest, xs = es ++ x :: rest → ∃ ls1, step (en x) (L es) (G es) = .nx ls1 (G (es ++ [x])) ∧ same ns h0 (G (es ++ [x])) ∧ wipe ls1 fg = L (es ++ [x])) :
    forL fg ns h0 step (xs.map en) ls h = .nx (L xs) (G xs) := by
  subst e1; subst e2
  exact for_fn L G [] xs hs
/-! ### a list that grows -/
@[simp] theorem get_mid (h g : Hs) (c : Cell) : (h ++ c :: g)[h.length]? = some c := by simp
@[simp] theorem set_mid (h g : Hs) (c c' : Cell) : (h ++ c :: g).set h.length c' = h ++ c' :: g := by simp
@[simp] theorem lstAt_mid (h g : Hs) (xs : List D) : lstAt (h ++ .lst xs :: g) h.length = some xs := lstAt_of (get_mid h g _)
theorem isLst_of {h : Hs} {n : Nat} {xs : List D} (e : h[n]? = some (.lst xs)) : isLst h (.loc n) = true := by show (mlstAt h n).isSome = true; rw [mlstAt_of e]; rfl
@[simp] theorem isLst_mid (h g : Hs) (xs : List D) : isLst (h ++ .lst xs :: g) (.loc h.length) = true := isLst_of (get_mid h g _)
theorem append_of {h : Hs} {n : Nat} {xs : List D} {d : D} (e : h[n]? = some (.lst xs)) (hz : xs.length < sizeLine) (hx : D.closedL h.length xs = true) (hd : d.closed h.length = true) : gcR h (bmD .append (.loc n) [d] h) = .ok .non (h.set n (.lst (xs ++ [d]))) := by
  have e2 : bmD .append (.loc n) [d] h = .ok .non (h.set n (.lst (xs ++ [d]))) := by
    unfold bmD
    simp only [e]
    rw [if_pos hz]
  rw [e2]
  refine gcR_set ?_ rfl
  have hc : ∀ ys : List D, D.closedL h.length ys = true → D.closedL h.length (ys ++ [d]) = true := fun ys => by
    induction ys with
    | nil => intro _; simp [hd]
    | cons y ys ih => intro hy; rw [closedL_cons, Bool.and_eq_true] at hy; rw [List.cons_append, closedL_cons, hy.1, ih hy.2]; rfl
  exact hc xs hx
theorem append_mid {h g : Hs} {xs : List D} {d : D} (hz : xs.length < sizeLine) (hx : D.flatL xs = true) (hd : d.flat = true) : gcR (h ++ .lst xs :: g) (bmD .append (.loc h.length) [d] (h ++ .lst xs :: g)) = .ok .non (h ++ .lst (xs ++ [d]) :: g) := by
  rw [append_of (get_mid h g _) hz (flatL_closed _ _ hx) (flat_closed _ _ hd), set_mid]
@[simp] theorem cmp_in (h : Hs) (a b : D) : cmpD .In h a b = inD h a b := rfl
@[simp] theorem cmp_nin (h : Hs) (a b : D) : cmpD .NotIn h a b = (inD h a b).map (!·) := rfl
@[simp] theorem neg_int (i : Int) (h : Hs) : negD (.int i) h = .ok (.int (-i)) h := rfl
@[simp] theorem slice_tup (xs : List D) (lo hi : Option Int) (h : Hs) : sliceD (.tup xs) lo hi h = .ok (.tup (cut xs lo hi)) h := rfl
theorem cut_take {α : Type} (xs : List α) (n : Nat) : cut xs none (some (n : Int)) = xs.take n := by
  unfold cut
  rw [HT.sIx_none, HT.sIx_nat]
  simp only [List.drop_zero, Nat.sub_zero]
  by_cases h : n ≤ xs.length
  · rw [Nat.min_eq_left h]
  · rw [Nat.min_eq_right (by omega), List.take_of_length_le (Nat.le_refl _), List.take_of_length_le (by omega)]
theorem cut_drop {α : Type} (xs : List α) (n : Nat) : cut xs (some (n : Int)) none = xs.drop n := by
  unfold cut
  rw [HT.sIx_none, HT.sIx_nat]
  by_cases h : n ≤ xs.length
  · rw [Nat.min_eq_left h]
    exact List.take_of_length_le (by simp)
  · rw [Nat.min_eq_right (by omega), List.drop_of_length_le (Nat.le_refl _), List.drop_of_length_le (by omega)]
    simp
theorem cut_drop1 {α : Type} (xs : List α) (n : Nat) : cut xs (some ((n : Int) + 1)) none = xs.drop (n + 1) := cut_drop xs (n + 1)
theorem lstAt_at {H A B : Hs} {i : Nat} {xs : List D} (e : H = A ++ .lst xs :: B) (hi : i = A.length) : lstAt H i = some xs := by subst e; subst hi; exact lstAt_mid A B xs
theorem truth_loc {h : Hs} {n : Nat} {xs : List D} (e : lstAt h n = some xs) : truth h (.loc n) = some (!xs.isEmpty) := by
  show (match lstAt h n with
    | some xs => some (!xs.isEmpty)
    | none => match mdictAt h n with
      | some kvs => some (!kvs.isEmpty)
      | none => none) = _
  rw [e]
theorem tuple_mid {h g : Hs} {ds : List D} (hd : D.flatL ds = true) : gcR (h ++ .lst ds :: g) (btD .tuple [.loc h.length] (h ++ .lst ds :: g)) = .ok (.tup ds) (h ++ .lst ds :: g) := by
  simp only [btD, itemsD, lstAt_mid, Option.map_some, ofO_some]
  exact gcR_same (by rw [closed_tup]; exact flatL_closed _ _ hd)
/-! ### equal data, by type -/
structure Eqq {α : Type} [DecidableEq α] (f : α → D) where
  P : α → PyData
  dep : Nat
  py : ∀ lk x, D.pyW lk (f x) = some (P x)
  lay : ∀ x, (P x).canLay0 = true
  deep : ∀ x, (P x).depth ≤ dep
  eqv : ∀ x y, PyData.eqv (P x) (P y) = decide (x = y)
def Eqq.int : Eqq D.int := ⟨.int, 0, fun _ _ => by rw [D.pyW], fun _ => by rw [PyData.canLay0], fun _ => by simp [PyData.depth], fun x y => by simp only [PyData.eqv]; rw [Bool.eq_iff_iff]; simp⟩
def Eqq.bl : Eqq D.bl := ⟨.bool, 0, fun _ _ => by rw [D.pyW], fun _ => by rw [PyData.canLay0], fun _ => by simp [PyData.depth], fun x y => by simp only [PyData.eqv]; rw [Bool.eq_iff_iff]; simp⟩
section
variable {α β : Type} [DecidableEq α] [DecidableEq β] {f : α → D} {g : β → D}
theorem Eqq.pyL (E : Eqq f) (lk : Nat → Option PyData) : ∀ xs : List α, D.pyWL lk (xs.map f) = some (xs.map E.P)
  | [] => by rw [List.map_nil, D.pyWL]; rfl
  | x :: xs => by rw [List.map_cons, D.pyWL, E.py, E.pyL lk xs]; rfl
theorem Eqq.layL (E : Eqq f) : ∀ xs : List α, PyData.canLayAll0 (xs.map E.P) = true
  | [] => by rw [List.map_nil, PyData.canLayAll0]
  | x :: xs => by rw [List.map_cons, PyData.canLayAll0, E.lay, E.layL xs]; rfl
theorem Eqq.deepL (E : Eqq f) : ∀ xs : List α, PyData.depthAll (xs.map E.P) ≤ E.dep
  | [] => by rw [List.map_nil, PyData.depthAll]; omega
  | x :: xs => by
    rw [List.map_cons, PyData.depthAll]
    exact Nat.max_le.mpr ⟨E.deep x, E.deepL xs⟩
theorem Eqq.eqvL (E : Eqq f) : ∀ xs ys : List α, PyData.eqvAll (xs.map E.P) (ys.map E.P) = decide (xs = ys)
  | [], [] => by simp only [List.map_nil, PyData.eqvAll, decide_true]
  | [], _ :: _ => by simp [PyData.eqvAll]
  | _ :: _, [] => by simp [PyData.eqvAll]
  | x :: xs, y :: ys => by
    rw [List.map_cons, List.map_cons, PyData.eqvAll, E.eqv x y, E.eqvL xs ys, ← Bool.decide_and]
    exact decide_eq_decide.mpr (by rw [List.cons.injEq])
def Eqq.tup (E : Eqq f) : Eqq (fun xs : List α => D.tup (xs.map f)) := ⟨fun xs => .tuple (xs.map E.P), E.dep + 1, fun lk xs => by rw [D.pyW, E.pyL]; rfl, fun xs => by simp only [PyData.canLay0]; exact E.layL xs, fun xs => by simp only [PyData.depth]; exact Nat.succ_le_succ (E.deepL xs), fun xs ys => by simp only [PyData.eqv]; exact E.eqvL xs ys⟩
def Eqq.pair (E : Eqq f) (F : Eqq g) : Eqq (fun p : α × β => D.tup [f p.1, g p.2]) := ⟨fun p => .tuple [E.P p.1, F.P p.2], max E.dep F.dep + 1, fun lk p => by rw [D.pyW, D.pyWL, D.pyWL, D.pyWL, E.py, F.py]; rfl, fun p => by simp only [PyData.canLay0, PyData.canLayAll0, E.lay, F.lay, Bool.and_self], fun p => by
    simp only [PyData.depth, PyData.depthAll]
    have h1 := E.deep p.1
    have h2 := F.deep p.2
    omega, fun p q => by
    simp only [PyData.eqv, PyData.eqvAll]
    rw [E.eqv, F.eqv, Bool.and_true, ← Bool.decide_and]
    exact decide_eq_decide.mpr ⟨fun e => Prod.ext e.1 e.2, fun e => by rw [e]; exact ⟨rfl, rfl⟩⟩⟩
theorem shaped_of {p : PyData} (hl : p.canLay0 = true) (hd : p.depth ≤ 64) : SeqAt.shaped p = true := by
  unfold SeqAt.shaped; rw [hl, decide_eq_true hd]; rfl
theorem Eqq.eq (E : Eqq f) (hd : E.dep ≤ 64) (h : Hs) (x y : α) : eqD h (f x) (f y) = some (decide (x = y)) := by
  simp only [eqD, D.py, E.py]
  rw [if_pos ⟨shaped_of (E.lay x) (Nat.le_trans (E.deep x) hd), shaped_of (E.lay y) (Nat.le_trans (E.deep y) hd)⟩, E.eqv]
theorem anyEqv (E : Eqq f) (x : α) : ∀ xs : List α, ((xs.map E.P).any fun y => PyData.eqv y (E.P x)) = decide (x ∈ xs)
  | [] => by simp
  | y :: ys => by
    rw [List.map_cons, List.any_cons, anyEqv E x ys, E.eqv, ← Bool.decide_or]
    exact decide_eq_decide.mpr (by rw [List.mem_cons]; exact ⟨fun h => h.imp Eq.symm id, fun h => h.imp Eq.symm id⟩)
theorem Eqq.inL (E : Eqq f) (hd : E.dep < 64) (h : Hs) (x : α) (xs : List α) : inL h (f x) (xs.map f) = some (decide (x ∈ xs)) := by
  simp only [FL.inL, D.py, FL.pyL, E.py, E.pyL]
  rw [if_pos ⟨shaped_of (E.lay x) (by have := E.deep x; omega), shaped_of (by simp only [PyData.canLay0]; exact E.layL xs) (by simp only [PyData.depth]; have := E.deepL xs; omega)⟩, anyEqv]
theorem Eqq.in_tup (E : Eqq f) (hd : E.dep < 64) (h : Hs) (x : α) (xs : List α) : inD h (f x) (.tup (xs.map f)) = some (decide (x ∈ xs)) := E.inL hd h x xs
theorem Eqq.in_loc (E : Eqq f) (hd : E.dep < 64) {h : Hs} {n : Nat} (x : α) {xs : List α} (e : lstAt h n = some (xs.map f)) : inD h (f x) (.loc n) = some (decide (x ∈ xs)) := by
  simp only [inD, e]; exact E.inL hd h x xs
theorem py_list (E : Eqq f) {h : Hs} {n : Nat} {xs : List α} (e : lstAt h n = some (xs.map f)) : D.py h (.loc n) = some (.list (xs.map E.P)) := by
  have e2 : (match h[n]? with
    | some (.lst xs) => (D.pyWL (lkL h 7) xs).map PyData.list
    | some (.flst xs) => (D.pyWL (lkL h 7) xs).map PyData.list
    | _ => none) = some (.list (xs.map E.P)) := by
    unfold lstAt at e
    split at e <;> cases e <;> simp only [*, E.pyL] <;> rfl
  rw [D.py, D.pyW]; exact e2
theorem Eqq.eq_loc (E : Eqq f) (hd : E.dep < 64) {h : Hs} {m n : Nat} {xs ys : List α} (e1 : lstAt h m = some (xs.map f)) (e2 : lstAt h n = some (ys.map f)) : eqD h (.loc m) (.loc n) = some (decide (xs = ys)) := by
  simp only [eqD, py_list E e1, py_list E e2]
  rw [if_pos ⟨shaped_of (by simp only [PyData.canLay0]; exact E.layL xs) (by simp only [PyData.depth]; have := E.deepL xs; omega), shaped_of (by simp only [PyData.canLay0]; exact E.layL ys) (by simp only [PyData.depth]; have := E.deepL ys; omega)⟩]
  simp only [PyData.eqv, E.eqvL]
end
/-! ### a heap that grows -/
theorem lstAt_app {h g : Hs} {n : Nat} (hn : n < h.length) : lstAt (h ++ g) n = lstAt h n := by unfold lstAt; rw [List.getElem?_append_left hn]
theorem lt_of_lstAt {h : Hs} {n : Nat} {xs : List D} (e : lstAt h n = some xs) : n < h.length := by
  unfold lstAt at e
  by_cases hn : n < h.length
  · exact hn
  · rw [List.getElem?_eq_none (by omega)] at e; cases e
theorem lstAt_grow {h g : Hs} {n : Nat} {xs : List D} (e : lstAt h n = some xs) : lstAt (h ++ g) n = some xs := by rw [lstAt_app (lt_of_lstAt e), e]
end FL
set_option autoImplicit false
set_option linter.all false
set_option maxRecDepth 100000
set_option maxHeartbeats 2000000
namespace FL.L
open PySem FL
/-! ### clauses, values -/
abbrev ci (c : List Int) : FL.D := .tup (c.map .int)
abbrev vi (v : List Bool) : FL.D := .tup (v.map .bl)
theorem cs_le {n : Nat} (h : n ≤ 1000) : n ≤ sizeLine := by rw [size_big]; omega
/-- the literals' variables lie in 1 .. n -/
def okC (n : Nat) (c : List Int) : Prop := ∀ l ∈ c, 1 ≤ l.natAbs ∧ l.natAbs ≤ n
def isT (v : List Bool) (l : Int) : Bool := decide (v.getD (l.natAbs - 1) false = decide (0 < l))
def hol (v : List Bool) (c : List Int) : Bool := c.any (isT v)
theorem abs_nat (l : Int) : (if l < 0 then -l else l) = (l.natAbs : Int) := by split <;> omega
theorem at_abs {l : Int} {v : List Bool} (hl : 1 ≤ l.natAbs ∧ l.natAbs ≤ v.length) : L2.atI (v.map FL.D.bl) ((l.natAbs : Int) - 1) = some (.bl (v.getD (l.natAbs - 1) false)) := by
  rw [show ((l.natAbs : Int) - 1) = ((l.natAbs - 1 : Nat) : Int) by omega, atI_nat, List.getElem?_map, List.getD_eq_getElem?_getD, List.getElem?_eq_getElem (by omega)]
  rfl
theorem is_true_ok {k : Nat} {h : Hs} {l : Int} {v : List Bool} (hl : 1 ≤ l.natAbs ∧ l.natAbs ≤ v.length) : pg.call (k + 1) "is_true" [.int l, vi v] h = .ok (.bl (isT v l)) h := by
  rw [call_eq l_is_true rfl]
  simp [t_is_true, b_is_true, startL, abs_nat, at_abs hl, isT]
theorem holds_ok {k : Nat} {h : Hs} {c : List Int} {v : List Bool} (hc : okC v.length c) (hz : c.length ≤ 1000) : pg.call (k + 2) "holds" [ci c, vi v] h = .ok (.bl (hol v c)) h := by
  rw [call_eq l_holds rfl]
  simp [t_holds, b_holds, startL, itemsD]
  rw [any_b (isT v) (fun l hl => by simp [cstep, wipe, is_true_ok (hc l hl)]) (cs_le hz)]
  simp [hol]
theorem lholds_ok {k : Nat} {h : Hs} {c : List Int} {v : List Bool} (hc : okC v.length c) (hz : c.length ≤ 1000) : pg.call (k + 1) "_law_holds" [ci c, vi v] h = .ok (.bl (hol v c)) h := by
  rw [call_eq l__law_holds rfl]
  simp [t__law_holds, b__law_holds, startL, itemsD]
  rw [any_b (isT v)]
  · simp [hol]
  · intro l hl
    simp [cstep, wipe, abs_nat, at_abs (hc l hl), isT]
  · exact cs_le hz
/-! ### a problem -/
abbrev csi (cs : List (List Int)) : FL.D := .tup (cs.map ci)
abbrev pi (n : Nat) (cs : List (List Int)) : FL.D := .tup [.int n, csi cs]
def okP (n : Nat) (cs : List (List Int)) : Prop := cs.length ≤ 1000 ∧ ∀ c ∈ cs, okC n c ∧ c.length ≤ 1000
def brk (v : List Bool) (cs : List (List Int)) : Option Nat := (cs.zipIdx.find? fun q => !hol v q.1).map (·.2)
def oi : Option Nat → FL.D
  | some n => .int n
  | none => .non
theorem broken_ok {k n : Nat} {h : Hs} {cs : List (List Int)} {v : List Bool} (hc : okP v.length cs) : pg.call (k + 3) "broken" [pi n cs, vi v] h = .ok (oi (brk v cs)) h := by
  rw [call_eq l_broken rfl]
  simp [t_broken, b_broken, startL, enumI, itemsD, placeD]
  rw [enumFrom_map, for_find (fun q => !hol v q.1) (fun q => .int q.2)]
  · unfold brk
    cases List.find? (fun q => !hol v q.1) cs.zipIdx <;> simp [oi]
  · intro q hq e
    have hq2 := hc.2 q.1 (List.fst_mem_of_mem_zipIdx hq)
    have e : hol v q.1 = true := by simpa using e
    simp [stp, holds_ok hq2.1 hq2.2, e, wipe]
  · intro q hq e
    have hq2 := hc.2 q.1 (List.fst_mem_of_mem_zipIdx hq)
    have e : hol v q.1 = false := by simpa using e
    simp [stp, holds_ok hq2.1 hq2.2, e]
theorem is_model_ok {k n : Nat} {h : Hs} {cs : List (List Int)} {v : List Bool} (hc : okP n cs) : pg.call (k + 4) "is_model" [pi n cs, vi v] h = .ok (.bl (decide (v.length = n) && (brk v cs).isNone)) h := by
  rw [call_eq l_is_model rfl]
  by_cases e : v.length = n
  · subst e
    simp [t_is_model, b_is_model, startL]
    rw [broken_ok hc]
    cases brk v cs <;> simp [oi, cmpD, isNon]
  · have e2 : ¬ ((v.length : Int) = (n : Int)) := by omega
    simp [t_is_model, b_is_model, startL, e, e2]
/-! ### a problem's changes -/
@[simp] theorem in_ci (h : Hs) (l : Int) (c : List Int) : inD h (.int l) (.tup (c.map .int)) = some (decide (l ∈ c)) := Eqq.int.in_tup (by decide) h l c
theorem ci_flat (c : List Int) : (ci c).flat = true := by rw [flat_tup]; exact flatL_map _ _ fun _ _ => flat_int _
theorem csi_flat (cs : List (List Int)) : D.flatL (cs.map ci) = true := flatL_map _ _ fun c _ => ci_flat c
abbrev EC : Eqq ci := Eqq.int.tup
@[simp] theorem eq_ci (h : Hs) (c d : List Int) : eqD h (.tup (c.map .int)) (.tup (d.map .int)) = some (decide (c = d)) := EC.eq (by decide) h c d
def rstC (l : Int) (c : List Int) : List Int := c.filter fun x => decide (x ≠ -l)
def rst (l : Int) (cs : List (List Int)) : List (List Int) := (cs.filter fun c => decide (l ∉ c)).map (rstC l)
theorem rclauses_ok {k : Nat} {h : Hs} {cs : List (List Int)} {l : Int} (hz : cs.length ≤ 1000) (hz2 : ∀ c ∈ cs, c.length ≤ 1000) : pg.call (k + 1) "restricted_clauses" [csi cs, .int l] h = .ok (csi (rst l cs)) h := by
  rw [call_eq l_restricted_clauses rfl]
  simp [t_restricted_clauses, b_restricted_clauses, startL, itemsD, placeD, newL]
  rw [for_fn0 (fun _ => [some (csi cs), some (.int l), some (.loc h.length), none, none]) (fun ds => h ++ [.lst ((rst l ds).map ci)]) (by rfl) (by rfl)]
  · simp only [andN_nx, evS_scons, evS_ret, ev_bcall, evs_acons, evs_anil, ev_var]
    simp [btD, itemsD, placeD]
    rw [gcR_flat0 (by rw [flat_tup]; exact csi_flat _)]
    exact gcR_flat (d := csi (rst l cs)) (by rw [flat_tup]; exact csi_flat _)
  · intro es c rest e
    have hl : (rst l es).length < sizeLine := by
      have := congrArg List.length e
      have h2 : (rst l es).length ≤ es.length := by unfold rst; rw [List.length_map]; exact List.length_filter_le _ _
      rw [size_big]; simp at this; omega
    have hc := hz2 c (by rw [e]; simp)
    by_cases hm : l ∈ c
    · exact ⟨_, by simp [stp, hm, rst]; rfl, same_t _ _, by simp [wipe]⟩
    · refine ⟨[some (csi cs), some (.int l), some (.loc h.length), some (ci c), none], ?_, same_t _ _, by simp [wipe]⟩
      simp [stp, hm, itemsD, placeD]
      rw [tuple_bf (fun x => decide (x ≠ -l)) .int]
      · simp
        rw [append_mid (by simpa using hl) (csi_flat _) (by simp; exact ci_flat _)]
        simp [rst, rstC, hm]
      · intro x hx
        by_cases e : x = -l <;> simp [cstep, wipe, e]
      · intro _ _; rfl
      · exact cs_le hc
theorem restricted_ok {k n : Nat} {h : Hs} {cs : List (List Int)} {l : Int} (hz : cs.length ≤ 1000) (hz2 : ∀ c ∈ cs, c.length ≤ 1000) : pg.call (k + 2) "restricted" [pi n cs, .int l] h = .ok (pi n (rst l cs)) h := by
  rw [call_eq l_restricted rfl]
  simp [t_restricted, b_restricted, startL]
  rw [rclauses_ok hz hz2, gcR_flat0 (by rw [flat_tup]; exact csi_flat _)]
  simp [size_big]
  exact gcR_flat0 (by simp; exact csi_flat _)
theorem added_ok {k n m : Nat} {h : Hs} {cs ds : List (List Int)} (hm : lstAt h m = some (ds.map ci)) (hz : cs.length + ds.length ≤ 1000) : pg.call (k + 1) "added" [pi n cs, .loc m] h = .ok (pi n (cs ++ ds)) h := by
  rw [call_eq l_added rfl]
  simp [t_added, b_added, startL, btD, itemsD, hm]
  rw [gcR_flat0 (by rw [flat_tup]; exact csi_flat _)]
  simp [show cs.length + ds.length ≤ 16777216 by omega, size_big]
  rw [← List.map_append]
  exact gcR_flat0 (by simp only [flat_tup, flatL_cons, flat_int, flatL_nil, csi_flat, Bool.and_self])
def hasAll (w p : List Int) : Bool := p.all fun l => decide (l ∈ w)
theorem has_all_ok {k : Nat} {h : Hs} {w p : List Int} (hz : p.length ≤ 1000) : pg.call (k + 1) "has_all" [ci w, ci p] h = .ok (.bl (hasAll w p)) h := by
  rw [call_eq l_has_all rfl]
  simp [t_has_all, b_has_all, startL, itemsD]
  rw [all_b (fun l => decide (l ∈ w))]
  · simp [hasAll]
  · intro l hl
    simp [cstep, wipe]
  · exact cs_le hz
def ahd (cs : List (List Int)) (q : List Int × Nat) : List (List Int) := (cs.take q.2).filter fun o => hasAll q.1 o
def bhd (cs : List (List Int)) (q : List Int × Nat) : List (List Int) := (cs.drop (q.2 + 1)).filter fun o => hasAll q.1 o && decide (o ≠ q.1)
def tdy (cs : List (List Int)) (qs : List (List Int × Nat)) : List (List Int) := (qs.filter fun q => decide (ahd cs q = [] ∧ bhd cs q = [])).map (·.1)
theorem tdy_yes {cs : List (List Int)} {qs : List (List Int × Nat)} {q : List Int × Nat} (h1 : ahd cs q = []) (h2 : bhd cs q = []) : tdy cs (qs ++ [q]) = tdy cs qs ++ [q.1] := by simp [tdy, h1, h2]
theorem tdy_no {cs : List (List Int)} {qs : List (List Int × Nat)} {q : List Int × Nat} (h : ¬ (ahd cs q = [] ∧ bhd cs q = [])) : tdy cs (qs ++ [q]) = tdy cs qs := by simp only [tdy, List.filter_append, List.filter_cons, decide_eq_false h]; simp
theorem tidied_ok {k n : Nat} {h : Hs} {cs : List (List Int)} (hz : cs.length ≤ 1000) (hz2 : ∀ c ∈ cs, c.length ≤ 1000) : pg.call (k + 2) "tidied" [pi n cs] h = .ok (pi n (tdy cs cs.zipIdx)) h := by
  rw [call_eq l_tidied rfl]
  simp [t_tidied, b_tidied, startL, enumI, itemsD, placeD, newL]
  rw [enumFrom_map, for_fn0 (fun _ => [some (pi n cs), some (.loc h.length), some (.int n), some (csi cs), none, none, none, none, none]) (fun qs => h ++ .lst ((tdy cs qs).map ci) :: (qs.flatMap fun q => [.lst ((ahd cs q).map ci), .lst ((bhd cs q).map ci)])) (by rfl) (by rfl)]
  · simp
    rw [tuple_mid (csi_flat _)]
    simp [size_big]
    exact gcR_flat (by simp; exact csi_flat _)
  · intro es q rest e
    have hl : (tdy cs es).length < sizeLine := by
      have := congrArg List.length e
      have h2 : (tdy cs es).length ≤ es.length := by unfold tdy; rw [List.length_map]; exact List.length_filter_le _ _
      rw [size_big]; simp at this; omega
    have hq : q.1 ∈ cs := List.fst_mem_of_mem_zipIdx (by rw [e]; simp)
    refine ⟨[some (pi n cs), some (.loc h.length), some (.int n), some (csi cs), some (.int q.2), some (ci q.1), some (.loc (h.length + 1 + (es.flatMap fun q => [Cell.lst ((ahd cs q).map ci), .lst ((bhd cs q).map ci)]).length)), some (.loc (h.length + 2 + (es.flatMap fun q => [Cell.lst ((ahd cs q).map ci), .lst ((bhd cs q).map ci)]).length)), none], ?_, same_t _ _, by simp [wipe]⟩
    generalize hg : (es.flatMap fun q => [Cell.lst ((ahd cs q).map ci), .lst ((bhd cs q).map ci)]) = g
    have ct : cut (cs.map ci) none (some (q.2 : Int)) = (cs.take q.2).map ci := by rw [cut_map, cut_take]
    have cd : cut (cs.map ci) (some ((q.2 : Int) + 1)) none = (cs.drop (q.2 + 1)).map ci := by rw [cut_map, cut_drop1]
    simp [stp, ct, itemsD, placeD, -List.map_take]
    rw [comp_lf (fun o => hasAll q.1 o) ci]
    · simp [itemsD, placeD, cd, -List.map_drop]
      rw [comp_lf (fun o => hasAll q.1 o && decide (o ≠ q.1)) ci]
      · rw [show List.filter (fun o => hasAll q.1 o) (List.take q.2 cs) = ahd cs q from rfl, show List.filter (fun o => hasAll q.1 o && decide (o ≠ q.1)) (List.drop (q.2 + 1) cs) = bhd cs q from rfl]
        have e1 : lstAt (h ++ Cell.lst (List.map ci (tdy cs es)) :: (g ++ [Cell.lst (List.map ci (ahd cs q)), Cell.lst (List.map ci (bhd cs q))])) (h.length + (g.length + 1)) = some ((ahd cs q).map ci) := lstAt_at (A := h ++ Cell.lst (List.map ci (tdy cs es)) :: g) (B := [Cell.lst (List.map ci (bhd cs q))]) (by simp) (by simp)
        have e2 : lstAt (h ++ Cell.lst (List.map ci (tdy cs es)) :: (g ++ [Cell.lst (List.map ci (ahd cs q)), Cell.lst (List.map ci (bhd cs q))])) (h.length + (g.length + 1 + 1)) = some ((bhd cs q).map ci) := lstAt_at (A := h ++ Cell.lst (List.map ci (tdy cs es)) :: (g ++ [Cell.lst (List.map ci (ahd cs q))])) (B := []) (by simp) (by simp)
        have a1 : List.length h + 1 + g.length = h.length + (g.length + 1) := by omega
        have a2 : List.length h + 2 + g.length = h.length + (g.length + 1 + 1) := by omega
        simp [truth_loc e1, truth_loc e2]
        rw [hg, a1, a2]
        by_cases b1 : ahd cs q = []
        · by_cases b2 : bhd cs q = []
          · rw [if_pos b1, if_pos b2, tdy_yes b1 b2]
            rw [append_mid (by simpa using hl) (csi_flat _) (ci_flat _)]
            simp
          · rw [if_pos b1, if_neg b2, tdy_no fun h => b2 h.2]
        · rw [if_neg b1, if_neg b1, tdy_no fun h => b1 h.1]
      · intro o ho
        have ho2 := hz2 o (List.mem_of_mem_drop ho)
        simp [cstep, wipe, has_all_ok ho2]
        cases hasAll q.1 o <;> by_cases e2 : o = q.1 <;> simp [e2]
      · exact cs_le (by simp; omega)
    · intro o ho
      have ho2 := hz2 o (List.mem_of_mem_take ho)
      simp [cstep, wipe, has_all_ok ho2]
      cases hasAll q.1 o <;> simp
    · exact cs_le (by simp; omega)
end FL.L
set_option autoImplicit false
set_option linter.all false
set_option maxRecDepth 100000
/-! FL, part R: stops, garbage, dicts, sorted ints. -/
namespace FL
open PySem
/-- a for that may stop -/
theorem for_stop {fg ns : List Nat} {h : Hs} {step : D → Ls → Hs → RS} {α : Type} {en : α → D} (p : α → Option RS) {ls : Ls} : ∀ {xs : List α},
    (∀ x r, p x = some r → ∀ f, turnEnd fg r f = r) → (∀ x ∈ xs, p x = none → ∃ ls1, step (en x) ls h = .nx ls1 h ∧ wipe ls1 fg = ls) → (∀ x ∈ xs, ∀ r, p x = some r → step (en x) ls h = r) →
    forL fg ns h step (xs.map en) ls h = (xs.findSome? p).getD (.nx ls h)
  | [], _, _, _ => by rw [List.map_nil, forL]; rfl
  | x :: xs, h0, h1, h2 => by
    rw [List.map_cons, forL, List.findSome?_cons]
    cases e : p x with
    | some r => rw [h2 x (by simp) r e, h0 x r e]; rfl
    | none =>
      obtain ⟨ls1, e1, w⟩ := h1 x (by simp) e
      rw [e1, turnEnd_nx, w, if_pos (same_refl ns h), for_stop p h0 (fun y hy => h1 y (by simp [hy])) fun y hy => h2 y (by simp [hy])]
/-- the one cell that is left -/
theorem gcR_pick {h g : Hs} {k : Nat} {c : Cell} (hk : h.length ≤ k) (e : (h ++ g)[k]? = some c) (hc : c.closed h.length = true) : gcR h (.ok (.loc k) (h ++ g)) = .ok (.loc h.length) (h ++ [c]) := by
  have e1 : ¬ (D.closed h.length (.loc k) = true) := by simp; omega
  simp only [gcR, gc, if_pos (OldOk.app h g), if_neg e1, e]
  rw [if_pos ⟨hc, by simp⟩, List.take_left]
theorem gcR_keep {h g : Hs} {k : Nat} {c : Cell} (hk : h.length ≤ k) (e : (h ++ g)[k]? = some c) (hc : c.closed h.length = false) : gcR h (.ok (.loc k) (h ++ g)) = .ok (.loc k) (h ++ g) := by
  have e1 : ¬ (D.closed h.length (.loc k) = true) := by simp; omega
  simp only [gcR, gc, if_pos (OldOk.app h g), if_neg e1, e]
  rw [if_neg (by rw [hc]; simp)]
@[simp] theorem gcR_newL (h : Hs) (xs : List D) : gcR h (newL h xs) = newL h xs := gcR_new
theorem gcR_pickL {h g : Hs} {k : Nat} {ds : List D} (hk : h.length ≤ k) (e : lstAt (h ++ g) k = some ds) (hm : isLst (h ++ g) (.loc k) = true) (hd : D.flatL ds = true) : gcR h (.ok (.loc k) (h ++ g)) = .ok (.loc h.length) (h ++ [.lst ds]) := by
  have e2 : (h ++ g)[k]? = some (.lst ds) := by
    have hm : (mlstAt (h ++ g) k).isSome = true := hm
    unfold lstAt at e; unfold mlstAt at hm
    split at e <;> simp_all
  exact gcR_pick hk e2 (flatL_closed _ _ hd)
/-- a for by an invariant, with what comes behind it -/
theorem for_then {fg ns : List Nat} {h0 : Hs} {step : D → Ls → Hs → RS} {α : Type} {en : α → D} (I : List α → Ls → Hs → Prop) {xs : List α} {ls : Ls} {h : Hs} {r : RS} (hr : forL fg ns h0 step (xs.map en) ls h = r) (hI : I [] ls h)
    (hs : ∀ x ds rest ls h, I ds ls h → xs = ds ++ x :: rest → ∃ ls1 h1, step (en x) ls h = .nx ls1 h1 ∧ same ns h0 h1 ∧ I (ds ++ [x]) (wipe ls1 fg) h1) : ∃ ls1 h1, r = .nx ls1 h1 ∧ I xs ls1 h1 := by
  obtain ⟨ls1, h1, e, i⟩ := for_inv' I hI hs
  exact ⟨ls1, h1, hr ▸ e, i⟩
/-- .. that may return -/
theorem for_thenQ {fg ns : List Nat} {h0 : Hs} {step : D → Ls → Hs → RS} {α : Type} {en : α → D} (I : List α → Ls → Hs → Prop) (Q : D → Hs → Prop) {xs : List α} {ls : Ls} {h : Hs} {r : RS} (hr : forL fg ns h0 step (xs.map en) ls h = r) (hI : I [] ls h)
    (hs : ∀ x ds rest ls h, I ds ls h → xs = ds ++ x :: rest → (∃ ls1 h1, (step (en x) ls h = .nx ls1 h1 ∨ step (en x) ls h = .ct ls1 h1) ∧ same ns h0 h1 ∧ I (ds ++ [x]) (wipe ls1 fg) h1) ∨ ∃ d h1, step (en x) ls h = .rt d h1 ∧ Q d h1) : (∃ ls1 h1, r = .nx ls1 h1 ∧ I xs ls1 h1) ∨ ∃ d h1, r = .rt d h1 ∧ Q d h1 := by
  subst hr
  simpa using for_inv I Q hI hs
/-- a comprehension with effects, with what comes behind it -/
theorem comp_then {ns : List Nat} {h0 : Hs} {step : D → Hs → R (Option D)} {α : Type} {en : α → D} (I : List α → List D → Hs → Prop) {xs : List α} {h : Hs} {r : R (List D)} (hr : compL ns h0 step (xs.map en) h = r) (hI : I [] [] h)
    (hs : ∀ x ds rest acc h, I ds acc h → xs = ds ++ x :: rest → ∃ y h1, step (en x) h = .ok y h1 ∧ same ns h0 h1 ∧ I (ds ++ [x]) (acc ++ y.toList) h1) : ∃ ys h1, r = .ok ys h1 ∧ I xs ys h1 := by
  obtain ⟨ys, h1, e, i⟩ := comp_inv I hI hs
  exact ⟨ys, h1, hr ▸ e, by simpa using i⟩
theorem bt_tupleL {h : Hs} {n : Nat} {xs : List D} (e : lstAt h n = some xs) : btD .tuple [.loc n] h = .ok (.tup xs) h := by simp [btD, itemsD, e]
@[simp] theorem bt_listL {h : Hs} {n : Nat} {xs : List D} (e : lstAt h n = some xs) : btD .list [.loc n] h = newL h xs := by simp [btD, itemsD, e]
theorem flatL_app : ∀ xs ys : List D, D.flatL xs = true → D.flatL ys = true → D.flatL (xs ++ ys) = true
  | [], ys, _, h => h
  | x :: xs, ys, h, h2 => by
    rw [flatL_cons, Bool.and_eq_true] at h
    rw [List.cons_append, flatL_cons, h.1, flatL_app xs ys h.2 h2]; rfl
theorem extend_last {A : Hs} {xs ys : List D} (hz : xs.length + ys.length ≤ sizeLine) (hx : D.flatL xs = true) (hy : D.flatL ys = true) : gcR (A ++ [.lst xs]) (bmD .extend (.loc A.length) [.loc (A.length + 1)] (A ++ [.lst xs, .lst ys])) = .ok .non (A ++ [.lst (xs ++ ys)]) := by
  have e1 : (A ++ [Cell.lst xs, .lst ys])[A.length]? = some (.lst xs) := get_mid A [.lst ys] (.lst xs)
  have e2 : mlstAt (A ++ [Cell.lst xs, .lst ys]) (A.length + 1) = some ys := mlstAt_of (by rw [List.getElem?_append_right (by omega)]; simp)
  have e3 : bmD .extend (.loc A.length) [.loc (A.length + 1)] (A ++ [Cell.lst xs, .lst ys]) = .ok .non (A ++ [.lst (xs ++ ys), .lst ys]) := by
    unfold bmD
    simp only [e1, e2]
    rw [if_pos hz, set_mid]
  have e4 : A ++ [Cell.lst (xs ++ ys), .lst ys] = (A ++ [Cell.lst xs]).set A.length (.lst (xs ++ ys)) ++ [.lst ys] := by rw [set_mid]; simp
  rw [e3, e4, gcR_setApp (by simp) (by simp only [Cell.closed]; exact flatL_closed _ _ (flatL_app _ _ hx hy)) rfl, set_mid]
/-! ### sorted ints -/
open Classical in
theorem sort_ints (h : Hs) (ns : List Int) : sortD h (ns.map .int) = some ((ns.mergeSort fun a b => decide (a ≤ b)).map .int) := by
  have e : pyL h (ns.map .int) = some (ns.map .int) := Eqq.int.pyL _ ns
  have ok : PySem.W.AllAlike (ns.map PyData.int) ∧ PySem.W.Sortable (ns.map PyData.int) ∧ ∀ y ∈ ns.map PyData.int, y.depth ≤ 64 := by
    refine ⟨?_, .inr ?_, ?_⟩
    · intro d hd d' hd'
      obtain ⟨i, _, rfl⟩ := List.mem_map.mp hd
      obtain ⟨j, _, rfl⟩ := List.mem_map.mp hd'
      simp [PySem.W.alike]
    · intro d hd
      obtain ⟨i, _, rfl⟩ := List.mem_map.mp hd
      simp
    · intro d hd
      obtain ⟨i, _, rfl⟩ := List.mem_map.mp hd
      simp [PyData.depth]
  simp only [sortD, e]
  rw [if_pos ok]
  have z : (ns.map FL.D.int).zip (ns.map PyData.int) = ns.map fun i => (FL.D.int i, PyData.int i) := by
    rw [List.zip_map']
  rw [z, ← List.map_mergeSort (r := fun a b => decide (a ≤ b)), List.map_map]
  · rfl
  · intro a _ b _
    show _ = PySem.W.dataLe false (fun p : FL.D × PyData => p.2) (FL.D.int a, PyData.int a) (FL.D.int b, PyData.int b)
    rw [PySem.W.dataLe_eq]
    simp only [cond, PySem.W.dataLt_int]
    by_cases hab : a ≤ b
    · rw [decide_eq_true hab, decide_eq_false (by omega)]; rfl
    · rw [decide_eq_false hab, decide_eq_true (by omega)]; rfl
theorem sorted_le (ns : List Int) : (ns.mergeSort fun a b => decide (a ≤ b)).Pairwise (· ≤ ·) := by
  have := List.pairwise_mergeSort (le := fun a b : Int => decide (a ≤ b)) (by simp; omega) (by simp; omega) ns
  simpa using this
theorem sorted_perm (ns : List Int) : (ns.mergeSort fun a b => decide (a ≤ b)).Perm ns := List.mergeSort_perm ns _
/-- sorted, all different -/
theorem sorted_lt {ns : List Int} (hn : ns.Nodup) : (ns.mergeSort fun a b => decide (a ≤ b)).Pairwise (· < ·) := by
  have h1 := sorted_le ns
  have h2 : (ns.mergeSort fun a b => decide (a ≤ b)).Nodup := (sorted_perm ns).nodup_iff.mpr hn
  exact h1.imp₂ (fun a b h3 h4 => by omega) h2
/-! ### texts -/
theorem eq_str {h : Hs} {s : Str} (hs : PyData.strOk s = true) : eqD h (.str s) (.str s) = some true := by
  simp only [eqD, py_str]
  have e : SeqAt.shaped (.str s) = true := shaped_of (by simpa [PyData.canLay0] using hs) (by simp [PyData.depth])
  rw [if_pos ⟨e, e⟩]
  simp [PyData.eqv]
end FL
set_option autoImplicit false
set_option linter.all false
set_option maxRecDepth 100000
set_option maxHeartbeats 2000000
namespace FL.L
open PySem FL
/-! ### checks -/
def asc (c : List Int) : Bool := (c.zip (c.drop 1)).all fun p => decide (p.1 < p.2)
def rng (n : Int) (c : List Int) : Bool := c.all fun l => decide (l ≠ 0) && decide ((l.natAbs : Int) ≤ n)
def bth (c : List Int) : Bool := c.any fun l => decide (-l ∈ c)
def chkC (n : Int) (c : List Int) : Option Str :=
  if asc c = true then if rng n c = true then if bth c = true then some "both" else none else some "clause" else some "clause"
abbrev pz (n : Int) (cs : List (List Int)) : FL.D := .tup [.int n, csi cs]
def chkP (n : Int) (cs : List (List Int)) : Option Str :=
  if 0 ≤ n ∧ n ≤ 24 then if (cs.length : Int) > 200 then some "many" else cs.findSome? (chkC n) else some "vars"
def refuse (h : Hs) (s : Str) : R FL.D := .exc "InputError" [("code", .str s)] h
def resO (h : Hs) : Option Str → R FL.D
  | some s => refuse h s
  | none => .ok .non h
theorem check_clause_ok {k : Nat} {h : Hs} {n : Int} {c : List Int} (hz : c.length ≤ 1000) : pg.call (k + 1) "check_clause" [.int n, ci c] h = resO h (chkC n c) := by
  rw [call_eq l_check_clause rfl]
  have z : zipD (c.map FL.D.int) ((c.drop 1).map .int) = (c.zip (c.drop 1)).map fun p => .tup [.int p.1, .int p.2] := zipD_map _ _ _ _
  have z2 : cut (c.map FL.D.int) (some 1) none = (c.drop 1).map .int := by rw [cut_map]; exact congrArg _ (cut_drop c 1)
  simp only [t_check_clause, b_check_clause, startL]
  simp [itemsD, placeD, zipI, z2, -List.drop_one, -List.map_drop]
  rw [z, all_b (fun p => decide (p.1 < p.2))]
  · rw [show ((c.zip (c.drop 1)).all fun p => decide (p.1 < p.2)) = asc c from rfl]
    unfold chkC
    cases asc c with
    | false => simp [raiseR, resO, refuse, show Str.length "clause" ≤ 1000 by decide]
    | true =>
      simp
      rw [all_b (fun l => decide (l ≠ 0) && decide ((l.natAbs : Int) ≤ n))]
      · rw [show (c.all fun l => decide (l ≠ 0) && decide ((l.natAbs : Int) ≤ n)) = rng n c from rfl]
        cases rng n c with
        | false => simp [raiseR, resO, refuse, show Str.length "clause" ≤ 1000 by decide]
        | true =>
          simp
          rw [any_b (fun l => decide (-l ∈ c))]
          · rw [show (c.any fun l => decide (-l ∈ c)) = bth c from rfl]
            cases bth c with
            | false => simp [resO]
            | true => simp [raiseR, resO, refuse, show Str.length "both" ≤ 1000 by decide]
          · intro l hl
            simp [cstep, wipe]
          · exact cs_le hz
      · intro l hl
        by_cases e : l = 0 <;> simp [cstep, wipe, abs_nat, e]
      · exact cs_le hz
  · intro p hp
    simp [cstep, wipe]
  · refine cs_le ?_
    simp; omega
theorem check_problem_ok {k : Nat} {h : Hs} {n : Int} {cs : List (List Int)} (hz2 : ∀ c ∈ cs, c.length ≤ 1000) : pg.call (k + 2) "check_problem" [pz n cs] h = resO h (chkP n cs) := by
  rw [call_eq l_check_problem rfl]
  have g1 : List.lookup ("MOST_VARS" : Str) pg.glob = some (.int 24) := by kernel_rfl
  have g2 : List.lookup ("MOST_CLAUSES" : Str) pg.glob = some (.int 200) := by kernel_rfl
  by_cases e1 : 0 ≤ n
  · by_cases e2 : n ≤ 24
    · by_cases e3 : (cs.length : Int) > 200
      · simp [t_check_problem, b_check_problem, startL, itemsD, placeD, cfg_glob, g1, g2, chkP, e1, e2, e3, raiseR, show Str.length "many" ≤ 1000 by decide, resO, refuse, show ¬ 24 < n by omega]
      · simp [t_check_problem, b_check_problem, startL, itemsD, placeD, cfg_glob, g1, g2, chkP, e1, e2, e3, show ¬ 24 < n by omega]
        rw [for_stop (fun c => (chkC n c).map fun s => .exc "InputError" [("code", .str s)] [some (pz n cs), some (ci c), some (.int n), some (csi cs)] h)]
        · have : ∀ ds : List (List Int), gcR h (((List.findSome? (fun c => (chkC n c).map fun s => RS.exc "InputError" [("code", .str s)] [some (pz n cs), some (ci c), some (.int n), some (csi cs)] h) ds).getD (RS.nx [some (pz n cs), none, some (.int n), some (csi cs)] h)).andN fun ls1 h1 => RS.nx ls1 h1).call = resO h (List.findSome? (chkC n) ds) := fun ds => by
            induction ds with
            | nil => simp [resO]
            | cons d ds ih =>
              rw [List.findSome?_cons, List.findSome?_cons]
              cases chkC n d with
              | none => exact ih
              | some s => simp [resO, refuse]
          exact this cs
        · intro c r e f
          cases e2 : chkC n c with
          | none => rw [e2] at e; cases e
          | some s => rw [e2] at e; cases e; rfl
        · intro c hc e
          have e : chkC n c = none := by simpa using e
          exact ⟨_, by simp [stp, check_clause_ok (hz2 c hc), e, resO]; rfl, by simp [wipe]⟩
        · intro c hc r e
          cases e2 : chkC n c with
          | none => rw [e2] at e; cases e
          | some s =>
            rw [e2] at e; cases e
            simp [stp, check_clause_ok (hz2 c hc), e2, resO, refuse]
    · simp [t_check_problem, b_check_problem, startL, itemsD, placeD, cfg_glob, g1, g2, chkP, e1, e2, raiseR, show Str.length "vars" ≤ 1000 by decide, resO, refuse, show 24 < n by omega]
  · simp [t_check_problem, b_check_problem, startL, itemsD, placeD, cfg_glob, g1, g2, chkP, e1, raiseR, show Str.length "vars" ≤ 1000 by decide, resO, refuse]
theorem code_ok {k : Nat} {h : Hs} {n : Int} {cs : List (List Int)} (hz2 : ∀ c ∈ cs, c.length ≤ 1000) : pg.call (k + 3) "_law_code" [pz n cs] h = .ok (.str ((chkP n cs).getD "")) h := by
  rw [call_eq l__law_code rfl]
  simp [t__law_code, b__law_code, startL]
  rw [check_problem_ok hz2]
  cases chkP n cs with
  | none => simp [resO]
  | some s => simp [resO, refuse, catchR]
end FL.L
set_option autoImplicit false
set_option linter.all false
set_option maxRecDepth 100000
set_option maxHeartbeats 2000000
namespace FL.L
open PySem FL
/-! ### draws -/
theorem begin_ok {k : Nat} {ns : List Int} (hz : ns.length ≤ 63) : ∃ st, DrawSt 1 st ∧ pg.call (k + 1) "_law_begin" [.loc 0] [.flst (ns.map .int)] = .ok (.loc 2) [.flst (ns.map .int), .lst (ns.map .int), .lst st] := by
  rw [call_eq l__law_begin rfl]
  have e0 : lstAt [Cell.flst (ns.map .int)] 0 = some (ns.map .int) := rfl
  simp [t__law_begin, b__law_begin, startL, itemsD, placeD, e0]
  generalize hr : forL _ _ _ _ _ _ _ = r
  obtain ⟨ls1, h1, rfl, s, rfl, rfl⟩ := for_then (fun _ ls h => ∃ s : Int, ls = [some (.loc 0), some (.int s), none] ∧ h = [Cell.flst (ns.map .int)]) hr ⟨1, rfl, rfl⟩ (by
    rintro x ds _ _ _ ⟨s, rfl, rfl⟩ hx
    have hm : mulOk s 69621 := .inr (by omega)
    refine ⟨[some (.loc 0), some (.int _), some (.int x)], _, by simp [stp, hm]; rfl, same_refl _ _, _, by simp [wipe]; rfl, rfl⟩)
  refine ⟨[.loc 1, .int 0, .int 0, .int s], ⟨_, _, _, rfl, by omega, by omega⟩, ?_⟩
  simp [bt_listL e0]
  simp [newL, size_big]
  exact gcR_keep (h := [Cell.flst (ns.map .int)]) (g := [.lst (ns.map .int), .lst [.loc 1, .int 0, .int 0, .int s]]) (by simp) rfl (by simp [Cell.closed])
/-- a draw's place -/
theorem pick_ok {α : Type} {en : α → FL.D} {k : Nat} {h : Hs} {n m : Nat} {ns : List Int} {st : List FL.D} {menu : FL.D} {xs : List α} (hn : h[n]? = some (.lst st)) (hm : h[m]? = some (.lst (ns.map .int))) (hs : DrawSt m st) (e : itemsD h menu = some (xs.map en)) (hmn : menu ≠ .loc n) (h0 : 0 < xs.length) (h1 : xs.length < 1000000) (hf : ∀ x ∈ xs, (en x).flat = true) :
    ∃ x ∈ xs, ∃ st', DrawSt m st' ∧ pg.call (k + 2) "_law_pick" [.loc n, menu] h = .ok (en x) (h.set n (.lst st')) := by
  rw [call_eq l__law_pick rfl]
  obtain ⟨r, st', r0, r1, hd, e1⟩ := take_ok (k := k) l__law_take hn hm hs (many := (xs.length : Int)) (by omega) (by omega)
  have hml := lt_of_get hm
  have hg : gcR h (.ok (.int r) (h.set n (.lst st'))) = .ok (.int r) (h.set n (.lst st')) := gcR_set (hd.closed hml) rfl
  obtain ⟨x, hx⟩ : ∃ x, xs[r.toNat]? = some x := ⟨_, List.getElem?_eq_getElem (by omega)⟩
  refine ⟨x, List.mem_of_getElem? hx, st', hd, ?_⟩
  have hl : btD .len [menu] h = .ok (.int xs.length) h := by simp [btD, e]
  have hi : idxD menu (.int r) (h.set n (.lst st')) = .ok (en x) (h.set n (.lst st')) := by
    have ea : L2.atI (xs.map en) r = some (en x) := by rw [atI_pos _ r0, List.getElem?_map, hx]; rfl
    cases menu with
    | tup ys =>
      have e : ys = xs.map en := by simpa [itemsD] using e
      subst e
      simp [ea]
    | loc j =>
      have e : lstAt h j = some (xs.map en) := e
      have e2 : lstAt (h.set n (.lst st')) j = some (xs.map en) := by
        unfold lstAt at e ⊢
        rw [List.getElem?_set_ne (by rintro rfl; exact hmn rfl)]
        exact e
      rw [idx_of e2, ea]; rfl
    | _ => simp [itemsD] at e
  simp [t__law_pick, b__law_pick, startL, hl, e1, hg, hi]
  exact gcR_set (hd.closed hml) (flat_closed _ _ (hf x (List.mem_of_getElem? hx)))
end FL.L
set_option autoImplicit false
set_option linter.all false
set_option maxRecDepth 100000
set_option maxHeartbeats 2000000
namespace FL.L
open PySem FL
/-- where the draws lie -/
structure Base (m n : Nat) (ns : List Int) (h : Hs) : Prop where
  hn : n < h.length
  hm : h[m]? = some (.lst (ns.map .int))
  ne : m ≠ n
section
variable {m n k : Nat} {ns : List Int} {h : Hs}
theorem Base.at_n (B : Base m n ns h) (c : Cell) (g : Hs) : (h.set n c ++ g)[n]? = some c := by
  rw [List.getElem?_append_left (by simpa using B.hn), List.getElem?_set_self B.hn]
theorem Base.at_m (B : Base m n ns h) (c : Cell) (g : Hs) : (h.set n c ++ g)[m]? = some (.lst (ns.map .int)) := by
  rw [List.getElem?_append_left (by simpa using lt_of_get B.hm), List.getElem?_set_ne (Ne.symm B.ne)]; exact B.hm
theorem Base.set_n (B : Base m n ns h) (c c' : Cell) (g : Hs) : (h.set n c ++ g).set n c' = h.set n c' ++ g := by
  rw [List.set_append_left _ _ (by simpa using B.hn), List.set_set]
theorem Base.app (B : Base m n ns h) (c : Cell) (g : Hs) : Base m n ns (h.set n c ++ g) := ⟨by have := B.hn; simp; omega, B.at_m c g, B.ne⟩
theorem Base.gcD (B : Base m n ns h) {st st' : List FL.D} {g x : Hs} {d : FL.D} (hs : DrawSt m st') (hd : d.closed (h.length + g.length) = true) : gcR (h.set n (.lst st) ++ g) (.ok d (h.set n (.lst st') ++ (g ++ x))) = .ok d (h.set n (.lst st') ++ g) := by
  have e : h.set n (.lst st') ++ (g ++ x) = (h.set n (.lst st) ++ g).set n (.lst st') ++ x := by rw [B.set_n, List.append_assoc]
  rw [e, gcR_setApp (by have := B.hn; simp; omega) (hs.closed (by have := lt_of_get B.hm; simp; omega)) (by simpa using hd), B.set_n]
theorem Base.gcD0 (B : Base m n ns h) {st st' : List FL.D} {g : Hs} {d : FL.D} (hs : DrawSt m st') (hd : d.closed (h.length + g.length) = true) : gcR (h.set n (.lst st) ++ g) (.ok d (h.set n (.lst st') ++ g)) = .ok d (h.set n (.lst st') ++ g) := by
  have := B.gcD (st := st) (x := []) hs hd
  simpa using this
theorem Base.take (B : Base m n ns h) {st : List FL.D} (g : Hs) (hs : DrawSt m st) (many : Int) (h0 : 0 < many) (h1 : many < 1000000) : ∃ r st', 0 ≤ r ∧ r < many ∧ DrawSt m st' ∧ gcR (h.set n (.lst st) ++ g) (pg.call (k + 1) "_law_take" [.loc n, .int many] (h.set n (.lst st) ++ g)) = .ok (.int r) (h.set n (.lst st') ++ g) := by
  obtain ⟨r, st', r0, r1, hd, e⟩ := take_ok (k := k) l__law_take (B.at_n (.lst st) g) (B.at_m _ g) hs h0 h1
  exact ⟨r, st', r0, r1, hd, by rw [e, B.set_n, B.gcD0 hd rfl]⟩
end
/-! ### a clause -/
theorem setIdx_dict {h : Hs} {n : Nat} {kvs : List (FL.D × FL.D)} {i v : FL.D} {k : NestedKey} (e : h[n]? = some (.dict kvs)) (hk : i.key = some k) (ho : keyOk i = true) (hz : kvs.length < sizeLine) : setIdx (.loc n) i v h = .ok () (h.set n (.dict (dput k i v kvs))) := by
  unfold setIdx
  simp only [e, hk]
  rw [if_pos ⟨ho, hz⟩]
def kvL (ls : List Int) : List (FL.D × FL.D) := ls.map fun l => (.int l.natAbs, .int l)
/-- .. with l put -/
def putL (l : Int) (ls : List Int) : List Int := if ls.any (fun x => decide (x.natAbs = l.natAbs)) = true then ls.map (fun x => if x.natAbs = l.natAbs then l else x) else ls ++ [l]
theorem dput_kvL (l : Int) (ls : List Int) : dput (.num l.natAbs) (.int l.natAbs) (.int l) (kvL ls) = kvL (putL l ls) := by
  have e : ((kvL ls).any fun p => decide (p.1.key = some (.num (l.natAbs : Int)))) = ls.any (fun x => decide (x.natAbs = l.natAbs)) := by
    unfold kvL
    rw [List.any_map]
    congr 1
    funext x
    simp [D.key]
    omega
  unfold dput putL
  rw [e]
  split
  · unfold kvL
    rw [List.map_map, List.map_map]
    refine List.map_congr_left fun x hx => ?_
    show (if (FL.D.int (x.natAbs : Int)).key = some (.num (l.natAbs : Int)) then (FL.D.int (x.natAbs : Int), FL.D.int l) else (FL.D.int (x.natAbs : Int), FL.D.int x)) = (FL.D.int ((if x.natAbs = l.natAbs then l else x).natAbs : Int), FL.D.int (if x.natAbs = l.natAbs then l else x))
    by_cases e : x.natAbs = l.natAbs
    · rw [if_pos e, if_pos (by rw [e]; rfl), e]
    · rw [if_neg e, if_neg (by intro h; simp [D.key] at h; omega)]
  · simp [kvL]
/-- the literals: their variables all different, each in 1 .. n -/
def okK (n : Nat) (ls : List Int) : Prop := okC n ls ∧ (ls.map Int.natAbs).Nodup
theorem putL_abs (l : Int) (ls : List Int) : (putL l ls).map Int.natAbs = if l.natAbs ∈ ls.map Int.natAbs then ls.map Int.natAbs else ls.map Int.natAbs ++ [l.natAbs] := by
  unfold putL
  by_cases e : l.natAbs ∈ ls.map Int.natAbs
  · rw [if_pos e, if_pos (by simpa using e), List.map_map]
    refine List.map_congr_left fun x hx => ?_
    simp only [Function.comp]
    split
    · omega
    · rfl
  · rw [if_neg e, if_neg (by simpa using e)]
    simp
theorem putL_ok {n : Nat} {l : Int} {ls : List Int} (hl : 1 ≤ l.natAbs ∧ l.natAbs ≤ n) (h : okK n ls) : okK n (putL l ls) ∧ (putL l ls).length ≤ ls.length + 1 := by
  have h1 := h.1
  have h2 := h.2
  have e := putL_abs l ls
  refine ⟨⟨?_, ?_⟩, ?_⟩
  · intro x hx
    unfold putL at hx
    split at hx
    · obtain ⟨y, hy, e⟩ := List.mem_map.mp hx
      split at e
      · rw [← e]; exact hl
      · rw [← e]; exact h1 y hy
    · rcases List.mem_append.mp hx with hx | hx
      · exact h1 x hx
      · rw [List.mem_singleton.mp hx]; exact hl
  · rw [e]
    split
    · exact h2
    · rename_i hn
      rw [List.nodup_append]
      exact ⟨h2, by simp, by intro a ha b hb; rw [List.mem_singleton.mp hb]; rintro rfl; exact hn ha⟩
  · have := congrArg List.length e
    rw [List.length_map] at this
    rw [this]
    split <;> simp
theorem okK_nodup {n : Nat} {ls : List Int} (h : okK n ls) : ls.Nodup := by
  have := h.2
  exact this.of_map _ fun a b h e => h (by rw [e])
/-- a clause of the law: sorted, its variables in 1 .. n -/
def okS (n : Nat) (c : List Int) : Prop := okC n c ∧ c.Pairwise (· < ·)
theorem clause_ok {m n k : Nat} {ns : List Int} {h g : Hs} {st : List FL.D} {count most : Nat} (B : Base m n ns h) (hs : DrawSt m st) (hc : 0 < count) (hc2 : count < 1000) (hm : 0 < most) (hm2 : most < 1000) :
    ∃ c st', DrawSt m st' ∧ okS count c ∧ c.length ≤ most ∧ gcR (h.set n (.lst st) ++ g) (pg.call (k + 2) "_law_clause" [.loc n, .int count, .int most] (h.set n (.lst st) ++ g)) = .ok (ci c) (h.set n (.lst st') ++ g) := by
  rw [call_eq l__law_clause rfl]
  obtain ⟨r, st1, r0, r1, hs1, e1⟩ := B.take (k := k) (g ++ [.dict []]) hs most (by omega) (by omega)
  have e2 : small (1 + r) := by unfold small; omega
  have e3 : rangeD 0 (1 + r) = (List.range (1 + r).toNat).map fun k => FL.D.int (k : Nat) := by rw [← rangeD_nat]; congr 1; omega
  simp [t__law_clause, b__law_clause, startL, e1, e2, e3]
  generalize hr : forL _ _ _ _ _ _ _ = q
  obtain ⟨ls1, h1, rfl, st2, ls, hs2, ok, hl, rfl, rfl⟩ := for_then (fun ds ls h' => ∃ st' xs, DrawSt m st' ∧ okK count xs ∧ xs.length ≤ ds.length ∧ ls = [some (.loc n), some (.int count), some (.int most), some (.loc (h.length + g.length)), none, none] ∧ h' = h.set n (.lst st') ++ (g ++ [.dict (kvL xs)])) hr ⟨st1, [], hs1, ⟨(fun _ h => nomatch h), by simp⟩, by simp, by simp, by simp [kvL]⟩ (by
    rintro x ds rest _ _ ⟨st2, xs, hs2, ok, hl, rfl, rfl⟩ hx
    obtain ⟨v, st3, v0, v1, hs3, ev1⟩ := B.take (k := k) (g ++ [.dict (kvL xs)]) hs2 count (by omega) (by omega)
    obtain ⟨b, st4, b0, b1, hs4, ev2⟩ := B.take (k := k) (g ++ [.dict (kvL xs)]) hs3 2 (by omega) (by omega)
    obtain ⟨v, rfl⟩ := Int.eq_ofNat_of_zero_le v0
    have ex : ∃ l : Int, (l.natAbs : Int) = 1 + v ∧ (if b = 0 then FL.D.int (1 + v) else .int (0 - (1 + v))) = .int l := by
      by_cases e : b = 0
      · exact ⟨1 + v, by omega, by rw [if_pos e]⟩
      · exact ⟨0 - (1 + v), by omega, by rw [if_neg e]⟩
    obtain ⟨l, el, ed⟩ := ex
    have p := putL_ok (n := count) (l := l) (ls := xs) (by omega) ok
    have hd : (h.set n (.lst st4) ++ (g ++ [Cell.dict (kvL xs)]))[h.length + g.length]? = some (.dict (kvL xs)) := by
      rw [← List.append_assoc, List.getElem?_append_right (by simp)]; simp
    have hset : setIdx (.loc (h.length + g.length)) (.int (1 + v)) (.int l) (h.set n (.lst st4) ++ (g ++ [Cell.dict (kvL xs)])) = .ok () (h.set n (.lst st4) ++ (g ++ [.dict (kvL (putL l xs))])) := by
      have hlen : (kvL xs).length < sizeLine := by
        have e1 : (kvL xs).length = xs.length := by simp [kvL]
        have e2 := congrArg List.length hx
        rw [size_big, e1]; simp at e2; omega
      rw [setIdx_dict hd rfl rfl hlen, ← el, dput_kvL]
      congr 1
      rw [← List.append_assoc, List.set_append_right _ _ (by simp)]
      simp
    refine ⟨[some (.loc n), some (.int count), some (.int most), some (.loc (h.length + g.length)), some (.int x), some (.int (1 + v))], h.set n (.lst st4) ++ (g ++ [.dict (kvL (putL l xs))]), ?_, same_t _ _, st4, putL l xs, hs4, p.1, ?_, by simp [wipe], rfl⟩
    · by_cases e : b = 0
      · rw [if_pos e] at ed; cases ed
        simp [stp, ev1, ev2, e, hset]
      · rw [if_neg e] at ed; cases ed
        simp [stp, ev1, ev2, e]
        simp at hset
        simp [hset]
    · simp; have := p.2; omega)
  have e4 : svalsD (.loc (h.length + g.length)) (h.set n (.lst st2) ++ (g ++ [.dict (kvL ls)])) = newL (h.set n (.lst st2) ++ (g ++ [.dict (kvL ls)])) ((ls.mergeSort fun a b => decide (a ≤ b)).map .int) := by
    have hd : mdictAt (h.set n (.lst st2) ++ (g ++ [.dict (kvL ls)])) (h.length + g.length) = some (kvL ls) := by
      unfold mdictAt
      rw [← List.append_assoc, List.getElem?_append_right (by simp)]; simp
    have hv : (kvL ls).map (·.2) = ls.map .int := by simp [kvL]
    simp only [svalsD, hd, Option.bind_some, hv, sort_ints]
  refine ⟨ls.mergeSort fun a b => decide (a ≤ b), st2, hs2, ⟨?_, sorted_lt (okK_nodup ok)⟩, ?_, ?_⟩
  · intro l hl
    exact ok.1 l ((sorted_perm ls).mem_iff.mp hl)
  · rw [(sorted_perm ls).length_eq]
    simp at hl; omega
  · simp [e4, newL]
    have e5 : lstAt (h.set n (.lst st2) ++ (g ++ [.dict (kvL ls), .lst ((ls.mergeSort fun a b => decide (a ≤ b)).map .int)])) (h.length + (g.length + 1)) = some ((ls.mergeSort fun a b => decide (a ≤ b)).map .int) := lstAt_at (A := h.set n (.lst st2) ++ (g ++ [.dict (kvL ls)])) (B := []) (by simp) (by simp)
    have e6 : gcR (h.set n (.lst st2) ++ (g ++ [.dict (kvL ls)])) (.ok (ci (ls.mergeSort fun a b => decide (a ≤ b))) (h.set n (.lst st2) ++ (g ++ [.dict (kvL ls), .lst ((ls.mergeSort fun a b => decide (a ≤ b)).map .int)]))) = .ok (ci (ls.mergeSort fun a b => decide (a ≤ b))) (h.set n (.lst st2) ++ (g ++ [.dict (kvL ls)])) := by
      have := gcR_flat (h := h.set n (.lst st2) ++ (g ++ [.dict (kvL ls)])) (g := [.lst ((ls.mergeSort fun a b => decide (a ≤ b)).map .int)]) (ci_flat (ls.mergeSort fun a b => decide (a ≤ b)))
      simpa using this
    rw [bt_tupleL e5, e6]
    simp
    rw [B.gcD hs2 (flat_closed _ _ (ci_flat _)), B.gcD0 hs2 (flat_closed _ _ (ci_flat _))]
end FL.L
set_option autoImplicit false
set_option linter.all false
set_option maxRecDepth 100000
set_option maxHeartbeats 2000000
namespace FL.L
open PySem FL
theorem problem_ok {m n k : Nat} {ns : List Int} {h g : Hs} {st : List FL.D} {count many most : Nat} (B : Base m n ns h) (hs : DrawSt m st) (hc : 0 < count) (hc2 : count < 900) (hm : 0 < most) (hm2 : most < 900) (hy : many < 900) :
    ∃ size cs st', DrawSt m st' ∧ 1 ≤ size ∧ size ≤ count ∧ (∀ c ∈ cs, okS size c ∧ c.length ≤ most) ∧ cs.length ≤ many + 1 ∧ gcR (h.set n (.lst st) ++ g) (pg.call (k + 3) "_law_problem" [.loc n, .int count, .int many, .int most] (h.set n (.lst st) ++ g)) = .ok (pi size cs) (h.set n (.lst st') ++ g) := by
  rw [call_eq l__law_problem rfl]
  obtain ⟨z, st1, z0, z1, hs1, e1⟩ := B.take (k := k + 1) g hs count (by omega) (by omega)
  obtain ⟨r, st2, r0, r1, hs2, e2⟩ := B.take (k := k + 1) g hs1 (many + 1) (by omega) (by omega)
  have e3 : small r := by unfold small; omega
  have e4 : rangeD 0 r = (List.range r.toNat).map fun k => FL.D.int (k : Nat) := by rw [← rangeD_nat]; congr 1; omega
  obtain ⟨s, hs, hs1'⟩ : ∃ s : Nat, (s : Int) = 1 + z ∧ 1 ≤ s ∧ s ≤ count := ⟨(1 + z).toNat, by omega, by omega, by omega⟩
  simp [t__law_problem, b__law_problem, startL, e1, e2, e3, e4, ← hs]
  generalize hr : compL _ _ _ _ _ = q
  obtain ⟨ys, h1, rfl, st3, cs, hs3, ok, hl, rfl, rfl⟩ := comp_then (fun ds acc h' => ∃ st' cs, DrawSt m st' ∧ (∀ c ∈ cs, okS s c ∧ c.length ≤ most) ∧ cs.length ≤ ds.length ∧ acc = cs.map ci ∧ h' = h.set n (.lst st') ++ g) hr ⟨st2, [], hs2, by simp, by simp, rfl, rfl⟩ (by
    rintro x ds rest _ _ ⟨st3, cs, hs3, ok, hl, rfl, rfl⟩ hx
    obtain ⟨c, st4, hs4, okc, lc, ec⟩ := clause_ok (k := k) (g := g) (count := s) (most := most) B hs3 (by omega) (by omega) hm (by omega)
    refine ⟨some (ci c), h.set n (.lst st4) ++ g, by simp [cstep, wipe, ec], same_t _ _, st4, cs ++ [c], hs4, ?_, by simp; omega, by simp, rfl⟩
    intro d hd
    rcases List.mem_append.mp hd with hd | hd
    · exact ok d hd
    · rw [List.mem_singleton.mp hd]; exact ⟨okc, lc⟩)
  simp at hl
  obtain ⟨b, st4, b0, b1, hs4, e5⟩ := B.take (k := k + 1) (g ++ [.lst (cs.map ci)]) hs3 20 (by omega) (by omega)
  have hz : cs.length ≤ sizeLine := by rw [size_big]; omega
  have hz2 : cs.length < sizeLine := by rw [size_big]; omega
  simp [hz, newL, e5]
  have hlen : (h.set n (.lst st4) ++ g).length = h.length + g.length := by simp
  by_cases eb : b = 0
  · refine ⟨s, cs ++ [[]], st4, hs4, hs1'.1, hs1'.2, ?_, by simp; omega, ?_⟩
    · intro d hd
      rcases List.mem_append.mp hd with hd | hd
      · exact ok d hd
      · rw [List.mem_singleton.mp hd]; exact ⟨⟨(fun _ h => by simp at h), .nil⟩, by simp⟩
    · have ea := append_mid (h := h.set n (.lst st4) ++ g) (g := []) (xs := cs.map ci) (d := .tup []) (by simpa using hz2) (csi_flat _) rfl
      have em := isLst_mid (h.set n (.lst st4) ++ g) [] (cs.map ci)
      have et := tuple_mid (h := h.set n (.lst st4) ++ g) (g := []) (ds := cs.map ci ++ [.tup []]) (flatL_app _ _ (csi_flat _) rfl)
      rw [hlen] at ea em et
      simp at ea em et
      have hf : D.flat (.tup [.int s, .tup (cs.map ci ++ [.tup []])]) = true := by simp only [flat_tup, flatL_cons, flat_int, flatL_nil, flatL_app _ _ (csi_flat cs) (show D.flatL [.tup []] = true from rfl), Bool.and_self]
      simp [eb, em, ea, et, size_big]
      rw [B.gcD hs4 (flat_closed _ _ hf), B.gcD0 hs4 (flat_closed _ _ hf)]
      simp
  · refine ⟨s, cs, st4, hs4, hs1'.1, hs1'.2, ok, by omega, ?_⟩
    have et := tuple_mid (h := h.set n (.lst st4) ++ g) (g := []) (ds := cs.map ci) (csi_flat _)
    rw [hlen] at et
    simp at et
    have hf : D.flat (pi s cs) = true := by simp only [flat_tup, flatL_cons, flat_int, flatL_nil, csi_flat, Bool.and_self]
    simp [eb, et, size_big]
    rw [B.gcD hs4 (flat_closed _ _ hf), B.gcD0 hs4 (flat_closed _ _ hf)]
/-! ### worlds, models -/
def two (r : List Bool) : List (List Bool) := [r ++ [false], r ++ [true]]
def W : Nat → List (List Bool)
  | 0 => [[]]
  | n + 1 => (W n).flatMap two
theorem two_len : ∀ xs : List (List Bool), (xs.flatMap two).length = 2 * xs.length
  | [] => rfl
  | x :: xs => by rw [List.flatMap_cons, List.length_append, two_len xs, List.length_cons]; simp [two]; omega
theorem W_len : ∀ n, (W n).length = 2 ^ n
  | 0 => rfl
  | n + 1 => by rw [W, two_len, W_len n, Nat.pow_succ, Nat.mul_comm]
theorem W_mem : ∀ (n : Nat) (v : List Bool), v ∈ W n → v.length = n
  | 0, v, h => by rw [W, List.mem_singleton] at h; rw [h]; rfl
  | n + 1, v, h => by
    rw [W, List.mem_flatMap] at h
    obtain ⟨r, hr, hv⟩ := h
    have := W_mem n r hr
    simp [two] at hv
    rcases hv with rfl | rfl <;> simp [this]
theorem vi_flat (v : List Bool) : (vi v).flat = true := by rw [flat_tup]; exact flatL_map _ _ fun _ _ => flat_bl _
theorem vis_flat (vs : List (List Bool)) : D.flatL (vs.map vi) = true := flatL_map _ _ fun v _ => vi_flat v
theorem worlds_ok {k n : Nat} {h : Hs} (hn : n ≤ 10) : pg.call (k + 1) "_law_worlds" [.int n] h = .ok (.loc h.length) (h ++ [.lst ((W n).map vi)]) := by
  rw [call_eq l__law_worlds rfl]
  have e2 : small (n : Int) := by unfold small; omega
  have e3 : rangeD 0 (n : Int) = (List.range n).map fun k => FL.D.int (k : Nat) := rangeD_nat n
  simp [t__law_worlds, b__law_worlds, startL, e2, e3, newL, size_big]
  generalize hr : forL _ _ _ _ _ _ _ = q
  obtain ⟨ls1, h1, rfl, g, j, rfl, rfl, hj, el, em⟩ := for_then (fun ds ls h' => ∃ g j, h' = h ++ g ∧ ls = [some (.int n), some (.loc j), none, none, none] ∧ h.length ≤ j ∧ lstAt h' j = some ((W ds.length).map vi) ∧ isLst h' (.loc j) = true) hr ⟨[.lst [.tup []]], h.length, rfl, rfl, Nat.le_refl _, lstAt_last _ _, isLst_mid h [] _⟩ (by
    rintro x ds rest _ _ ⟨g, j, rfl, rfl, hj, el, em⟩ hx
    have hd : ds.length < n := by have := congrArg List.length hx; simp at this; omega
    have hw : (W ds.length).length ≤ 1024 := by rw [W_len]; exact Nat.pow_le_pow_right (by omega) (show ds.length ≤ 10 by omega)
    have hjl := lt_of_lstAt el
    refine ⟨[some (.int n), some (.loc (h ++ g).length), some (.int x), some (.loc (h ++ g).length), none], h ++ g ++ [.lst ((W (ds ++ [x]).length).map vi)], ?_, same_t _ _, g ++ [.lst ((W (ds ++ [x]).length).map vi)], (h ++ g).length, by simp, by simp [wipe], by simp, lstAt_last _ _, isLst_mid _ [] _⟩
    have el2 : lstAt (h ++ (g ++ [Cell.lst []])) j = some ((W ds.length).map vi) := by rw [← List.append_assoc]; exact lstAt_grow el
    simp [stp, itemsD, placeD, el2]
    rw [for_fn0 (fun _ => [some (.int n), some (.loc j), some (.int x), some (.loc (h.length + g.length)), none]) (fun es => h ++ (g ++ [.lst ((es.flatMap two).map vi)])) (by rfl) (by rfl)]
    · simp [W]
    · intro es r rest2 er
      have hlen : es.length < 1024 := by have := congrArg List.length er; simp at this; omega
      have hr : r.length ≤ 1000 := by have := W_mem ds.length r (by rw [er]; simp); omega
      have ex := extend_last (A := h ++ g) (xs := (es.flatMap two).map vi) (ys := (two r).map vi) (by rw [List.length_map, two_len, size_big]; simp [two]; omega) (vis_flat _) (vis_flat _)
      have em := isLst_mid (h ++ g) [] ((es.flatMap two).map vi)
      simp [two] at ex em
      refine ⟨[some (.int n), some (.loc j), some (.int x), some (.loc (h.length + g.length)), some (vi r)], ?_, ?_, by simp [wipe]⟩
      · simp [stp, em, size_big, show r.length + 1 ≤ 16777216 by omega]
        have hv : ∀ b, vi (r ++ [b]) = FL.D.tup (r.map FL.D.bl ++ [.bl b]) := by intro b; simp
        rw [hv, hv, Nat.add_assoc] at ex
        rw [ex]
        simp [two]
      · intro i hi
        rw [List.mem_singleton.mp hi, ← List.append_assoc, ← List.append_assoc, List.getElem?_append_left hjl, List.getElem?_append_left hjl])
  have e := gcR_pickL hj el em (vis_flat _)
  simp at e
  simp [e]
def Mod (n : Nat) (cs : List (List Int)) : List (List Bool) := (W n).filter fun v => cs.all (hol v)
theorem models_ok {k n : Nat} {h : Hs} {cs : List (List Int)} (hn : n ≤ 10) (hc : okP n cs) : pg.call (k + 2) "_law_models" [pi n cs] h = .ok (.loc h.length) (h ++ [.lst ((Mod n cs).map vi)]) := by
  rw [call_eq l__law_models rfl]
  have hw : (W n).length ≤ 1024 := by rw [W_len]; exact Nat.pow_le_pow_right (by omega) hn
  simp [t__law_models, b__law_models, startL, worlds_ok hn, itemsD, placeD]
  rw [show gcR h (.ok (.loc h.length) (h ++ [.lst ((W n).map vi)])) = .ok (.loc h.length) (h ++ [.lst ((W n).map vi)]) from gcR_new]
  simp
  rw [comp_lf (fun v => cs.all (hol v)) vi]
  · have e := gcR_pickL (h := h) (g := [.lst ((W n).map vi), .lst ((Mod n cs).map vi)]) (k := h.length + 1) (ds := (Mod n cs).map vi) (by omega) (lstAt_at (A := h ++ [.lst ((W n).map vi)]) (B := []) (by simp) (by simp)) (isLst_of (xs := (Mod n cs).map vi) (by rw [List.getElem?_append_right (by omega)]; simp)) (vis_flat _)
    simp [newL]
    exact e
  · intro v hv
    have hl := W_mem n v hv
    show _ = R.ok (if cs.all (hol v) = true then some (vi v) else none) _
    generalize hb : cs.all (hol v) = b
    simp [cstep, wipe, itemsD, placeD]
    rw [all_b (hol v)]
    · rw [hb]
      cases b <;> simp
    · intro c hcc
      have := hc.2 c hcc
      rw [← hl] at this
      simp [cstep, wipe, lholds_ok this.1 this.2]
    · exact cs_le hc.1
  · rw [size_big]; omega
end FL.L
set_option autoImplicit false
set_option linter.all false
set_option maxRecDepth 100000
set_option maxHeartbeats 2000000
namespace FL.L
open PySem FL
/-! ### the mathematics -/
theorem isT_neg {v : List Bool} {l : Int} (hl : l ≠ 0) (h : isT v l = true) : isT v (-l) = false := by
  unfold isT at *
  rw [decide_eq_true_eq] at h
  rw [decide_eq_false_iff_not, Int.natAbs_neg, h]
  by_cases e : 0 < l
  · rw [decide_eq_true e, decide_eq_false (by omega)]; simp
  · rw [decide_eq_false e, decide_eq_true (by omega)]; simp
theorem hol_rstC {v : List Bool} {l : Int} {c : List Int} (hl : l ≠ 0) (h : isT v l = true) : hol v (rstC l c) = hol v c := by
  unfold hol rstC
  rw [Bool.eq_iff_iff, List.any_eq_true, List.any_eq_true]
  constructor
  · rintro ⟨x, hx, e⟩
    exact ⟨x, (List.mem_filter.mp hx).1, e⟩
  · rintro ⟨x, hx, e⟩
    refine ⟨x, List.mem_filter.mpr ⟨hx, ?_⟩, e⟩
    rw [decide_eq_true_eq]
    rintro rfl
    rw [isT_neg hl h] at e; cases e
theorem all_rst {v : List Bool} {l : Int} (hl : l ≠ 0) (h : isT v l = true) : ∀ cs : List (List Int), (rst l cs).all (hol v) = cs.all (hol v)
  | [] => rfl
  | c :: cs => by
    have ih := all_rst hl h cs
    unfold rst at ih ⊢
    rw [List.filter_cons]
    by_cases hm : l ∈ c
    · have e : hol v c = true := List.any_eq_true.mpr ⟨l, hm, h⟩
      simp only [hm, not_true_eq_false, decide_false, Bool.false_eq_true, if_false, List.all_cons, e, Bool.true_and]
      exact ih
    · simp only [hm, not_false_eq_true, decide_true, if_true, List.map_cons, List.all_cons, hol_rstC hl h, ih]
theorem with_lit {n : Nat} {cs : List (List Int)} {l : Int} (hl : l ≠ 0) : (Mod n cs).filter (fun v => isT v l) = (Mod n (rst l cs)).filter fun v => isT v l := by
  unfold Mod
  rw [List.filter_filter, List.filter_filter]
  refine List.filter_congr fun v _ => ?_
  cases e : isT v l with
  | false => rfl
  | true => rw [all_rst hl e]
/-- the first that is broken -/
theorem brk_eq (v : List Bool) (cs : List (List Int)) : brk v cs = ((List.range cs.length).filter fun k => !hol v (cs.getD k [])).head? := by
  have e : cs.zipIdx = (List.range cs.length).map fun k => (cs.getD k [], k) := by
    refine List.ext_getElem (by simp) fun i h1 h2 => ?_
    simp at h1
    simp [List.getD_eq_getElem?_getD, h1]
  unfold brk
  rw [List.head?_filter, e, List.find?_map]
  show Option.map _ (Option.map _ (List.find? (fun k => !hol v (cs.getD k [])) (List.range cs.length))) = _
  cases List.find? (fun k => !hol v (cs.getD k [])) (List.range cs.length) <;> rfl
theorem brk_none (v : List Bool) (cs : List (List Int)) : (brk v cs).isNone = cs.all (hol v) := by
  unfold brk
  rw [Option.isNone_map, Bool.eq_iff_iff, Option.isNone_iff_eq_none, List.find?_eq_none, List.all_eq_true]
  constructor
  · intro h c hc
    obtain ⟨i, hi, rfl⟩ := List.getElem_of_mem hc
    have := h (cs[i], i) (List.mk_mem_zipIdx_iff_getElem?.mpr (List.getElem?_eq_getElem hi))
    simpa using this
  · intro h q hq
    simp [h q.1 (List.fst_mem_of_mem_zipIdx hq)]
theorem W_all : ∀ (n : Nat) (v : List Bool), v.length = n → v ∈ W n
  | 0, v, h => by rw [List.length_eq_zero_iff.mp h, W]; simp
  | n + 1, v, h => by
    have hne : v ≠ [] := by rintro rfl; simp at h
    rw [W, List.mem_flatMap]
    refine ⟨v.dropLast, W_all n _ (by simp [h]), ?_⟩
    have e := List.dropLast_concat_getLast hne
    simp only [two, List.mem_cons, List.not_mem_nil, or_false]
    cases hb : v.getLast hne
    · left; rw [hb] at e; exact e.symm
    · right; rw [hb] at e; exact e.symm
theorem mem_Mod {n : Nat} {cs : List (List Int)} {v : List Bool} (hv : v ∈ W n) : decide (v ∈ Mod n cs) = cs.all (hol v) := by
  unfold Mod
  rw [Bool.eq_iff_iff, decide_eq_true_eq, List.mem_filter]
  exact ⟨fun h => h.2, fun h => ⟨hv, h⟩⟩
/-! the tidied clauses -/
/-- j lies over k -/
def ovr (cs : List (List Int)) (k j : Nat) : Bool := decide (j ≠ k) && (hasAll (cs.getD k []) (cs.getD j []) && (decide (cs.getD j [] ≠ cs.getD k []) || decide (j < k)))
def over (cs : List (List Int)) (k : Nat) : List Nat := (List.range cs.length).filter (ovr cs k)
def kpt (cs : List (List Int)) (ks : List Nat) : List (List Int) := ks.flatMap fun k => if (over cs k).length = 0 then [cs.getD k []] else []
theorem over_iff {cs : List (List Int)} {k : Nat} (hk : k < cs.length) : (over cs k).length = 0 ↔ ahd cs (cs.getD k [], k) = [] ∧ bhd cs (cs.getD k [], k) = [] := by
  rw [List.length_eq_zero_iff]
  unfold over ahd bhd ovr
  rw [List.filter_eq_nil_iff, List.filter_eq_nil_iff, List.filter_eq_nil_iff]
  simp only [List.mem_range]
  have gd : ∀ j (hj : j < cs.length), cs.getD j [] = cs[j] := fun j hj => by rw [List.getD_eq_getElem?_getD, List.getElem?_eq_getElem hj]; rfl
  constructor
  · intro h
    constructor
    · intro o ho
      obtain ⟨j, hj, rfl⟩ := List.getElem_of_mem ho
      have hj' : j < k ∧ j < cs.length := by rw [List.length_take] at hj; omega
      have := h j hj'.2
      rw [gd j hj'.2] at this
      rw [List.getElem_take]
      intro hh
      apply this
      simp only [hh]
      simp; omega
    · intro o ho
      obtain ⟨j, hj, rfl⟩ := List.getElem_of_mem ho
      have hj' : k + 1 + j < cs.length := by rw [List.length_drop] at hj; omega
      have := h (k + 1 + j) (by omega)
      rw [gd (k + 1 + j) (by omega)] at this
      rw [List.getElem_drop]
      intro hh
      rw [Bool.and_eq_true, decide_eq_true_eq] at hh
      apply this
      simp only [hh.1]
      simp
      exact ⟨by omega, .inl hh.2⟩
  · rintro ⟨h1, h2⟩ j hj hh
    rw [Bool.and_eq_true, Bool.and_eq_true, Bool.or_eq_true, decide_eq_true_eq, decide_eq_true_eq, decide_eq_true_eq] at hh
    obtain ⟨hne, ha, hx⟩ := hh
    rw [gd j hj] at ha hx
    rcases Nat.lt_or_gt_of_ne hne with hlt | hgt
    · have hm : cs[j] ∈ cs.take k := List.mem_take_iff_getElem.mpr ⟨j, by omega, rfl⟩
      exact h1 _ hm ha
    · have hm : cs[j] ∈ cs.drop (k + 1) := List.mem_drop_iff_getElem.mpr ⟨j - (k + 1), by omega, by congr 1; omega⟩
      refine h2 _ hm ?_
      rw [Bool.and_eq_true, decide_eq_true_eq]
      exact ⟨ha, hx.resolve_right (by omega)⟩
theorem tdy_kpt (cs : List (List Int)) : tdy cs cs.zipIdx = kpt cs (List.range cs.length) := by
  have e : cs.zipIdx = (List.range cs.length).map fun k => (cs.getD k [], k) := by
    refine List.ext_getElem (by simp) fun i h1 h2 => ?_
    simp at h1
    simp [List.getD_eq_getElem?_getD, h1]
  unfold tdy kpt
  rw [e]
  have : ∀ ks : List Nat, (∀ k ∈ ks, k < cs.length) → ((ks.map fun k => (cs.getD k [], k)).filter fun q => decide (ahd cs q = [] ∧ bhd cs q = [])).map (·.1) = ks.flatMap fun k => if (over cs k).length = 0 then [cs.getD k []] else [] := by
    intro ks
    induction ks with
    | nil => intro _; rfl
    | cons k ks ih =>
      intro hk
      have h1 := over_iff (hk k (by simp))
      rw [List.map_cons, List.filter_cons, List.flatMap_cons, ← ih fun j hj => hk j (by simp [hj])]
      by_cases c : (over cs k).length = 0
      · rw [if_pos c, if_pos (by rw [decide_eq_true_eq]; exact h1.mp c)]; rfl
      · rw [if_neg c, if_neg (by rw [decide_eq_true_eq]; exact fun h => c (h1.mpr h))]; rfl
  exact this _ fun k hk => List.mem_range.mp hk
theorem hol_of_sub {v : List Bool} {c d : List Int} (hs : hasAll c d = true) (hd : hol v d = true) : hol v c = true := by
  obtain ⟨l, hl, e⟩ := List.any_eq_true.mp hd
  have := List.all_eq_true.mp hs l hl
  exact List.any_eq_true.mpr ⟨l, by simpa using this, e⟩
theorem sorted_sub : ∀ {c d : List Int}, c.Pairwise (· < ·) → d.Pairwise (· < ·) → (∀ x ∈ d, x ∈ c) → d.Sublist c
  | [], [], _, _, _ => .slnil
  | [], b :: d, _, _, h => by have := h b (by simp); simp at this
  | a :: c, [], _, _, _ => List.nil_sublist _
  | a :: c, b :: d, hc, hd, h => by
    have hc' := List.pairwise_cons.mp hc
    have hd' := List.pairwise_cons.mp hd
    by_cases e : b = a
    · subst e
      refine .cons₂ _ (sorted_sub hc'.2 hd'.2 fun x hx => ?_)
      have h1 := hd'.1 x hx
      rcases List.mem_cons.mp (h x (by simp [hx])) with h2 | h2
      · omega
      · exact h2
    · have hb : b ∈ c := (List.mem_cons.mp (h b (by simp))).resolve_left e
      have hab := hc'.1 b hb
      refine .cons _ (sorted_sub hc'.2 hd fun x hx => ?_)
      rcases List.mem_cons.mp (h x hx) with h2 | h2
      · rcases List.mem_cons.mp hx with h3 | h3
        · omega
        · have := hd'.1 x h3; omega
      · exact h2
theorem sub_list {c d : List Int} (hc : c.Pairwise (· < ·)) (hd : d.Pairwise (· < ·)) (hs : hasAll c d = true) : d.Sublist c := sorted_sub hc hd fun l hl => by simpa using List.all_eq_true.mp hs l hl
theorem kpt_all {n : Nat} {v : List Bool} {cs : List (List Int)} (hs : ∀ c ∈ cs, okS n c) : (kpt cs (List.range cs.length)).all (hol v) = cs.all (hol v) := by
  rw [Bool.eq_iff_iff, List.all_eq_true, List.all_eq_true]
  have gd : ∀ j (hj : j < cs.length), cs.getD j [] = cs[j] := fun j hj => by rw [List.getD_eq_getElem?_getD, List.getElem?_eq_getElem hj]; rfl
  constructor
  · intro h
    have main : ∀ (M k : Nat), k < cs.length → (cs.getD k []).length * (cs.length + 1) + k = M → hol v (cs.getD k []) = true := by
      intro M
      induction M using Nat.strongRecOn with
      | ind M ih =>
        intro k hk hM
        by_cases ho : (over cs k).length = 0
        · apply h
          unfold kpt
          exact List.mem_flatMap.mpr ⟨k, List.mem_range.mpr hk, by rw [if_pos ho]; simp⟩
        · obtain ⟨j, hj⟩ : ∃ j, j ∈ over cs k := List.exists_mem_of_length_pos (by omega)
          unfold over ovr at hj
          rw [List.mem_filter, Bool.and_eq_true, Bool.and_eq_true, Bool.or_eq_true, decide_eq_true_eq, decide_eq_true_eq, decide_eq_true_eq, List.mem_range] at hj
          obtain ⟨hjl, hne, ha, hx⟩ := hj
          have s1 := (hs _ (List.getElem_mem hk)).2
          have s2 := (hs _ (List.getElem_mem hjl)).2
          rw [← gd k hk] at s1
          rw [← gd j hjl] at s2
          have sl := sub_list s1 s2 ha
          have hle := sl.length_le
          refine hol_of_sub ha (ih _ ?_ j hjl rfl)
          rw [← hM]
          by_cases e : (cs.getD j []).length = (cs.getD k []).length
          · have ej := sl.eq_of_length e
            have := hx.resolve_left (fun h => h ej)
            rw [e]; omega
          · have : (cs.getD j []).length + 1 ≤ (cs.getD k []).length := by omega
            have := Nat.mul_le_mul_right (cs.length + 1) this
            rw [Nat.add_mul] at this
            omega
    intro c hc
    obtain ⟨k, hk, rfl⟩ := List.getElem_of_mem hc
    rw [← gd k hk]
    exact main _ k hk rfl
  · intro h c hc
    unfold kpt at hc
    obtain ⟨k, hk, e⟩ := List.mem_flatMap.mp hc
    have hk := List.mem_range.mp hk
    split at e
    · rw [List.mem_singleton.mp e, gd k hk]; exact h _ (List.getElem_mem hk)
    · simp at e
theorem mod_kpt {n : Nat} {cs : List (List Int)} (hs : ∀ c ∈ cs, okS n c) : Mod n (kpt cs (List.range cs.length)) = Mod n cs := by
  unfold Mod
  exact List.filter_congr fun v _ => kpt_all hs
end FL.L
set_option autoImplicit false
set_option linter.all false
set_option maxRecDepth 100000
set_option maxHeartbeats 4000000
namespace FL.L
open PySem FL
def sAt : FS → Nat → FS
  | .scons s _, 0 => s
  | .scons _ ss, n + 1 => sAt ss n
  | _, _ => .snil
theorem begin_ok2 {k : Nat} {ns : List Int} (hz : ns.length ≤ 63) : ∃ h st, Base 1 2 ns h ∧ h.length = 3 ∧ DrawSt 1 st ∧ [Cell.flst (ns.map .int)] = h.take 1 ∧ pg.call (k + 1) "_law_begin" [.loc 0] [.flst (ns.map .int)] = .ok (.loc 2) (h.set 2 (.lst st) ++ []) := by
  obtain ⟨st, hs, e⟩ := begin_ok (k := k) hz
  exact ⟨[.flst (ns.map .int), .lst (ns.map .int), .lst st], st, ⟨by simp, rfl, by decide⟩, rfl, hs, rfl, by rw [e]; rfl⟩
/-! ### the refused problems -/
def badL : List ((Int × List (List Int)) × Str) := [((0 - 1, []), "vars"), ((25, []), "vars"), ((2, List.replicate 201 [1]), "many"), ((2, [[2, 1]]), "clause"), ((2, [[1, 1]]), "clause"), ((2, [[0, 1]]), "clause")]
def badM : List ((Int × List (List Int)) × Str) := [((2, [[3]]), "clause"), ((2, [[0 - 3]]), "clause"), ((2, [[0 - 1, 1]]), "both")]
def badN : List ((Int × List (List Int)) × Str) := [((2, [[0 - 2, 0 - 1, 2], [2, 1]]), "both"), ((2, [[2, 1], [0 - 1, 1]]), "clause"), ((24, List.replicate 200 [0 - 24, 24 - 1]), ""), ((0, [[]]), ""), ((25, List.replicate 201 [1]), "vars")]
def enB (q : (Int × List (List Int)) × Str) : FL.D := .tup [pz q.1.1 q.1.2, .str q.2]
theorem enB_flat (q : (Int × List (List Int)) × Str) : (enB q).flat = true := by
  unfold enB
  simp only [flat_tup, flatL_cons, flat_int, flat_str, flatL_nil, csi_flat, Bool.and_self]
theorem bad_ok : ∀ q ∈ badL ++ badM ++ badN, (chkP q.1.1 q.1.2).getD "" = q.2 ∧ PyData.strOk q.2 = true ∧ ∀ c ∈ q.1.2, c.length ≤ 1000 := by decide +kernel
theorem s0_ok {k : Nat} {ns : List Int} (hz : ns.length ≤ 63) : ∃ h st, Base 1 2 ns h ∧ h.length = 3 ∧ DrawSt 1 st ∧ evS (pg.cfg (k + 1)) (sAt b_law 0) [some (.loc 0), none, none, none, none, none, none, none, none, none, none, none, none, none, none, none, none, none, none, none, none] [.flst (ns.map .int)] = .nx [some (.loc 0), some (.loc 2), none, none, none, none, none, none, none, none, none, none, none, none, none, none, none, none, none, none, none] (h.set 2 (.lst st) ++ []) := by
  obtain ⟨h, st, B, hl, hs, hp, e⟩ := begin_ok2 (k := k) hz
  refine ⟨h, st, B, hl, hs, ?_⟩
  have e2 : gcR [.flst (ns.map .int)] (.ok (.loc 2) (h.set 2 (.lst st) ++ [])) = .ok (.loc 2) (h.set 2 (.lst st) ++ []) := by
    have hl2 : h = h.take 1 ++ h.drop 1 := (List.take_append_drop 1 h).symm
    have e3 : h.set 2 (.lst st) ++ [] = [.flst (ns.map .int)] ++ (h.drop 1).set 1 (.lst st) := by
      rw [hp, List.append_nil]
      conv => lhs; rw [hl2]
      rw [List.set_append_right _ _ (by simp; omega)]
      congr 2
      simp [hl]
    rw [e3]
    obtain ⟨a, b, c, rfl, _, _⟩ := hs
    refine gcR_keep (c := .lst [.loc 1, .int a, .int b, .int c]) (by simp) ?_ (by simp [Cell.closed])
    rw [List.getElem?_append_right (by simp)]
    simp [hl]
  simp only [b_law, sAt]
  simp [e]
  simp at e2
  simp [e2]
theorem s1_ok {k : Nat} {H : Hs} : evS (pg.cfg k) (sAt b_law 1) [some (.loc 0), some (.loc 2), none, none, none, none, none, none, none, none, none, none, none, none, none, none, none, none, none, none, none] H = .nx [some (.loc 0), some (.loc 2), some (.loc H.length), none, none, none, none, none, none, none, none, none, none, none, none, none, none, none, none, none, none] (H ++ [.lst (badL.map enB)]) := by
  simp only [b_law, sAt]
  have e : repL [.tup [.int 1]] 201 = (List.replicate 201 [1]).map ci := by kernel_rfl
  simp [binD, e, size_big, newL]
  kernel_rfl
theorem ext_ok {H : Hs} {ds ls : List ((Int × List (List Int)) × Str)} (hz : ds.length + ls.length ≤ 1000) : gcR (H ++ [.lst (ds.map enB)]) (bmD .extend (.loc H.length) [.loc (H.length + 1)] (H ++ [.lst (ds.map enB), .lst (ls.map enB)])) = .ok .non (H ++ [.lst ((ds ++ ls).map enB)]) := by
  rw [extend_last (by simp [size_big]; omega) (flatL_map _ _ fun q _ => enB_flat q) (flatL_map _ _ fun q _ => enB_flat q), List.map_append]
theorem s2_ok {k : Nat} {H : Hs} : evS (pg.cfg k) (sAt b_law 2) [some (.loc 0), some (.loc 2), some (.loc H.length), none, none, none, none, none, none, none, none, none, none, none, none, none, none, none, none, none, none] (H ++ [.lst (badL.map enB)]) = .nx [some (.loc 0), some (.loc 2), some (.loc H.length), none, none, none, none, none, none, none, none, none, none, none, none, none, none, none, none, none, none] (H ++ [.lst ((badL ++ badM).map enB)]) := by
  have em := isLst_mid H [] (badL.map enB)
  have e : [FL.D.tup [.tup [.int 2, .tup [.tup [.int 3]]], .str "clause"], .tup [.tup [.int 2, .tup [.tup [.int (-3)]]], .str "clause"], .tup [.tup [.int 2, .tup [.tup [.int (-1), .int 1]]], .str "both"]] = badM.map enB := by kernel_rfl
  generalize hL : badL.map enB = L at em
  simp only [b_law, sAt]
  simp [em, size_big, newL]
  rw [e, ← hL, ext_ok (by decide)]
  simp
theorem s3_ok {k : Nat} {H : Hs} : evS (pg.cfg k) (sAt b_law 3) [some (.loc 0), some (.loc 2), some (.loc H.length), none, none, none, none, none, none, none, none, none, none, none, none, none, none, none, none, none, none] (H ++ [.lst ((badL ++ badM).map enB)]) = .nx [some (.loc 0), some (.loc 2), some (.loc H.length), none, none, none, none, none, none, none, none, none, none, none, none, none, none, none, none, none, none] (H ++ [.lst ((badL ++ badM ++ badN).map enB)]) := by
  have em := isLst_mid H [] ((badL ++ badM).map enB)
  have e3 : [FL.D.tup [.tup [.int 2, .tup [.tup [.int (-2), .int (-1), .int 2], .tup [.int 2, .int 1]]], .str "both"], .tup [.tup [.int 2, .tup [.tup [.int 2, .int 1], .tup [.int (-1), .int 1]]], .str "clause"], .tup [.tup [.int 24, .tup (repL [.tup [.int (-24), .int 23]] 200)], .str ""], .tup [.tup [.int 0, .tup [.tup []]], .str ""], .tup [.tup [.int 25, .tup (repL [.tup [.int 1]] 201)], .str "vars"]] = badN.map enB := by kernel_rfl
  generalize hL : (badL ++ badM).map enB = L at em
  simp only [b_law, sAt]
  simp [em, size_big, newL, binD]
  rw [e3, ← hL, ext_ok (by decide)]
  simp
theorem s4_ok {k : Nat} {H : Hs} : evS (pg.cfg (k + 3)) (sAt b_law 4) [some (.loc 0), some (.loc 2), some (.loc H.length), none, none, none, none, none, none, none, none, none, none, none, none, none, none, none, none, none, none] (H ++ [.lst ((badL ++ badM ++ badN).map enB)]) = .nx [some (.loc 0), some (.loc 2), some (.loc H.length), none, none, none, none, none, none, none, none, none, none, none, none, none, none, none, none, none, none] (H ++ [.lst ((badL ++ badM ++ badN).map enB)]) := by
  simp only [b_law, sAt]
  have hl : lstAt (H ++ [.lst ((badL ++ badM ++ badN).map enB)]) H.length = some ((badL ++ badM ++ badN).map enB) := lstAt_last _ _
  have hlen : (badL ++ badM ++ badN).length ≤ 1000 := by decide
  have hb := bad_ok
  generalize badL ++ badM ++ badN = bs at hl hlen hb
  simp [itemsD, placeD, hl]
  rw [any_b (fun _ => false)]
  · simp
  · intro q hq
    obtain ⟨h1, h2, h3⟩ := hb q hq
    simp [cstep, wipe, enB, code_ok h3, h1, eq_str h2]
  · exact cs_le hlen
end FL.L
set_option autoImplicit false
set_option linter.all false
set_option maxRecDepth 100000
set_option maxHeartbeats 4000000
namespace FL.L
open PySem FL
def okQ (n : Nat) (cs : List (List Int)) : Prop := 1 ≤ n ∧ n ≤ 6 ∧ (∀ c ∈ cs, okS n c ∧ c.length ≤ 4) ∧ cs.length ≤ 9
theorem okQ.p {n : Nat} {cs : List (List Int)} (h : okQ n cs) : okP n cs := ⟨by have := h.2.2.2; omega, fun c hc => ⟨(h.2.2.1 c hc).1.1, by have := (h.2.2.1 c hc).2; omega⟩⟩
section
variable {k n ml : Nat} {ns : List Int} {h g H : Hs} {st : List FL.D} {bd : FL.D} {cs : List (List Int)}
theorem s5_ok (B : Base 1 2 ns h) (hs : DrawSt 1 st) : ∃ n cs st', okQ n cs ∧ DrawSt 1 st' ∧ evS (pg.cfg (k + 3)) (sAt b_law 5) [some (.loc 0), some (.loc 2), some (bd), none, none, none, none, none, none, none, none, none, none, none, none, none, none, none, none, none, none] (h.set 2 (.lst st) ++ g) = .nx [some (.loc 0), some (.loc 2), some (bd), some (pi n cs), none, none, none, none, none, none, none, none, none, none, none, none, none, none, none, none, none] (h.set 2 (.lst st') ++ g) := by
  obtain ⟨n, cs, st', hs', h1, h2, h3, h4, e⟩ := problem_ok (k := k) (g := g) (count := 6) (many := 8) (most := 4) B hs (by omega) (by omega) (by omega) (by omega) (by omega)
  refine ⟨n, cs, st', ⟨h1, h2, h3, h4⟩, hs', ?_⟩
  have e : gcR (h.set 2 (.lst st) ++ g) (pg.call (k + 3) "_law_problem" [.loc 2, .int 6, .int 8, .int 4] (h.set 2 (.lst st) ++ g)) = .ok (pi n cs) (h.set 2 (.lst st') ++ g) := e
  simp only [b_law, sAt]
  simp [e]
theorem s6_ok : evS (pg.cfg k) (sAt b_law 6) [some (.loc 0), some (.loc 2), some (bd), some (pi n cs), none, none, none, none, none, none, none, none, none, none, none, none, none, none, none, none, none] H = .nx [some (.loc 0), some (.loc 2), some (bd), some (pi n cs), none, none, none, none, none, none, none, none, some (.int n), some (csi cs), none, none, none, none, none, none, none] H := by
  simp only [b_law, sAt]
  simp
theorem s7_ok (hq : okQ n cs) : evS (pg.cfg (k + 2)) (sAt b_law 7) [some (.loc 0), some (.loc 2), some (bd), some (pi n cs), none, none, none, none, none, none, none, none, some (.int n), some (csi cs), none, none, none, none, none, none, none] H = .nx [some (.loc 0), some (.loc 2), some (bd), some (pi n cs), some (.loc H.length), none, none, none, none, none, none, none, some (.int n), some (csi cs), none, none, none, none, none, none, none] (H ++ [.lst ((Mod n cs).map vi)]) := by
  simp only [b_law, sAt]
  simp [models_ok (show n ≤ 10 by have := hq.2.1; omega) hq.p]
  rw [gcR_new]
  simp
def wrg (v : List Bool) (cs : List (List Int)) : List Nat := (List.range cs.length).filter fun k => !hol v (cs.getD k [])
def bodyOf : FS → FS
  | .for_ _ _ b _ => b
  | _ => .snil
theorem eq_oi (H : Hs) (o : Option Nat) : eqD H (oi o) (oi o) = some true := by
  cases o with
  | some i => simp [oi]
  | none => simp [oi, eqD, SeqAt.shaped, PyData.canLay0, PyData.depth, PyData.eqv]
theorem b8_ok {v : List Bool} (hq : okQ n cs) (hv : v ∈ W n) (hm : lstAt H ml = some ((Mod n cs).map vi)) : ∃ ls1 g', stp (pg.cfg (k + 4)) (.name 5) (bodyOf (sAt b_law 8)) (vi v) [some (.loc 0), some (.loc 2), some (bd), some (pi n cs), some (.loc ml), none, none, none, none, none, none, none, some (.int n), some (csi cs), none, none, none, none, none, none, none] H = .nx ls1 (H ++ g') ∧ wipe ls1 [5, 14, 15] = [some (.loc 0), some (.loc 2), some (bd), some (pi n cs), some (.loc ml), none, none, none, none, none, none, none, some (.int n), some (csi cs), none, none, none, none, none, none, none] := by
  have hl := W_mem n v hv
  have hp := hq.p
  have hcs : cs.length ≤ 9 := hq.2.2.2
  have e2 : small (cs.length : Int) := by unfold small; omega
  have e3 : rangeD 0 (cs.length : Int) = (List.range cs.length).map fun k => FL.D.int (k : Nat) := rangeD_nat _
  refine ⟨[some (.loc 0), some (.loc 2), some (bd), some (pi n cs), some (.loc ml), some (vi v), none, none, none, none, none, none, some (.int n), some (csi cs), some (.loc H.length), some (.loc (H.length + 1)), none, none, none, none, none], [.lst (cs.map fun c => .bl (hol v c)), .lst ((wrg v cs).map fun k => FL.D.int (k : Nat)), .lst (cs.map fun c => .bl (hol v c))], ?_, by simp [wipe]⟩
  ·
    simp only [b_law, sAt, bodyOf]
    simp [stp, itemsD, placeD, e2, e3]
    rw [comp_l (fun c => .bl (hol v c))]
    · simp [e2, e3]
      rw [comp_lf (fun k => !hol v (cs.getD k [])) (fun k => FL.D.int (k : Nat))]
      · rw [show (List.range cs.length).filter (fun k => !hol v (cs.getD k [])) = wrg v cs from rfl]
        simp [itemsD, placeD]
        rw [comp_l (fun c => .bl (hol v c))]
        · have l1 : lstAt (H ++ [.lst (cs.map fun c => .bl (hol v c)), .lst ((wrg v cs).map fun k => FL.D.int (k : Nat)), .lst (cs.map fun c => .bl (hol v c))]) H.length = some ((cs.map (hol v)).map .bl) := lstAt_at (A := H) (B := [.lst ((wrg v cs).map fun k => FL.D.int (k : Nat)), .lst (cs.map fun c => .bl (hol v c))]) (by simp) rfl
          have l2 : lstAt (H ++ [.lst (cs.map fun c => .bl (hol v c)), .lst ((wrg v cs).map fun k => FL.D.int (k : Nat)), .lst (cs.map fun c => .bl (hol v c))]) (H.length + 1) = some ((wrg v cs).map fun k => FL.D.int (k : Nat)) := lstAt_at (A := H ++ [.lst (cs.map fun c => .bl (hol v c))]) (B := [.lst (cs.map fun c => .bl (hol v c))]) (by simp) (by simp)
          have l3 : lstAt (H ++ [.lst (cs.map fun c => .bl (hol v c)), .lst ((wrg v cs).map fun k => FL.D.int (k : Nat)), .lst (cs.map fun c => .bl (hol v c))]) (H.length + 2) = some ((cs.map (hol v)).map .bl) := lstAt_at (A := H ++ [.lst (cs.map fun c => .bl (hol v c)), .lst ((wrg v cs).map fun k => FL.D.int (k : Nat))]) (B := []) (by simp) (by simp)
          have lm : lstAt (H ++ [.lst (cs.map fun c => .bl (hol v c)), .lst ((wrg v cs).map fun k => FL.D.int (k : Nat)), .lst (cs.map fun c => .bl (hol v c))]) ml = some ((Mod n cs).map vi) := lstAt_grow hm
          simp
          generalize hG : H ++ [.lst (cs.map fun c => .bl (hol v c)), .lst ((wrg v cs).map fun k => FL.D.int (k : Nat)), .lst (cs.map fun c => .bl (hol v c))] = G at l1 l2 l3 lm
          have hb : gcR G (pg.call (k + 4) "broken" [pi n cs, vi v] G) = .ok (oi (brk v cs)) G := by
            rw [broken_ok (by rw [hl]; exact hp)]
            cases brk v cs <;> simp [oi]
          have m1 : pg.call (k + 4) "is_model" [pi n cs, vi v] G = .ok (.bl ((brk v cs).isNone)) G := by
            rw [is_model_ok hp, decide_eq_true hl]; rfl
          have m2 : pg.call (k + 4) "is_model" [pi n cs, vi (v ++ [true])] G = .ok (.bl false) G := by
            rw [is_model_ok hp, decide_eq_false (by simp; omega)]; rfl
          have m3 : pg.call (k + 4) "is_model" [pi n cs, vi (v.drop 1)] G = .ok (.bl false) G := by
            rw [is_model_ok hp, decide_eq_false (by have := hq.1; simp; omega)]; rfl
          have q1 := Eqq.bl.eq_loc (by decide) l1 l3
          have q2 := (Eqq.tup Eqq.bl).in_loc (by decide) v lm
          have q2 : inD G (.tup (v.map .bl)) (.loc ml) = some (brk v cs).isNone := by
            rw [brk_none, ← mem_Mod hv]
            refine q2.trans ?_
            congr
          have hw : brk v cs = (wrg v cs).head? := brk_eq v cs
          generalize wrg v cs = wr at l2 hw
          have l2' : btD .len [.loc (H.length + 1)] G = .ok (.int wr.length) G := by rw [len_of l2]; simp
          have c1 : cut (v.map FL.D.bl) (some 1) none = (v.drop 1).map .bl := by rw [cut_map]; exact congrArg _ (cut_drop v 1)
          have m2' : pg.call (k + 4) "is_model" [pi n cs, .tup (v.map FL.D.bl ++ [.bl true])] G = .ok (.bl false) G := by
            have e : vi (v ++ [true]) = .tup (v.map .bl ++ [.bl true]) := by
              show FL.D.tup ((v ++ [true]).map .bl) = _
              rw [List.map_append]; rfl
            rw [← e]; exact m2
          have m3' : pg.call (k + 4) "is_model" [pi n cs, .tup (v.map FL.D.bl).tail] G = .ok (.bl false) G := by
            rw [show (v.map FL.D.bl).tail = (v.drop 1).map FL.D.bl by simp]; exact m3
          have hvz : v.length + 1 ≤ 16777216 := by have := hq.2.1; omega
          have q0 : eqD G .non .non = some true := eq_oi G none
          have z1 : (1 : Nat) ≤ 16777216 := by omega
          rw [hw] at hb m1 q2
          cases wr with
          | nil =>
            simp only [List.head?_nil, Option.isNone_none, oi] at hb m1 q2
            simp [q1, hb, l2', q0, m1, q2, m2', m3', c1, size_big, hvz]
          | cons a r =>
            have ia : idxD (.loc (H.length + 1)) (.int 0) G = .ok (.int a) G := by rw [idx_of l2]; simp
            simp only [List.head?_cons, Option.isNone_some, oi] at hb m1 q2
            simp [q1, hb, l2', ia, m1, q2, m2', m3', c1, size_big, hvz]
        · intro c hc
          have := hp.2 c hc
          rw [← hl] at this
          simp [cstep, wipe, lholds_ok this.1 this.2]
        · exact cs_le (by omega)
      · intro i hi
        have hi := List.mem_range.mp hi
        have eg : cs.getD i [] = cs[i] := by rw [List.getD_eq_getElem?_getD, List.getElem?_eq_getElem hi]; rfl
        have := hp.2 cs[i] (List.getElem_mem hi)
        rw [← hl] at this
        have ei : L2.atI (cs.map ci) (i : Int) = some (ci cs[i]) := by rw [atI_nat, List.getElem?_map, List.getElem?_eq_getElem hi]; rfl
        rw [eg]
        simp [cstep, wipe, ei, lholds_ok this.1 this.2]
        cases hol v cs[i] <;> simp
      · exact cs_le (by simp; omega)
    · intro c hc
      have := hp.2 c hc
      rw [← hl] at this
      simp [cstep, wipe, holds_ok this.1 this.2]
    · exact cs_le (by omega)
theorem s8_ok (B : Base 1 2 ns h) (hs : DrawSt 1 st) (hq : okQ n cs) (hm : lstAt (h.set 2 (.lst st) ++ g) ml = some ((Mod n cs).map vi)) (hml : ml ≠ 2) : ∃ st' g', DrawSt 1 st' ∧ evS (pg.cfg (k + 4)) (sAt b_law 8) [some (.loc 0), some (.loc 2), some (bd), some (pi n cs), some (.loc ml), none, none, none, none, none, none, none, some (.int n), some (csi cs), none, none, none, none, none, none, none] (h.set 2 (.lst st) ++ g) = .nx [some (.loc 0), some (.loc 2), some (bd), some (pi n cs), some (.loc ml), none, none, none, none, none, none, none, some (.int n), some (csi cs), none, none, none, none, none, none, none] (h.set 2 (.lst st') ++ (g ++ g')) := by
  have hb := fun v H => b8_ok (k := k) (n := n) (ml := ml) (bd := bd) (cs := cs) (v := v) (H := H) hq
  simp only [b_law, sAt, bodyOf] at hb ⊢
  have e2 : small 4 := by unfold small; omega
  have e3 : rangeD 0 4 = (List.range 4).map fun k => FL.D.int (k : Nat) := rangeD_nat 4
  have hw := fun H => worlds_ok (k := k + 3) (n := n) (h := H) (by have := hq.2.1; omega)
  have hW : (W n).length ≤ 64 := by rw [W_len]; exact Nat.pow_le_pow_right (by omega) (show n ≤ 6 from hq.2.1)
  have hW0 : 0 < (W n).length := by rw [W_len]; exact Nat.pow_pos (by omega)
  simp [e2, e3, -List.map_cons]
  generalize hr : compL _ _ _ _ _ = q
  obtain ⟨ys, h1, rfl, st', vs, hs', hv, rfl, hl, rfl⟩ := comp_then (fun ds acc h' => ∃ st' vs, DrawSt 1 st' ∧ (∀ v ∈ vs, v ∈ W n) ∧ acc = vs.map vi ∧ vs.length ≤ ds.length ∧ h' = h.set 2 (.lst st') ++ g) hr ⟨st, [], hs, by simp, rfl, by simp, rfl⟩ (by
    rintro x ds rest _ _ ⟨st', vs, hs', hv, rfl, hl, rfl⟩ hx
    obtain ⟨v, hvW, st2, hs2, e⟩ := pick_ok (k := k + 2) (en := vi) (xs := W n) (h := h.set 2 (.lst st') ++ g ++ [.lst ((W n).map vi)]) (menu := .loc (h.set 2 (.lst st') ++ g).length) (by rw [List.append_assoc]; exact B.at_n _ _) (by rw [List.append_assoc]; exact B.at_m _ _) hs' (by simp only [itemsD]; exact lstAt_last _ _) (by have := B.hn; simp; omega) hW0 (by omega) (fun v _ => vi_flat v)
    have e1 : gcR (h.set 2 (.lst st') ++ g) (pg.call (k + 4) "_law_worlds" [.int n] (h.set 2 (.lst st') ++ g)) = .ok (.loc (h.set 2 (.lst st') ++ g).length) (h.set 2 (.lst st') ++ g ++ [.lst ((W n).map vi)]) := by rw [hw]; exact gcR_new
    rw [List.append_assoc, B.set_n] at e
    have e3 := B.gcD (st := st') (g := g) (x := [.lst ((W n).map vi)]) hs2 (flat_closed _ _ (vi_flat v))
    refine ⟨some (vi v), h.set 2 (.lst st2) ++ g, ?_, same_t _ _, st2, vs ++ [v], hs2, ?_, by simp, by simp; omega, rfl⟩
    · simp at e1 e e3
      simp [cstep, wipe, e1, e, e3]
    · intro w hw
      rcases List.mem_append.mp hw with hw | hw
      · exact hv w hw
      · rw [List.mem_singleton.mp hw]; exact hvW)
  simp at hl
  have hz : vs.length ≤ sizeLine := by rw [size_big]; omega
  refine ⟨st', hs', ?_⟩
  have hlast : lstAt (h.set 2 (.lst st') ++ (g ++ [.lst (vs.map vi)])) (h.length + g.length) = some (vs.map vi) := lstAt_at (A := h.set 2 (.lst st') ++ g) (B := []) (by simp) (by simp)
  simp [hz, itemsD, placeD, hlast]
  generalize hr2 : forL _ _ _ _ _ _ _ = q2
  have hmg : ∀ x, lstAt (h.set 2 (.lst st') ++ (g ++ x)) ml = some ((Mod n cs).map vi) := fun x => by
    have : lstAt (h.set 2 (.lst st') ++ g) ml = some ((Mod n cs).map vi) := by
      have hlt : ml < h.length + g.length := by simpa using lt_of_lstAt hm
      unfold lstAt at hm ⊢
      by_cases c : ml < h.length
      · rw [List.getElem?_append_left (by simpa using c), List.getElem?_set_ne (Ne.symm hml)] at hm ⊢; exact hm
      · rw [List.getElem?_append_right (by simp; omega)] at hm ⊢; simpa using hm
    rw [← List.append_assoc]; exact lstAt_grow this
  obtain ⟨ls1, h1, rfl, rfl, g', rfl⟩ := for_then (fun ds ls h' => ls = [some (.loc 0), some (.loc 2), some (bd), some (pi n cs), some (.loc ml), none, none, none, none, none, none, none, some (.int n), some (csi cs), none, none, none, none, none, none, none] ∧ ∃ g', h' = h.set 2 (.lst st') ++ (g ++ [.lst (vs.map vi)] ++ g')) hr2 ⟨rfl, [], by simp⟩ (by
    rintro v ds rest _ _ ⟨rfl, g', rfl⟩ hx
    obtain ⟨ls1, g2, e, w⟩ := hb v (h.set 2 (.lst st') ++ (g ++ [.lst (vs.map vi)] ++ g')) (hv v (by rw [hx]; simp)) (by rw [List.append_assoc]; exact hmg _)
    refine ⟨ls1, _, e, ?_, w, g' ++ g2, by simp⟩
    intro i hi
    rw [List.mem_singleton.mp hi]
    have e1 : h.length + g.length < (h.set 2 (.lst st') ++ (g ++ [Cell.lst (vs.map vi)])).length := by simp
    rw [show h.set 2 (.lst st') ++ (g ++ [.lst (vs.map vi)] ++ g') ++ g2 = (h.set 2 (.lst st') ++ (g ++ [Cell.lst (vs.map vi)])) ++ (g' ++ g2) by simp, List.getElem?_append_left e1])
  refine ⟨[.lst (vs.map vi)] ++ g', by simp⟩
end
end FL.L
set_option autoImplicit false
set_option linter.all false
set_option maxRecDepth 100000
set_option maxHeartbeats 4000000
namespace FL.L
open PySem FL
theorem eq_pi (H : Hs) (n : Int) (a b : List (List Int)) : eqD H (.tup [.int n, .tup (a.map ci)]) (.tup [.int n, .tup (b.map ci)]) = some (decide (a = b)) := by
  have := (Eqq.pair Eqq.int (Eqq.tup EC)).eq (by decide) H (n, a) (n, b)
  refine this.trans ?_
  congr 1
  rw [decide_eq_decide]
  simp
theorem rst_len (l : Int) (cs : List (List Int)) : (rst l cs).length ≤ cs.length := by unfold rst; rw [List.length_map]; exact List.length_filter_le _ _
theorem rst_ok {n : Nat} {l : Int} {cs : List (List Int)} (h : okP n cs) : okP n (rst l cs) := by
  refine ⟨by have := rst_len l cs; have := h.1; omega, fun c hc => ?_⟩
  unfold rst at hc
  obtain ⟨d, hd, rfl⟩ := List.mem_map.mp hc
  have := h.2 d (List.mem_filter.mp hd).1
  exact ⟨fun x hx => this.1 x (List.mem_filter.mp hx).1, by have := List.length_filter_le (fun x => decide (x ≠ -l)) d; unfold rstC; omega⟩
section
variable {k n ml wl mo : Nat} {ns : List Int} {h g H : Hs} {st : List FL.D} {bd : FL.D} {cs : List (List Int)} {l : Int}
theorem s9_ok (B : Base 1 2 ns h) (hs : DrawSt 1 st) (hq : okQ n cs) : ∃ l st', 1 ≤ l.natAbs ∧ l.natAbs ≤ n ∧ DrawSt 1 st' ∧ evS (pg.cfg (k + 2)) (sAt b_law 9) [some (.loc 0), some (.loc 2), some (bd), some (pi n cs), some (.loc ml), none, none, none, none, none, none, none, some (.int n), some (csi cs), none, none, none, none, none, none, none] (h.set 2 (.lst st) ++ g) = .nx [some (.loc 0), some (.loc 2), some (bd), some (pi n cs), some (.loc ml), none, some (.int l), none, none, none, none, none, some (.int n), some (csi cs), none, none, none, none, none, none, none] (h.set 2 (.lst st') ++ g) := by
  obtain ⟨x, hx, st1, hs1, e⟩ := pick_ok (k := k) (en := FL.D.int) (xs := [1, -1]) (h := h.set 2 (.lst st) ++ g ++ [.lst [.int 1, .int (-1)]]) (menu := .loc (h.set 2 (.lst st) ++ g).length) (by rw [List.append_assoc]; exact B.at_n _ _) (by rw [List.append_assoc]; exact B.at_m _ _) hs (by simp only [itemsD]; exact lstAt_last _ _) (by have := B.hn; simp; omega) (by simp) (by simp) (fun v _ => rfl)
  rw [List.append_assoc, B.set_n] at e
  have e3 := B.gcD (st := st) (g := g) (x := [.lst [.int 1, .int (-1)]]) (d := .int x) hs1 rfl
  obtain ⟨r, st2, r0, r1, hs2, e2⟩ := B.take (k := k + 1) g hs1 n (by have := hq.1; omega) (by have := hq.2.1; omega)
  have hx : x = 1 ∨ x = -1 := by simpa using hx
  have hm : mulOk x (1 + r) := .inl (by rcases hx with rfl | rfl <;> omega)
  refine ⟨x * (1 + r), st2, by rcases hx with rfl | rfl <;> omega, by rcases hx with rfl | rfl <;> omega, hs2, ?_⟩
  simp only [b_law, sAt]
  simp at e
  simp [size_big, newL, e, e3, e2, hm]
theorem s10_ok (hq : okQ n cs) : evS (pg.cfg k) (sAt b_law 10) [some (.loc 0), some (.loc 2), some (bd), some (pi n cs), some (.loc ml), none, some (.int l), none, none, none, none, none, some (.int n), some (csi cs), none, none, none, none, none, none, none] H = .nx [some (.loc 0), some (.loc 2), some (bd), some (pi n cs), some (.loc ml), none, some (.int l), some (csi (rst l cs)), none, none, none, none, some (.int n), some (csi cs), none, none, none, none, none, none, none] H := by
  have hp := hq.p
  simp only [b_law, sAt]
  simp [itemsD, placeD]
  rw [tuple_bf (fun c => decide (l ∉ c)) (fun c => ci (rstC l c))]
  · simp [rst]
  · intro c hc
    by_cases hm : l ∈ c
    · simp [cstep, wipe, hm]
    · simp [cstep, wipe, hm, itemsD, placeD]
      rw [tuple_bf (fun x => decide (x ≠ -l)) .int]
      · simp [rstC]
      · intro x hx
        by_cases e : x = -l <;> simp [cstep, wipe, e]
      · intro _ _; rfl
      · exact cs_le (hp.2 c hc).2
  · intro c _; exact ci_flat _
  · exact cs_le hp.1
theorem s11_ok (hq : okQ n cs) : evS (pg.cfg (k + 2)) (sAt b_law 11) [some (.loc 0), some (.loc 2), some (bd), some (pi n cs), some (.loc ml), none, some (.int l), some (csi (rst l cs)), none, none, none, none, some (.int n), some (csi cs), none, none, none, none, none, none, none] H = .nx [some (.loc 0), some (.loc 2), some (bd), some (pi n cs), some (.loc ml), none, some (.int l), some (csi (rst l cs)), none, none, none, none, some (.int n), some (csi cs), none, none, none, none, none, none, none] H := by
  have hp := hq.p
  simp only [b_law, sAt]
  have e := restricted_ok (k := k) (n := n) (h := H) (cs := cs) (l := l) hp.1 fun c hc => (hp.2 c hc).2
  have hf : D.flat (.tup [.int n, .tup ((rst l cs).map ci)]) = true := by simp only [flat_tup, flatL_cons, flat_int, flatL_nil, csi_flat, Bool.and_self]
  simp [e, gcR_flat0 hf, size_big, eq_pi]
theorem s12_ok (hq : okQ n cs) (hl : 1 ≤ l.natAbs ∧ l.natAbs ≤ n) (hm : lstAt H ml = some ((Mod n cs).map vi)) : evS (pg.cfg k) (sAt b_law 12) [some (.loc 0), some (.loc 2), some (bd), some (pi n cs), some (.loc ml), none, some (.int l), some (csi (rst l cs)), none, none, none, none, some (.int n), some (csi cs), none, none, none, none, none, none, none] H = .nx [some (.loc 0), some (.loc 2), some (bd), some (pi n cs), some (.loc ml), none, some (.int l), some (csi (rst l cs)), some (.loc H.length), none, none, none, some (.int n), some (csi cs), none, none, none, none, none, none, none] (H ++ [.lst (((Mod n cs).filter fun v => isT v l).map vi)]) := by
  simp only [b_law, sAt]
  simp [itemsD, placeD, hm]
  rw [comp_lf (fun v => isT v l) vi]
  · simp
  · intro v hv
    have hv2 : v.length = n := W_mem n v (List.mem_filter.mp hv).1
    simp [cstep, wipe, abs_nat, at_abs (v := v) (l := l) (by omega), isT]
    split <;> rfl
  · have : (Mod n cs).length ≤ (W n).length := List.length_filter_le _ _
    have h2 : (W n).length ≤ 64 := by rw [W_len]; exact Nat.pow_le_pow_right (by omega) (show n ≤ 6 from hq.2.1)
    exact cs_le (by omega)
theorem s13_ok (hq : okQ n cs) (hl : 1 ≤ l.natAbs ∧ l.natAbs ≤ n) (hw : lstAt H wl = some (((Mod n cs).filter fun v => isT v l).map vi)) : ∃ g', evS (pg.cfg (k + 2)) (sAt b_law 13) [some (.loc 0), some (.loc 2), some (bd), some (pi n cs), some (.loc ml), none, some (.int l), some (csi (rst l cs)), some (.loc wl), none, none, none, some (.int n), some (csi cs), none, none, none, none, none, none, none] H = .nx [some (.loc 0), some (.loc 2), some (bd), some (pi n cs), some (.loc ml), none, some (.int l), some (csi (rst l cs)), some (.loc wl), none, none, none, some (.int n), some (csi cs), none, none, none, none, none, none, none] (H ++ g') := by
  refine ⟨[.lst ((Mod n (rst l cs)).map vi), .lst (((Mod n (rst l cs)).filter fun v => isT v l).map vi)], ?_⟩
  simp only [b_law, sAt]
  have e := models_ok (k := k) (n := n) (h := H) (cs := rst l cs) (by have := hq.2.1; omega) (rst_ok hq.p)
  simp [cs_le (show 2 ≤ 1000 by omega), e]
  rw [gcR_new]
  have hlast := lstAt_last H ((Mod n (rst l cs)).map vi)
  simp [itemsD, placeD, hlast]
  rw [comp_lf (fun v => isT v l) vi]
  · have l1 : lstAt (H ++ [.lst ((Mod n (rst l cs)).map vi), .lst (((Mod n (rst l cs)).filter fun v => isT v l).map vi)]) wl = some (((Mod n cs).filter fun v => isT v l).map vi) := lstAt_grow hw
    have l2 : lstAt (H ++ [.lst ((Mod n (rst l cs)).map vi), .lst (((Mod n (rst l cs)).filter fun v => isT v l).map vi)]) (H.length + 1) = some (((Mod n (rst l cs)).filter fun v => isT v l).map vi) := lstAt_at (A := H ++ [.lst ((Mod n (rst l cs)).map vi)]) (B := []) (by simp) (by simp)
    have q := (Eqq.tup Eqq.bl).eq_loc (by decide) l1 l2
    rw [decide_eq_true (with_lit (n := n) (cs := cs) (l := l) (by omega))] at q
    simp [q]
  · intro v hv
    have hv2 : v.length = n := W_mem n v (List.mem_filter.mp hv).1
    simp [cstep, wipe, abs_nat, at_abs (v := v) (l := l) (by omega), isT]
    split <;> rfl
  · have : (Mod n (rst l cs)).length ≤ (W n).length := List.length_filter_le _ _
    have h2 : (W n).length ≤ 64 := by rw [W_len]; exact Nat.pow_le_pow_right (by omega) (show n ≤ 6 from hq.2.1)
    exact cs_le (by omega)
theorem s14_ok (B : Base 1 2 ns h) (hs : DrawSt 1 st) (hq : okQ n cs) : ∃ (ds : List (List Int)) (st' : List FL.D), ds.length ≤ 3 ∧ DrawSt 1 st' ∧ evS (pg.cfg (k + 3)) (sAt b_law 14) [some (.loc 0), some (.loc 2), some (bd), some (pi n cs), some (.loc ml), none, some (.int l), some (csi (rst l cs)), some (.loc wl), none, none, none, some (.int n), some (csi cs), none, none, none, none, none, none, none] (h.set 2 (.lst st) ++ g) = .nx [some (.loc 0), some (.loc 2), some (bd), some (pi n cs), some (.loc ml), none, some (.int l), some (csi (rst l cs)), some (.loc wl), some (.loc (h.length + g.length)), none, none, some (.int n), some (csi cs), none, none, none, none, none, none, none] (h.set 2 (.lst st') ++ g ++ [.lst (ds.map ci)]) := by
  obtain ⟨r, st2, r0, r1, hs2, e2⟩ := B.take (k := k + 2) g hs 3 (by omega) (by omega)
  have e3 : small r := by unfold small; omega
  have e4 : rangeD 0 r = (List.range r.toNat).map fun k => FL.D.int (k : Nat) := by rw [← rangeD_nat]; congr 1; omega
  simp only [b_law, sAt]
  simp [e2, e3, e4]
  generalize hr : compL _ _ _ _ _ = q
  obtain ⟨ys, h1, rfl, st3, ds, hs3, rfl, hl, rfl⟩ := comp_then (fun es acc h' => ∃ (st' : List FL.D) (ds : List (List Int)), DrawSt 1 st' ∧ acc = ds.map ci ∧ ds.length ≤ es.length ∧ h' = h.set 2 (.lst st') ++ g) hr ⟨st2, [], hs2, rfl, by simp, rfl⟩ (by
    rintro x es rest _ _ ⟨st3, ds, hs3, rfl, hl, rfl⟩ hx
    obtain ⟨c, st4, hs4, okc, lc, ec⟩ := clause_ok (k := k + 1) (g := g) (count := n) (most := 3) B hs3 (by have := hq.1; omega) (by have := hq.2.1; omega) (by omega) (by omega)
    have ec : gcR (h.set 2 (.lst st3) ++ g) (pg.call (k + 3) "_law_clause" [.loc 2, .int n, .int 3] (h.set 2 (.lst st3) ++ g)) = .ok (ci c) (h.set 2 (.lst st4) ++ g) := ec
    exact ⟨some (ci c), h.set 2 (.lst st4) ++ g, by simp [cstep, wipe, ec], same_t _ _, st4, ds ++ [c], hs4, by simp, by simp; omega, rfl⟩)
  simp at hl
  have hz : ds.length ≤ sizeLine := by rw [size_big]; omega
  exact ⟨ds, by omega, st3, hs3, by simp [hz, newL]⟩
theorem s15_ok (hq : okQ n cs) {ds : List (List Int)} (hd : ds.length ≤ 3) (hm : lstAt H mo = some (ds.map ci)) : evS (pg.cfg (k + 1)) (sAt b_law 15) [some (.loc 0), some (.loc 2), some (bd), some (pi n cs), some (.loc ml), none, some (.int l), some (csi (rst l cs)), some (.loc wl), some (.loc mo), none, none, some (.int n), some (csi cs), none, none, none, none, none, none, none] H = .nx [some (.loc 0), some (.loc 2), some (bd), some (pi n cs), some (.loc ml), none, some (.int l), some (csi (rst l cs)), some (.loc wl), some (.loc mo), none, none, some (.int n), some (csi cs), none, none, none, none, none, none, none] H := by
  have hc := hq.2.2.2
  have e := added_ok (k := k) (n := n) (h := H) (cs := cs) (ds := ds) hm (by omega)
  simp only [b_law, sAt]
  have hf : D.flat (.tup [.int n, .tup ((cs ++ ds).map ci)]) = true := by simp only [flat_tup, flatL_cons, flat_int, flatL_nil, csi_flat, Bool.and_self]
  have e1 : gcR H (pg.call (k + 1) "added" [pi n cs, .loc mo] H) = .ok (.tup [.int n, .tup ((cs ++ ds).map ci)]) H := by rw [e, gcR_flat0 hf]
  have e2 : gcR H (btD .tuple [.loc mo] H) = .ok (csi ds) H := by rw [bt_tupleL hm, gcR_flat0 (by rw [flat_tup]; exact csi_flat _)]
  have q := eq_pi H n (cs ++ ds) (cs ++ ds)
  rw [List.map_append] at e1 q
  simp [e1, e2, size_big, show cs.length + ds.length ≤ 16777216 by omega, q]
end
end FL.L
set_option autoImplicit false
set_option linter.all false
set_option maxRecDepth 100000
set_option maxHeartbeats 4000000
namespace FL.L
open PySem FL
theorem extend_mid {A B : Hs} {k : Nat} {xs ys : List FL.D} (hk : k = A.length + (B.length + 1)) (hz : xs.length + ys.length ≤ sizeLine) (hx : D.flatL xs = true) (hy : D.flatL ys = true) : gcR (A ++ .lst xs :: B) (bmD .extend (.loc A.length) [.loc k] (A ++ .lst xs :: (B ++ [.lst ys]))) = .ok .non (A ++ .lst (xs ++ ys) :: B) := by
  have e1 : (A ++ Cell.lst xs :: (B ++ [.lst ys]))[A.length]? = some (.lst xs) := get_mid A _ (.lst xs)
  have e2 : mlstAt (A ++ Cell.lst xs :: (B ++ [.lst ys])) k = some ys := mlstAt_of (by
    rw [show A ++ Cell.lst xs :: (B ++ [.lst ys]) = (A ++ Cell.lst xs :: B) ++ [.lst ys] by simp, hk, List.getElem?_append_right (by simp)]
    simp)
  have e3 : bmD .extend (.loc A.length) [.loc k] (A ++ Cell.lst xs :: (B ++ [.lst ys])) = .ok .non (A ++ .lst (xs ++ ys) :: (B ++ [.lst ys])) := by
    unfold bmD
    simp only [e1, e2]
    rw [if_pos hz, set_mid]
  have e4 : A ++ Cell.lst (xs ++ ys) :: (B ++ [.lst ys]) = (A ++ Cell.lst xs :: B).set A.length (.lst (xs ++ ys)) ++ [.lst ys] := by rw [set_mid]; simp
  rw [e3, e4, gcR_setApp (by simp) (by simp only [Cell.closed]; exact flatL_closed _ _ (flatL_app _ _ hx hy)) rfl, set_mid]
section
variable {k n ml wl mo : Nat} {ns : List Int} {h g H : Hs} {st : List FL.D} {bd : FL.D} {cs : List (List Int)} {l : Int}
theorem s16_ok : evS (pg.cfg k) (sAt b_law 16) [some (.loc 0), some (.loc 2), some (bd), some (pi n cs), some (.loc ml), none, some (.int l), some (csi (rst l cs)), some (.loc wl), some (.loc mo), none, none, some (.int n), some (csi cs), none, none, none, none, none, none, none] H = .nx [some (.loc 0), some (.loc 2), some (bd), some (pi n cs), some (.loc ml), none, some (.int l), some (csi (rst l cs)), some (.loc wl), some (.loc mo), some (.loc H.length), none, some (.int n), some (csi cs), none, none, none, none, none, none, none] (H ++ [.lst []]) := by
  simp only [b_law, sAt]
  simp [newL]
theorem s17_ok (hq : okQ n cs) : ∃ g', evS (pg.cfg (k + 2)) (sAt b_law 17) [some (.loc 0), some (.loc 2), some (bd), some (pi n cs), some (.loc ml), none, some (.int l), some (csi (rst l cs)), some (.loc wl), some (.loc mo), some (.loc H.length), none, some (.int n), some (csi cs), none, none, none, none, none, none, none] (H ++ [.lst []]) = .nx [some (.loc 0), some (.loc 2), some (bd), some (pi n cs), some (.loc ml), none, some (.int l), some (csi (rst l cs)), some (.loc wl), some (.loc mo), some (.loc H.length), none, some (.int n), some (csi cs), none, none, none, none, none, none, none] (H ++ (.lst ((kpt cs (List.range cs.length)).map ci) :: g')) := by
  have hp := hq.p
  have hcs : cs.length ≤ 9 := hq.2.2.2
  have e2 : small (cs.length : Int) := by unfold small; omega
  have e3 : rangeD 0 (cs.length : Int) = (List.range cs.length).map fun k => FL.D.int (k : Nat) := rangeD_nat _
  have gi : ∀ i, i < cs.length → L2.atI (cs.map ci) (i : Int) = some (ci (cs.getD i [])) := fun i hi => by
    rw [atI_nat, List.getElem?_map, List.getD_eq_getElem?_getD, List.getElem?_eq_getElem hi]; rfl
  have gl : ∀ i, i < cs.length → (cs.getD i []).length ≤ 1000 := fun i hi => by
    rw [List.getD_eq_getElem?_getD, List.getElem?_eq_getElem hi]; exact (hp.2 _ (List.getElem_mem hi)).2
  refine ⟨(List.range cs.length).map fun i => .lst ((over cs i).map fun j => FL.D.int (j : Nat)), ?_⟩
  simp only [b_law, sAt]
  simp [e2, e3]
  rw [for_fn0 (fun _ => [some (.loc 0), some (.loc 2), some (bd), some (pi n cs), some (.loc ml), none, some (.int l), some (csi (rst l cs)), some (.loc wl), some (.loc mo), some (.loc H.length), none, some (.int n), some (csi cs), none, none, none, none, none, none, none]) (fun es => H ++ (.lst ((kpt cs es).map ci) :: es.map fun i => .lst ((over cs i).map fun j => FL.D.int (j : Nat)))) (by rfl) (by rfl)]
  · intro es i rest e
    have hi : i < cs.length := by
      have : i ∈ List.range cs.length := by rw [e]; simp
      exact List.mem_range.mp this
    have hes : es.length < 9 := by have := congrArg List.length e; simp at this; omega
    have hk : (kpt cs es).length ≤ es.length := by
      unfold kpt
      clear e hes
      induction es with
      | nil => simp
      | cons a es ih =>
        rw [List.flatMap_cons, List.length_append, List.length_cons]
        split
        · rw [List.length_singleton]; omega
        · rw [List.length_nil]; omega
    refine ⟨[some (.loc 0), some (.loc 2), some (bd), some (pi n cs), some (.loc ml), none, some (.int l), some (csi (rst l cs)), some (.loc wl), some (.loc mo), some (.loc H.length), some (.int i), some (.int n), some (csi cs), none, none, some (.loc (H.length + (es.length + 1))), none, none, none, none], ?_, same_t _ _, by simp [wipe]⟩
    generalize hg : (es.map fun i => Cell.lst ((over cs i).map fun j => FL.D.int (j : Nat))) = g
    have hgl : g.length = es.length := by rw [← hg]; simp
    rw [← hgl]
    simp [stp, e2, e3]
    rw [comp_lf (ovr cs i) (fun j => FL.D.int (j : Nat))]
    · rw [show (List.range cs.length).filter (ovr cs i) = over cs i from rfl]
      have lo : lstAt (H ++ (.lst ((kpt cs es).map ci) :: (g ++ [.lst ((over cs i).map fun j => FL.D.int (j : Nat))]))) (H.length + (g.length + 1)) = some ((over cs i).map fun j => FL.D.int (j : Nat)) := lstAt_at (A := H ++ (.lst ((kpt cs es).map ci) :: g)) (B := []) (by simp) (by simp)
      have ll : btD .len [.loc (H.length + (g.length + 1))] (H ++ (.lst ((kpt cs es).map ci) :: (g ++ [.lst ((over cs i).map fun j => FL.D.int (j : Nat))]))) = .ok (.int (over cs i).length) (H ++ (.lst ((kpt cs es).map ci) :: (g ++ [.lst ((over cs i).map fun j => FL.D.int (j : Nat))]))) := by rw [len_of lo]; simp
      have hx : ∀ ys : List (List Int), ys.length ≤ 1 → gcR (H ++ (.lst ((kpt cs es).map ci) :: (g ++ [.lst ((over cs i).map fun j => FL.D.int (j : Nat))]))) (bmD .extend (.loc H.length) [.loc (H.length + (g.length + 1 + 1))] (H ++ (.lst ((kpt cs es).map ci) :: (g ++ [.lst ((over cs i).map fun j => FL.D.int (j : Nat)), .lst (ys.map ci)])))) = .ok .non (H ++ (.lst ((kpt cs es ++ ys).map ci) :: (g ++ [.lst ((over cs i).map fun j => FL.D.int (j : Nat))]))) := fun ys hy => by
        have := extend_mid (A := H) (B := g ++ [.lst ((over cs i).map fun j => FL.D.int (j : Nat))]) (k := H.length + (g.length + 1 + 1)) (xs := (kpt cs es).map ci) (ys := ys.map ci) (by simp) (by simp [size_big]; omega) (csi_flat _) (csi_flat _)
        rw [← List.map_append] at this
        simpa using this
      have hk2 : kpt cs (es ++ [i]) = kpt cs es ++ if (over cs i).length = 0 then [cs.getD i []] else [] := by unfold kpt; rw [List.flatMap_append, List.flatMap_singleton]
      generalize hc : cs.getD i [] = c at hk2
      have gi' := gi i hi
      rw [hc] at gi'
      by_cases c0 : over cs i = []
      · have hx1 := hx [c] (by simp)
        rw [c0] at ll hx1
        simp at ll hx1
        rw [hk2, c0]
        simp [ll, gi', newL, size_big, hx1, hg]
      · have hx1 := hx [] (by simp)
        have c1 : ¬ (over cs i).length = 0 := by rw [List.length_eq_zero_iff]; exact c0
        rw [hk2, if_neg c1]
        simp at hx1
        simp [ll, gi', newL, size_big, hx1, c0, hg]
    · intro j hj
      have hj := List.mem_range.mp hj
      have gi1 := gi i hi
      have gj1 := gi j hj
      have gl1 := gl j hj
      show _ = R.ok (if ovr cs i j = true then some (FL.D.int (j : Nat)) else none) _
      unfold ovr
      generalize cs.getD i [] = ci1 at gi1
      generalize cs.getD j [] = cj1 at gj1 gl1
      by_cases e1 : j = i
      · simp [cstep, wipe, e1]
      · have e1' : ¬ ((j : Int) = (i : Int)) := by omega
        simp [cstep, wipe, e1, e1', itemsD, placeD, gj1]
        rw [all_b (fun x => decide (x ∈ ci1)) (fun x hx => by simp [cstep, wipe, gi1]) (cs_le gl1)]
        rw [show cj1.all (fun x => decide (x ∈ ci1)) = hasAll ci1 cj1 from rfl]
        cases hasAll ci1 cj1 with
        | false => simp
        | true =>
          by_cases e2 : cj1 = ci1 <;> by_cases e3 : j < i <;> simp [gi1, gj1, e2, e3]
    · exact cs_le (by simp; omega)
theorem kpt_mem {cs : List (List Int)} {c : List Int} (h : c ∈ kpt cs (List.range cs.length)) : c ∈ cs := by
  unfold kpt at h
  obtain ⟨i, hi, e⟩ := List.mem_flatMap.mp h
  have hi := List.mem_range.mp hi
  split at e
  · rw [List.mem_singleton.mp e, List.getD_eq_getElem?_getD, List.getElem?_eq_getElem hi]; exact List.getElem_mem hi
  · simp at e
theorem kpt_len (cs : List (List Int)) : ∀ ks, (kpt cs ks).length ≤ ks.length
  | [] => by simp [kpt]
  | a :: es => by
    have ih := kpt_len cs es
    unfold kpt at ih ⊢
    rw [List.flatMap_cons, List.length_append, List.length_cons]
    split
    · rw [List.length_singleton]; omega
    · rw [List.length_nil]; omega
theorem s18_ok {kp : Nat} (hq : okQ n cs) (hk : lstAt H kp = some ((kpt cs (List.range cs.length)).map ci)) (hm : lstAt H ml = some ((Mod n cs).map vi)) : ∃ h', evS (pg.cfg (k + 2)) (sAt b_law 18) [some (.loc 0), some (.loc 2), some (bd), some (pi n cs), some (.loc ml), none, some (.int l), some (csi (rst l cs)), some (.loc wl), some (.loc mo), some (.loc kp), none, some (.int n), some (csi cs), none, none, none, none, none, none, none] H = .rt (.bl true) h' := by
  have hp := hq.p
  have hK : okP n (kpt cs (List.range cs.length)) := ⟨by have := kpt_len cs (List.range cs.length); have := hp.1; simp at *; omega, fun c hc => hp.2 c (kpt_mem hc)⟩
  have e1 := tidied_ok (k := k) (n := n) (h := H) hp.1 fun c hc => (hp.2 c hc).2
  rw [tdy_kpt] at e1
  have hmod := mod_kpt (n := n) (cs := cs) fun c hc => (hq.2.2.1 c hc).1
  have e2 := models_ok (k := k) (n := n) (h := H) (by have := hq.2.1; omega) hK
  rw [hmod] at e2
  generalize kpt cs (List.range cs.length) = K at hk hK e1 e2
  have hf : D.flat (.tup [.int n, .tup (K.map ci)]) = true := by simp only [flat_tup, flatL_cons, flat_int, flatL_nil, csi_flat, Bool.and_self]
  have e3 : gcR H (btD .tuple [.loc kp] H) = .ok (csi K) H := by rw [bt_tupleL hk, gcR_flat0 (by rw [flat_tup]; exact csi_flat _)]
  have l1 : lstAt (H ++ [.lst ((Mod n cs).map vi)]) ml = some ((Mod n cs).map vi) := lstAt_grow hm
  have q := (Eqq.tup Eqq.bl).eq_loc (by decide) (lstAt_last H ((Mod n cs).map vi)) l1
  refine ⟨H ++ [.lst ((Mod n cs).map vi)], ?_⟩
  simp only [b_law, sAt]
  simp [e1, e2, gcR_flat0 hf, e3, cs_le (show 2 ≤ 1000 by omega), eq_pi]
  rw [gcR_new]
  simp [q]
end
theorem gcR_blE (h h' : Hs) (b : Bool) : ∃ h2, gcR h (.ok (.bl b) h') = .ok (.bl b) h2 := by
  by_cases o : OldOk h h'
  · simp only [gcR, gc, if_pos o]; exact ⟨_, if_pos rfl⟩
  · simp only [gcR, gc, if_neg o]; exact ⟨_, rfl⟩
theorem lstAt_keep {h g x : Hs} {a b : Cell} {n i : Nat} {xs : List FL.D} (e : lstAt (h.set n a ++ g) i = some xs) (hi : i ≠ n) : lstAt (h.set n b ++ (g ++ x)) i = some xs := by
  have hlt : i < h.length + g.length := by simpa using lt_of_lstAt e
  have : lstAt (h.set n b ++ g) i = some xs := by
    unfold lstAt at e ⊢
    by_cases c : i < h.length
    · rw [List.getElem?_append_left (by simpa using c), List.getElem?_set_ne (Ne.symm hi)] at e ⊢; exact e
    · rw [List.getElem?_append_right (by simp; omega)] at e ⊢; simpa using e
  rw [← List.append_assoc]; exact lstAt_grow this
theorem b_law_eq : b_law = .scons (sAt b_law 0) (.scons (sAt b_law 1) (.scons (sAt b_law 2) (.scons (sAt b_law 3) (.scons (sAt b_law 4) (.scons (sAt b_law 5) (.scons (sAt b_law 6) (.scons (sAt b_law 7) (.scons (sAt b_law 8) (.scons (sAt b_law 9) (.scons (sAt b_law 10) (.scons (sAt b_law 11) (.scons (sAt b_law 12) (.scons (sAt b_law 13) (.scons (sAt b_law 14) (.scons (sAt b_law 15) (.scons (sAt b_law 16) (.scons (sAt b_law 17) (.scons (sAt b_law 18) .snil)))))))))))))))))) := by kernel_rfl
theorem pure_law : ∀ ns : List Int, ns.length ≤ 63 → ∃ h, pg.call 41 t_law.name [.loc 0] [.flst (ns.map .int)] = .ok (.bl true) h := by
  intro ns hz
  show ∃ h, pg.call 41 "law" [.loc 0] [.flst (ns.map .int)] = .ok (.bl true) h
  rw [call_eq l_law rfl]
  suffices hs : ∃ h', evS (pg.cfg 40) b_law (startL 1 21 [.loc 0]) [.flst (ns.map .int)] = .rt (.bl true) h' by
    obtain ⟨h', e⟩ := hs
    obtain ⟨h2, e2⟩ := gcR_blE [.flst (ns.map .int)] h' true
    exact ⟨h2, by show gcR _ (evS (pg.cfg 40) b_law (startL 1 21 [.loc 0]) _).call = _; rw [e]; exact e2⟩
  obtain ⟨h, st, B, hl3, hs0, a0⟩ := s0_ok (k := 39) hz
  rw [b_law_eq, show startL 1 21 [.loc 0] = [some (.loc 0), none, none, none, none, none, none, none, none, none, none, none, none, none, none, none, none, none, none, none, none] from rfl, seq_nx a0]
  have hb : h.set 2 (.lst st) ++ [] = h.set 2 (.lst st) := List.append_nil _
  rw [hb, seq_nx s1_ok, seq_nx s2_ok, seq_nx s3_ok, seq_nx (s4_ok (k := 37))]
  generalize hbd : FL.D.loc (h.set 2 (.lst st)).length = bd
  obtain ⟨n, cs, st1, hq, hs1, a5⟩ := s5_ok (k := 37) (bd := bd) (g := [.lst ((badL ++ badM ++ badN).map enB)]) B hs0
  rw [seq_nx a5, seq_nx s6_ok, seq_nx (s7_ok (k := 38) hq)]
  generalize [Cell.lst ((badL ++ badM ++ badN).map enB)] = g
  have hm0 := lstAt_last (h.set 2 (.lst st1) ++ g) ((Mod n cs).map vi)
  have hmne : (h.set 2 (.lst st1) ++ g).length ≠ 2 := by simp [hl3]; omega
  generalize hml : (h.set 2 (.lst st1) ++ g).length = ml at hm0 hmne
  rw [List.append_assoc] at hm0 ⊢
  obtain ⟨st2, g2, hs2, a8⟩ := s8_ok (k := 36) (bd := bd) B hs1 hq hm0 hmne
  rw [seq_nx a8]
  have hm1 : lstAt (h.set 2 (.lst st2) ++ ((g ++ [.lst ((Mod n cs).map vi)]) ++ g2)) ml = some ((Mod n cs).map vi) := lstAt_keep hm0 hmne
  generalize (g ++ [.lst ((Mod n cs).map vi)]) ++ g2 = G at hm1
  obtain ⟨l, st3, l1, l2, hs3, a9⟩ := s9_ok (k := 38) (bd := bd) (ml := ml) (g := G) B hs2 hq
  have hm2 : lstAt (h.set 2 (.lst st3) ++ (G ++ [])) ml = some ((Mod n cs).map vi) := lstAt_keep hm1 hmne
  rw [List.append_nil] at hm2
  rw [seq_nx a9, seq_nx (s10_ok hq), seq_nx (s11_ok (k := 38) hq), seq_nx (s12_ok hq ⟨l1, l2⟩ hm2)]
  have hw0 := lstAt_last (h.set 2 (.lst st3) ++ G) (((Mod n cs).filter fun v => isT v l).map vi)
  have hwne : (h.set 2 (.lst st3) ++ G).length ≠ 2 := by simp [hl3]; omega
  generalize (h.set 2 (.lst st3) ++ G).length = wl at hw0 hwne
  have hm3 := lstAt_grow (g := [.lst (((Mod n cs).filter fun v => isT v l).map vi)]) hm2
  obtain ⟨g3, a13⟩ := s13_ok (k := 38) (bd := bd) (ml := ml) (n := n) (l := l) (wl := wl) hq ⟨l1, l2⟩ hw0
  rw [seq_nx a13]
  have hm4 := lstAt_grow (g := g3) hm3
  rw [List.append_assoc, List.append_assoc] at hm4 ⊢
  generalize G ++ ([.lst (((Mod n cs).filter fun v => isT v l).map vi)] ++ g3) = G2 at hm4
  obtain ⟨ds, st4, hd, hs4, a14⟩ := s14_ok (k := 37) (bd := bd) (ml := ml) (n := n) (cs := cs) (l := l) (wl := wl) (g := G2) B hs3 hq
  rw [seq_nx a14]
  have hmo := lstAt_last (h.set 2 (.lst st4) ++ G2) (ds.map ci)
  rw [show (h.set 2 (.lst st4) ++ G2).length = h.length + G2.length by simp] at hmo
  have hm5 : lstAt (h.set 2 (.lst st4) ++ G2 ++ [.lst (ds.map ci)]) ml = some ((Mod n cs).map vi) := by rw [List.append_assoc]; exact lstAt_keep hm4 hmne
  rw [seq_nx (s15_ok (k := 39) hq hd hmo)]
  generalize h.set 2 (.lst st4) ++ G2 ++ [.lst (ds.map ci)] = H at hm5
  obtain ⟨g5, a17⟩ := s17_ok (k := 38) (bd := bd) (ml := ml) (n := n) (l := l) (wl := wl) (mo := h.length + G2.length) (H := H) hq
  rw [seq_nx s16_ok, seq_nx a17]
  have hk := lstAt_mid H g5 ((kpt cs (List.range cs.length)).map ci)
  have hm6 := lstAt_grow (g := .lst ((kpt cs (List.range cs.length)).map ci) :: g5) hm5
  obtain ⟨h', a18⟩ := s18_ok (k := 38) (bd := bd) (ml := ml) (n := n) (l := l) (wl := wl) (mo := h.length + G2.length) hq hk hm6
  exact ⟨h', seq_rt a18⟩
end FL.L
open PySem PySem.W PyProof.Rows in
set_option maxRecDepth 100000 in
set_option maxHeartbeats 0 in
theorem PySem.Challenge.cw_solverhall_k01_clauses_and_problems_holds : PySem.Challenge.rw_solverhall_k01_clauses_and_problems.Holds := by
  w_on; o_law; k_head; (case hw => w_witness2)
  k_fill
  refine FL.walk (l := PySem.Challenge.rw_solverhall_k01_clauses_and_problems) (k := 40) (G := FL.L.sg) (P := FL.L.pg) (L := FL.L.defs) (t := FL.L.t_law) rfl rfl ⟨rfl, by decide, by decide⟩ (fun w h Y => PySem.W.kIn_of Y) rfl FL.L.law_mem rfl ?tk FL.L.pure_law
  case tk =>
    intro w
    refine' FL.L.text_mk ?d_check_clause ?d_check_problem ?d_is_true ?d_holds ?d_broken ?d_is_model ?d_restricted_clauses ?d_restricted ?d_added ?d_has_all ?d_tidied ?d__law_begin ?d__law_take ?d__law_pick ?d__law_clause ?d__law_problem ?d__law_worlds ?d__law_holds ?d__law_models ?d__law_code ?d_law ?n_abs ?n_all ?n_any ?n_enumerate ?n_int ?n_isinstance ?n_len ?n_list ?n_range ?n_sorted ?n_tuple ?n_zip ?g_MOST_CLAUSES ?g_MOST_VARS ?e_InputError ?i_InputError_SolverError
    (case d_check_clause => (refine' FL.defK_mk (t := FL.L.t_check_clause) ?za ?zl ?zc ?zk; (case za => k_is); (case zl => k_is); (case zc => k_is); (case zk => k_is)))
    (case d_check_problem => (refine' FL.defK_mk (t := FL.L.t_check_problem) ?za ?zl ?zc ?zk; (case za => k_is); (case zl => k_is); (case zc => k_is); (case zk => k_is)))
    (case d_is_true => (refine' FL.defK_mk (t := FL.L.t_is_true) ?za ?zl ?zc ?zk; (case za => k_is); (case zl => k_is); (case zc => k_is); (case zk => k_is)))
    (case d_holds => (refine' FL.defK_mk (t := FL.L.t_holds) ?za ?zl ?zc ?zk; (case za => k_is); (case zl => k_is); (case zc => k_is); (case zk => k_is)))
    (case d_broken => (refine' FL.defK_mk (t := FL.L.t_broken) ?za ?zl ?zc ?zk; (case za => k_is); (case zl => k_is); (case zc => k_is); (case zk => k_is)))
    (case d_is_model => (refine' FL.defK_mk (t := FL.L.t_is_model) ?za ?zl ?zc ?zk; (case za => k_is); (case zl => k_is); (case zc => k_is); (case zk => k_is)))
    (case d_restricted_clauses => (refine' FL.defK_mk (t := FL.L.t_restricted_clauses) ?za ?zl ?zc ?zk; (case za => k_is); (case zl => k_is); (case zc => k_is); (case zk => k_is)))
    (case d_restricted => (refine' FL.defK_mk (t := FL.L.t_restricted) ?za ?zl ?zc ?zk; (case za => k_is); (case zl => k_is); (case zc => k_is); (case zk => k_is)))
    (case d_added => (refine' FL.defK_mk (t := FL.L.t_added) ?za ?zl ?zc ?zk; (case za => k_is); (case zl => k_is); (case zc => k_is); (case zk => k_is)))
    (case d_has_all => (refine' FL.defK_mk (t := FL.L.t_has_all) ?za ?zl ?zc ?zk; (case za => k_is); (case zl => k_is); (case zc => k_is); (case zk => k_is)))
    (case d_tidied => (refine' FL.defK_mk (t := FL.L.t_tidied) ?za ?zl ?zc ?zk; (case za => k_is); (case zl => k_is); (case zc => k_is); (case zk => k_is)))
    (case d__law_begin => (refine' FL.defK_mk (t := FL.L.t__law_begin) ?za ?zl ?zc ?zk; (case za => k_is); (case zl => k_is); (case zc => k_is); (case zk => k_is)))
    (case d__law_take => (refine' FL.defK_mk (t := FL.L.t__law_take) ?za ?zl ?zc ?zk; (case za => k_is); (case zl => k_is); (case zc => k_is); (case zk => k_is)))
    (case d__law_pick => (refine' FL.defK_mk (t := FL.L.t__law_pick) ?za ?zl ?zc ?zk; (case za => k_is); (case zl => k_is); (case zc => k_is); (case zk => k_is)))
    (case d__law_clause => (refine' FL.defK_mk (t := FL.L.t__law_clause) ?za ?zl ?zc ?zk; (case za => k_is); (case zl => k_is); (case zc => k_is); (case zk => k_is)))
    (case d__law_problem => (refine' FL.defK_mk (t := FL.L.t__law_problem) ?za ?zl ?zc ?zk; (case za => k_is); (case zl => k_is); (case zc => k_is); (case zk => k_is)))
    (case d__law_worlds => (refine' FL.defK_mk (t := FL.L.t__law_worlds) ?za ?zl ?zc ?zk; (case za => k_is); (case zl => k_is); (case zc => k_is); (case zk => k_is)))
    (case d__law_holds => (refine' FL.defK_mk (t := FL.L.t__law_holds) ?za ?zl ?zc ?zk; (case za => k_is); (case zl => k_is); (case zc => k_is); (case zk => k_is)))
    (case d__law_models => (refine' FL.defK_mk (t := FL.L.t__law_models) ?za ?zl ?zc ?zk; (case za => k_is); (case zl => k_is); (case zc => k_is); (case zk => k_is)))
    (case d__law_code => (refine' FL.defK_mk (t := FL.L.t__law_code) ?za ?zl ?zc ?zk; (case za => k_is); (case zl => k_is); (case zc => k_is); (case zk => k_is)))
    (case d_law => (refine' FL.defK_mk (t := FL.L.t_law) ?za ?zl ?zc ?zk; (case za => k_is); (case zl => k_is); (case zc => k_is); (case zk => k_is)))
    (case n_abs => k_is)
    (case n_all => k_is)
    (case n_any => k_is)
    (case n_enumerate => k_is)
    (case n_int => k_is)
    (case n_isinstance => k_is)
    (case n_len => k_is)
    (case n_list => k_is)
    (case n_range => k_is)
    (case n_sorted => k_is)
    (case n_tuple => k_is)
    (case n_zip => k_is)
    (case g_MOST_CLAUSES => (refine' FL.glob_int ?za; (case za => k_is)))
    (case g_MOST_VARS => (refine' FL.glob_int ?za; (case za => k_is)))
    (case e_InputError => (refine' FL.EX.txtK_mk ?zgC ?zgS ?zpS ?zxC ?zsa ?zga ?zgg ?znoN ?ziC ?ztC ?zkC ?zexC ?zveC ?zseC ?ztyC ?zhdC ?zsuI ?zmrC ?zopq ?zlF ?zcF ?zhl ?zlc ?zld ?zhv ?zhf; (case zgC => k_is); (case zgS => k_is); (case zpS => rfl); (case zxC => k_is); (case zsa => k_is); (case zga => k_is); (case zgg => k_is); (case znoN => k_is); (case ziC => k_is); (case ztC => k_is); (case zkC => k_is); (case zexC => k_is); (case zveC => k_is); (case zseC => k_is); (case ztyC => k_is); (case zhdC => k_is); (case zsuI => ks_is); (case zmrC => k_is); (case zopq => k_is); (case zlF => k_is); (case zcF => k_is); (case zhl => rfl); (case zlc => k_is); (case zld => k_is); (case zhv => rfl); (case zhf => rfl)))
    (case i_InputError_SolverError => (refine' FL.isE_mk ?za ?zb ?zhg ?zhk ?zhs ?zhd ?zha ?zhn ?zht ?zhm ?zo1 ?zo2 ?zo3; (case za => k_is); (case zb => k_is); (case zhg => k_is); (case zhk => k_is); (case zhs => k_is); (case zhd => k_is); (case zha => k_is); (case zhn => k_is); (case zht => k_is); (case zhm => k_is); (case zo1 => k_is); (case zo2 => k_is); (case zo3 => k_is)))
