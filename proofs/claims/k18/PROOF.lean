import PyProof.Rows.All
import HandS.Conv
import HandS.DictComp
import HandS.Exc
import HandS.ExcField
import HandS.ExcIs
import HandS.FStr
import HandS.Flow
import HandS.ForExc
import HandS.ForMost
import HandS.HeadWalk
import HandS.Iter
import HandS.More
import HandS.SetFor
import HandS.SetKeys
import HandS.SortInts
import HandS.Strs
import HandS.Style
import HandS.Text
import HandS.TryOnly
import HandS.TupAny
import HandS.TupLe
import HandS.TupMul
import HandS.WordsExc
import KE.DataMinMax
import KE.GoesEnum
import KE.KDictCopyH
import KE.KDictKeyed
import KE.KDictSum
import KE.KExcSuper
import KE.KeyNested
import KE.SortData
import PyProof.DictUpdate
import PyProof.P3In
import PyProof.Rows.TupAdd
import PySem.Challenge.RW_solverhall_k18_whole_differences
set_option Elab.async false
set_option autoImplicit false
set_option linter.all false
/-! FL, part A: a small functional semantics of the Python subset of the laws. Values D, a heap of cells Hs, locals Ls, results R. -/
namespace FL
open PySem

/-- a value: data without the heap, or the place of a cell -/
inductive D where
  | non | bl (b : Bool) | int (i : Int) | str (s : Str) | tup (xs : List D) | loc (n : Nat)
  /-- a list, a dict that is never written again -/
  | fl (xs : List D) | fd (ks vs : List D)
deriving Inhabited

inductive Cell where
  /-- a list -/
  | lst (xs : List D)
  /-- a list that may be read alone (the script) -/
  | flst (xs : List D)
  /-- a dict, in the order of its keys; one of which nothing is known any more -/
  | dict (kvs : List (D × D))
  | ldict (kvs : List (D × D))
  /-- an instance of a class of the text -/
  | obj (c : Str) (fs : List (Str × D))
deriving Inhabited

abbrev Hs := List Cell
abbrev Ls := List (Option D)

inductive R (α : Type) where
  | ok (a : α) (h : Hs)
  | exc (c : Str) (fs : List (Str × D)) (h : Hs)
  | bad

namespace R
variable {α β : Type}
def bind (r : R α) (f : α → Hs → R β) : R β := match r with
  | .ok a h => f a h
  | .exc c v h => .exc c v h
  | .bad => .bad
@[simp] theorem bind_ok (a : α) (h : Hs) (f : α → Hs → R β) : (R.ok a h).bind f = f a h := by cases h <;> rfl
@[simp] theorem bind_exc (c : Str) (v : List (Str × D)) (h : Hs) (f : α → Hs → R β) : (R.exc c v h : R α).bind f = .exc c v h := rfl
@[simp] theorem bind_bad (f : α → Hs → R β) : (R.bad : R α).bind f = .bad := rfl
@[simp] theorem bind_ite (p : Prop) [Decidable p] (a b : R α) (f : α → Hs → R β) : (if p then a else b).bind f = if p then a.bind f else b.bind f := by split <;> rfl
/-- .. where an exception is not served -/
def must (r : R α) (f : α → Hs → R β) : R β := match r with
  | .ok a h => f a h
  | _ => .bad
@[simp] theorem must_ok (a : α) (h : Hs) (f : α → Hs → R β) : (R.ok a h).must f = f a h := by cases h <;> rfl
@[simp] theorem must_exc (c : Str) (v : List (Str × D)) (h : Hs) (f : α → Hs → R β) : (R.exc c v h : R α).must f = .bad := rfl
@[simp] theorem must_bad (f : α → Hs → R β) : (R.bad : R α).must f = .bad := rfl
@[simp] theorem must_ite (p : Prop) [Decidable p] (a b : R α) (f : α → Hs → R β) : (if p then a else b).must f = if p then a.must f else b.must f := by split <;> rfl
end R

/-- a statement's end -/
inductive RS where
  | nx (ls : Ls) (h : Hs)
  | bk (ls : Ls) (h : Hs)
  | ct (ls : Ls) (h : Hs)
  | rt (d : D) (h : Hs)
  | exc (c : Str) (fs : List (Str × D)) (ls : Ls) (h : Hs)
  | bad

/-! ### the places in a value lie below n -/
mutual
def D.closed (n : Nat) : D → Bool
  | .non => true
  | .bl _ => true
  | .int _ => true
  | .str _ => true
  | .tup xs => D.closedL n xs
  | .loc k => decide (k < n)
  | .fl xs => D.closedL n xs
  | .fd ks vs => D.closedL n ks && D.closedL n vs
def D.closedL (n : Nat) : List D → Bool
  | [] => true
  | x :: xs => D.closed n x && D.closedL n xs
end
@[simp] theorem closed_non (n : Nat) : D.closed n .non = true := rfl
@[simp] theorem closed_bl (n : Nat) (b : Bool) : D.closed n (.bl b) = true := rfl
@[simp] theorem closed_int (n : Nat) (i : Int) : D.closed n (.int i) = true := rfl
@[simp] theorem closed_str (n : Nat) (s : Str) : D.closed n (.str s) = true := rfl
@[simp] theorem closed_tup (n : Nat) (xs : List D) : D.closed n (.tup xs) = D.closedL n xs := by rw [D.closed]
@[simp] theorem closed_loc (n k : Nat) : D.closed n (.loc k) = decide (k < n) := by rw [D.closed]
@[simp] theorem closed_fl (n : Nat) (xs : List D) : D.closed n (.fl xs) = D.closedL n xs := by rw [D.closed]
@[simp] theorem closed_fd (n : Nat) (ks vs : List D) : D.closed n (.fd ks vs) = (D.closedL n ks && D.closedL n vs) := by rw [D.closed]
@[simp] theorem closedL_nil (n : Nat) : D.closedL n [] = true := rfl
@[simp] theorem closedL_cons (n : Nat) (x : D) (xs : List D) : D.closedL n (x :: xs) = (D.closed n x && D.closedL n xs) := by rw [D.closedL]
def Cell.closed (n : Nat) : Cell → Bool
  | .lst xs => D.closedL n xs
  | .flst xs => D.closedL n xs
  | .dict kvs => D.closedL n (kvs.map (·.1)) && D.closedL n (kvs.map (·.2))
  | .ldict _ => true
  | .obj _ fs => D.closedL n (fs.map (·.2))

/-! ### data as the library's -/
mutual
def D.pyW (lk : Nat → Option PyData) : D → Option PyData
  | .non => some .none
  | .bl b => some (.bool b)
  | .int i => some (.int i)
  | .str s => some (.str s)
  | .tup xs => (D.pyWL lk xs).map .tuple
  | .loc n => lk n
  | .fl xs => (D.pyWL lk xs).map .list
  | .fd _ _ => none
def D.pyWL (lk : Nat → Option PyData) : List D → Option (List PyData)
  | [] => some []
  | x :: xs => match D.pyW lk x, D.pyWL lk xs with
    | some a, some b => some (a :: b)
    | _, _ => none
end
def lkL (h : Hs) : Nat → Nat → Option PyData
  | 0, _ => none
  | k + 1, n => match h[n]? with
    | some (.lst xs) => (D.pyWL (lkL h k) xs).map .list
    | some (.flst xs) => (D.pyWL (lkL h k) xs).map .list
    | _ => none
def D.py (h : Hs) (d : D) : Option PyData := D.pyW (lkL h 8) d
def pyL (h : Hs) (xs : List D) : Option (List PyData) := D.pyWL (lkL h 8) xs
mutual
def D.key : D → Option NestedKey
  | .non => some .none
  | .bl b => some (.num (if b = true then 1 else 0))
  | .int i => some (.num i)
  | .str s => some (.text s)
  | .tup xs => (D.keyL xs).map .tup
  | .loc _ => none
  | .fl _ => none
  | .fd _ _ => none
def D.keyL : List D → Option (List NestedKey)
  | [] => some []
  | x :: xs => match D.key x, D.keyL xs with
    | some a, some b => some (a :: b)
    | _, _ => none
end

/-! ### a list, a dict at a place -/
def lstAt (h : Hs) (n : Nat) : Option (List D) := match h[n]? with
  | some (.lst xs) => some xs
  | some (.flst xs) => some xs
  | _ => none
def mlstAt (h : Hs) (n : Nat) : Option (List D) := match h[n]? with
  | some (.lst xs) => some xs
  | _ => none
def dictAt (h : Hs) (n : Nat) : Option (List (D × D)) := match h[n]? with
  | some (.dict kvs) => some kvs
  | _ => none
def mdictAt (h : Hs) (n : Nat) : Option (List (D × D)) := match h[n]? with
  | some (.dict kvs) => some kvs
  | _ => none
/-- a dict that is never written again -/
def D.isFd : D → Bool
  | .fd _ _ => true
  | _ => false
/-- a list's items; a dict's -/
def lstD (h : Hs) : D → Option (List D)
  | .loc n => lstAt h n
  | .fl xs => some xs
  | _ => none
def mlstD (h : Hs) : D → Option (List D)
  | .loc n => mlstAt h n
  | .fl xs => some xs
  | _ => none
def dictD (h : Hs) : D → Option (List (D × D))
  | .loc n => dictAt h n
  | .fd ks vs => some (ks.zip vs)
  | _ => none
/-- a key that is served: an int, a text -/
def scalK : D → Option L2.Key
  | .int i => some (.inl i)
  | .str s => some (.inr s)
  | _ => none
def keyOk (d : D) : Bool := (scalK d).isSome
def dfind (k : NestedKey) (kvs : List (D × D)) : Option D := (kvs.find? fun p => decide (p.1.key = some k)).map (·.2)
def dput (k : NestedKey) (kd v : D) (kvs : List (D × D)) : List (D × D) :=
  if (kvs.any fun p => decide (p.1.key = some k)) = true then kvs.map (fun p => if p.1.key = some k then (p.1, v) else p) else kvs ++ [(kd, v)]
def ddrop (k : NestedKey) (kvs : List (D × D)) : List (D × D) := kvs.filter fun p => decide (p.1.key ≠ some k)

/-! ### truth, comparisons -/
def truth (h : Hs) : D → Option Bool
  | .non => some false
  | .bl b => some b
  | .int i => some (i != 0)
  | .str s => if s.length ≤ sizeLine then some ((s.length : Int) != 0) else none
  | .tup xs => some (!xs.isEmpty)
  | .loc n => match lstAt h n with
    | some xs => some (!xs.isEmpty)
    | none => match mdictAt h n with
      | some kvs => some (!kvs.isEmpty)
      | none => none
  | .fl xs => some (!xs.isEmpty)
  | .fd _ _ => none
def eqD (h : Hs) (a b : D) : Option Bool := match a.py h, b.py h with
  | some x, some y => if SeqAt.shaped x = true ∧ SeqAt.shaped y = true then some (PyData.eqv x y) else none
  | _, _ => none
def inL (h : Hs) (a : D) (xs : List D) : Option Bool := match a.py h, pyL h xs with
  | some x, some ys => if SeqAt.shaped x = true ∧ SeqAt.shaped (.list ys) = true then some (ys.any fun y => PyData.eqv y x) else none
  | _, _ => none
def inG (h : Hs) (a b : D) : Option Bool := match lstD h b with
  | some xs => inL h a xs
  | none => match dictD h b, a.key with
    | some kvs, some k => if keyOk a = true then some (dfind k kvs).isSome else none
    | _, _ => none
def inD (h : Hs) (a b : D) : Option Bool := match b with
  | .tup xs => inL h a xs
  | b => inG h a b
def ltD : D → D → Option Bool
  | .int i, .int j => some (decide (i < j))
  | .str s, .str t => some (decide (s.cps.toList < t.cps.toList))
  | _, _ => none
def leD : D → D → Option Bool
  | .int i, .int j => some (decide (i ≤ j))
  | .str s, .str t => some (!decide (t.cps.toList < s.cps.toList))
  | _, _ => none
def isNonP : PyData → Bool
  | .none => true
  | _ => false
noncomputable def cmpR (op : CmpOp) (x y : PyData) : Option Bool := match op with
  | .Lt => some (PySem.W.dataLt x y)
  | .Gt => some (PySem.W.dataLt y x)
  | .LtE => some (!PySem.W.dataLt y x)
  | .GtE => some (!PySem.W.dataLt x y)
  | _ => none
/-- alike data compared -/
noncomputable def cmpP (op : CmpOp) (h : Hs) (a b : D) : Option Bool := match a.py h, b.py h with
  | some x, some y => if PySem.W.alike x y = true ∧ x.depth ≤ 64 ∧ isNonP x = false then cmpR op x y else none
  | _, _ => none
def orP (o : Option Bool) (p : Option Bool) : Option Bool := match o with
  | some k => some k
  | none => p
def isNon : D → Bool
  | .non => true
  | _ => false
/-- is: None, or truth values -/
def isD (a b : D) : Option Bool := if isNon b then some (isNon a) else match a, b with
  | .bl x, .bl y => some (decide (x = y))
  | _, _ => none
noncomputable def cmpD (op : CmpOp) (h : Hs) (a b : D) : Option Bool := match op with
  | .Eq => eqD h a b
  | .NotEq => (eqD h a b).map (!·)
  | .Lt => orP (ltD a b) (cmpP .Lt h a b)
  | .LtE => orP (leD a b) (cmpP .LtE h a b)
  | .Gt => orP (ltD b a) (cmpP .Gt h a b)
  | .GtE => orP (leD b a) (cmpP .GtE h a b)
  | .In => inD h a b
  | .NotIn => (inD h a b).map (!·)
  | .Is => isD a b
  | .IsNot => (isD a b).map (!·)

/-- an optional answer as a result -/
def R.ofO {α : Type} (h : Hs) : Option α → R α
  | some a => .ok a h
  | none => .bad
@[simp] theorem ofO_some {α : Type} (h : Hs) (a : α) : R.ofO h (some a) = .ok a h := rfl
@[simp] theorem ofO_none {α : Type} (h : Hs) : R.ofO h (none : Option α) = .bad := rfl

/-! ### operators -/
def mulOk (i j : Int) : Prop := (-(2 ^ 64) < i ∧ i < 2 ^ 64) ∨ (-(2 ^ 64) < j ∧ j < 2 ^ 64)
noncomputable instance (i j : Int) : Decidable (mulOk i j) := Classical.propDecidable _
def powOk (i j : Int) : Prop := 0 ≤ j ∧ j ≤ 1000000 ∧ i.natAbs < 2 ^ 64
noncomputable instance (i j : Int) : Decidable (powOk i j) := Classical.propDecidable _
def newL (h : Hs) (xs : List D) : R D := .ok (.loc h.length) (h ++ [.lst xs])
/-- a new list: one that may be written; one that never is -/
def newM (m : Bool) (h : Hs) (xs : List D) : R D := if m = true then newL h xs else .ok (.fl xs) h
@[simp] theorem newM_true (h : Hs) (xs : List D) : newM true h xs = newL h xs := rfl
@[simp] theorem newM_false (h : Hs) (xs : List D) : newM false h xs = .ok (.fl xs) h := rfl
noncomputable def binI (op : Operator) (i j : Int) : Option Int := match op with
  | .Add => some (i + j)
  | .Sub => some (i - j)
  | .Mult => if mulOk i j then some (i * j) else none
  | .FloorDiv => if j ≠ 0 ∧ j.natAbs < 1073741824 then some (i.fdiv j) else none
  | .Mod => if j ≠ 0 then some (i.fmod j) else none
  | .Pow => if powOk i j then some (i ^ j.toNat) else none
  | .LShift => if powOk i j then some (i * 2 ^ j.toNat) else none
  | .RShift => if 0 ≤ j then some (i / 2 ^ j.toNat) else none
  | .BitAnd => some (Builtin.bitAnd i j)
  | .BitOr => some (Builtin.bitOr i j)
  | .BitXor => some (Builtin.bitXor i j)
  | _ => none
def repL (xs : List D) (n : Int) : List D := (List.replicate n.toNat xs).flatten
def binN (m : Bool) (op : Operator) (a : D) (n : Int) (h : Hs) : R D := match op, mlstD h a with
  | .Mult, some xs => if -(2 ^ 63) ≤ n ∧ n < 2 ^ 63 ∧ xs.length * n.toNat ≤ sizeLine then newM m h (repL xs n) else .bad
  | _, _ => .bad
def binL (m : Bool) (op : Operator) (a b : D) (h : Hs) : R D := match op, mlstD h a, mlstD h b with
  | .Add, some xs, some ys => if xs.length + ys.length ≤ sizeLine then newM m h (xs ++ ys) else .bad
  | _, _, _ => .bad
noncomputable def binD (m : Bool) (op : Operator) (a b : D) (h : Hs) : R D := match a, b with
  | .int i, .int j => R.ofO h ((binI op i j).map .int)
  | .tup xs, .tup ys => match op with
    | .Add => if xs.length + ys.length ≤ sizeLine then .ok (.tup (xs ++ ys)) h else .bad
    | _ => .bad
  | .str s, .str t => match op with
    | .Add => if s.length + t.length ≤ sizeLine then .ok (.str (s ++ t)) h else .bad
    | _ => .bad
  | .tup xs, .int n => match op with
    | .Mult => if 2 ≤ n ∧ n ≤ 1000 ∧ xs.length ≤ 1000 ∧ xs.isEmpty = false then .ok (.tup (repL xs n)) h else .bad
    | _ => .bad
  | a, .int n => binN m op a n h
  | a, b => binL m op a b h
def negD (a : D) (h : Hs) : R D := match a with
  | .int i => .ok (.int (-i)) h
  | _ => .bad
/-- the part from lo to hi -/
def cut {α : Type} (xs : List α) (lo hi : Option Int) : List α := (xs.drop (HT.sIx xs.length 0 lo)).take (HT.sIx xs.length xs.length hi - HT.sIx xs.length 0 lo)
def idxG (a i : D) (h : Hs) : R D := match lstD h a with
  | some xs => match i with
    | .int j => R.ofO h (L2.atI xs j)
    | _ => .bad
  | none => match dictD h a, i.key with
    | some kvs, some k => if keyOk i = true then R.ofO h (dfind k kvs) else .bad
    | _, _ => .bad
def idxD (a i : D) (h : Hs) : R D := match a with
  | .tup xs => match i with
    | .int j => R.ofO h (L2.atI xs j)
    | _ => .bad
  | a => idxG a i h
def sliceG (m : Bool) (a : D) (lo hi : Option Int) (h : Hs) : R D := match lstD h a with
  | some xs => newM m h (cut xs lo hi)
  | none => .bad
def sliceD (m : Bool) (a : D) (lo hi : Option Int) (h : Hs) : R D := match a with
  | .tup xs => .ok (.tup (cut xs lo hi)) h
  | a => sliceG m a lo hi h
/-- o[i] = v -/
def setIdx (o i v : D) (h : Hs) : R Unit := match o with
  | .loc n => match h[n]? with
    | some (.lst xs) => match i with
      | .int j => match L2.ixN xs.length j with
        | some k => .ok () (h.set n (.lst (xs.set k v)))
        | none => .bad
      | _ => .bad
    | some (.dict kvs) => match i.key with
      | some k => if keyOk i = true ∧ kvs.length < sizeLine then .ok () (h.set n (.dict (dput k i v kvs))) else if isNon i = true ∧ kvs.length < sizeLine then .ok () (h.set n (.ldict [])) else .bad
      | none => .bad
    | _ => .bad
  | _ => .bad
/-- o.f, o.f = v -/
def getF (cs : List Str) (o : D) (f : Str) (h : Hs) : R D := match o with
  | .loc n => match h[n]? with
    | some (.obj c fs) => if cs.contains c = true then R.ofO h (fs.lookup f) else .bad
    | _ => .bad
  | _ => .bad
def putF (f : Str) (v : D) : List (Str × D) → List (Str × D)
  | [] => [(f, v)]
  | (g, w) :: r => if g = f then (g, v) :: r else (g, w) :: putF f v r
def setF (cs : List Str) (o : D) (f : Str) (v : D) (h : Hs) : R Unit := match o with
  | .loc n => match h[n]? with
    | some (.obj c fs) => if fs.length < 1000 ∧ cs.contains c = true then .ok () (h.set n (.obj c (putF f v fs))) else .bad
    | _ => .bad
  | _ => .bad

/-! ### built-in functions, methods -/
inductive Bt where
  | len | abs | int | tuple | list | all | any | sum | max | min | sorted | lrange | trange | dict
inductive Bm where
  | append | extend | pop
def bools : List D → Option (List Bool)
  | [] => some []
  | .bl b :: r => (bools r).map (b :: ·)
  | _ :: _ => none
def intsD : List D → Option (List Int)
  | [] => some []
  | .int b :: r => (intsD r).map (b :: ·)
  | _ :: _ => none
/-- the items of a list, a tuple -/
def itemsD (h : Hs) : D → Option (List D)
  | .tup xs => some xs
  | a => lstD h a
open Classical in
/-- the sorted list -/
noncomputable def sortD (h : Hs) (ds : List D) : Option (List D) := match pyL h ds with
  | some ys => if PySem.W.AllAlike ys ∧ PySem.W.Sortable ys ∧ ∀ y ∈ ys, y.depth ≤ 64 then some (((ds.zip ys).mergeSort (PySem.W.dataLe false Prod.snd)).map Prod.fst) else none
  | none => none
def newD (m : Bool) (h : Hs) (kvs : List (D × D)) : R D := if m = true then .ok (.loc h.length) (h ++ [.dict kvs]) else .ok (.fd (kvs.map (·.1)) (kvs.map (·.2))) h
@[simp] theorem newD_true (h : Hs) (kvs : List (D × D)) : newD true h kvs = .ok (.loc h.length) (h ++ [.dict kvs]) := rfl
@[simp] theorem newD_false (h : Hs) (kvs : List (D × D)) : newD false h kvs = .ok (.fd (kvs.map (·.1)) (kvs.map (·.2))) h := rfl
def dmerge (kvs : List (D × D)) : List (D × D) → List (D × D)
  | [] => kvs
  | p :: ps => match p.1.key with
    | some nk => dmerge (dput nk p.1 p.2 kvs) ps
    | none => dmerge kvs ps
/-- pairs, the first ones keys -/
def pairsD : List D → Option (List (D × D))
  | [] => some []
  | .tup [k, v] :: r => if keyOk k = true then (pairsD r).map ((k, v) :: ·) else none
  | _ :: _ => none
def bigOk (lo hi : Int) : Prop := -(2 ^ 62) ≤ lo ∧ lo < 2 ^ 62 ∧ -(2 ^ 62) ≤ hi ∧ hi < 2 ^ 62 ∧ (hi - lo).toNat ≤ 2 ^ 24
noncomputable instance (lo hi : Int) : Decidable (bigOk lo hi) := Classical.propDecidable _
def rangeD (lo hi : Int) : List D := (List.range (hi - lo).toNat).map fun i => .int (lo + (i : Nat))
/-! data without a list, a dict in it -/
mutual
def D.plain : D → Bool
  | .non => true
  | .bl _ => true
  | .int _ => true
  | .str _ => true
  | .tup xs => D.plainL xs
  | .loc _ => false
  | .fl _ => false
  | .fd _ _ => false
def D.plainL : List D → Bool
  | [] => true
  | x :: xs => D.plain x && D.plainL xs
end
open Classical in
/-- the least, the greatest of alike data -/
noncomputable def bestD (great : Bool) (h : Hs) (ds : List D) : Option D := match pyL h ds with
  | some (x :: xs) => if PySem.W.AlikeAll (x :: xs) ∧ PyData.depthAll (x :: xs) ≤ 60 ∧ PyData.canLayAll0 (x :: xs) = true ∧ D.plainL ds = true then ds.find? (fun d => decide (d.py h = some (if great = true then PySem.W.maxD x xs else PySem.W.minD x xs))) else none
  | _ => none
/-- without the later ones of like ones -/
def ddI : List Int → List Int
  | [] => []
  | x :: xs => x :: (ddI xs).filter fun y => decide (y ≠ x)
def setI (ns : List Int) : List Int := (ddI ns).mergeSort fun a b => decide (a ≤ b)
/-- ints, fewer than 64 -/
def setOf (h : Hs) (d : D) : Option (List Int) := match (itemsD h d).bind intsD with
  | some ns => if ns.length < 64 then some ns else none
  | none => none
def dgetD (x y z : D) (h : Hs) : R D := match dictD h x, y.key with
  | some kvs, some k => if keyOk y = true then .ok ((dfind k kvs).getD z) h else .bad
  | _, _ => .bad
def dsetdD (x y z : D) (h : Hs) : R D := match x with
  | .loc n => match mdictAt h n, y.key with
    | some kvs, some k => if keyOk y = true ∧ kvs.length < sizeLine then (match dfind k kvs with
      | some v => .ok v h
      | none => .ok z (h.set n (.dict (dput k y z kvs)))) else .bad
    | _, _ => .bad
  | _ => .bad
/-- keys and values in turns -/
def pairsU : List D → Option (List (D × D))
  | [] => some []
  | k :: v :: r => if keyOk k = true then (pairsU r).map ((k, v) :: ·) else none
  | _ :: [] => none
noncomputable def btD (m : Bool) (b : Bt) (vs : List D) (h : Hs) : R D := match b, vs with
  | .len, [d] => match itemsD h d with
    | some xs => .ok (.int xs.length) h
    | none => match d with
      | .str s => if s.length ≤ sizeLine then .ok (.int s.length) h else .bad
      | d => R.ofO h ((dictD h d).map fun kvs => .int kvs.length)
  | .abs, [.int i] => .ok (.int (if i < 0 then -i else i)) h
  | .int, [.int i] => .ok (.int i) h
  | .tuple, [d] => match itemsD h d with
    | some xs => .ok (.tup xs) h
    | none => R.ofO h ((dictD h d).map fun kvs => .tup (kvs.map (·.1)))
  | .list, [d] => match itemsD h d with
    | some xs => newM m h xs
    | none => match dictD h d with
      | some kvs => newM m h (kvs.map (·.1))
      | none => .bad
  | .dict, [d] => match dictD h d with
    | some kvs => newD m h kvs
    | none => match (lstD h d).bind pairsD with
      | some kvs => newD m h (dmerge [] kvs)
      | none => .bad
  | .all, [d] => R.ofO h (((lstD h d).bind bools).map fun bs => .bl (bs.all id))
  | .any, [d] => R.ofO h (((lstD h d).bind bools).map fun bs => .bl (bs.any id))
  | .sum, [d] => R.ofO h (((lstD h d).bind intsD).map fun is => .int is.sum)
  | .sorted, [d] => match lstD h d with
    | some xs => match sortD h xs with
      | some ds => newM m h ds
      | none => .bad
    | none => match (dictD h d).bind fun kvs => sortD h (kvs.map (·.1)) with
      | some ds => newM m h ds
      | none => .bad
  | .lrange, [.int j] => if bigOk 0 j then newM m h (rangeD 0 j) else .bad
  | .lrange, [.int i, .int j] => if bigOk i j then newM m h (rangeD i j) else .bad
  | .trange, [.int j] => if bigOk 0 j then .ok (.tup (rangeD 0 j)) h else .bad
  | .trange, [.int i, .int j] => if bigOk i j then .ok (.tup (rangeD i j)) h else .bad
  | .max, [d] => R.ofO h ((itemsD h d).bind (bestD true h))
  | .min, [d] => R.ofO h ((itemsD h d).bind (bestD false h))
  | .max, [.int i, .int j] => .ok (.int (if j > i then j else i)) h
  | .min, [.int i, .int j] => .ok (.int (if j < i then j else i)) h
  | _, _ => .bad
def bmD (m : Bm) (o : D) (vs : List D) (h : Hs) : R D := match o with
  | .loc n => match h[n]? with
    | some (.lst xs) => match m, vs with
      | .append, [d] => if xs.length < sizeLine then .ok .non (h.set n (.lst (xs ++ [d]))) else .bad
      | .extend, [d] => match mlstD h d with
        | some ys => if xs.length + ys.length ≤ sizeLine then .ok .non (h.set n (.lst (xs ++ ys))) else .bad
        | none => .bad
      | .pop, [] => match xs[xs.length - 1]? with
        | some y => .ok y (h.set n (.lst xs.dropLast))
        | none => .bad
      | .pop, [.int i] => match seqIndex? i xs.length with
        | some k => match xs[k]? with
          | some y => if -(2 ^ 63) ≤ i ∧ i < 2 ^ 63 then .ok y (h.set n (.lst (xs.eraseIdx k))) else .bad
          | none => .bad
        | none => .bad
      | _, _ => .bad
    | _ => .bad
  | _ => .bad

/-- a list that may be written -/
def isLst (h : Hs) : D → Bool
  | .loc n => (mlstAt h n).isSome
  | _ => false
/-! ### data without places -/
mutual
def D.flat : D → Bool
  | .tup xs => D.flatL xs
  | .fl xs => D.flatL xs
  | .fd ks vs => D.flatL ks && D.flatL vs
  | .loc _ => false
  | _ => true
def D.flatL : List D → Bool
  | [] => true
  | x :: xs => D.flat x && D.flatL xs
end
/-! ### lists and dicts that are never written again -/
def optL (f : D → Option D) : List D → Option (List D)
  | [] => some []
  | x :: xs => match f x, optL f xs with
    | some a, some b => some (a :: b)
    | _, _ => none
/-- the lists and dicts behind the first n0 cells as such -/
def frzD (n0 : Nat) (h : Hs) : Nat → D → Option D
  | 0, d => if D.flat d = true then some d else none
  | k + 1, d => if D.flat d = true then some d else match d with
    | .loc n => if n < n0 then some (.loc n) else match h[n]? with
      | some (.lst xs) => (optL (frzD n0 h k) xs).map .fl
      | some (.dict kvs) => (optL (frzD n0 h k) (kvs.map (·.2))).map fun vs => .fd (kvs.map (·.1)) vs
      | _ => none
    | .tup xs => (optL (frzD n0 h k) xs).map .tup
    | .fl xs => (optL (frzD n0 h k) xs).map .fl
    | .fd ks vs => (optL (frzD n0 h k) vs).map fun us => .fd ks us
    | d => some d
/-! ### what is left behind a call -/
/-- every cell of h0 is in h as it was, or speaks of the cells of h0 alone -/
def OldOk (h0 h : Hs) : Prop := ∀ i, i < h0.length → h[i]? = h0[i]? ∨ ∃ c, h[i]? = some c ∧ c.closed h0.length = true
open Classical in
noncomputable def gc (h0 : Hs) (d : D) (h : Hs) : R D :=
  if OldOk h0 h then
    if d.closed h0.length = true then .ok d (h.take h0.length)
    else match d with
      | .loc k => match h[k]? with
        | some c => if c.closed h0.length = true ∧ h0.length ≤ h.length then .ok (.loc h0.length) (h.take h0.length ++ [c]) else .ok d h
        | none => .ok d h
      | _ => .ok d h
  else .ok d h
open Classical in
noncomputable def gcR (h0 : Hs) (r : R D) : R D := match r with
  | .ok d h => gc h0 d h
  | .exc c fs h => if OldOk h0 h ∧ D.closedL h0.length (fs.map (·.2)) = true then .exc c fs (h.take h0.length) else .exc c fs h
  | .bad => .bad

open Classical in
/-- a call's result: as it is (m), or with its new lists and dicts never written again -/
noncomputable def gcX (m : Bool) (h0 : Hs) (r : R D) : R D := match r with
  | .ok d h => if m = true then gc h0 d h else if OldOk h0 h ∧ h0.length ≤ h.length then match frzD h0.length h 8 d with
      | some d' => if d'.closed h0.length = true then .ok d' (h.take h0.length) else gc h0 d h
      | none => gc h0 d h
    else .ok d h
  | r => gcR h0 r

/-! ### syntax -/
/-- a target of names -/
inductive FT where
  | name (i : Nat) | tup (ts : FT) | tnil | tcons (t ts : FT)
inductive FE where
  | var (i : Nat) | cst (d : D) | glob (x : Str)
  | bin (m : Bool) (op : Operator) (a b : FE) | neg (a : FE) | not (a : FE)
  | cmp (op : CmpOp) (a b : FE) | chain (op op' : CmpOp) (a b c : FE)
  | and (a b : FE) | or (a b : FE) | ite (c a b : FE)
  | tup (as : FE) | lst (m : Bool) (as : FE) | anil | acons (a as : FE)
  | idx (a i : FE) | slice (m : Bool) (a lo hi : FE) | nopart | part (e : FE)
  | call (m : Bool) (f : Str) (as : FE) | new (c : Str) (as : FE) | meth (b : Bool) (c m : Str) (o as : FE) | attr (o : FE) (f : Str)
  | bcall (m : Bool) (b : Bt) (as : FE) | bmeth (m : Bm) (o as : FE)
  /-- a list comprehension: its own slots, target, what it walks, test, element -/
  | comp (m : Bool) (own : List Nat) (t : FT) (it : FE) (c : FE) (e : FE)
  /-- what is walked -/
  | iseq (e : FE) | irange (as : FE) | ienum (as : FE) | izip (as : FE)
  /-- {}, sorted(e.values()) -/
  | dnil | svals (m : Bool) (e : FE)
  /-- o.get(k), o.get(k, c), o.setdefault(k, c); {k: v, ..} (in turns); sorted(set(e)); len(set(e)) -/
  | dget1 (o k : FE) | dget (o k c : FE) | dsetd (o k c : FE) | ddisp (m : Bool) (as : FE) | sset (m : Bool) (e : FE) | lset (e : FE)
  /-- e[::-1]; {k: v for t in it if c}; o.update(e) -/
  | rev (m : Bool) (e : FE) | dcomp (m : Bool) (own : List Nat) (t : FT) (it : FE) (c : FE) (k v : FE) | dupd (o e : FE)
inductive FG where
  | tgt (t : FT) | sub (o i : FE) | attr (o : FE) (f : Str)
  /-- o.f, o.g, .. = .. -/
  | atup (o : FE) (fs : List Str)
/-- what an except clause returns: e.code; e.code if isinstance(e, S) else .. -/
inductive FX where
  | code | codeIs (S : Str)
inductive FS where
  | pass | brk | cont
  | expr (e : FE) | asg (g : FG) (e : FE) | par (i j : Nat) (a b : FE) | aug (i : Nat) (op : Operator) (e : FE)
  | ret (e : FE) | retN | ite (c : FE) (a b : FS)
  /-- for: the slots that are forgotten behind each turn -/
  | for_ (t : FT) (it : FE) (body : FS) (forget : List Nat)
  | while_ (c : FE) (body : FS) (forget : List Nat)
  | raise (c : Str) (as : FE)
  /-- try: body; except c as (slot i): return x -/
  | try_ (body : FS) (c : Str) (i : Nat) (x : FX)
  | snil | scons (s ss : FS)

/-! ### semantics -/
structure Cfg where
  /-- a def of the text; a method is C.m -/
  call : Str → List D → Hs → R D
  /-- C.__init__ of a new object -/
  init : Str → List D → Hs → R D
  /-- the classes -/
  clss : List Str
  /-- the module's constants -/
  glob : Str → Option D
  /-- the most turns of a while -/
  big : Nat

def wipe (ls : Ls) : List Nat → Ls
  | [] => ls
  | v :: vs => (wipe ls vs).set v none
mutual
def asgT : FT → D → Ls → Option Ls
  | .name i, d, ls => if i < ls.length then some (ls.set i (some d)) else none
  | .tup ts, d, ls => match d with
    | .tup xs => asgTs ts xs ls
    | _ => none
  | .tnil, _, _ => none
  | .tcons _ _, _, _ => none
def asgTs : FT → List D → Ls → Option Ls
  | .tnil, xs, ls => match xs with
    | [] => some ls
    | _ => none
  | .tcons t ts, xs, ls => match xs with
    | x :: xs => (asgT t x ls).bind fun ls' => asgTs ts xs ls'
    | [] => none
  | .name _, _, _ => none
  | .tup _, _, _ => none
end
/-- the cells at ns are as they were -/
def same (ns : List Nat) (h0 h : Hs) : Prop := ∀ n ∈ ns, h[n]? = h0[n]?
open Classical in
/-- the turns of a comprehension -/
noncomputable def compL (ns : List Nat) (h0 : Hs) (step : D → Hs → R (Option D)) : List D → Hs → R (List D)
  | [], h => .ok [] h
  | x :: xs, h => (step x h).must fun y h1 => if same ns h0 h1 then (compL ns h0 step xs h1).must fun ys h2 => .ok (match y with | some y => y :: ys | none => ys) h2 else .bad
def enumFrom (n : Nat) : List D → List D
  | [] => []
  | x :: xs => .tup [.int n, x] :: enumFrom (n + 1) xs
def zipD : List D → List D → List D
  | x :: xs, y :: ys => .tup [x, y] :: zipD xs ys
  | _, _ => []
def small (i : Int) : Prop := -(2 ^ 62) ≤ i ∧ i < 2 ^ 62
noncomputable instance (i : Int) : Decidable (small i) := Classical.propDecidable _
/-- what a for walks: a list, a tuple, the keys of a dict that is never written again -/
def itemsK (h : Hs) : D → Option (List D)
  | .fd ks _ => some ks
  | d => itemsD h d
/-- the cell of a list that is walked -/
def placeD : D → List Nat
  | .loc n => [n]
  | _ => []
def enumI (vs : List D) (h : Hs) : R (List D × List Nat) := match vs with
  | [x] => R.ofO h ((itemsD h x).map fun xs => (enumFrom 0 xs, placeD x))
  | _ => .bad
def zipI (vs : List D) (h : Hs) : R (List D × List Nat) := match vs with
  | [x, y] => match itemsD h x, itemsD h y with
    | some xs, some ys => .ok (zipD xs ys, placeD x ++ placeD y) h
    | _, _ => .bad
  | _ => .bad
open Classical in
/-- the turns of a dict comprehension -/
noncomputable def dcompL (ns : List Nat) (h0 : Hs) (step : D → Hs → R (Option (D × D))) : List D → List (D × D) → Hs → R (List (D × D))
  | [], acc, h => .ok acc h
  | x :: xs, acc, h => (step x h).must fun y h1 => if same ns h0 h1 then (match y with
      | some (k, v) => match k.key with
        | some nk => if keyOk k = true ∧ acc.length < sizeLine then dcompL ns h0 step xs (dput nk k v acc) h1 else .bad
        | none => .bad
      | none => dcompL ns h0 step xs acc h1) else .bad
/-- an instance of c, without a field m -/
def isObj (c m : Str) (h : Hs) : D → Bool
  | .loc n => match h[n]? with
    | some (.obj c' fs) => decide (c' = c) && (fs.lookup m).isNone
    | _ => false
  | _ => false
def isDict (h : Hs) : D → Bool
  | .loc n => (mdictAt h n).isSome
  | _ => false
/-- o.update(e) -/
def dupdD (o e : D) (h : Hs) : R D := match o with
  | .loc n => match mdictAt h n, dictD h e with
    | some kvs, some more => if kvs.length + more.length ≤ sizeLine ∧ e.isFd = true then .ok .non (h.set n (.dict (dmerge kvs more))) else .bad
    | _, _ => .bad
  | _ => .bad
def revD (m : Bool) (a : D) (h : Hs) : R D := match lstD h a with
  | some xs => newM m h xs.reverse
  | none => .bad
/-- sorted(d.values()) -/
noncomputable def svalsD (m : Bool) (x : D) (h : Hs) : R D := match x with
  | .loc n => match (mdictAt h n).bind fun kvs => sortD h (kvs.map (·.2)) with
    | some ds => newM m h ds
    | none => .bad
  | _ => .bad
mutual
noncomputable def ev (Γ : Cfg) : FE → Ls → Hs → R D
  | .var i, ls, h => match ls[i]? with
    | some (some d) => .ok d h
    | _ => .bad
  | .cst d, _, h => .ok d h
  | .glob x, _, h => R.ofO h (Γ.glob x)
  | .bin m op a b, ls, h => (ev Γ a ls h).bind fun x h1 => (ev Γ b ls h1).bind fun y h2 => binD m op x y h2
  | .neg a, ls, h => (ev Γ a ls h).bind negD
  | .not a, ls, h => (ev Γ a ls h).bind fun x h1 => R.ofO h1 ((truth h1 x).map fun b => .bl (!b))
  | .cmp op a b, ls, h => (ev Γ a ls h).bind fun x h1 => (ev Γ b ls h1).bind fun y h2 => R.ofO h2 ((cmpD op h2 x y).map .bl)
  | .chain op op' a b c, ls, h => (ev Γ a ls h).bind fun x h1 => (ev Γ b ls h1).bind fun y h2 => (R.ofO h2 (cmpD op h2 x y)).bind fun k h2 => if k = true then
      (ev Γ c ls h2).bind fun z h3 => R.ofO h3 ((cmpD op' h3 y z).map .bl) else .ok (.bl false) h2
  | .and a b, ls, h => (ev Γ a ls h).bind fun x h1 => (R.ofO h1 (truth h1 x)).bind fun k h1 => if k = true then ev Γ b ls h1 else .ok x h1
  | .or a b, ls, h => (ev Γ a ls h).bind fun x h1 => (R.ofO h1 (truth h1 x)).bind fun k h1 => if k = true then .ok x h1 else ev Γ b ls h1
  | .ite c a b, ls, h => (ev Γ c ls h).bind fun x h1 => (R.ofO h1 (truth h1 x)).bind fun k h1 => if k = true then ev Γ a ls h1 else ev Γ b ls h1
  | .tup as, ls, h => (evs Γ as ls h).bind fun xs h1 => if xs.length ≤ sizeLine then .ok (.tup xs) h1 else .bad
  | .lst m as, ls, h => (evs Γ as ls h).bind fun xs h1 => if xs.length ≤ sizeLine then newM m h1 xs else .bad
  | .anil, _, _ => .bad
  | .acons _ _, _, _ => .bad
  | .idx a i, ls, h => (ev Γ a ls h).bind fun x h1 => (ev Γ i ls h1).bind fun y h2 => idxD x y h2
  | .slice m a lo hi, ls, h => (ev Γ a ls h).bind fun x h1 => (evPart Γ lo ls h1).bind fun l h2 => (evPart Γ hi ls h2).bind fun u h3 => sliceD m x l u h3
  | .nopart, _, _ => .bad
  | .part _, _, _ => .bad
  | .call m f as, ls, h => gcX m h ((evs Γ as ls h).bind fun xs h1 => Γ.call f xs h1)
  | .new c as, ls, h => (evs Γ as ls h).bind fun xs h1 => (Γ.init c (.loc h1.length :: xs) (h1 ++ [.obj c []])).bind fun d h2 => if isNon d = true then .ok (.loc h1.length) h2 else .bad
  | .meth b c m o as, ls, h => gcX b h ((ev Γ o ls h).bind fun x h1 => if isObj c m h1 x = true then (evs Γ as ls h1).bind fun xs h2 => Γ.call (c ++ "." ++ m) (x :: xs) h2 else .bad)
  | .attr o f, ls, h => (ev Γ o ls h).bind fun x h1 => getF Γ.clss x f h1
  | .bcall m b as, ls, h => (evs Γ as ls h).bind fun xs h1 => btD m b xs h1
  | .bmeth m o as, ls, h => (ev Γ o ls h).bind fun x h1 => if isLst h1 x = true then (evs Γ as ls h1).bind fun xs h2 => bmD m x xs h2 else .bad
  | .comp m own t it c e, ls, h => (evI Γ it ls h).bind fun w h1 => (compL w.2 h1 (fun x h2 => match asgT t x (wipe ls own) with
      | some ls2 => (ev Γ c ls2 h2).bind fun k h3 => (R.ofO h3 (truth h3 k)).bind fun k h3 => if k = true then (ev Γ e ls2 h3).bind fun y h4 => .ok (some y) h4 else .ok none h3
      | none => .bad) w.1 h1).bind fun ys h2 => if ys.length ≤ sizeLine then newM m h2 ys else .bad
  | .iseq _, _, _ => .bad
  | .irange _, _, _ => .bad
  | .ienum _, _, _ => .bad
  | .izip _, _, _ => .bad
  | .dnil, _, h => .ok (.loc h.length) (h ++ [.dict []])
  | .svals m e, ls, h => (ev Γ e ls h).bind fun x h1 => svalsD m x h1
  | .rev m e, ls, h => (ev Γ e ls h).bind fun x h1 => revD m x h1
  | .dcomp m own t it c k v, ls, h => (evI Γ it ls h).bind fun w h1 => (dcompL w.2 h1 (fun x h2 => match asgT t x (wipe ls own) with
      | some ls2 => (ev Γ c ls2 h2).bind fun b h3 => (R.ofO h3 (truth h3 b)).bind fun b h3 => if b = true then (ev Γ k ls2 h3).bind fun y h4 => (ev Γ v ls2 h4).bind fun z h5 => .ok (some (y, z)) h5 else .ok none h3
      | none => .bad) w.1 [] h1).bind fun kvs h2 => newD m h2 kvs
  | .dupd o e, ls, h => (ev Γ o ls h).bind fun x h1 => if isDict h1 x = true then (ev Γ e ls h1).bind fun y h2 => dupdD x y h2 else .bad
  | .dget1 o k, ls, h => (ev Γ o ls h).bind fun x h1 => if (dictD h1 x).isSome = true then (ev Γ k ls h1).bind fun y h2 => dgetD x y .non h2 else .bad
  | .dget o k c, ls, h => (ev Γ o ls h).bind fun x h1 => if (dictD h1 x).isSome = true then (ev Γ k ls h1).bind fun y h2 => (ev Γ c ls h2).bind fun z h3 => dgetD x y z h3 else .bad
  | .dsetd o k c, ls, h => (ev Γ o ls h).bind fun x h1 => if isDict h1 x = true then (ev Γ k ls h1).bind fun y h2 => (ev Γ c ls h2).bind fun z h3 => dsetdD x y z h3 else .bad
  | .ddisp m as, ls, h => (evs Γ as ls h).bind fun xs h1 => match pairsU xs with
    | some kvs => if kvs.length ≤ 15 then newD m h1 (dmerge [] kvs) else .bad
    | none => .bad
  | .sset m e, ls, h => (ev Γ e ls h).bind fun x h1 => match setOf h1 x with
    | some ns => newM m h1 ((setI ns).map .int)
    | none => .bad
  | .lset e, ls, h => (ev Γ e ls h).bind fun x h1 => R.ofO h1 ((setOf h1 x).map fun ns => .int (ddI ns).length)
noncomputable def evs (Γ : Cfg) : FE → Ls → Hs → R (List D)
  | .anil, _, h => .ok [] h
  | .acons a as, ls, h => (ev Γ a ls h).bind fun x h1 => (evs Γ as ls h1).bind fun xs h2 => .ok (x :: xs) h2
  | _, _, _ => .bad
/-- a part of a slice -/
noncomputable def evPart (Γ : Cfg) : FE → Ls → Hs → R (Option Int)
  | .nopart, _, h => .ok none h
  | .part e, ls, h => (ev Γ e ls h).bind fun x h1 => match x with
    | .int i => .ok (some i) h1
    | _ => .bad
  | _, _, _ => .bad
/-- what is walked: its items, the cells that must stay as they are -/
noncomputable def evI (Γ : Cfg) : FE → Ls → Hs → R (List D × List Nat)
  | .iseq e, ls, h => (ev Γ e ls h).bind fun x h1 => R.ofO h1 ((itemsK h1 x).map fun xs => (xs, placeD x))
  | .irange as, ls, h => (evs Γ as ls h).bind fun xs h1 => match xs with
    | [.int j] => if small j then .ok (rangeD 0 j, []) h1 else .bad
    | [.int i, .int j] => if small i ∧ small j then .ok (rangeD i j, []) h1 else .bad
    | _ => .bad
  | .ienum as, ls, h => (evs Γ as ls h).bind fun vs h1 => enumI vs h1
  | .izip as, ls, h => (evs Γ as ls h).bind fun vs h1 => zipI vs h1
  | _, _, _ => .bad
end

/-! ### statements -/
/-- an expression's result, then a statement's -/
def R.andS {α : Type} (r : R α) (ls : Ls) (f : α → Hs → RS) : RS := match r with
  | .ok a h => f a h
  | .exc c fs h => .exc c fs ls h
  | .bad => .bad
@[simp] theorem andS_ok {α : Type} (a : α) (h : Hs) (ls : Ls) (f : α → Hs → RS) : (R.ok a h).andS ls f = f a h := by cases h <;> rfl
@[simp] theorem andS_exc {α : Type} (c : Str) (fs : List (Str × D)) (h : Hs) (ls : Ls) (f : α → Hs → RS) : (R.exc c fs h : R α).andS ls f = .exc c fs ls h := rfl
@[simp] theorem andS_bad {α : Type} (ls : Ls) (f : α → Hs → RS) : (R.bad : R α).andS ls f = .bad := rfl
@[simp] theorem andS_ite {α : Type} (p : Prop) [Decidable p] (a b : R α) (ls : Ls) (f : α → Hs → RS) : (if p then a else b).andS ls f = if p then a.andS ls f else b.andS ls f := by split <;> rfl
def RS.andN (r : RS) (f : Ls → Hs → RS) : RS := match r with
  | .nx ls h => f ls h
  | r => r
@[simp] theorem andN_nx (ls : Ls) (h : Hs) (f : Ls → Hs → RS) : (RS.nx ls h).andN f = f ls h := by cases h <;> rfl
@[simp] theorem andN_bk (ls : Ls) (h : Hs) (f : Ls → Hs → RS) : (RS.bk ls h).andN f = .bk ls h := rfl
@[simp] theorem andN_ct (ls : Ls) (h : Hs) (f : Ls → Hs → RS) : (RS.ct ls h).andN f = .ct ls h := rfl
@[simp] theorem andN_rt (d : D) (h : Hs) (f : Ls → Hs → RS) : (RS.rt d h).andN f = .rt d h := rfl
@[simp] theorem andN_exc (c : Str) (fs : List (Str × D)) (ls : Ls) (h : Hs) (f : Ls → Hs → RS) : (RS.exc c fs ls h).andN f = .exc c fs ls h := rfl
@[simp] theorem andN_bad (f : Ls → Hs → RS) : RS.bad.andN f = .bad := rfl
@[simp] theorem andN_ite (p : Prop) [Decidable p] (a b : RS) (f : Ls → Hs → RS) : (if p then a else b).andN f = if p then a.andN f else b.andN f := by split <;> rfl

/-- behind a turn: go on with the slots but fg, or leave -/
def turnEnd (fg : List Nat) (r : RS) (go : Ls → Hs → RS) : RS := match r with
  | .nx ls h => go (wipe ls fg) h
  | .ct ls h => go (wipe ls fg) h
  | .bk ls h => .nx (wipe ls fg) h
  | r => r
open Classical in
noncomputable def forL (fg : List Nat) (ns : List Nat) (h0 : Hs) (step : D → Ls → Hs → RS) : List D → Ls → Hs → RS
  | [], ls, h => .nx ls h
  | x :: xs, ls, h => turnEnd fg (step x ls h) fun ls1 h1 => if same ns h0 h1 then forL fg ns h0 step xs ls1 h1 else .bad
def whileL (fg : List Nat) (c : Ls → Hs → R Bool) (body : Ls → Hs → RS) : Nat → Ls → Hs → RS
  | 0, _, _ => .bad
  | k + 1, ls, h => (c ls h).andS ls fun b h1 => if b = true then turnEnd fg (body ls h1) fun ls1 h2 => whileL fg c body k ls1 h2 else .nx ls h1
noncomputable def evT (Γ : Cfg) (c : FE) (ls : Ls) (h : Hs) : R Bool := (ev Γ c ls h).bind fun x h1 => R.ofO h1 (truth h1 x)
/-- o.f = .., o.g = .., .. -/
noncomputable def asgA (Γ : Cfg) (o : FE) (ls : Ls) : List Str → List D → Hs → R Unit
  | [], [], h => .ok () h
  | f :: fs, d :: ds, h => (ev Γ o ls h).bind fun x h1 => (setF Γ.clss x f d h1).bind fun _ h2 => asgA Γ o ls fs ds h2
  | _, _, _ => .bad
noncomputable def asgG (Γ : Cfg) (g : FG) (d : D) (ls : Ls) (h : Hs) : RS := match g with
  | .tgt t => match asgT t d ls with
    | some ls1 => .nx ls1 h
    | none => .bad
  | .sub o i => (ev Γ o ls h).andS ls fun x h1 => (ev Γ i ls h1).andS ls fun y h2 => (setIdx x y d h2).andS ls fun _ h3 => .nx ls h3
  | .attr o f => (ev Γ o ls h).andS ls fun x h1 => (setF Γ.clss x f d h1).andS ls fun _ h2 => .nx ls h2
  | .atup o fs => match d with
    | .tup xs => if xs.length = fs.length then (asgA Γ o ls fs xs h).andS ls fun _ h1 => .nx ls h1 else .bad
    | _ => .bad
noncomputable def augRes (op : Operator) (x y : D) (ls : Ls) (i : Nat) (h1 : Hs) : RS := match x, y with
  | .int k, .int l => match op, binI op k l with
    | .Add, some z => .nx (ls.set i (some (.int z))) h1
    | .Sub, some z => .nx (ls.set i (some (.int z))) h1
    | .Mult, some z => .nx (ls.set i (some (.int z))) h1
    | _, _ => .bad
  | _, _ => .bad
def raiseR (c : Str) (vs : List D) (ls : Ls) (h : Hs) : RS := match vs with
  | [.str y] => if y.length ≤ 1000 then .exc c [("code", .str y)] ls h else .bad
  | _ => .bad
def catchR (c : Str) (i : Nat) (r : RS) : RS := match r with
  | .exc c' fs ls h => if c' = c ∧ i < ls.length then (match fs with
    | [(f, d)] => if f = "code" then .rt d h else .bad
    | _ => .bad) else .bad
  | r => r
noncomputable def evS (Γ : Cfg) : FS → Ls → Hs → RS
  | .pass, ls, h => .nx ls h
  | .brk, ls, h => .bk ls h
  | .cont, ls, h => .ct ls h
  | .expr e, ls, h => (ev Γ e ls h).andS ls fun _ h1 => .nx ls h1
  | .asg g e, ls, h => (ev Γ e ls h).andS ls fun d h1 => asgG Γ g d ls h1
  | .par i j a b, ls, h => (ev Γ a ls h).andS ls fun x h1 => (ev Γ b ls h1).andS ls fun y h2 => if i < ls.length ∧ j < ls.length then .nx ((ls.set i (some x)).set j (some y)) h2 else .bad
  | .aug i op e, ls, h => match ls[i]? with
    | some (some x) => (ev Γ e ls h).andS ls fun y h1 => augRes op x y ls i h1
    | _ => .bad
  | .ret e, ls, h => (ev Γ e ls h).andS ls fun d h1 => .rt d h1
  | .retN, _, h => .rt .non h
  | .ite c a b, ls, h => (evT Γ c ls h).andS ls fun k h1 => if k = true then evS Γ a ls h1 else evS Γ b ls h1
  | .for_ t it body fg, ls, h => (evI Γ it ls h).andS ls fun w h1 => forL fg w.2 h1 (fun x ls1 h2 => match asgT t x ls1 with
      | some ls2 => evS Γ body ls2 h2
      | none => .bad) w.1 ls h1
  | .while_ c body fg, ls, h => whileL fg (evT Γ c) (evS Γ body) Γ.big ls h
  | .raise c as, ls, h => (evs Γ as ls h).andS ls fun vs h1 => raiseR c vs ls h1
  | .try_ body c i _, ls, h => catchR c i (evS Γ body ls h)
  | .snil, ls, h => .nx ls h
  | .scons s ss, ls, h => (evS Γ s ls h).andN fun ls1 h1 => evS Γ ss ls1 h1

/-! ### defs -/
structure FDef where
  /-- how many parameters, how many names -/
  np : Nat
  nn : Nat
  body : FS
def startL (np nn : Nat) (vs : List D) : Ls := vs.map some ++ List.replicate (nn - np) none
/-- a def's end as a call's -/
def RS.call : RS → R D
  | .nx _ h => .ok .non h
  | .rt d h => .ok d h
  | .exc c fs _ h => .exc c fs h
  | _ => .bad
@[simp] theorem call_nx (ls : Ls) (h : Hs) : (RS.nx ls h).call = .ok .non h := rfl
@[simp] theorem call_rt (d : D) (h : Hs) : (RS.rt d h).call = .ok d h := rfl
@[simp] theorem call_exc (c : Str) (fs : List (Str × D)) (ls : Ls) (h : Hs) : (RS.exc c fs ls h).call = .exc c fs h := rfl
structure Prog where
  defs : List (Str × FDef)
  glob : List (Str × D)
  big : Nat
  clss : List Str := []
/-- the text's defs, to a depth of calls; and to one less -/
noncomputable def Prog.both (P : Prog) : Nat → (Str → List D → Hs → R D) × (Str → List D → Hs → R D)
  | 0 => (fun _ _ _ => .bad, fun _ _ _ => .bad)
  | k + 1 => (fun f vs h => match List.lookup f P.defs with
      | some d => if vs.length = d.np then (evS ⟨(P.both k).1, fun c => (P.both k).2 (c ++ ".__init__"), P.clss, fun x => List.lookup x P.glob, P.big⟩ d.body (startL d.np d.nn vs) h).call else .bad
      | none => .bad, (P.both k).1)
noncomputable def Prog.call (P : Prog) (k : Nat) : Str → List D → Hs → R D := (P.both k).1
/-- to one depth less -/
noncomputable def Prog.low (P : Prog) : Nat → Str → List D → Hs → R D
  | 0 => fun _ _ _ => .bad
  | k + 1 => P.call k
theorem Prog.low_eq (P : Prog) : ∀ k, (P.both k).2 = P.low k
  | 0 => rfl
  | _ + 1 => rfl
noncomputable def Prog.cfg (P : Prog) (k : Nat) : Cfg := ⟨P.call k, fun c => P.low k (c ++ ".__init__"), P.clss, fun x => List.lookup x P.glob, P.big⟩
theorem Prog.call_zero (P : Prog) (f : Str) (vs : List D) (h : Hs) : P.call 0 f vs h = .bad := rfl
theorem Prog.call_succ (P : Prog) (k : Nat) (f : Str) (vs : List D) (h : Hs) : P.call (k + 1) f vs h = match List.lookup f P.defs with
    | some d => if vs.length = d.np then (evS (P.cfg k) d.body (startL d.np d.nn vs) h).call else .bad
    | none => .bad := by
  unfold Prog.call Prog.cfg
  rw [← P.low_eq k]
  rfl
end FL
set_option autoImplicit false
set_option linter.all false
set_option maxRecDepth 100000
/-! FL, part B: how FL's values and cells stand in the layer's heap; what is wanted behind an expression. -/
namespace FL
open PySem L2

/-- the text -/
structure Tx where
  P : Program
  w : World
  K : PySem.W.Frag
  mg : Str → Option Value
abbrev txOf (X : Cx) : Tx := ⟨X.prog, X.w, X.K, X.mg⟩

mutual
inductive RD (K : PySem.W.Frag) (H : Hp) (ρ : List Addr) : D → V → Prop
  | non : RD K H ρ .non .non
  | bl (b : Bool) : RD K H ρ (.bl b) (.bl b)
  | int (i : Int) : RD K H ρ (.int i) (.int i)
  | str (s : Str) : RD K H ρ (.str s) (.str s)
  | tup {ds : List D} {a : Addr} {vs : List V} : SqT K H a vs → RDs K H ρ ds vs → RD K H ρ (.tup ds) (.ref a)
  | loc {n : Nat} {a : Addr} : ρ[n]? = some a → RD K H ρ (.loc n) (.ref a)
  | fl {ds : List D} {a : Addr} {vs : List V} {o : Obj} : H a = some (.frz o (.lst vs)) → RDs K H ρ ds vs → RD K H ρ (.fl ds) (.ref a)
  | fd {ks ds : List D} {a : Addr} {gs : List (L2.Key × V)} {us : List V} {o : Obj} : H a = some (.frz o (.dK gs)) → ks.map scalK = gs.map (fun p => some p.1) → us = gs.map (·.2) → RDs K H ρ ds us → RD K H ρ (.fd ks ds) (.ref a)
inductive RDs (K : PySem.W.Frag) (H : Hp) (ρ : List Addr) : List D → List V → Prop
  | nil : RDs K H ρ [] []
  | cons {d : D} {v : V} {ds : List D} {vs : List V} : RD K H ρ d v → RDs K H ρ ds vs → RDs K H ρ (d :: ds) (v :: vs)
end

/-- the tuples stay, and all that is never written -/
def Keeps (H H' : Hp) : Prop := (∀ a xs, Rd H a (.tup xs) → Rd H' a (.tup xs)) ∧ ∀ (a : Addr) (o : Obj) (u : HO), H a = some (.frz o u) → H' a = some (.frz o u)
theorem Keeps.refl (H : Hp) : Keeps H H := ⟨fun _ _ h => h, fun _ _ _ h => h⟩
theorem Keeps.trans {H H1 H2 : Hp} (a : Keeps H H1) (b : Keeps H1 H2) : Keeps H H2 := ⟨fun c xs h => b.1 c xs (a.1 c xs h), fun c o u h => b.2 c o u (a.2 c o u h)⟩
theorem Keeps.sqT {K : PySem.W.Frag} {H H' : Hp} (k : Keeps H H') {a : Addr} {xs : List V} (h : SqT K H a xs) : SqT K H' a xs := by
  rcases h with h | h
  · exact .inl (k.1 _ _ h)
  · exact .inr h
theorem Keeps.new {H : Hp} {p : Addr} {o : HO} (hp : H p = none) : Keeps H (upd H p o) := ⟨fun a xs h => by
  rcases h with h | ⟨ob, h⟩
  · exact .inl (by rw [upd_ne (ne_of_none h hp)]; exact h)
  · exact .inr ⟨ob, by rw [upd_ne (ne_of_none h hp)]; exact h⟩, fun a o u h => by rw [upd_ne (ne_of_none h hp)]; exact h⟩
theorem Keeps.put {H : Hp} {p : Addr} {o u : HO} (hp : H p = some u) (h1 : ∀ xs, u ≠ .tup xs) (h2 : ∀ ob v, u ≠ .frz ob v) : Keeps H (upd H p o) := ⟨fun a xs h => by
  have ne : a ≠ p := by
    rintro rfl
    rcases h with h | ⟨ob, h⟩
    · rw [hp] at h; exact h1 xs (Option.some.inj h)
    · rw [hp] at h; exact h2 ob _ (Option.some.inj h)
  rcases h with h | ⟨ob, h⟩
  · exact .inl (by rw [upd_ne ne]; exact h)
  · exact .inr ⟨ob, by rw [upd_ne ne]; exact h⟩, fun a ob v h => by
  have ne : a ≠ p := by
    rintro rfl
    rw [hp] at h; exact h2 ob v (Option.some.inj h)
  rw [upd_ne ne]; exact h⟩

/-- more places -/
def Ext (ρ ρ' : List Addr) : Prop := ∀ (n : Nat) (a : Addr), ρ[n]? = some a → ρ'[n]? = some a
theorem Ext.refl (ρ : List Addr) : Ext ρ ρ := fun _ _ h => h
theorem Ext.trans {ρ ρ1 ρ2 : List Addr} (a : Ext ρ ρ1) (b : Ext ρ1 ρ2) : Ext ρ ρ2 := fun n x h => b n x (a n x h)
theorem Ext.app (ρ more : List Addr) : Ext ρ (ρ ++ more) := fun n a h => by
  rw [List.getElem?_append_left (List.getElem?_eq_some_iff.mp h).1]; exact h
theorem Ext.len {ρ ρ' : List Addr} (e : Ext ρ ρ') : ρ.length ≤ ρ'.length := by
  by_cases h : ρ.length = 0
  · omega
  · have hl : ρ.length - 1 < ρ.length := by omega
    have := e (ρ.length - 1) _ (List.getElem?_eq_getElem hl)
    have := (List.getElem?_eq_some_iff.mp this).1
    omega

mutual
theorem RD.mono {K : PySem.W.Frag} {H H' : Hp} {ρ ρ' : List Addr} (k : Keeps H H') (e : Ext ρ ρ') : ∀ {d : D} {v : V}, RD K H ρ d v → RD K H' ρ' d v
  | .non, _, .non => .non
  | .bl _, _, .bl _ => .bl _
  | .int _, _, .int _ => .int _
  | .str _, _, .str _ => .str _
  | .tup _, _, .tup h hs => .tup (k.sqT h) (RDs.mono k e hs)
  | .loc _, _, .loc h => .loc (e _ _ h)
  | .fl _, _, .fl h hs => .fl (k.2 _ _ _ h) (RDs.mono k e hs)
  | .fd _ _, _, .fd h h2 h3 hs => .fd (k.2 _ _ _ h) h2 h3 (RDs.mono k e hs)
theorem RDs.mono {K : PySem.W.Frag} {H H' : Hp} {ρ ρ' : List Addr} (k : Keeps H H') (e : Ext ρ ρ') : ∀ {ds : List D} {vs : List V}, RDs K H ρ ds vs → RDs K H' ρ' ds vs
  | [], _, .nil => .nil
  | _ :: _, _, .cons h hs => .cons (RD.mono k e h) (RDs.mono k e hs)
end
theorem scal_closed {d : D} {k : L2.Key} (h : scalK d = some k) (n : Nat) : d.closed n = true := by
  cases d <;> first | rfl | cases h
theorem scals_closed {n : Nat} {α : Type} : ∀ {ks : List D} {gs : List (L2.Key × α)}, ks.map scalK = gs.map (fun p => some p.1) → D.closedL n ks = true
  | [], _, _ => rfl
  | d :: ks, [], h => by cases h
  | d :: ks, g :: gs, h => by
    rw [List.map_cons, List.map_cons, List.cons.injEq] at h
    rw [D.closedL, scal_closed h.1, scals_closed h.2]; rfl
mutual
theorem RD.closed {K : PySem.W.Frag} {H : Hp} {ρ : List Addr} : ∀ {d : D} {v : V}, RD K H ρ d v → d.closed ρ.length = true
  | .non, _, .non => rfl
  | .bl _, _, .bl _ => rfl
  | .int _, _, .int _ => rfl
  | .str _, _, .str _ => rfl
  | .tup _, _, .tup h hs => by rw [D.closed]; exact RDs.closed hs
  | .loc _, _, .loc h => by rw [D.closed]; exact decide_eq_true (List.getElem?_eq_some_iff.mp h).1
  | .fl _, _, .fl h hs => by rw [D.closed]; exact RDs.closed hs
  | .fd _ _, _, .fd h h2 h3 hs => by rw [D.closed, RDs.closed hs, scals_closed h2]; rfl
theorem RDs.closed {K : PySem.W.Frag} {H : Hp} {ρ : List Addr} : ∀ {ds : List D} {vs : List V}, RDs K H ρ ds vs → D.closedL ρ.length ds = true
  | [], _, .nil => rfl
  | _ :: _, _, .cons h hs => by rw [D.closedL, RD.closed h, RDs.closed hs]; rfl
end
mutual
theorem RD.down {K : PySem.W.Frag} {H : Hp} {ρ ρ' : List Addr} (e : Ext ρ ρ') : ∀ {d : D} {v : V}, RD K H ρ' d v → d.closed ρ.length = true → RD K H ρ d v
  | .non, _, .non, _ => .non
  | .bl _, _, .bl _, _ => .bl _
  | .int _, _, .int _, _ => .int _
  | .str _, _, .str _, _ => .str _
  | .tup _, _, .tup h hs, c => .tup h (RDs.down e hs (by rw [D.closed] at c; exact c))
  | .loc n, _, .loc h, c => by
    rw [D.closed] at c
    have hn : n < ρ.length := of_decide_eq_true c
    have q := e n _ (List.getElem?_eq_getElem hn)
    rw [h] at q
    exact .loc (by rw [List.getElem?_eq_getElem hn]; exact q.symm)
  | .fl _, _, .fl h hs, c => .fl h (RDs.down e hs (by rw [D.closed] at c; exact c))
  | .fd _ _, _, .fd h h2 h3 hs, c => .fd h h2 h3 (RDs.down e hs (by rw [D.closed, Bool.and_eq_true] at c; exact c.2))
theorem RDs.down {K : PySem.W.Frag} {H : Hp} {ρ ρ' : List Addr} (e : Ext ρ ρ') : ∀ {ds : List D} {vs : List V}, RDs K H ρ' ds vs → D.closedL ρ.length ds = true → RDs K H ρ ds vs
  | [], _, .nil, _ => .nil
  | _ :: _, _, .cons h hs, c => by
    rw [D.closedL, Bool.and_eq_true] at c
    exact .cons (RD.down e h c.1) (RDs.down e hs c.2)
end
section
variable {K : PySem.W.Frag} {H : Hp} {ρ : List Addr}
theorem RDs.length : ∀ {ds : List D} {vs : List V}, RDs K H ρ ds vs → ds.length = vs.length
  | [], _, .nil => rfl
  | _ :: _, _, .cons _ hs => by rw [List.length_cons, List.length_cons, RDs.length hs]
theorem RDs.get : ∀ {ds : List D} {vs : List V} {i : Nat} {d : D}, RDs K H ρ ds vs → ds[i]? = some d → ∃ v, vs[i]? = some v ∧ RD K H ρ d v
  | [], _, _, _, .nil, e => by simp at e
  | _ :: _, _, 0, _, .cons h _, e => by simp at e; subst e; exact ⟨_, rfl, h⟩
  | _ :: _, _, i + 1, d, .cons _ hs, e => by
    obtain ⟨v, h1, h2⟩ := RDs.get (i := i) (d := d) hs (by simpa using e)
    exact ⟨v, by simpa using h1, h2⟩
theorem RDs.getV : ∀ {ds : List D} {vs : List V} {i : Nat} {v : V}, RDs K H ρ ds vs → vs[i]? = some v → ∃ d, ds[i]? = some d ∧ RD K H ρ d v
  | [], _, _, _, .nil, e => by simp at e
  | _ :: _, _, 0, _, .cons h _, e => by simp at e; subst e; exact ⟨_, rfl, h⟩
  | _ :: _, _, i + 1, d, .cons _ hs, e => by
    obtain ⟨v, h1, h2⟩ := RDs.getV (i := i) (v := d) hs (by simpa using e)
    exact ⟨v, by simpa using h1, h2⟩
theorem RDs.append : ∀ {ds es : List D} {vs us : List V}, RDs K H ρ ds vs → RDs K H ρ es us → RDs K H ρ (ds ++ es) (vs ++ us)
  | [], _, _, _, .nil, s => s
  | _ :: _, _, _, _, .cons h hs, s => .cons h (RDs.append hs s)
theorem RDs.take : ∀ {ds : List D} {vs : List V} (n : Nat), RDs K H ρ ds vs → RDs K H ρ (ds.take n) (vs.take n)
  | _, _, 0, _ => .nil
  | [], _, _ + 1, .nil => .nil
  | _ :: _, _, n + 1, .cons h hs => .cons h (RDs.take n hs)
theorem RDs.drop : ∀ {ds : List D} {vs : List V} (n : Nat), RDs K H ρ ds vs → RDs K H ρ (ds.drop n) (vs.drop n)
  | _, _, 0, h => h
  | [], _, _ + 1, .nil => .nil
  | _ :: _, _, n + 1, .cons _ hs => RDs.drop n hs
theorem RDs.set {d : D} {v : V} (r : RD K H ρ d v) : ∀ {ds : List D} {vs : List V} (i : Nat), RDs K H ρ ds vs → RDs K H ρ (ds.set i d) (vs.set i v)
  | [], _, _, .nil => .nil
  | _ :: _, _, 0, .cons _ hs => .cons r hs
  | _ :: _, _, i + 1, .cons h hs => .cons h (RDs.set r i hs)
theorem RDs.eraseIdx : ∀ {ds : List D} {vs : List V} (i : Nat), RDs K H ρ ds vs → RDs K H ρ (ds.eraseIdx i) (vs.eraseIdx i)
  | [], _, _, .nil => .nil
  | _ :: _, _, 0, .cons _ hs => hs
  | _ :: _, _, i + 1, .cons h hs => .cons h (RDs.eraseIdx i hs)
theorem RDs.dropLast {ds : List D} {vs : List V} (h : RDs K H ρ ds vs) : RDs K H ρ ds.dropLast vs.dropLast := by
  rw [List.dropLast_eq_take, List.dropLast_eq_take, h.length]; exact h.take _
theorem RDs.replicate {ds : List D} {vs : List V} (h : RDs K H ρ ds vs) : ∀ n : Nat, RDs K H ρ (List.replicate n ds).flatten (List.replicate n vs).flatten
  | 0 => .nil
  | n + 1 => by rw [List.replicate_succ, List.replicate_succ, List.flatten_cons, List.flatten_cons]; exact h.append (RDs.replicate h n)
theorem RDs.ints : ∀ (is : List Int), RDs K H ρ (is.map .int) (is.map V.int)
  | [] => .nil
  | i :: is => .cons (.int i) (RDs.ints is)
end

/-! ### cells -/
def fieldsR (K : PySem.W.Frag) (H : Hp) (ρ : List Addr) (fs : List (Str × D)) (gs : List (Str × V)) : Prop := Paired (fun (p : Str × D) (q : Str × V) => p.1 = q.1 ∧ RD K H ρ p.2 q.2) fs gs
/-- a list that is read alone: known to the object, or the module's own -/
def FrL (K : PySem.W.Frag) (H : Hp) (a : Addr) (xs : List V) : Prop := (∃ o, H a = some (.frz o (.lst xs))) ∨
  ∃ (o : Obj) (its : Array Value) (n : Nat), K.lookup a = some o ∧ o.cls = .type "list" ∧ o.dict = none ∧ o.data = .seq its n ∧ its.size ≤ sizeLine ∧ Vals xs its.toList
theorem FrL.sq {K : PySem.W.Frag} {H : Hp} {a : Addr} {xs : List V} (h : FrL K H a xs) : SqL K H a xs := by
  rcases h with h | h
  · exact .inl (.inr h)
  · exact .inr h
/-- a dict's items: keys that are ints and texts -/
def KS (K : PySem.W.Frag) (H : Hp) (ρ : List Addr) (kvs : List (D × D)) (vs : List (L2.Key × V)) : Prop := Paired (fun (p : D × D) (q : L2.Key × V) => scalK p.1 = some q.1 ∧ RD K H ρ p.2 q.2) kvs vs
theorem KS.mono {K : PySem.W.Frag} {H H' : Hp} {ρ ρ' : List Addr} (k : Keeps H H') (e : Ext ρ ρ') {fs : List (D × D)} {gs : List (L2.Key × V)} (h : KS K H ρ fs gs) : KS K H' ρ' fs gs :=
  Paired.mapP h fun _ _ ⟨h1, h2⟩ => ⟨h1, h2.mono k e⟩
theorem KS.closed {K : PySem.W.Frag} {H : Hp} {ρ : List Addr} : ∀ {fs : List (D × D)} {gs : List (L2.Key × V)}, KS K H ρ fs gs → D.closedL ρ.length (fs.map (·.1)) = true ∧ D.closedL ρ.length (fs.map (·.2)) = true
  | _, _, .nil => ⟨rfl, rfl⟩
  | _, _, .cons h hs => by
    obtain ⟨z1, z2⟩ := KS.closed hs
    rw [List.map_cons, List.map_cons, D.closedL, D.closedL, h.2.closed, scal_closed h.1, z1, z2]; exact ⟨rfl, rfl⟩
theorem KS.down {K : PySem.W.Frag} {H : Hp} {ρ ρ' : List Addr} (e : Ext ρ ρ') : ∀ {fs : List (D × D)} {gs : List (L2.Key × V)}, KS K H ρ' fs gs → D.closedL ρ.length (fs.map (·.2)) = true → KS K H ρ fs gs
  | _, _, .nil, _ => .nil
  | _, _, .cons h hs, c => by
    rw [List.map_cons, D.closedL, Bool.and_eq_true] at c
    exact .cons ⟨h.1, h.2.down e c.1⟩ (KS.down e hs c.2)
theorem KS.length {K : PySem.W.Frag} {H : Hp} {ρ : List Addr} {fs : List (D × D)} {gs : List (L2.Key × V)} (h : KS K H ρ fs gs) : fs.length = gs.length := Paired.length h
theorem scal_key {d e : D} {k l : L2.Key} {nk : NestedKey} (hd : scalK d = some k) (he : scalK e = some l) (hk : e.key = some nk) : d.key = some nk ↔ k = l := by
  cases d <;> cases hd <;> cases e <;> cases he <;> simp only [D.key, Option.some.injEq] at hk ⊢ <;> subst hk <;> simp
theorem KS.find {K : PySem.W.Frag} {H : Hp} {ρ : List Addr} {e : D} {l : L2.Key} {nk : NestedKey} (he : scalK e = some l) (hk : e.key = some nk) : ∀ {fs : List (D × D)} {gs : List (L2.Key × V)}, KS K H ρ fs gs →
    (∀ d, dfind nk fs = some d → ∃ v, valV gs l = some v ∧ RD K H ρ d v) ∧ (dfind nk fs = none → valV gs l = none)
  | _, _, .nil => ⟨fun d h => by simp [dfind] at h, fun _ => rfl⟩
  | (x, d0) :: fs, (y, v0) :: gs, .cons h hs => by
    obtain ⟨h1, h2⟩ := h
    have ik := scal_key h1 he hk
    by_cases c : x.key = some nk
    · have c2 : y = l := ik.mp c
      rw [valV_pos c2]
      unfold dfind
      rw [List.find?_cons_of_pos (by simpa using c)]
      exact ⟨fun d q => ⟨v0, rfl, by rw [← Option.some.inj q]; exact h2⟩, fun q => nomatch q⟩
    · have c2 : ¬ y = l := fun z => c (ik.mpr z)
      rw [valV_neg c2]
      unfold dfind
      rw [List.find?_cons_of_neg (by simpa using c)]
      exact KS.find he hk hs
theorem KS.any {K : PySem.W.Frag} {H : Hp} {ρ : List Addr} {e : D} {l : L2.Key} {nk : NestedKey} (he : scalK e = some l) (hk : e.key = some nk) : ∀ {fs : List (D × D)} {gs : List (L2.Key × V)}, KS K H ρ fs gs →
    (fs.any fun p => decide (p.1.key = some nk)) = gs.any fun kv => decide (kv.1 = l)
  | _, _, .nil => rfl
  | (x, d0) :: fs, (y, v0) :: gs, .cons h hs => by
    rw [List.any_cons, List.any_cons, KS.any he hk hs]
    congr 1
    exact decide_eq_decide.mpr (scal_key h.1 he hk)
theorem KS.repl {K : PySem.W.Frag} {H : Hp} {ρ : List Addr} {e d : D} {v : V} {l : L2.Key} {nk : NestedKey} (he : scalK e = some l) (hk : e.key = some nk) (rd : RD K H ρ d v) : ∀ {fs : List (D × D)} {gs : List (L2.Key × V)}, KS K H ρ fs gs →
    KS K H ρ (fs.map fun p => if p.1.key = some nk then (p.1, d) else p) (gs.map fun kv => if kv.1 = l then (kv.1, v) else kv)
  | _, _, .nil => .nil
  | (x, d0) :: fs, (y, v0) :: gs, .cons h hs => by
    rw [List.map_cons, List.map_cons]
    refine .cons ?_ (KS.repl he hk rd hs)
    have ik := scal_key h.1 he hk
    by_cases c : x.key = some nk
    · have c2 : y = l := ik.mp c
      rw [if_pos c, if_pos c2]; exact ⟨h.1, rd⟩
    · have c2 : ¬ y = l := fun z => c (ik.mpr z)
      rw [if_neg c, if_neg c2]; exact h
theorem KS.snoc {K : PySem.W.Frag} {H : Hp} {ρ : List Addr} {e d : D} {v : V} {l : L2.Key} (he : scalK e = some l) (rd : RD K H ρ d v) : ∀ {fs : List (D × D)} {gs : List (L2.Key × V)}, KS K H ρ fs gs → KS K H ρ (fs ++ [(e, d)]) (gs ++ [(l, v)])
  | _, _, .nil => .cons ⟨he, rd⟩ .nil
  | _, _, .cons h hs => .cons h (KS.snoc he rd hs)
theorem KS.put {K : PySem.W.Frag} {H : Hp} {ρ : List Addr} {e d : D} {v : V} {l : L2.Key} {nk : NestedKey} (he : scalK e = some l) (hk : e.key = some nk) (rd : RD K H ρ d v) {fs : List (D × D)} {gs : List (L2.Key × V)} (h : KS K H ρ fs gs) : KS K H ρ (dput nk e d fs) (putK gs l v) := by
  unfold dput putK
  rw [h.any he hk]
  split
  · exact h.repl he hk rd
  · exact h.snoc he rd
theorem KS.vals {K : PySem.W.Frag} {H : Hp} {ρ : List Addr} : ∀ {fs : List (D × D)} {gs : List (L2.Key × V)}, KS K H ρ fs gs → RDs K H ρ (fs.map (·.2)) (gs.map (·.2))
  | _, _, .nil => .nil
  | _, _, .cons h hs => .cons h.2 (KS.vals hs)
def CR (T : Tx) (H : Hp) (ρ : List Addr) (a : Addr) : Cell → Prop
  | .lst ds => ∃ vs, H a = some (.lst vs) ∧ RDs T.K H ρ ds vs
  | .flst ds => ∃ vs, FrL T.K H a vs ∧ RDs T.K H ρ ds vs
  | .dict kvs => ∃ vs, H a = some (.dK vs) ∧ KS T.K H ρ kvs vs
  | .ldict _ => ∃ φ, H a = some (.ext φ)
  | .obj c fs => ∃ C dx gs, T.mg c = some (.ref C) ∧ H a = some (.ins C dx gs) ∧ fieldsR T.K H ρ fs gs
def Cell.mut : Cell → Bool
  | .flst _ => false
  | _ => true
structure HR (T : Tx) (H : Hp) (ρ : List Addr) (h : Hs) : Prop where
  len : ρ.length = h.length
  at_ : ∀ (n : Nat) (c : Cell) (a : Addr), h[n]? = some c → ρ[n]? = some a → CR T H ρ a c
  inj : ∀ (m n : Nat) (a : Addr) (c c' : Cell), ρ[m]? = some a → ρ[n]? = some a → h[m]? = some c → h[n]? = some c' → c.mut = true → c'.mut = true → m = n
  pos : 0 < h.length
  /-- the first cell alone is for reading -/
  zc : ∀ (n : Nat) (c : Cell), h[n]? = some c → (c.mut = false ↔ n = 0)

theorem fieldsR.mono {K : PySem.W.Frag} {H H' : Hp} {ρ ρ' : List Addr} (k : Keeps H H') (e : Ext ρ ρ') {fs : List (Str × D)} {gs : List (Str × V)} (h : fieldsR K H ρ fs gs) : fieldsR K H' ρ' fs gs :=
  Paired.mapP h fun _ _ ⟨h1, h2⟩ => ⟨h1, h2.mono k e⟩
theorem fieldsR.closed {K : PySem.W.Frag} {H : Hp} {ρ : List Addr} : ∀ {fs : List (Str × D)} {gs : List (Str × V)}, fieldsR K H ρ fs gs → D.closedL ρ.length (fs.map (·.2)) = true
  | _, _, .nil => rfl
  | _, _, .cons h hs => by rw [List.map_cons, D.closedL, h.2.closed, fieldsR.closed hs]; rfl
theorem fieldsR.down {K : PySem.W.Frag} {H : Hp} {ρ ρ' : List Addr} (e : Ext ρ ρ') : ∀ {fs : List (Str × D)} {gs : List (Str × V)}, fieldsR K H ρ' fs gs → D.closedL ρ.length (fs.map (·.2)) = true → fieldsR K H ρ fs gs
  | _, _, .nil, _ => .nil
  | _, _, .cons h hs, c => by
    rw [List.map_cons, D.closedL, Bool.and_eq_true] at c
    exact .cons ⟨h.1, h.2.down e c.1⟩ (fieldsR.down e hs c.2)
theorem fieldsR.lookup {K : PySem.W.Frag} {H : Hp} {ρ : List Addr} {f : Str} : ∀ {fs : List (Str × D)} {gs : List (Str × V)}, fieldsR K H ρ fs gs →
    (∀ d, fs.lookup f = some d → ∃ v, gs.lookup f = some v ∧ RD K H ρ d v) ∧ (fs.lookup f = none → gs.lookup f = none)
  | _, _, .nil => ⟨fun d h => by simp at h, fun _ => rfl⟩
  | (x, d0) :: fs, (y, v0) :: gs, .cons h hs => by
    obtain ⟨h1, h2⟩ := h
    have h1 : x = y := h1
    subst h1
    by_cases e : f = x
    · subst e
      simp only [List.lookup_cons, beq_self_eq_true]
      exact ⟨fun d q => ⟨v0, rfl, by rw [← Option.some.inj q]; exact h2⟩, fun q => nomatch q⟩
    · have e' : (f == x) = false := beq_eq_false_iff_ne.mpr e
      simp only [List.lookup_cons, e']
      exact fieldsR.lookup hs
theorem fieldsR.length {K : PySem.W.Frag} {H : Hp} {ρ : List Addr} {fs : List (Str × D)} {gs : List (Str × V)} (h : fieldsR K H ρ fs gs) : fs.length = gs.length := Paired.length h

section
variable {T : Tx} {H H' : Hp} {ρ ρ' : List Addr} {a : Addr}
/-- a cell's object stands as it did -/
theorem CR.mono {c : Cell} (h : CR T H ρ a c) (k : Keeps H H') (e : Ext ρ ρ') (hs : ∀ o, H a = some o → H' a = some o) : CR T H' ρ' a c := by
  cases c with
  | lst ds => obtain ⟨vs, h1, h2⟩ := h; exact ⟨vs, hs _ h1, h2.mono k e⟩
  | flst ds =>
    obtain ⟨vs, h1, h2⟩ := h
    refine ⟨vs, ?_, h2.mono k e⟩
    rcases h1 with ⟨o, h1⟩ | h1
    · exact .inl ⟨o, hs _ h1⟩
    · exact .inr h1
  | dict kvs => obtain ⟨vs, h1, h2⟩ := h; exact ⟨vs, hs _ h1, h2.mono k e⟩
  | ldict kvs => obtain ⟨φ, h1⟩ := h; exact ⟨φ, hs _ h1⟩
  | obj c fs => obtain ⟨C, dx, gs, h0, h1, h2⟩ := h; exact ⟨C, dx, gs, h0, hs _ h1, h2.mono k e⟩
theorem CR.closed {c : Cell} (h : CR T H ρ a c) : c.closed ρ.length = true := by
  cases c with
  | lst ds => obtain ⟨vs, _, h2⟩ := h; exact h2.closed
  | flst ds => obtain ⟨vs, _, h2⟩ := h; exact h2.closed
  | dict kvs => obtain ⟨vs, _, h2⟩ := h; rw [Cell.closed, h2.closed.1, h2.closed.2]; rfl
  | ldict kvs => rfl
  | obj c fs => obtain ⟨C, dx, gs, h0, h1, h2⟩ := h; exact fieldsR.closed h2
theorem CR.down {c : Cell} (e : Ext ρ ρ') (h : CR T H ρ' a c) (hc : c.closed ρ.length = true) : CR T H ρ a c := by
  cases c with
  | lst ds => obtain ⟨vs, h1, h2⟩ := h; exact ⟨vs, h1, h2.down e hc⟩
  | flst ds => obtain ⟨vs, h1, h2⟩ := h; exact ⟨vs, h1, h2.down e hc⟩
  | dict kvs => rw [Cell.closed, Bool.and_eq_true] at hc; obtain ⟨vs, h1, h2⟩ := h; exact ⟨vs, h1, h2.down e hc.2⟩
  | ldict kvs => exact h
  | obj c fs => obtain ⟨C, dx, gs, h0, h1, h2⟩ := h; exact ⟨C, dx, gs, h0, h1, h2.down e hc⟩
/-- a cell that may be written stands in the heap -/
theorem CR.there {c : Cell} (h : CR T H ρ a c) (m : c.mut = true) : ∃ o, H a = some o ∧ (∀ xs, o ≠ .tup xs) ∧ (∀ ob u, o ≠ .frz ob u) ∧ Mut (some o) := by
  cases c with
  | lst ds => obtain ⟨vs, h1, h2⟩ := h; exact ⟨_, h1, fun _ => nofun, fun _ _ => nofun, trivial⟩
  | flst ds => cases m
  | dict kvs => obtain ⟨vs, h1, h2⟩ := h; exact ⟨_, h1, fun _ => nofun, fun _ _ => nofun, trivial⟩
  | ldict kvs => obtain ⟨φ, h1⟩ := h; exact ⟨_, h1, fun _ => nofun, fun _ _ => nofun, trivial⟩
  | obj c fs => obtain ⟨C, dx, gs, h0, h1, h2⟩ := h; exact ⟨_, h1, fun _ => nofun, fun _ _ => nofun, trivial⟩
end

namespace HR
variable {T : Tx} {H H' : Hp} {ρ ρ' : List Addr} {h : Hs}
theorem get (r : HR T H ρ h) {n : Nat} {a : Addr} (e : ρ[n]? = some a) : ∃ c, h[n]? = some c ∧ CR T H ρ a c := by
  have hn : n < h.length := by rw [← r.len]; exact (List.getElem?_eq_some_iff.mp e).1
  exact ⟨h[n], List.getElem?_eq_getElem hn, r.at_ n _ a (List.getElem?_eq_getElem hn) e⟩
/-- all that the heap tracked is as it was -/
theorem keep (r : HR T H ρ h) (s : Same H H') : HR T H' ρ h := by
  have k : Keeps H H' := ⟨fun a xs q => by
    rcases q with q | ⟨o, q⟩
    · exact .inl (s _ _ q)
    · exact .inr ⟨o, s _ _ q⟩, fun a o u q => s _ _ q⟩
  exact ⟨r.len, fun n c a h1 h2 => (r.at_ n c a h1 h2).mono k (Ext.refl _) fun o e => s _ _ e, r.inj, r.pos, r.zc⟩
/-- a new object that FL doesn't see -/
theorem newO (r : HR T H ρ h) {p : Addr} {o : HO} (hp : H p = none) : HR T (upd H p o) ρ h := r.keep fun b u e => by rw [upd_ne (ne_of_none e hp)]; exact e
/-- a new cell -/
theorem newC (r : HR T H ρ h) {p : Addr} {o : HO} {c : Cell} (hp : H p = none) (hm : c.mut = true) (hc : CR T (upd H p o) (ρ ++ [p]) p c) : HR T (upd H p o) (ρ ++ [p]) (h ++ [c]) := by
  have r' := r.newO (o := o) hp
  have hl : (ρ ++ [p]).length = (h ++ [c]).length := by rw [List.length_append, List.length_append, r.len]; rfl
  have split : ∀ n x, (ρ ++ [p])[n]? = some x → (ρ[n]? = some x) ∨ (n = ρ.length ∧ x = p) := fun n x e => by
    by_cases hn : n < ρ.length
    · rw [List.getElem?_append_left hn] at e; exact .inl e
    · rw [List.getElem?_append_right (by omega)] at e
      have h2 : n - ρ.length < [p].length := (List.getElem?_eq_some_iff.mp e).1
      have h3 : n = ρ.length := by simp at h2; omega
      subst h3; simp at e; exact .inr ⟨rfl, e.symm⟩
  have splitH : ∀ n x, n < ρ.length → (h ++ [c])[n]? = some x → h[n]? = some x := fun n x hn e => by
    rw [List.getElem?_append_left (by rw [← r.len]; exact hn)] at e; exact e
  have atP : (h ++ [c])[ρ.length]? = some c := by rw [r.len]; simp
  refine ⟨hl, fun n x a e1 e2 => ?_, fun m n a x y e1 e2 e3 e4 m1 m2 => ?_, by rw [List.length_append]; have := r.pos; omega, fun n x e => ?_⟩
  · rcases split n a e2 with q | ⟨q1, q2⟩
    · exact (r'.at_ n x a (splitH n x (List.getElem?_eq_some_iff.mp q).1 e1) q).mono (Keeps.refl _) (Ext.app _ _) fun _ z => z
    · subst q1; subst q2
      rw [atP] at e1; cases e1; exact hc
  · have noP : ∀ (n : Nat) (x : Cell), ρ[n]? = some p → (h ++ [c])[n]? = some x → x.mut = true → False := fun n x q1 q2 q3 => by
      have cr := r.at_ n x p (splitH n x (List.getElem?_eq_some_iff.mp q1).1 q2) q1
      obtain ⟨o, ho, _⟩ := cr.there q3
      rw [hp] at ho; cases ho
    rcases split m a e1 with q | ⟨q1, q2⟩
    · rcases split n a e2 with q' | ⟨q1', q2'⟩
      · exact r.inj m n a x y q q' (splitH m x (List.getElem?_eq_some_iff.mp q).1 e3) (splitH n y (List.getElem?_eq_some_iff.mp q').1 e4) m1 m2
      · subst q2'; exact (noP m x q e3 m1).elim
    · rcases split n a e2 with q' | ⟨q1', q2'⟩
      · subst q2; exact (noP n y q' e4 m2).elim
      · omega
  · by_cases hn : n < h.length
    · rw [List.getElem?_append_left hn] at e; exact r.zc n x e
    · rw [List.getElem?_append_right (by omega)] at e
      have h2 : n - h.length < [c].length := (List.getElem?_eq_some_iff.mp e).1
      have h3 : n = h.length := by simp at h2; omega
      subst h3; simp at e; subst e
      have := r.pos
      rw [hm]
      constructor
      · intro z; cases z
      · intro z; omega
end HR

/-! ### what FL's steps leave as it is -/
/-- the tuples stay, and all that FL doesn't see -/
structure KF (H : Hp) (ρ : List Addr) (H' : Hp) (ρ' : List Addr) : Prop where
  k : Keeps H H'
  fr : ∀ (a : Addr) (o : HO), H a = some o → (∀ n : Nat, n ≠ 0 → ρ[n]? ≠ some a) → H' a = some o ∧ ∀ n : Nat, n ≠ 0 → ρ'[n]? ≠ some a
instance {H H' : Hp} {ρ ρ' : List Addr} : CoeOut (KF H ρ H' ρ') (Keeps H H') := ⟨fun x => x.k⟩
theorem KF.refl (H : Hp) (ρ : List Addr) : KF H ρ H ρ := ⟨Keeps.refl H, fun _ _ h n => ⟨h, n⟩⟩
theorem KF.trans {H H1 H2 : Hp} {ρ ρ1 ρ2 : List Addr} (a : KF H ρ H1 ρ1) (b : KF H1 ρ1 H2 ρ2) : KF H ρ H2 ρ2 :=
  ⟨a.k.trans b.k, fun c o h n => let ⟨h1, n1⟩ := a.fr c o h n; b.fr c o h1 n1⟩
theorem KF.new {H : Hp} {ρ : List Addr} {p : Addr} {o : HO} (hp : H p = none) : KF H ρ (upd H p o) ρ :=
  ⟨Keeps.new hp, fun a u h n => ⟨by rw [upd_ne (ne_of_none h hp)]; exact h, n⟩⟩
theorem KF.newC {H : Hp} {ρ : List Addr} {p : Addr} {o : HO} (hp : H p = none) : KF H ρ (upd H p o) (ρ ++ [p]) :=
  ⟨Keeps.new hp, fun a u h n => ⟨by rw [upd_ne (ne_of_none h hp)]; exact h, fun m m0 e => by
    by_cases hm : m < ρ.length
    · rw [List.getElem?_append_left hm] at e; exact n m m0 e
    · rw [List.getElem?_append_right (by omega)] at e
      have h2 : m - ρ.length < [p].length := (List.getElem?_eq_some_iff.mp e).1
      have h3 : m - ρ.length = 0 := by simp at h2; omega
      rw [h3] at e; simp at e; exact ne_of_none h hp e.symm⟩⟩
theorem KF.put {H : Hp} {ρ : List Addr} {p : Addr} {o : HO} {n : Nat} (n0 : n ≠ 0) (hp : ρ[n]? = some p) (k : Keeps H (upd H p o)) : KF H ρ (upd H p o) ρ :=
  ⟨k, fun a u h m => ⟨by rw [upd_ne (fun e => m n n0 (by rw [e]; exact hp))]; exact h, m⟩⟩

/-- a cell written -/
theorem HR.setC {T : Tx} {H : Hp} {ρ : List Addr} {h : Hs} (r : HR T H ρ h) {n : Nat} {a : Addr} {o : HO} {c c' : Cell} (hn : h[n]? = some c) (ha : ρ[n]? = some a) (m : c.mut = true) (m' : c'.mut = true) (hc : CR T (upd H a o) ρ a c') : HR T (upd H a o) ρ (h.set n c') ∧ KF H ρ (upd H a o) ρ := by
  obtain ⟨u, hu, u1, u2, u3⟩ := (r.at_ n c a hn ha).there m
  have k : Keeps H (upd H a o) := Keeps.put hu u1 u2
  have hlt : n < h.length := (List.getElem?_eq_some_iff.mp hn).1
  refine ⟨⟨by rw [List.length_set]; exact r.len, fun j x b e1 e2 => ?_, fun i j b x y e1 e2 e3 e4 m1 m2 => ?_, by rw [List.length_set]; exact r.pos, fun j x e => ?_⟩, KF.put (fun z => by have := (r.zc n c hn).mpr z; rw [m] at this; cases this) ha k⟩
  · by_cases hj : n = j
    · subst hj
      rw [List.getElem?_set_self hlt] at e1
      cases e1
      rw [ha] at e2; cases e2; exact hc
    · rw [List.getElem?_set_ne hj] at e1
      have cr := r.at_ j x b e1 e2
      by_cases hb : b = a
      · subst hb
        cases hx : x.mut with
        | true => exact absurd (r.inj n j b c x ha e2 hn e1 m hx) hj
        | false =>
          cases x with
          | flst ds =>
            obtain ⟨vs, h1, h2⟩ := cr
            refine ⟨vs, ?_, h2.mono k (Ext.refl _)⟩
            rcases h1 with ⟨ob, h1⟩ | h1
            · rw [hu] at h1; exact absurd (Option.some.inj h1) (u2 ob _)
            · exact .inr h1
          | lst _ => cases hx
          | dict _ => cases hx
          | ldict _ => cases hx
          | obj _ _ => cases hx
      · exact cr.mono k (Ext.refl _) fun ob e => by rw [upd_ne hb]; exact e
  · have old : ∀ (j : Nat) (x : Cell) (b : Addr), ρ[j]? = some b → (h.set n c')[j]? = some x → x.mut = true → ∃ y : Cell, h[j]? = some y ∧ y.mut = true := fun j x b q1 q2 q3 => by
      by_cases hj : n = j
      · subst hj; exact ⟨c, hn, m⟩
      · rw [List.getElem?_set_ne hj] at q2; exact ⟨x, q2, q3⟩
    obtain ⟨x', g1, g2⟩ := old i x b e1 e3 m1
    obtain ⟨y', g3, g4⟩ := old j y b e2 e4 m2
    exact r.inj i j b x' y' e1 e2 g1 g3 g2 g4
  · by_cases hj : n = j
    · subst hj
      rw [List.getElem?_set_self hlt] at e; cases e
      rw [m', ← r.zc n c hn, m]
    · rw [List.getElem?_set_ne hj] at e; exact r.zc j x e

/-! ### locals, exceptions -/
def RL (K : PySem.W.Frag) (H : Hp) (ρ : List Addr) (ls : Ls) (σ : St) : Prop := ls.length = σ.length ∧ ∀ (i : Nat) (d : D), ls[i]? = some (some d) → ∃ v, σ[i]? = some (some v) ∧ RD K H ρ d v
theorem RL.mono {K : PySem.W.Frag} {H H' : Hp} {ρ ρ' : List Addr} {ls : Ls} {σ : St} (r : RL K H ρ ls σ) (k : Keeps H H') (e : Ext ρ ρ') : RL K H' ρ' ls σ :=
  ⟨r.1, fun i d q => let ⟨v, h1, h2⟩ := r.2 i d q; ⟨v, h1, h2.mono k e⟩⟩
theorem RL.set {K : PySem.W.Frag} {H : Hp} {ρ : List Addr} {ls : Ls} {σ : St} (r : RL K H ρ ls σ) {d : D} {v : V} (rd : RD K H ρ d v) (i : Nat) : RL K H ρ (ls.set i (some d)) (σ.set i (some v)) := by
  refine ⟨by rw [List.length_set, List.length_set]; exact r.1, fun j x q => ?_⟩
  by_cases hj : i = j
  · subst hj
    by_cases hi : i < ls.length
    · rw [List.getElem?_set_self hi] at q; cases q
      exact ⟨v, List.getElem?_set_self (by rw [← r.1]; exact hi), rd⟩
    · rw [List.getElem?_eq_none (by rw [List.length_set]; omega)] at q; cases q
  · rw [List.getElem?_set_ne hj] at q ⊢
    exact r.2 j x q
theorem RL.forget {K : PySem.W.Frag} {H : Hp} {ρ : List Addr} {ls : Ls} {σ : St} (r : RL K H ρ ls σ) : ∀ vs : List Nat, RL K H ρ (FL.wipe ls vs) (L2.wipe σ vs)
  | [] => r
  | i :: vs => by
    have q := RL.forget r vs
    unfold FL.wipe L2.wipe
    refine ⟨by rw [List.length_set, List.length_set]; exact q.1, fun j x e => ?_⟩
    by_cases hj : i = j
    · subst hj
      by_cases hi : i < (FL.wipe ls vs).length
      · rw [List.getElem?_set_self hi] at e; cases e
      · rw [List.getElem?_eq_none (by rw [List.length_set]; omega)] at e; cases e
    · rw [List.getElem?_set_ne hj] at e ⊢
      exact q.2 j x e
theorem wipe_length (ls : Ls) : ∀ vs : List Nat, (FL.wipe ls vs).length = ls.length
  | [] => rfl
  | v :: vs => by unfold FL.wipe; rw [List.length_set, wipe_length ls vs]
theorem wipe_some {ls : Ls} {i : Nat} {x : D} : ∀ {vs : List Nat}, (FL.wipe ls vs)[i]? = some (some x) → ls[i]? = some (some x) ∧ i ∉ vs
  | [], h => ⟨h, by simp⟩
  | v :: vs, h => by
    unfold FL.wipe at h
    by_cases hi : v = i
    · subst hi
      by_cases hv : v < (FL.wipe ls vs).length
      · rw [List.getElem?_set_self hv] at h; cases h
      · rw [List.getElem?_eq_none (by simpa using hv)] at h; cases h
    · rw [List.getElem?_set_ne hi] at h
      obtain ⟨h1, h2⟩ := wipe_some h
      exact ⟨h1, by simp only [List.mem_cons, not_or]; exact ⟨fun e => hi e.symm, h2⟩⟩
/-- some slots forgotten, others perhaps too, in FL alone -/
theorem RL.forgetL {K : PySem.W.Frag} {H : Hp} {ρ : List Addr} {ls : Ls} {σ : St} (r : RL K H ρ ls σ) (vs : List Nat) : RL K H ρ (FL.wipe ls vs) σ :=
  ⟨by rw [wipe_length]; exact r.1, fun i d q => r.2 i d (wipe_some q).1⟩

/-- an exception of FL's and of the layer's -/
def XR (T : Tx) (H : Hp) (ρ : List Addr) (c : Str) (fs : List (Str × D)) (cls : Value) (dx : Option Addr) : Prop :=
  ∃ C, T.mg c = some (.ref C) ∧ cls = .ref C ∧ ((fs = [] ∧ dx = none) ∨ ∃ d gs, dx = some d ∧ H d = some (.xd gs) ∧ fieldsR T.K H ρ fs gs)

/-! ### what is wanted of a result -/
section
variable {α β γ δ : Type}
def PR (T : Tx) (W : WX) (σ : St) (H : Hp) (ρ : List Addr) (RA : Hp → List Addr → α → β → Prop) (Q : β → Hp → Prop) : R α → Prop
  | .ok a h => ∀ (ρ' : List Addr) (b : β) (H' : Hp), Ext ρ ρ' → KF H ρ H' ρ' → HR T H' ρ' h → RA H' ρ' a b → Q b H'
  | .exc c fs h => ∀ (ρ' : List Addr) (cls : Value) (dx : Option Addr) (H' : Hp), Ext ρ ρ' → KF H ρ H' ρ' → HR T H' ρ' h → XR T H' ρ' c fs cls dx → W cls dx σ H'
  | .bad => False
variable {T : Tx} {W : WX} {σ : St} {H H1 : Hp} {ρ ρ1 : List Addr} {RA : Hp → List Addr → α → β → Prop} {RC : Hp → List Addr → γ → δ → Prop} {Q : β → Hp → Prop} {Q1 : δ → Hp → Prop}
theorem PR.after {r : R α} (h : PR T W σ H ρ RA Q r) (e : Ext ρ ρ1) (k : KF H ρ H1 ρ1) : PR T W σ H1 ρ1 RA Q r := by
  cases r with
  | ok a h' => exact fun ρ' b H' e' k' => h ρ' b H' (e.trans e') (k.trans k')
  | exc c fs h' => exact fun ρ' cls dx H' e' k' => h ρ' cls dx H' (e.trans e') (k.trans k')
  | bad => exact h
/-- one step, then what follows -/
theorem PR.bind {r : R α} {f : α → Hs → R γ} (hp : PR T W σ H ρ RC Q1 (r.bind f))
    (k : ∀ (a : α) (h1 : Hs) (ρ1 : List Addr) (b : β) (H1 : Hp), r = .ok a h1 → Ext ρ ρ1 → KF H ρ H1 ρ1 → HR T H1 ρ1 h1 → RA H1 ρ1 a b → PR T W σ H1 ρ1 RC Q1 (f a h1) → Q b H1) : PR T W σ H ρ RA Q r := by
  cases r with
  | ok a h' => exact fun ρ' b H' e' k' hr ra => k a h' ρ' b H' rfl e' k' hr ra (hp.after e' k')
  | exc c fs h' => exact hp
  | bad => exact hp
theorem PR.ok {a : α} {b : β} {h : Hs} (hp : PR T W σ H ρ RA Q (.ok a h)) (hr : HR T H ρ h) (ra : RA H ρ a b) : Q b H := hp ρ b H (Ext.refl _) (KF.refl _ _) hr ra
theorem PR.ofO {a : Option α} {h : Hs} (hp : PR T W σ H ρ RA Q (R.ofO h a)) : ∃ x, a = some x ∧ PR T W σ H ρ RA Q (.ok x h) := by
  cases a with
  | none => exact hp.elim
  | some x => exact ⟨x, rfl, hp⟩
end
abbrev RAd (K : PySem.W.Frag) : Hp → List Addr → D → V → Prop := fun H ρ d v => RD K H ρ d v
abbrev RAs (K : PySem.W.Frag) : Hp → List Addr → List D → List V → Prop := fun H ρ ds vs => RDs K H ρ ds vs
abbrev RAe (α : Type) : Hp → List Addr → α → α → Prop := fun _ _ a b => a = b

theorem OldOk.closed {T : Tx} {H H' : Hp} {ρ ρ' : List Addr} {h0 h : Hs} (r0 : HR T H ρ h0) (r : HR T H' ρ' h) (e : Ext ρ ρ') (o : OldOk h0 h) : ∀ (i : Nat) (c : Cell), i < h0.length → h[i]? = some c → c.closed ρ.length = true := fun i c hi hc => by
  rcases o i hi with q | ⟨c', q, z⟩
  · rw [hc] at q
    have ha : ρ[i]? = some (ρ[i]'(by rw [r0.len]; exact hi)) := List.getElem?_eq_getElem _
    exact (r0.at_ i c _ q.symm ha).closed
  · rw [hc] at q; cases q
    rw [r0.len]; exact z
/-- the cells behind the first ones forgotten -/
theorem HR.taken {T : Tx} {H H' : Hp} {ρ ρ' : List Addr} {h0 h : Hs} (r0 : HR T H ρ h0) (r : HR T H' ρ' h) (e : Ext ρ ρ') (o : OldOk h0 h) : HR T H' ρ (h.take h0.length) := by
  have hl : h0.length ≤ h.length := by rw [← r0.len, ← r.len]; exact e.len
  have tk : ∀ (n : Nat) (c : Cell), (h.take h0.length)[n]? = some c → n < h0.length ∧ h[n]? = some c := fun n c q => by
    have hn := (List.getElem?_eq_some_iff.mp q).1
    rw [List.length_take] at hn
    have hn' : n < h0.length := by omega
    rw [List.getElem?_take_of_lt hn'] at q
    exact ⟨hn', q⟩
  refine ⟨by rw [List.length_take, r0.len]; omega, fun n c a e1 e2 => ?_, fun m n a c c' e1 e2 e3 e4 m1 m2 => ?_, by rw [List.length_take]; have := r0.pos; omega, fun n c e => r.zc n c (tk n c e).2⟩
  · obtain ⟨h1, h2⟩ := tk n c e1
    exact (r.at_ n c a h2 (e n a e2)).down e (OldOk.closed r0 r e o n c h1 h2)
  · exact r.inj m n a c c' (e m a e1) (e n a e2) (tk m c e3).2 (tk n c' e4).2 m1 m2
theorem gc_sound {T : Tx} {W : WX} {σ : St} {H : Hp} {ρ : List Addr} {Q : VK} {h0 : Hs} {r : R D} (r0 : HR T H ρ h0) (hp : PR T W σ H ρ (RAd T.K) Q (gcR h0 r)) : PR T W σ H ρ (RAd T.K) Q r := by
  cases r with
  | bad => exact hp
  | exc c fs h =>
    intro ρ' cls dx H' e k hr hx
    simp only [gcR] at hp
    split at hp
    · rename_i ho
      refine hp ρ cls dx H' (Ext.refl _) ⟨k.k, fun a o h n => ⟨(k.fr a o h n).1, n⟩⟩ (r0.taken hr e ho.1) ?_
      obtain ⟨C, h1, h2, h3⟩ := hx
      refine ⟨C, h1, h2, h3.imp id ?_⟩
      rintro ⟨d, gs, g1, g2, g3⟩
      exact ⟨d, gs, g1, g2, g3.down e (by rw [r0.len]; exact ho.2)⟩
    · exact hp ρ' cls dx H' e k hr hx
  | ok d h =>
    intro ρ' v H' e k hr rd
    simp only [gcR, gc] at hp
    split at hp
    · rename_i ho
      split at hp
      · rename_i hd
        exact hp ρ v H' (Ext.refl _) ⟨k.k, fun a o h n => ⟨(k.fr a o h n).1, n⟩⟩ (r0.taken hr e ho) (rd.down e (by rw [r0.len]; exact hd))
      · split at hp
        · rename_i n hd
          split at hp
          · rename_i c hc
            split at hp
            · rename_i hcl
              cases rd with
              | loc ha =>
                rename_i a
                have rt := r0.taken hr e ho
                have cr := hr.at_ n c a hc ha
                have hn0 : n ≠ 0 := fun z => hd (by rw [D.closed, z]; exact decide_eq_true r0.pos)
                refine hp (ρ ++ [a]) (.ref a) H' (Ext.app _ _) ⟨k.k, fun b o h n => ⟨(k.fr b o h n).1, fun m m0 em => by
                  by_cases hm : m < ρ.length
                  · rw [List.getElem?_append_left hm] at em; exact n m m0 em
                  · rw [List.getElem?_append_right (by omega)] at em
                    have h2 : m - ρ.length < [a].length := (List.getElem?_eq_some_iff.mp em).1
                    have h3 : m - ρ.length = 0 := by simp at h2; omega
                    rw [h3] at em; simp at em
                    subst em
                    exact (k.fr a o h n).2 _ hn0 ha⟩⟩ ?_ (.loc (by rw [← r0.len]; simp))
                -- the cell n moved to the end
                have cr' : CR T H' (ρ ++ [a]) a c := (cr.down e (by rw [r0.len]; exact hcl.1)).mono (Keeps.refl _) (Ext.app _ _) fun _ z => z
                have hnge : ¬ n < h0.length := fun z => hd (by rw [D.closed]; exact decide_eq_true z)
                have tl : (h.take h0.length).length = h0.length := by rw [List.length_take]; omega
                have split : ∀ (m : Nat) (x : Addr), (ρ ++ [a])[m]? = some x → (ρ[m]? = some x ∧ m < h0.length) ∨ (m = h0.length ∧ x = a) := fun m x e1 => by
                  by_cases hm : m < ρ.length
                  · rw [List.getElem?_append_left hm] at e1; exact .inl ⟨e1, by rw [← r0.len]; exact hm⟩
                  · rw [List.getElem?_append_right (by omega)] at e1
                    have h2 : m - ρ.length < [a].length := (List.getElem?_eq_some_iff.mp e1).1
                    have h3 : m = ρ.length := by simp at h2; omega
                    subst h3; simp at e1; exact .inr ⟨r0.len, e1.symm⟩
                have hsplit : ∀ (m : Nat) (x : Cell), m < h0.length → (h.take h0.length ++ [c])[m]? = some x → (h.take h0.length)[m]? = some x ∧ h[m]? = some x := fun m x hm e1 => by
                  rw [List.getElem?_append_left (by omega)] at e1
                  refine ⟨e1, ?_⟩
                  rw [List.getElem?_take_of_lt hm] at e1; exact e1
                have hat : (h.take h0.length ++ [c])[h0.length]? = some c := by
                  rw [List.getElem?_append_right (by omega), tl]; simp
                refine ⟨by rw [List.length_append, List.length_append, tl, r0.len]; rfl, fun m x b e1 e2 => ?_, fun i j b x y e1 e2 e3 e4 m1 m2 => ?_, by rw [List.length_append]; simp, fun m x e1 => ?_⟩
                · rcases split m b e2 with ⟨q, qm⟩ | ⟨q1, q2⟩
                  · exact (rt.at_ m x b (hsplit m x qm e1).1 q).mono (Keeps.refl _) (Ext.app _ _) fun _ z => z
                  · subst q1; subst q2
                    rw [hat] at e1; cases e1; exact cr'
                · rcases split i b e1 with ⟨q, qm⟩ | ⟨q1, q2⟩
                  · rcases split j b e2 with ⟨q', qm'⟩ | ⟨q1', q2'⟩
                    · exact hr.inj i j b x y (e i b q) (e j b q') (hsplit i x qm e3).2 (hsplit j y qm' e4).2 m1 m2
                    · subst q1'; subst q2'
                      rw [hat] at e4; cases e4
                      exact absurd (hr.inj i n b x c (e i b q) ha (hsplit i x qm e3).2 hc m1 m2) (by omega)
                  · rcases split j b e2 with ⟨q', qm'⟩ | ⟨q1', q2'⟩
                    · subst q1; subst q2
                      rw [hat] at e3; cases e3
                      exact absurd (hr.inj j n b y c (e j b q') ha (hsplit j y qm' e4).2 hc m2 m1) (by omega)
                    · omega
                · by_cases hm : m < h0.length
                  · exact hr.zc m x (hsplit m x hm e1).2
                  · rw [List.getElem?_append_right (by omega)] at e1
                    have h2 : m - (h.take h0.length).length < [c].length := (List.getElem?_eq_some_iff.mp e1).1
                    have h3 : m = h0.length := by simp at h2; omega
                    subst h3
                    rw [tl] at e1; simp at e1; subst e1
                    have := r0.pos
                    rw [hr.zc n c hc]; omega
            · exact hp ρ' v H' e k hr rd
          · exact hp ρ' v H' e k hr rd
        · exact hp ρ' v H' e k hr rd
    · exact hp ρ' v H' e k hr rd

/-! ### the readings of FL's syntax -/
def tE (Γ : Cfg) (T : Tx) (W : WX) (fe : FE) : TE := fun σ H Q => ∃ ρ ls h, RL T.K H ρ ls σ ∧ HR T H ρ h ∧ PR T W σ H ρ (RAd T.K) Q (ev Γ fe ls h)
def tEs (Γ : Cfg) (T : Tx) (W : WX) (fe : FE) : TA := fun σ H Q => ∃ ρ ls h, RL T.K H ρ ls σ ∧ HR T H ρ h ∧ PR T W σ H ρ (RAs T.K) Q (evs Γ fe ls h)
def tT (Γ : Cfg) (T : Tx) (W : WX) (fe : FE) : TT := fun σ H Q => ∃ ρ ls h, RL T.K H ρ ls σ ∧ HR T H ρ h ∧ PR T W σ H ρ (RAe Bool) Q (evT Γ fe ls h)
theorem peW {X : Cx} {e : Expr} {t t' : TE} (h : PE X e t) (w : ∀ σ H Q, t' σ H Q → t σ H Q) : PE X e t' := ⟨fun pins s σ H Q I q => h.run pins s σ H Q I (w σ H Q q)⟩
theorem ptW {X : Cx} {e : Expr} {t t' : TT} (h : PT X e t) (w : ∀ σ H Q, t' σ H Q → t σ H Q) : PT X e t' := ⟨fun pins s σ H Q I q => h.run pins s σ H Q I (w σ H Q q)⟩
theorem paW {X : Cx} {e : List Expr} {t t' : TA} (h : PA X e t) (w : ∀ σ H Q, t' σ H Q → t σ H Q) : PA X e t' := ⟨fun pos pins s σ H Q I q => h.run pos pins s σ H Q I (w σ H Q q)⟩
theorem psW {X : Cx} {e : Stmt} {t t' : TS} (h : PS X e t) (w : ∀ D σ H, t' D σ H → t D σ H) : PS X e t' := ⟨fun pins s σ H D I q => h.run pins s σ H D I (w D σ H q)⟩
end FL
set_option autoImplicit false
set_option linter.all false
set_option maxRecDepth 100000
/-! FL, part Y: lists and dicts that are never written again. -/
namespace FL
open PySem L2
section
variable {X : Cx} {pins : List (Addr × Obj)} {σ : L2.St} {H : Hp} {s : Shared}
/-- H' is H with the things at L locked -/
structure Lck (L : List Addr) (H H' : Hp) : Prop where
  out : ∀ a, a ∉ L → H' a = H a
  in_ : ∀ a ∈ L, ∀ u, H a = some u → ∃ o, H' a = some (.frz o u)
def MutL (L : List Addr) (H : Hp) : Prop := L.Nodup ∧ ∀ a ∈ L, ∃ u, H a = some u ∧ Mut (some u)
theorem Inv.lockL (I : Inv X pins σ H s) : ∀ (L : List Addr), MutL L H → ∃ H', Inv X pins σ H' s ∧ Lck L H H'
  | [], _ => ⟨H, I, ⟨fun _ _ => rfl, fun _ h => nomatch h⟩⟩
  | a :: L, m => by
    obtain ⟨H1, I1, k1⟩ := Inv.lockL I L ⟨(List.nodup_cons.mp m.1).2, fun b hb => m.2 b (by simp [hb])⟩
    have na := (List.nodup_cons.mp m.1).1
    obtain ⟨u, hu, mu⟩ := m.2 a (by simp)
    obtain ⟨od, I2⟩ := L2.Inv.lock I1 (by rw [k1.out a na]; exact hu) mu
    refine ⟨_, I2, ⟨fun b hb => ?_, fun b hb v hv => ?_⟩⟩
    · simp only [List.mem_cons, not_or] at hb
      rw [upd_ne hb.1, k1.out b hb.2]
    · by_cases e : b = a
      · subst e
        rw [hu] at hv; cases hv
        exact ⟨od, upd_same⟩
      · rw [upd_ne e]
        exact k1.in_ b ((List.mem_cons.mp hb).resolve_left e) v hv
/-- wanted once the things at some L are locked -/
def FrzQ (Q : VK) : VK := fun x H => ∃ L, MutL L H ∧ ∀ H', Lck L H H' → Q x H'
theorem FrzQ.of {Q : VK} {x : V} (q : Q x H) : FrzQ Q x H := ⟨[], ⟨.nil, fun _ h => nomatch h⟩, fun H' k => by
  have e : H' = H := funext fun a => k.out a (by simp)
  rw [e]; exact q⟩
theorem FrzQ.one {Q : VK} {p : Addr} {u : HO} (hp : H p = none) (mu : Mut (some u)) (q : ∀ o, Q (.ref p) (upd H p (.frz o u))) : FrzQ Q (.ref p) (upd H p u) := ⟨[p], ⟨by simp, fun a h => by rw [List.mem_singleton.mp h]; exact ⟨u, upd_same, mu⟩⟩, fun H' k => by
  obtain ⟨o, ho⟩ := k.in_ p (by simp) u upd_same
  have e : H' = upd H p (.frz o u) := funext fun a => by
    by_cases e : a = p
    · subst e; rw [ho, upd_same]
    · rw [k.out a (by simpa using e), upd_ne e, upd_ne e]
  rw [e]; exact q o⟩
theorem pe_frz {e : Expr} {t : TE} (h : PE X e t) : PE X e (fun σ H Q => t σ H (FrzQ Q)) := ⟨fun pins s σ H Q I q => thn (h.run pins s σ H _ I q) fun u s1 ⟨v, H1, I1, r1, L, m, q1⟩ => by
  obtain ⟨H2, I2, k2⟩ := Inv.lockL I1 L m
  exact ⟨v, H2, I2, r1, q1 H2 k2⟩⟩
end
section
variable {T : Tx} {W : WX} {σ : L2.St} {H H1 H2 : Hp} {ρ : List Addr} {Q : VK} {h h0 : Hs}
theorem PR.newF {xs : List D} (hp : PR T W σ H ρ (RAd T.K) Q (.ok (.fl xs) h)) (r : HR T H ρ h) {vs : List V} (rd : RDs T.K H ρ xs vs) : ∀ p, H p = none → FrzQ Q (.ref p) (upd H p (.lst vs)) := fun p hn =>
  FrzQ.one hn trivial fun o => hp ρ (.ref p) _ (Ext.refl _) (KF.new hn) (r.newO hn) (.fl upd_same (rd.mono (Keeps.new hn) (Ext.refl _)))
theorem Lck.keeps {L : List Addr} (k : Lck L H H1) (m : MutL L H) : Keeps H H1 := by
  have ne : ∀ a u, H a = some u → ¬ Mut (some u) → a ∉ L := fun a u h hm hL => by
    obtain ⟨v, hv, mv⟩ := m.2 a hL
    rw [h] at hv; cases hv; exact hm mv
  refine ⟨fun a xs h => ?_, fun a o u h => by rw [k.out a (ne a _ h id)]; exact h⟩
  rcases h with h | ⟨ob, h⟩
  · exact .inl (by rw [k.out a (ne a _ h id)]; exact h)
  · exact .inr ⟨ob, by rw [k.out a (ne a _ h id)]; exact h⟩
theorem HR.lckd {L : List Addr} (r : HR T H ρ h) (k : Lck L H H1) (m : MutL L H) (hn : ∀ (n : Nat) (c : Cell) (a : Addr), h[n]? = some c → ρ[n]? = some a → c.mut = true → a ∉ L) : HR T H1 ρ h := by
  refine ⟨r.len, fun n c a h1 h2 => ?_, r.inj, r.pos, r.zc⟩
  have cr := r.at_ n c a h1 h2
  cases hm : c.mut with
  | true =>
    have na := hn n c a h1 h2 hm
    exact cr.mono (k.keeps m) (Ext.refl _) fun o e => by rw [k.out a na]; exact e
  | false =>
    cases c with
    | flst ds =>
      obtain ⟨vs, g1, g2⟩ := cr
      refine ⟨vs, ?_, g2.mono (k.keeps m) (Ext.refl _)⟩
      rcases g1 with ⟨o, g1⟩ | g1
      · exact .inl ⟨o, (k.keeps m).2 _ _ _ g1⟩
      · exact .inr g1
    | _ => cases hm
theorem optL_rd {K : PySem.W.Frag} {ρ' : List Addr} {f : D → Option D} (hf : ∀ d d' v, RD K H ρ d v → f d = some d' → RD K H1 ρ' d' v) : ∀ {ds ds' : List D} {vs : List V}, RDs K H ρ ds vs → optL f ds = some ds' → RDs K H1 ρ' ds' vs
  | [], _, _, .nil, e => by cases e; exact .nil
  | d :: ds, _, _, .cons h hs, e => by
    rw [optL] at e
    split at e
    · rename_i a b e1 e2
      cases e
      exact .cons (hf _ _ _ h e1) (optL_rd hf hs e2)
    · cases e
theorem KS.split {K : PySem.W.Frag} : ∀ {fs : List (D × D)} {gs : List (L2.Key × V)}, KS K H ρ fs gs → (fs.map (·.1)).map scalK = gs.map (fun p => some p.1) ∧ RDs K H ρ (fs.map (·.2)) (gs.map (·.2))
  | _, _, .nil => ⟨rfl, .nil⟩
  | _, _, .cons h hs => by
    obtain ⟨z1, z2⟩ := KS.split hs
    exact ⟨by simp only [List.map_cons, h.1, z1], .cons h.2 z2⟩
theorem KS.unsplit {K : PySem.W.Frag} : ∀ {ks ds : List D} {gs : List (L2.Key × V)}, ks.map scalK = gs.map (fun p => some p.1) → RDs K H ρ ds (gs.map (·.2)) → KS K H ρ (ks.zip ds) gs
  | [], _, [], _, h2 => by cases h2; exact .nil
  | [], _, _ :: _, h1, _ => by cases h1
  | _ :: _, _, [], h1, _ => by cases h1
  | k :: ks, ds, g :: gs, h1, h2 => by
    rw [List.map_cons, List.map_cons, List.cons.injEq] at h1
    cases h2 with
    | cons hd hs => exact .cons ⟨h1.1, hd⟩ (KS.unsplit h1.2 hs)
/-- the new cells' lists and dicts stand locked -/
def NewL (T : Tx) (n0 : Nat) (h : Hs) (ρ : List Addr) (H H1 : Hp) : Prop := ∀ (n : Nat) (c : Cell) (a : Addr) (u : HO), n0 ≤ n → h[n]? = some c → ρ[n]? = some a → ((∃ xs, c = .lst xs) ∨ ∃ kvs, c = .dict kvs) → H a = some u → ∃ o, H1 a = some (.frz o u)
theorem frzD_ok {ρ' : List Addr} {n0 : Nat} (hr : HR T H ρ h) (k : Keeps H H1) (hL : NewL T n0 h ρ H H1) : ∀ (n : Nat) (d d' : D) (v : V), RD T.K H ρ d v → frzD n0 h n d = some d' → RD T.K H1 ρ d' v
  | 0, d, d', v, rd, e => by
    rw [frzD] at e
    split at e
    · cases e; exact rd.mono k (Ext.refl _)
    · cases e
  | n + 1, d, d', v, rd, e => by
    have ih := frzD_ok (ρ' := ρ') hr k hL n
    unfold frzD at e
    split at e
    · cases e; exact rd.mono k (Ext.refl _)
    · cases rd with
      | non => cases e; exact .non
      | bl _ => cases e; exact .bl _
      | int _ => cases e; exact .int _
      | str _ => cases e; exact .str _
      | @tup ds a vs g1 g2 =>
        obtain ⟨ys, e1, rfl⟩ := Option.map_eq_some_iff.mp e
        exact .tup (k.sqT g1) (optL_rd ih g2 e1)
      | @fl ds a vs o g1 g2 =>
        obtain ⟨ys, e1, rfl⟩ := Option.map_eq_some_iff.mp e
        exact .fl (k.2 _ _ _ g1) (optL_rd ih g2 e1)
      | @fd ks ds a gs us o g1 g2 g3 g4 =>
        obtain ⟨ys, e1, rfl⟩ := Option.map_eq_some_iff.mp e
        exact .fd (k.2 _ _ _ g1) g2 g3 (optL_rd ih g4 e1)
      | @loc m a hm =>
        dsimp only at e
        split at e
        · cases e; exact .loc hm
        · rename_i hlt
          split at e
          · rename_i xs hx
            obtain ⟨ys, e1, rfl⟩ := Option.map_eq_some_iff.mp e
            obtain ⟨vs, g1, g2⟩ := hr.at_ m _ a hx hm
            obtain ⟨o, ho⟩ := hL m _ a _ (by omega) hx hm (.inl ⟨xs, rfl⟩) g1
            exact .fl ho (optL_rd ih g2 e1)
          · rename_i kvs hx
            obtain ⟨ys, e1, rfl⟩ := Option.map_eq_some_iff.mp e
            obtain ⟨gs, g1, g2⟩ := hr.at_ m _ a hx hm
            obtain ⟨o, ho⟩ := hL m _ a _ (by omega) hx hm (.inr ⟨kvs, rfl⟩) g1
            obtain ⟨z1, z2⟩ := g2.split
            exact .fd ho z1 rfl (optL_rd ih z2 e1)
          · cases e
open Classical in
theorem gcX_sound {m : Bool} {r : R D} (r0 : HR T H ρ h0) (hp : PR T W σ H ρ (RAd T.K) Q (gcX m h0 r)) : PR T W σ H ρ (RAd T.K) (FrzQ Q) r := by
  have old : ∀ {r : R D}, PR T W σ H ρ (RAd T.K) Q r → PR T W σ H ρ (RAd T.K) (FrzQ Q) r := fun {r} hp => by
    cases r with
    | ok d h => exact fun ρ' v H' e k hr rd => FrzQ.of (hp ρ' v H' e k hr rd)
    | exc c fs h => exact hp
    | bad => exact hp
  cases r with
  | bad => exact hp
  | exc c fs h => exact gc_sound (Q := Q) (r := .exc c fs h) r0 hp
  | ok d h =>
    have g0 : PR T W σ H ρ (RAd T.K) Q (gc h0 d h) → PR T W σ H ρ (RAd T.K) (FrzQ Q) (.ok d h) := fun hp => old (gc_sound (r := .ok d h) r0 hp)
    simp only [gcX] at hp
    split at hp
    · exact g0 hp
    · split at hp
      · rename_i ho
        split at hp
        · rename_i d' hd'
          split at hp
          · rename_i hcl
            intro ρ' v H' e k hr rd
            -- the new lists and dicts
            let isN : Nat → Bool := fun n => match h[n]? with
              | some (.lst _) => decide (h0.length ≤ n)
              | some (.dict _) => decide (h0.length ≤ n)
              | _ => false
            have isN_of : ∀ n, isN n = true → h0.length ≤ n ∧ ∃ c, h[n]? = some c ∧ c.mut = true ∧ ((∃ xs, c = .lst xs) ∨ ∃ kvs, c = .dict kvs) := fun n hn => by
              simp only [isN] at hn
              split at hn
              · rename_i xs hx; exact ⟨of_decide_eq_true hn, _, hx, rfl, .inl ⟨xs, rfl⟩⟩
              · rename_i xs hx; exact ⟨of_decide_eq_true hn, _, hx, rfl, .inr ⟨xs, rfl⟩⟩
              · cases hn
            have of_isN : ∀ n c, h0.length ≤ n → h[n]? = some c → ((∃ xs, c = .lst xs) ∨ ∃ kvs, c = .dict kvs) → isN n = true := fun n c hn hc hk => by
              simp only [isN, hc]
              rcases hk with ⟨xs, rfl⟩ | ⟨xs, rfl⟩ <;> exact decide_eq_true hn
            let L := ((List.range h.length).filter isN).filterMap fun n => ρ'[n]?
            have inL : ∀ a, a ∈ L ↔ ∃ n, isN n = true ∧ ρ'[n]? = some a := fun a => by
              simp only [L, List.mem_filterMap, List.mem_filter, List.mem_range]
              constructor
              · rintro ⟨n, ⟨_, h1⟩, h2⟩; exact ⟨n, h1, h2⟩
              · rintro ⟨n, h1, h2⟩
                exact ⟨n, ⟨by rw [← hr.len]; exact (List.getElem?_eq_some_iff.mp h2).1, h1⟩, h2⟩
            have mL : MutL L H' := by
              refine ⟨?_, fun a ha => ?_⟩
              · have key : ∀ l : List Nat, l.Nodup → (∀ n ∈ l, isN n = true) → (l.filterMap fun n => ρ'[n]?).Nodup := fun l => by
                  induction l with
                  | nil => intro _ _; exact .nil
                  | cons n l ih =>
                    intro hn hi
                    obtain ⟨n1, n2⟩ := List.nodup_cons.mp hn
                    have ih := ih n2 fun m hm => hi m (by simp [hm])
                    rw [List.filterMap_cons]
                    cases q : ρ'[n]? with
                    | none => exact ih
                    | some a =>
                      refine List.nodup_cons.mpr ⟨fun hm => ?_, ih⟩
                      obtain ⟨m, hm1, hm2⟩ := List.mem_filterMap.mp hm
                      obtain ⟨_, c, hc, hcm, _⟩ := isN_of n (hi n (by simp))
                      obtain ⟨_, c', hc', hcm', _⟩ := isN_of m (hi m (by simp [hm1]))
                      have := hr.inj n m a c c' q hm2 hc hc' hcm hcm'
                      subst this; exact n1 hm1
                exact key _ (List.nodup_range.filter _) fun n hn => (List.mem_filter.mp hn).2
              · obtain ⟨n, hn, ha⟩ := (inL a).mp ha
                obtain ⟨_, c, hc, hcm, _⟩ := isN_of n hn
                obtain ⟨u, hu, _, _, mu⟩ := (hr.at_ n c a hc ha).there hcm
                exact ⟨u, hu, mu⟩
            refine ⟨L, mL, fun H'' lk => ?_⟩
            have kp := lk.keeps mL
            refine hp ρ v H'' (Ext.refl _) ⟨k.k.trans kp, fun a o h1 h2 => ?_⟩ ?_ ?_
            · obtain ⟨q1, q2⟩ := k.fr a o h1 h2
              refine ⟨?_, h2⟩
              rw [lk.out a fun hL => ?_]
              · exact q1
              · obtain ⟨n, hn, ha⟩ := (inL a).mp hL
                obtain ⟨hge, _⟩ := isN_of n hn
                have := r0.pos
                exact q2 n (by omega) ha
            · refine (r0.taken hr e ho.1).lckd lk mL fun n c a h1 h2 hm hL => ?_
              obtain ⟨m, hm', ha⟩ := (inL a).mp hL
              obtain ⟨hge, c', hc', hcm', _⟩ := isN_of m hm'
              have hn := (List.getElem?_eq_some_iff.mp h1).1
              rw [List.length_take] at hn
              have h1' : h[n]? = some c := by rw [List.getElem?_take_of_lt (by omega)] at h1; exact h1
              have := hr.inj n m a c c' (e n a h2) ha h1' hc' hm hcm'
              omega
            · refine (frzD_ok (ρ' := ρ') hr kp (fun n c a u hn hc ha hk hu => ?_) 8 d d' v rd hd').down e (by rw [r0.len]; exact hcl)
              exact lk.in_ a ((inL a).mpr ⟨n, of_isN n c hn hc hk, ha⟩) u hu
          · exact g0 hp
        · exact g0 hp
      · exact old hp
theorem FrzQ.mono {Q Q' : VK} {x : V} (w : ∀ x H, Q x H → Q' x H) (h : FrzQ Q x H) : FrzQ Q' x H := by
  obtain ⟨L, m, q⟩ := h
  exact ⟨L, m, fun H' k => w _ _ (q H' k)⟩
end
end FL
set_option autoImplicit false
set_option linter.all false
set_option maxRecDepth 100000
/-! FL, part Yb: tuple(d) of a dict. -/
namespace FL
open PySem L2 PyProof.Rows
theorem code_tupleSrc {prog : Program} {w : World} {A : Around} {E : Value → Shared → Prop} {s : Shared} {Ty : String} {r d : Addr} {n : Nat} {P : Nat → Value → Prop} {OK : Heap → Prop} {Q₁ : Value → Shared → Prop} (K : PySem.W.KdlSrc prog w Ty r d n P OK) (hh : A.handled = none) (hok : OK s.heap) (hn : n ≤ sizeLine) (hT : s.TypeIs (.ref r) "dict")
    (h : ∀ (h' : Heap) (tk : Nat) (acc : Array Value), (∀ b o, s.heap.get? b = some o → h'.get? b = some o) → ItemsOf P acc n → Q₁ (.ref h'.objs.size) { s with heap := h'.push { cls := .type "tuple", data := .seq acc }, toks := tk }) :
    codeAny (model prog w) A (.call (.builtin "tuple.__new__") ⟨[.type "tuple", .ref r], []⟩) (wants Q₁ E) s := by
  refine codeAny_of_tree ?_
  show wpAny _ A.in1 (do checkBuiltinCall "tuple.__new__" ⟨[.type "tuple", .ref r], []⟩; again (.builtin "tuple.__new__" ⟨[.type "tuple", .ref r], []⟩)) _ _ s
  refine wpAny_bind (wpAny_of_eq (F.newCall_tuple_1 _) (wpAny_pure ⟨plainId_quiet F.plain_tuple_new _, codeAny_builtin F.entry_tuple_new ?_⟩))
  rw [Around.under_plainId F.plain_tuple_new _]
  have h1 := sub_tuple_self
  have h2 := init_tuple_lookup
  have h3 := madeHere_tuple
  have hh1 : A.in1.handled = none := hh
  wp_walk using wpAny_typeOf hT, PySem.W.kdu_collect (A := A.in1) K hh1 hok hn
  intro h' tk acc hk hacc
  show wpAny _ _ (Builtin.Tuple.tupleExact acc.toList.toArray >>= fun v => ret v) _ _ _
  unfold Builtin.Tuple.tupleExact
  refine wpAny_bind (wpAny_newObj_type ?_ (by show acc.toList.toArray.size ≤ sizeLine; simp only [Array.toArray_toList]; rw [hacc.1]; exact hn))
  have e : acc.toList.toArray = acc := by simp
  refine wpAny_pure ?_
  rw [e]
  exact h h' tk acc hk hacc
theorem cr_tupleDK {X : Cx} (hc : X.calm = true) : CallR X (.type "tuple") (fun xs H Q => ∃ (a : Addr) (kvs : List (L2.Key × V)), xs = [.ref a] ∧ Rd H a (.dK kvs) ∧ ∀ p, H p = none → Q (.ref p) (upd H p (.tup (kvs.map fun kv => kV kv.1)))) := by
  rintro pins s σ H xs us Q I r ⟨a, kvs, rfl, hd, q⟩
  obtain ⟨u, rfl, ru⟩ := vals1 r
  obtain rfl : u = Value.ref a := ru
  obtain ⟨z, lo, vs, rel, dd⟩ := dk_rd I.hok hd
  obtain ⟨ep, hat⟩ := dd.dictAt
  have ek : (kvs.map fun kv => kV kv.1) = vs.map fun p => kV p.1 := by
    have e := congrArg (List.map kV) rel.keys
    rw [List.map_map, List.map_map] at e
    exact e
  refine callType_codes (Q₁ := fun obj s₁ => s₁.TypeIs obj "tuple" ∧ EP X pins σ Q obj s₁) F.called_tuple (F.typeCall_tuple_1 _) F.entry_object_init
    (code_tupleSrc (A := X.A.in1) (PySem.W.kdl_dict (knd := mixKind X.prog X.w) (kvs := vs) (ep := ep) lo) (I.ok.hd hc) hat (by rw [← rel.length]; exact z) dd.typeIs fun h' tk acc hk hacc => ⟨⟨_, Heap.get?_push_size _ rfl, rfl⟩, ?_⟩) fun obj s₁ h₁ => ?_
  · have hv : Vals (vs.map fun p => kV p.1) acc.toList := keys_at (by rw [Array.length_toList]; exact hacc.1) fun j v e => hacc.2 j v (by rw [← Array.getElem?_toList]; exact e)
    have I1 : Inv X pins σ H { s with heap := h', toks := tk } := I.kept (t' := tk) hk
    have ea : acc = acc.toList.toArray := by simp
    refine ⟨.ref h'.objs.size, upd H h'.objs.size (.tup (kvs.map fun kv => kV kv.1)), I1.laid (t' := tk) (fun b o e => Heap.get?_push_of_some _ e) (Nat.le_refl _) (show ObjOk X.prog X.w _ _ _ (.tup (kvs.map fun kv => kV kv.1)) from ⟨by rw [List.length_map]; exact z, acc.toList, by rw [ek]; exact hv, by rw [← ea]; exact IsTup.new _ _⟩), rfl, q _ (I1.hok.fresh (Nat.le_refl _))⟩
  · exact ⟨h₁.1, F.args_object_init_2 obj _, object_init_meets F.called_tuple.init.lookup F.called_tuple.made (by decide) X.prog X.w X.A.in1 _ s₁ ⟨h₁.1, rfl, h₁.2⟩⟩
end FL
set_option autoImplicit false
set_option linter.all false
set_option maxRecDepth 100000
/-! FL, part Z: d[None] = x, behind which nothing is known of d; setdefault. -/
namespace FL
open PySem L2 PyProof.Rows PySem.SeqAt
def nonIs : Option L2.Key → Value → Bool
  | none, v => match v with
    | .none => true
    | _ => false
  | some k, v => L2.keyIs k v
theorem nonIs_shape {k : Option L2.Key} {v : Value} (h : nonIs k v = true) : (k = none ∧ v = .none) ∨ ∃ l, k = some l ∧ L2.keyIs l v = true := by
  cases k with
  | none =>
    left
    cases v <;> first | exact ⟨rfl, rfl⟩ | (simp [nonIs] at h)
  | some l => exact .inr ⟨l, rfl, h⟩
theorem non_ne {l : L2.Key} (h : L2.keyIs l .none = true) : False := by
  rcases L2.keyIs_shape h with ⟨i, t, _, e⟩ | ⟨x, t, _, e⟩ <;> cases e
/-- ints, texts, None -/
def nonKind (prog : Program) (w : World) : PySem.KeyKind prog w (Option L2.Key) where
  is := nonIs
  hash := fun k => match k with
    | none => reduceHash 0xFCA86420
    | some l => (L2.mixKind prog w).hash l
  inj := fun v a b ha hb => by
    rcases nonIs_shape ha with ⟨rfl, rfl⟩ | ⟨l, rfl, h1⟩
    · rcases nonIs_shape hb with ⟨rfl, _⟩ | ⟨l, rfl, h2⟩
      · rfl
      · exact (non_ne h2).elim
    · rcases nonIs_shape hb with ⟨rfl, rfl⟩ | ⟨l2, rfl, h2⟩
      · exact (non_ne h1).elim
      · rw [(L2.mixKind prog w).inj v l l2 h1 h2]
  byValue := fun k v h => by
    rcases nonIs_shape h with ⟨rfl, rfl⟩ | ⟨l, rfl, h1⟩
    · rfl
    · exact (L2.mixKind prog w).byValue l v h1
  pyHash := fun {A E s k v Q} hv h => by
    rcases nonIs_shape hv with ⟨rfl, rfl⟩ | ⟨l, rfl, h1⟩
    · exact PySem.W.pyHash_slot (T := "NoneType") rfl PySem.F.slot_NoneType_hash PySem.F.entry_NoneType_hash (PySem.F.args_NoneType_hash_1 _) (beq_builtin_none _) (.inl rfl) (wpAny_bind (wpAny_pure (wpAny_bind (wpAny_mkInt (wpAny_pure ⟨_, _, rfl, h⟩)))))
    · exact (L2.mixKind prog w).pyHash h1 h
  eqBool := fun {A E s a b u v Q} hu hv h => by
    rcases nonIs_shape hu with ⟨rfl, rfl⟩ | ⟨l, rfl, h1⟩
    · rcases nonIs_shape hv with ⟨rfl, rfl⟩ | ⟨l2, rfl, h2⟩
      · exact SeqAt.EqAt.same _ _ _ _ _ h
      · rcases L2.keyIs_shape h2 with ⟨i, t, rfl, rfl⟩ | ⟨x, t, rfl, rfl⟩
        · exact SeqAt.EqAt.none_int i t _ _ _ _ h
        · exact SeqAt.EqAt.none_str x t _ _ _ _ h
    · rcases nonIs_shape hv with ⟨rfl, rfl⟩ | ⟨l2, rfl, h2⟩
      · rcases L2.keyIs_shape h1 with ⟨i, t, rfl, rfl⟩ | ⟨x, t, rfl, rfl⟩
        · exact SeqAt.EqAt.int_none i t _ _ _ _ h
        · exact SeqAt.EqAt.str_none x t _ _ _ _ h
      · refine (L2.mixKind prog w).eqBool h1 h2 ?_
        have e : decide (some l = some l2) = decide (l = l2) := decide_eq_decide.mpr ⟨fun z => Option.some.inj z, fun z => by rw [z]⟩
        rw [← e]; exact h
  «strs» := fun k x t v h => by
    rcases nonIs_shape h with ⟨rfl, z⟩ | ⟨l, rfl, h1⟩
    · cases z
    · exact (L2.mixKind prog w).strs l x t v h1
theorem pairs_non {P : Program} {w : World} : ∀ {es : List DictEntry} {vs : List (L2.Key × Value)}, Pairs (L2.mixKind P w) es vs → Pairs (nonKind P w) es (vs.map fun p => (some p.1, p.2))
  | _, _, .nil => .nil
  | _, _, .cons a b c => .cons a b (pairs_non c)
theorem dict_non {P : Program} {w : World} {h : Heap} {a : Addr} {vs : List (L2.Key × Value)} (x : h.DictOf (L2.mixKind P w) a vs) : h.DictOf (nonKind P w) a (vs.map fun p => (some p.1, p.2)) := by
  obtain ⟨o, es, ep, ho, hx, hd, hk, hp, hn⟩ := x
  refine ⟨o, es, ep, ho, hx, hd, fun e he => ?_, pairs_non hp, ?_⟩
  · obtain ⟨k, h1, h2⟩ := hk e he
    exact ⟨some k, h1, h2⟩
  · rw [List.map_map]
    have e : (vs.map ((fun p : Option L2.Key × Value => p.1) ∘ fun p : L2.Key × Value => (some p.1, p.2))) = (vs.map (·.1)).map some := by rw [List.map_map]; rfl
    rw [e]
    exact hn.map _ fun a b h z => h (Option.some.inj z)
/-- d[None] = r -/
theorem d_setNone {X : Cx} {pins : List (Addr × Obj)} {σ : L2.St} {H : Hp} {s : Shared} {A : Around} {E : Value → Shared → Prop} {a : Addr} {kvs : List (L2.Key × V)} {r : Value} {Q : Unit → Shared → Prop} (I : Inv X pins σ H s) (e : H a = some (.dK kvs)) (h : ∀ s', Inv X pins σ (upd H a (.ext fun _ => True)) s' → Q () s') :
    wpAny (model X.prog X.w) A (setItem (.ref a) .none r) Q E s := by
  obtain ⟨z, hd, vs, rel, dd⟩ := dk_of I.hok e
  refine wpAny_setItem_pairs (knd := nonKind X.prog X.w) (k := none) (hsz := by rw [List.length_map, ← rel.length]; exact z) rfl (dict_non dd) fun h' dd' hs => h _ ?_
  have he : ∃ q, h'.get? a = some q := let ⟨q, _, _, hq, _⟩ := dd'; ⟨q, hq⟩
  exact d_write I (by rw [e]; exact True.intro) hs he ⟨trivial, he, fun _ _ _ _ => trivial⟩
end FL
set_option autoImplicit false
set_option linter.all false
set_option maxRecDepth 100000
/-! FL, part C: the operations by values. -/
namespace FL
open PySem L2 PyProof.Rows PySem.SeqAt

section
variable {X : Cx} {H : Hp} {ρ : List Addr} {h : Hs} {T : Tx}
theorem HR.lst (r : HR T H ρ h) {n : Nat} {a : Addr} {xs : List D} (ha : ρ[n]? = some a) (hx : lstAt h n = some xs) : ∃ vs, SqL T.K H a vs ∧ RDs T.K H ρ xs vs := by
  obtain ⟨c, hc, cr⟩ := r.get ha
  unfold lstAt at hx
  rw [hc] at hx
  cases c with
  | lst ds => cases hx; obtain ⟨vs, h1, h2⟩ := cr; exact ⟨vs, SqL.of h1, h2⟩
  | flst ds => cases hx; obtain ⟨vs, h1, h2⟩ := cr; exact ⟨vs, h1.sq, h2⟩
  | dict _ => cases hx
  | ldict _ => cases hx
  | obj _ _ => cases hx
theorem HR.mlst (r : HR T H ρ h) {n : Nat} {a : Addr} {xs : List D} (ha : ρ[n]? = some a) (hx : mlstAt h n = some xs) : ∃ vs, H a = some (.lst vs) ∧ RDs T.K H ρ xs vs := by
  obtain ⟨c, hc, cr⟩ := r.get ha
  unfold mlstAt at hx
  rw [hc] at hx
  cases c with
  | lst ds => cases hx; exact cr
  | flst ds => cases hx
  | dict _ => cases hx
  | ldict _ => cases hx
  | obj _ _ => cases hx
theorem HR.dict (r : HR T H ρ h) {n : Nat} {a : Addr} {kvs : List (D × D)} (ha : ρ[n]? = some a) (hx : dictAt h n = some kvs) : ∃ vs, Rd H a (.dK vs) ∧ KS T.K H ρ kvs vs := by
  obtain ⟨c, hc, cr⟩ := r.get ha
  unfold dictAt at hx
  rw [hc] at hx
  cases c with
  | lst ds => cases hx
  | flst ds => cases hx
  | dict _ => cases hx; obtain ⟨vs, h1, h2⟩ := cr; exact ⟨vs, .inl h1, h2⟩
  | ldict _ => cases hx
  | obj _ _ => cases hx
theorem HR.mdict (r : HR T H ρ h) {n : Nat} {a : Addr} {kvs : List (D × D)} (ha : ρ[n]? = some a) (hx : mdictAt h n = some kvs) : ∃ vs, H a = some (.dK vs) ∧ KS T.K H ρ kvs vs := by
  obtain ⟨c, hc, cr⟩ := r.get ha
  unfold mdictAt at hx
  rw [hc] at hx
  cases c with
  | lst ds => cases hx
  | flst ds => cases hx
  | dict _ => cases hx; exact cr
  | ldict _ => cases hx
  | obj _ _ => cases hx
theorem HR.lstD (r : HR T H ρ h) {d : D} {v : V} {xs : List D} (rd : RD T.K H ρ d v) (hx : lstD h d = some xs) : ∃ p vs, v = .ref p ∧ SqL T.K H p vs ∧ RDs T.K H ρ xs vs := by
  cases rd with
  | loc ha => obtain ⟨vs, g1, g2⟩ := r.lst ha hx; exact ⟨_, vs, rfl, g1, g2⟩
  | fl g1 g2 => cases hx; exact ⟨_, _, rfl, .inl (.inr ⟨_, g1⟩), g2⟩
  | _ => cases hx
theorem HR.mlstD (r : HR T H ρ h) {d : D} {v : V} {xs : List D} (rd : RD T.K H ρ d v) (hx : mlstD h d = some xs) : ∃ p vs, v = .ref p ∧ Rd H p (.lst vs) ∧ RDs T.K H ρ xs vs := by
  cases rd with
  | loc ha => obtain ⟨vs, g1, g2⟩ := r.mlst ha hx; exact ⟨_, vs, rfl, .inl g1, g2⟩
  | fl g1 g2 => cases hx; exact ⟨_, _, rfl, .inr ⟨_, g1⟩, g2⟩
  | _ => cases hx
theorem HR.dictD (r : HR T H ρ h) {d : D} {v : V} {kvs : List (D × D)} (rd : RD T.K H ρ d v) (hx : dictD h d = some kvs) : ∃ p vs, v = .ref p ∧ Rd H p (.dK vs) ∧ KS T.K H ρ kvs vs := by
  cases rd with
  | loc ha => obtain ⟨vs, g1, g2⟩ := r.dict ha hx; exact ⟨_, vs, rfl, g1, g2⟩
  | fd g1 g2 g3 g4 => cases hx; subst g3; exact ⟨_, _, rfl, .inr ⟨_, g1⟩, KS.unsplit g2 g4⟩
  | _ => cases hx
theorem scal_V {K : PySem.W.Frag} {d : D} {v : V} {k : L2.Key} (rd : RD K H ρ d v) (e : scalK d = some k) : v = kV k := by
  cases rd <;> cases e <;> rfl
/-- a new list, a new tuple in the layer's heap -/
theorem HR.newLst (r : HR T H ρ h) {p : Addr} {ds : List D} {vs : List V} (hp : H p = none) (rd : RDs T.K H ρ ds vs) : HR T (upd H p (.lst vs)) (ρ ++ [p]) (h ++ [.lst ds]) :=
  r.newC hp rfl ⟨vs, upd_same, rd.mono (Keeps.new hp) (Ext.app _ _)⟩
theorem RD.newTup {K : PySem.W.Frag} {p : Addr} {ds : List D} {vs : List V} (hp : H p = none) (rd : RDs K H ρ ds vs) : RD K (upd H p (.tup vs)) ρ (.tup ds) (.ref p) :=
  .tup (SqT.of upd_same) (rd.mono (Keeps.new hp) (Ext.refl _))
theorem lastLoc {K : PySem.W.Frag} (r : HR T H ρ h) (p : Addr) : RD K H (ρ ++ [p]) (.loc h.length) (.ref p) := .loc (by rw [← r.len]; simp)
section
variable {W : WX} {τ : L2.St} {Q : VK}
theorem PR.newL {xs : List D} (hp : PR T W τ H ρ (RAd T.K) Q (newL h xs)) (r : HR T H ρ h) {vs : List V} (rd : RDs T.K H ρ xs vs) : ∀ p, H p = none → Q (.ref p) (upd H p (.lst vs)) := fun p hn =>
  hp (ρ ++ [p]) (.ref p) _ (Ext.app _ _) (KF.newC hn) (r.newLst hn rd) (.loc (by rw [← r.len]; simp))
theorem PR.newT {xs : List D} (hp : PR T W τ H ρ (RAd T.K) Q (.ok (.tup xs) h)) (r : HR T H ρ h) {vs : List V} (rd : RDs T.K H ρ xs vs) : ∀ p, H p = none → Q (.ref p) (upd H p (.tup vs)) := fun p hn =>
  hp ρ (.ref p) _ (Ext.refl _) (KF.new hn) (r.newO hn) (RD.newTup hn rd)
end
end

section
variable {T : Tx} {H : Hp} {ρ : List Addr} {h : Hs} {W : WX} {τ : L2.St} {Q : VK}
theorem PR.okF {d : D} {v : V} (hp : PR T W τ H ρ (RAd T.K) Q (.ok d h)) (r : HR T H ρ h) (rd : RD T.K H ρ d v) : FrzQ Q v H := FrzQ.of (PR.ok hp r rd)
theorem PR.newTF {xs : List D} (hp : PR T W τ H ρ (RAd T.K) Q (.ok (.tup xs) h)) (r : HR T H ρ h) {vs : List V} (rd : RDs T.K H ρ xs vs) : ∀ p, H p = none → FrzQ Q (.ref p) (upd H p (.tup vs)) := fun p hn => FrzQ.of (PR.newT hp r rd p hn)
theorem PR.newM {m : Bool} {xs : List D} (hp : PR T W τ H ρ (RAd T.K) Q (newM m h xs)) (r : HR T H ρ h) {vs : List V} (rd : RDs T.K H ρ xs vs) : ∀ p, H p = none → FrzQ Q (.ref p) (upd H p (.lst vs)) := fun p hn => by
  cases m with
  | true => exact FrzQ.of (PR.newL hp r rd p hn)
  | false => exact PR.newF hp r rd p hn
end
section
variable {T : Tx} {H : Hp} {ρ : List Addr} {h : Hs} {W : WX} {τ : L2.St} {Q : VK}
theorem PR.newD {m : Bool} {kvs : List (D × D)} (hp : PR T W τ H ρ (RAd T.K) Q (newD m h kvs)) (r : HR T H ρ h) {gs : List (L2.Key × V)} (rd : KS T.K H ρ kvs gs) : ∀ p, H p = none → FrzQ Q (.ref p) (upd H p (.dK gs)) := fun p hn => by
  cases m with
  | true => exact FrzQ.of (hp (ρ ++ [p]) (.ref p) _ (Ext.app _ _) (KF.newC hn) (r.newC hn rfl ⟨gs, upd_same, rd.mono (Keeps.new hn) (Ext.app _ _)⟩) (.loc (by rw [← r.len]; simp)))
  | false =>
    refine FrzQ.one hn trivial fun o => ?_
    obtain ⟨z1, z2⟩ := (rd.mono (Keeps.new (o := .frz o (.dK gs)) hn) (Ext.refl _)).split
    exact hp ρ (.ref p) _ (Ext.refl _) (KF.new hn) (r.newO hn) (.fd upd_same z1 rfl z2)
end
section
variable {K : PySem.W.Frag} {H : Hp} {ρ : List Addr}
theorem scal_rd {d : D} {k : L2.Key} (h : scalK d = some k) : RD K H ρ d (kV k) := by
  cases d <;> cases h
  · exact .int _
  · exact .str _
theorem KS.keys : ∀ {fs : List (D × D)} {gs : List (L2.Key × V)}, KS K H ρ fs gs → RDs K H ρ (fs.map (·.1)) (gs.map fun kv => kV kv.1)
  | _, _, .nil => .nil
  | _, _, .cons h hs => .cons (scal_rd h.1) (KS.keys hs)
theorem KS.key {d : D} {l : L2.Key} (h : scalK d = some l) : ∃ nk, d.key = some nk := by
  cases d <;> cases h
  · exact ⟨_, rfl⟩
  · exact ⟨_, rfl⟩
theorem KS.merge : ∀ {more : List (D × D)} {ls : List (L2.Key × V)}, KS K H ρ more ls → ∀ {kvs : List (D × D)} {ks : List (L2.Key × V)}, KS K H ρ kvs ks → KS K H ρ (dmerge kvs more) (ls.foldl (fun acc p => putK acc p.1 p.2) ks)
  | _, _, .nil, _, _, q => q
  | _, _, .cons (a := x) (b := y) h hs, kvs, ks, q => by
    obtain ⟨nk, hk⟩ := KS.key h.1
    rw [dmerge, hk]
    exact KS.merge hs (q.put h.1 hk h.2)
theorem KS.mergeN {more : List (D × D)} {ls : List (L2.Key × V)} (h : KS K H ρ more ls) : KS K H ρ (dmerge [] more) (mergeK [] ls) := KS.merge h .nil
theorem pairs_rd : ∀ {ds : List D} {vs : List V} {kvs : List (D × D)}, RDs K H ρ ds vs → pairsD ds = some kvs → ∃ (ps : List Addr) (gs : List (L2.Key × V)), vs = ps.map V.ref ∧ Paired (fun p kv => SqT K H p [kV kv.1, kv.2]) ps gs ∧ KS K H ρ kvs gs
  | [], _, _, .nil, e => by cases e; exact ⟨[], [], rfl, .nil, .nil⟩
  | d :: ds, _, _, .cons h hs, e => by
    unfold pairsD at e
    split at e
    · rename_i q; cases q
    · rename_i k v r q
      cases q
      split at e
      · rename_i hk
        obtain ⟨kvs', e1, rfl⟩ := Option.map_eq_some_iff.mp e
        obtain ⟨ps, gs, rfl, p1, p2⟩ := pairs_rd hs e1
        obtain ⟨l, hl⟩ := Option.isSome_iff_exists.mp hk
        cases h with
        | @tup _ a us g1 g2 =>
          cases g2 with
          | cons hk' g3 =>
            cases g3 with
            | cons hv g4 =>
              cases g4
              have := scal_V hk' hl
              subst this
              exact ⟨a :: ps, (l, _) :: gs, rfl, .cons g1 p1, .cons ⟨hl, hv⟩ p2⟩
      · cases e
    · cases e
end
/-! ### lists that may stand locked -/
section
variable {X : Cx} {pins : List (Addr × Obj)} {σ : L2.St} {H : Hp} {s : Shared}
theorem Inv.lstR {a : Addr} {xs : List V} (I : Inv X pins σ H s) (g : Rd H a (.lst xs)) : ∃ (its : List Value) (n : Nat), xs.length ≤ sizeLine ∧ Vals xs its ∧ its.length = xs.length ∧ s.heap.get? a = some { cls := .type "list", data := .seq its.toArray n } := by
  obtain ⟨hz, its, n, rv, e⟩ := g.ok I.hok
  exact ⟨its, n, hz, rv, rv.length.symm, e⟩
def rCatR : R2 := fun x y H Q => ∃ (l b : Addr) (xs zs : List V), (x = .ref l ∧ y = .ref b) ∧ (Rd H l (.lst xs) ∧ Rd H b (.lst zs)) ∧ xs.length + zs.length ≤ sizeLine ∧ ∀ p, H p = none → Q (.ref p) (upd H p (.lst (xs ++ zs)))
theorem op_catR : OpR X (binaryOp .Add) rCatR := by
  rintro pins s σ H x y v u Q I rx ry ⟨l, b, xs, zs, ⟨rfl, rfl⟩, ⟨g1, g2⟩, hz, q⟩
  obtain rfl : v = Value.ref l := rx
  obtain rfl : u = Value.ref b := ry
  obtain ⟨i1, n1, _, r1, l1, e1⟩ := Inv.lstR I g1
  obtain ⟨i2, n2, _, r2, l2, e2⟩ := Inv.lstR I g2
  have hs : i1.toArray.size + i2.toArray.size ≤ sizeLine := by simp only [List.size_toArray]; omega
  have ea : i1.toArray ++ i2.toArray = (i1 ++ i2).toArray := by simp
  refine PySem.P.add_list e1 e2 ?_ hs
  rw [ea]
  exact ⟨.ref _, _, I.lnew (t' := s.toks) (r1.append r2) (by simp only [List.length_append]; omega), rfl, q _ I.fresh⟩
def rRepR : R2 := fun x y H Q => ∃ (l : Addr) (k : Int) (xs : List V), (x = .ref l ∧ y = .int k) ∧ Rd H l (.lst xs) ∧ (-(2 ^ 63) ≤ k ∧ k < 2 ^ 63) ∧ xs.length * k.toNat ≤ sizeLine ∧ ∀ p, H p = none → Q (.ref p) (upd H p (.lst (List.replicate k.toNat xs).flatten))
theorem op_repR : OpR X (binaryOp .Mult) rRepR := by
  rintro pins s σ H x y v u Q I rx ry ⟨l, k, xs, ⟨rfl, rfl⟩, g1, ⟨h1, h2⟩, hz, q⟩
  obtain rfl : v = Value.ref l := rx
  obtain ⟨t, rfl⟩ := ry
  obtain ⟨its, n, _, r, hl, e⟩ := Inv.lstR I g1
  have z1 : its.toArray.size * k.toNat ≤ sizeLine := by simp only [List.size_toArray, hl]; exact hz
  have z2 : ¬ its.toArray.size * k.toNat > (2 ^ 63 - 1) / 8 := by have : (sizeLine : Nat) ≤ (2 ^ 63 - 1) / 8 := by decide
                                                                  omega
  have z3 : ¬ (!Builtin.List.listFitsIndex k) = true := by rw [fitsIndex_both h1 h2]; exact fun z => nomatch z
  have z4 : ¬ Builtin.List.listTooLong (its.toArray.size * k.toNat) = true := by rw [notLongL z1]; exact fun z => nomatch z
  have z5 : List.foldl (fun a b => a ++ b) #[] (List.replicate (if its.toArray.isEmpty = true then 0 else k.toNat) its.toArray) = (List.replicate k.toNat its).flatten.toArray := by
    have f0 : ∀ m : Nat, List.foldl (fun a b => a ++ b) #[] (List.replicate m its.toArray) = (List.replicate m its).flatten.toArray := fun m => by simpa using foldl_rep its m []
    rw [f0]
    cases its <;> simp
  have ty : s.TypeIs (.ref l) "list" := ⟨_, e, rfl⟩
  have f := call_meets F.slot_list_mul ty F.entry_list_mul (F.args_list_mul_2 _ _) (AutoListH.list___mul___list_int_3 l its.toArray n k t z3 z2 z4) (A := X.A) (prog := X.prog) (w := X.w) (Q := EP X pins σ Q) (E := X.xe) ⟨e, by
    rw [z5]
    exact ⟨.ref _, _, I.lnew (t' := s.toks) (r.rep k.toNat) (by rw [PyProof.Rows.lm_len_rep_flat, Nat.mul_comm]; exact hz), rfl, q _ I.fresh⟩⟩
  exact wpAny_binaryOp_repeat_ref (T := "list") (U := "int") (by decide) ⟨_, e, rfl⟩ (fun s' => typeIs_int s' k t) noFill_list_mul F.fills_int_mul F.slot_int_rmul repeat_list F.slot_int_index.lookup
    (call_meets F.slot_int_rmul (typeIs_int s k t) F.entry_int_rmul (F.args_int_rmul_2 _ _) (int___rmul___int_list k t l its.toArray n) ⟨e, rfl, ⟨_, e, rfl⟩, f⟩)
def rExtR : V → List V → Hp → VK → Prop := fun x vs H Q => ∃ (l b : Addr) (xs zs : List V), (x = .ref l ∧ vs = [.ref b]) ∧ (H l = some (.lst xs) ∧ Rd H b (.lst zs)) ∧ xs.length + zs.length ≤ sizeLine ∧ Q .non (upd H l (.lst (xs ++ zs)))
theorem mt_extR : MtR X "list.extend" rExtR := by
  rintro pins s σ H x vs v us Q I rx rv ⟨l, b, xs, zs, ⟨rfl, rfl⟩, ⟨g1, g2⟩, hz, q⟩
  obtain rfl : v = Value.ref l := rx
  obtain ⟨u, rfl, ru⟩ := rv.one
  obtain rfl : u = Value.ref b := ru
  obtain ⟨i1, n1, _, r1, l1, e1⟩ := Inv.lstR I (.inl g1)
  obtain ⟨i2, n2, _, r2, l2, e2⟩ := Inv.lstR I g2
  have hs : i1.toArray.size + i2.toArray.size ≤ sizeLine := by simp only [List.size_toArray]; omega
  have hl : ¬ ((!i1.toArray.isEmpty && Builtin.List.listTooLong (i1.toArray.size + i2.toArray.size)) = true) := by
    rw [notLongL hs, Bool.and_false]; exact fun z => nomatch z
  refine call_meets F.slot_list_extend ⟨_, e1, rfl⟩ F.entry_list_extend (F.args_list_extend_2 _ _) (AutoSeq1.list_extend_list_list_0 l i1.toArray n1 b i2.toArray n2 hl (by simp only [List.size_toArray]; omega) (by omega)) ⟨e1, e2, ?_⟩
  exact ⟨.non, _, I.lset (its' := i1 ++ i2) g1 e1 (by simp) (r1.append r2) (by simp only [List.length_append]; omega), rfl, q⟩
end
/-! ### operators -/
/-- two values, what is wanted of FL's answer -/
def rD (T : Tx) (f : D → D → Hs → R D) : R2 := fun x y H Q => ∃ (W : WX) (τ : L2.St) (ρ : List Addr) (a b : D) (h : Hs), RD T.K H ρ a x ∧ RD T.K H ρ b y ∧ HR T H ρ h ∧ PR T W τ H ρ (RAd T.K) Q (f a b h)
section
variable {X : Cx}
theorem binI_ok {op : Operator} (pins : List (Addr × Obj)) (s : Shared) (σ : L2.St) (H : Hp) (i j k : Int) (v u : Value) (Q : VK) (I : Inv X pins σ H s) (rx : RelV (.int i) v) (ry : RelV (.int j) u) (e : binI op i j = some k) (q : Q (.int k) H) :
    wpAny (model X.prog X.w) X.A (binaryOp op v u) (EP X pins σ Q) X.xe s := by
  cases op with
  | Add => cases e; exact op_add pins s σ H _ _ v u Q I rx ry ⟨i, j, rfl, rfl, q⟩
  | Sub => cases e; exact op_sub pins s σ H _ _ v u Q I rx ry ⟨i, j, rfl, rfl, q⟩
  | Mult => simp only [binI] at e; split at e <;> cases e; rename_i hm; exact op_mul pins s σ H _ _ v u Q I rx ry ⟨i, j, rfl, rfl, hm, q⟩
  | FloorDiv => simp only [binI] at e; split at e <;> cases e; rename_i hm; exact op_fdivN pins s σ H _ _ v u Q I rx ry ⟨i, j, rfl, rfl, hm, q⟩
  | Mod => simp only [binI] at e; split at e <;> cases e; rename_i hm; exact op_modN pins s σ H _ _ v u Q I rx ry ⟨i, j, rfl, rfl, hm, q⟩
  | Pow => simp only [binI] at e; split at e <;> cases e; rename_i hm; exact op_pow pins s σ H _ _ v u Q I rx ry ⟨i, j, rfl, rfl, hm, q⟩
  | LShift => simp only [binI] at e; split at e <;> cases e; rename_i hm; exact op_shl pins s σ H _ _ v u Q I rx ry ⟨i, j, rfl, rfl, hm, q⟩
  | RShift => simp only [binI] at e; split at e <;> cases e; rename_i hm; exact op_shr pins s σ H _ _ v u Q I rx ry ⟨i, j, rfl, rfl, hm, q⟩
  | BitAnd => cases e; exact op_and pins s σ H _ _ v u Q I rx ry ⟨i, j, rfl, rfl, q⟩
  | BitOr => cases e; exact op_or pins s σ H _ _ v u Q I rx ry ⟨i, j, rfl, rfl, q⟩
  | BitXor => cases e; exact op_xor pins s σ H _ _ v u Q I rx ry ⟨i, j, rfl, rfl, q⟩
  | _ => cases e
/-- .. locked, if it is a list that is never written again -/
def rDF (T : Tx) (f : D → D → Hs → R D) : R2 := fun x y H Q' => ∃ Q, Q' = FrzQ Q ∧ rD T f x y H Q
theorem op_bin {m : Bool} {op : Operator} : OpR X (binaryOp op) (rDF (txOf X) (binD m op)) := by
  rintro pins s σ H x y v u _ I rx ry ⟨Q, rfl, W, τ, ρ, a, b, h, ra, rb, hr, hp⟩
  -- lists
  have genN : ∀ n : Int, b = .int n → PR (txOf X) W τ H ρ (RAd X.K) Q (binN m op a n h) → wpAny (model X.prog X.w) X.A (binaryOp op v u) (EP X pins σ (FrzQ Q)) X.xe s := by
    clear hp
    rintro n rfl hp
    unfold binN at hp
    split at hp
    · rename_i xs hx
      split at hp
      · rename_i hz
        obtain ⟨p, vs, rfl, g1, g2⟩ := hr.mlstD ra hx
        cases rb
        exact op_repR pins s σ H _ _ v u _ I rx ry ⟨p, n, vs, ⟨rfl, rfl⟩, g1, ⟨hz.1, hz.2.1⟩, by rw [← g2.length]; exact hz.2.2, hp.newM hr (g2.replicate _)⟩
      · exact hp.elim
    · exact hp.elim
  have gen : PR (txOf X) W τ H ρ (RAd X.K) Q (binL m op a b h) → wpAny (model X.prog X.w) X.A (binaryOp op v u) (EP X pins σ (FrzQ Q)) X.xe s := by
    clear hp
    intro hp
    unfold binL at hp
    split at hp
    · rename_i xs ys e1 e2
      split at hp
      · rename_i hz
        obtain ⟨p, vs, rfl, g1, g2⟩ := hr.mlstD ra e1
        obtain ⟨q, us, rfl, g3, g4⟩ := hr.mlstD rb e2
        exact op_catR pins s σ H _ _ v u _ I rx ry ⟨p, q, vs, us, ⟨rfl, rfl⟩, ⟨g1, g3⟩, by rw [← g2.length, ← g4.length]; exact hz, hp.newM hr (g2.append g4)⟩
      · exact hp.elim
    · exact hp.elim
  cases ra with
  | int i =>
    cases rb with
    | int j =>
      obtain ⟨k, e0, hp⟩ := hp.ofO
      obtain ⟨z, e1, rfl⟩ := Option.map_eq_some_iff.mp e0
      exact binI_ok pins s σ H i j z v u _ I rx ry e1 (FrzQ.of (hp.ok hr (.int z)))
    | _ => exact gen hp
  | str x =>
    cases rb with
    | str y =>
      cases op with
      | Add =>
        simp only [binD] at hp
        split at hp
        · rename_i hz
          exact op_add_str pins s σ H _ _ v u _ I rx ry ⟨x, y, rfl, rfl, hz, FrzQ.of (hp.ok hr (.str _))⟩
        · exact hp.elim
      | _ => exact hp.elim
    | int n => exact genN n rfl hp
    | _ => exact gen hp
  | @tup xs p vs hs rs =>
    cases rb with
    | @tup ys q us hs' rs' =>
      cases op with
      | Add =>
        simp only [binD] at hp
        split at hp
        · rename_i hz
          refine op_catA pins s σ H _ _ v u _ I rx ry ⟨p, q, vs, us, rfl, rfl, hs, hs', by rw [← rs.length, ← rs'.length]; exact hz, fun e => ?_, fun _ e => ?_, fun _ _ p np => FrzQ.of (hp.newT hr (rs.append rs') p np)⟩
          · subst e; cases rs; exact FrzQ.of (hp.ok hr (.tup hs' rs'))
          · subst e; cases rs'; exact FrzQ.of (hp.ok hr (.tup hs (by simpa using rs)))
        · exact hp.elim
      | _ => exact hp.elim
    | int n =>
      cases op with
      | Mult =>
        simp only [binD] at hp
        split at hp
        · rename_i hz
          obtain ⟨h1, h2, h3, h4⟩ := hz
          refine op_repT pins s σ H _ _ v u _ I rx ry ⟨p, n, vs, rfl, rfl, hs, fun e => ?_, h1, h2, by rw [← rs.length]; exact h3, fun p np => FrzQ.of (hp.newT hr (rs.replicate _) p np)⟩
          subst e; cases rs; cases h4
        · exact hp.elim
      | _ => exact hp.elim
    | _ => exact gen hp
  | _ =>
    cases rb with
    | int n => exact genN n rfl hp
    | _ => exact gen hp
end

/-! ### data -/
section
variable {K : PySem.W.Frag} {T : Tx} {H : Hp} {ρ : List Addr} {h : Hs}
mutual
theorem pyW_dp {lk : Nat → Option PyData} (hl : ∀ n a p, ρ[n]? = some a → lk n = some p → Dp K H (.ref a) p) : ∀ {d : D} {v : V} {x : PyData}, RD K H ρ d v → d.pyW lk = some x → Dp K H v x
  | .non, _, _, .non, e => by cases e; exact .non
  | .bl _, _, _, .bl _, e => by cases e; exact .bl _
  | .int _, _, _, .int _, e => by cases e; exact .int _
  | .str _, _, _, .str _, e => by cases e; exact .str _
  | .tup _, _, _, .tup h hs, e => by
    rw [D.pyW] at e
    obtain ⟨ys, e1, rfl⟩ := Option.map_eq_some_iff.mp e
    exact .tup h (pyWL_dp hl hs e1)
  | .loc _, _, _, .loc h, e => hl _ _ _ h e
  | .fl _, _, _, .fl h hs, e => by
    rw [D.pyW] at e
    obtain ⟨ys, e1, rfl⟩ := Option.map_eq_some_iff.mp e
    exact .lst (.inl (.inr ⟨_, h⟩)) (pyWL_dp hl hs e1)
  | .fd _ _, _, _, .fd _ _ _ _, e => by cases e
theorem pyWL_dp {lk : Nat → Option PyData} (hl : ∀ n a p, ρ[n]? = some a → lk n = some p → Dp K H (.ref a) p) : ∀ {ds : List D} {vs : List V} {xs : List PyData}, RDs K H ρ ds vs → D.pyWL lk ds = some xs → DpAll K H vs xs
  | [], _, _, .nil, e => by cases e; exact .nil
  | d :: ds, _, _, .cons h hs, e => by
    rw [D.pyWL] at e
    split at e
    · rename_i a b e1 e2
      cases e
      exact .cons (pyW_dp hl h e1) (pyWL_dp hl hs e2)
    · cases e
end
theorem lkL_dp (r : HR T H ρ h) : ∀ (k n : Nat) (a : Addr) (p : PyData), ρ[n]? = some a → lkL h k n = some p → Dp T.K H (.ref a) p
  | 0, _, _, _, _, e => by cases e
  | k + 1, n, a, p, ha, e => by
    obtain ⟨c, hc, cr⟩ := r.get ha
    rw [lkL, hc] at e
    cases c with
    | lst xs =>
      obtain ⟨ys, e1, rfl⟩ := Option.map_eq_some_iff.mp e
      obtain ⟨vs, h1, h2⟩ := cr
      exact .lst (SqL.of h1) (pyWL_dp (lkL_dp r k) h2 e1)
    | flst xs =>
      obtain ⟨ys, e1, rfl⟩ := Option.map_eq_some_iff.mp e
      obtain ⟨vs, h1, h2⟩ := cr
      exact .lst h1.sq (pyWL_dp (lkL_dp r k) h2 e1)
    | dict _ => cases e
    | ldict _ => cases e
    | obj _ _ => cases e
theorem py_dp (r : HR T H ρ h) {d : D} {v : V} {x : PyData} (rd : RD T.K H ρ d v) (e : d.py h = some x) : Dp T.K H v x := pyW_dp (lkL_dp r 8) rd e
theorem pyL_dp (r : HR T H ρ h) {ds : List D} {vs : List V} {xs : List PyData} (rd : RDs T.K H ρ ds vs) (e : pyL h ds = some xs) : DpAll T.K H vs xs := pyWL_dp (lkL_dp r 8) rd e
end

section
variable {X : Cx}
/-- a comparison by FL's answer -/
def rC (T : Tx) (f : D → D → Hs → Option Bool) : R2 := fun x y H Q => ∃ (ρ : List Addr) (a b : D) (h : Hs) (k : Bool), RD T.K H ρ a x ∧ RD T.K H ρ b y ∧ HR T H ρ h ∧ f a b h = some k ∧ Q (.bl k) H
theorem eqD_some {h : Hs} {a b : D} {k : Bool} (e : eqD h a b = some k) : ∃ x y, a.py h = some x ∧ b.py h = some y ∧ SeqAt.shaped x = true ∧ SeqAt.shaped y = true ∧ k = PyData.eqv x y := by
  unfold eqD at e
  split at e
  · rename_i x y e1 e2
    split at e
    · rename_i hs
      cases e
      exact ⟨x, y, e1, e2, hs.1, hs.2, rfl⟩
    · cases e
  · cases e
theorem inL_some {h : Hs} {a : D} {xs : List D} {k : Bool} (e : inL h a xs = some k) : ∃ x ys, a.py h = some x ∧ pyL h xs = some ys ∧ SeqAt.shaped x = true ∧ SeqAt.shaped (.list ys) = true ∧ k = (ys.any fun y => PyData.eqv y x) := by
  unfold inL at e
  split at e
  · rename_i x y e1 e2
    split at e
    · rename_i hs
      cases e
      exact ⟨x, y, e1, e2, hs.1, hs.2, rfl⟩
    · cases e
  · cases e
theorem room_in {A : Around} {xs : List PyData} {d : PyData} (hd : SeqAt.shaped d = true) (hu : A.units + 65 < cLine) : A.units + 1 + min (PyData.depthAll xs) d.depth < cLine := room_in_shaped hd hu
theorem isNon_eq {K : PySem.W.Frag} {H : Hp} {ρ : List Addr} {d : D} {v : V} (r : RD K H ρ d v) : isNon d = decide (v = .non) := by
  cases r <;> simp [isNon]
/-- x in t, x not in t -/
theorem in_any (neg : Bool) (hu : X.A.units + 65 < cLine) (pins : List (Addr × Obj)) (s : Shared) (σ : L2.St) (H : Hp) (x y : V) (v u : Value) (Q : VK) (I : Inv X pins σ H s) (rx : RelV x v) (ry : RelV y u)
    {ρ : List Addr} {a b : D} {h : Hs} {k : Bool} (ra : RD X.K H ρ a x) (rb : RD X.K H ρ b y) (hr : HR (txOf X) H ρ h) (e : inD h a b = some k) (q : Q (.bl (if neg = true then !k else k)) H) :
    wpAny (model X.prog X.w) X.A (compareOp (if neg = true then .NotIn else .In) v u) (EP X pins σ Q) X.xe s := by
  have fin : EP X pins σ Q (.bool (if neg = true then !k else k)) s := ⟨.bl _, H, I, rfl, q⟩
  have hL : ∀ (p : Addr) (xs : List D) (vs : List V), y = .ref p → SqL X.K H p vs → RDs X.K H ρ xs vs → inL h a xs = some k → wpAny (model X.prog X.w) X.A (compareOp (if neg = true then .NotIn else .In) v u) (EP X pins σ Q) X.xe s := by
    intro p xs vs e1 hs rs e2
    subst e1
    obtain ⟨dx, ys, g1, g2, g3, g4, rfl⟩ := inL_some e2
    obtain ⟨as, r1⟩ := Dp.reads I dx x v (py_dp hr ra g1) rx
    obtain ⟨bs, r2⟩ := Dp.reads I (.list ys) (.ref p) u (.lst hs (pyL_dp hr rs g2)) ry
    have c1 : PyData.canLayAll0 ys = true := by have := SeqAt.canLay_of_shaped g4; rw [PyData.canLay0] at this; exact this
    cases neg with
    | false => exact in_list_reads r2 r1 c1 (SeqAt.canLay_of_shaped g3) (room_in g3 hu) fin
    | true => exact notIn_list_reads r2 r1 c1 (SeqAt.canLay_of_shaped g3) (room_in g3 hu) fin
  have gen : inG h a b = some k → wpAny (model X.prog X.w) X.A (compareOp (if neg = true then .NotIn else .In) v u) (EP X pins σ Q) X.xe s := by
    clear e
    intro e
    unfold inG at e
    split at e
    · rename_i xs hx
      obtain ⟨p, vs, rfl, h1, h2⟩ := hr.lstD rb hx
      exact hL p xs vs rfl h1 h2 e
    · split at e
      · rename_i kvs nk e1 e2
        split at e
        · rename_i hk
          obtain ⟨l, hl⟩ := Option.isSome_iff_exists.mp hk
          obtain ⟨p, vs, rfl, g1, g2⟩ := hr.dictD rb e1
          obtain ⟨z1, z2⟩ := KS.find hl e2 g2
          have ex := scal_V ra hl
          subst ex
          obtain rfl : u = Value.ref p := ry
          have q0 : (valV vs l).isSome = k := by
            cases hd : dfind nk kvs with
            | none => rw [hd] at e; rw [z2 hd]; exact Option.some.inj e
            | some d => rw [hd] at e; obtain ⟨v', hv, _⟩ := z1 d hd; rw [hv]; exact Option.some.inj e
          have g : DGet H p (kV l) (valV vs l) := .inl ⟨vs, l, g1, rfl, rfl⟩
          have hu1 : X.A.units + 1 < cLine := by omega
          cases neg with
          | false => exact d_in hu1 I g rx fun s' I' => ⟨.bl _, H, I', rfl, by rw [q0]; exact q⟩
          | true => exact d_notIn hu1 I g rx fun s' I' => ⟨.bl _, H, I', rfl, by rw [q0]; exact q⟩
        · cases e
      · cases e
  cases rb with
  | @tup xs p vs hs rs =>
    obtain ⟨dx, ys, g1, g2, g3, g4, rfl⟩ := inL_some (show inL h a xs = some k from e)
    obtain ⟨as, r1⟩ := Dp.reads I dx x v (py_dp hr ra g1) rx
    obtain ⟨bs, r2⟩ := Dp.reads I (.tuple ys) (.ref p) u (.tup hs (pyL_dp hr rs g2)) ry
    have c1 : PyData.canLayAll0 ys = true := by have := SeqAt.canLay_of_shaped g4; rw [PyData.canLay0] at this; exact this
    cases neg with
    | false => exact in_tuple_reads r2 r1 c1 (SeqAt.canLay_of_shaped g3) (room_in g3 hu) fin
    | true => exact notIn_tuple_reads r2 r1 c1 (SeqAt.canLay_of_shaped g3) (room_in g3 hu) fin
  | _ => exact gen e
theorem orP_some {o p : Option Bool} {k : Bool} (e : orP o p = some k) : o = some k ∨ p = some k := by
  cases o with
  | none => exact .inr e
  | some x => exact .inl e
theorem cmpP_some {op : CmpOp} {h : Hs} {a b : D} {k : Bool} (e : cmpP op h a b = some k) : ∃ x y, a.py h = some x ∧ b.py h = some y ∧ PySem.W.alike x y = true ∧ x.depth ≤ 64 ∧ x ≠ .none ∧ cmpR op x y = some k := by
  unfold cmpP at e
  split at e
  · rename_i x y e1 e2
    split at e
    · rename_i hs
      obtain ⟨s1, s2, s3⟩ := hs
      exact ⟨x, y, e1, e2, s1, s2, (by rintro rfl; cases s3), e⟩
    · cases e
  · cases e
/-- alike data compared -/
theorem cmp_data {op : CmpOp} (hu : X.A.units + 65 < cLine) (pins : List (Addr × Obj)) (s : Shared) (σ : L2.St) (H : Hp) (x y : V) (v u : Value) (Q : VK) (I : Inv X pins σ H s) (rx : RelV x v) (ry : RelV y u) {ρ : List Addr} {a b : D} {h : Hs} {k : Bool} (ra : RD X.K H ρ a x) (rb : RD X.K H ρ b y) (hr : HR (txOf X) H ρ h)
    (e : cmpP op h a b = some k) (q : Q (.bl k) H) : wpAny (model X.prog X.w) X.A (compareOp op v u) (EP X pins σ Q) X.xe s := by
  obtain ⟨dx, dy, g1, g2, g3, g4, g5, g6⟩ := cmpP_some e
  obtain ⟨as, r1⟩ := Dp.reads I dx x v (py_dp hr ra g1) rx
  obtain ⟨bs, r2⟩ := Dp.reads I dy y u (py_dp hr rb g2) ry
  have room : X.A.units + min dx.depth dy.depth < cLine := by have := Nat.min_le_left dx.depth dy.depth; omega
  have fin : EP X pins σ Q (.bool k) s := ⟨.bl _, H, I, rfl, q⟩
  cases op with
  | Lt => cases g6; exact PySem.W.lt_data r1 r2 g3 g5 room fin
  | Gt => cases g6; exact PySem.W.gt_data r1 r2 g3 g5 room fin
  | LtE => cases g6; exact PySem.W.le_data r1 r2 g3 g5 room fin
  | GtE => cases g6; exact PySem.W.ge_data r1 r2 g3 g5 room fin
  | _ => cases g6
theorem op_cmp {op : CmpOp} (hu : X.A.units + 65 < cLine) : OpR X (compareOp op) (rC (txOf X) fun a b h => cmpD op h a b) := by
  intro pins s σ H x y v u Q I rx ry hh
  obtain ⟨ρ, a, b, h, k, ra, rb, hr, e, q⟩ := hh
  have hu64 : X.A.units + 64 < cLine := by omega
  cases op with
  | Eq =>
    obtain ⟨dx, dy, g1, g2, g3, g4, rfl⟩ := eqD_some e
    exact op_eqD hu64 pins s σ H x y v u Q I rx ry ⟨dx, dy, py_dp hr ra g1, py_dp hr rb g2, g3, g4, q⟩
  | NotEq =>
    obtain ⟨k', e', rfl⟩ := Option.map_eq_some_iff.mp e
    obtain ⟨dx, dy, g1, g2, g3, g4, rfl⟩ := eqD_some e'
    exact op_neD hu64 pins s σ H x y v u Q I rx ry ⟨dx, dy, py_dp hr ra g1, py_dp hr rb g2, g3, g4, q⟩
  | Lt =>
    rcases orP_some e with e | e
    · cases ra <;> cases rb <;> cases e
      · exact op_lt pins s σ H _ _ v u Q I rx ry ⟨_, _, rfl, rfl, q⟩
      · exact op_lt_str pins s σ H _ _ v u Q I rx ry ⟨_, _, rfl, rfl, q⟩
    · exact cmp_data hu pins s σ H x y v u Q I rx ry ra rb hr e q
  | LtE =>
    rcases orP_some e with e | e
    · cases ra <;> cases rb <;> cases e
      · exact op_le pins s σ H _ _ v u Q I rx ry ⟨_, _, rfl, rfl, q⟩
      · exact op_le_str pins s σ H _ _ v u Q I rx ry ⟨_, _, rfl, rfl, q⟩
    · exact cmp_data hu pins s σ H x y v u Q I rx ry ra rb hr e q
  | Gt =>
    rcases orP_some e with e | e
    · cases ra <;> cases rb <;> cases e
      · exact op_gt pins s σ H _ _ v u Q I rx ry ⟨_, _, rfl, rfl, q⟩
      · exact op_gt_str pins s σ H _ _ v u Q I rx ry ⟨_, _, rfl, rfl, q⟩
    · exact cmp_data hu pins s σ H x y v u Q I rx ry ra rb hr e q
  | GtE =>
    rcases orP_some e with e | e
    · cases ra <;> cases rb <;> cases e
      · exact op_ge pins s σ H _ _ v u Q I rx ry ⟨_, _, rfl, rfl, q⟩
      · exact op_ge_str pins s σ H _ _ v u Q I rx ry ⟨_, _, rfl, rfl, q⟩
    · exact cmp_data hu pins s σ H x y v u Q I rx ry ra rb hr e q
  | In => exact in_any false hu pins s σ H x y v u Q I rx ry ra rb hr e q
  | NotIn =>
    obtain ⟨k', e', rfl⟩ := Option.map_eq_some_iff.mp e
    exact in_any true hu pins s σ H x y v u Q I rx ry ra rb hr e' q
  | Is =>
    simp only [cmpD, isD] at e
    split at e
    · rename_i hb
      cases e
      have hy : y = .non := by have := isNon_eq rb; rw [hb] at this; exact of_decide_eq_true this.symm
      exact op_isN pins s σ H x y v u Q I rx ry ⟨hy, by rw [← isNon_eq ra]; exact q⟩
    · cases ra <;> cases rb <;> first | cases e | skip
      exact op_is_bl pins s σ H _ _ v u Q I rx ry ⟨_, _, rfl, rfl, q⟩
  | IsNot =>
    obtain ⟨k', e', rfl⟩ := Option.map_eq_some_iff.mp e
    simp only [isD] at e'
    split at e'
    · rename_i hb
      cases e'
      have hy : y = .non := by have := isNon_eq rb; rw [hb] at this; exact of_decide_eq_true this.symm
      exact op_notN pins s σ H x y v u Q I rx ry ⟨hy, by rw [← isNon_eq ra]; exact q⟩
    · cases ra <;> cases rb <;> first | cases e' | skip
      exact op_isnot_bl pins s σ H _ _ v u Q I rx ry ⟨_, _, rfl, rfl, q⟩
/-- truth -/
theorem truth_ok {T : Tx} {H : Hp} {ρ : List Addr} {h : Hs} {d : D} {v : V} {k : Bool} (rd : RD T.K H ρ d v) (hr : HR T H ρ h) (e : truth h d = some k) : TruV T.K v H k := by
  cases rd with
  | non => cases e; rfl
  | bl b => cases e; rfl
  | int i => cases e; rfl
  | str s =>
    simp only [truth] at e
    split at e
    · rename_i hz; cases e; exact ⟨hz, rfl⟩
    · cases e
  | @tup xs p vs hs rs =>
    cases e
    refine .inr (.inl ⟨vs, hs, ?_⟩)
    have := rs.length
    cases xs <;> cases vs <;> simp_all
  | @loc n p hn =>
    simp only [truth] at e
    split at e
    · rename_i xs hx
      cases e
      obtain ⟨vs, h1, h2⟩ := hr.lst hn hx
      refine .inl ⟨vs, h1, ?_⟩
      have := h2.length
      cases xs <;> cases vs <;> simp_all
    · split at e
      · rename_i kvs hx
        cases e
        obtain ⟨vs, h1, h2⟩ := hr.mdict hn hx
        refine .inr (.inr ⟨vs, h1, ?_⟩)
        have := h2.length
        cases kvs <;> cases vs <;> simp_all
      · cases e
  | @fl xs p vs o g1 g2 =>
    cases e
    refine .inl ⟨vs, .inl (.inr ⟨o, g1⟩), ?_⟩
    have := g2.length
    cases xs <;> cases vs <;> simp_all
  | fd _ _ _ _ => cases e
end

/-! ### items, slices, stores -/
section
variable {X : Cx}
theorem atI_rd {K : PySem.W.Frag} {H : Hp} {ρ : List Addr} {ds : List D} {vs : List V} {i : Int} {d : D} (r : RDs K H ρ ds vs) (e : atI ds i = some d) : ∃ v, atI vs i = some v ∧ RD K H ρ d v := by
  unfold atI at e ⊢
  rw [← r.length]
  cases hx : ixN ds.length i with
  | none => rw [hx] at e; cases e
  | some j =>
    rw [hx] at e
    exact r.get e
theorem ix_dict {value slice : Expr} {pins : List (Addr × Obj)} {H : Hp} {s : Shared} {σ : L2.St} {p : Addr} {y v : V} {u : Value} {Q : VK} (hu : X.A.units + 1 < cLine) (I : Inv X pins σ H s) (ry : RelV y u) (g : DGet H p y (some v)) (q : Q v H)
    (hs : subscripted slice false (.ref p) u = operate [.ref p, u] (getItem (.ref p) u)) : wpAny (model X.prog X.w) X.A (subscriptTail value slice (.ref p) u) (EP X pins σ Q) X.xe s := by
  have hT := dict_typeIs I g
  unfold subscriptTail
  refine wpAny_bind ?_
  rw [getitemInPython_of_ne hT.not_modules]
  refine wpAny_bind (wpAny_specialOf hT PySem.F.slot_dict_getitem.lookup ?_)
  have fin : wpAny (model X.prog X.w) X.A (subscripted slice false (.ref p) u) (fun r s₃ => wpAny (model X.prog X.w) X.A (letTemporaryGo value (.ref p) r >>= fun _ => pure r) (EP X pins σ Q) X.xe s₃) X.xe s := by
    rw [hs]
    exact wpAny_operating (d_getItem hu I g ry fun w' s' I' rw' => wpAny_bind (wpAny_letTemporaryGo (wpAny_pure ⟨v, H, I', rw', q⟩)))
  first
    | exact wpAny_pure (wpAny_bind fin)
    | exact wpAny_bind (wpAny_pure (wpAny_bind fin))
    | exact wpAny_bind fin
theorem ix_any (hu : X.A.units + 65 < cLine) : IxR X (rD (txOf X) idxD) := by
  intro value slice pins s σ H x y v u Q I rx ry hh hs
  obtain ⟨W, τ, ρ, a, b, h, ra, rb, hr, hp⟩ := hh
  have gen : PR (txOf X) W τ H ρ (RAd X.K) Q (idxG a b h) → wpAny (model X.prog X.w) X.A (subscriptTail value slice v u) (EP X pins σ Q) X.xe s := by
    clear hp
    intro hp
    unfold idxG at hp
    split at hp
    · rename_i xs hx
      obtain ⟨p, vs, rfl, g1, g2⟩ := hr.lstD ra hx
      cases rb with
      | int j =>
        obtain ⟨d, e, hp⟩ := PR.ofO (show PR (txOf X) W τ H ρ _ Q (R.ofO h (atI xs j)) from hp)
        obtain ⟨z, e1, e2⟩ := atI_rd g2 e
        exact ix_list value slice pins s σ H _ _ v u Q I rx ry ⟨p, vs, j, z, rfl, rfl, g1, e1, hp.ok hr e2⟩ hs
      | _ => exact hp.elim
    · split at hp
      · rename_i kvs nk e1 e2
        split at hp
        · rename_i hk
          obtain ⟨l, hl⟩ := Option.isSome_iff_exists.mp hk
          obtain ⟨p, vs, rfl, g1, g2⟩ := hr.dictD ra e1
          obtain ⟨d, ed, hp⟩ := hp.ofO
          obtain ⟨v', hv, rv'⟩ := (KS.find hl e2 g2).1 d ed
          have ex := scal_V rb hl
          subst ex
          obtain rfl : v = Value.ref p := rx
          exact ix_dict (by omega) I ry (.inl ⟨vs, l, g1, rfl, hv.symm⟩) (hp.ok hr rv') hs
        · exact hp.elim
      · exact hp.elim
  cases ra with
  | @tup xs p vs g1 g2 =>
    cases rb with
    | int j =>
      obtain ⟨d, e, hp⟩ := PR.ofO (show PR (txOf X) W τ H ρ _ Q (R.ofO h (atI xs j)) from hp)
      obtain ⟨z, e1, e2⟩ := atI_rd g2 e
      exact ix_tup value slice pins s σ H _ _ v u Q I rx ry ⟨p, vs, j, z, rfl, rfl, g1, e1, hp.ok hr e2⟩ hs
    | _ => exact hp.elim
  | _ => exact gen hp
/-- a part, by FL's answer -/
def rSlD (T : Tx) (m : Bool) : V → Option Int → Option Int → Hp → VK → Prop := fun x lo hi H Q' => ∃ (Q : VK) (W : WX) (τ : L2.St) (ρ : List Addr) (a : D) (h : Hs), Q' = FrzQ Q ∧ RD T.K H ρ a x ∧ HR T H ρ h ∧ PR T W τ H ρ (RAd T.K) Q (sliceD m a lo hi h)
theorem cut_rd {K : PySem.W.Frag} {H : Hp} {ρ : List Addr} {ds : List D} {vs : List V} (r : RDs K H ρ ds vs) (lo hi : Option Int) : RDs K H ρ (cut ds lo hi) (cutV vs lo hi) := by
  unfold cut cutV
  rw [← r.length]
  exact (r.drop _).take _
theorem sl_any {m : Bool} : SlR X (rSlD (txOf X) m) := by
  rintro pins s σ H x v vl vu lo hi sl _ I rx hs pl pu ⟨Q, W, τ, ρ, a, h, rfl, ra, hr, hp⟩
  have gen : PR (txOf X) W τ H ρ (RAd X.K) Q (sliceG m a lo hi h) → ∃ (T id : String), typeLookup (.type T) (Str.ofString "__getitem__") = pure (some (.builtin id)) ∧ s.TypeIs v T ∧ wpAny (model X.prog X.w) X.A (getItem v (.ref sl)) (EP X pins σ (FrzQ Q)) X.xe s := by
    clear hp
    intro hp
    unfold sliceG at hp
    split at hp
    · rename_i xs hx
      obtain ⟨p, vs, rfl, g1, g2⟩ := hr.lstD ra hx
      exact sl_list pins s σ H _ v vl vu lo hi sl _ I rx hs pl pu ⟨p, vs, rfl, g1, PR.newM hp hr (cut_rd g2 lo hi)⟩
    · exact hp.elim
  cases ra with
  | @tup xs p vs g1 g2 =>
    refine sl_tupA pins s σ H _ v vl vu lo hi sl _ I rx hs pl pu ⟨p, vs, rfl, g1, fun hw => ?_, fun _ p np => FrzQ.of (PR.newT hp hr (cut_rd g2 lo hi) p np)⟩
    refine FrzQ.of (PR.ok hp hr (.tup g1 ?_))
    have c := cut_rd g2 lo hi
    have e : cutV vs lo hi = vs := by
      unfold cutV; rw [hw.1, hw.2]; simp
    rw [e] at c
    exact c
  | _ => exact gen hp
/-- o[i] = v by FL's answer -/
def rSetD (T : Tx) : TSet := fun o i v H Q => ∃ (W : WX) (τ : L2.St) (ρ : List Addr) (a b d : D) (h : Hs), RD T.K H ρ a o ∧ RD T.K H ρ b i ∧ RD T.K H ρ d v ∧ HR T H ρ h ∧ PR T W τ H ρ (RAe Unit) (fun _ H' => Q H') (setIdx a b d h)
theorem set_any (hu : X.A.units + 65 < cLine) : PSet X (rSetD (txOf X)) := by
  intro pins s σ H o i v ov iv u Q I ro ri rv hh
  obtain ⟨W, τ, ρ, a, b, d, h, ra, rb, rd, hr, hp⟩ := hh
  cases ra with
  | @loc n p hn0 =>
    simp only [setIdx] at hp
    split at hp
    · rename_i xs hx
      cases rb with
      | int j =>
        simp only at hp
        split at hp
        · rename_i k hk
          obtain ⟨vs, g1, g2⟩ := hr.at_ n _ p hx hn0
          refine set_list pins s σ H _ _ v ov iv u Q I ro ri rv ⟨p, vs, j, k, rfl, rfl, g1, by rw [← g2.length]; exact hk, ?_⟩
          obtain ⟨q1, q2⟩ := hr.setC (o := .lst (vs.set k v)) hx hn0 rfl (c' := .lst (xs.set k d)) rfl ⟨vs.set k v, upd_same, (g2.set rd k).mono (Keeps.put g1 (fun _ => nofun) (fun _ _ => nofun)) (Ext.refl _)⟩
          exact hp ρ () _ (Ext.refl _) q2 q1 rfl
        · exact hp.elim
      | _ => exact hp.elim
    · rename_i kvs hx
      split at hp
      · rename_i nk e2
        split at hp
        · rename_i hk
          obtain ⟨l, hl⟩ := Option.isSome_iff_exists.mp hk.1
          obtain ⟨vs, g1, g2⟩ := hr.at_ n _ p hx hn0
          have ex := scal_V rb hl
          subst ex
          obtain rfl : ov = Value.ref p := ro
          have hz : vs.length < sizeLine := by rw [← g2.length]; exact hk.2
          obtain ⟨q1, q2⟩ := hr.setC (o := .dK (putK vs l v)) hx hn0 rfl (c' := .dict (dput nk b d kvs)) rfl ⟨_, upd_same, (g2.put hl e2 rd).mono (Keeps.put g1 (fun _ => nofun) (fun _ _ => nofun)) (Ext.refl _)⟩
          exact d_setItem (by omega) I (DPut.k g1 hz) ri rv fun s' I' => ⟨_, I', hp ρ () _ (Ext.refl _) q2 q1 rfl⟩
        · split at hp
          · rename_i hn
            obtain ⟨vs, g1, g2⟩ := hr.at_ n _ p hx hn0
            have hy : i = .non := by have := isNon_eq rb; rw [hn.1] at this; exact of_decide_eq_true this.symm
            subst hy
            obtain rfl : ov = Value.ref p := ro
            obtain rfl : iv = Value.none := ri
            obtain ⟨q1, q2⟩ := hr.setC (o := .ext fun _ => True) hx hn0 rfl (c' := .ldict []) rfl ⟨_, upd_same⟩
            exact d_setNone I g1 fun s' I' => ⟨_, I', hp ρ () _ (Ext.refl _) q2 q1 rfl⟩
          · exact hp.elim
      · exact hp.elim
    · exact hp.elim
  | _ => exact hp.elim
end

/-! ### built-in functions -/
def rB (T : Tx) (f : List D → Hs → R D) : List V → Hp → VK → Prop := fun xs H Q' => ∃ (Q : VK) (W : WX) (τ : L2.St) (ρ : List Addr) (ds : List D) (h : Hs), Q' = FrzQ Q ∧ RDs T.K H ρ ds xs ∧ HR T H ρ h ∧ PR T W τ H ρ (RAd T.K) Q (f ds h)
section
variable {X : Cx}
theorem CallR.weak {f : Value} {r r' : List V → Hp → VK → Prop} (c : CallR X f r) (h : ∀ xs H Q, r' xs H Q → r xs H Q) : CallR X f r' := fun pins s σ H xs us Q I rv q => c pins s σ H xs us Q I rv (h xs H Q q)
theorem bools_rd {K : PySem.W.Frag} {H : Hp} {ρ : List Addr} : ∀ {ds : List D} {vs : List V} {bs : List Bool}, RDs K H ρ ds vs → bools ds = some bs → vs = bs.map V.bl
  | [], _, _, .nil, e => by cases e; rfl
  | _ :: _, _, _, .cons h hs, e => by
    cases h with
    | bl b =>
      rw [bools] at e
      obtain ⟨bs', e1, rfl⟩ := Option.map_eq_some_iff.mp e
      rw [bools_rd hs e1]; rfl
    | _ => cases e
theorem intsD_rd {K : PySem.W.Frag} {H : Hp} {ρ : List Addr} : ∀ {ds : List D} {vs : List V} {bs : List Int}, RDs K H ρ ds vs → intsD ds = some bs → vs = bs.map V.int
  | [], _, _, .nil, e => by cases e; rfl
  | _ :: _, _, _, .cons h hs, e => by
    cases h with
    | int b =>
      rw [intsD] at e
      obtain ⟨bs', e1, rfl⟩ := Option.map_eq_some_iff.mp e
      rw [intsD_rd hs e1]; rfl
    | _ => cases e
theorem HR.items {T : Tx} {H : Hp} {ρ : List Addr} {h : Hs} (hr : HR T H ρ h) {d : D} {v : V} {xs : List D} (rd : RD T.K H ρ d v) (e : itemsD h d = some xs) : ∃ p vs, v = .ref p ∧ (SqL T.K H p vs ∨ SqT T.K H p vs) ∧ RDs T.K H ρ xs vs ∧ (SqL T.K H p vs ∨ (d = .tup xs ∧ SqT T.K H p vs)) := by
  have gen : FL.lstD h d = some xs → ∃ p vs, v = .ref p ∧ (SqL T.K H p vs ∨ SqT T.K H p vs) ∧ RDs T.K H ρ xs vs ∧ (SqL T.K H p vs ∨ (d = .tup xs ∧ SqT T.K H p vs)) := fun e => by
    obtain ⟨p, vs, e1, g1, g2⟩ := hr.lstD rd e
    exact ⟨p, vs, e1, .inl g1, g2, .inl g1⟩
  cases rd with
  | @tup ys p vs g1 g2 => cases e; exact ⟨p, vs, rfl, .inr g1, g2, .inr ⟨rfl, g1⟩⟩
  | _ => exact gen e
theorem one_rd {K : PySem.W.Frag} {H : Hp} {ρ : List Addr} {ds : List D} {v : V} (r : RDs K H ρ ds [v]) : ∃ d, ds = [d] ∧ RD K H ρ d v := by
  cases r with
  | cons h hs => cases hs; exact ⟨_, rfl, h⟩
theorem ct_len {m : Bool} : CallR X (.builtin "len") (rB (txOf X) (btD m .len)) := by
  rintro pins s σ H xs us _ I rv ⟨Q, W, τ, ρ, ds, h, rfl, rd, hr, hp⟩
  match ds, rd with
  | [], _ => exact hp.elim
  | _ :: _ :: _, _ => exact hp.elim
  | [d], .cons h1 .nil =>
    simp only [btD] at hp
    split at hp
    · rename_i xs hx
      obtain ⟨p, vs, rfl, g1, g2, _⟩ := hr.items h1 hx
      exact call_len_seq pins s σ H _ us _ I rv ⟨p, vs, rfl, g1, by rw [← g2.length]; exact hp.okF hr (.int _)⟩
    · have gen : PR (txOf X) W τ H ρ (RAd X.K) Q (R.ofO h ((FL.dictD h d).map fun kvs => D.int kvs.length)) → wpAny (model X.prog X.w) X.A (call (.builtin "len") us) (EP X pins σ (FrzQ Q)) X.xe s := by
        clear hp
        intro hp
        obtain ⟨z, ez, hp⟩ := hp.ofO
        obtain ⟨kvs, e1, rfl⟩ := Option.map_eq_some_iff.mp ez
        obtain ⟨p, vs, rfl, g1, g2⟩ := hr.dictD h1 e1
        obtain ⟨u, rfl, ru⟩ := vals1 rv
        obtain rfl : u = Value.ref p := ru
        refine d_len I g1 fun t s' I' => ⟨.int _, H, I', ⟨t, rfl⟩, ?_⟩
        rw [← g2.length]
        exact hp.okF hr (.int _)
      cases h1 with
      | str =>
        simp only at hp
        split at hp
        · rename_i hz
          exact call_len pins s σ H _ us _ I rv ⟨_, _, rfl, (⟨hz, rfl⟩ : LenV X.K (.str _) H _), hp.okF hr (.int _)⟩
        · exact hp.elim
      | _ => exact gen hp
theorem ct_abs {m : Bool} : CallR X (.builtin "abs") (rB (txOf X) (btD m .abs)) := by
  rintro pins s σ H xs us _ I rv ⟨Q, W, τ, ρ, ds, h, rfl, rd, hr, hp⟩
  match ds, rd with
  | [], _ => exact hp.elim
  | d :: _ :: _, _ => cases d <;> exact hp.elim
  | [d], .cons h1 .nil =>
    cases h1 with
    | int i => exact call_abs pins s σ H _ us _ I rv ⟨i, rfl, PR.okF hp hr (.int _)⟩
    | _ => exact hp.elim
theorem ct_int {m : Bool} : CallR X (.type "int") (rB (txOf X) (btD m .int)) := by
  rintro pins s σ H xs us _ I rv ⟨Q, W, τ, ρ, ds, h, rfl, rd, hr, hp⟩
  match ds, rd with
  | [], _ => exact hp.elim
  | d :: _ :: _, _ => cases d <;> exact hp.elim
  | [d], .cons h1 .nil =>
    cases h1 with
    | int i => exact call_int1 pins s σ H _ us _ I rv (.inl ⟨i, rfl, PR.okF hp hr (.int _)⟩)
    | _ => exact hp.elim
theorem ct_tuple {m : Bool} (hcalm : X.calm = true) : CallR X (.type "tuple") (rB (txOf X) (btD m .tuple)) := by
  rintro pins s σ H xs us _ I rv ⟨Q, W, τ, ρ, ds, h, rfl, rd, hr, hp⟩
  match ds, rd with
  | [], _ => exact hp.elim
  | _ :: _ :: _, _ => exact hp.elim
  | [d], .cons h1 .nil =>
    simp only [btD] at hp
    split at hp
    · rename_i xs hx
      obtain ⟨p, vs, rfl, g1, g2, g3⟩ := hr.items h1 hx
      refine call_tuple_of pins s σ H _ us _ I rv ⟨p, vs, rfl, ?_⟩
      rcases g3 with g3 | ⟨rfl, g3⟩
      · exact .inl ⟨g3, hp.newTF hr g2⟩
      · exact .inr ⟨g3, hp.okF hr (.tup g3 g2)⟩
    · obtain ⟨z, ez, hp⟩ := hp.ofO
      obtain ⟨kvs, e1, rfl⟩ := Option.map_eq_some_iff.mp ez
      obtain ⟨p, vs, rfl, g1, g2⟩ := hr.dictD h1 e1
      exact cr_tupleDK hcalm pins s σ H _ us _ I rv ⟨p, vs, rfl, g1, hp.newTF hr g2.keys⟩
theorem ct_list {m : Bool} (hcalm : X.calm = true) : CallR X (.type "list") (rB (txOf X) (btD m .list)) := by
  rintro pins s σ H xs us _ I rv ⟨Q, W, τ, ρ, ds, h, rfl, rd, hr, hp⟩
  match ds, rd with
  | [], _ => exact hp.elim
  | _ :: _ :: _, _ => exact hp.elim
  | [d], .cons h1 .nil =>
    simp only [btD] at hp
    split at hp
    · rename_i xs hx
      obtain ⟨p, vs, rfl, g1, g2, g3⟩ := hr.items h1 hx
      exact call_list_of pins s σ H _ us _ I rv ⟨p, vs, rfl, g1, hp.newM hr g2⟩
    · split at hp
      · rename_i kvs e1
        obtain ⟨p, vs, rfl, g1, g2⟩ := hr.dictD h1 e1
        exact call_listD hcalm pins s σ H _ us _ I rv ⟨p, vs, rfl, g1, hp.newM hr g2.keys⟩
      · exact hp.elim
theorem ct_dict {m : Bool} (hcalm : X.calm = true) : CallR X (.type "dict") (rB (txOf X) (btD m .dict)) := by
  rintro pins s σ H xs us _ I rv ⟨Q, W, τ, ρ, ds, h, rfl, rd, hr, hp⟩
  match ds, rd with
  | [], _ => exact hp.elim
  | _ :: _ :: _, _ => exact hp.elim
  | [d], .cons h1 .nil =>
    simp only [btD] at hp
    split at hp
    · rename_i kvs e1
      obtain ⟨p, vs, rfl, g1, g2⟩ := hr.dictD h1 e1
      exact call_dictD pins s σ H _ us _ I rv ⟨p, vs, rfl, g1, hp.newD hr g2⟩
    · split at hp
      · rename_i kvs e1
        obtain ⟨xs, e2, e3⟩ := Option.bind_eq_some_iff.mp e1
        obtain ⟨p, vs, rfl, g1, g2⟩ := hr.lstD h1 e2
        obtain ⟨ps, gs, rfl, k1, k2⟩ := pairs_rd g2 e3
        exact call_dictP hcalm pins s σ H _ us _ I rv ⟨p, ps, gs, rfl, g1, k1, hp.newD hr (KS.mergeN k2)⟩
      · exact hp.elim
theorem ct_all {m : Bool} (hc : X.calm = true) : CallR X (.builtin "all") (rB (txOf X) (btD m .all)) := by
  rintro pins s σ H xs us _ I rv ⟨Q, W, τ, ρ, ds, h, rfl, rd, hr, hp⟩
  match ds, rd with
  | [], _ => exact hp.elim
  | _ :: _ :: _, _ => exact hp.elim
  | [d], .cons h1 .nil =>
    obtain ⟨d, e1, hp⟩ := PR.ofO (show PR (txOf X) W τ H ρ _ Q (R.ofO h _) from hp)
    obtain ⟨bs, e2, rfl⟩ := Option.map_eq_some_iff.mp e1
    obtain ⟨ys, e3, e4⟩ := Option.bind_eq_some_iff.mp e2
    obtain ⟨p, vs, rfl, g1, g2⟩ := hr.lstD h1 e3
    exact cr_all hc pins s σ H _ us _ I rv ⟨p, bs, rfl, by rw [← bools_rd g2 e4]; exact g1, hp.okF hr (.bl _)⟩
theorem ct_any {m : Bool} (hc : X.calm = true) : CallR X (.builtin "any") (rB (txOf X) (btD m .any)) := by
  rintro pins s σ H xs us _ I rv ⟨Q, W, τ, ρ, ds, h, rfl, rd, hr, hp⟩
  match ds, rd with
  | [], _ => exact hp.elim
  | _ :: _ :: _, _ => exact hp.elim
  | [d], .cons h1 .nil =>
    obtain ⟨d, e1, hp⟩ := PR.ofO (show PR (txOf X) W τ H ρ _ Q (R.ofO h _) from hp)
    obtain ⟨bs, e2, rfl⟩ := Option.map_eq_some_iff.mp e1
    obtain ⟨ys, e3, e4⟩ := Option.bind_eq_some_iff.mp e2
    obtain ⟨p, vs, rfl, g1, g2⟩ := hr.lstD h1 e3
    exact cr_any hc pins s σ H _ us _ I rv ⟨p, bs, rfl, by rw [← bools_rd g2 e4]; exact g1, hp.okF hr (.bl _)⟩
theorem ct_sum {m : Bool} (hc : X.calm = true) : CallR X (.builtin "sum") (rB (txOf X) (btD m .sum)) := by
  rintro pins s σ H xs us _ I rv ⟨Q, W, τ, ρ, ds, h, rfl, rd, hr, hp⟩
  match ds, rd with
  | [], _ => exact hp.elim
  | _ :: _ :: _, _ => exact hp.elim
  | [d], .cons h1 .nil =>
    obtain ⟨d, e1, hp⟩ := PR.ofO (show PR (txOf X) W τ H ρ _ Q (R.ofO h _) from hp)
    obtain ⟨bs, e2, rfl⟩ := Option.map_eq_some_iff.mp e1
    obtain ⟨ys, e3, e4⟩ := Option.bind_eq_some_iff.mp e2
    obtain ⟨p, vs, rfl, g1, g2⟩ := hr.lstD h1 e3
    exact cr_sum hc pins s σ H _ us _ I rv ⟨p, bs, rfl, by rw [← intsD_rd g2 e4]; exact g1, hp.okF hr (.int _)⟩

theorem each_of {pins : List (Addr × Obj)} {σ : L2.St} {H : Hp} {s : Shared} (I : Inv X pins σ H s) {ρ : List Addr} : ∀ {ds : List D} {vs : List V} {its : List Value} {ys : List PyData}, RDs X.K H ρ ds vs → Vals vs its → DpAll X.K H vs ys →
    PySem.W.EachIs (fun (v : Value) (b : D × PyData) => (∃ x, RelV x v ∧ RD X.K H ρ b.1 x) ∧ ∃ as, Reads s.heap v b.2 as) its (ds.zip ys)
  | [], _, _, _, .nil, .nil, .nil => .nil
  | _ :: _, _, _, _, .cons h hs, .cons r rs, .cons d dd => .cons ⟨⟨_, r, h⟩, Dp.reads I _ _ _ d r⟩ (each_of I hs rs dd)
theorem each_back {K : PySem.W.Frag} {H : Hp} {ρ : List Addr} : ∀ {out : List Value} {bs : List (D × PyData)}, PySem.W.EachIs (fun (v : Value) (b : D × PyData) => ∃ x, RelV x v ∧ RD K H ρ b.1 x) out bs → ∃ vs, Vals vs out ∧ RDs K H ρ (bs.map (·.1)) vs
  | _, _, .nil => ⟨[], .nil, .nil⟩
  | _, _, .cons ⟨x, r, d⟩ t => let ⟨vs, h1, h2⟩ := each_back t; ⟨x :: vs, .cons r h1, .cons d h2⟩
theorem dpAll_length {K : PySem.W.Frag} {H : Hp} : ∀ {vs : List V} {ys : List PyData}, DpAll K H vs ys → vs.length = ys.length
  | _, _, .nil => rfl
  | _, _, .cons _ t => by rw [List.length_cons, List.length_cons, dpAll_length t]
mutual
theorem plain_inj {lk lk2 : Nat → Option PyData} : ∀ (d e : D) (x : PyData), d.plain = true → e.plain = true → d.pyW lk = some x → e.pyW lk2 = some x → d = e
  | .non, e, x, _, hq, h1, h2 => by
    rw [D.pyW] at h1; cases h1
    cases e <;> simp [D.plain, D.pyW] at hq h2 ⊢
  | .bl b, e, x, _, hq, h1, h2 => by
    rw [D.pyW] at h1; cases h1
    cases e <;> simp [D.plain, D.pyW] at hq h2 ⊢
    exact h2.symm
  | .int b, e, x, _, hq, h1, h2 => by
    rw [D.pyW] at h1; cases h1
    cases e <;> simp [D.plain, D.pyW] at hq h2 ⊢
    exact h2.symm
  | .str b, e, x, _, hq, h1, h2 => by
    rw [D.pyW] at h1; cases h1
    cases e <;> simp [D.plain, D.pyW] at hq h2 ⊢
    exact h2.symm
  | .tup xs, e, x, hd, hq, h1, h2 => by
    rw [D.pyW] at h1
    obtain ⟨ys, e1, rfl⟩ := Option.map_eq_some_iff.mp h1
    cases e <;> simp [D.plain, D.pyW] at hq h2 ⊢
    simp [D.plain] at hd
    exact plainL_inj xs _ ys hd hq e1 h2
  | .loc _, _, _, hd, _, _, _ => by simp [D.plain] at hd
  | .fl _, _, _, hd, _, _, _ => by simp [D.plain] at hd
  | .fd _ _, _, _, hd, _, _, _ => by simp [D.plain] at hd
theorem plainL_inj {lk lk2 : Nat → Option PyData} : ∀ (ds es : List D) (xs : List PyData), D.plainL ds = true → D.plainL es = true → D.pyWL lk ds = some xs → D.pyWL lk2 es = some xs → ds = es
  | [], es, xs, _, _, h1, h2 => by
    rw [D.pyWL] at h1; cases h1
    cases es with
    | nil => rfl
    | cons e es =>
      rw [D.pyWL] at h2
      split at h2 <;> cases h2
  | d :: ds, es, xs, hd, he, h1, h2 => by
    rw [D.pyWL] at h1
    split at h1
    · rename_i a b e1 e2
      cases h1
      cases es with
      | nil => rw [D.pyWL] at h2; cases h2
      | cons e es =>
        rw [D.pyWL] at h2
        split at h2
        · rename_i a' b' e3 e4
          cases h2
          rw [D.plainL, Bool.and_eq_true] at hd he
          rw [plain_inj d e _ hd.1 he.1 e1 e3, plainL_inj ds es _ hd.2 he.2 e2 e4]
        · cases h2
    · cases h1
end
theorem pyWL_get {lk : Nat → Option PyData} : ∀ {ds : List D} {xs : List PyData} {i : Nat} {d : D}, D.pyWL lk ds = some xs → ds[i]? = some d → ∃ x, xs[i]? = some x ∧ d.pyW lk = some x
  | [], _, i, d, _, h => by simp at h
  | a :: ds, xs, i, d, h1, h2 => by
    rw [D.pyWL] at h1
    split at h1
    · rename_i y ys e1 e2
      cases h1
      cases i with
      | zero => simp at h2; subst h2; exact ⟨y, rfl, e1⟩
      | succ i => simp at h2; simpa using pyWL_get e2 h2
    · cases h1
theorem plainL_get : ∀ {ds : List D} {i : Nat} {d : D}, D.plainL ds = true → ds[i]? = some d → d.plain = true
  | [], i, d, _, h => by simp at h
  | a :: ds, i, d, h1, h2 => by
    rw [D.plainL, Bool.and_eq_true] at h1
    cases i with
    | zero => simp at h2; subst h2; exact h1.1
    | succ i => simp at h2; exact plainL_get h1.2 h2
theorem lay_get : ∀ {xs : List PyData} {i : Nat} {x : PyData}, PyData.canLayAll0 xs = true → xs[i]? = some x → x.canLay0 = true
  | [], i, x, _, h => by simp at h
  | a :: xs, i, x, h1, h2 => by
    rw [PyData.canLayAll0, Bool.and_eq_true] at h1
    cases i with
    | zero => simp at h2; subst h2; exact h1.1
    | succ i => simp at h2; exact lay_get h1.2 h2
theorem vals_getV : ∀ {xs : List V} {us : List Value} {i : Nat} {u : Value}, Vals xs us → us[i]? = some u → ∃ x, xs[i]? = some x ∧ RelV x u
  | _, _, i, u, .nil, h => by simp at h
  | _, _, 0, u, .cons a r, h => by simp at h; subst h; exact ⟨_, rfl, a⟩
  | _, _, i + 1, u, .cons a r, h => by simp at h; simpa using vals_getV r h
theorem plainL_mem : ∀ {ds : List D} {d : D}, D.plainL ds = true → d ∈ ds → d.plain = true
  | [], d, _, h => by simp at h
  | a :: ds, d, h1, h2 => by
    rw [D.plainL, Bool.and_eq_true] at h1
    rcases List.mem_cons.mp h2 with rfl | h2
    · exact h1.1
    · exact plainL_mem h1.2 h2
/-- min, max of a list, a tuple of alike data -/
theorem best_go {great : Bool} (hc : X.calm = true) (hu : X.A.units + 66 < cLine) {pins : List (Addr × Obj)} {s : Shared} {σ : L2.St} {H : Hp} {Q : VK} (I : Inv X pins σ H s) {ρ : List Addr} {ds : List D} {vs : List V} {h : Hs} {d : D} {p : Addr} (hr : HR (txOf X) H ρ h) (rd : RDs X.K H ρ ds vs) (g : SqL X.K H p vs ∨ SqT X.K H p vs)
    (e : bestD great h ds = some d) (q : ∀ v, RD X.K H ρ d v → Q v H) : wpAny (model X.prog X.w) X.A (call (.builtin (if great = true then "max" else "min")) [.ref p]) (EP X pins σ Q) X.xe s := by
  unfold bestD at e
  split at e
  · rename_i x xs hy
    split at e
    · rename_i hc3
      obtain ⟨c1, c2, c4, c3⟩ := hc3
      have dp := pyL_dp hr rd hy
      have ed := List.find?_some e
      simp only [decide_eq_true_eq] at ed
      have fin : ∀ (its : List Value) (rv : Vals vs its) (i : Nat) (v : Value) (h' : Heap) (tk : Nat) (bs : List Addr), its[i]? = some v → Reads h' v (if great = true then PySem.W.maxD x xs else PySem.W.minD x xs) bs → (∀ b o, s.heap.get? b = some o → h'.get? b = some o) → EP X pins σ Q v { s with heap := h', toks := tk } := by
        intro its rv i v h' tk bs hv hrd hk
        obtain ⟨y, hy1, hy2⟩ := vals_getV rv hv
        obtain ⟨d', hd1, hd2⟩ := rd.getV hy1
        have I1 : Inv X pins σ H { s with heap := h', toks := tk } := I.kept (t' := tk) hk
        refine ⟨y, H, I1, hy2, ?_⟩
        obtain ⟨z, hz1, hz2⟩ := pyWL_get hy hd1
        obtain ⟨as, r2⟩ := Dp.reads I1 z y v (py_dp hr hd2 hz2) hy2
        have ez : z = (if great = true then PySem.W.maxD x xs else PySem.W.minD x xs) := Reads.unique z _ v as bs (lay_get c4 hz1) r2 hrd
        have : d' = d := plain_inj d' d z (plainL_get c3 hd1) (plainL_mem c3 (List.mem_of_find?_eq_some e)) hz2 (by rw [ez]; exact ed)
        rw [← this] at q
        exact q y hd2
      rcases g with g | g
      · obtain ⟨its, rv, pl, hz⟩ := I.list g
        obtain ⟨as, ra⟩ := Dp.readsAll I _ _ _ dp rv
        cases great with
        | true => exact PySem.W.max_list_data (I.ok.hd hc) pl.isList (by simpa using ra) c1 (by omega) fun i v h' tk bs hv => fin its rv i v h' tk bs (by simpa using hv)
        | false => exact PySem.W.min_list_data (I.ok.hd hc) pl.isList (by simpa using ra) c1 (by omega) fun i v h' tk bs hv => fin its rv i v h' tk bs (by simpa using hv)
      · obtain ⟨its, rv, pl, hz⟩ := I.tuple g
        obtain ⟨as, ra⟩ := Dp.readsAll I _ _ _ dp rv
        cases great with
        | true => exact PySem.W.max_tuple_data (I.ok.hd hc) (show s.heap.IsTuple p its.toArray from pl) (by simpa using ra) c1 (by omega) fun i v h' tk bs hv => fin its rv i v h' tk bs (by simpa using hv)
        | false => exact PySem.W.min_tuple_data (I.ok.hd hc) (show s.heap.IsTuple p its.toArray from pl) (by simpa using ra) c1 (by omega) fun i v h' tk bs hv => fin its rv i v h' tk bs (by simpa using hv)
    · cases e
  · cases e
theorem ct_max {m : Bool} (hc : X.calm = true) (hu : X.A.units + 66 < cLine) : CallR X (.builtin "max") (rB (txOf X) (btD m .max)) := by
  rintro pins s σ H xs us _ I rv ⟨Q, W, τ, ρ, ds, h, rfl, rd, hr, hp⟩
  match ds, rd with
  | [], _ => exact hp.elim
  | [d], .cons h1 .nil =>
    obtain ⟨z, ez, hp⟩ := PR.ofO (show PR (txOf X) W τ H ρ _ Q (R.ofO h ((itemsD h d).bind (bestD true h))) from hp)
    obtain ⟨ys, e1, e2⟩ := Option.bind_eq_some_iff.mp ez
    obtain ⟨p, vs, rfl, g1, g2, _⟩ := hr.items h1 e1
    obtain ⟨u, rfl, ru⟩ := vals1 rv
    obtain rfl : u = Value.ref p := ru
    exact best_go (great := true) hc hu I hr g2 g1 e2 fun v rv => hp.okF hr rv
  | d :: e :: _ :: _, _ => exact absurd hp (by simp [btD, PR])
  | [d, e], .cons h1 (.cons h2 .nil) =>
    cases h1 with
    | int i =>
      cases h2 with
      | int j => exact call_max2 hc pins s σ H _ us _ I rv ⟨i, j, rfl, PR.okF (show PR (txOf X) W τ H ρ (RAd X.K) Q (R.ok (D.int (if j > i then j else i)) h) from by simpa [btD] using hp) hr (.int _)⟩
      | _ => exact absurd hp (by simp [btD, PR])
    | _ => exact absurd hp (by simp [btD, PR])
theorem ct_min {m : Bool} (hc : X.calm = true) (hu : X.A.units + 66 < cLine) : CallR X (.builtin "min") (rB (txOf X) (btD m .min)) := by
  rintro pins s σ H xs us _ I rv ⟨Q, W, τ, ρ, ds, h, rfl, rd, hr, hp⟩
  match ds, rd with
  | [], _ => exact hp.elim
  | [d], .cons h1 .nil =>
    obtain ⟨z, ez, hp⟩ := PR.ofO (show PR (txOf X) W τ H ρ _ Q (R.ofO h ((itemsD h d).bind (bestD false h))) from hp)
    obtain ⟨ys, e1, e2⟩ := Option.bind_eq_some_iff.mp ez
    obtain ⟨p, vs, rfl, g1, g2, _⟩ := hr.items h1 e1
    obtain ⟨u, rfl, ru⟩ := vals1 rv
    obtain rfl : u = Value.ref p := ru
    exact best_go (great := false) hc hu I hr g2 g1 e2 fun v rv => hp.okF hr rv
  | d :: e :: _ :: _, _ => exact absurd hp (by simp [btD, PR])
  | [d, e], .cons h1 (.cons h2 .nil) =>
    cases h1 with
    | int i =>
      cases h2 with
      | int j => exact call_min2 hc pins s σ H _ us _ I rv ⟨i, j, rfl, PR.okF (show PR (txOf X) W τ H ρ (RAd X.K) Q (R.ok (D.int (if j < i then j else i)) h) from by simpa [btD] using hp) hr (.int _)⟩
      | _ => exact absurd hp (by simp [btD, PR])
    | _ => exact absurd hp (by simp [btD, PR])

/-! ### methods of lists -/
def rM (T : Tx) (m : Bm) : V → List V → Hp → VK → Prop := fun x xs H Q => ∃ (W : WX) (τ : L2.St) (ρ : List Addr) (o : D) (ds : List D) (h : Hs), RD T.K H ρ o x ∧ RDs T.K H ρ ds xs ∧ HR T H ρ h ∧ PR T W τ H ρ (RAd T.K) Q (bmD m o ds h)
theorem two_rd {K : PySem.W.Frag} {H : Hp} {ρ : List Addr} {ds : List D} {v : V} (r : RDs K H ρ ds [v]) : ∃ d, ds = [d] ∧ RD K H ρ d v := one_rd r
theorem mt_app : MtR X "list.append" (rM (txOf X) .append) := by
  intro pins s σ H x xs v us Q I rx rv hh
  obtain ⟨W, τ, ρ, o, ds, h, ro, rd, hr, hp⟩ := hh
  cases ro with
  | @loc n p hn =>
    simp only [bmD] at hp
    split at hp
    · rename_i ys hx
      obtain ⟨vs, g1, g2⟩ := hr.at_ n _ p hx hn
      match ds, rd with
      | [], _ => exact hp.elim
      | _ :: _ :: _, _ => exact hp.elim
      | [d], .cons (v := y) h1 .nil =>
        simp only at hp
        split at hp
        · rename_i hz
          obtain ⟨q1, q2⟩ := hr.setC (o := .lst (vs ++ [y])) hx hn rfl (c' := .lst (ys ++ [d])) rfl ⟨_, upd_same, (g2.append (.cons h1 .nil)).mono (Keeps.put g1 (fun _ => nofun) (fun _ _ => nofun)) (Ext.refl _)⟩
          exact mt_append pins s σ H _ _ v us Q I rx rv ⟨p, vs, _, rfl, rfl, g1, by rw [← g2.length]; exact hz, hp ρ .non _ (Ext.refl _) q2 q1 .non⟩
        · exact hp.elim
    · exact hp.elim
  | _ => exact hp.elim
theorem mt_ext : MtR X "list.extend" (rM (txOf X) .extend) := by
  intro pins s σ H x xs v us Q I rx rv hh
  obtain ⟨W, τ, ρ, o, ds, h, ro, rd, hr, hp⟩ := hh
  cases ro with
  | @loc n p hn =>
    simp only [bmD] at hp
    split at hp
    · rename_i ys hx
      obtain ⟨vs, g1, g2⟩ := hr.at_ n _ p hx hn
      match ds, rd with
      | [], _ => exact hp.elim
      | _ :: _ :: _, _ => exact hp.elim
      | [d], .cons h1 .nil =>
        simp only at hp
        split at hp
        · rename_i zs hzs
          split at hp
          · rename_i hz
            obtain ⟨b, us', rfl, g3, g4⟩ := hr.mlstD h1 hzs
            obtain ⟨q1, q2⟩ := hr.setC (o := .lst (vs ++ us')) hx hn rfl (c' := .lst (ys ++ zs)) rfl ⟨_, upd_same, (g2.append g4).mono (Keeps.put g1 (fun _ => nofun) (fun _ _ => nofun)) (Ext.refl _)⟩
            exact mt_extR pins s σ H _ _ v us Q I rx rv ⟨p, b, vs, us', ⟨rfl, rfl⟩, ⟨g1, g3⟩, by rw [← g2.length, ← g4.length]; exact hz, hp ρ .non _ (Ext.refl _) q2 q1 .non⟩
          · exact hp.elim
        · exact hp.elim
    · exact hp.elim
  | _ => exact hp.elim
theorem mt_pop0 : MtR X "list.pop" (fun x xs H Q => xs = [] ∧ rM (txOf X) .pop x xs H Q) := by
  intro pins s σ H x xs v us Q I rx rv hh
  obtain ⟨hxs, W, τ, ρ, o, ds, h, ro, rd, hr, hp⟩ := hh
  subst hxs
  cases rd
  cases ro with
  | @loc n p hn =>
    simp only [bmD] at hp
    split at hp
    · rename_i ys hx
      obtain ⟨vs, g1, g2⟩ := hr.at_ n _ p hx hn
      split at hp
      · rename_i y hy
        obtain ⟨z, e1, e2⟩ := g2.get hy
        obtain ⟨q1, q2⟩ := hr.setC (o := .lst vs.dropLast) hx hn rfl (c' := .lst ys.dropLast) rfl ⟨_, upd_same, g2.dropLast.mono (Keeps.put g1 (fun _ => nofun) (fun _ _ => nofun)) (Ext.refl _)⟩
        exact mt_pop pins s σ H _ _ v us Q I rx rv ⟨p, vs, z, rfl, rfl, g1, by rw [← g2.length]; exact e1, hp ρ z _ (Ext.refl _) q2 q1 (e2.mono q2 (Ext.refl _))⟩
      · exact hp.elim
    · exact hp.elim
  | _ => exact hp.elim
theorem mt_pop1 : MtR X "list.pop" (fun x xs H Q => xs ≠ [] ∧ rM (txOf X) .pop x xs H Q) := by
  intro pins s σ H x xs v us Q I rx rv hh
  obtain ⟨hxs, W, τ, ρ, o, ds, h, ro, rd, hr, hp⟩ := hh
  cases ro with
  | @loc n p hn =>
    simp only [bmD] at hp
    split at hp
    · rename_i ys hx
      obtain ⟨vs, g1, g2⟩ := hr.at_ n _ p hx hn
      match ds, rd with
      | [], .nil => exact absurd rfl hxs
      | d :: _ :: _, _ => cases d <;> exact hp.elim
      | [d], .cons h1 .nil =>
        cases h1 with
        | int i =>
          simp only at hp
          split at hp
          · rename_i k hk
            split at hp
            · rename_i y hy
              split at hp
              · rename_i hb
                obtain ⟨z, e1, e2⟩ := g2.get hy
                obtain ⟨q1, q2⟩ := hr.setC (o := .lst (vs.eraseIdx k)) hx hn rfl (c' := .lst (ys.eraseIdx k)) rfl ⟨_, upd_same, (g2.eraseIdx k).mono (Keeps.put g1 (fun _ => nofun) (fun _ _ => nofun)) (Ext.refl _)⟩
                exact mt_popAt pins s σ H _ _ v us Q I rx rv ⟨p, vs, i, k, z, rfl, rfl, g1, hb.1, hb.2, by rw [← g2.length]; exact hk, e1, hp ρ z _ (Ext.refl _) q2 q1 (e2.mono q2 (Ext.refl _))⟩
              · exact hp.elim
            · exact hp.elim
          · exact hp.elim
        | _ => exact hp.elim
    · exact hp.elim
  | _ => exact hp.elim
theorem ty_list {T : Tx} {H : Hp} {ρ : List Addr} {h : Hs} (hr : HR T H ρ h) {o : D} {x : V} (ro : RD T.K H ρ o x) {n : Nat} {ys : List D} (e : o = .loc n) (hx : h[n]? = some (.lst ys)) : tyV T.K "list" x H := by
  subst e
  cases ro with
  | loc hn =>
    obtain ⟨vs, g1, _⟩ := hr.at_ n _ _ hx hn
    exact .inl ⟨rfl, vs, SqL.of g1⟩
end
end FL
set_option autoImplicit false
set_option linter.all false
set_option maxRecDepth 100000
set_option maxHeartbeats 2000000
/-! FL, part X: own exceptions class E(SolverError) with super().__init__(f'refused: {code}'); self.code = code. -/
namespace FL
open PySem PySem.W PySem.Calls PyProof.Rows PySem.HandSPX
namespace EX
def iA (p1 p2 : Pos) : Arguments := { posonlyargs := [], args := [{ arg := "self", annotation := none, pos := p1 }, { arg := "code", annotation := none, pos := p2 }], vararg := none, kwonlyargs := [], kw_defaults := [], kwarg := none, defaults := [] }
def iJ (k : Nat) (q1 q2 q3 q4 : Pos) : Expr := .JoinedStr [.Constant (.str "refused: ") k q1, .FormattedValue (.Name "code" q2) (-1) none q3] q4
def iB (k : Nat) (p0 p1 p2 p3 p4 q1 q2 q3 q4 r1 r2 r3 r4 : Pos) : List Stmt :=
  [.Expr (.Call (.Attribute (.Call (.Name "super" p0) [] [] p1) "__init__" p2) [iJ k q1 q2 q3 q4] [] p3) p4, .Assign [.Attribute (.Name "self" r1) "code" r2] (.Name "code" r3) r4]
def iS : Scope := { kind := .function, names := [(PySem.Str.ofString "self", .local), (PySem.Str.ofString "code", .local), (PySem.Str.ofString "__class__", .free), (PySem.Str.ofString "super", .globalImplicit)], isGenerator := false, isCoroutine := false, more := [] }
/-- what the written part says of the class under the name cn, at C, and of its __init__, at fI -/
structure Txt (prog : Program) (K : Frag) (mg : Str → Option Value) (cn : Str) (C fI : Addr) : Prop where
  gC : mg cn = some (.ref C)
  gS : mg "super" = none
  pS : (prog.main.scope.names.lookup ("super" : Str)).isSome = false
  cls : ∃ nm q N bs bm sn sub ab col dd k0 k1 k2 k3 k5, K.lookup C = some (excClassObj nm q C N bs bm true sn sub ab col dd k0 k1 k2 k3 k5 "ValueError.__new__") ∧ refsVE bm = true
  sa : findIn K (.ref C) "__setattr__" = some (some (.builtin "object.__setattr__"))
  ga : findIn K (.ref C) "__getattribute__" = some (some (.builtin "BaseException.__getattribute__"))
  gg : findIn K (.ref C) "__getattr__" = some none
  noN : findIn K (.ref C) "code" = some none
  iC : findIn K (.ref C) "__init__" = some (some (.ref fI))
  tC : typeIn K (.ref fI) = some (.type "function")
  kC : keepIn K (.ref C) = true
  exC : subIn K (.ref C) (.type "BaseException") = some true
  veC : subIn K (.ref C) (.type "ValueError") = some true
  tyC : typeIn K (.ref C) = some (.type "type")
  hdC : hasDictIn K C = true
  suI : ∀ cd, clsIn K C = some cd → alongIn K "__init__" ((cd.mro.dropWhile (· != .ref C)).drop 1) = some (some (.builtin "ValueError.__init__"))
  mrC : mroIn K C (.ref C) = some true
  opq : nsIn K cStatics "thirdparty.any" = some none
  fn : ∃ (oc : Value) (od : Option Addr) (doc pm : Value) (an : Option Addr) (cda cc : Addr) (ct : Value) (osl : Array (Option Value)) (k : Nat) (a1 a2 p0 p1 p2 p3 p4 q1 q2 q3 q4 r1 r2 r3 r4 : Pos) (qual : Str) (cl : Value) (cld : Option Addr) (csl : Array (Option Value)) (ccl : Value) (cdd : Option Addr) (vs : Array Value) (ccs : Array (Option Value)) (file : Str) (tf : Tok),
    K.lookup fI = some ⟨oc, od, .func (ksFn "__init__" qual (iA a1 a2) (iB k p0 p1 p2 p3 p4 q1 q2 q3 q4 r1 r2 r3 r4) iS .none .none doc pm an (.ref cda) ct cc), osl⟩ ∧ codeIn K (.ref cda) qual = true ∧ p2.endLine = p3.line ∧
    K.lookup cc = some ⟨cl, cld, .cell (some (.ref C)), csl⟩ ∧ K.lookup cda = some ⟨ccl, cdd, .fields vs, ccs⟩ ∧ vs[2]? = some (.str file tf) ∧ ((prog.main.file : Str) == file) = true
/-- .. told of the written part alone -/
structure TxtK (prog : Program) (K : Frag) (cn : Str) (C fI : Addr) : Prop where
  gC : nsIn K mainGlobals cn = some (some (.ref C))
  gS : nsIn K mainGlobals "super" = some none
  pS : (prog.main.scope.names.lookup ("super" : Str)).isSome = false
  cls : ∃ nm q N bs bm sn sub ab col dd k0 k1 k2 k3 k5, K.lookup C = some (excClassObj nm q C N bs bm true sn sub ab col dd k0 k1 k2 k3 k5 "ValueError.__new__") ∧ refsVE bm = true
  sa : findIn K (.ref C) "__setattr__" = some (some (.builtin "object.__setattr__"))
  ga : findIn K (.ref C) "__getattribute__" = some (some (.builtin "BaseException.__getattribute__"))
  gg : findIn K (.ref C) "__getattr__" = some none
  noN : findIn K (.ref C) "code" = some none
  iC : findIn K (.ref C) "__init__" = some (some (.ref fI))
  tC : typeIn K (.ref fI) = some (.type "function")
  kC : keepIn K (.ref C) = true
  exC : subIn K (.ref C) (.type "BaseException") = some true
  veC : subIn K (.ref C) (.type "ValueError") = some true
  seC : subIn K (.ref C) (.ref C) = some true
  tyC : typeIn K (.ref C) = some (.type "type")
  hdC : hasDictIn K C = true
  suI : ks_superIn K C C "__init__" = some (some (.builtin "ValueError.__init__"))
  mrC : mroIn K C (.ref C) = some true
  opq : nsIn K cStatics "thirdparty.any" = some none
  fn : ∃ (oc : Value) (od : Option Addr) (doc pm : Value) (an : Option Addr) (cda cc : Addr) (ct : Value) (osl : Array (Option Value)) (k : Nat) (a1 a2 p0 p1 p2 p3 p4 q1 q2 q3 q4 r1 r2 r3 r4 : Pos) (qual : Str) (cl : Value) (cld : Option Addr) (csl : Array (Option Value)) (ccl : Value) (cdd : Option Addr) (vs : Array Value) (ccs : Array (Option Value)) (file : Str) (tf : Tok),
    K.lookup fI = some ⟨oc, od, .func (ksFn "__init__" qual (iA a1 a2) (iB k p0 p1 p2 p3 p4 q1 q2 q3 q4 r1 r2 r3 r4) iS .none .none doc pm an (.ref cda) ct cc), osl⟩ ∧ codeIn K (.ref cda) qual = true ∧ p2.endLine = p3.line ∧
    K.lookup cc = some ⟨cl, cld, .cell (some (.ref C)), csl⟩ ∧ K.lookup cda = some ⟨ccl, cdd, .fields vs, ccs⟩ ∧ vs[2]? = some (.str file tf) ∧ ((prog.main.file : Str) == file) = true
theorem TxtK.txt {prog : Program} {K : Frag} {mg : Str → Option Value} {cn : Str} {C fI : Addr} {h : Heap} (T : TxtK prog K cn C fI) (X : K.In h) (g : h.Ns mainGlobals mg) : Txt prog K mg cn C fI :=
  ⟨mg_of X g T.gC, mg_none_of X g T.gS, T.pS, T.cls, T.sa, T.ga, T.gg, T.noN, T.iC, T.tC, T.kC, T.exC, T.veC, T.tyC, T.hdC, fun cd hc => by have e := T.suI; unfold ks_superIn at e; rw [hc] at e; exact e, T.mrC, T.opq, T.fn⟩
theorem TxtK.te {prog : Program} {K : Frag} {cn : Str} {C fI : Addr} (T : TxtK prog K cn C fI) : exmOne K (.ref C) (.ref C) = some true := exm_ref T.exC T.hdC T.tyC T.seC
theorem txtK_mk {prog : Program} {K : Frag} {cn : Str} {C fI S N : Addr} {nm q : Str} {bs : List Value} {sn : List Str} {sub : List Value} {ab : Bool} {col : Option Bool} {dd : Option Addr} {m0 m1 m2 m3 m5 : Option Value}
    {oc : Value} {od : Option Addr} {doc pm : Value} {an : Option Addr} {cda cc : Addr} {ct : Value} {osl : Array (Option Value)} {k : Nat} {a1 a2 p0 p1 p2 p3 p4 q1 q2 q3 q4 r1 r2 r3 r4 : Pos} {qual : Str} {cl : Value} {cld : Option Addr} {csl : Array (Option Value)} {ccl : Value} {cdd : Option Addr} {vs : Array Value} {ccs : Array (Option Value)} {file : Str} {tf : Tok}
    (gC : nsIn K mainGlobals cn = some (some (.ref C))) (gS : nsIn K mainGlobals "super" = some none) (pS : (prog.main.scope.names.lookup ("super" : Str)).isSome = false)
    (xC : K.lookup C = some (excClassObj nm q C N bs [.ref S, .type "ValueError", .type "Exception", .type "BaseException", .type "object"] true sn sub ab col dd m0 m1 m2 m3 m5 "ValueError.__new__"))
    (sa : findIn K (.ref C) "__setattr__" = some (some (.builtin "object.__setattr__"))) (ga : findIn K (.ref C) "__getattribute__" = some (some (.builtin "BaseException.__getattribute__"))) (gg : findIn K (.ref C) "__getattr__" = some none) (noN : findIn K (.ref C) "code" = some none)
    (iC : findIn K (.ref C) "__init__" = some (some (.ref fI))) (tC : typeIn K (.ref fI) = some (.type "function")) (kC : keepIn K (.ref C) = true) (exC : subIn K (.ref C) (.type "BaseException") = some true) (veC : subIn K (.ref C) (.type "ValueError") = some true) (seC : subIn K (.ref C) (.ref C) = some true)
    (tyC : typeIn K (.ref C) = some (.type "type")) (hdC : hasDictIn K C = true) (suI : ks_superIn K C C "__init__" = some (some (.builtin "ValueError.__init__"))) (mrC : mroIn K C (.ref C) = some true) (opq : nsIn K cStatics "thirdparty.any" = some none)
    (lF : K.lookup fI = some ⟨oc, od, .func (ksFn "__init__" qual (iA a1 a2) (iB k p0 p1 p2 p3 p4 q1 q2 q3 q4 r1 r2 r3 r4) iS .none .none doc pm an (.ref cda) ct cc), osl⟩) (cF : codeIn K (.ref cda) qual = true) (hl : p2.endLine = p3.line)
    (lc : K.lookup cc = some ⟨cl, cld, .cell (some (.ref C)), csl⟩) (ld : K.lookup cda = some ⟨ccl, cdd, .fields vs, ccs⟩) (hv : vs[2]? = some (.str file tf)) (hf : ((prog.main.file : Str) == file) = true) : ∃ C fI, TxtK prog K cn C fI :=
  ⟨C, fI, gC, gS, pS, ⟨nm, q, N, bs, _, sn, sub, ab, col, dd, m0, m1, m2, m3, m5, xC, by show refsVE [.type "ValueError", .type "Exception", .type "BaseException", .type "object"] = true; decide +kernel⟩, sa, ga, gg, noN, iC, tC, kC, exC, veC, seC, tyC, hdC, suI, mrC, opq,
    ⟨oc, od, doc, pm, an, cda, cc, ct, osl, k, a1, a2, p0, p1, p2, p3, p4, q1, q2, q3, q4, r1, r2, r3, r4, qual, cl, cld, csl, ccl, cdd, vs, ccs, file, tf, lF, cF, hl, lc, ld, hv, hf⟩⟩
/-- what __init__ leaves of a fresh exception at x -/
structure InitEnd (h h' : Heap) (x C dx : Addr) (v : Value) : Prop where
  keep : ∀ b o, b ≠ x → h.get? b = some o → h'.get? b = some o
  obj : ∃ t1 : Addr, h'.get? x = some { cls := .ref C, dict := some dx, data := .fields #[.ref t1, .none, .none, .none, .bool false, .none] }
  dbig : h.objs.size ≤ dx
  dne : dx ≠ x
  ns : h'.Ns1 dx (fun y => if y = "code" then some v else none)
section
variable {prog : Program} {w : World} {M : Model} {A : Around} {E : Value → Shared → Prop} {R : Result → Shared → Prop} {s : Shared} {K : Frag} {mg mb : Str → Option Value} {cn : Str} {C fI : Addr}
theorem call_mwVE {h : Heap} {g : Array GenState} {d : Drawn} {tk : Nat} {os : OsState} {u x t : Addr} {rest : List Value} {Q : Value → Shared → Prop} {nm q : Str} {N : Addr} {bs bm : List Value} {hdct : Bool} {sn : List Str} {sub : List Value} {ab : Bool} {col : Option Bool} {dd : Option Addr} {k0 k1 k2 k3 k5 : Option Value}
    (hC : h.get? C = some (excClassObj nm q C N bs bm hdct sn sub ab col dd k0 k1 k2 k3 k5 "ValueError.__new__")) (hu : h.get? u = some (kxs_mw "ValueError.__init__" x)) (he : h.get? x = some (excO C t)) (hz : rest.length ≤ sizeLine)
    (hq : ∀ h' t1, (∀ b o, b ≠ x → h.get? b = some o → h'.get? b = some o) → h'.get? x = some (excO C t1) → Q .none ⟨h', g, d, tk, os⟩) :
    wpAny (model prog w) A (call (.ref u) rest) Q E ⟨h, g, d, tk, os⟩ := by
  refine wpAny_call (codeAny_of_tree ?_)
  show wpAny _ A.in1 (callAny (.ref u) ⟨rest, []⟩) _ _ _
  simp only [callAny]
  refine wpAny_bind (wpAny_load hu ?_)
  simp only [kxs_mw, show (Value.type "method-wrapper" == Value.type "method" || Value.type "method-wrapper" == Value.type "builtin_function_or_method" || Value.type "method-wrapper" == Value.type "method-wrapper") = true by decide, if_true]
  refine KFB.if_so (by decide) ?_
  refine wpAny_bind (check_bound_init F.excBase_ValueError.toExcCallFacts hC he rfl ?_)
  refine wpAny_bind (wpAny_pure (wpAny_pure ?_))
  refine ⟨plainId_quiet F.excBase_ValueError.init.plain _, codeAny_builtin F.excBase_ValueError.initEntry ?_⟩
  exact exc_init_tree (cls := .ref C) (t0 := t) (dv := none) (c2 := .none) (c3 := .none) (b4 := .bool false) he hz fun h' k e' _ => hq h' _ k e'
theorem ldE {env : Env} {m : Str → Option Value} {x : Str} {pos : Pos} {v : Value} {Q : Value → Shared → Prop} (hn : s.heap.Ns env.locals m) (hv : m x = some v) (h : Q v s)
    (hk : env.scope.kind = .function) (hl : env.kindOf x = some .local) (hd : (x == ("__debug__" : Str)) = false := by decide) : wpAny M A (eval (.Name x pos) env) Q E s := wpAny_Name (wpAny_loadName_local hk hl hn hv h) hd
theorem init_ok (T : Txt prog K mg cn C fI) {x t0 : Addr} {y : Str} {ty : Tok} (X : K.In s.heap) (hlim : s.heap.NoLimit) (hG : s.heap.Ns mainGlobals mg) (hB : s.heap.Ns builtinsNs mb) (hBs : mb "super" = some (.type "super")) (hx : s.heap.get? x = some (excO C t0)) (hnx : K.lookup x = none) (hroom : A.depth < recursionLimit) (hy : y.length ≤ 1000)
    (hq : ∀ h' tk dx, InitEnd s.heap h' x C dx (.str y ty) → R (.ok (.ret .none)) { s with heap := h', toks := tk }) :
    codeAny (model prog w) A (.call (.ref fI) ⟨[.ref x, .str y ty], []⟩) R s := by
  obtain ⟨oc, od, doc, pm, an, cda, cc, ct, osl, k, a1, a2, p0, p1, p2, p3, p4, q1, q2, q3, q4, r1, r2, r3, r4, qual, cl, cld, csl, ccl, cdd, vs, ccs, file, tf, ho, hcd, hln, hcell, hcode, hvs, hfile⟩ := T.fn
  obtain ⟨nm, q, N, bs, bm, sn, sub, ab, col, dd, k0, k1, k2, k3, k5, hC, hbm⟩ := T.cls
  have hcl : clsIn K C = some { name := nm, bases := bs, mro := .ref C :: bm, ns := N, qualname := q, hasDict := true, slotNames := sn, subclasses := sub, abstract := ab, collection := col, hasDel := false } := by unfold clsIn; rw [hC] <;> rfl
  refine ks_codeAny_call_defAt (fd := ksFn "__init__" qual (iA a1 a2) (iB k p0 p1 p2 p3 p4 q1 q2 q3 q4 r1 r2 r3 r4) iS .none .none doc pm an (.ref cda) ct cc) (body := iB k p0 p1 p2 p3 p4 q1 q2 q3 q4 r1 r2 r3 r4) (binds := [("self", .ref x), ("code", .str y ty)]) hroom (X _ _ ho) rfl hlim (codeRec_of X hcd) rfl
    (BindsTo.of_eq (by first | rfl | with_unfolding_all rfl)) (by show ∀ z ∈ iS.names, z.2 ≠ .cell; decide +kernel) (by show ∀ z ∈ ([("self", .ref x), ("code", .str y ty)] : List (Str × Value)), iS.names.lookup z.1 = some .local; intro z hz; simp only [List.mem_cons, List.not_mem_nil, or_false] at hz; rcases hz with rfl | rfl <;> rfl) (fun h₁ hns hk₁ => ?_) rfl rfl rfl
  have hL : s.heap.objs.size ≠ x := Nat.ne_of_gt (Heap.lt_size hx)
  have X₁ : K.In h₁ := X.keeps hk₁
  have hx₁ := hk₁ _ _ hx
  show PySem.wpAt (model prog w) (A.deeper (ksEnv qual iS s.heap.objs.size fI (.ref cda) cc)) (.func (iB k p0 p1 p2 p3 p4 q1 q2 q3 q4 r1 r2 r3 r4) (ksEnv qual iS s.heap.objs.size fI (.ref cda) cc)) (execs (iB k p0 p1 p2 p3 p4 q1 q2 q3 q4 r1 r2 r3 r4) (ksEnv qual iS s.heap.objs.size fI (.ref cda) cc)) _ _ _
  have hn1 : h₁.Ns s.heap.objs.size (fun x_1 => ([("self", Value.ref x), ("code", Value.str y ty)] : List (Str × Value)).reverse.lookup x_1) := hns
  have hself : (([("self", Value.ref x), ("code", Value.str y ty)] : List (Str × Value)).reverse.lookup ("self" : Str)) = some (.ref x) := by rfl
  have hcode1 : (([("self", Value.ref x), ("code", Value.str y ty)] : List (Str × Value)).reverse.lookup ("code" : Str)) = some (.str y ty) := by rfl
  have hform : ∀ env : Env, methodCallForm ([iJ k q1 q2 q3 q4].length + ([] : List Keyword).length) (backTo p3 (starEach [iJ k q1 q2 q3 q4] env)) (backToKw p3 (keywordEach [] env)) = true := fun env => by rfl
  refine ks_wpAt_execs_cons (ks_wpAt_Expr_any (ks_wpAt_MethodCall (pl := L2.plainOf (.Call (.Name "super" p0) [] [] p1) (ksEnv qual iS s.heap.objs.size fI (.ref cda) cc)) ?_ ?_) rfl rfl)
  rotate_left
  · rw [arm_eval_Call]
    have e := fun ov => L2.mcall_line (o := .Call (.Name "super" p0) [] [] p1) (m := "__init__") (apos := p2) (pos := p3) (env := ksEnv qual iS s.heap.objs.size fI (.ref cda) cc) (ov := ov) (hform (ksEnv qual iS s.heap.objs.size fI (.ref cda) cc)) (by rw [hln]; simp)
    simp only [e]
    rfl
  -- super()
  obtain ⟨oD, hD1, hD2⟩ : ∃ oD, h₁.get? C = some oD ∧ oD.data = .cls { name := nm, bases := bs, mro := .ref C :: bm, ns := N, qualname := q, hasDict := true, slotNames := sn, subclasses := sub, abstract := ab, collection := col, hasDel := false } := ⟨_, X₁ _ _ hC, rfl⟩
  refine ks_wpAt_super_base (f := fI) (cc := cda) (of := ⟨oc, od, .func (ksFn "__init__" qual (iA a1 a2) (iB k p0 p1 p2 p3 p4 q1 q2 q3 q4 r1 r2 r3 r4) iS .none .none doc pm an (.ref cda) ct cc), osl⟩) rfl rfl (by decide) rfl (X₁ _ _ ho) rfl rfl rfl (X₁ _ _ hcode) rfl hvs hfile T.pS ?_
  refine ks_loadName_global rfl rfl (loadGlobal_builtin (env := ksEnv qual iS s.heap.objs.size fI (.ref cda) cc) (hG.keeps hk₁) T.gS (hB.keeps hk₁) hBs ⟨rfl, ?_⟩)
  refine wpAny_loadName_free rfl rfl rfl ⟨_, X₁ _ _ hcell, rfl⟩ ?_
  refine wpAny_loadName_local rfl rfl hn1 hself ?_
  refine ks_wpAny_isType_cls hD1 hD2 ⟨rfl, ?_⟩
  refine ks_wpAny_call_super hD1 hD2 hx₁ rfl (fun c e => by cases e) (looks_mroIn X₁ T.mrC) (fun h2 hso k2 => ?_)
  have X2 : K.In h2 := X₁.keeps k2
  have hx2 := k2 _ _ hx₁
  have I2 : InstAt h2 x (excO C t0) C none := ⟨hx2, rfl, rfl, trivial⟩
  refine kxs_getMethod kxs_ValueError hso (looks_opaque X2 T.opq) (l₀ := .ref C :: bm) (fun A Q E s' k' q' => wpAny_bind ((looks_clsIn X2 hcl) A _ E s' k' (wpAny_pure q'))) rfl X2 (T.suI _ hcl) (I2.type.andThen (looks_subIn X2 T.veC)) (ks_ne X2 I2 hcl) (by decide) ?_
  have k3 : ∀ b o, h₁.get? b = some o → (h2.push (kxs_mw "ValueError.__init__" x)).get? b = some o := fun b o e => Heap.get?_push_of_some _ (k2 b o e)
  have hu3 : (h2.push (kxs_mw "ValueError.__init__" x)).get? h2.objs.size = some (kxs_mw "ValueError.__init__" x) := Heap.get?_push_size _ rfl
  generalize hh3 : h2.push (kxs_mw "ValueError.__init__" x) = h3 at k3 hu3 ⊢
  generalize h2.objs.size = u at hu3 ⊢
  have hn3 : h3.Ns s.heap.objs.size _ := hn1.keeps k3
  refine kxs_callWith (i := "ValueError.__init__") (x := x) (by rfl) (evalArgs_plain ?_)
  -- f'refused: {code}'
  have X3 : K.In h3 := X₁.keeps k3
  have hx3 := k3 _ _ hx₁
  have len2 : (Str.empty ++ ("refused: " : Str) ++ y).length ≤ sizeLine := by
    show (Str.empty.cps ++ ("refused: " : Str).cps ++ y.cps).size ≤ _
    have e9 : (("refused: " : Str).cps).size = 9 := by decide +kernel
    have e0 : (Str.empty.cps).size = 0 := by decide +kernel
    have ey : y.cps.size ≤ 1000 := hy
    rw [Array.size_append, Array.size_append, e9, e0, sizeLine_eq]
    omega
  have len1 : (Str.empty ++ ("refused: " : Str)).length ≤ sizeLine := by decide +kernel
  have fin : ∀ (tk : Nat) (out : Value), wpAny (model prog w) (A.deeper (ksEnv qual iS s.heap.objs.size fI (.ref cda) cc)) (call (.ref u) [out]) (fun _ s' => PySem.wpAt (model prog w) (A.deeper (ksEnv qual iS s.heap.objs.size fI (.ref cda) cc)) (.func (iB k p0 p1 p2 p3 p4 q1 q2 q3 q4 r1 r2 r3 r4) (ksEnv qual iS s.heap.objs.size fI (.ref cda) cc))
      (execs [.Assign [.Attribute (.Name "self" r1) "code" r2] (.Name "code" r3) r4] (ksEnv qual iS s.heap.objs.size fI (.ref cda) cc)) (fun f s' => R (.ok (.ret (match f with | .ret v => v | _ => .none))) s')
      (fun e s' => wpAny (model prog w) (A.deeper (ksEnv qual iS s.heap.objs.size fI (.ref cda) cc)) (leaving (ksEnv qual iS s.heap.objs.size fI (.ref cda) cc) e) (fun _ s'' => R (.error e) s'') (fun e' s'' => R (.error e') s'') s') s')
      (fun e s' => wpAny (model prog w) (A.deeper (ksEnv qual iS s.heap.objs.size fI (.ref cda) cc)) (leaving (ksEnv qual iS s.heap.objs.size fI (.ref cda) cc) e) (fun _ s'' => R (.error e) s'') (fun e' s'' => R (.error e') s'') s') ⟨h3, s.gens, s.drawn, tk, s.os⟩ := by
    intro tk out
    refine call_mwVE (X3 _ _ hC) hu3 hx3 (by show 1 ≤ sizeLine; rw [sizeLine_eq]; omega) fun h4 t1 k4 hx4 => ?_
    have X4 : K.In h4 := fun a o e => k4 a o (fun z => by rw [z, hnx] at e; cases e) (X3 a o e)
    have hn4 : h4.Ns s.heap.objs.size _ := hn3.at fun o e => k4 _ o hL e
    refine ks_wpAt_execs_cons (ks_wpAt_Assign_Attr (wpAt_of_wpAny (ldE hn4 hcode1 (ldE hn4 hself ?_ rfl rfl) rfl rfl)))
    refine set_plain X4 (ox := excO C t1) (od := none) ⟨hx4, rfl, rfl, trivial⟩ T.sa ?_
    refine exc_osa X4 hx4 hcl (show refsVE (.ref C :: bm) = true from hbm) rfl T.noN (fun h5 tk5 dx k5 dn dne hx5 hn5 => ?_)
    refine wpAt_of_wpAny (wpAny_execs_nil (hq h5 tk5 dx ⟨fun b o hb e => k5 b o hb (k4 b o hb (k3 b o (hk₁ b o e))), ⟨t1, hx5⟩, ?_, dne, hn5⟩))
    have lt4 : s.heap.objs.size < h4.objs.size := hn4.lt
    exact Nat.le_of_lt (Nat.lt_of_lt_of_le lt4 dn)
  refine spliced_cons ?_
  show wpAny _ _ (eval (.JoinedStr [.Constant (.str "refused: ") k q1, .FormattedValue (.Name "code" q2) (-1) none q3] q4) (ksEnv qual iS s.heap.objs.size fI (.ref cda) cc)) _ _ _
  refine wpAny_JoinedStr (Calls.Constant_str ⟨_, _, rfl, len1, wpAny_FormattedValue_plain (ldE hn3 hcode1 (wpAny_formatField_str ⟨y, _, rfl, len2, len2, spliced_nil ⟨hu3, fin _ _⟩⟩ ⟨y, _, rfl, len2, len2, spliced_nil ⟨hu3, fin _ _⟩⟩ (by rw [sizeLine_eq]; omega)) rfl rfl)⟩)
/-- a made one -/
structure Made (h h' : Heap) (e C d : Addr) (v : Value) : Prop where
  keep : ∀ b o, h.get? b = some o → h'.get? b = some o
  new : h.objs.size ≤ e
  obj : ∃ oe vs, h'.get? e = some oe ∧ oe.cls = .ref C ∧ oe.dict = some d ∧ oe.data = .fields vs ∧ vs[1]? = some .none
  dbig : h.objs.size ≤ d
  dne : d ≠ e
  ns : h'.Ns1 d (fun y => if y = "code" then some v else none)
theorem made_ok (T : Txt prog K mg cn C fI) {y : Str} {ty : Tok} (X : K.In s.heap) (hlim : s.heap.NoLimit) (hG : s.heap.Ns mainGlobals mg) (hB : s.heap.Ns builtinsNs mb) (hBs : mb "super" = some (.type "super")) (hroom : A.depth + 1 < recursionLimit) (hy : y.length ≤ 1000)
    (hq : ∀ h' tk e d, Made s.heap h' e C d (.str y ty) → R (.ok (.ret (.ref e))) { s with heap := h', toks := tk }) :
    codeAny (model prog w) A (.call (.ref C) ⟨[.str y ty], []⟩) R s := by
  obtain ⟨nm, q, N, bs, bm, sn, sub, ab, col, dd, k0, k1, k2, k3, k5, hC, hbm⟩ := T.cls
  obtain ⟨hp, g, dr, tk, os⟩ := s
  have k : ∀ b o, hp.get? b = some o → ((hp.push (kdv_tup [.str y ty])).push (excO C hp.objs.size)).get? b = some o := fun b o e => Heap.get?_push_of_some _ (Heap.get?_push_of_some _ e)
  have hget : ((hp.push (kdv_tup [.str y ty])).push (excO C hp.objs.size)).get? (hp.objs.size + 1) = some (excO C hp.objs.size) := by heap_get
  have hnx : K.lookup (hp.objs.size + 1) = none := by
    cases e : K.lookup (hp.objs.size + 1) with
    | none => rfl
    | some o =>
      have z : hp.get? (hp.objs.size + 1) = some o := X _ _ e
      exact absurd (Nat.lt_of_succ_lt (Heap.lt_size z)) (Nat.lt_irrefl _)
  refine call_own F.excBase_ValueError (fun X => refsVE_contains X bm hbm) (X _ _ hC) (looks_findIn X T.iC) (fun self => bind_fn X self T.tC) (by show 1 ≤ sizeLine; rw [sizeLine_eq]; omega) ?_
  refine init_ok (s := ⟨(hp.push (kdv_tup [.str y ty])).push (excO C hp.objs.size), g, dr, tk, os⟩) T (X.keeps k) (hlim.keeps k) (hG.keeps k) (hB.keeps k) hBs hget hnx ?_ hy fun h' tk' dx ⟨k', ⟨t1, hx⟩, dn, dne, hns⟩ => ?_
  · show A.depth + 1 < recursionLimit
    exact hroom
  · have old : ∀ b o, hp.get? b = some o → h'.get? b = some o := fun b o e => k' b o (Nat.ne_of_lt (Nat.lt_succ_of_lt (Heap.lt_size e))) (k b o e)
    have z : hp.objs.size + 1 + 1 ≤ dx := by
      first
        | (simpa only [Heap.size_push] using dn)
        | exact dn
        | (have q := dn; rw [Heap.size_push, Heap.size_push] at q; exact q)
    exact ⟨rfl, hq h' tk' (hp.objs.size + 1) dx ⟨old, Nat.le_succ _, ⟨_, _, hx, rfl, rfl, rfl, rfl⟩, Nat.le_trans (Nat.le_trans (Nat.le_succ _) (Nat.le_succ _)) z, dne, hns⟩⟩
end
end EX
end FL
namespace FL.EX
open PySem PySem.Spec PyProof.Rows L2
theorem relO_code {v : V} {v' : Value} (r : L2.RelV v v') (f : Str) : L2.RelO (List.lookup f [(("code" : Str), v)]) (if f = "code" then some v' else none) := by
  by_cases hw : f = "code"
  · subst hw
    rw [if_pos rfl]
    have q : List.lookup ("code" : Str) [(("code" : Str), v)] = some v := by simp [List.lookup]
    rw [q]
    exact r
  · rw [if_neg hw]
    have qw : (f == ("code" : Str)) = false := by simpa using hw
    have q2 : List.lookup f [(("code" : Str), v)] = none := by simp [List.lookup, qw]
    rw [q2]
    trivial
section
variable {X : Cx} {C fI : Addr} {cn : Str}
def tMk (C : Addr) (ta : TA) : L2.St → Hp → XK → Prop := fun σ H Q => ta σ H fun vs H1 => ∃ y : Str, vs = [.str y] ∧ y.length ≤ 1000 ∧ ∀ d, H1 d = none → Q (.ref C) (some d) (upd H1 d (.xd [("code", .str y)]))
theorem pmk {a : Expr} {ta : TA} {p pos : Pos} {k : Nat} (T : Txt X.prog X.K X.mg cn C fI) (hr : Room k X.A) (ha : PA X [a] ta) (hg : Gl X cn) (hd : (cn == ("__debug__" : Str)) = false)
    (he : starEach (a :: []) X.env = (false, eval a X.env) :: starEach [] X.env) :
    PMk X (.Call (.Name cn p) [a] [] pos) (tMk C ta) := by
  intro pins s σ H Q I h
  refine wpAny_Call_Name_kw (ld_glob I hg T.gC ?_ hd)
  refine PySem.W.callWith_K (h₀ := X.base) I.ok.mod.kin T.kC (thn (ha.run pos pins s σ H _ I h) fun us s1 hh => ?_) he (by rfl)
  obtain ⟨vs, H1, I1, r1, y, ev, hy, q1⟩ := hh
  subst ev
  refine ⟨I1.kIn, ?_⟩
  cases r1 with
  | cons rv rn =>
    rename_i v' us'
    cases rn
    obtain ⟨ty, rfl⟩ := rv
    show wpAny _ _ (call (.ref C) [.str y ty]) _ _ _
    have hlim := I1.nolimit
    obtain ⟨mb, b1, b2⟩ := I1.mod.blt
    have hB := b1.keeps I1.bk
    have hG := I1.mod.glob.keeps I1.bk
    obtain ⟨hp, g, dr, tk, os⟩ := s1
    refine wpAny_call (made_ok T I1.kIn hlim hG hB ((b2 "super" (by decide)).trans (by first | rfl | kernel_rfl | decide +kernel)) (by have := hr.dp; omega) hy fun h' tk' e d M => ?_)
    show MkP X pins σ Q (.ref e) ⟨h', g, dr, tk', os⟩
    obtain ⟨oe, fv, hoe, hc, hd, hdat, h1⟩ := M.obj
    have hns := M.ns
    obtain ⟨G', g1, g2⟩ := restrict h' fun b => decide (b ≠ e)
    have gk : ∀ b, b ≠ e → G'.get? b = h'.get? b := fun b hb => g1 b (decide_eq_true hb)
    have ge : G'.get? e = none := g2 e (by simp)
    have old : ∀ b o, hp.get? b = some o → G'.get? b = some o := fun b o q => (gk b (Nat.ne_of_lt (Nat.lt_of_lt_of_le (Heap.lt_size q) M.new))).trans (M.keep b o q)
    have ob : L2.ObjOk X.prog X.w (upd H1 d (.xd [("code", .str y)])) G' d (.xd [("code", .str y)]) :=
      ⟨_, hns.at (fun o q => (gk d M.dne).trans q), fun f => relO_code (v := .str y) ⟨ty, rfl⟩ f⟩
    have J : L2.Inv X pins σ (upd H1 d (.xd [("code", .str y)])) ⟨G', g, dr, tk', os⟩ := I1.laid (t' := tk') old M.dbig ob
    refine ⟨e, oe, fv, ⟨G', g, dr, tk', os⟩, _, .ref C, some d, rfl, J, fun b o q => ?_, ge, hoe, ⟨hc, hd⟩, hdat, h1, ?_, rfl, I1.bare, raises_own T.exC T.tyC, q1 d (I1.hok.fresh M.dbig)⟩
    · by_cases hb : b = e
      · have q' : G'.get? b = some o := q
        rw [hb, ge] at q'; cases q'
      · exact (gk b hb).symm.trans q
    · rw [upd_ne (Ne.symm M.dne)]
      exact I1.hok.fresh M.new
end
end FL.EX
/-! ### isinstance of a caught own error that has its dict -/
namespace FL.EX
open PySem PySem.W PySem.Spec PySem.Calls PyProof.Rows
section
variable {prog : Program} {w : World} {A : Around} {E : Value → Shared → Prop} {s : Shared} {K : Frag} {x D : Addr} {ox : Obj} {od : Option Obj}
theorem find_data {C : Addr} {name : Str} {a g : Value} (hc : (clsIn K C).isSome = true) (ha : findIn K (.ref C) name = some (some a)) (hg : specialIn K a "__get__" = some (some g)) (ht : takesIn K a = some true) : findObj K C od name = some (.bind g a) := by
  obtain ⟨cd, hc⟩ := Option.isSome_iff_exists.mp hc
  unfold findObj
  rw [hc, Option.bind_some, ha, Option.bind_some]
  simp [hg, ht]
theorem class_at {Q : Option Value → Shared → Prop} (T : L2.ExcC K D) (X : K.In s.heap) (I : InstAt s.heap x ox D od) (h : Q (some (.ref D)) { s with toks := s.toks + 1 }) : wpAny (model prog w) A (getAttr? (.ref x) "__class__") Q E s := by
  have hf : findObj K D od "__class__" = some (.bind (.builtin "getset_descriptor.__get__") (.builtin "object.__class__")) := find_data (by obtain ⟨cd, hc, _⟩ := any_some T.hd; rw [hc]; rfl) T.ha T.hn T.ht
  obtain ⟨hp, g, d, t, os⟩ := s
  have L0 := I.type (M := model prog w)
  have sub : Looks (model prog w) hp (isInstance (.ref x) (.type "BaseException")) true := L0.andThen (looks_subIn X T.hs)
  have e2 : (Value.builtin "BaseException.__getattribute__" == Value.builtin "object.__getattribute__") = false := by decide +kernel
  have e1 : (onTheHeap (Value.ref D) && Value.builtin "BaseException.__getattribute__" == Value.builtin "object.__getattribute__") = false := by rw [e2]; rfl
  unfold getAttr? getAttrBy? getAttrBy
  refine wpAny_bind (wpAny_mkText (wpAny_bind (wpAny_attempt (wpAny_holding (wpAny_bind (L0.at (wpAny_bind ((looks_findIn (M := model prog w) X T.hg).at ?_))))))))
  show wpAny _ _ (if (onTheHeap (Value.ref D) && Value.builtin "BaseException.__getattribute__" == Value.builtin "object.__getattribute__") = true then _ else _) _ _ _
  rw [e1, if_neg Bool.false_ne_true]
  unfold getAttrByItsOwn hookBefore
  refine wpAny_bind ?_
  rw [if_pos (show onTheHeap (Value.ref D) = true from rfl)]
  refine (looks_findIn (M := model prog w) X T.hk).at ?_
  refine wpAny_bind (wpAny_attempt (wpAny_holding ?_))
  unfold callGetattribute
  rw [show (false && onTheHeap (Value.builtin "BaseException.__getattribute__")) = false from rfl, if_neg Bool.false_ne_true]
  unfold boundAndCalled
  rw [PySem.F.excAttr_ValueError.ga.bind (.ref x)]
  refine wpAny_bind (wpAny_pure ?_)
  show wpAny _ _ (call (.builtin "BaseException.__getattribute__") [.ref x, .str "__class__" t]) _ _ _
  refine wpAny_call (codeAny_call_builtin PySem.F.excAttr_ValueError.ga.plain PySem.F.entry_bexc_ga ?_)
  refine @check_slot (model prog w) _ _ ⟨hp, g, d, t + 1, os⟩ "BaseException.__getattribute__" "BaseException" "__getattribute__" (.ref x) [.str "__class__" t] [] _ (by decide +kernel) (by decide +kernel) sub (PySem.F.args_bexc_ga (.ref x) (.str "__class__" t)) ?_
  unfold Builtin.«object.__getattribute__»
  refine wpAny_bind (wpAny_of_eq (a := ((Value.ref x : Value), [Value.str "__class__" t])) (by first | rfl | (simp only [slotArgs]; rfl)) ?_)
  refine wpAny_bind (wpAny_pure (wpAny_bind (L0.at (wpAny_bind ((looks_find (M := model prog w) X I hf).at ?_)))))
  show wpAny _ _ (holding [Value.builtin "object.__class__"] (call (.builtin "getset_descriptor.__get__") [.builtin "object.__class__", .ref x, .ref D]) >>= ret) _ _ _
  refine wpAny_bind (wpAny_holding (wpAny_call (class_get (s := ⟨hp, g, d, t + 1, os⟩) (ox := ox) (od := od) X I T.hm ?_)))
  refine wpAny_pure ?_
  show wpAny _ _ (handedOut (.ref D)) _ _ _
  rw [handedOut_of (v := .ref D) rfl]
  first
    | exact wpAny_pure (wpAny_pure h)
    | exact wpAny_pure h
    | exact wpAny_pure (wpAny_bind (wpAny_pure (wpAny_pure h)))
theorem kitx (T : L2.ExcC K D) : KitX K (.ref x) (.ref D) (fun h => InstAt h x ox D od) where
  ty := fun _ _ _ I => I.type
  it := fun _ _ X _ => by
    obtain ⟨cdD, hcD, _⟩ := any_some T.hd
    unfold clsIn at hcD
    split at hcD
    · rename_i c' d' cd' sl' ho
      intro A' Q' E' s' k q
      unfold isType loadHead
      exact wpAny_bind (wpAny_loadPart (k _ _ (X _ _ ho)) (wpAny_pure q))
    · cases hcD
  ne := fun h tp dd its n sl X htp => by
    obtain ⟨cdD, hcD, _⟩ := any_some T.hd
    refine Bool.eq_false_iff.mpr fun q => ?_
    have e : D = tp := Value.ref.inj (beq_iff_eq.mp q)
    subst e
    unfold clsIn at hcD
    split at hcD
    · rename_i c' d' cd' sl' ho
      have z := (X _ _ ho).symm.trans htp
      cases z
    · cases hcD
  ca := fun X I k => class_at T X I k
end
open L2
/-- isinstance(e, S), e the exception that the suite holds (its dict at dd) -/
def rIs (K : PySem.W.Frag) (D S a : Addr) (cls : Value) (d : Option Addr) : List V → Hp → VK → Prop := fun xs H Q => ∃ dd fs, cls = .ref D ∧ d = some dd ∧ xs = [.ref a, .ref S] ∧ H dd = some (.xd fs) ∧ PySem.W.kitOne K (.ref D) (.ref S) = some true ∧ Q (.bl true) H
theorem call_is {X : Cx} {a D S : Addr} {cls : Value} {d : Option Addr} {oe : Obj} {pn : List (Addr × Obj)} (C : ExcC X.K D) (hz : Zc cls d oe) (hf : ∃ vs, oe.data = .fields vs) : CallR (X.suite a ((a, oe) :: pn)) (.builtin "isinstance") (rIs X.K D S a cls d) := by
  intro pins s σ H xs us Q I r h
  obtain ⟨dd, fs, rfl, rfl, rfl, hd, e, q⟩ := h
  cases r with
  | cons rx rr =>
    cases rr with
    | cons rt rr =>
      cases rr
      cases rx
      cases rt
      obtain ⟨hget, _⟩ := I.pin (a, oe) (List.mem_append.mpr (.inl List.mem_cons_self))
      obtain ⟨vs, hv⟩ := hf
      have hx : L2.ObjOk X.prog X.w H s.heap dd (.xd fs) := I.hok dd _ hd
      obtain ⟨mA, hns, _⟩ := hx
      obtain ⟨od, ho, _⟩ := lookIn_ns hns
      have J : PySem.W.InstAt s.heap a oe D (some od) := by
        obtain ⟨oc, odd, oda, osl⟩ := oe
        obtain ⟨h1, h2⟩ := hz
        dsimp only at h1 h2 hv
        subst h1 h2 hv
        exact ⟨hget, rfl, rfl, ho⟩
      exact PySem.W.kia_one (kitx C) I.kIn J e (fun z => nomatch z) fun tk => ⟨.bl true, H, I.kept (t' := tk) fun _ _ z => z, rfl, q⟩
end FL.EX
set_option autoImplicit false
set_option linter.all false
set_option maxRecDepth 100000
set_option maxHeartbeats 3200000
/-! FL, part T: set(xs), xs a list of ints; sorted(set(..)), len(set(..)). -/
namespace FL
open PySem L2 PyProof.Rows PySem.SeqAt
/-- an empty set's object -/
abbrev eSet (w : World) : Obj := { cls := .type "set", dict := none, data := .set #[] 0 (.fresh 0 0 (!w.params.followText "set-order")) }
section
variable {P : Program} {w : World} {A : Around} {E : Value → Shared → Prop} {s : Shared}
/-- what stands behind set(..): the set at a, the old things as they were -/
def SetMade (w : World) (s : Shared) (ns : List Int) (t : Shared) : Prop := ∃ (h' : Heap) (tk c : Nat), t = { s with heap := h', toks := tk } ∧ SetR w h' s.heap.objs.size (fun j => decide (j ∈ ns)) c ∧ c ≤ ns.length ∧ ∀ b o, s.heap.get? b = some o → h'.get? b = some o
theorem set_of_list {l : Addr} {items : Array Value} (ns : List Int) {Q : Value → Shared → Prop} (hh : A.handled = none) (hl : s.heap.IsList l items) (hit : IntsAre items.toList ns) (hb : ns.length + 1 < scanBound)
    (h : ∀ t, SetMade w s ns t → Q (.ref s.heap.objs.size) t) : wpAny (model P w) A (call (.type "set") [.ref l]) Q E s := by
  have hsize : items.size = ns.length := by rw [← Array.length_toList]; exact IntsAre.length hit
  obtain ⟨c0, tl0, hmro⟩ := F.called_set.mro
  have k1 := F.called_set.made; have k2 := F.called_set.sub
  refine wpAny_call (codeAny_of_tree ?_); show wpAny _ _ (callAny (.type "set") _) _ _ _
  refine wpAny_pure ⟨Code.quiet_builtin _ (by decide +kernel), codeAny_builtin F.entry_type_call ?_⟩; rw [Around.under_plain (weight_type_call_type "set" [.ref l] []) rfl]
  have k3 := F.called_set.notType; have k4 := F.called_set.canCreate; have k5 := F.typeCall_set_1 (.ref l)
  repeat (any_goals (first | assumption | wp_step))
  refine codeAny_mono (code_set_led1 (.ref l) (E := E) (Q₁ := fun ob t => ob = .ref s.heap.objs.size ∧ t = { s with heap := s.heap.push (eSet w) }) ⟨rfl, rfl⟩) fun res t ht => ?_
  cases res with
  | error _ => exact ht
  | ok fl =>
    cases fl with
    | ret ob =>
      obtain ⟨rfl, rfl⟩ := ht
      have gS : (s.heap.push (eSet w)).get? s.heap.objs.size = some (eSet w) := Heap.get?_push_size _ rfl
      have tS : Shared.TypeIs { s with heap := s.heap.push (eSet w) } (.ref s.heap.objs.size) "set" := ⟨_, gS, rfl⟩
      have i1 := F.called_set.init.lookup; have i2 := F.called_set.init.bind (.ref s.heap.objs.size)
      repeat (any_goals (first | assumption | wp_step))
      refine codeAny_mono (codeAny_call_builtin (R := wants (fun r t => r = .none ∧ SetMade w s ns t) E) F.called_set.init.plain F.entry_set_init (check_set_init_1 tS ?_)) fun res2 t2 ht2 => ?_
      · obtain ⟨ol, gl, cl, nl, dl⟩ := hl
        obtain ⟨oc, od, oda, osl⟩ := ol
        simp only at cl dl; subst cl; subst dl
        have gl1 : (s.heap.push (eSet w)).get? l = some { cls := .type "list", dict := od, data := .seq items nl, slots := osl } := Heap.get?_push_of_some _ gl
        have j1 := F.sub_list_set; have j2 := F.sub_list_frozenset
        have j3 : (Value.type "list" == Value.type "dict") = false := by decide
        have L1 : (s.heap.push (eSet w)).IsList l items := ⟨_, gl1, rfl, nl, rfl⟩
        unfold Builtin.«set.__init__» noKeywords Builtin.Frozenset.updateFrom; generalize hPI : pyIter = PI; wp_walk; subst hPI
        refine wpAny_pyIter_list L1 (wpAny_bind (wpAny_runValue ?_))
        have lt : l < s.heap.objs.size := Heap.lt_size gl
        have no : A.in1.in1.in1.handled = none := by simp [hh]
        have z1 : (s.heap.push (eSet w)).objs.size = s.heap.objs.size + 1 := Heap.size_push ..
        have ne1 : l ≠ (s.heap.push (eSet w)).objs.size := by rw [z1]; exact Nat.ne_of_lt (Nat.lt_succ_of_lt lt)
        have ne2 : s.heap.objs.size ∉ [(s.heap.push (eSet w)).objs.size, l] := by
          rw [z1]; intro m; rcases List.mem_cons.mp m with m | m
          · exact Nat.ne_of_lt (Nat.lt_succ_self _) m
          · exact Nat.ne_of_gt lt (List.mem_singleton.mp m)
        have val : ∀ (i : Nat) (v : Value), items[i]? = some v → ∃ k t, ns[i]? = some k ∧ v = .int k t := fun i v hv => by
          have hi : i < ns.length := by rw [← hsize]; exact (Array.getElem?_eq_some_iff.mp hv).1
          obtain ⟨t, e⟩ := PyProof.Rows.IntsAre.int_at hit i v (by rw [Array.getElem?_toList]; exact hv)
          exact ⟨ns[i], t, List.getElem?_eq_getElem hi, by rw [e, List.getD_eq_getElem?_getD, List.getElem?_eq_getElem hi]; rfl⟩
        refine set_update_ints ((Walks.list no _ l ne1 items).toS) s.heap.objs.size ne2 ns hsize hb val (items.size - 0) 0 _ (by omega) (Nat.zero_le _) ⟨⟨_, Heap.get?_push_size _ rfl, rfl, rfl⟩, (L1.push _)⟩ ⟨0, Nat.le_refl 0, setR_new_at (Heap.get?_push_of_some _ gS)⟩ ?_
        intro t c' hm hc' hS'
        obtain ⟨h', g2, d', tk', os'⟩ := t
        have e1 : g2 = s.gens := hm.gens
        have e2 : d' = s.drawn := hm.drawn
        have e3 : os' = s.os := hm.os
        subst e1; subst e2; subst e3
        show wpAny _ _ _ _ _ _
        refine wpAny_pure ?_
        show wpAny _ _ (ret Value.none) _ _ _
        refine wpAny_pure ⟨rfl, h', tk', c', rfl, hS', by rw [← hsize]; exact hc', fun b o e => ?_⟩
        have lb : b < s.heap.objs.size := Heap.lt_size e
        refine hm.heap b o (fun m => ?_) (Heap.get?_push_of_some _ (Heap.get?_push_of_some _ e))
        rcases List.mem_cons.mp m with m | m
        · exact Nat.ne_of_lt lb m
        · exact Nat.ne_of_lt (Nat.lt_succ_of_lt lb) ((List.mem_singleton.mp m).trans z1)
      · cases res2 with
        | error _ => exact ht2
        | ok fl2 =>
          cases fl2 with
          | ret r => obtain ⟨rfl, m⟩ := ht2; obtain ⟨h', tk, c', rfl, m⟩ := m; repeat (any_goals (first | assumption | wp_step))
                     exact h _ ⟨h', tk, c', rfl, m⟩
          | _ => exact ht2.elim
    | _ => exact ht.elim
end
end FL
namespace FL
open PySem L2 PyProof.Rows PySem.SeqAt
theorem ddI_mem : ∀ {ns : List Int} {k : Int}, k ∈ ddI ns ↔ k ∈ ns
  | [], k => by simp [ddI]
  | x :: xs, k => by
    rw [ddI, List.mem_cons, List.mem_filter, ddI_mem, List.mem_cons, decide_eq_true_eq]
    constructor
    · rintro (h | ⟨h, _⟩)
      · exact .inl h
      · exact .inr h
    · rintro (h | h)
      · exact .inl h
      · by_cases e : k = x
        · exact .inl e
        · exact .inr ⟨h, e⟩
theorem ddI_nodup : ∀ ns : List Int, (ddI ns).Nodup
  | [] => .nil
  | x :: xs => by
    rw [ddI, List.nodup_cons]
    exact ⟨fun h => by simpa using (List.mem_filter.mp h).2, (ddI_nodup xs).filter _⟩
theorem ddI_le : ∀ ns : List Int, (ddI ns).length ≤ ns.length
  | [] => Nat.le_refl _
  | x :: xs => by
    rw [ddI, List.length_cons, List.length_cons]
    exact Nat.succ_le_succ (Nat.le_trans (List.length_filter_le _ _) (ddI_le xs))
theorem card_eq {l ns : List Int} (hn : l.Nodup) (h : ∀ k, k ∈ l ↔ k ∈ ns) : l.length = (ddI ns).length :=
  ((List.perm_ext_iff_of_nodup hn (ddI_nodup ns)).mpr fun k => by rw [h, ddI_mem]).length_eq
theorem lt_unique : ∀ {l m : List Int}, l.Pairwise (· < ·) → m.Pairwise (· < ·) → (∀ k, k ∈ l ↔ k ∈ m) → l = m
  | [], m, _, _, h => by
    cases m with
    | nil => rfl
    | cons b m => exact absurd ((h b).mpr (by simp)) (by simp)
  | a :: l, [], _, _, h => absurd ((h a).mp (by simp)) (by simp)
  | a :: l, b :: m, h1, h2, h => by
    obtain ⟨a1, a2⟩ := List.pairwise_cons.mp h1
    obtain ⟨b1, b2⟩ := List.pairwise_cons.mp h2
    have e : a = b := by
      rcases List.mem_cons.mp ((h a).mp (by simp)) with e | e
      · exact e
      · rcases List.mem_cons.mp ((h b).mpr (by simp)) with e2 | e2
        · exact e2.symm
        · have := b1 a e; have := a1 b e2; omega
    subst e
    rw [lt_unique a2 b2 fun k => ?_]
    constructor
    · intro hk
      rcases List.mem_cons.mp ((h k).mp (by simp [hk])) with z | z
      · have := a1 k hk; omega
      · exact z
    · intro hk
      rcases List.mem_cons.mp ((h k).mpr (by simp [hk])) with z | z
      · have := b1 k hk; omega
      · exact z
theorem setI_lt (ns : List Int) : (setI ns).Pairwise (· < ·) := by
  have h1 : (setI ns).Pairwise (· ≤ ·) := by
    have := List.pairwise_mergeSort (le := fun a b : Int => decide (a ≤ b)) (by simp; omega) (by simp; omega) (ddI ns)
    simpa [setI] using this
  have h2 : (setI ns).Nodup := (List.mergeSort_perm (ddI ns) _).nodup_iff.mpr (ddI_nodup ns)
  exact h1.imp₂ (fun a b h3 h4 => by omega) h2
theorem setI_mem {ns : List Int} {k : Int} : k ∈ setI ns ↔ k ∈ ns := by
  unfold setI
  rw [(List.mergeSort_perm (ddI ns) _).mem_iff, ddI_mem]
def rSetI (K : PySem.W.Frag) (w : World) : List V → Hp → VK → Prop := fun xs H Q => ∃ (p : Addr) (ns : List Int), xs = [V.ref p] ∧ (SqL K H p (ns.map V.int) ∨ SqT K H p (ns.map V.int)) ∧ ns.length < 64 ∧
  ∀ q, H q = none → Q (.ref q) (upd H q (SetO w q (fun j => decide (j ∈ ns)) (ddI ns).length))
section
variable {X : Cx}
theorem cr_setI (hc : X.calm = true) : CallR X (.type "set") (rSetI X.K X.w) := by
  rintro pins s σ H xs us Q I r ⟨p, ns, rfl, g, hz, q⟩
  obtain ⟨u, rfl, ru⟩ := vals1 r
  obtain rfl : u = Value.ref p := ru
  have fin : ∀ (h' : Heap) (tk c : Nat), SetR X.w h' s.heap.objs.size (fun j => decide (j ∈ ns)) c → (∀ b o, s.heap.get? b = some o → h'.get? b = some o) → EP X pins σ Q (.ref s.heap.objs.size) { s with heap := h', toks := tk } := by
    intro h' tk c R k
    have ec : c = (ddI ns).length := by
      obtain ⟨o, es, ep, t, ho, hex, hdt, gg, nd, hm2, hb, hf, hn, hr, hl2⟩ := R
      rw [← card_eq nd fun k => ?_, ← hn, List.length_map, Array.length_toList]
      rw [← hm2 k, decide_eq_true_eq]
    subst ec
    have hn : H s.heap.objs.size = none := I.hok.fresh (Nat.le_refl _)
    exact ⟨.ref _, _, I.laid (t' := tk) k (Nat.le_refl _) (setO_new R), rfl, q _ hn⟩
  have hb : ns.length + 1 < scanBound := by unfold scanBound; omega
  rcases g with g | g
  · obtain ⟨its, rv, pl, hz⟩ := I.list g
    exact set_of_list ns (I.ok.hd hc) pl.isList (by simpa using rv.ints) hb fun t ⟨h', tk, c, et, R, _, k⟩ => by rw [et]; exact fin h' tk c R k
  · obtain ⟨its, rv, pl, hz⟩ := I.tuple g
    exact call_set_tupI ns (I.ok.hd hc) (show s.heap.IsTuple p its.toArray from pl) (ints_of_vals rv) hb fun h' tk c R _ k => fin h' tk c R k
def rLenSetO (w : World) : List V → Hp → VK → Prop := fun vs H Q => ∃ (a : Addr) (S : Int → Bool) (n : Nat), vs = [V.ref a] ∧ H a = some (SetO w a S n) ∧ n < 64 ∧ Q (.int n) H
theorem cr_lenSetO : CallR X (.builtin "len") (rLenSetO X.w) := by
  rintro pins s σ H vs us Q I r ⟨a, S, n, rfl, ha, hz, q⟩
  obtain ⟨u, rfl, ru⟩ := vals1 r
  obtain rfl : u = Value.ref a := ru
  obtain ⟨o, es, ep, t, ho, hex, hd, _, _, _, _, hf, hn, _⟩ := setO_get I ha
  refine call_len_set ho hex hd hf (by rw [hn]; omega) ⟨.int n, H, I.tok _, ⟨_, by rw [hn]⟩, q⟩
end
end FL
set_option autoImplicit false
set_option linter.all false
set_option maxRecDepth 100000
/-! FL, part D: FL's syntax beside Python's; soundness of expressions. -/
namespace FL
open PySem L2 PyProof.Rows PySem.SeqAt

/-- the names of the text -/
structure Sg where
  fns : List Str
  clss : List Str
  blt : List Str
  glob : List (Str × D)
  /-- own exceptions: class E(..): def __init__(self, code): super().__init__(f'refused: {code}'); self.code = code -/
  errs : List Str
  /-- a class of theirs, a base -/
  isE : List (Str × Str)
  /-- the fields' names; the methods -/
  attrs : List Str := []
  mths : List (Str × Str) := []
  inis : List Str := []
/-- the names of a def (or of a comprehension's block) -/
structure Sx where
  N : List Str
  sc : Scope
  fn : Str → Bool

def isGl (sc : Scope) (x : Str) : Bool := decide (sc.names.lookup x = some .globalImplicit) && !(x == ("__debug__" : Str))
def isVis (sc : Scope) (x : Str) : Bool := match sc.names.lookup x with
  | some .local => !(x == ("__debug__" : Str)) && !(x == ("__classdict__" : Str))
  | some .cell => !(x == ("__debug__" : Str)) && !(x == ("__classdict__" : Str))
  | some .free => !(x == ("__debug__" : Str)) && !(x == ("__classdict__" : Str))
  | _ => false
def isLoc (S : Sx) (x : Str) : Bool := match S.sc.names.lookup x with
  | some .local => true
  | some .cell => S.fn x
  | _ => false
def noStar : Expr → Bool
  | .Starred .. => false
  | _ => true
def noSlice : Expr → Bool
  | .Slice .. => false
  | _ => true
def noSet : Expr → Bool
  | .Set .. => false
  | _ => true
/-- no call (super()) -/
def noCall : Expr → Bool
  | .Call _ (_ :: _) _ _ => true
  | .Call .. => false
  | _ => true
def btName : Bt → Str
  | .len => "len" | .abs => "abs" | .int => "int" | .tuple => "tuple" | .list => "list" | .all => "all" | .any => "any" | .sum => "sum" | .max => "max" | .min => "min" | .sorted => "sorted"
  | .lrange => "list" | .trange => "tuple" | .dict => "dict"
def bmName : Bm → Str
  | .append => "append" | .extend => "extend" | .pop => "pop"
def ftSlots : FT → List Nat
  | .name i => [i]
  | .tup ts => ftSlots ts
  | .tnil => []
  | .tcons t ts => ftSlots t ++ ftSlots ts
def mT (S : Sx) : FT → Expr → Bool
  | .name i, .Name x _ => decide (S.N[i]? = some x) && isLoc S x
  | .tup ts, .Tuple es _ _ => mTs S ts es
  | _, _ => false
where mTs (S : Sx) : FT → List Expr → Bool
  | .tnil, [] => true
  | .tcons t ts, e :: es => noStar e && mT S t e && mTs S ts es
  | _, _ => false
def blk (S : Sx) (scope : Scope) : Sx := ⟨S.N, relS scope S.sc, fun x => scope.names.lookup x == some .cell⟩
def ownOf (S : Sx) (own : List Nat) : List (Str × Nat) := own.map fun i => ((S.N[i]?).getD Str.empty, i)
/-- no test -/
def noIf : FE → Bool
  | .cst (.bl true) => true
  | _ => false
theorem noIf_eq {c : FE} (h : noIf c = true) : c = .cst (.bl true) := by
  unfold noIf at h
  split at h
  · rfl
  · cases h
def isTup : Expr → Bool
  | .Tuple _ _ _ => true
  | _ => false
/-- e.m() alone -/
def viewC (m : Str) : List Expr → Option (Expr × Pos × Pos)
  | [.Call (.Attribute eo y apos) [] [] cpos] => if y = m then some (eo, apos, cpos) else none
  | _ => none
theorem viewC_eq {m : Str} {es : List Expr} {eo : Expr} {apos cpos : Pos} (h : viewC m es = some (eo, apos, cpos)) : es = [.Call (.Attribute eo m apos) [] [] cpos] := by
  unfold viewC at h
  split at h
  · split at h
    · rename_i e; subst e; cases h; rfl
    · cases h
  · cases h
/-- f(e) alone -/
def viewN (f : Str) : List Expr → Option (Expr × Pos × Pos)
  | [.Call (.Name y p) [ex] [] q] => if y = f then some (ex, p, q) else none
  | _ => none
theorem viewN_eq {f : Str} {es : List Expr} {ex : Expr} {p q : Pos} (h : viewN f es = some (ex, p, q)) : es = [.Call (.Name f p) [ex] [] q] := by
  unfold viewN at h
  split at h
  · split at h
    · rename_i e; subst e; cases h; rfl
    · cases h
  · cases h
/-- ::-1 -/
def isRev : Expr → Bool
  | .Slice none none (some (.UnaryOp .USub (.Constant (.int i) _ _) _)) _ => decide (i = 1)
  | _ => false
theorem isRev_eq {e : Expr} (h : isRev e = true) : ∃ k p1 p2 p3, e = .Slice none none (some (.UnaryOp .USub (.Constant (.int 1) k p1) p2)) p3 := by
  unfold isRev at h
  split at h
  · rw [decide_eq_true_eq] at h; subst h; exact ⟨_, _, _, _, rfl⟩
  · cases h
/-- no super() -/
def noSup : Expr → Bool
  | .Call (.Name x _) [] [] _ => x != ("super" : Str)
  | _ => true
mutual
def mE (G : Sg) : FE → Sx → Expr → Bool
  | .var i, S, .Name x _ => decide (S.N[i]? = some x) && isVis S.sc x
  | .cst .non, _, .Constant .none _ _ => true
  | .cst (.bl b), _, .Constant (.bool c) _ _ => b == c
  | .cst (.int i), _, .Constant (.int j) _ _ => decide (i = j)
  | .cst (.str i), _, .Constant (.str j) _ _ => decide (i = j)
  | .glob x, S, .Name y _ => decide (x = y) && isGl S.sc y && (G.glob.lookup x).isSome
  | .bin _ op a b, S, .BinOp ea op' eb _ => decide (op = op') && mE G a S ea && mE G b S eb
  | .neg a, S, .UnaryOp .USub ea _ => mE G a S ea
  | .not a, S, .UnaryOp .Not ea _ => mE G a S ea
  | .cmp op a b, S, .Compare ea [op'] [eb] _ => decide (op = op') && noSet eb && mE G a S ea && mE G b S eb
  | .chain op op' a b c, S, .Compare ea [p, p'] [eb, ec] _ => decide (op = p) && decide (op' = p') && noSet ec && mE G a S ea && mE G b S eb && mE G c S ec
  | .and a b, S, .BoolOp .And es pos => match es with
    | [ea, eb] => mE G a S ea && mE G b S eb
    | ea :: eb :: ec :: r => mE G a S ea && mE G b S (.BoolOp .And (eb :: ec :: r) pos)
    | _ => false
  | .or a b, S, .BoolOp .Or es pos => match es with
    | [ea, eb] => mE G a S ea && mE G b S eb
    | ea :: eb :: ec :: r => mE G a S ea && mE G b S (.BoolOp .Or (eb :: ec :: r) pos)
    | _ => false
  | .ite c a b, S, .IfExp ec ea eb _ => mE G c S ec && mE G a S ea && mE G b S eb
  | .tup as, S, .Tuple es _ _ => mEs G as S es
  | .lst _ as, S, .List es _ => mEs G as S es
  | .idx a i, S, .Subscript ea ei _ => noSlice ei && mE G a S ea && mE G i S ei
  | .slice _ a lo hi, S, .Subscript ea (.Slice l u none _) _ => mE G a S ea && mP G lo S l && mP G hi S u
  | .call _ f as, S, .Call (.Name x _) es [] _ => decide (f = x) && isGl S.sc x && G.fns.contains f && !es.isEmpty && mEs G as S es
  | .bcall _ b as, S, .Call (.Name x _) es [] _ => decide (btName b = x) && isGl S.sc x && G.blt.contains x && (match b with
    | .lrange => (match es with
      | [.Call (.Name y _) rs [] _] => decide (y = ("range" : Str)) && isGl S.sc y && G.blt.contains y && decide (rs.length ≤ 2) && mEs G as S rs
      | _ => false)
    | .trange => (match es with
      | [.Call (.Name y _) rs [] _] => decide (y = ("range" : Str)) && isGl S.sc y && G.blt.contains y && decide (rs.length ≤ 2) && mEs G as S rs
      | _ => false)
    | _ => !es.isEmpty && mEs G as S es)
  | .dnil, _, .Dict [] [] _ => true
  | .attr o f, S, .Attribute eo x _ => decide (f = x) && G.attrs.contains f && noSup eo && mE G o S eo
  | .meth _ c m o as, S, .Call (.Attribute eo x apos) es [] cpos => decide (m = x) && G.mths.contains (c, m) && noSup eo && apos.endLine == cpos.line && decide (es.length < 20) && mE G o S eo && mEs G as S es
  | .new c as, S, .Call (.Name x _) es [] _ => decide (c = x) && isGl S.sc x && G.inis.contains c && !es.isEmpty && mEs G as S es
  | .rev _ e, S, .Subscript ea sl _ => isRev sl && mE G e S ea
  | .dcomp _ own t it c k v, S, .DictComp kx vx [⟨tg, iter, ifs, an⟩] scope _ => decide (an = 0) && blkC S.N S.sc scope (ownOf S own) && noSet iter && mI G it S tg iter && mT (blk S scope) t tg && (ftSlots t).all own.contains && mE G k (blk S scope) kx && mE G v (blk S scope) vx &&
    (match ifs with
    | [] => noIf c
    | [i] => mE G c (blk S scope) i
    | _ => false)
  | .dupd o e, S, .Call (.Attribute eo x apos) [ex] [] cpos => decide (x = ("update" : Str)) && noCall eo && apos.endLine == cpos.line && noStar ex && mE G o S eo && mE G e S ex
  | .dget1 o k, S, .Call (.Attribute eo x apos) [ek] [] cpos => decide (x = ("get" : Str)) && noCall eo && apos.endLine == cpos.line && noStar ek && mE G o S eo && mE G k S ek
  | .dget o k c, S, .Call (.Attribute eo x apos) [ek, ec] [] cpos => decide (x = ("get" : Str)) && noCall eo && apos.endLine == cpos.line && noStar ek && noStar ec && mE G o S eo && mE G k S ek && mE G c S ec
  | .dsetd o k c, S, .Call (.Attribute eo x apos) [ek, ec] [] cpos => decide (x = ("setdefault" : Str)) && noCall eo && apos.endLine == cpos.line && noStar ek && noStar ec && mE G o S eo && mE G k S ek && mE G c S ec
  | .ddisp _ as, S, .Dict ks vs _ => !ks.isEmpty && ks.all (·.isSome) && decide (ks.length = vs.length) && decide (ks.length ≤ 15) && mK G as S ks vs
  | .sset _ e, S, .Call (.Name x _) es [] _ => decide (x = ("sorted" : Str)) && isGl S.sc x && G.blt.contains x && (match viewN "set" es with
    | some (ex, _, _) => isGl S.sc ("set" : Str) && G.blt.contains ("set" : Str) && noStar ex && mE G e S ex
    | none => false)
  | .lset e, S, .Call (.Name x _) es [] _ => decide (x = ("len" : Str)) && isGl S.sc x && G.blt.contains x && (match viewN "set" es with
    | some (ex, _, _) => isGl S.sc ("set" : Str) && G.blt.contains ("set" : Str) && noStar ex && mE G e S ex
    | none => false)
  | .svals _ e, S, .Call (.Name x _) es [] _ => decide (x = ("sorted" : Str)) && isGl S.sc x && G.blt.contains x && (match viewC "values" es with
    | some (eo, apos, cpos) => noCall eo && apos.endLine == cpos.line && mE G e S eo
    | none => false)
  | .bmeth m o as, S, .Call (.Attribute eo x apos) es [] cpos => decide (bmName m = x) && noCall eo && apos.endLine == cpos.line && decide (es.length ≤ 1) && mE G o S eo && mEs G as S es
  | .comp _ own t it c e, S, .ListComp elt [⟨tg, iter, ifs, an⟩] scope _ => decide (an = 0) && blkC S.N S.sc scope (ownOf S own) && noSet iter && mI G it S tg iter && mT (blk S scope) t tg && (ftSlots t).all own.contains && mE G e (blk S scope) elt &&
    (match ifs with
    | [] => noIf c
    | [i] => mE G c (blk S scope) i
    | _ => false)
  | _, _, _ => false
def mEs (G : Sg) : FE → Sx → List Expr → Bool
  | .anil, _, [] => true
  | .acons a as, S, e :: es => noStar e && mE G a S e && mEs G as S es
  | _, _, _ => false
/-- a display's keys and values, in turns -/
def mK (G : Sg) : FE → Sx → List (Option Expr) → List Expr → Bool
  | .anil, _, [], [] => true
  | .acons a as, S, some k :: ks, vs => mE G a S k && mV G as S ks vs
  | _, _, _, _ => false
def mV (G : Sg) : FE → Sx → List (Option Expr) → List Expr → Bool
  | .acons a as, S, ks, v :: vs => mE G a S v && mK G as S ks vs
  | _, _, _, _ => false
def mP (G : Sg) : FE → Sx → Option Expr → Bool
  | .nopart, _, none => true
  | .part e, S, some x => mE G e S x
  | _, _, _ => false
/-- what is walked, to a target -/
def mI (G : Sg) : FE → Sx → Expr → Expr → Bool
  | .iseq e, S, _, x => mE G e S x
  | .irange as, S, _, .Call (.Name x _) es [] _ => decide (x = ("range" : Str)) && isGl S.sc x && G.blt.contains x && decide (es.length ≤ 2) && mEs G as S es
  | .ienum as, S, tg, .Call (.Name x _) es [] _ => isTup tg && decide (x = ("enumerate" : Str)) && isGl S.sc x && G.blt.contains x && decide (es.length = 1) && mEs G as S es
  | .izip as, S, tg, .Call (.Name x _) es [] _ => isTup tg && decide (x = ("zip" : Str)) && isGl S.sc x && G.blt.contains x && decide (es.length = 2) && mEs G as S es
  | _, _, _, _ => false
end

/-! ### where one stands -/
/-- what a call of a def wants -/
def spF (T : Tx) (g : List D → Hs → R D) : Sp := fun vs H Q E => ∃ (ρ : List Addr) (ds : List D) (h : Hs), RDs T.K H ρ ds vs ∧ HR T H ρ h ∧ PR T (fun c d _ H' => E c d H') [] H ρ (RAd T.K) Q (g ds h)
/-- the text as it stands behind the top, calls to a depth k -/
structure Text (G : Sg) (T : Tx) (B : Heap) (Γ : Cfg) (k : Nat) : Prop where
  fns : ∀ f, G.fns.contains f = true → ∃ (a : Addr) (fd : FuncData) (ps : List Str), T.mg f = some (.ref a) ∧ PySem.W.keepIn T.K (.ref a) = true ∧ Binds T.K fd ps [] ∧ FnOk T.P T.w T.K T.mg B (CX T.P T.w) k a fd ps (spF T (Γ.call f))
  blt : ∀ x, G.blt.contains x = true → T.mg x = none
  glob : ∀ x d, G.glob.lookup x = some d → Γ.glob x = some d ∧ ∃ u v, T.mg x = some u ∧ RelV v u ∧ ∀ H ρ, RD T.K H ρ d v
  errs : ∀ c, G.errs.contains c = true → ∃ C fI, EX.Txt T.P T.K T.mg c C fI ∧ PySem.W.exmOne T.K (.ref C) (.ref C) = some true
  cls : ∀ c, Γ.clss.contains c = true → ∃ C, T.mg c = some (.ref C) ∧ Cls T.K C ∧ ∀ f, G.attrs.contains f = true → NoAttr T.K C f
  mth : ∀ c m, G.mths.contains (c, m) = true → ∃ (C a : Addr) (fd : FuncData) (ps : List Str), T.mg c = some (.ref C) ∧ Cls T.K C ∧ Meth T.K C m a ∧ Binds T.K fd ps [] ∧ FnOk T.P T.w T.K T.mg B (CX T.P T.w) k a fd ps (spF T (Γ.call (c ++ "." ++ m)))
  ini : ∀ c, G.inis.contains c = true → ∃ (C a : Addr) (fd : FuncData) (ps : List Str), T.mg c = some (.ref C) ∧ Mk T.K C a ∧ Binds T.K fd ps [] ∧ ∀ k', k = k' + 1 → FnOk T.P T.w T.K T.mg B (CX T.P T.w) k' a fd ps (spF T (Γ.init c))
  ini0 : k = 0 → ∀ c vs h, Γ.init c vs h = .bad
  isE : ∀ c S, G.isE.contains (c, S) = true → ∃ C Sa, T.mg c = some (.ref C) ∧ T.mg S = some (.ref Sa) ∧ ExcC T.K C ∧ PySem.W.kitOne T.K (.ref C) (.ref Sa) = some true
structure Ok (T : Tx) (B : Heap) (k : Nat) (S : Sx) (X : Cx) (W : WX) : Prop where
  tx : txOf X = T
  base : X.base = B
  N : X.N = S.N
  sc : X.env.scope = S.sc
  fn : X.fn = S.fn
  nd : X.N.Nodup
  calm : X.calm = true
  takes : Takes X W
  room : Room k X.A
  own : PassesOwn (model X.prog X.w) X.A X.env X.xe

theorem isGl_ok {X : Cx} {S : Sx} (e : X.env.scope = S.sc) {x : Str} (h : isGl S.sc x = true) : Gl X x ∧ (x == ("__debug__" : Str)) = false := by
  unfold isGl at h
  rw [Bool.and_eq_true] at h
  exact ⟨by unfold Gl Env.kindOf; rw [e]; exact of_decide_eq_true h.1, by simpa using h.2⟩
theorem isVis_ok {X : Cx} {S : Sx} (e : X.env.scope = S.sc) {x : Str} (h : isVis S.sc x = true) : Vis X.env.scope x ∧ (x == ("__debug__" : Str)) = false ∧ (x == ("__classdict__" : Str)) = false := by
  unfold isVis at h
  unfold Vis
  rw [e]
  split at h
  all_goals first | (rw [Bool.and_eq_true] at h; exact ⟨by simp_all, by simpa using h.1, by simpa using h.2⟩) | cases h
theorem isLoc_ok {X : Cx} {S : Sx} (e : X.env.scope = S.sc) (ef : X.fn = S.fn) {x : Str} (h : isLoc S x = true) : L2.Loc X.env.scope x ∧ (X.fn x = true ∨ X.env.scope.names.lookup x = some .local) := by
  unfold isLoc at h
  unfold L2.Loc
  rw [e, ef]
  split at h
  · rename_i q; exact ⟨.inl q, .inr q⟩
  · rename_i q; exact ⟨.inr q, .inl h⟩
  · cases h
theorem star_cons {env : Env} {e : Expr} {es : List Expr} (h : noStar e = true) : starEach (e :: es) env = (false, eval e env) :: starEach es env := by
  cases e <;> first | rfl | cases h
theorem assign_cons {env : Env} {e : Expr} {es : List Expr} (h : noStar e = true) : assignEach (e :: es) env = (false, assign e env) :: assignEach es env := by
  cases e <;> first | rfl | cases h
theorem slice_plain {e : Expr} (h : noSlice e = true) : PlainIx e := by
  intro o i
  cases e <;> first | rfl | cases h
theorem set_mark {op : CmpOp} {e : Expr} (h : noSet e = true) : behindInMarks op e = false := by
  cases e <;> first | rfl | cases h
theorem set_fold {env : Env} {e : Expr} (h : noSet e = true) : ∀ x, foldedSetIterable e env x = pure x := by
  intro x
  cases e <;> first | rfl | cases h
theorem call_base {env : Env} {e : Expr} {f : Str} (h : noCall e = true) : attributeBase e f env (eval e env) = eval e env := by
  cases e <;> first | rfl | (rename_i f args kws pos; cases args <;> first | (cases h; done) | (cases f <;> rfl))
theorem stars_plain {G : Sg} {S : Sx} {env : Env} {pos : Pos} : ∀ {as : FE} {es : List Expr}, mEs G as S es = true → (backTo pos (starEach es env)).any (·.1) = false := by
  have key : ∀ (es : List Expr), es.all noStar = true → ∀ pos, (backTo pos (starEach es env)).any (·.1) = false := by
    intro es
    induction es with
    | nil => intro _ _; rfl
    | cons e es ih =>
      intro h pos
      rw [List.all_cons, Bool.and_eq_true] at h
      rw [star_cons h.1]
      have := ih h.2 pos
      cases hs : starEach es env with
      | nil => simp [backTo]
      | cons y ys => rw [hs] at this; simp_all [backTo]
  have all : ∀ (as : FE) (es : List Expr), mEs G as S es = true → es.all noStar = true := by
    intro as
    induction as with
    | acons a as _ ih =>
      intro es h
      cases es with
      | nil => rfl
      | cons e es =>
        simp only [mEs, Bool.and_eq_true] at h
        rw [List.all_cons, h.1.1, ih es h.2]; rfl
    | _ => intro es h; cases es <;> first | rfl | (simp [mEs] at h)
  intro as es h
  exact key es (all as es h) pos

/-! ### readings -/
def tP (Γ : Cfg) (T : Tx) (W : WX) (fe : FE) : TO := fun σ H Q => ∃ ρ ls h, RL T.K H ρ ls σ ∧ HR T H ρ h ∧ PR T W σ H ρ (RAe (Option Int)) Q (evPart Γ fe ls h)
theorem PR.imp {α β : Type} {T : Tx} {W W' : WX} {σ σ' : L2.St} {H : Hp} {ρ : List Addr} {RA : Hp → List Addr → α → β → Prop} {Q Q' : β → Hp → Prop} {r : R α} (h : PR T W σ H ρ RA Q r) (hq : ∀ b H', Q b H' → Q' b H') (hw : ∀ c d H', W c d σ H' → W' c d σ' H') : PR T W' σ' H ρ RA Q' r := by
  cases r with
  | ok a h' => exact fun ρ' b H' e k hr ra => hq _ _ (h ρ' b H' e k hr ra)
  | exc c fs h' => exact fun ρ' cls dx H' e k hr x => hw _ _ _ (h ρ' cls dx H' e k hr x)
  | bad => exact h
section
variable {G : Sg} {T : Tx} {B : Heap} {Γ : Cfg} {k : Nat} {S : Sx} {X : Cx} {W : WX}
theorem poW {e : Option Expr} {t t' : TO} (h : PO X e t) (w : ∀ σ H Q, t' σ H Q → t σ H Q) : PO X e t' := ⟨fun pins s σ H Q I q => h.run pins s σ H Q I (w σ H Q q)⟩
theorem Ok.un (O : Ok T B k S X W) : X.A.units + 66 < cLine := by have := O.room.un; omega
theorem Ok.tx' (O : Ok T B k S X W) : txOf X = T := O.tx
/-- a value's test -/
def plainT : Expr → Bool
  | .UnaryOp .Not _ _ => false
  | .BoolOp .. => false
  | .IfExp .. => false
  | .Compare .. => false
  | _ => true
theorem pt_of {e : Expr} {fe : FE} (O : Ok T B k S X W) (he : PE X e (tE Γ T W fe)) (hp : plainT e = true) : PT X e (tT Γ T W fe) := by
  have hw : ∀ whole, isTrue e X.env whole = (do let v ← whole; standAt e.pos; holding [v] (truthy v)) := by
    intro whole
    cases e with
    | UnaryOp op a p => cases op <;> first | rfl | cases hp
    | _ => first | rfl | cases hp
  refine ptW (pt_truth he hw) fun σ H Q hh => ?_
  obtain ⟨ρ, ls, h, rl, hr, hq⟩ := hh
  refine ⟨ρ, ls, h, rl, hr, ?_⟩
  unfold evT at hq
  refine PR.bind hq fun d h1 ρ1 v H1 _ e k1 hr1 rd hq1 => ?_
  obtain ⟨b, eb, hq1⟩ := hq1.ofO
  have : X.K = T.K := congrArg Tx.K O.tx
  rw [this]
  exact ⟨b, truth_ok rd hr1 eb, hq1.ok hr1 rfl⟩

theorem s_var {i : Nat} {x : Str} {pos : Pos} (O : Ok T B k S X W) (h1 : S.N[i]? = some x) (h2 : isVis S.sc x = true) : PE X (.Name x pos) (tE Γ T W (.var i)) := by
  obtain ⟨v1, v2, v3⟩ := isVis_ok O.sc h2
  refine peW (pe_var (by rw [O.N]; exact h1) v1 v2 v3) fun σ H Q hh => ?_
  obtain ⟨ρ, ls, h, rl, hr, hq⟩ := hh
  rw [ev] at hq
  split at hq
  · rename_i d hd
    obtain ⟨v, e1, e2⟩ := rl.2 i d hd
    exact ⟨v, e1, hq.ok hr e2⟩
  · exact hq.elim
theorem s_const {e : Expr} {d : D} {v : V} (he : PE X e (tC v)) (hd : ∀ H ρ, RD T.K H ρ d v) : PE X e (tE Γ T W (.cst d)) := by
  refine peW he fun σ H Q hh => ?_
  obtain ⟨ρ, ls, h, rl, hr, hq⟩ := hh
  rw [ev] at hq
  exact PR.ok hq hr (hd H ρ)
theorem s_glob {x : Str} {pos : Pos} (O : Ok T B k S X W) (X0 : Text G T B Γ k) (h1 : isGl S.sc x = true) (h2 : (G.glob.lookup x).isSome = true) : PE X (.Name x pos) (tE Γ T W (.glob x)) := by
  obtain ⟨g1, g2⟩ := isGl_ok O.sc h1
  obtain ⟨d, hd⟩ := Option.isSome_iff_exists.mp h2
  obtain ⟨e1, u, v, m, r, rd⟩ := X0.glob x d hd
  have hm : X.mg x = some u := by rw [← m, ← O.tx]
  refine peW (pe_glob g1 hm r g2) fun σ H Q hh => ?_
  obtain ⟨ρ, ls, h, rl, hr, hq⟩ := hh
  rw [ev, e1] at hq
  exact PR.ok hq hr (rd H ρ)
theorem s_bin {m : Bool} {a b : FE} {ea eb : Expr} {op : Operator} {pos : Pos} (O : Ok T B k S X W) (ha : PE X ea (tE Γ T W a)) (hb : PE X eb (tE Γ T W b)) : PE X (.BinOp ea op eb pos) (tE Γ T W (.bin m op a b)) := by
  refine peW (pe_frz (pe_op (op_bin (m := m)) ha hb)) fun σ H Q hh => ?_
  obtain ⟨ρ, ls, h, rl, hr, hq⟩ := hh
  rw [ev] at hq
  refine ⟨ρ, ls, h, rl, hr, PR.bind hq fun d h1 ρ1 v H1 _ e k1 hr1 rd hq1 => ?_⟩
  refine ⟨ρ1, ls, h1, rl.mono k1 e, hr1, PR.bind hq1 fun d2 h2 ρ2 v2 H2 _ e2 k2 hr2 rd2 hq2 => ?_⟩
  rw [O.tx]
  exact ⟨Q, rfl, W, σ, ρ2, d, d2, h2, rd.mono k2 e2, rd2, hr2, hq2⟩
theorem s_neg {a : FE} {ea : Expr} {pos : Pos} (O : Ok T B k S X W) (ha : PE X ea (tE Γ T W a)) : PE X (.UnaryOp .USub ea pos) (tE Γ T W (.neg a)) := by
  refine peW (pe_un un_neg ha) fun σ H Q hh => ?_
  obtain ⟨ρ, ls, h, rl, hr, hq⟩ := hh
  rw [ev] at hq
  refine ⟨ρ, ls, h, rl, hr, PR.bind hq fun d h1 ρ1 v H1 _ e k1 hr1 rd hq1 => ?_⟩
  cases rd with
  | int i => exact ⟨i, rfl, PR.ok hq1 hr1 (.int _)⟩
  | _ => exact hq1.elim
theorem s_not {a : FE} {ea : Expr} {pos : Pos} (O : Ok T B k S X W) (ha : PE X ea (tE Γ T W a)) : PE X (.UnaryOp .Not ea pos) (tE Γ T W (.not a)) := by
  refine peW (pe_notT ha) fun σ H Q hh => ?_
  obtain ⟨ρ, ls, h, rl, hr, hq⟩ := hh
  rw [ev] at hq
  refine ⟨ρ, ls, h, rl, hr, PR.bind hq fun d h1 ρ1 v H1 _ e k1 hr1 rd hq1 => ?_⟩
  obtain ⟨z, ez, hq1⟩ := hq1.ofO
  obtain ⟨b, eb, rfl⟩ := Option.map_eq_some_iff.mp ez
  have hK : X.K = T.K := congrArg Tx.K O.tx
  rw [hK]
  exact ⟨b, truth_ok rd hr1 eb, PR.ok hq1 hr1 (.bl _)⟩
theorem t_not {a : FE} {ea : Expr} {pos : Pos} (ha : PT X ea (tT Γ T W a)) : PT X (.UnaryOp .Not ea pos) (tT Γ T W (.not a)) := by
  refine ptW (pt_not ha) fun σ H Q hh => ?_
  obtain ⟨ρ, ls, h, rl, hr, hq⟩ := hh
  refine ⟨ρ, ls, h, rl, hr, ?_⟩
  unfold evT at hq ⊢
  rw [ev] at hq
  cases hx : ev Γ a ls h with
  | bad => rw [hx] at hq; exact hq
  | exc c fs h' => rw [hx] at hq; exact hq
  | ok d h' =>
    rw [hx] at hq
    simp only [R.bind_ok] at hq ⊢
    cases ht : truth h' d with
    | none => rw [ht] at hq; exact hq
    | some b =>
      rw [ht] at hq
      simp only [Option.map_some, ofO_some, R.bind_ok, truth] at hq ⊢
      exact fun ρ' b' H' e k hr' ra => by subst ra; exact hq ρ' _ H' e k hr' rfl
theorem s_cmp {a b : FE} {ea eb : Expr} {op : CmpOp} {pos : Pos} (O : Ok T B k S X W) (hs : noSet eb = true) (ha : PE X ea (tE Γ T W a)) (hb : PE X eb (tE Γ T W b)) : PE X (.Compare ea [op] [eb] pos) (tE Γ T W (.cmp op a b)) := by
  refine peW (pe_cmpR (op_cmp (by have := O.un; omega)) ha hb (set_mark hs)) fun σ H Q hh => ?_
  obtain ⟨ρ, ls, h, rl, hr, hq⟩ := hh
  rw [ev] at hq
  refine ⟨ρ, ls, h, rl, hr, PR.bind hq fun d h1 ρ1 v H1 _ e k1 hr1 rd hq1 => ?_⟩
  refine ⟨ρ1, ls, h1, rl.mono k1 e, hr1, PR.bind hq1 fun d2 h2 ρ2 v2 H2 _ e2 k2 hr2 rd2 hq2 => ?_⟩
  obtain ⟨z, ez, hq2⟩ := hq2.ofO
  obtain ⟨c, ec, rfl⟩ := Option.map_eq_some_iff.mp ez
  rw [O.tx]
  exact ⟨ρ2, d, d2, h2, c, rd.mono k2 e2, rd2, hr2, ec, hq2.ok hr2 (.bl _)⟩
theorem t_cmp {a b : FE} {ea eb : Expr} {op : CmpOp} {pos : Pos} (O : Ok T B k S X W) (hs : noSet eb = true) (ha : PE X ea (tE Γ T W a)) (hb : PE X eb (tE Γ T W b)) : PT X (.Compare ea [op] [eb] pos) (tT Γ T W (.cmp op a b)) := by
  refine ptW (pt_cmpR (op_cmp (by have := O.un; omega)) ha hb (set_mark hs)) fun σ H Q hh => ?_
  obtain ⟨ρ, ls, h, rl, hr, hq⟩ := hh
  unfold evT at hq
  rw [ev] at hq
  simp only [R.bind] at hq
  refine ⟨ρ, ls, h, rl, hr, PR.bind (f := fun x h1 => (ev Γ b ls h1).bind fun y h2 => (R.ofO h2 ((cmpD op h2 x y).map D.bl)).bind fun x h1 => R.ofO h1 (truth h1 x)) (RC := RAe Bool) (Q1 := Q) (by
    revert hq; cases ev Γ a ls h <;> simp only [R.bind] <;> intro hq <;> first | exact hq | skip
    rename_i d h1; revert hq; cases ev Γ b ls h1 <;> intro hq <;> first | exact hq | skip) fun d h1 ρ1 v H1 _ e k1 hr1 rd hq1 => ?_⟩
  refine ⟨ρ1, ls, h1, rl.mono k1 e, hr1, PR.bind hq1 fun d2 h2 ρ2 v2 H2 _ e2 k2 hr2 rd2 hq2 => ?_⟩
  cases ec : cmpD op h2 d d2 with
  | none => rw [ec] at hq2; exact hq2.elim
  | some c =>
    rw [ec] at hq2
    rw [O.tx]
    exact ⟨ρ2, d, d2, h2, c, rd.mono k2 e2, rd2, hr2, ec, c, rfl, PR.ok (RA := RAe Bool) hq2 hr2 rfl⟩
theorem s_chain {a b c : FE} {ea eb ec : Expr} {op op' : CmpOp} {pos : Pos} (O : Ok T B k S X W) (hs : noSet ec = true) (ha : PE X ea (tE Γ T W a)) (hb : PE X eb (tE Γ T W b)) (hc : PE X ec (tE Γ T W c)) :
    PE X (.Compare ea [op, op'] [eb, ec] pos) (tE Γ T W (.chain op op' a b c)) := by
  have hu : X.A.units + 65 < cLine := by have := O.un; omega
  refine peW (pe_chain (op_cmp hu) (op_cmp hu) ha hb hc (show lastMarks [op, op'] [eb, ec] = false from set_mark hs)) fun σ H Q hh => ?_
  obtain ⟨ρ, ls, h, rl, hr, hq⟩ := hh
  rw [ev] at hq
  refine ⟨ρ, ls, h, rl, hr, PR.bind hq fun d h1 ρ1 v H1 _ e k1 hr1 rd hq1 => ?_⟩
  refine ⟨ρ1, ls, h1, rl.mono k1 e, hr1, PR.bind hq1 fun d2 h2 ρ2 v2 H2 _ e2 k2 hr2 rd2 hq2 => ?_⟩
  cases q : cmpD op h2 d d2 with
  | none => rw [q] at hq2; exact hq2.elim
  | some b1 =>
    rw [q] at hq2
    simp only [ofO_some, R.bind_ok] at hq2
    rw [O.tx]
    refine ⟨ρ2, d, d2, h2, b1, rd.mono k2 e2, rd2, hr2, q, b1, rfl, ?_⟩
    cases b1 with
    | false => exact PR.ok hq2 hr2 (.bl _)
    | true =>
      rw [if_pos rfl] at hq2 ⊢
      refine ⟨ρ2, ls, h2, (rl.mono k1.k e).mono k2.k e2, hr2, PR.bind hq2 fun d3 h3 ρ3 v3 H3 _ e3 k3 hr3 rd3 hq3 => ?_⟩
      obtain ⟨z, ez, hq3⟩ := hq3.ofO
      obtain ⟨cc, ecc, rfl⟩ := Option.map_eq_some_iff.mp ez
      exact ⟨ρ3, d2, d3, h3, cc, rd2.mono k3 e3, rd3, hr3, ecc, hq3.ok hr3 (.bl _)⟩

theorem s_and {a b : FE} {ea eb : Expr} {r : List Expr} {pos : Pos} (O : Ok T B k S X W) (ha : PE X ea (tE Γ T W a)) (hb : PE X (.BoolOp .And (eb :: r) pos) (tE Γ T W b)) : PE X (.BoolOp .And (ea :: eb :: r) pos) (tE Γ T W (.and a b)) := by
  refine peW (pe_andT ha hb) fun σ H Q hh => ?_
  obtain ⟨ρ, ls, h, rl, hr, hq⟩ := hh
  rw [ev] at hq
  refine ⟨ρ, ls, h, rl, hr, PR.bind hq fun d h1 ρ1 v H1 _ e k1 hr1 rd hq1 => ?_⟩
  have hK : X.K = T.K := congrArg Tx.K O.tx
  rw [hK]
  cases q : truth h1 d with
  | none => rw [q] at hq1; exact hq1.elim
  | some c =>
    rw [q] at hq1
    refine ⟨c, truth_ok rd hr1 q, ?_⟩
    cases c with
    | true => exact ⟨ρ1, ls, h1, rl.mono k1 e, hr1, hq1⟩
    | false => exact PR.ok hq1 hr1 rd
theorem s_or {a b : FE} {ea eb : Expr} {r : List Expr} {pos : Pos} (O : Ok T B k S X W) (ha : PE X ea (tE Γ T W a)) (hb : PE X (.BoolOp .Or (eb :: r) pos) (tE Γ T W b)) : PE X (.BoolOp .Or (ea :: eb :: r) pos) (tE Γ T W (.or a b)) := by
  refine peW (pe_orT ha hb) fun σ H Q hh => ?_
  obtain ⟨ρ, ls, h, rl, hr, hq⟩ := hh
  rw [ev] at hq
  refine ⟨ρ, ls, h, rl, hr, PR.bind hq fun d h1 ρ1 v H1 _ e k1 hr1 rd hq1 => ?_⟩
  have hK : X.K = T.K := congrArg Tx.K O.tx
  rw [hK]
  cases q : truth h1 d with
  | none => rw [q] at hq1; exact hq1.elim
  | some c =>
    rw [q] at hq1
    refine ⟨c, truth_ok rd hr1 q, ?_⟩
    cases c with
    | false => exact ⟨ρ1, ls, h1, rl.mono k1 e, hr1, hq1⟩
    | true => exact PR.ok hq1 hr1 rd
theorem evT_and (a b : FE) (ls : Ls) (h : Hs) : evT Γ (.and a b) ls h = (evT Γ a ls h).bind fun k h1 => if k = true then evT Γ b ls h1 else .ok false h1 := by
  unfold evT
  rw [ev]
  cases ev Γ a ls h with
  | bad => rfl
  | exc _ _ _ => rfl
  | ok d h1 =>
    simp only [R.bind_ok]
    cases q : truth h1 d with
    | none => rfl
    | some c => cases c <;> simp [q]
theorem evT_or (a b : FE) (ls : Ls) (h : Hs) : evT Γ (.or a b) ls h = (evT Γ a ls h).bind fun k h1 => if k = true then .ok true h1 else evT Γ b ls h1 := by
  unfold evT
  rw [ev]
  cases ev Γ a ls h with
  | bad => rfl
  | exc _ _ _ => rfl
  | ok d h1 =>
    simp only [R.bind_ok]
    cases q : truth h1 d with
    | none => rfl
    | some c => cases c <;> simp [q]
theorem evT_ite (c a b : FE) (ls : Ls) (h : Hs) : evT Γ (.ite c a b) ls h = (evT Γ c ls h).bind fun k h1 => if k = true then evT Γ a ls h1 else evT Γ b ls h1 := by
  unfold evT
  rw [ev]
  cases ev Γ c ls h with
  | bad => rfl
  | exc _ _ _ => rfl
  | ok d h1 =>
    simp only [R.bind_ok]
    cases q : truth h1 d with
    | none => rfl
    | some c => cases c <;> simp
theorem t_and {a b : FE} {ea eb : Expr} {r : List Expr} {pos : Pos} (ha : PT X ea (tT Γ T W a)) (hb : PW X (.BoolOp .And (eb :: r) pos) (tT Γ T W b)) : PW X (.BoolOp .And (ea :: eb :: r) pos) (tT Γ T W (.and a b)) := by
  refine ⟨fun wh pins s σ H Q I hh => (pw_and ha hb).run wh pins s σ H Q I ?_⟩
  obtain ⟨ρ, ls, h, rl, hr, hq⟩ := hh
  rw [evT_and] at hq
  refine ⟨ρ, ls, h, rl, hr, PR.bind hq fun d h1 ρ1 v H1 _ e k1 hr1 rd hq1 => ?_⟩
  cases rd
  cases d with
  | true => exact ⟨ρ1, ls, h1, rl.mono k1 e, hr1, hq1⟩
  | false => exact PR.ok (RA := RAe Bool) hq1 hr1 rfl
theorem t_or {a b : FE} {ea eb : Expr} {r : List Expr} {pos : Pos} (ha : PT X ea (tT Γ T W a)) (hb : PW X (.BoolOp .Or (eb :: r) pos) (tT Γ T W b)) : PW X (.BoolOp .Or (ea :: eb :: r) pos) (tT Γ T W (.or a b)) := by
  refine ⟨fun wh pins s σ H Q I hh => (pw_or ha hb).run wh pins s σ H Q I ?_⟩
  obtain ⟨ρ, ls, h, rl, hr, hq⟩ := hh
  rw [evT_or] at hq
  refine ⟨ρ, ls, h, rl, hr, PR.bind hq fun d h1 ρ1 v H1 _ e k1 hr1 rd hq1 => ?_⟩
  cases rd
  cases d with
  | false => exact ⟨ρ1, ls, h1, rl.mono k1 e, hr1, hq1⟩
  | true => exact PR.ok (RA := RAe Bool) hq1 hr1 rfl
theorem s_ite {c a b : FE} {ec ea eb : Expr} {pos : Pos} (hc : PT X ec (tT Γ T W c)) (ha : PE X ea (tE Γ T W a)) (hb : PE X eb (tE Γ T W b)) : PE X (.IfExp ec ea eb pos) (tE Γ T W (.ite c a b)) := by
  refine peW (pe_ifExp hc ha hb) fun σ H Q hh => ?_
  obtain ⟨ρ, ls, h, rl, hr, hq⟩ := hh
  have e0 : ev Γ (.ite c a b) ls h = (evT Γ c ls h).bind fun k h1 => if k = true then ev Γ a ls h1 else ev Γ b ls h1 := by
    rw [ev]; unfold evT
    cases ev Γ c ls h <;> rfl
  rw [e0] at hq
  refine ⟨ρ, ls, h, rl, hr, PR.bind hq fun d h1 ρ1 v H1 _ e k1 hr1 rd hq1 => ?_⟩
  cases rd
  cases d with
  | true => exact ⟨ρ1, ls, h1, rl.mono k1 e, hr1, hq1⟩
  | false => exact ⟨ρ1, ls, h1, rl.mono k1 e, hr1, hq1⟩
/-- a if c else b as a test -/
theorem pt_ifExp {c a b : Expr} {tc ta tb : TT} {pos : Pos} (hc : PT X c tc) (ha : PT X a ta) (hb : PT X b tb) : PT X (.IfExp c a b pos) (fun σ H Q => tc σ H fun k H1 => if k = true then ta σ H1 Q else tb σ H1 Q) := by
  refine ⟨fun pins s σ H Q I h => ?_⟩
  rw [PySem.isTrue]
  refine wpAny_bind (thn (hc.run pins s σ H _ I h) fun d s1 ⟨H1, I1, q1⟩ => ?_)
  cases d with
  | true => exact ha.run pins s1 σ H1 Q I1 q1
  | false => exact hb.run pins s1 σ H1 Q I1 q1
theorem t_ite {c a b : FE} {ec ea eb : Expr} {pos : Pos} (hc : PT X ec (tT Γ T W c)) (ha : PT X ea (tT Γ T W a)) (hb : PT X eb (tT Γ T W b)) : PT X (.IfExp ec ea eb pos) (tT Γ T W (.ite c a b)) := by
  refine ptW (pt_ifExp hc ha hb) fun σ H Q hh => ?_
  obtain ⟨ρ, ls, h, rl, hr, hq⟩ := hh
  rw [evT_ite] at hq
  refine ⟨ρ, ls, h, rl, hr, PR.bind hq fun d h1 ρ1 v H1 _ e k1 hr1 rd hq1 => ?_⟩
  cases rd
  cases d with
  | true => exact ⟨ρ1, ls, h1, rl.mono k1 e, hr1, hq1⟩
  | false => exact ⟨ρ1, ls, h1, rl.mono k1 e, hr1, hq1⟩
theorem t_chain {a b c : FE} {ea eb ec : Expr} {op op' : CmpOp} {pos : Pos} (O : Ok T B k S X W) (hs : noSet ec = true) (ha : PE X ea (tE Γ T W a)) (hb : PE X eb (tE Γ T W b)) (hc : PE X ec (tE Γ T W c)) :
    PT X (.Compare ea [op, op'] [eb, ec] pos) (tT Γ T W (.chain op op' a b c)) := by
  have hu : X.A.units + 65 < cLine := by have := O.un; omega
  refine ptW (pt_chain (op_cmp hu) (op_cmp hu) ha hb hc (show lastMarks [op, op'] [eb, ec] = false from set_mark hs)) fun σ H Q hh => ?_
  obtain ⟨ρ, ls, h, rl, hr, hq⟩ := hh
  have e0 : evT Γ (.chain op op' a b c) ls h = (ev Γ a ls h).bind fun x h1 => (ev Γ b ls h1).bind fun y h2 => (R.ofO h2 (cmpD op h2 x y)).bind fun k h2 => if k = true then
      (ev Γ c ls h2).bind fun z h3 => R.ofO h3 (cmpD op' h3 y z) else .ok false h2 := by
    unfold evT
    rw [ev]
    cases ev Γ a ls h with
    | bad => rfl
    | exc _ _ _ => rfl
    | ok d h1 =>
      simp only [R.bind_ok]
      cases ev Γ b ls h1 with
      | bad => rfl
      | exc _ _ _ => rfl
      | ok d2 h2 =>
        simp only [R.bind_ok]
        cases cmpD op h2 d d2 with
        | none => rfl
        | some b1 =>
          cases b1 with
          | false => rfl
          | true =>
            simp only [ofO_some, R.bind_ok, if_true]
            cases ev Γ c ls h2 with
            | bad => rfl
            | exc _ _ _ => rfl
            | ok d3 h3 =>
              simp only [R.bind_ok]
              cases cmpD op' h3 d2 d3 <;> rfl
  rw [e0] at hq
  refine ⟨ρ, ls, h, rl, hr, PR.bind hq fun d h1 ρ1 v H1 _ e k1 hr1 rd hq1 => ?_⟩
  refine ⟨ρ1, ls, h1, rl.mono k1 e, hr1, PR.bind hq1 fun d2 h2 ρ2 v2 H2 _ e2 k2 hr2 rd2 hq2 => ?_⟩
  cases q : cmpD op h2 d d2 with
  | none => rw [q] at hq2; exact hq2.elim
  | some b1 =>
    rw [q] at hq2
    simp only [ofO_some, R.bind_ok] at hq2
    rw [O.tx]
    refine ⟨ρ2, d, d2, h2, b1, rd.mono k2 e2, rd2, hr2, q, b1, rfl, ?_⟩
    cases b1 with
    | false => exact ⟨false, rfl, PR.ok (RA := RAe Bool) hq2 hr2 rfl⟩
    | true =>
      rw [if_pos rfl] at hq2 ⊢
      refine ⟨ρ2, ls, h2, (rl.mono k1.k e).mono k2.k e2, hr2, PR.bind hq2 fun d3 h3 ρ3 v3 H3 _ e3 k3 hr3 rd3 hq3 => ?_⟩
      obtain ⟨cc, ecc, hq3⟩ := hq3.ofO
      exact ⟨ρ3, d2, d3, h3, cc, rd2.mono k3 e3, rd3, hr3, ecc, cc, rfl, PR.ok (RA := RAe Bool) hq3 hr3 rfl⟩

/-! ### displays, items, slices -/
theorem a_nil : PA X [] (tEs Γ T W .anil) := by
  refine paW pa_nil fun σ H Q hh => ?_
  obtain ⟨ρ, ls, h, rl, hr, hq⟩ := hh
  rw [evs] at hq
  exact PR.ok hq hr .nil
theorem a_cons {a as : FE} {e : Expr} {es : List Expr} (hs : noStar e = true) (ha : PE X e (tE Γ T W a)) (has : PA X es (tEs Γ T W as)) : PA X (e :: es) (tEs Γ T W (.acons a as)) := by
  refine paW (pa_cons ha has (star_cons hs)) fun σ H Q hh => ?_
  obtain ⟨ρ, ls, h, rl, hr, hq⟩ := hh
  rw [evs] at hq
  refine ⟨ρ, ls, h, rl, hr, PR.bind hq fun d h1 ρ1 v H1 _ e k1 hr1 rd hq1 => ?_⟩
  refine ⟨ρ1, ls, h1, rl.mono k1 e, hr1, PR.bind hq1 fun ds h2 ρ2 vs H2 _ e2 k2 hr2 rds hq2 => ?_⟩
  exact PR.ok hq2 hr2 (.cons (rd.mono k2 e2) rds)
theorem s_tup {as : FE} {es : List Expr} {x1 : Nat} {pos : Pos} (has : PA X es (tEs Γ T W as)) : PE X (.Tuple es x1 pos) (tE Γ T W (.tup as)) := by
  refine peW (pe_tup has) fun σ H Q hh => ?_
  obtain ⟨ρ, ls, h, rl, hr, hq⟩ := hh
  rw [ev] at hq
  refine ⟨ρ, ls, h, rl, hr, PR.bind hq fun ds h1 ρ1 vs H1 _ e k1 hr1 rds hq1 => ?_⟩
  split at hq1
  · rename_i hz
    exact ⟨by rw [← RDs.length rds]; exact hz, hq1.newT hr1 rds⟩
  · exact hq1.elim
theorem s_lst {m : Bool} {as : FE} {es : List Expr} {pos : Pos} (has : PA X es (tEs Γ T W as)) : PE X (.List es pos) (tE Γ T W (.lst m as)) := by
  refine peW (pe_frz (pe_lst has)) fun σ H Q hh => ?_
  obtain ⟨ρ, ls, h, rl, hr, hq⟩ := hh
  rw [ev] at hq
  refine ⟨ρ, ls, h, rl, hr, PR.bind hq fun ds h1 ρ1 vs H1 _ e k1 hr1 rds hq1 => ?_⟩
  split at hq1
  · rename_i hz
    exact ⟨by rw [← RDs.length rds]; exact hz, hq1.newM hr1 rds⟩
  · exact hq1.elim
theorem s_idx {a i : FE} {ea ei : Expr} {pos : Pos} (O : Ok T B k S X W) (hs : noSlice ei = true) (ha : PE X ea (tE Γ T W a)) (hi : PE X ei (tE Γ T W i)) : PE X (.Subscript ea ei pos) (tE Γ T W (.idx a i)) := by
  refine peW (pe_ix (ix_any (by have := O.un; omega)) ha hi (slice_plain hs)) fun σ H Q hh => ?_
  obtain ⟨ρ, ls, h, rl, hr, hq⟩ := hh
  rw [ev] at hq
  refine ⟨ρ, ls, h, rl, hr, PR.bind hq fun d h1 ρ1 v H1 _ e k1 hr1 rd hq1 => ?_⟩
  refine ⟨ρ1, ls, h1, rl.mono k1 e, hr1, PR.bind hq1 fun d2 h2 ρ2 v2 H2 _ e2 k2 hr2 rd2 hq2 => ?_⟩
  rw [O.tx]
  exact ⟨W, σ, ρ2, d, d2, h2, rd.mono k2 e2, rd2, hr2, hq2⟩
theorem p_none : PO X none (tP Γ T W .nopart) := by
  refine poW po_none fun σ H Q hh => ?_
  obtain ⟨ρ, ls, h, rl, hr, hq⟩ := hh
  rw [evPart] at hq
  exact PR.ok hq hr rfl
theorem p_some {a : FE} {e : Expr} (ha : PE X e (tE Γ T W a)) : PO X (some e) (tP Γ T W (.part a)) := by
  refine poW (po_some ha) fun σ H Q hh => ?_
  obtain ⟨ρ, ls, h, rl, hr, hq⟩ := hh
  rw [evPart] at hq
  refine ⟨ρ, ls, h, rl, hr, PR.bind hq fun d h1 ρ1 v H1 _ e k1 hr1 rd hq1 => ?_⟩
  cases rd with
  | int i => exact ⟨i, rfl, PR.ok (RA := RAe (Option Int)) hq1 hr1 rfl⟩
  | _ => exact hq1.elim
theorem s_slice {m : Bool} {a lo hi : FE} {ea : Expr} {l u : Option Expr} {p2 pos : Pos} (O : Ok T B k S X W) (ha : PE X ea (tE Γ T W a)) (hl : PO X l (tP Γ T W lo)) (hu : PO X u (tP Γ T W hi)) : PE X (.Subscript ea (.Slice l u none p2) pos) (tE Γ T W (.slice m a lo hi)) := by
  refine peW (pe_frz (pe_slice (sl_any (m := m)) ha hl hu)) fun σ H Q hh => ?_
  obtain ⟨ρ, ls, h, rl, hr, hq⟩ := hh
  rw [ev] at hq
  refine ⟨ρ, ls, h, rl, hr, PR.bind hq fun d h1 ρ1 v H1 _ e k1 hr1 rd hq1 => ?_⟩
  refine ⟨ρ1, ls, h1, rl.mono k1 e, hr1, PR.bind hq1 fun d2 h2 ρ2 v2 H2 _ e2 k2 hr2 rd2 hq2 => ?_⟩
  refine ⟨ρ2, ls, h2, (rl.mono k1.k e).mono k2.k e2, hr2, PR.bind hq2 fun d3 h3 ρ3 v3 H3 _ e3 k3 hr3 rd3 hq3 => ?_⟩
  cases rd2
  cases rd3
  rw [O.tx]
  exact ⟨Q, W, σ, ρ3, d, h3, rfl, (rd.mono k2.k e2).mono k3.k e3, hr3, hq3⟩

/-! ### calls -/
theorem s_call {m : Bool} {f : Str} {as : FE} {e : Expr} {es : List Expr} {p pos : Pos} (O : Ok T B k S X W) (X0 : Text G T B Γ k) (h1 : isGl S.sc f = true) (h2 : G.fns.contains f = true) (hm : mEs G as S (e :: es) = true) (has : PA X (e :: es) (tEs Γ T W as)) :
    PE X (.Call (.Name f p) (e :: es) [] pos) (tE Γ T W (.call m f as)) := by
  obtain ⟨g1, g2⟩ := isGl_ok O.sc h1
  obtain ⟨a, fd, ps, m1, m2, m3, F⟩ := X0.fns f h2
  have hst : noStar e = true := by
    cases as <;> simp only [mEs] at hm <;> first | (simp at hm; done) | skip
    simp only [Bool.and_eq_true] at hm; exact hm.1.1
  have hpl : (backTo pos (starEach es X.env)).any (·.1) = false := by
    cases as <;> simp only [mEs] at hm <;> first | (simp at hm; done) | skip
    simp only [Bool.and_eq_true] at hm; exact stars_plain hm.2
  obtain rfl : txOf X = T := O.tx
  obtain rfl : X.base = B := O.base
  refine peW (pe_frz (pe_callS F O.room g1 m1 m2 m3 (fun σ => passAt O.takes σ) has g2 (star_cons hst) hpl)) fun σ H Q hh => ?_
  obtain ⟨ρ, ls, h, rl, hr, hq⟩ := hh
  rw [ev] at hq
  refine ⟨ρ, ls, h, rl, hr, PR.bind (gcX_sound hr hq) fun ds h1 ρ1 vs H1 _ e k1 hr1 rds hq1 => ?_⟩
  exact ⟨ρ1, ds, h1, rds, hr1, hq1.imp (fun _ _ q => q) fun _ _ _ q => q⟩

theorem mEs_cons {as : FE} {e : Expr} {es : List Expr} (hm : mEs G as S (e :: es) = true) : noStar e = true ∧ ∀ (env : Env) (pos : Pos), (backTo pos (starEach es env)).any (·.1) = false := by
  cases as <;> simp only [mEs] at hm <;> first | (simp at hm; done) | skip
  simp only [Bool.and_eq_true] at hm; exact ⟨hm.1.1, fun env pos => stars_plain hm.2⟩
theorem s_bcallB {m : Bool} {b : Bt} {x : Str} {id : String} {as : FE} {e : Expr} {es : List Expr} {p pos : Pos} (O : Ok T B k S X W) (X0 : Text G T B Γ k) (h1 : isGl S.sc x = true) (h2 : G.blt.contains x = true) (hm : mEs G as S (e :: es) = true) (has : PA X (e :: es) (tEs Γ T W as))
    (hc : CallR X (.builtin id) (rB (txOf X) (btD m b))) (hb : bootBuiltins x = some (.builtin id)) (hn : x ≠ "__name__") : PE X (.Call (.Name x p) (e :: es) [] pos) (tE Γ T W (.bcall m b as)) := by
  obtain ⟨g1, g2⟩ := isGl_ok O.sc h1
  obtain ⟨n1, n2⟩ := mEs_cons hm
  have hmg : X.mg x = none := by have := X0.blt x h2; rw [← O.tx] at this; exact this
  refine peW (pe_frz (pe_callB hc g1 hmg hb has hn g2 (star_cons n1) (n2 _ _))) fun σ H Q hh => ?_
  obtain ⟨ρ, ls, h, rl, hr, hq⟩ := hh
  rw [ev] at hq
  refine ⟨ρ, ls, h, rl, hr, PR.bind hq fun ds h1 ρ1 vs H1 _ e k1 hr1 rds hq1 => ?_⟩
  rw [O.tx]
  exact ⟨Q, W, σ, ρ1, ds, h1, rfl, rds, hr1, hq1⟩
theorem s_bcallT {m : Bool} {b : Bt} {x : Str} {id : String} {as : FE} {e : Expr} {es : List Expr} {p pos : Pos} (O : Ok T B k S X W) (X0 : Text G T B Γ k) (h1 : isGl S.sc x = true) (h2 : G.blt.contains x = true) (hm : mEs G as S (e :: es) = true) (has : PA X (e :: es) (tEs Γ T W as))
    (hc : CallR X (.type id) (rB (txOf X) (btD m b))) (hb : bootBuiltins x = some (.type id)) (hn : x ≠ "__name__") : PE X (.Call (.Name x p) (e :: es) [] pos) (tE Γ T W (.bcall m b as)) := by
  obtain ⟨g1, g2⟩ := isGl_ok O.sc h1
  obtain ⟨n1, n2⟩ := mEs_cons hm
  have hmg : X.mg x = none := by have := X0.blt x h2; rw [← O.tx] at this; exact this
  refine peW (pe_frz (pe_callTy hc g1 hmg hb has hn g2 (star_cons n1) (n2 _ _))) fun σ H Q hh => ?_
  obtain ⟨ρ, ls, h, rl, hr, hq⟩ := hh
  rw [ev] at hq
  refine ⟨ρ, ls, h, rl, hr, PR.bind hq fun ds h1 ρ1 vs H1 _ e k1 hr1 rds hq1 => ?_⟩
  rw [O.tx]
  exact ⟨Q, W, σ, ρ1, ds, h1, rfl, rds, hr1, hq1⟩
/-- range(a), range(a, b) as an argument -/
def tRgA (ta : TA) : L2.St → Hp → (Int → Int → Hp → Prop) → Prop := fun σ H Q => ta σ H fun vs H1 => (∃ j, vs = [.int j] ∧ Q 0 j H1) ∨ ∃ i j, vs = [.int i, .int j] ∧ Q i j H1
theorem prg_a {e : Expr} {es : List Expr} {ta : TA} {p pos : Pos} (hg : Gl X "range") (hm : X.mg "range" = none) (ha : PA X (e :: es) ta) (hs : noStar e = true) (hpl : (backTo pos (starEach es X.env)).any (·.1) = false) :
    PRg X (.Call (.Name "range" p) (e :: es) [] pos) (tRgA ta) := by
  intro pins s σ H Q I h
  refine Call_ (ld_blt I hg hm boot_range (PyProof.Rows.callWith_type1 (thn (ha.run pos pins s σ H _ I h) fun us s1 ⟨vs, H1, I1, r1, q1⟩ => ?_) (star_cons hs) hpl))
  rcases q1 with ⟨j, e1, q⟩ | ⟨i, j, e1, q⟩
  · subst e1
    obtain ⟨u, rfl, t, rfl⟩ := vals1 r1
    exact call_range_1 ⟨_, 0, j, _, _, _, H1, rfl, IsRange.new _ _ _ _ _ _ _, I1.kept fun b u e => Heap.get?_push_of_some _ e, q⟩
  · subst e1
    obtain ⟨u, w, rfl, ⟨t, rfl⟩, ⟨t', rfl⟩⟩ := vals2 r1
    exact call_range_2 ⟨_, i, j, _, _, _, H1, rfl, IsRange.new _ _ _ _ _ _ _, I1.kept fun b u e => Heap.get?_push_of_some _ e, q⟩
theorem rgV_rd {K : PySem.W.Frag} {H : Hp} {ρ : List Addr} (lo hi : Int) : RDs K H ρ (rangeD lo hi) (rgV lo hi) := by
  unfold rangeD rgV
  generalize (hi - lo).toNat = n
  have key : ∀ l : List Nat, RDs K H ρ (l.map fun i => D.int (lo + (i : Nat))) (l.map fun i => V.int (lo + (i : Nat))) := by
    intro l
    induction l with
    | nil => exact .nil
    | cons a l ih => exact .cons (.int _) ih
  exact key _
theorem s_lrange {m : Bool} {as : FE} {r : Expr} {rs : List Expr} {p p1 pos pos1 : Pos} (O : Ok T B k S X W) (X0 : Text G T B Γ k) (h1 : isGl S.sc ("list" : Str) = true) (h2 : G.blt.contains ("list" : Str) = true) (h3 : isGl S.sc ("range" : Str) = true) (h4 : G.blt.contains ("range" : Str) = true)
    (hm : mEs G as S (r :: rs) = true) (has : PA X (r :: rs) (tEs Γ T W as)) : PE X (.Call (.Name "list" p) [.Call (.Name "range" p1) (r :: rs) [] pos1] [] pos) (tE Γ T W (.bcall m .lrange as)) := by
  obtain ⟨g1, g2⟩ := isGl_ok O.sc h1
  obtain ⟨g3, g4⟩ := isGl_ok O.sc h3
  obtain ⟨n1, n2⟩ := mEs_cons hm
  have m1 : X.mg ("list" : Str) = none := by have := X0.blt _ h2; rw [← O.tx] at this; exact this
  have m2 : X.mg ("range" : Str) = none := by have := X0.blt _ h4; rw [← O.tx] at this; exact this
  refine peW (pe_frz (pe_listRg O.calm g1 m1 (prg_a g3 m2 has n1 (n2 _ _)))) fun σ H Q hh => ?_
  obtain ⟨ρ, ls, h, rl, hr, hq⟩ := hh
  rw [ev] at hq
  refine ⟨ρ, ls, h, rl, hr, PR.bind hq fun ds h1 ρ1 vs H1 _ e k1 hr1 rds hq1 => ?_⟩
  cases rds with
  | nil => exact hq1.elim
  | @cons d v ds vs hd hds =>
    cases hds with
    | nil =>
      cases hd with
      | int j =>
        have hq1 : PR T W σ H1 ρ1 (RAd T.K) Q (if bigOk 0 j then newM m h1 (rangeD 0 j) else .bad) := hq1
        split at hq1
        · rename_i hb
          exact .inl ⟨j, rfl, hb, hq1.newM hr1 (rgV_rd 0 j)⟩
        · exact hq1.elim
      | _ => exact hq1.elim
    | @cons d2 v2 ds vs hd2 hds =>
      cases hds with
      | nil =>
        cases hd with
        | int i =>
          cases hd2 with
          | int j =>
            have hq1 : PR T W σ H1 ρ1 (RAd T.K) Q (if bigOk i j then newM m h1 (rangeD i j) else .bad) := hq1
            split at hq1
            · rename_i hb
              exact .inr ⟨i, j, rfl, hb, hq1.newM hr1 (rgV_rd i j)⟩
            · exact hq1.elim
          | _ => exact hq1.elim
        | _ => exact hq1.elim
      | @cons d3 v3 ds vs hd3 hds => exfalso; revert hq1; cases d <;> first | (exact fun z => z) | (cases d2 <;> exact fun z => z)
theorem s_trange {m : Bool} {as : FE} {r : Expr} {rs : List Expr} {p p1 pos pos1 : Pos} (O : Ok T B k S X W) (X0 : Text G T B Γ k) (h1 : isGl S.sc ("tuple" : Str) = true) (h2 : G.blt.contains ("tuple" : Str) = true) (h3 : isGl S.sc ("range" : Str) = true) (h4 : G.blt.contains ("range" : Str) = true)
    (hm : mEs G as S (r :: rs) = true) (has : PA X (r :: rs) (tEs Γ T W as)) : PE X (.Call (.Name "tuple" p) [.Call (.Name "range" p1) (r :: rs) [] pos1] [] pos) (tE Γ T W (.bcall m .trange as)) := by
  obtain ⟨g1, g2⟩ := isGl_ok O.sc h1
  obtain ⟨g3, g4⟩ := isGl_ok O.sc h3
  obtain ⟨n1, n2⟩ := mEs_cons hm
  have m1 : X.mg ("tuple" : Str) = none := by have := X0.blt _ h2; rw [← O.tx] at this; exact this
  have m2 : X.mg ("range" : Str) = none := by have := X0.blt _ h4; rw [← O.tx] at this; exact this
  refine peW (pe_frz (pe_tupRg O.calm g1 m1 (prg_a g3 m2 has n1 (n2 _ _)))) fun σ H Q hh => ?_
  obtain ⟨ρ, ls, h, rl, hr, hq⟩ := hh
  rw [ev] at hq
  refine ⟨ρ, ls, h, rl, hr, PR.bind hq fun ds h1 ρ1 vs H1 _ e k1 hr1 rds hq1 => ?_⟩
  cases rds with
  | nil => exact hq1.elim
  | @cons d v ds vs hd hds =>
    cases hds with
    | nil =>
      cases hd with
      | int j =>
        have hq1 : PR T W σ H1 ρ1 (RAd T.K) Q (if bigOk 0 j then .ok (.tup (rangeD 0 j)) h1 else .bad) := hq1
        split at hq1
        · rename_i hb
          exact .inl ⟨j, rfl, hb, hq1.newTF hr1 (rgV_rd 0 j)⟩
        · exact hq1.elim
      | _ => exact hq1.elim
    | @cons d2 v2 ds vs hd2 hds =>
      cases hds with
      | nil =>
        cases hd with
        | int i =>
          cases hd2 with
          | int j =>
            have hq1 : PR T W σ H1 ρ1 (RAd T.K) Q (if bigOk i j then .ok (.tup (rangeD i j)) h1 else .bad) := hq1
            split at hq1
            · rename_i hb
              exact .inr ⟨i, j, rfl, hb, hq1.newTF hr1 (rgV_rd i j)⟩
            · exact hq1.elim
          | _ => exact hq1.elim
        | _ => exact hq1.elim
      | @cons d3 v3 ds vs hd3 hds => exfalso; revert hq1; cases d <;> first | (exact fun z => z) | (cases d2 <;> exact fun z => z)
/-- o.m(e), o.m() of a list -/
theorem s_bmeth1 {m : Bm} {o as : FE} {eo e : Expr} {id : String} {apos cpos : Pos} {r : V → List V → Hp → VK → Prop} (O : Ok T B k S X W) (hc : noCall eo = true) (hl : (apos.endLine == cpos.line) = true) (hm : mEs G as S [e] = true) (ho : PE X eo (tE Γ T W o)) (has : PA X [e] (tEs Γ T W as))
    (slot : Slot "list" (bmName m) id) (hty : typeOf (.builtin id) = pure (.type "method_descriptor")) (hr : MtR X id r) (hrr : ∀ x xs H Q, xs ≠ [] → rM (txOf X) m x xs H Q → r x xs H Q) :
    PE X (.Call (.Attribute eo (bmName m) apos) [e] [] cpos) (tE Γ T W (.bmeth m o as)) := by
  obtain ⟨n1, n2⟩ := mEs_cons hm
  have hfew : ((backTo cpos (starEach [e] X.env)).all (fun x => !x.1) && (backToKw cpos (keywordEach [] X.env)).all (fun x => x.1.isSome) && decide ([e].length + ([] : List Keyword).length + (if ([] : List Keyword).isEmpty then 0 else 1) < 30)) = true := by
    rw [star_cons n1]; rfl
  refine peW (pe_bm PySem.F.plainAttrs_list slot hty hr ho has (call_base hc) hfew hl (star_cons n1) (n2 _ _)) fun σ H Q hh => ?_
  obtain ⟨ρ, ls, h, rl, hr, hq⟩ := hh
  rw [ev] at hq
  refine ⟨ρ, ls, h, rl, hr, PR.bind hq fun d h1 ρ1 v H1 _ e k1 hr1 rd hq1 => ?_⟩
  have hK : X.K = T.K := congrArg Tx.K O.tx
  split at hq1
  · rename_i hi
    have ty : tyV T.K "list" v H1 := by
      cases d with
      | loc n =>
        obtain ⟨xs, hx⟩ := Option.isSome_iff_exists.mp (show (mlstAt h1 n).isSome = true from hi)
        unfold mlstAt at hx
        split at hx
        · rename_i ys hy; exact ty_list hr1 rd rfl hy
        · cases hx
      | _ => cases hi
    rw [hK]
    refine ⟨ty, ρ1, ls, h1, rl.mono k1 e, hr1, PR.bind hq1 fun ds h2 ρ2 vs H2 ee e2 k2 hr2 rds hq2 => ?_⟩
    refine hrr _ _ _ _ ?_ (by rw [O.tx]; exact ⟨W, σ, ρ2, d, ds, h2, rd.mono k2 e2, rds, hr2, hq2⟩)
    intro z
    subst z
    cases rds
    cases as <;> simp only [mEs] at hm <;> first | (simp at hm; done) | skip
    rename_i a as'
    rw [evs] at ee
    cases q : ev Γ a ls h1 with
    | bad => rw [q] at ee; cases ee
    | exc _ _ _ => rw [q] at ee; cases ee
    | ok x h' =>
      rw [q] at ee
      simp only [R.bind_ok] at ee
      cases q2 : evs Γ as' ls h' with
      | bad => rw [q2] at ee; cases ee
      | exc _ _ _ => rw [q2] at ee; cases ee
      | ok xs h'' => rw [q2] at ee; simp at ee
  · exact hq1.elim
theorem s_bmeth0 {m : Bm} {o as : FE} {eo : Expr} {id : String} {apos cpos : Pos} {r : V → List V → Hp → VK → Prop} (O : Ok T B k S X W) (hc : noCall eo = true) (hl : (apos.endLine == cpos.line) = true) (hm : mEs G as S [] = true) (ho : PE X eo (tE Γ T W o))
    (slot : Slot "list" (bmName m) id) (hty : typeOf (.builtin id) = pure (.type "method_descriptor")) (hr : MtR X id r) (hrr : ∀ x H Q, rM (txOf X) m x [] H Q → r x [] H Q) :
    PE X (.Call (.Attribute eo (bmName m) apos) [] [] cpos) (tE Γ T W (.bmeth m o as)) := by
  refine peW (pe_bm0 PySem.F.plainAttrs_list slot hty hr ho (call_base hc) hl) fun σ H Q hh => ?_
  obtain ⟨ρ, ls, h, rl, hr, hq⟩ := hh
  rw [ev] at hq
  refine ⟨ρ, ls, h, rl, hr, PR.bind hq fun d h1 ρ1 v H1 _ e k1 hr1 rd hq1 => ?_⟩
  have hK : X.K = T.K := congrArg Tx.K O.tx
  split at hq1
  · rename_i hi
    have ty : tyV T.K "list" v H1 := by
      cases d with
      | loc n =>
        obtain ⟨xs, hx⟩ := Option.isSome_iff_exists.mp (show (mlstAt h1 n).isSome = true from hi)
        unfold mlstAt at hx
        split at hx
        · rename_i ys hy; exact ty_list hr1 rd rfl hy
        · cases hx
      | _ => cases hi
    rw [hK]
    cases as <;> simp only [mEs] at hm <;> first | (simp at hm; done) | skip
    rw [evs] at hq1
    exact ⟨ty, hrr _ _ _ (by rw [O.tx]; exact ⟨W, σ, ρ1, d, [], h1, rd, .nil, hr1, hq1⟩)⟩
  · exact hq1.elim
end

/-! ### what is walked -/
/-- a result, then what follows, over FL's state and the layer's -/
def PK {α : Type} (T : Tx) (W : WX) (σ : L2.St) (H : Hp) (ρ : List Addr) (K : α → Hs → List Addr → Hp → Prop) : R α → Prop
  | .ok a h => ∀ (ρ' : List Addr) (H' : Hp), Ext ρ ρ' → KF H ρ H' ρ' → HR T H' ρ' h → K a h ρ' H'
  | .exc c fs h => ∀ (ρ' : List Addr) (cls : Value) (dx : Option Addr) (H' : Hp), Ext ρ ρ' → KF H ρ H' ρ' → HR T H' ρ' h → XR T H' ρ' c fs cls dx → W cls dx σ H'
  | .bad => False
section
variable {α β γ : Type} {T : Tx} {W : WX} {σ : L2.St} {H H1 : Hp} {ρ ρ1 : List Addr} {K : α → Hs → List Addr → Hp → Prop} {K1 : γ → Hs → List Addr → Hp → Prop} {RA : Hp → List Addr → α → β → Prop} {Q : β → Hp → Prop}
theorem PK.after {r : R α} (h : PK T W σ H ρ K r) (e : Ext ρ ρ1) (k : KF H ρ H1 ρ1) : PK T W σ H1 ρ1 K r := by
  cases r with
  | ok a h' => exact fun ρ' H' e' k' => h ρ' H' (e.trans e') (k.trans k')
  | exc c fs h' => exact fun ρ' cls dx H' e' k' => h ρ' cls dx H' (e.trans e') (k.trans k')
  | bad => exact h
/-- one step by the layer's reading of it, then what follows -/
theorem PK.bindR {r : R α} {f : α → Hs → R γ} (hp : PK T W σ H ρ K1 (r.bind f))
    (k : ∀ (a : α) (h1 : Hs) (ρ1 : List Addr) (b : β) (H1 : Hp), r = .ok a h1 → Ext ρ ρ1 → KF H ρ H1 ρ1 → HR T H1 ρ1 h1 → RA H1 ρ1 a b → PK T W σ H1 ρ1 K1 (f a h1) → Q b H1) : PR T W σ H ρ RA Q r := by
  cases r with
  | ok a h' => exact fun ρ' b H' e' k' hr ra => k a h' ρ' b H' rfl e' k' hr ra (hp.after e' k')
  | exc c fs h' => exact hp
  | bad => exact hp
theorem PK.bind {r : R α} {f : α → Hs → R γ} (hp : PK T W σ H ρ K1 (r.bind f))
    (k : ∀ (a : α) (h1 : Hs) (ρ1 : List Addr) (H1 : Hp), r = .ok a h1 → Ext ρ ρ1 → KF H ρ H1 ρ1 → HR T H1 ρ1 h1 → PK T W σ H1 ρ1 K1 (f a h1) → K a h1 ρ1 H1) : PK T W σ H ρ K r := by
  cases r with
  | ok a h' => exact fun ρ' H' e' k' hr => k a h' ρ' H' rfl e' k' hr (hp.after e' k')
  | exc c fs h' => exact hp
  | bad => exact hp
theorem PR.bindK {δ : Type} {RC : Hp → List Addr → γ → δ → Prop} {Q1 : δ → Hp → Prop} {r : R α} {f : α → Hs → R γ} (hp : PR T W σ H ρ RC Q1 (r.bind f))
    (k : ∀ (a : α) (h1 : Hs) (ρ1 : List Addr) (H1 : Hp), r = .ok a h1 → Ext ρ ρ1 → KF H ρ H1 ρ1 → HR T H1 ρ1 h1 → PR T W σ H1 ρ1 RC Q1 (f a h1) → K a h1 ρ1 H1) : PK T W σ H ρ K r := by
  cases r with
  | ok a h' => exact fun ρ' H' e' k' hr => k a h' ρ' H' rfl e' k' hr (hp.after e' k')
  | exc c fs h' => exact hp
  | bad => exact hp
theorem PK.ok {a : α} {h : Hs} (hp : PK T W σ H ρ K (.ok a h)) (hr : HR T H ρ h) : K a h ρ H := hp ρ H (Ext.refl _) (KF.refl _ _) hr
theorem PK.ofO {a : Option α} {h : Hs} (hp : PK T W σ H ρ K (R.ofO h a)) : ∃ x, a = some x ∧ PK T W σ H ρ K (.ok x h) := by
  cases a with
  | none => exact hp.elim
  | some x => exact ⟨x, rfl, hp⟩
end
/-- the layer's walk J yields FL's items, as long as the cells ns are as they were -/
structure Walk (T : Tx) (J : It) (items : List D) (ns : List Nat) (h0 : Hs) (ρ0 : List Addr) (H0 : Hp) : Prop where
  go : ∀ (i : Nat) (ρ : List Addr) (H : Hp) (h : Hs), HR T H ρ h → Ext ρ0 ρ → Keeps H0 H → same ns h0 h → i < items.length → J.go i H
  yld : ∀ (i : Nat) (ρ : List Addr) (H : Hp) (h : Hs) (x : V) (H' : Hp) (d : D), HR T H ρ h → Ext ρ0 ρ → Keeps H0 H → same ns h0 h → items[i]? = some d → J.yld i H x H' → Same H H' ∧ RD T.K H' ρ d x
  stop : ∀ (ρ : List Addr) (H : Hp) (h : Hs), HR T H ρ h → Ext ρ0 ρ → Keeps H0 H → same ns h0 h → J.stop items.length H
def tI (Γ : Cfg) (T : Tx) (W : WX) (fe : FE) : TI := fun σ H R => ∃ ρ ls h, RL T.K H ρ ls σ ∧ HR T H ρ h ∧ PK T W σ H ρ (fun w h1 ρ1 H1 => ∀ J, Walk T J w.1 w.2 h1 ρ1 H1 → R J H1) (evI Γ fe ls h)
theorem sameKeeps {H H' : Hp} (s : Same H H') : Keeps H H' := ⟨fun a xs q => by
  rcases q with q | ⟨o, q⟩
  · exact .inl (s _ _ q)
  · exact .inr ⟨o, s _ _ q⟩, fun a o u q => s _ _ q⟩
theorem same_lst {T : Tx} {H : Hp} {ρ0 ρ : List Addr} {h0 h : Hs} {n : Nat} {p : Addr} {xs : List D} (hr : HR T H ρ h) (e : Ext ρ0 ρ) (hp : ρ0[n]? = some p) (hx : lstAt h0 n = some xs) (hs : h[n]? = h0[n]?) : ∃ vs, SqL T.K H p vs ∧ RDs T.K H ρ xs vs :=
  hr.lst (e n p hp) (by unfold lstAt at hx ⊢; rw [hs]; exact hx)
theorem sqL_inj {T : Tx} {H : Hp} {p : Addr} {xs ys : List V} {X : Cx} {pins : List (Addr × Obj)} {σ : L2.St} {s : Shared} (I : Inv X pins σ H s) (h1 : SqL X.K H p xs) (h2 : SqL X.K H p ys) : xs = ys := I.list_inj h1 h2
theorem walk_list {T : Tx} {h0 : Hs} {ρ0 : List Addr} {H0 : Hp} {n : Nat} {p : Addr} {xs : List D} (hp : ρ0[n]? = some p) (hx : lstAt h0 n = some xs) : Walk T (Itl T.K p) xs [n] h0 ρ0 H0 where
  go := fun i ρ H h hr e _ hs hi => by
    obtain ⟨vs, g1, g2⟩ := same_lst hr e hp hx (hs n (by simp))
    exact ⟨vs, vs[i]'(by rw [← g2.length]; exact hi), g1, List.getElem?_eq_getElem _⟩
  yld := fun i ρ H h x H' d hr e _ hs hd hy => by
    obtain ⟨vs, g1, g2⟩ := same_lst hr e hp hx (hs n (by simp))
    obtain ⟨e1, hy⟩ := hy
    subst e1
    obtain ⟨v, q1, q2⟩ := g2.get hd
    rw [hy vs g1] at q1; cases q1
    exact ⟨Same.refl _, q2⟩
  stop := fun ρ H h hr e _ hs => by
    obtain ⟨vs, g1, g2⟩ := same_lst hr e hp hx (hs n (by simp))
    exact ⟨vs, g1, by rw [g2.length]; exact Nat.le_refl _⟩
theorem walk_tup {T : Tx} {h0 : Hs} {ρ0 : List Addr} {H0 : Hp} {p : Addr} {xs : List D} {vs : List V} (g1 : SqT T.K H0 p vs) (g2 : RDs T.K H0 ρ0 xs vs) : Walk T (Itt T.K p) xs [] h0 ρ0 H0 where
  go := fun i ρ H h hr e k hs hi => ⟨vs, vs[i]'(by rw [← g2.length]; exact hi), k.sqT g1, List.getElem?_eq_getElem _⟩
  yld := fun i ρ H h x H' d hr e k hs hd hy => by
    obtain ⟨e1, hy⟩ := hy
    subst e1
    obtain ⟨v, q1, q2⟩ := g2.get hd
    rw [hy vs (k.sqT g1)] at q1; cases q1
    exact ⟨Same.refl _, q2.mono k e⟩
  stop := fun ρ H h hr e k hs => ⟨vs, k.sqT g1, by rw [g2.length]; exact Nat.le_refl _⟩
theorem walk_fl {T : Tx} {h0 : Hs} {ρ0 : List Addr} {H0 : Hp} {p : Addr} {o : Obj} {xs : List D} {vs : List V} (g1 : H0 p = some (.frz o (.lst vs))) (g2 : RDs T.K H0 ρ0 xs vs) : Walk T (Itl T.K p) xs [] h0 ρ0 H0 where
  go := fun i ρ H h hr e k hs hi => ⟨vs, vs[i]'(by rw [← g2.length]; exact hi), .inl (.inr ⟨o, k.2 _ _ _ g1⟩), List.getElem?_eq_getElem _⟩
  yld := fun i ρ H h x H' d hr e k hs hd hy => by
    obtain ⟨e1, hy⟩ := hy
    subst e1
    obtain ⟨v, q1, q2⟩ := g2.get hd
    rw [hy vs (.inl (.inr ⟨o, k.2 _ _ _ g1⟩))] at q1; cases q1
    exact ⟨Same.refl _, q2.mono k e⟩
  stop := fun ρ H h hr e k hs => ⟨vs, .inl (.inr ⟨o, k.2 _ _ _ g1⟩), by rw [g2.length]; exact Nat.le_refl _⟩
theorem walk_fd {T : Tx} {h0 : Hs} {ρ0 : List Addr} {H0 : Hp} {p : Addr} {o : Obj} {ks : List D} {gs : List (L2.Key × V)} (g1 : H0 p = some (.frz o (.dK gs))) (g2 : ks.map scalK = gs.map (fun p => some p.1)) : Walk T (Itk p o gs) ks [] h0 ρ0 H0 where
  go := fun i ρ H h hr e k hs hi => ⟨k.2 _ _ _ g1, by have := congrArg List.length g2; simp at this; omega⟩
  yld := fun i ρ H h x H' d hr e k hs hd hy => by
    obtain ⟨e1, kk, v, q1, rfl⟩ := hy
    subst e1
    have q2 : (ks.map scalK)[i]? = (gs.map (fun p => some p.1))[i]? := by rw [g2]
    rw [List.getElem?_map, List.getElem?_map, hd, q1] at q2
    exact ⟨Same.refl _, scal_rd (Option.some.inj q2)⟩
  stop := fun ρ H h hr e k hs => ⟨k.2 _ _ _ g1, by have := congrArg List.length g2; simp at this; omega⟩
theorem walk_range {T : Tx} {h0 : Hs} {ρ0 : List Addr} {H0 : Hp} (lo hi : Int) : Walk T (Itr lo (hi - lo).toNat) (rangeD lo hi) [] h0 ρ0 H0 where
  go := fun i ρ H h hr e k hs hi => by unfold rangeD at hi; rw [List.length_map, List.length_range] at hi; exact hi
  yld := fun i ρ H h x H' d hr e k hs hd hy => by
    obtain ⟨e1, hy⟩ := hy
    subst e1 hy
    unfold rangeD at hd
    rw [List.getElem?_map] at hd
    obtain ⟨j, q1, rfl⟩ := Option.map_eq_some_iff.mp hd
    obtain ⟨q2, q3⟩ := List.getElem?_eq_some_iff.mp q1
    rw [List.getElem_range] at q3
    subst q3
    exact ⟨Same.refl _, .int _⟩
  stop := fun ρ H h hr e k hs => by show _ ≤ _; unfold rangeD; rw [List.length_map, List.length_range]; exact Nat.le_refl _
section
variable {G : Sg} {T : Tx} {B : Heap} {Γ : Cfg} {k : Nat} {S : Sx} {X : Cx} {W : WX} {tg : Expr}
theorem i_seq {a : FE} {e : Expr} (O : Ok T B k S X W) (ha : PE X e (tE Γ T W a)) : PI X tg e (tI Γ T W (.iseq a)) := by
  refine ⟨fun pins s σ H RJ I hh => ?_⟩
  obtain ⟨ρ, ls, h, rl, hr, hq⟩ := hh
  rw [evI] at hq
  have hK : X.K = T.K := congrArg Tx.K O.tx
  cases q : ev Γ a ls h with
  | bad => rw [q] at hq; exact hq.elim
  | exc c fs h' =>
    rw [q] at hq
    exact (pi_list ha).run pins s σ H RJ I ⟨ρ, ls, h, rl, hr, by rw [q]; exact hq⟩
  | ok d h1 =>
    rw [q] at hq
    simp only [R.bind_ok] at hq
    obtain ⟨z, ez, hq⟩ := hq.ofO
    obtain ⟨xs, hx, rfl⟩ := Option.map_eq_some_iff.mp ez
    cases d with
    | loc n =>
      refine (pi_list ha).run pins s σ H RJ I ⟨ρ, ls, h, rl, hr, by
        rw [q]
        intro ρ1 v H1 e k1 hr1 rd
        cases rd with
        | @loc _ p hp =>
          obtain ⟨vs, g1, g2⟩ := hr1.lst hp hx
          rw [hK]
          exact ⟨p, rfl, ⟨vs, g1⟩, hq ρ1 H1 e k1 hr1 _ (walk_list hp hx)⟩⟩
    | tup ys =>
      refine (pi_tup ha).run pins s σ H RJ I ⟨ρ, ls, h, rl, hr, by
        rw [q]
        intro ρ1 v H1 e k1 hr1 rd
        cases hx
        cases rd with
        | @tup _ p vs g1 g2 =>
          rw [hK]
          exact ⟨p, rfl, ⟨vs, g1⟩, hq ρ1 H1 e k1 hr1 _ (walk_tup g1 g2)⟩⟩
    | fl ys =>
      refine (pi_list ha).run pins s σ H RJ I ⟨ρ, ls, h, rl, hr, by
        rw [q]
        intro ρ1 v H1 e k1 hr1 rd
        cases hx
        cases rd with
        | @fl _ p vs o g1 g2 =>
          rw [hK]
          exact ⟨p, rfl, ⟨vs, .inl (.inr ⟨o, g1⟩)⟩, hq ρ1 H1 e k1 hr1 _ (walk_fl g1 g2)⟩⟩
    | fd ys zs =>
      refine (pi_keys ha).run pins s σ H RJ I ⟨ρ, ls, h, rl, hr, by
        rw [q]
        intro ρ1 v H1 e k1 hr1 rd
        cases hx
        cases rd with
        | @fd _ _ p gs us o g1 g2 g3 g4 =>
          exact ⟨p, o, rfl, .inl ⟨gs, g1, hq ρ1 H1 e k1 hr1 _ (walk_fd g1 g2)⟩⟩⟩
    | _ => cases hx
theorem i_range {as : FE} {e : Expr} {es : List Expr} {p pos : Pos} (O : Ok T B k S X W) (X0 : Text G T B Γ k) (h3 : isGl S.sc ("range" : Str) = true) (h4 : G.blt.contains ("range" : Str) = true) (hm : mEs G as S (e :: es) = true) (has : PA X (e :: es) (tEs Γ T W as)) :
    PI X tg (.Call (.Name "range" p) (e :: es) [] pos) (tI Γ T W (.irange as)) := by
  obtain ⟨g3, g4⟩ := isGl_ok O.sc h3
  obtain ⟨n1, n2⟩ := mEs_cons hm
  have m2 : X.mg ("range" : Str) = none := by have := X0.blt _ h4; rw [← O.tx] at this; exact this
  refine ⟨fun pins s σ H RJ I hh => ?_⟩
  obtain ⟨ρ, ls, h, rl, hr, hq⟩ := hh
  rw [evI] at hq
  refine Call_ (ld_blt I g3 m2 boot_range (PyProof.Rows.callWith_type1 (thn (has.run pos pins s σ H (fun vs H1 => (∃ j, vs = [.int j] ∧ small j ∧ RJ (Itr 0 j.toNat) H1) ∨ ∃ i j, vs = [.int i, .int j] ∧ small i ∧ small j ∧ RJ (Itr i (j - i).toNat) H1) I
    ⟨ρ, ls, h, rl, hr, PK.bindR hq fun ds h1 ρ1 vs H1 _ e k1 hr1 rds hq1 => ?_⟩) fun us s1 ⟨vs, H1, I1, r1, q1⟩ => ?_) (star_cons n1) (n2 _ _)))
  · cases rds with
    | nil => exact hq1.elim
    | @cons d v ds vs hd hds =>
      cases hds with
      | nil =>
        cases hd with
        | int j =>
          have hq1 : PK T W σ H1 ρ1 _ (if small j then R.ok (rangeD 0 j, ([] : List Nat)) h1 else .bad) := hq1
          split at hq1
          · rename_i hb
            refine .inl ⟨j, rfl, hb, PK.ok hq1 hr1 _ ?_⟩
            have := walk_range (T := T) (h0 := h1) (ρ0 := ρ1) (H0 := H1) 0 j
            rw [Int.sub_zero] at this
            exact this
          · exact hq1.elim
        | _ => exact hq1.elim
      | @cons d2 v2 ds vs hd2 hds =>
        cases hds with
        | nil =>
          cases hd with
          | int i =>
            cases hd2 with
            | int j =>
              have hq1 : PK T W σ H1 ρ1 _ (if small i ∧ small j then R.ok (rangeD i j, ([] : List Nat)) h1 else .bad) := hq1
              split at hq1
              · rename_i hb
                exact .inr ⟨i, j, rfl, hb.1, hb.2, PK.ok hq1 hr1 _ (walk_range i j)⟩
              · exact hq1.elim
            | _ => exact hq1.elim
          | _ => exact hq1.elim
        | @cons d3 v3 ds vs hd3 hds => exfalso; revert hq1; cases d <;> first | (exact fun z => z) | (cases d2 <;> exact fun z => z)
  · rcases q1 with ⟨j, e1, b, q⟩ | ⟨i, j, e1, b1, b2, q⟩
    · subst e1
      obtain ⟨u, rfl, t, rfl⟩ := vals1 r1
      exact call_range_1 (range_it I1 (by omega) (by omega) b.1 b.2 (by simpa using q))
    · subst e1
      obtain ⟨u, w, rfl, ⟨t, rfl⟩, ⟨t', rfl⟩⟩ := vals2 r1
      exact call_range_2 (range_it I1 b1.1 b1.2 b2.1 b2.2 q)
end
end FL
set_option autoImplicit false
set_option linter.all false
set_option maxRecDepth 100000
/-! FL, part E: targets, comprehensions. -/
namespace FL
open PySem L2 PyProof.Rows PySem.SeqAt

def only (l : List Nat) (σ σ' : L2.St) : Prop := σ'.length = σ.length ∧ ∀ j, j ∉ l → σ'[j]? = σ[j]?
theorem only.refl (l : List Nat) (σ : L2.St) : only l σ σ := ⟨rfl, fun _ _ => rfl⟩
theorem only.trans {l l1 l2 : List Nat} {σ σ1 σ2 : L2.St} (h1 : only l1 σ σ1) (h2 : only l2 σ1 σ2) (s1 : ∀ j ∈ l1, j ∈ l) (s2 : ∀ j ∈ l2, j ∈ l) : only l σ σ2 :=
  ⟨h2.1.trans h1.1, fun j hj => (h2.2 j fun z => hj (s2 j z)).trans (h1.2 j fun z => hj (s1 j z))⟩
theorem wipe_get (σ : L2.St) (j : Nat) : ∀ vs : List Nat, (L2.wipe σ vs)[j]? = if j ∈ vs ∧ j < σ.length then some none else σ[j]?
  | [] => by simp [L2.wipe]
  | v :: vs => by
    unfold L2.wipe
    by_cases hv : v = j
    · subst hv
      by_cases hl : v < σ.length
      · rw [List.getElem?_set_self (by rw [L2.wipe_length]; exact hl), if_pos ⟨by simp, hl⟩]
      · rw [List.getElem?_eq_none (by rw [List.length_set, L2.wipe_length]; omega), if_neg (fun z => hl z.2), List.getElem?_eq_none (by omega)]
    · rw [List.getElem?_set_ne hv, wipe_get σ j vs]
      have : (j ∈ v :: vs) ↔ (j ∈ vs) := by simp [Ne.symm hv]
      simp only [this]
theorem wipe_only {l vs : List Nat} {σ σ2 : L2.St} (h : only l (L2.wipe σ vs) σ2) (hs : ∀ j ∈ l, j ∈ vs) : L2.wipe σ2 vs = L2.wipe σ vs := by
  have hl : σ2.length = σ.length := by rw [h.1, L2.wipe_length]
  refine List.ext_getElem? fun j => ?_
  rw [wipe_get, wipe_get, hl]
  by_cases hj : j ∈ vs
  · by_cases hl2 : j < σ.length
    · rw [if_pos ⟨hj, hl2⟩, if_pos ⟨hj, hl2⟩]
    · rw [if_neg (fun z => hl2 z.2), if_neg (fun z => hl2 z.2), List.getElem?_eq_none (by omega), List.getElem?_eq_none (by omega)]
  · rw [if_neg (fun z => hj z.1), if_neg (fun z => hj z.1), h.2 j (fun z => hj (hs j z)), wipe_get, if_neg (fun z => hj z.1)]

def tG (T : Tx) (t : FT) : TG := fun v σ H Q => ∃ ρ ls d ls2, RL T.K H ρ ls σ ∧ RD T.K H ρ d v ∧ asgT t d ls = some ls2 ∧ ∀ σ2, RL T.K H ρ ls2 σ2 → only (ftSlots t) σ σ2 → Q σ2 H
def tGs (T : Tx) (t : FT) : TGs := fun vs σ H Q => ∃ ρ ls ds ls2, RL T.K H ρ ls σ ∧ RDs T.K H ρ ds vs ∧ asgTs t ds ls = some ls2 ∧ ∀ σ2, RL T.K H ρ ls2 σ2 → only (ftSlots t) σ σ2 → Q σ2 H
section
variable {G : Sg} {T : Tx} {B : Heap} {Γ : Cfg} {k : Nat} {S : Sx} {X : Cx} {W : WX}
theorem pgW {e : Expr} {t t' : TG} (h : PG X e t) (w : ∀ v σ H Q, t' v σ H Q → t v σ H Q) : PG X e t' := ⟨fun pins s σ H v u Q I r q => h.run pins s σ H v u Q I r (w v σ H Q q)⟩
theorem pgsW {e : List Expr} {t t' : TGs} (h : PGs X e t) (w : ∀ v σ H Q, t' v σ H Q → t v σ H Q) : PGs X e t' := ⟨fun pins s σ H v u Q I r q => h.run pins s σ H v u Q I r (w v σ H Q q)⟩
theorem mTs_star : ∀ {ts : FT} {es : List Expr}, mT.mTs S ts es = true → (∀ env : Env, (assignEach es env).length = es.length ∧ (assignEach es env).findIdx? (·.1) = none) ∧ ∀ (xs : List D) (ls ls2 : Ls), asgTs ts xs ls = some ls2 → xs.length = es.length := by
  intro ts
  induction ts with
  | tnil =>
    intro es h
    cases es with
    | nil => exact ⟨fun env => ⟨rfl, rfl⟩, fun xs ls ls2 e => by cases xs <;> first | rfl | (simp [asgTs] at e)⟩
    | cons => simp [mT.mTs] at h
  | tcons t ts _ ih =>
    intro es h
    cases es with
    | nil => simp [mT.mTs] at h
    | cons e es =>
      simp only [mT.mTs, Bool.and_eq_true] at h
      obtain ⟨⟨h1, h2⟩, h3⟩ := h
      obtain ⟨i1, i2⟩ := ih h3
      refine ⟨fun env => ?_, fun xs ls ls2 e => ?_⟩
      · rw [assign_cons h1]
        obtain ⟨j1, j2⟩ := i1 env
        refine ⟨by rw [List.length_cons, List.length_cons, j1], ?_⟩
        rw [List.findIdx?_cons]
        simp [j2]
      · cases xs with
        | nil => simp [asgTs] at e
        | cons x xs =>
          simp only [asgTs] at e
          obtain ⟨ls', _, e2⟩ := Option.bind_eq_some_iff.mp e
          rw [List.length_cons, List.length_cons, i2 xs ls' ls2 e2]
  | name i => intro es h; cases es <;> simp [mT.mTs] at h
  | tup ts _ => intro es h; cases es <;> simp [mT.mTs] at h
theorem g_ok (O : Ok T B k S X W) : ∀ t : FT, (∀ e, mT S t e = true → PG X e (tG T t)) ∧ (∀ es, mT.mTs S t es = true → PGs X es (tGs T t)) := by
  have hK : X.K = T.K := congrArg Tx.K O.tx
  intro t
  induction t with
  | name i =>
    refine ⟨fun e h => ?_, fun es h => by cases es <;> simp [mT.mTs] at h⟩
    cases e <;> first | (simp [mT] at h; done) | skip
    rename_i x pos
    simp only [mT, Bool.and_eq_true, decide_eq_true_eq] at h
    obtain ⟨l1, l2⟩ := isLoc_ok O.sc O.fn h.2
    refine pgW (pg_name (i := i) O.nd (by rw [O.N]; exact h.1) l1 l2) fun v σ H Q hh => ?_
    obtain ⟨ρ, ls, d, ls2, rl, rd, ea, q⟩ := hh
    simp only [asgT] at ea
    split at ea
    · cases ea
      exact q _ (rl.set rd i) ⟨List.length_set, fun j hj => List.getElem?_set_ne (by simp [ftSlots] at hj; exact fun z => hj z.symm)⟩
    · cases ea
  | tup ts ih =>
    refine ⟨fun e h => ?_, fun es h => by cases es <;> simp [mT.mTs] at h⟩
    cases e <;> first | (simp [mT] at h; done) | skip
    rename_i es n pos
    simp only [mT] at h
    obtain ⟨s1, s2⟩ := mTs_star h
    refine pgW (pg_tup O.calm (ih.2 es h) (s1 _).1 (s1 _).2) fun v σ H Q hh => ?_
    obtain ⟨ρ, ls, d, ls2, rl, rd, ea, q⟩ := hh
    cases rd with
    | @tup xs p vs g1 g2 =>
      simp only [asgT] at ea
      rw [hK]
      exact ⟨p, vs, rfl, g1, by rw [← g2.length]; exact s2 _ _ _ ea, ρ, ls, xs, ls2, rl, g2, ea, q⟩
    | _ => cases ea
  | tnil =>
    refine ⟨fun e h => by cases e <;> simp [mT] at h, fun es h => ?_⟩
    cases es with
    | cons => simp [mT.mTs] at h
    | nil =>
      refine pgsW pgs_nil fun vs σ H Q hh => ?_
      obtain ⟨ρ, ls, ds, ls2, rl, rds, ea, q⟩ := hh
      cases rds with
      | nil => cases ea; exact ⟨rfl, q _ rl (only.refl _ _)⟩
      | cons => cases ea
  | tcons t ts iht ihts =>
    refine ⟨fun e h => by cases e <;> simp [mT] at h, fun es h => ?_⟩
    cases es with
    | nil => simp [mT.mTs] at h
    | cons e es =>
      simp only [mT.mTs, Bool.and_eq_true] at h
      obtain ⟨⟨h1, h2⟩, h3⟩ := h
      refine pgsW (pgs_cons (iht.1 e h2) (ihts.2 es h3) (by rw [assign_cons h1]; rfl)) fun vs σ H Q hh => ?_
      obtain ⟨ρ, ls, ds, ls2, rl, rds, ea, q⟩ := hh
      cases rds with
      | nil => cases ea
      | @cons d v ds vs hd hds =>
        simp only [asgTs] at ea
        obtain ⟨ls', e1, e2⟩ := Option.bind_eq_some_iff.mp ea
        refine ⟨v, vs, rfl, ρ, ls, d, ls', rl, hd, e1, fun σ2 rl2 o2 => ⟨ρ, ls', ds, ls2, rl2, hds, e2, fun σ3 rl3 o3 => q σ3 rl3 ?_⟩⟩
        exact o2.trans o3 (fun j hj => by simp [ftSlots, hj]) (fun j hj => by simp [ftSlots, hj])

/-! ### list comprehensions -/
abbrev WN : WX := fun _ _ _ _ => False
theorem Ok.blk (O : Ok T B k S X W) (scope : Scope) (s : Shared) (H : Hp) (C : Addr) (cl : List (Str × Addr)) (fp : List Addr) : Ok T B k (FL.blk S scope) (X.blk s H scope (compEnvC scope cl C X.env) fp) WN where
  tx := O.tx
  base := O.base
  N := O.N
  sc := by show relS scope X.env.scope = relS scope S.sc; rw [O.sc]
  fn := rfl
  nd := O.nd
  calm := O.calm
  takes := fun u s' ⟨_, _, _, _, _, _, _, _, _, _, _, _, _, _, _, _, z⟩ => z.elim
  room := O.room
  own := PassesOwn.never
/-- a list that FL doesn't see grows -/
theorem HR.grow {H : Hp} {ρ : List Addr} {h : Hs} (r : HR T H ρ h) {D : Addr} {xs ys : List V} (hD : H D = some (.lst xs)) (hn : ∀ n : Nat, n ≠ 0 → ρ[n]? ≠ some D) : HR T (upd H D (.lst ys)) ρ h ∧ Keeps H (upd H D (.lst ys)) := by
  have k : Keeps H (upd H D (.lst ys)) := Keeps.put hD (fun _ => nofun) (fun _ _ => nofun)
  refine ⟨⟨r.len, fun n c a h1 h2 => ?_, r.inj, r.pos, r.zc⟩, k⟩
  have cr := r.at_ n c a h1 h2
  by_cases ha : a = D
  · subst ha
    have n0 : n = 0 := Decidable.byContradiction fun z => hn n z h2
    have := (r.zc n c h1).mpr n0
    cases c with
    | flst ds =>
      obtain ⟨vs, g1, g2⟩ := cr
      refine ⟨vs, ?_, g2.mono k (Ext.refl _)⟩
      rcases g1 with ⟨ob, g1⟩ | g1
      · rw [hD] at g1; cases g1
      · exact .inr g1
    | _ => cases this
  · exact cr.mono k (Ext.refl _) fun o e => by rw [upd_ne ha]; exact e
/-- a new object stands at no cell but the first -/
theorem HR.fresh {H : Hp} {ρ : List Addr} {h : Hs} (r : HR T H ρ h) {D : Addr} (hD : H D = none) : ∀ n : Nat, n ≠ 0 → ρ[n]? ≠ some D := fun n hn e => by
  obtain ⟨c, hc, cr⟩ := r.get e
  have hm : c.mut = true := by
    cases q : c.mut with
    | true => rfl
    | false => exact absurd ((r.zc n c hc).mp q) hn
  obtain ⟨o, ho, _⟩ := cr.there hm
  rw [hD] at ho; cases ho
/-- a list that FL doesn't see becomes a cell -/
theorem HR.adopt {H : Hp} {ρ : List Addr} {h : Hs} (r : HR T H ρ h) {D : Addr} {xs : List FL.D} {vs : List V} (hD : H D = some (.lst vs)) (hn : ∀ n : Nat, n ≠ 0 → ρ[n]? ≠ some D) (rd : RDs T.K H ρ xs vs) : HR T H (ρ ++ [D]) (h ++ [.lst xs]) := by
  have split : ∀ (n : Nat) (x : Addr), (ρ ++ [D])[n]? = some x → (ρ[n]? = some x ∧ n < ρ.length) ∨ (n = ρ.length ∧ x = D) := fun n x e => by
    by_cases hn : n < ρ.length
    · rw [List.getElem?_append_left hn] at e; exact .inl ⟨e, hn⟩
    · rw [List.getElem?_append_right (by omega)] at e
      have h2 : n - ρ.length < [D].length := (List.getElem?_eq_some_iff.mp e).1
      have h3 : n = ρ.length := by simp at h2; omega
      subst h3; simp at e; exact .inr ⟨rfl, e.symm⟩
  have splitH : ∀ (n : Nat) (x : Cell), n < ρ.length → (h ++ [.lst xs])[n]? = some x → h[n]? = some x := fun n x hn e => by
    rw [List.getElem?_append_left (by rw [← r.len]; exact hn)] at e; exact e
  have atP : (h ++ [Cell.lst xs])[ρ.length]? = some (.lst xs) := by rw [r.len]; simp
  refine ⟨by rw [List.length_append, List.length_append, r.len]; rfl, fun n x a e1 e2 => ?_, fun m n a x y e1 e2 e3 e4 m1 m2 => ?_, by rw [List.length_append]; have := r.pos; omega, fun n x e => ?_⟩
  · rcases split n a e2 with ⟨q, qn⟩ | ⟨q1, q2⟩
    · exact (r.at_ n x a (splitH n x qn e1) q).mono (Keeps.refl _) (Ext.app _ _) fun _ z => z
    · subst q1; subst q2
      rw [atP] at e1; cases e1; exact ⟨vs, hD, rd.mono (Keeps.refl _) (Ext.app _ _)⟩
  · have no : ∀ (n : Nat) (x : Cell), ρ[n]? = some D → n < ρ.length → (h ++ [.lst xs])[n]? = some x → x.mut = true → False := fun n x q1 qn q2 q3 => by
      refine hn n (fun z => ?_) q1
      have := (r.zc n x (splitH n x qn q2)).mpr z
      rw [q3] at this; cases this
    rcases split m a e1 with ⟨q, qn⟩ | ⟨q1, q2⟩
    · rcases split n a e2 with ⟨q', qn'⟩ | ⟨q1', q2'⟩
      · exact r.inj m n a x y q q' (splitH m x qn e3) (splitH n y qn' e4) m1 m2
      · subst q2'; exact (no m x q qn e3 m1).elim
    · rcases split n a e2 with ⟨q', qn'⟩ | ⟨q1', q2'⟩
      · subst q2; exact (no n y q' qn' e4 m2).elim
      · omega
  · by_cases hm : n < h.length
    · rw [List.getElem?_append_left hm] at e; exact r.zc n x e
    · rw [List.getElem?_append_right (by omega)] at e
      have h2 : n - h.length < [Cell.lst xs].length := (List.getElem?_eq_some_iff.mp e).1
      have h3 : n = h.length := by simp at h2; omega
      subst h3; simp at e; subst e
      have := r.pos
      constructor
      · intro z; cases z
      · intro z; omega
/-- one turn of a comprehension -/
noncomputable def compStep (Γ : Cfg) (own : List Nat) (t : FT) (c e : FE) (ls : Ls) (x : FL.D) (h2 : Hs) : R (Option FL.D) := match asgT t x (FL.wipe ls own) with
  | some ls2 => (ev Γ c ls2 h2).bind fun k h3 => (R.ofO h3 (truth h3 k)).bind fun k h3 => if k = true then (ev Γ e ls2 h3).bind fun y h4 => .ok (some y) h4 else .ok none h3
  | none => .bad
theorem compStep_ok {own : List Nat} {t : FT} {c e : FE} {ls : Ls} {x : FL.D} {h2 h3 : Hs} {y : Option FL.D} (q : compStep Γ own t c e ls x h2 = .ok y h3) : ∃ ls2 b h', asgT t x (FL.wipe ls own) = some ls2 ∧ evT Γ c ls2 h2 = .ok b h' ∧
    ((b = true ∧ ∃ z, ev Γ e ls2 h' = .ok z h3 ∧ y = some z) ∨ (b = false ∧ y = none ∧ h3 = h')) := by
  unfold compStep at q
  split at q
  · rename_i ls2 h1
    refine ⟨ls2, ?_⟩
    unfold evT
    cases q1 : ev Γ c ls2 h2 with
    | bad => rw [q1] at q; cases q
    | exc _ _ _ => rw [q1] at q; cases q
    | ok k h' =>
      rw [q1] at q
      simp only [R.bind_ok] at q ⊢
      cases q2 : truth h' k with
      | none => rw [q2] at q; cases q
      | some b =>
        rw [q2] at q
        simp only [ofO_some, R.bind_ok] at q
        refine ⟨b, h', h1, rfl, ?_⟩
        cases b with
        | false => cases q; exact .inr ⟨rfl, rfl, rfl⟩
        | true =>
          rw [if_pos rfl] at q
          cases q3 : ev Γ e ls2 h' with
          | bad => rw [q3] at q; cases q
          | exc _ _ _ => rw [q3] at q; cases q
          | ok z h4 => rw [q3] at q; cases q; exact .inl ⟨rfl, z, rfl, rfl⟩
  · cases q
/-- what is left to be done of a comprehension -/
noncomputable def compRest (m : Bool) (ns : List Nat) (h1 : Hs) (step : FL.D → Hs → R (Option FL.D)) (ys : List FL.D) (L : List FL.D) (h2 : Hs) : R FL.D := (compL ns h1 step L h2).must fun zs h3 => if (ys ++ zs).length ≤ sizeLine then newM m h3 (ys ++ zs) else .bad
theorem compL_exc (ns : List Nat) (h1 : Hs) (step : FL.D → Hs → R (Option FL.D)) : ∀ (L : List FL.D) (h2 : Hs) (c : Str) (fs : List (Str × FL.D)) (h3 : Hs), compL ns h1 step L h2 ≠ .exc c fs h3
  | [], h2, c, fs, h3 => by rw [compL]; exact fun z => nomatch z
  | x :: xs, h2, c, fs, h3 => by
    rw [compL]
    cases step x h2 with
    | bad => exact fun z => nomatch z
    | exc _ _ _ => exact fun z => nomatch z
    | ok y h' =>
      simp only [R.must_ok]
      split
      · cases compL ns h1 step xs h' with
        | bad => exact fun z => nomatch z
        | exc _ _ _ => exact fun z => nomatch z
        | ok ys h'' => exact fun z => nomatch z
      · exact fun z => nomatch z
/-- .. behind one more turn -/
theorem compRest_cons {m : Bool} {ns : List Nat} {h1 : Hs} {step : FL.D → Hs → R (Option FL.D)} {ys L : List FL.D} {x : FL.D} {h2 : Hs} {σ : L2.St} {H : Hp} {ρ : List Addr} {Q : VK} (hp : PR T W σ H ρ (RAd T.K) Q (compRest m ns h1 step ys (x :: L) h2)) :
    ∃ y h3, step x h2 = .ok y h3 ∧ same ns h1 h3 ∧ compRest m ns h1 step ys (x :: L) h2 = compRest m ns h1 step (match y with | some y => ys ++ [y] | none => ys) L h3 ∧ (∀ z, y = some z → ys.length < sizeLine) := by
  unfold compRest at hp ⊢
  rw [compL] at hp ⊢
  cases q : step x h2 with
  | bad => rw [q] at hp; exact hp.elim
  | exc _ _ _ => rw [q] at hp; exact hp.elim
  | ok y h3 =>
    rw [q] at hp
    simp only [R.must_ok] at hp ⊢
    split at hp
    · rename_i hsm
      refine ⟨y, h3, rfl, hsm, ?_, ?_⟩
      · rw [if_pos hsm]
        cases compL ns h1 step L h3 with
        | bad => rfl
        | exc _ _ _ => rfl
        | ok zs h4 => cases y <;> simp
      · intro z hz
        subst hz
        cases q2 : compL ns h1 step L h3 with
        | bad => rw [q2] at hp; exact hp.elim
        | exc _ _ _ => rw [q2] at hp; exact hp.elim
        | ok zs h4 =>
          rw [q2] at hp
          simp only [R.must_ok] at hp
          split at hp
          · rename_i hl
            simp at hl; omega
          · exact hp.elim
    · exact hp.elim
/-- between two turns -/
structure CInv (m : Bool) (T : Tx) (W : WX) (σ : L2.St) (Q : VK) (H1 : Hp) (ρ1 : List Addr) (h1 : Hs) (ns : List Nat) (step : FL.D → Hs → R (Option FL.D)) (items : List FL.D) (D : Addr) (i : Nat) (H2 : Hp) (ρ2 : List Addr) (h2 : Hs) (acc : List V) (ys : List FL.D) : Prop where
  hr : HR T H2 ρ2 h2
  e : Ext ρ1 ρ2
  k : Keeps H1 H2
  hD : H2 D = some (.lst acc)
  nD : ∀ n : Nat, n ≠ 0 → ρ2[n]? ≠ some D
  rds : RDs T.K H2 ρ2 ys acc
  sm : same ns h1 h2
  fr : ∀ (a : Addr) (o : HO), a ≠ D → H1 a = some o → (∀ n : Nat, n ≠ 0 → ρ1[n]? ≠ some a) → H2 a = some o ∧ ∀ n : Nat, n ≠ 0 → ρ2[n]? ≠ some a
  hq : PR T W σ H1 ρ1 (RAd T.K) Q (compRest m ns h1 step ys (items.drop i) h2)
theorem ownOf_eq (S : Sx) (own : List Nat) : (ownOf S own).map (·.2) = own := by unfold ownOf; rw [List.map_map]; simp [Function.comp_def]
theorem comp_read {m : Bool} {own : List Nat} {t : FT} {it c e : FE} (hsl : (ftSlots t).all own.contains = true) {σ : L2.St} {H : Hp} {Q : VK} (hh : tE Γ T W (.comp m own t it c e) σ H Q) : tLc (tI Γ T W it) (tG T t) (tT Γ T WN c) (tE Γ T WN e) own σ H (FrzQ Q) := by
  have hin : ∀ j ∈ ftSlots t, j ∈ own := fun j hj => by simpa using List.all_eq_true.mp hsl j hj
  obtain ⟨ρ, ls, h, rl, hr, hq⟩ := hh
  rw [ev] at hq
  refine ⟨ρ, ls, h, rl, hr, PR.bindK hq fun w h1 ρ1 H1 _ e1 k1 hr1 hq1 J wk => fun D hD => ?_⟩
  obtain ⟨items, ns⟩ := w
  have rl1 : RL T.K H1 ρ1 ls σ := rl.mono k1 e1
  have wk' : Walk T J items ns h1 ρ1 H1 := wk
  have hq2 : PR T W σ H1 ρ1 (RAd T.K) Q (compRest m ns h1 (compStep Γ own t c e ls) [] items h1) := by
    have hq1 : PR T W σ H1 ρ1 (RAd T.K) Q ((compL ns h1 (compStep Γ own t c e ls) items h1).bind fun ys h2 => if ys.length ≤ sizeLine then newM m h2 ys else .bad) := hq1
    unfold compRest
    cases q : compL ns h1 (compStep Γ own t c e ls) items h1 with
    | bad => rw [q] at hq1; exact hq1.elim
    | exc _ _ _ => exact (compL_exc _ _ _ _ _ _ _ _ q).elim
    | ok zs h3 => rw [q] at hq1; exact hq1
  refine ⟨fun i j H2 => j = items.length - i ∧ i ≤ items.length ∧ ∃ ρ2 h2 acc ys, CInv m T W σ Q H1 ρ1 h1 ns (compStep Γ own t c e ls) items D i H2 ρ2 h2 acc ys, ⟨items.length, by simp, Nat.zero_le _, ρ1, h1, [], [], ?_⟩, ?_⟩
  · exact ⟨hr1.newO hD, Ext.refl _, Keeps.new hD, upd_same, hr1.fresh hD, .nil, fun _ _ => rfl, fun a o ne h n => ⟨by rw [upd_ne ne]; exact h, n⟩, by simpa using hq2⟩
  · rintro i _ H2 ⟨rfl, hi2, ρ2, h2, acc, ys, cv⟩
    by_cases hlt : i < items.length
    · have hd := List.drop_eq_getElem_cons hlt
      have hq3 := cv.hq
      rw [hd] at hq3
      obtain ⟨y, h3, es, sm3, er, hsz⟩ := compRest_cons hq3
      rw [er] at hq3
      obtain ⟨ls2, b, h', ea, et, ey⟩ := compStep_ok es
      refine .inr ⟨wk'.go i ρ2 H2 h2 cv.hr cv.e cv.k cv.sm hlt, fun H' => ∃ ρ' hh' acc' ys', CInv m T W σ Q H1 ρ1 h1 ns (compStep Γ own t c e ls) items D (i + 1) H' ρ' hh' acc' ys', fun H' hH' => ⟨items.length - (i + 1), by omega, rfl, by omega, hH'⟩, fun x H3 hy => ?_⟩
      obtain ⟨s3, rdx⟩ := wk'.yld i ρ2 H2 h2 x H3 items[i] cv.hr cv.e cv.k cv.sm (List.getElem?_eq_getElem hlt) hy
      have hr3 := cv.hr.keep s3
      have k13 : Keeps H1 H3 := cv.k.trans (sameKeeps s3)
      have hD3 : H3 D = some (.lst acc) := s3 _ _ cv.hD
      refine ⟨ρ2, FL.wipe ls own, items[i], ls2, (rl1.mono k13 cv.e).forget own, rdx, ea, fun σ3 rl3 on3 => ⟨wipe_only on3 hin, ρ2, ls2, h2, rl3, hr3, ?_⟩⟩
      rw [et]
      rintro ρ4 b' H4 e4 k4 hr4 rfl
      obtain ⟨hD4, nD4⟩ := k4.fr D _ hD3 cv.nD
      rcases ey with ⟨rfl, z, ez, rfl⟩ | ⟨rfl, rfl, rfl⟩
      · rw [if_pos rfl]
        refine ⟨ρ4, ls2, h', rl3.mono k4.k e4, hr4, ?_⟩
        rw [ez]
        intro ρ5 v H5 e5 k5 hr5 rd5
        obtain ⟨hD5, nD5⟩ := k5.fr D _ hD4 nD4
        have k25 : Keeps H2 H5 := ((sameKeeps s3).trans k4.k).trans k5.k
        obtain ⟨hg1, hg2⟩ := hr5.grow (ys := acc ++ [v]) hD5 nD5
        refine ⟨acc, hD5, by rw [← cv.rds.length]; exact hsz z rfl, ρ5, h3, acc ++ [v], ys ++ [z], hg1, cv.e.trans (e4.trans e5), (cv.k.trans k25).trans hg2, upd_same, nD5, ?_, sm3, ?_, hq3⟩
        · exact ((cv.rds.mono k25 (e4.trans e5)).append (.cons rd5 .nil)).mono hg2 (Ext.refl _)
        · intro a o ne h0 n0
          obtain ⟨q1, q2⟩ := cv.fr a o ne h0 n0
          obtain ⟨q3, q4⟩ := k4.fr a o (s3 _ _ q1) q2
          obtain ⟨q5, q6⟩ := k5.fr a o q3 q4
          exact ⟨by rw [upd_ne ne]; exact q5, q6⟩
      · rw [if_neg Bool.false_ne_true]
        have k24 : Keeps H2 H4 := (sameKeeps s3).trans k4.k
        refine ⟨ρ4, h3, acc, ys, hr4, cv.e.trans e4, cv.k.trans k24, hD4, nD4, cv.rds.mono k24 e4, sm3, ?_, hq3⟩
        intro a o ne h0 n0
        obtain ⟨q1, q2⟩ := cv.fr a o ne h0 n0
        exact k4.fr a o (s3 _ _ q1) q2
    · have ei : i = items.length := by omega
      subst ei
      refine .inl ⟨wk'.stop ρ2 H2 h2 cv.hr cv.e cv.k cv.sm, ?_⟩
      have hq3 := cv.hq
      rw [List.drop_length] at hq3
      unfold compRest at hq3
      rw [compL] at hq3
      simp only [R.must_ok, List.append_nil] at hq3
      split at hq3
      · have fr2 : ∀ (a : Addr) (o : HO), H1 a = some o → (∀ n : Nat, n ≠ 0 → ρ1[n]? ≠ some a) → a ≠ D ∧ H2 a = some o ∧ ∀ n : Nat, n ≠ 0 → ρ2[n]? ≠ some a := fun a o h0 n0 =>
          have ne : a ≠ D := ne_of_none h0 hD
          ⟨ne, cv.fr a o ne h0 n0⟩
        cases m with
        | true =>
          -- the list at D becomes a cell of FL's
          refine FrzQ.of (hq3 (ρ2 ++ [D]) (.ref D) H2 (cv.e.trans (Ext.app _ _)) ?_ ?_ (.loc (by rw [← cv.hr.len]; simp)))
          · refine ⟨cv.k, fun a o h0 n0 => ?_⟩
            obtain ⟨ne, q1, q2⟩ := fr2 a o h0 n0
            refine ⟨q1, fun m m0 em => ?_⟩
            by_cases hm : m < ρ2.length
            · rw [List.getElem?_append_left hm] at em; exact q2 m m0 em
            · rw [List.getElem?_append_right (by omega)] at em
              have h2 : m - ρ2.length < [D].length := (List.getElem?_eq_some_iff.mp em).1
              have h3 : m - ρ2.length = 0 := by simp at h2; omega
              rw [h3] at em; simp at em; exact ne em.symm
          · exact cv.hr.adopt cv.hD cv.nD cv.rds
        | false =>
          -- the list at D is never written again
          have mL : MutL [D] H2 := ⟨by simp, fun a h => by rw [List.mem_singleton.mp h]; exact ⟨_, cv.hD, trivial⟩⟩
          refine ⟨[D], mL, fun H' lk => ?_⟩
          obtain ⟨o, ho⟩ := lk.in_ D (by simp) _ cv.hD
          have kp := lk.keeps mL
          refine hq3 ρ2 (.ref D) H' cv.e ⟨cv.k.trans kp, fun a o h0 n0 => ?_⟩ (cv.hr.lckd lk mL fun n c a e1 e2 hm hL => ?_) (.fl ho (cv.rds.mono kp (Ext.refl _)))
          · obtain ⟨ne, q1, q2⟩ := fr2 a o h0 n0
            exact ⟨by rw [lk.out a (by simpa using ne)]; exact q1, q2⟩
          · rw [List.mem_singleton.mp hL] at e2
            refine cv.nD n (fun z => ?_) e2
            have := (cv.hr.zc n c e1).mpr z
            rw [hm] at this; cases this
      · exact hq3.elim
theorem s_comp {m : Bool} {own : List Nat} {t : FT} {it c e : FE} {elt tg iter : Expr} {ifs : List Expr} {scope : Scope} {pos : Pos} (O : Ok T B k S X W) (hb : blkC S.N S.sc scope (ownOf S own) = true) (hs : noSet iter = true) (hi : PI X tg iter (tI Γ T W it))
    (hg : mT (FL.blk S scope) t tg = true) (hsl : (ftSlots t).all own.contains = true) (ht : ∀ X', Ok T B k (FL.blk S scope) X' WN → PTs X' ifs (tT Γ T WN c)) (he : ∀ X', Ok T B k (FL.blk S scope) X' WN → PE X' elt (tE Γ T WN e)) :
    PE X (.ListComp elt [⟨tg, iter, ifs, 0⟩] scope pos) (tE Γ T W (.comp m own t it c e)) := by
  have okb : BlkOk X.N X.env.scope scope (ownOf S own) := by rw [O.N, O.sc]; exact blkOk_by hb
  refine peW (pe_frz (pe_lc O.calm O.nd hi okb (fun s H C cl fp => (g_ok (O.blk scope s H C cl fp) t).1 tg hg) (fun s H C cl fp => ht _ (O.blk scope s H C cl fp)) (fun s H C cl fp => he _ (O.blk scope s H C cl fp)) (set_fold hs))) fun σ H Q hh => ?_
  rw [ownOf_eq]
  exact comp_read hsl hh
/-- wanted once the things at some L are locked, behind a statement -/
def FrzE (D : Ends) : Ends := { D with nx := fun σ H => ∃ L, MutL L H ∧ ∀ H', Lck L H H' → D.nx σ H' }
theorem ps_frz {st : Stmt} {t : TS} (h : PS X st t) : PS X st (fun D σ H => t (FrzE D) σ H) := ⟨fun pins s σ H D I q => thn (h.run pins s σ H (FrzE D) I q) fun f s1 q1 => by
  cases f with
  | next =>
    obtain ⟨σ', H1, I1, L, m, q2⟩ := q1
    obtain ⟨H2, I2, k2⟩ := Inv.lockL I1 L m
    exact ⟨σ', H2, I2, q2 H2 k2⟩
  | brk => exact q1
  | cont => exact q1
  | ret u => exact q1⟩
/-- y = [..]: the compiler's own road -/
theorem p_setLc {m : Bool} {i : Nat} {y : Str} {own : List Nat} {t : FT} {it c e : FE} {elt tg iter : Expr} {ifs : List Expr} {scope : Scope} {py pos spos : Pos} (O : Ok T B k S X W) (hy : X.N[i]? = some y) (hyl : X.env.scope.names.lookup y = some .local)
    (hl : (py.line == pos.line) = true) (ha : (scope.names.any fun (n, k) => n == y && (k == .local || k == .cell)) = false) (hk : X.env.scope.kind = .function)
    (hb : blkC S.N S.sc scope (ownOf S own) = true) (hs : noSet iter = true) (hi : PI X tg iter (tI Γ T W it))
    (hg : mT (FL.blk S scope) t tg = true) (hsl : (ftSlots t).all own.contains = true) (ht : ∀ X', Ok T B k (FL.blk S scope) X' WN → PTs X' ifs (tT Γ T WN c)) (he : ∀ X', Ok T B k (FL.blk S scope) X' WN → PE X' elt (tE Γ T WN e)) :
    PS X (.Assign [.Name y py] (.ListComp elt [⟨tg, iter, ifs, 0⟩] scope pos) spos) (tAsg (tE Γ T W (.comp m own t it c e)) (gName i)) := by
  have okb : BlkOk X.N X.env.scope scope (ownOf S own) := by rw [O.N, O.sc]; exact blkOk_by hb
  refine psW (ps_frz (ps_setLc O.calm O.nd hy hyl (sw_true hk hyl hl ha) hi okb (fun s H C cl fp => (g_ok (O.blk scope s H C cl fp) t).1 tg hg) (fun s H C cl fp => ht _ (O.blk scope s H C cl fp)) (fun s H C cl fp => he _ (O.blk scope s H C cl fp)) (set_fold hs))) fun D σ H hh => ?_
  unfold tAsg at hh ⊢
  rw [ownOf_eq]
  exact comp_read hsl hh
end
end FL
set_option autoImplicit false
set_option linter.all false
set_option maxRecDepth 100000
set_option maxHeartbeats 1000000
/-! FL, part K: enumerate and zip over lists and tuples. -/
namespace FL
open PySem L2 PyProof.Rows PySem.SeqAt
/-! ### a list (false), a tuple (true) -/
def SqS (b : Bool) (K : PySem.W.Frag) (H : Hp) (a : Addr) (xs : List V) : Prop := match b with
  | true => SqT K H a xs
  | false => SqL K H a xs
def PosS (b : Bool) (h : Heap) (it a : Addr) (i : Nat) : Prop := match b with
  | true => h.IsTupleIter it a i
  | false => h.IsListIter it a i
def IsS (b : Bool) (h : Heap) (a : Addr) (items : Array Value) : Prop := match b with
  | true => h.IsTuple a items
  | false => h.IsList a items
def objS (b : Bool) (a : Addr) : Obj := match b with
  | true => { cls := .type "tuple_iterator", data := .fields #[.ref a, .int 0 0] }
  | false => { cls := .type "list_iterator", data := .fields #[.ref a, .int 0 0] }
section
variable {b b1 b2 : Bool}
theorem objS_free {a : Addr} : (objS b a).isFreed = false := by cases b <;> rfl
theorem posS_0 {h : Heap} {it a : Addr} (e : h.get? it = some (objS b a)) : PosS b h it a 0 := by
  cases b <;> exact ⟨_, e, rfl, rfl⟩
theorem PosS.at {h h' : Heap} {it a : Addr} {i : Nat} (x : PosS b h it a i) (k : ∀ o, h.get? it = some o → h'.get? it = some o) : PosS b h' it a i := by
  cases b
  · exact Heap.IsListIter.at x k
  · exact Heap.IsTupleIter.at x k
theorem PosS.obj {h : Heap} {it a : Addr} {i : Nat} (x : PosS b h it a i) : ∃ o, h.get? it = some o ∧ ∀ v, o.data ≠ .cell v := by
  cases b
  · obtain ⟨o, e, _, d⟩ := x
    exact ⟨o, e, fun v q => by rw [d] at q; cases q⟩
  · obtain ⟨o, e, _, d⟩ := x
    exact ⟨o, e, fun v q => by rw [d] at q; cases q⟩
theorem PosS.lt {h : Heap} {it a : Addr} {i : Nat} (x : PosS b h it a i) : it < h.objs.size := by
  obtain ⟨o, e, _⟩ := x.obj
  exact Heap.lt_size e
theorem srcNe {h : Heap} {it a a' : Addr} {i : Nat} {items : Array Value} (x : PosS b1 h it a' i) (y : IsS b2 h a items) : a ≠ it := by
  rintro rfl
  cases b1 <;> cases b2 <;> (obtain ⟨o, e, _, d⟩ := x; obtain ⟨o', e', c', n, d'⟩ := y; rw [e] at e'; cases e'; rw [d] at d'; cases d')
theorem srcNe2 {h : Heap} {e a : Addr} {o : Obj} {vs : Array Value} {items : Array Value} (x : h.get? e = some o) (d : o.data = .fields vs) (y : IsS b h a items) : e ≠ a := by
  rintro rfl
  cases b <;> (obtain ⟨o', e', c', n, d'⟩ := y; rw [x] at e'; cases e'; rw [d] at d'; cases d')
theorem IsS.lt {h : Heap} {a : Addr} {items : Array Value} (y : IsS b h a items) : a < h.objs.size := by
  cases b <;> (obtain ⟨o, e, _⟩ := y; exact Heap.lt_size e)
theorem drawsS {prog : Program} {w : World} {A : Around} (hh : A.handled = none) (it a : Addr) (hne : a ≠ it) (items : Array Value) :
    Draws prog w A it [it, a] items.size (fun i v => items[i]? = some v) (fun i h => PosS b h it a i ∧ IsS b h a items) := by
  cases b
  · exact Draws.list hh it a hne items
  · exact Draws.tuple hh it a hne items
theorem beginsS (a : Addr) (items : Array Value) : Begins (.ref a) (objS b a) fun h => IsS b h a items := by
  cases b
  · exact begins_list a items
  · exact begins_tuple a items
variable {X : Cx} {pins : List (Addr × Obj)} {σ : L2.St} {H : Hp} {s : Shared} {a : Addr} {xs ys : List V}
theorem invS (I : L2.Inv X pins σ H s) (h : SqS b X.K H a xs) : ∃ its : List Value, Vals xs its ∧ IsS b s.heap a its.toArray := by
  cases b
  · obtain ⟨its, r, p, _⟩ := I.list h
    exact ⟨its, r, p.isList⟩
  · obtain ⟨its, r, p, _⟩ := I.tuple h
    exact ⟨its, r, p⟩
theorem invS_inj (I : L2.Inv X pins σ H s) (h : SqS b X.K H a xs) (h' : SqS b X.K H a ys) : xs = ys := by
  cases b
  · exact I.list_inj h h'
  · exact I.tuple_inj h h'
end
theorem meets_enumerate_new1 {v : Value} {o : Obj} {H : Heap → Prop} (B : Begins v o H) :
    Meets (Builtin.«enumerate.__new__» ⟨[.type "enumerate", v], []⟩) (fun _ R s => H s.heap ∧
      R (.ok (.ret (.ref (s.heap.push o).objs.size))) { s with heap := (s.heap.push o).push { cls := .type "enumerate", data := .fields #[.none, .bool false, .ref s.heap.objs.size, rawInt 0, .none, .none] } }) :=
  .of_wp fun prog w A R s h => by
    obtain ⟨hp, g, d, tk, os⟩ := s; obtain ⟨h1, h⟩ := h
    have hsub := sub_enumerate
    have q1 : ∀ {A' : Around} {E : Value → Shared → Prop} {Q : Value → Shared → Prop}, Q (.ref hp.objs.size) ⟨hp.push o, g, d, tk, os⟩ → wpAny (model prog w) A' (pyIter v) Q E ⟨hp, g, d, tk, os⟩ :=
      fun q => B.iter prog w _ _ ⟨hp, g, d, tk, os⟩ _ h1 q
    wp_walk using q1
    refine wpAny_stack_any fun st => wpAny_pure ?_
    split
    · rename_i c _ _ _ _ _
      cases (c == Value.type "enumerate")
      · wp_walk using q1
        exact ⟨_, rfl, h⟩
      · wp_walk using q1
        exact ⟨_, rfl, h⟩
    · wp_walk using q1
      exact ⟨_, rfl, h⟩
theorem enum_begins1 {prog : Program} {w : World} {A : Around} {E : Value → Shared → Prop} {s : Shared} {v : Value} {o : Obj} {H : Heap → Prop} {Q : Value → Shared → Prop} (B : Begins v o H) (h1 : H s.heap)
    (h : ∀ h', IsEnum h' (s.heap.objs.size + 1) s.heap.objs.size 0 .none → h'.get? s.heap.objs.size = some o → h'.objs.size = s.heap.objs.size + 2 →
      (∀ b o, s.heap.get? b = some o → h'.get? b = some o) → Q (.ref (s.heap.objs.size + 1)) { s with heap := h' }) :
    wpAny (model prog w) A (call (.type "enumerate") [v]) Q E s := by
  refine callType_new F.called_enumerate (by decide) (F.typeCall_enumerate_1 _) (F.newCall_enumerate_1 _) (fun obj => F.args_object_init_2 obj _) F.entry_enumerate_new
    (meets_enumerate_new1 B) ⟨h1, ?_⟩
  have hz : (s.heap.push o).objs.size = s.heap.objs.size + 1 := Heap.size_push ..
  show _ ∧ _
  rw [hz]
  have he : IsEnum ((s.heap.push o).push { cls := .type "enumerate", data := .fields #[.none, .bool false, .ref s.heap.objs.size, rawInt 0, .none, .none] }) (s.heap.objs.size + 1) s.heap.objs.size 0 .none := by
    have := Heap.get?_push_size (s.heap.push o) (o := { cls := .type "enumerate", data := .fields #[.none, .bool false, .ref s.heap.objs.size, rawInt 0, .none, .none] }) rfl
    rw [hz] at this; exact this
  refine ⟨⟨_, he, rfl⟩, h _ he (Heap.get?_push_of_some _ (Heap.get?_push_size _ B.free)) (by rw [Heap.size_push, hz]) fun b o x => Heap.get?_push_of_some _ (Heap.get?_push_of_some _ x)⟩
/-! ### enumerate -/
def IteS (b : Bool) (K : PySem.W.Frag) (a : Addr) (n : Nat) : It :=
  ⟨fun i H => ∃ (xs : List V) (x : V), SqS b K H a xs ∧ xs[i]? = some x ∧ xs.length = n, fun i H v H' => ∃ T x, v = .ref T ∧ H T = none ∧ H' = upd H T (.tup [.int (i : Nat), x]) ∧ ∀ xs, SqS b K H a xs → xs[i]? = some x, fun i H => ∃ xs : List V, SqS b K H a xs ∧ xs.length = i⟩
theorem turn_enumS {P : Program} {w : World} {K : PySem.W.Frag} {elts : List Expr} {kk : Nat} {tpos : Pos} (b : Bool) (a e it : Addr) (n : Nat) :
    Turn P w K (.Tuple elts kk tpos) (IteS b K a n) [e, it] e (fun i h => (∃ old, IsEnum h e it ((i : Nat) : Int) old) ∧ PosS b h it a i ∧ e ≠ it) where
  mem := by simp
  obj := fun i h st c hc => by
    obtain ⟨⟨old, he⟩, hp, _⟩ := st
    have e' : c = e ∨ c = it := by simpa using hc
    rcases e' with z | z
    · rw [z]; exact ⟨_, he, fun v q => nomatch q⟩
    · rw [z]; exact hp.obj
  keep := fun i h h' st k => let ⟨⟨old, he⟩, hi, hne⟩ := st; ⟨⟨old, k e (by simp) _ he⟩, hi.at fun o q => k it (by simp) o q, hne⟩
  item := by
    intro X hP hw hK hc i pins s σ H E I hf st hg
    subst hP hw hK
    obtain ⟨⟨old, he⟩, hit, hne⟩ := st
    obtain ⟨xs, x, hq, hx, hn⟩ := hg
    obtain ⟨its, rv, p⟩ := invS I hq
    obtain ⟨u, hu, ru⟩ := rv.get hx
    have hel : e < s.heap.objs.size := Heap.lt_size he
    have hil : it < s.heap.objs.size := hit.lt
    have ea : e ≠ a := srcNe2 he rfl p
    have D := drawsS (b := b) (prog := X.prog) (w := X.w) (A := X.A.in1) (I.ok.hd hc) it a (srcNe hit p) its.toArray
    have hlt : i < its.toArray.size := by simpa using (List.getElem?_eq_some_iff.mp hu).1
    refine wpAny_pyNext_enum_itemC D he ⟨hit, p⟩ hlt hne (by simp; exact ⟨hne, ea⟩) fun y h' tk hy ho st' hT hsz hk => ?_
    have hy' : y = u := by
      rw [List.getElem?_toArray] at hy
      rw [hu] at hy
      exact (Option.some.inj hy).symm
    subst hy'
    refine ⟨_, rfl, wpAny_letOwnedTupleGo_enum (s := { s with heap := h', toks := tk + 1 }) ho fun h'' he' sb => ?_⟩
    have hT2 : h''.get? s.heap.objs.size = some { cls := .type "tuple", data := .seq #[.int i tk, y] } := (sb.2 _ (Nat.ne_of_gt hel)).trans hT
    have new : ObjOk X.prog X.w (upd H s.heap.objs.size (.tup [.int (i : Nat), x])) h'' s.heap.objs.size (.tup [.int (i : Nat), x]) :=
      ⟨by show 2 ≤ sizeLine; decide, [.int i tk, y], .cons ⟨_, rfl⟩ (.cons ru .nil), ⟨_, hT2, rfl, _, rfl⟩⟩
    have I1 : L2.Inv X pins σ (upd H s.heap.objs.size (.tup [.int (i : Nat), x])) { s with heap := h'', toks := tk + 1 } :=
      I.turnedNew (ch := [e, it]) (fun b ob hb q => (sb.2 b (fun z => hb (by simp [z]))).trans (hk b ob (fun z => hb (by simp [z])) (fun z => hb (by simp [z])) q)) hf (Nat.le_refl _) new
    refine ⟨.ref s.heap.objs.size, _, I1, rfl, ⟨_, x, rfl, I.hok.fresh (Nat.le_refl _), rfl, fun ys hy => by rw [invS_inj I hy hq]; exact hx⟩, ⟨⟨y, ?_⟩, st'.1.at fun o q => (sb.2 it (Ne.symm hne)).trans q, hne⟩, fun b hb => ?_⟩
    · have e1 : ((i + 1 : Nat) : Int) = (i : Int) + 1 := by omega
      rw [e1]; exact he'
    · have hb' : b < s.heap.objs.size := by
        have e' : b = e ∨ b = it := by simpa using hb
        rcases e' with z | z
        · rw [z]; exact hel
        · rw [z]; exact hil
      rw [upd_ne (Nat.ne_of_lt hb')]
      exact (hf b hb).1
  done := by
    intro X hP hw hK hc i pins s σ H E I hf st hg
    subst hP hw hK
    obtain ⟨⟨old, he⟩, hit, hne⟩ := st
    obtain ⟨xs, hq, hx⟩ := hg
    obtain ⟨its, rv, p⟩ := invS I hq
    obtain ⟨f0, f1, f2, f3, f4, f5⟩ := hf it (by simp)
    have hl : its.toArray.size = i := by rw [List.size_toArray, ← rv.length]; exact hx
    have D := drawsS (b := b) (prog := X.prog) (w := X.w) (A := X.A.in1) (I.ok.hd hc) it a (srcNe hit p) its.toArray
    exact wpAny_pyNext_enum_endD D he ⟨by rw [hl]; exact hit, p⟩ fun h' eb => ⟨rfl, I.turned (t' := s.toks) (fun b o hb q => eb b o hb q) f0 f1 f3 f4 f5⟩
  self := fun A i s Q E st h => let ⟨⟨_, he⟩, _⟩ := st; wpAny_pyIter_enum he h
def iEnumS (K : PySem.W.Frag) (ta : TA) : TI := fun σ H R => ta σ H fun vs H1 => ∃ b a xs, vs = [.ref a] ∧ SqS b K H1 a xs ∧ R (IteS b K a xs.length) H1
theorem pi_enumS {X : Cx} {e : Expr} {ta : TA} {p pos tpos : Pos} {elts : List Expr} {kk : Nat} (hg : Gl X "enumerate") (hm : X.mg "enumerate" = none) (ha : PA X [e] ta) (hs : starEach [e] X.env = [(false, eval e X.env)]) :
    PI X (.Tuple elts kk tpos) (.Call (.Name "enumerate" p) [e] [] pos) (iEnumS X.K ta) := by
  refine ⟨fun pins s σ H R I h => ?_⟩
  refine Call_ (ld_blt I hg hm boot_enumerate (PyProof.Rows.callWith_type1 (thn (ha.run pos pins s σ H _ I h) fun us s1 ⟨vs, H1, I1, r1, q1⟩ => ?_) hs rfl))
  obtain ⟨b, a, xs, ex, hq, q⟩ := q1
  subst ex
  cases r1 with
  | cons r rr =>
    cases rr
    cases r
    obtain ⟨its, rv, p'⟩ := invS I1 hq
    refine enum_begins1 (beginsS a its.toArray) p' fun h' he hit hsz hk => wpAny_pyIter_enum he ?_
    have I2 : L2.Inv X pins σ H1 { s1 with heap := h' } := I1.kept (t' := s1.toks) hk
    refine ⟨s1.heap.objs.size + 1, [s1.heap.objs.size + 1, s1.heap.objs.size], _, _, H1, rfl, I2, turn_enumS b a (s1.heap.objs.size + 1) s1.heap.objs.size _, ⟨⟨.none, he⟩, posS_0 hit, Nat.succ_ne_self _⟩, fun b hb => ?_, q⟩
    have e' : b = s1.heap.objs.size + 1 ∨ b = s1.heap.objs.size := by simpa using hb
    have hle : s1.heap.objs.size ≤ b := by
      rcases e' with z | z
      · rw [z]; exact Nat.le_add_right _ _
      · rw [z]; exact Nat.le_refl _
    exact I1.fpOk hle (I1.hok.fresh hle)
/-! ### zip -/
def ItzS (b1 b2 : Bool) (K : PySem.W.Frag) (a1 a2 : Addr) (n1 n2 : Nat) : It :=
  ⟨fun i H => ∃ (xs ys : List V) (x y : V), SqS b1 K H a1 xs ∧ SqS b2 K H a2 ys ∧ xs[i]? = some x ∧ ys[i]? = some y ∧ xs.length = n1 ∧ ys.length = n2,
    fun i H v H' => ∃ T x y, v = .ref T ∧ H T = none ∧ H' = upd H T (.tup [x, y]) ∧ (∀ xs, SqS b1 K H a1 xs → xs[i]? = some x) ∧ ∀ ys, SqS b2 K H a2 ys → ys[i]? = some y,
    fun i H => ∃ xs ys : List V, SqS b1 K H a1 xs ∧ SqS b2 K H a2 ys ∧ i ≤ xs.length ∧ i ≤ ys.length ∧ (i = xs.length ∨ i = ys.length)⟩
structure ZipOk (z TI TO i1 i2 : Addr) : Prop where
  TIz : TI ≠ z
  TOz : TO ≠ z
  TITO : TI ≠ TO
  TIi1 : TI ≠ i1
  TIi2 : TI ≠ i2
  zi1 : z ≠ i1
  zi2 : z ≠ i2
  TOi1 : TO ≠ i1
  TOi2 : TO ≠ i2
  i12 : i1 ≠ i2
theorem zipSepS {z TI TO i1 i2 a1 a2 : Addr} (D : ZipOk z TI TO i1 i2) (h1 : z ≠ a1) (h2 : z ≠ a2) (h3 : TO ≠ a1) (h4 : TO ≠ a2) (h5 : i1 ≠ a2) (h6 : i2 ≠ a1) : ZipSep2 z TI TO i1 i2 [i1, a1] [i2, a2] :=
  ⟨D.TIz, D.TOz, D.TITO, D.TIi1, by simp, by simp [D.zi1, h1], by simp [D.TOi1, h3], D.TIi2, by simp, by simp [D.zi2, h2], by simp [D.TOi2, h4], by simp [D.i12, h5], by simp [Ne.symm D.i12, h6]⟩
theorem ne_add3 {n a : Nat} (h : a < n) : n + 3 ≠ a := by omega
theorem turn_zipS {P : Program} {w : World} {K : PySem.W.Frag} {elts : List Expr} {kk : Nat} {tpos : Pos} {b1 b2 : Bool} {a1 a2 z TI TO i1 i2 : Addr} {n1 n2 : Nat} (D : ZipOk z TI TO i1 i2) (la1 : TO ≠ a1) (la2 : TO ≠ a2) :
    Turn P w K (.Tuple elts kk tpos) (ItzS b1 b2 K a1 a2 n1 n2) [z, TI, TO, i1, i2] z (fun i h => IsZip h z TI TO .none ∧ IsPair h TI (.ref i1) (.ref i2) ∧ (∃ x y, IsPair h TO x y) ∧ PosS b1 h i1 a1 i ∧ PosS b2 h i2 a2 i) where
  mem := by simp
  obj := fun i h st c hc => by
    obtain ⟨hz, hTI, ⟨x, y, hTO⟩, h1, h2⟩ := st
    have e' : c = z ∨ c = TI ∨ c = TO ∨ c = i1 ∨ c = i2 := by simpa using hc
    rcases e' with q | q | q | q | q
    · rw [q]; exact ⟨_, hz, fun v q => nomatch q⟩
    · rw [q]; exact ⟨_, hTI, fun v q => nomatch q⟩
    · rw [q]; exact ⟨_, hTO, fun v q => nomatch q⟩
    · rw [q]; exact h1.obj
    · rw [q]; exact h2.obj
  keep := fun i h h' st k => by
    obtain ⟨hz, hTI, ⟨x, y, hTO⟩, h1, h2⟩ := st
    exact ⟨k z (by simp) _ hz, k TI (by simp) _ hTI, ⟨x, y, k TO (by simp) _ hTO⟩, h1.at fun o q => k i1 (by simp) o q, h2.at fun o q => k i2 (by simp) o q⟩
  item := by
    intro X hP hw hK hc i pins s σ H E I hf st hg
    subst hP hw hK
    obtain ⟨hz, hTI, ⟨x0, y0, hTO⟩, h1, h2⟩ := st
    obtain ⟨xs, ys, x, y, hqx, hqy, hx, hy, _, _⟩ := hg
    obtain ⟨its, rv, p⟩ := invS I hqx
    obtain ⟨its2, rv2, p2⟩ := invS I hqy
    obtain ⟨u, hu, ru⟩ := rv.get hx
    obtain ⟨u2, hu2, ru2⟩ := rv2.get hy
    have hzl : z < s.heap.objs.size := Heap.lt_size hz
    have D1 := drawsS (b := b1) (prog := X.prog) (w := X.w) (A := X.A.in1) (I.ok.hd hc) i1 a1 (srcNe h1 p) its.toArray
    have D2 := drawsS (b := b2) (prog := X.prog) (w := X.w) (A := X.A.in1) (I.ok.hd hc) i2 a2 (srcNe h2 p2) its2.toArray
    have S : ZipSep2 z TI TO i1 i2 [i1, a1] [i2, a2] := zipSepS D (srcNe2 hz rfl p) (srcNe2 hz rfl p2) la1 la2 (Ne.symm (srcNe h1 p2)) (Ne.symm (srcNe h2 p))
    refine wpAny_pyNext_zipD2_item S D1 D2 hz hTI hTO ⟨h1, p⟩ ⟨h2, p2⟩ (by simpa using (List.getElem?_eq_some_iff.mp hu).1) (by simpa using (List.getElem?_eq_some_iff.mp hu2).1) fun v1 v2 h' tk hv1 hv2 z' TO' h1' h2' hT hsz hk => ?_
    have e1 : v1 = u := by
      rw [List.getElem?_toArray, hu] at hv1
      exact (Option.some.inj hv1).symm
    have e2 : v2 = u2 := by
      rw [List.getElem?_toArray, hu2] at hv2
      exact (Option.some.inj hv2).symm
    subst e1 e2
    refine ⟨_, rfl, wpAny_letOwnedTupleGo_zip (s := { s with heap := h', toks := tk }) z' fun h'' z'' sb => ?_⟩
    have hT2 : h''.get? s.heap.objs.size = some { cls := .type "tuple", data := .seq #[v1, v2] } := (sb.2 _ (Nat.ne_of_gt hzl)).trans hT
    have new : ObjOk X.prog X.w (upd H s.heap.objs.size (.tup [x, y])) h'' s.heap.objs.size (.tup [x, y]) :=
      ⟨by show 2 ≤ sizeLine; decide, [v1, v2], .cons ru (.cons ru2 .nil), ⟨_, hT2, rfl, _, rfl⟩⟩
    have I1 : L2.Inv X pins σ (upd H s.heap.objs.size (.tup [x, y])) { s with heap := h'', toks := tk } :=
      I.turnedNew (ch := [z, TI, TO, i1, i2]) (fun c o hb q => (sb.2 c (fun q' => hb (by simp [q']))).trans (hk c o (fun q' => hb (by simp [q'])) (fun q' => hb (by simp [q'])) (fun q' => hb (by simp [q'])) (fun q' => hb (by simp [q'])) q)) hf (Nat.le_refl _) new
    refine ⟨.ref s.heap.objs.size, _, I1, rfl, ⟨_, x, y, rfl, I.hok.fresh (Nat.le_refl _), rfl, fun l hl => by rw [invS_inj I hl hqx]; exact hx, fun l hl => by rw [invS_inj I hl hqy]; exact hy⟩, ⟨z'', ?_, ⟨v1, v2, ?_⟩, ?_, ?_⟩, fun c hcm => ?_⟩
    · exact (sb.2 _ D.TIz).trans (hk _ _ D.TIz D.TITO D.TIi1 D.TIi2 hTI)
    · exact (sb.2 _ D.TOz).trans TO'
    · exact h1'.1.at fun o q => (sb.2 _ (Ne.symm D.zi1)).trans q
    · exact h2'.1.at fun o q => (sb.2 _ (Ne.symm D.zi2)).trans q
    · have hlt : c < s.heap.objs.size := by
        have e' : c = z ∨ c = TI ∨ c = TO ∨ c = i1 ∨ c = i2 := by simpa using hcm
        rcases e' with q | q | q | q | q
        · rw [q]; exact hzl
        · rw [q]; exact Heap.lt_size hTI
        · rw [q]; exact Heap.lt_size hTO
        · rw [q]; exact h1.lt
        · rw [q]; exact h2.lt
      rw [upd_ne (Nat.ne_of_lt hlt)]
      exact (hf c hcm).1
  done := by
    intro X hP hw hK hc i pins s σ H E I hf st hg
    subst hP hw hK
    obtain ⟨hz, hTI, ⟨x0, y0, hTO⟩, h1, h2⟩ := st
    obtain ⟨xs, ys, hqx, hqy, le1, le2, hend⟩ := hg
    obtain ⟨its, rv, p⟩ := invS I hqx
    obtain ⟨its2, rv2, p2⟩ := invS I hqy
    have l1 := rv.length
    have l2 := rv2.length
    have D1 := drawsS (b := b1) (prog := X.prog) (w := X.w) (A := X.A.in1) (I.ok.hd hc) i1 a1 (srcNe h1 p) its.toArray
    have D2 := drawsS (b := b2) (prog := X.prog) (w := X.w) (A := X.A.in1) (I.ok.hd hc) i2 a2 (srcNe h2 p2) its2.toArray
    have S : ZipSep2 z TI TO i1 i2 [i1, a1] [i2, a2] := zipSepS D (srcNe2 hz rfl p) (srcNe2 hz rfl p2) la1 la2 (Ne.symm (srcNe h1 p2)) (Ne.symm (srcNe h2 p))
    exact wpAny_pyNext_zipD2_end S D1 D2 hz hTI hTO ⟨h1, p⟩ ⟨h2, p2⟩ (by simp; omega) (by simp; omega) (by simp; omega) fun h' tk hk => ⟨rfl, I.turnedL (ch := [z, TI, TO, i1, i2]) (fun c o hb q =>
      hk c o (fun q' => hb (by simp [q'])) (fun q' => hb (by simp [q'])) (fun q' => hb (by simp [q'])) (fun q' => hb (by simp [q'])) q) hf⟩
  self := fun A i s Q E st h => wpAny_pyIter_zip st.1 h
def iZipS (K : PySem.W.Frag) (ta : TA) : TI := fun σ H R => ta σ H fun vs H1 => ∃ b1 b2 a1 a2 xs ys, vs = [.ref a1, .ref a2] ∧ SqS b1 K H1 a1 xs ∧ SqS b2 K H1 a2 ys ∧ R (ItzS b1 b2 K a1 a2 xs.length ys.length) H1
theorem pi_zipS {X : Cx} {e e2 : Expr} {ta : TA} {p pos tpos : Pos} {elts : List Expr} {kk : Nat} (hg : Gl X "zip") (hm : X.mg "zip" = none) (ha : PA X [e, e2] ta)
    (hs : starEach [e, e2] X.env = (false, eval e X.env) :: starEach [e2] X.env) (hpl : (backTo pos (starEach [e2] X.env)).any (·.1) = false) :
    PI X (.Tuple elts kk tpos) (.Call (.Name "zip" p) [e, e2] [] pos) (iZipS X.K ta) := by
  refine ⟨fun pins s σ H R I h => ?_⟩
  refine Call_ (ld_blt I hg hm PyProof.Rows.boot_zip (PyProof.Rows.callWith_type1 (thn (ha.run pos pins s σ H _ I h) fun us s1 ⟨vs, H1, I1, r1, q1⟩ => ?_) hs hpl))
  obtain ⟨b1, b2, a, b, xs, ys, ex, hqx, hqy, q⟩ := q1
  subst ex
  cases r1 with
  | cons r rr =>
    cases rr with
    | cons r' rr =>
      cases rr
      cases r
      cases r'
      obtain ⟨its, rv, p1⟩ := invS I1 hqx
      obtain ⟨its2, rv2, p2⟩ := invS I1 hqy
      have la : a < s1.heap.objs.size := p1.lt
      have lb : b < s1.heap.objs.size := p2.lt
      refine zip_begins2 (beginsS (b := b1) a its.toArray) (beginsS (b := b2) b its2.toArray) p1 p2 fun h' hz hTI hTO h1 h2 hsz hk => wpAny_pyIter_zip hz ?_
      have I2 : L2.Inv X pins σ H1 { s1 with heap := h' } := I1.kept (t' := s1.toks) hk
      have D : ZipOk (s1.heap.objs.size + 4) (s1.heap.objs.size + 2) (s1.heap.objs.size + 3) s1.heap.objs.size (s1.heap.objs.size + 1) := by
        constructor <;> (intro q; have q : (_ : Nat) = _ := q; omega)
      refine ⟨s1.heap.objs.size + 4, [s1.heap.objs.size + 4, s1.heap.objs.size + 2, s1.heap.objs.size + 3, s1.heap.objs.size, s1.heap.objs.size + 1], _, _, H1, rfl, I2, turn_zipS D (ne_add3 la) (ne_add3 lb),
        ⟨hz, hTI, ⟨_, _, hTO⟩, posS_0 h1, posS_0 h2⟩, fun c hcm => ?_, q⟩
      have e' : c = s1.heap.objs.size + 4 ∨ c = s1.heap.objs.size + 2 ∨ c = s1.heap.objs.size + 3 ∨ c = s1.heap.objs.size ∨ c = s1.heap.objs.size + 1 := by simpa using hcm
      have hle : s1.heap.objs.size ≤ c := by
        rcases e' with z | z | z | z | z
        · rw [z]; exact Nat.le_add_right _ _
        · rw [z]; exact Nat.le_add_right _ _
        · rw [z]; exact Nat.le_add_right _ _
        · rw [z]; exact Nat.le_refl _
        · rw [z]; exact Nat.le_add_right _ _
      exact I1.fpOk hle (I1.hok.fresh hle)
end FL
set_option autoImplicit false
set_option linter.all false
set_option maxRecDepth 100000
set_option maxHeartbeats 1000000
/-! FL, part M: sorted over what is no list: the values of a dict, its keys. -/
namespace FL
open PySem L2 PyProof.Rows PySem.SeqAt
theorem ObjOk.there {P : Program} {w : World} {H : Hp} {h : Heap} {a : Addr} {o : HO} (x : L2.ObjOk P w H h a o) : ∃ ob, h.get? a = some ob := by
  cases o with
  | lst xs => obtain ⟨_, _, _, _, e⟩ := x; exact ⟨_, e⟩
  | tup xs => obtain ⟨_, _, _, o, e, _⟩ := x; exact ⟨_, e⟩
  | dK kvs => obtain ⟨_, _, _, _, o, _, _, e, _⟩ := x; exact ⟨_, e⟩
  | dT kvs => obtain ⟨_, _, _, _, o, _, _, e, _⟩ := x; exact ⟨_, e⟩
  | set S n => obtain ⟨o, _, _, _, e, _⟩ := x; exact ⟨_, e⟩
  | ins C dx fs => obtain ⟨_, _, _, e, _⟩ := x; exact ⟨_, e⟩
  | own y => exact x
  | xd fs => obtain ⟨_, ⟨_, _, _, e, _⟩, _⟩ := x; exact ⟨_, e⟩
  | rng lo hi => obtain ⟨_, _, _, e⟩ := x; exact ⟨_, e⟩
  | frz ob u => obtain ⟨e, _⟩ := x; exact ⟨_, e⟩
  | tbl ps => exact ⟨_, (show h.get? a = some _ from x)⟩
  | met f y => exact ⟨_, (show h.get? a = some _ from x)⟩
  | ext φ => obtain ⟨_, ⟨_, e⟩, _⟩ := x; exact ⟨_, e⟩
section
variable {X : Cx} {pins : List (Addr × Obj)} {σ : L2.St} {H : Hp} {s : Shared} {h' : Heap} {a : Addr} {o : HO}
/-- a new object where nothing stood -/
theorem laidN {t' : Nat} (I : L2.Inv X pins σ H s) (k : ∀ b u, s.heap.get? b = some u → h'.get? b = some u) (hp : s.heap.get? a = none) (new : L2.ObjOk X.prog X.w (upd H a o) h' a o) : H a = none ∧ L2.Inv X pins σ (upd H a o) { s with heap := h', toks := t' } := by
  have hn : H a = none := by
    cases e : H a with
    | none => rfl
    | some u =>
      obtain ⟨ob, eo⟩ := FL.ObjOk.there (I.hok a u e)
      rw [hp] at eo; cases eo
  refine ⟨hn, I.un ⟨fun b u q _ _ _ => k b u q, fun b u q _ _ _ => ⟨u.slots, k b u q⟩, fun b u q n _ => ?_, fun b u q _ => ⟨u, k b u q⟩, fun b xs q => by rw [upd_ne (ne_of_none q hn)]; exact q, fun b u xs q => by rw [upd_ne (ne_of_none q hn)]; exact q,
    fun b ps q => ⟨#[], by rw [upd_ne (ne_of_none q hn), q]; simp⟩⟩ fun b u e => ?_⟩
  · rw [upd_ne (fun z => by rw [z, hp] at q; cases q)]; exact n
  · by_cases hb : b = a
    · subst hb; rw [upd_same] at e; cases e; exact new
    · rw [upd_ne hb] at e
      exact (I.hok b u e).stay (fun c v _ q => k c v q) (fun c q => by rw [upd_ne (ne_of_none q hn)]; exact q) fun c xs q => by rw [upd_ne (ne_of_none q hn)]; exact q
end
mutual
theorem reads_live {h : Heap} : ∀ {v : Value} {d : PyData} {as : List Addr}, Reads h v d as → ∀ b ∈ as, ∃ o, h.get? b = some o
  | _, _, _, .none, _, hb => nomatch hb
  | _, _, _, .bool _, _, hb => nomatch hb
  | _, _, _, .int _ _, _, hb => nomatch hb
  | _, _, _, .str _ _, _, hb => nomatch hb
  | _, _, _, .list e _ _ r, b, hb => by
    rcases List.mem_cons.mp hb with z | z
    · subst z; exact ⟨_, e⟩
    · exact readsAll_live r b z
  | _, _, _, .tuple _ _ _ r, b, hb => readsAll_live r b hb
  | _, _, _, .dict e _ _ r1 r2, b, hb => by
    rcases List.mem_append.mp hb with z | z
    · rcases List.mem_cons.mp z with q | q
      · subst q; exact ⟨_, e⟩
      · exact readsAll_live r1 b q
    · exact readsAll_live r2 b z
theorem readsAll_live {h : Heap} : ∀ {vs : List Value} {ds : List PyData} {as : List Addr}, ReadsAll h vs ds as → ∀ b ∈ as, ∃ o, h.get? b = some o
  | _, _, _, .nil, _, hb => nomatch hb
  | _, _, _, .cons r rs, b, hb => by
    rcases List.mem_append.mp hb with z | z
    · exact reads_live r b z
    · exact readsAll_live rs b z
end
theorem sortedSrc {prog : Program} {w : World} {A : Around} {E : Value → Shared → Prop} {s : Shared} {Ty : String} {r d : Addr} {n : Nat} {P : Nat → Value → Prop} {OK : Heap → Prop} {Q : Value → Shared → Prop} (K : PySem.W.KdlSrc prog w Ty r d n P OK) (hh : A.handled = none) (hok : OK s.heap) (hn : n ≤ sizeLine)
    (h : ∀ (h' : Heap) (tk : Nat) (vs : List Value), (∀ b o, s.heap.get? b = some o → h'.get? b = some o) → vs.length = n → (∀ (j : Nat) (v : Value), vs[j]? = some v → P j v) →
      wpAny (model prog w) A.in1 (call (.builtin "list.sort") [.ref h'.objs.size]) (fun _ s' => Q (.ref h'.objs.size) s') E { s with heap := h'.push { cls := .type "list", data := .seq vs.toArray }, toks := tk }) :
    wpAny (model prog w) A (call (.builtin "sorted") [.ref r]) Q E s := by
  refine Calls.call_function_entry PyProof.Rows.kind_sorted PyProof.Rows.plain_sorted PyProof.Rows.entry_sorted (PyProof.Rows.args_sorted1 _) ?_
  unfold Builtin.«sorted»
  refine wpAny_bind (m := checkCount "sorted" 1 1 _) (wpAny_pure ?_)
  refine wpAny_bind (PySem.W.kdu_collect (A := A.in1) K hh hok hn fun h' tk acc hk hacc => ?_)
  have hl : acc.toList.length = n := by rw [Array.length_toList]; exact hacc.1
  refine wpAny_bind (wpAny_newList ?_ (by rw [hl]; exact hn))
  have hg := h h' tk acc.toList hk hl (fun j v e => hacc.2 j v (by rw [← Array.getElem?_toList]; exact e))
  refine wpAny_bind (wpAny_holding (wpAny_mono hg (fun _ s' x => ?_) fun _ _ e => e))
  exact wpAny_pure ⟨_, rfl, x⟩
/-! ### the values of a dict, as a view -/
def valsO (p d : Addr) : HO := .ext fun h => h.IsValuesView p d
theorem valsO_ok {P : Program} {w : World} {H : Hp} {h : Heap} {p d : Addr} (e : h.get? p = some { cls := .type "dict_values", data := .fields #[.ref d] }) : L2.ObjOk P w H h p (valsO p d) :=
  ⟨⟨_, e, rfl, rfl⟩, ⟨_, e⟩, fun h1 h2 x k => let ⟨o, ho, r⟩ := x; ⟨o, k o ho, r⟩⟩
def rVals : V → List V → Hp → VK → Prop := fun x xs H Q => ∃ (a : Addr) (kvs : List (L2.Key × V)), x = .ref a ∧ xs = [] ∧ H a = some (.dK kvs) ∧ ∀ p, H p = none → Q (.ref p) (upd H p (valsO p a))
theorem mt_vals {X : Cx} : MtR X "dict.values" rVals := by
  intro pins s σ H x xs v us Q I rx rxs h
  obtain ⟨a, kvs, rfl, rfl, ha, q⟩ := h
  cases rx
  cases rxs
  obtain ⟨z, hd, vs, rel, dd⟩ := dk_of I.hok ha
  refine call_meetsIn PySem.F.slot_dict_values dd.typeIs PySem.F.entry_dict_values (PySem.F.args_dict_values_1 _) (meets_dict_values (mixKind X.prog X.w) a hd) ⟨⟨vs, dd⟩, ?_⟩
  exact ⟨.ref s.heap.objs.size, upd H s.heap.objs.size (valsO s.heap.objs.size a), I.laid (t' := s.toks) (fun b u e => Heap.get?_push_of_some _ e) (Nat.le_refl _) (valsO_ok (Heap.get?_push_size _ rfl)), rfl, q _ (I.hok.fresh (Nat.le_refl _))⟩
/-- sorted(..) of what reads as the items ds -/
def sortR (T : Tx) (ds : List D) (h : Hs) (H : Hp) (Q : VK) : Prop := ∃ (W : WX) (τ : L2.St) (ρ : List Addr) (vs : List V), RDs T.K H ρ ds vs ∧ HR T H ρ h ∧ PR T W τ H ρ (RAd T.K) Q (match sortD h ds with | some es => newL h es | none => .bad)
theorem sort_go {m : Bool} {X : Cx} {pins : List (Addr × Obj)} {σ : L2.St} {H : Hp} {s : Shared} {Q : VK} (hu : X.A.units + 66 < cLine) (I : L2.Inv X pins σ H s) {ds : List D} {h : Hs} {W : WX} {τ : L2.St} {ρ : List Addr} {vs : List V} (rd : RDs X.K H ρ ds vs) (hr : HR (txOf X) H ρ h)
    (hp : PR (txOf X) W τ H ρ (RAd X.K) Q (match sortD h ds with | some es => newM m h es | none => .bad)) {its : List Value} (rv : Vals vs its) {h' : Heap} {tk : Nat} (k : ∀ b o, s.heap.get? b = some o → h'.get? b = some o) (hz : its.length ≤ sizeLine) :
    wpAny (model X.prog X.w) X.A.in1 (call (.builtin "list.sort") [.ref h'.objs.size]) (fun _ s' => EP X pins σ (FrzQ Q) (.ref h'.objs.size) s') X.xe { s with heap := h'.push { cls := .type "list", data := .seq its.toArray }, toks := tk } := by
  split at hp
  · rename_i es he
    unfold sortD at he
    split at he
    · rename_i ys hy
      split at he
      · rename_i hc
        cases he
        obtain ⟨c1, c2, c3⟩ := hc
        have dp := pyL_dp hr rd hy
        have ea := each_of I rd rv dp
        have hlen : ds.length = ys.length := by rw [rd.length]; exact dpAll_length dp
        have hm : (ds.zip ys).map Prod.snd = ys := List.map_snd_zip (by omega)
        have hzl : (ds.zip ys).length ≤ sizeLine := by rw [List.length_zip, rd.length, rv.length]; omega
        have hob : (h'.push { cls := .type "list", data := .seq its.toArray }).get? h'.objs.size = some (seqObj "list" its.toArray 0) := Heap.get?_push_size _ rfl
        have kb : ∀ b o, s.heap.get? b = some o → (h'.push { cls := .type "list", data := .seq its.toArray }).get? b = some o := fun b o e => Heap.get?_push_of_some _ (k b o e)
        have ne : ∀ b o, s.heap.get? b = some o → b ≠ h'.objs.size := fun b o e => Nat.ne_of_lt (Heap.lt_size (k b o e))
        refine PySem.W.list_sort_data (enc := Prod.snd) hob (ea.mono fun _ _ z => z.1) (ea.mono fun _ _ z => ?_) (by rw [hm]; exact c1) (by rw [hm]; exact c2) hzl (fun b hb => ?_) fun out ol eo => ?_
        · obtain ⟨as, r⟩ := z.2
          refine ⟨as, PyProof.Rows.Reads.keeps kb r, fun q => ?_⟩
          obtain ⟨o, ho⟩ := reads_live r _ q
          exact ne _ _ ho rfl
        · have := c3 b.2 (by rw [← hm]; exact List.mem_map_of_mem hb)
          show X.A.units + 1 + 1 + _ < cLine
          omega
        · obtain ⟨vs', k1, k2⟩ := each_back eo
          obtain ⟨ep, he'⟩ := PyProof.Rows.sortedHeap_at (vs := its) (out := List.toArray out) hob
          have hn : s.heap.get? h'.objs.size = none := by
            cases e : s.heap.get? h'.objs.size with
            | none => rfl
            | some o => exact absurd rfl (ne _ _ e)
          obtain ⟨hn2, J⟩ := laidN (t' := tk) (a := h'.objs.size) (o := .lst vs') (h' := sortedHeap (h'.push { cls := .type "list", data := .seq its.toArray }) h'.objs.size its (List.toArray out)) I
            (fun b o e => (PyProof.Rows.sortedHeap_old (ne _ _ e) (Heap.lt_size (kb b o e))).trans (kb b o e)) hn ⟨by rw [k1.length, ol]; exact hzl, out, ep, k1, he'⟩
          exact ⟨.ref _, _, J, rfl, hp.newM hr k2 _ hn2⟩
      · cases he
    · cases he
  · exact hp.elim
def rSortV (m : Bool) (T : Tx) : List V → Hp → VK → Prop := fun vs H Q' => ∃ (Q : VK) (p a : Addr) (gs : List (L2.Key × V)) (ds : List D) (h : Hs) (W : WX) (τ : L2.St) (ρ : List Addr), Q' = FrzQ Q ∧ vs = [.ref p] ∧ H p = some (valsO p a) ∧ H a = some (.dK gs) ∧ RDs T.K H ρ ds (gs.map (·.2)) ∧ HR T H ρ h ∧
  PR T W τ H ρ (RAd T.K) Q (match sortD h ds with | some es => newM m h es | none => .bad)
theorem sorted_lst {m : Bool} {X : Cx} {pins : List (Addr × Obj)} {σ : L2.St} {H : Hp} {s : Shared} {Q : VK} (hc : X.calm = true) (hu : X.A.units + 66 < cLine) (I : L2.Inv X pins σ H s) {ds : List D} {h : Hs} {W : WX} {τ : L2.St} {ρ : List Addr} {vs : List V} {p : Addr} (g2 : RDs X.K H ρ ds vs) (hr : HR (txOf X) H ρ h)
    (hp : PR (txOf X) W τ H ρ (RAd X.K) Q (match sortD h ds with | some es => newM m h es | none => .bad)) {its : List Value} (r1 : Vals vs its) (pl : PlainL s.heap p its.toArray) (hz : its.toArray.size ≤ sizeLine) :
    wpAny (model X.prog X.w) X.A (call (.builtin "sorted") [.ref p]) (EP X pins σ (FrzQ Q)) X.xe s := by
  split at hp
  · rename_i es he
    unfold sortD at he
    split at he
    · rename_i ys hy
      split at he
      · rename_i hcc
        cases he
        obtain ⟨c1, c2, c3⟩ := hcc
        have dp := pyL_dp hr g2 hy
        have ea := each_of I g2 r1 dp
        have hlen : ds.length = ys.length := by rw [g2.length]; exact dpAll_length dp
        have hm : (ds.zip ys).map Prod.snd = ys := List.map_snd_zip (by omega)
        have hzl : (ds.zip ys).length ≤ sizeLine := by rw [List.length_zip, g2.length, r1.length]; simp at hz; omega
        refine PySem.W.sorted_data (enc := Prod.snd) pl.isList (ea.mono fun _ _ z => z.1) (ea.mono fun _ _ z => z.2) (by rw [hm]; exact c1) (by rw [hm]; exact c2) hzl (fun b hb => ?_) fun out ol eo => ?_
        · have := c3 b.2 (by rw [← hm]; exact List.mem_map_of_mem hb)
          omega
        · obtain ⟨vs', k1, k2⟩ := each_back eo
          obtain ⟨ep, he'⟩ := PyProof.Rows.sortedAll_at s.heap its (List.toArray out)
          refine ⟨.ref _, upd H (s.heap.objs.size + 1) (.lst vs'), I.laid (t' := s.toks) (fun _ _ => PyProof.Rows.sortedAll_old) (Nat.le_succ _) ⟨by rw [k1.length, ol]; exact hzl, out, ep, k1, he'⟩, rfl, hp.newM hr k2 _ (I.hok.fresh (Nat.le_succ _))⟩
      · cases he
    · cases he
  · exact hp.elim
theorem kv_vals {κ : Type} : ∀ {gs : List (κ × V)} {vs : List (κ × Value)}, KV gs vs → Vals (gs.map (·.2)) (vs.map (·.2))
  | _, _, .nil => .nil
  | _, _, .cons h hs => .cons h.2 (kv_vals hs)
theorem cr_sortV {m : Bool} {X : Cx} (hc : X.calm = true) (hu : X.A.units + 66 < cLine) : CallR X (.builtin "sorted") (rSortV m (txOf X)) := by
  intro pins s σ H xs us _ I r hh
  obtain ⟨Q, p, a, gs, ds, h, W, τ, ρ, rfl, rfl, hpv, ha, rd, hr, hp⟩ := hh
  obtain rfl := Vals.ref1 r
  have view : s.heap.IsValuesView p a := (show L2.ObjOk X.prog X.w H s.heap p (valsO p a) from I.hok p _ hpv).1
  obtain ⟨z, hd, vs, rel, dd⟩ := dk_of I.hok ha
  obtain ⟨ep, hat⟩ := dd.dictAt
  refine sortedSrc (PySem.W.kdl_values (knd := mixKind X.prog X.w) (kvs := vs) (ep := ep)) (I.ok.hd hc) ⟨view, hat⟩ (by rw [← rel.length]; exact z) fun h' tk its k hl hv => ?_
  have ei : its = vs.map (·.2) := by
    refine List.ext_getElem? fun j => ?_
    by_cases hj : j < its.length
    · obtain ⟨kk, hk⟩ := hv j its[j] (List.getElem?_eq_getElem hj)
      rw [List.getElem?_map, hk, List.getElem?_eq_getElem hj]; rfl
    · rw [List.getElem?_eq_none (by omega), List.getElem?_eq_none (by rw [List.length_map]; omega)]
  rw [ei]
  exact sort_go hu I rd hr hp (kv_vals rel) k (by rw [List.length_map, ← rel.length]; exact z)
section
variable {X : Cx}
theorem ct_sorted {m : Bool} (hc : X.calm = true) (hu : X.A.units + 66 < cLine) : CallR X (.builtin "sorted") (rB (txOf X) (btD m .sorted)) := by
  rintro pins s σ H xs us _ I rv ⟨Q, W, τ, ρ, ds, h, rfl, rd, hr, hp⟩
  match ds, rd with
  | [], _ => exact hp.elim
  | _ :: _ :: _, _ => exact hp.elim
  | [d], .cons h1 .nil =>
    obtain ⟨u, rfl, ru⟩ := vals1 rv
    simp only [btD] at hp
    split at hp
    · rename_i ys hy
      obtain ⟨p, vs, rfl, g1, g2⟩ := hr.lstD h1 hy
      obtain rfl : u = Value.ref p := ru
      obtain ⟨its, r1, pl, hz⟩ := I.list g1
      exact sorted_lst (hc := hc) hu I g2 hr hp r1 pl (by rw [List.size_toArray, ← r1.length]; exact hz)
    · split at hp
      · rename_i es he
        obtain ⟨kvs, e1, e2⟩ := Option.bind_eq_some_iff.mp he
        obtain ⟨p, vs, rfl, g1, g2⟩ := hr.dictD h1 e1
        obtain rfl : u = Value.ref p := ru
        obtain ⟨z, hd, ws, rel, dd⟩ := dk_rd I.hok g1
        obtain ⟨ep, hat⟩ := dd.dictAt
        have ek : (vs.map fun kv => kV kv.1) = ws.map fun p => kV p.1 := by
          have e := congrArg (List.map kV) rel.keys
          rw [List.map_map, List.map_map] at e
          exact e
        refine sortedSrc (PySem.W.kdl_dict (knd := mixKind X.prog X.w) (kvs := ws) (ep := ep) hd) (I.ok.hd hc) hat (by rw [← rel.length]; exact z) fun h' tk its k hl hv => ?_
        have hv2 : Vals (vs.map fun kv => kV kv.1) its := by rw [ek]; exact keys_at hl hv
        refine sort_go (m := m) (W := W) (τ := τ) hu I g2.keys hr ?_ hv2 k (by rw [hl, ← rel.length]; exact z)
        rw [e2]; exact hp
      · exact hp.elim
end
section
variable {G : Sg} {T : Tx} {B : Heap} {Γ : Cfg} {k : Nat} {S : Sx} {X : Cx} {W : WX} {tg : Expr}
theorem s_svals {m : Bool} {e : FE} {eo : Expr} {apos cpos p pos : Pos} (O : Ok T B k S X W) (X0 : Text G T B Γ k) (h1 : isGl S.sc ("sorted" : Str) = true) (h2 : G.blt.contains ("sorted" : Str) = true) (hc : noCall eo = true) (hl : (apos.endLine == cpos.line) = true) (he : PE X eo (tE Γ T W e)) :
    PE X (.Call (.Name "sorted" p) [.Call (.Attribute eo "values" apos) [] [] cpos] [] pos) (tE Γ T W (.svals m e)) := by
  obtain ⟨g1, g2⟩ := isGl_ok O.sc h1
  have m2 : X.mg ("sorted" : Str) = none := by have := X0.blt _ h2; rw [← O.tx] at this; exact this
  refine peW (pe_frz (pe_callB (cr_sortV (m := m) O.calm O.un) g1 m2 PyProof.Rows.boot_sorted (pa_cons (pe_bm0 PySem.F.plainAttrs_dict PySem.F.slot_dict_values PySem.F.type_dict_values mt_vals he (call_base hc) hl) pa_nil) (by decide) g2)) fun σ H Q hh => ?_
  obtain ⟨ρ, ls, h, rl, hr, hq⟩ := hh
  rw [ev] at hq
  have hK : X.K = T.K := congrArg Tx.K O.tx
  refine ⟨ρ, ls, h, rl, hr, PR.bind hq fun d h1 ρ1 v H1 _ e1 k1 hr1 rd hq1 => ?_⟩
  cases rd with
  | @loc n a hn =>
    simp only [svalsD] at hq1
    cases hm : mdictAt h1 n with
    | none => rw [hm] at hq1; exact hq1.elim
    | some kvs =>
      rw [hm, Option.bind_some] at hq1
      obtain ⟨gs, g3, g4⟩ := hr1.mdict hn hm
      refine ⟨.inr (.inr (.inl ⟨rfl, .inl ⟨gs, g3⟩⟩)), a, gs, rfl, rfl, g3, fun p hp => ?_⟩
      have kf : KF H1 ρ1 (upd H1 p (valsO p a)) ρ1 := KF.new hp
      rw [O.tx]
      exact ⟨Q, p, a, gs, kvs.map (·.2), h1, W, σ, ρ1, rfl, rfl, upd_same, by rw [upd_ne (ne_of_none g3 hp)]; exact g3, g4.vals.mono kf.k (Ext.refl _), hr1.newO hp, hq1.after (Ext.refl _) kf⟩
  | _ => exact hq1.elim
theorem s_dnil {pos : Pos} : PE X (.Dict [] [] pos) (tE Γ T W .dnil) := by
  refine peW pe_dnewK fun σ H Q hh => ?_
  obtain ⟨ρ, ls, h, rl, hr, hq⟩ := hh
  rw [ev] at hq
  intro p hp
  exact hq (ρ ++ [p]) (.ref p) _ (Ext.app _ _) (KF.newC hp) (hr.newC hp rfl ⟨[], upd_same, .nil⟩) (.loc (by rw [← hr.len]; simp))
/-! ### enumerate, zip -/
/-- what is walked: a list's cell, a tuple -/
def SrcAt (T : Tx) (b : Bool) (p : Addr) (xs : List D) (ns : List Nat) (h0 : Hs) (ρ0 : List Addr) (H0 : Hp) : Prop :=
  ∀ (ρ : List Addr) (H : Hp) (h : Hs), HR T H ρ h → Ext ρ0 ρ → Keeps H0 H → same ns h0 h → ∃ vs, SqS b T.K H p vs ∧ RDs T.K H ρ xs vs
theorem src_of {d : D} {v : V} {xs : List D} {h0 : Hs} {ρ0 : List Addr} {H0 : Hp} (hr : HR T H0 ρ0 h0) (rd : RD T.K H0 ρ0 d v) (hx : itemsD h0 d = some xs) : ∃ b p vs, v = .ref p ∧ SqS b T.K H0 p vs ∧ xs.length = vs.length ∧ SrcAt T b p xs (placeD d) h0 ρ0 H0 := by
  cases rd with
  | @loc n p hn =>
    obtain ⟨vs, g1, g2⟩ := hr.lst hn hx
    exact ⟨false, p, vs, rfl, g1, g2.length, fun ρ H h hr1 e k sm => same_lst hr1 e hn hx (sm n (by simp [placeD]))⟩
  | @tup ys p vs g1 g2 =>
    cases hx
    exact ⟨true, p, vs, rfl, g1, g2.length, fun ρ H h hr1 e k sm => ⟨vs, k.sqT g1, g2.mono k e⟩⟩
  | @fl ys p vs o g1 g2 =>
    cases hx
    exact ⟨false, p, vs, rfl, .inl (.inr ⟨o, g1⟩), g2.length, fun ρ H h hr1 e k sm => ⟨vs, .inl (.inr ⟨o, k.2 _ _ _ g1⟩), g2.mono k e⟩⟩
  | _ => cases hx
theorem enumFrom_get : ∀ (xs : List D) (k i : Nat), (enumFrom k xs)[i]? = (xs[i]?).map fun x => .tup [.int ((k + i : Nat) : Int), x]
  | [], k, i => by simp [enumFrom]
  | x :: xs, k, 0 => by simp [enumFrom]
  | x :: xs, k, i + 1 => by
    rw [enumFrom, List.getElem?_cons_succ, List.getElem?_cons_succ, enumFrom_get xs (k + 1) i]
    congr 2
    funext z
    rw [show k + 1 + i = k + (i + 1) by omega]
theorem enumFrom_length : ∀ (xs : List D) (k : Nat), (enumFrom k xs).length = xs.length
  | [], _ => rfl
  | _ :: xs, k => by rw [enumFrom, List.length_cons, List.length_cons, enumFrom_length xs]
theorem zipD_get : ∀ (xs ys : List D) (i : Nat) (z : D), (zipD xs ys)[i]? = some z → ∃ x y, xs[i]? = some x ∧ ys[i]? = some y ∧ z = .tup [x, y]
  | [], _, i, z, h => by simp [zipD] at h
  | _ :: _, [], i, z, h => by simp [zipD] at h
  | x :: xs, y :: ys, 0, z, h => by simp [zipD] at h; exact ⟨x, y, rfl, rfl, h.symm⟩
  | x :: xs, y :: ys, i + 1, z, h => by
    rw [zipD, List.getElem?_cons_succ] at h
    rw [List.getElem?_cons_succ, List.getElem?_cons_succ]
    exact zipD_get xs ys i z h
theorem zipD_length : ∀ (xs ys : List D), (zipD xs ys).length = min xs.length ys.length
  | [], _ => by simp [zipD]
  | _ :: _, [] => by simp [zipD]
  | _ :: xs, _ :: ys => by rw [zipD, List.length_cons, zipD_length xs ys, List.length_cons, List.length_cons]; omega
theorem walk_enum {b : Bool} {p : Addr} {xs : List D} {n : Nat} {ns : List Nat} {h0 : Hs} {ρ0 : List Addr} {H0 : Hp} (sr : SrcAt T b p xs ns h0 ρ0 H0) (hn : xs.length = n) : Walk T (IteS b T.K p n) (enumFrom 0 xs) ns h0 ρ0 H0 where
  go := fun i ρ H h hr e k sm hi => by
    obtain ⟨vs, g1, g2⟩ := sr ρ H h hr e k sm
    rw [enumFrom_length] at hi
    exact ⟨vs, vs[i]'(by rw [← g2.length]; exact hi), g1, List.getElem?_eq_getElem _, by rw [← g2.length]; exact hn⟩
  yld := fun i ρ H h x H' d hr e k sm hd hy => by
    obtain ⟨vs, g1, g2⟩ := sr ρ H h hr e k sm
    obtain ⟨Tn, y, rfl, hT, rfl, hv⟩ := hy
    rw [enumFrom_get] at hd
    obtain ⟨z, ez, rfl⟩ := Option.map_eq_some_iff.mp hd
    obtain ⟨v, q1, q2⟩ := g2.get ez
    rw [hv vs g1] at q1; cases q1
    refine ⟨fun c o q => by rw [upd_ne (ne_of_none q hT)]; exact q, ?_⟩
    rw [Nat.zero_add]
    exact RD.newTup hT (.cons (.int _) (.cons q2 .nil))
  stop := fun ρ H h hr e k sm => by
    obtain ⟨vs, g1, g2⟩ := sr ρ H h hr e k sm
    exact ⟨vs, g1, by rw [enumFrom_length, g2.length]⟩
theorem walk_zip {b1 b2 : Bool} {p1 p2 : Addr} {xs ys : List D} {n1 n2 : Nat} {ns1 ns2 : List Nat} {h0 : Hs} {ρ0 : List Addr} {H0 : Hp} (s1 : SrcAt T b1 p1 xs ns1 h0 ρ0 H0) (s2 : SrcAt T b2 p2 ys ns2 h0 ρ0 H0) (e1 : xs.length = n1) (e2 : ys.length = n2) :
    Walk T (ItzS b1 b2 T.K p1 p2 n1 n2) (zipD xs ys) (ns1 ++ ns2) h0 ρ0 H0 where
  go := fun i ρ H h hr e k sm hi => by
    obtain ⟨vs, g1, g2⟩ := s1 ρ H h hr e k fun n hn => sm n (List.mem_append_left _ hn)
    obtain ⟨us, g3, g4⟩ := s2 ρ H h hr e k fun n hn => sm n (List.mem_append_right _ hn)
    rw [zipD_length, g2.length, g4.length] at hi
    exact ⟨vs, us, vs[i]'(by omega), us[i]'(by omega), g1, g3, List.getElem?_eq_getElem _, List.getElem?_eq_getElem _, by rw [← g2.length]; exact e1, by rw [← g4.length]; exact e2⟩
  yld := fun i ρ H h x H' d hr e k sm hd hy => by
    obtain ⟨vs, g1, g2⟩ := s1 ρ H h hr e k fun n hn => sm n (List.mem_append_left _ hn)
    obtain ⟨us, g3, g4⟩ := s2 ρ H h hr e k fun n hn => sm n (List.mem_append_right _ hn)
    obtain ⟨Tn, y, y2, rfl, hT, rfl, hv, hv2⟩ := hy
    obtain ⟨a, b, ea, eb, rfl⟩ := zipD_get xs ys i d hd
    obtain ⟨v, q1, q2⟩ := g2.get ea
    obtain ⟨v2, q3, q4⟩ := g4.get eb
    rw [hv vs g1] at q1; cases q1
    rw [hv2 us g3] at q3; cases q3
    exact ⟨fun c o q => by rw [upd_ne (ne_of_none q hT)]; exact q, RD.newTup hT (.cons q2 (.cons q4 .nil))⟩
  stop := fun ρ H h hr e k sm => by
    obtain ⟨vs, g1, g2⟩ := s1 ρ H h hr e k fun n hn => sm n (List.mem_append_left _ hn)
    obtain ⟨us, g3, g4⟩ := s2 ρ H h hr e k fun n hn => sm n (List.mem_append_right _ hn)
    refine ⟨vs, us, g1, g3, ?_⟩
    rw [zipD_length, g2.length, g4.length]
    omega
theorem i_enum {as : FE} {e : Expr} {elts : List Expr} {kk : Nat} {p pos tpos : Pos} (O : Ok T B k S X W) (X0 : Text G T B Γ k) (h3 : isGl S.sc ("enumerate" : Str) = true) (h4 : G.blt.contains ("enumerate" : Str) = true) (hm : mEs G as S [e] = true) (has : PA X [e] (tEs Γ T W as)) :
    PI X (.Tuple elts kk tpos) (.Call (.Name "enumerate" p) [e] [] pos) (tI Γ T W (.ienum as)) := by
  obtain ⟨g3, g4⟩ := isGl_ok O.sc h3
  obtain ⟨n1, n2⟩ := mEs_cons hm
  have m2 : X.mg ("enumerate" : Str) = none := by have := X0.blt _ h4; rw [← O.tx] at this; exact this
  have hK : X.K = T.K := congrArg Tx.K O.tx
  refine ⟨fun pins s σ H RJ I hh => ?_⟩
  obtain ⟨ρ, ls, h, rl, hr, hq⟩ := hh
  rw [evI] at hq
  refine (pi_enumS g3 m2 has (by rw [star_cons n1]; rfl)).run pins s σ H RJ I ⟨ρ, ls, h, rl, hr, PK.bindR hq fun ds h1 ρ1 vs H1 _ e1 k1 hr1 rds hq1 => ?_⟩
  cases rds with
  | nil => exact hq1.elim
  | @cons d v ds vs hd hds =>
    cases hds with
    | nil =>
      have hq1 : PK T W σ H1 ρ1 _ (R.ofO h1 ((itemsD h1 d).map fun xs => (enumFrom 0 xs, placeD d))) := hq1
      obtain ⟨z, ez, hq1⟩ := hq1.ofO
      obtain ⟨xs, hx, rfl⟩ := Option.map_eq_some_iff.mp ez
      obtain ⟨b, a, vs, rfl, g1, g2, sr⟩ := src_of hr1 hd hx
      rw [hK]
      exact ⟨b, a, vs, rfl, g1, PK.ok hq1 hr1 _ (walk_enum sr g2)⟩
    | cons _ _ => exact (show False from hq1).elim
theorem i_zip {as : FE} {e e2 : Expr} {elts : List Expr} {kk : Nat} {p pos tpos : Pos} (O : Ok T B k S X W) (X0 : Text G T B Γ k) (h3 : isGl S.sc ("zip" : Str) = true) (h4 : G.blt.contains ("zip" : Str) = true) (hm : mEs G as S [e, e2] = true) (has : PA X [e, e2] (tEs Γ T W as)) :
    PI X (.Tuple elts kk tpos) (.Call (.Name "zip" p) [e, e2] [] pos) (tI Γ T W (.izip as)) := by
  obtain ⟨g3, g4⟩ := isGl_ok O.sc h3
  obtain ⟨n1, n2⟩ := mEs_cons hm
  have m2 : X.mg ("zip" : Str) = none := by have := X0.blt _ h4; rw [← O.tx] at this; exact this
  have hK : X.K = T.K := congrArg Tx.K O.tx
  refine ⟨fun pins s σ H RJ I hh => ?_⟩
  obtain ⟨ρ, ls, h, rl, hr, hq⟩ := hh
  rw [evI] at hq
  refine (pi_zipS g3 m2 has (star_cons n1) (n2 _ _)).run pins s σ H RJ I ⟨ρ, ls, h, rl, hr, PK.bindR hq fun ds h1 ρ1 vs H1 _ e1 k1 hr1 rds hq1 => ?_⟩
  cases rds with
  | nil => exact (show False from hq1).elim
  | @cons d v ds vs hd hds =>
    cases hds with
    | nil => exact (show False from hq1).elim
    | @cons d2 v2 ds vs hd2 hds =>
      cases hds with
      | nil =>
        simp only [zipI] at hq1
        split at hq1
        · rename_i xs ys hx hy
          obtain ⟨b1, a1, vs1, rfl, g1, g2, sr1⟩ := src_of hr1 hd hx
          obtain ⟨b2, a2, vs2, rfl, g3, g4, sr2⟩ := src_of hr1 hd2 hy
          rw [hK]
          exact ⟨b1, b2, a1, a2, vs1, vs2, rfl, g1, g3, PK.ok hq1 hr1 _ (walk_zip sr1 sr2 g2 g4)⟩
        · exact hq1.elim
      | cons _ _ => exact (show False from hq1).elim
end
end FL
set_option autoImplicit false
set_option linter.all false
set_option maxRecDepth 100000
set_option maxHeartbeats 1000000
/-! FL, part N: xs[::-1], dict comprehensions, d.update(e). -/
namespace FL
open PySem L2 PyProof.Rows PySem.SeqAt
section
variable {G : Sg} {T : Tx} {B : Heap} {Γ : Cfg} {k : Nat} {S : Sx} {X : Cx} {W : WX}
theorem RDs.reverse {K : PySem.W.Frag} {H : Hp} {ρ : List Addr} : ∀ {ds : List FL.D} {vs : List V}, RDs K H ρ ds vs → RDs K H ρ ds.reverse vs.reverse
  | _, _, .nil => .nil
  | _, _, .cons h hs => by rw [List.reverse_cons, List.reverse_cons]; exact (RDs.reverse hs).append (.cons h .nil)
theorem s_rev {m : Bool} {a : FE} {ea : Expr} {k1 : Nat} {p1 p2 p3 pos : Pos} (O : Ok T B k S X W) (ha : PE X ea (tE Γ T W a)) : PE X (.Subscript ea (.Slice none none (some (.UnaryOp .USub (.Constant (.int 1) k1 p1) p2)) p3) pos) (tE Γ T W (.rev m a)) := by
  refine peW (pe_frz (pe_revL ha)) fun σ H Q hh => ?_
  obtain ⟨ρ, ls, h, rl, hr, hq⟩ := hh
  rw [ev] at hq
  refine ⟨ρ, ls, h, rl, hr, PR.bind hq fun d h1 ρ1 v H1 _ e k1 hr1 rd hq1 => ?_⟩
  unfold revD at hq1
  have hK : X.K = T.K := congrArg Tx.K O.tx
  split at hq1
  · rename_i xs hx
    obtain ⟨p, vs, rfl, g1, g2⟩ := hr1.lstD rd hx
    rw [hK]
    exact ⟨p, vs, rfl, g1, hq1.newM hr1 g2.reverse⟩
  · exact hq1.elim

/-! ### d.update(e) -/
theorem kv_merge {ls : List (L2.Key × V)} {ms : List (L2.Key × Value)} (r : KV ls ms) : ∀ {ks : List (L2.Key × V)} {vs : List (L2.Key × Value)}, KV ks vs → KV (ls.foldl (fun acc p => putK acc p.1 p.2) ks) (merged vs ms) := by
  induction r with
  | nil => intro ks vs q; exact q
  | @cons a b l1 l2 h t ih =>
    intro ks vs q
    obtain ⟨k1, v1⟩ := a
    obtain ⟨k2, v2⟩ := b
    obtain ⟨rfl, hv⟩ := h
    exact ih (q.put k1 hv)
theorem putK_len (kvs : List (L2.Key × V)) (k : L2.Key) (v : V) : (putK kvs k v).length ≤ kvs.length + 1 := length_putK kvs k v
theorem fold_len : ∀ (ls ks : List (L2.Key × V)), (ls.foldl (fun acc p => putK acc p.1 p.2) ks).length ≤ ks.length + ls.length
  | [], ks => by simp
  | p :: ls, ks => by
    have h1 := fold_len ls (putK ks p.1 p.2)
    have h2 := putK_len ks p.1 p.2
    rw [List.foldl_cons, List.length_cons]; omega
def rUpd : V → List V → Hp → VK → Prop := fun x vs H Q => ∃ (a b : Addr) (ks ls : List (L2.Key × V)), (x = .ref a ∧ vs = [.ref b]) ∧ H a = some (.dK ks) ∧ Rd H b (.dK ls) ∧ a ≠ b ∧ ks.length + ls.length ≤ sizeLine ∧ Q .non (upd H a (.dK (ls.foldl (fun acc p => putK acc p.1 p.2) ks)))
theorem mt_upd : MtR X "dict.update" rUpd := by
  rintro pins s σ H x vs v us Q I rx rv ⟨a, b, ks, ls, ⟨rfl, rfl⟩, g1, g2, hne, hz, q⟩
  obtain rfl : v = Value.ref a := rx
  obtain ⟨u, rfl, ru⟩ := rv.one
  obtain rfl : u = Value.ref b := ru
  obtain ⟨z1, hd1, vs1, rel1, dd1⟩ := dk_of I.hok g1
  obtain ⟨z2, hd2, vs2, rel2, dd2⟩ := dk_rd I.hok g2
  refine call_meetsIn PySem.F.slot_dict_update dd1.typeIs PySem.F.entry_dict_update (PySem.F.args_dict_update_2 _ _) (PySem.meets_dict_update (mixKind X.prog X.w) a b hne hd2) ⟨vs1, vs2, dd1, dd2, by rw [← rel1.length, ← rel2.length]; exact hz, fun h' d' _ hs => ?_⟩
  have hl : (ls.foldl (fun acc p => putK acc p.1 p.2) ks).length ≤ sizeLine := Nat.le_trans (fold_len ls ks) hz
  have he : ∃ q, h'.get? a = some q := let ⟨q, _, _, hq, _⟩ := d'; ⟨q, hq⟩
  exact ⟨.non, _, d_write (t' := s.toks) I (by rw [g1]; exact True.intro) hs he (dk_new hl hd1 (kv_merge rel2 rel1) d'), rfl, q⟩
theorem s_dupd {o e : FE} {eo ex : Expr} {apos cpos : Pos} (O : Ok T B k S X W) (hc : noCall eo = true) (hl : (apos.endLine == cpos.line) = true) (hs : noStar ex = true) (ho : PE X eo (tE Γ T W o)) (he : PE X ex (tE Γ T W e)) :
    PE X (.Call (.Attribute eo "update" apos) [ex] [] cpos) (tE Γ T W (.dupd o e)) := by
  have hfew : ((backTo cpos (starEach [ex] X.env)).all (fun x => !x.1) && (backToKw cpos (keywordEach [] X.env)).all (fun x => x.1.isSome) && decide ([ex].length + ([] : List Keyword).length + (if ([] : List Keyword).isEmpty then 0 else 1) < 30)) = true := by
    rw [star_cons hs]; rfl
  refine peW (pe_bm PySem.F.plainAttrs_dict PySem.F.slot_dict_update PySem.F.type_dict_update mt_upd ho (pa_cons he pa_nil (star_cons hs)) (call_base hc) hfew hl (star_cons hs) rfl) fun σ H Q hh => ?_
  obtain ⟨ρ, ls, h, rl, hr, hq⟩ := hh
  rw [ev] at hq
  refine ⟨ρ, ls, h, rl, hr, PR.bind hq fun d h1 ρ1 v H1 _ e1 k1 hr1 rd hq1 => ?_⟩
  have hK : X.K = T.K := congrArg Tx.K O.tx
  split at hq1
  · rename_i hi
    cases rd with
    | @loc n a hn =>
      obtain ⟨kvs, hx⟩ := Option.isSome_iff_exists.mp (show (mdictAt h1 n).isSome = true from hi)
      obtain ⟨gs, g1, g2⟩ := hr1.mdict hn hx
      rw [hK]
      refine ⟨.inr (.inr (.inl ⟨rfl, .inl ⟨gs, g1⟩⟩)), ρ1, ls, h1, rl.mono k1 e1, hr1, PR.bind hq1 fun d2 h2 ρ2 v2 H2 _ e2 k2 hr2 rd2 hq2 => ?_⟩
      have hn2 : ρ2[n]? = some a := e2 n a hn
      unfold dupdD at hq2
      simp only at hq2
      split at hq2
      · rename_i kvs2 more q1 q2
        split at hq2
        · rename_i hz
          obtain ⟨gs1, g3, g4⟩ := hr2.mdict hn2 q1
          obtain ⟨b, gs2, rfl, g5, g6⟩ := hr2.dictD rd2 q2
          have hne : a ≠ b := by
            rintro rfl
            cases d2 <;> first | (cases hz.2; done) | skip
            cases rd2 with
            | fd z _ _ _ => rw [g3] at z; cases z
          refine ⟨a, b, gs1, gs2, ⟨rfl, rfl⟩, g3, g5, hne, by rw [← g4.length, ← g6.length]; exact hz.1, ?_⟩
          have hc : h2[n]? = some (.dict kvs2) := by
            unfold mdictAt at q1
            split at q1
            · rename_i q; cases q1; exact q
            · cases q1
          obtain ⟨q3, q4⟩ := hr2.setC (o := .dK (gs2.foldl (fun acc p => putK acc p.1 p.2) gs1)) hc hn2 rfl (c' := .dict (dmerge kvs2 more)) rfl ⟨_, upd_same, (KS.merge g6 g4).mono (Keeps.put g3 (fun _ => nofun) (fun _ _ => nofun)) (Ext.refl _)⟩
          exact hq2 ρ2 .non _ (Ext.refl _) q4 q3 .non
        · exact hq2.elim
      · exact hq2.elim
    | _ => cases hi
  · exact hq1.elim
/-! ### dict comprehensions -/
noncomputable def dcStep (Γ : Cfg) (own : List Nat) (t : FT) (c ek ev_ : FE) (ls : Ls) (x : FL.D) (h2 : Hs) : R (Option (FL.D × FL.D)) := match asgT t x (FL.wipe ls own) with
  | some ls2 => (ev Γ c ls2 h2).bind fun b h3 => (R.ofO h3 (truth h3 b)).bind fun b h3 => if b = true then (ev Γ ek ls2 h3).bind fun y h4 => (ev Γ ev_ ls2 h4).bind fun z h5 => .ok (some (y, z)) h5 else .ok none h3
  | none => .bad
theorem dcStep_ok {own : List Nat} {t : FT} {c ek ev_ : FE} {ls : Ls} {x : FL.D} {h2 h3 : Hs} {y : Option (FL.D × FL.D)} (q : dcStep Γ own t c ek ev_ ls x h2 = .ok y h3) : ∃ ls2 b h', asgT t x (FL.wipe ls own) = some ls2 ∧ evT Γ c ls2 h2 = .ok b h' ∧
    ((b = true ∧ ∃ y1 y2 h4, ev Γ ek ls2 h' = .ok y1 h4 ∧ ev Γ ev_ ls2 h4 = .ok y2 h3 ∧ y = some (y1, y2)) ∨ (b = false ∧ y = none ∧ h3 = h')) := by
  unfold dcStep at q
  split at q
  · rename_i ls2 h1
    refine ⟨ls2, ?_⟩
    unfold evT
    cases q1 : ev Γ c ls2 h2 with
    | bad => rw [q1] at q; cases q
    | exc _ _ _ => rw [q1] at q; cases q
    | ok k h' =>
      rw [q1] at q
      simp only [R.bind_ok] at q ⊢
      cases q2 : truth h' k with
      | none => rw [q2] at q; cases q
      | some b =>
        rw [q2] at q
        simp only [ofO_some, R.bind_ok] at q
        refine ⟨b, h', h1, rfl, ?_⟩
        cases b with
        | false => cases q; exact .inr ⟨rfl, rfl, rfl⟩
        | true =>
          rw [if_pos rfl] at q
          cases q3 : ev Γ ek ls2 h' with
          | bad => rw [q3] at q; cases q
          | exc _ _ _ => rw [q3] at q; cases q
          | ok z h4 =>
            rw [q3] at q
            simp only [R.bind_ok] at q
            cases q4 : ev Γ ev_ ls2 h4 with
            | bad => rw [q4] at q; cases q
            | exc _ _ _ => rw [q4] at q; cases q
            | ok z2 h5 => rw [q4] at q; cases q; exact .inl ⟨rfl, z, z2, h4, rfl, q4, rfl⟩
  · cases q
noncomputable def dcRest (m : Bool) (ns : List Nat) (h1 : Hs) (step : FL.D → Hs → R (Option (FL.D × FL.D))) (kvs : List (FL.D × FL.D)) (L : List FL.D) (h2 : Hs) : R FL.D := (dcompL ns h1 step L kvs h2).must fun zs h3 => newD m h3 zs
theorem dcompL_exc (ns : List Nat) (h1 : Hs) (step : FL.D → Hs → R (Option (FL.D × FL.D))) : ∀ (L : List FL.D) (acc : List (FL.D × FL.D)) (h2 : Hs) (c : Str) (fs : List (Str × FL.D)) (h3 : Hs), dcompL ns h1 step L acc h2 ≠ .exc c fs h3
  | [], acc, h2, c, fs, h3 => by rw [dcompL]; exact fun z => nomatch z
  | x :: xs, acc, h2, c, fs, h3 => by
    rw [dcompL]
    cases step x h2 with
    | bad => exact fun z => nomatch z
    | exc _ _ _ => exact fun z => nomatch z
    | ok y h' =>
      simp only [R.must_ok]
      split
      · split
        · split
          · split
            · exact dcompL_exc ns h1 step xs _ _ _ _ _
            · exact fun z => nomatch z
          · exact fun z => nomatch z
        · exact dcompL_exc ns h1 step xs _ _ _ _ _
      · exact fun z => nomatch z
theorem dcRest_cons {m : Bool} {ns : List Nat} {h1 : Hs} {step : FL.D → Hs → R (Option (FL.D × FL.D))} {kvs : List (FL.D × FL.D)} {L : List FL.D} {x : FL.D} {h2 : Hs} {σ : L2.St} {H : Hp} {ρ : List Addr} {Q : VK} (hp : PR T W σ H ρ (RAd T.K) Q (dcRest m ns h1 step kvs (x :: L) h2)) :
    ∃ y h3, step x h2 = .ok y h3 ∧ same ns h1 h3 ∧ ((∃ k v nk, y = some (k, v) ∧ k.key = some nk ∧ keyOk k = true ∧ kvs.length < sizeLine ∧ dcRest m ns h1 step kvs (x :: L) h2 = dcRest m ns h1 step (dput nk k v kvs) L h3) ∨
      (y = none ∧ dcRest m ns h1 step kvs (x :: L) h2 = dcRest m ns h1 step kvs L h3)) := by
  unfold dcRest at hp ⊢
  rw [dcompL] at hp ⊢
  cases q : step x h2 with
  | bad => rw [q] at hp; exact hp.elim
  | exc _ _ _ => rw [q] at hp; exact hp.elim
  | ok y h3 =>
    rw [q] at hp
    simp only [R.must_ok] at hp ⊢
    split at hp
    · rename_i hsm
      refine ⟨y, h3, rfl, hsm, ?_⟩
      rw [if_pos hsm]
      cases y with
      | none => exact .inr ⟨rfl, rfl⟩
      | some kv =>
        obtain ⟨a, b⟩ := kv
        simp only at hp ⊢
        cases hk : a.key with
        | none => rw [hk] at hp; exact hp.elim
        | some nk =>
          rw [hk] at hp
          simp only at hp
          split at hp
          · rename_i hz
            exact .inl ⟨a, b, nk, rfl, hk, hz.1, hz.2, by simp only [if_pos hz]⟩
          · exact hp.elim
    · exact hp.elim
/-- a dict that FL doesn't see grows -/
theorem HR.growK {H : Hp} {ρ : List Addr} {h : Hs} (r : HR T H ρ h) {D : Addr} {xs ys : List (L2.Key × V)} (hD : H D = some (.dK xs)) (hn : ∀ n : Nat, n ≠ 0 → ρ[n]? ≠ some D) : HR T (upd H D (.dK ys)) ρ h ∧ Keeps H (upd H D (.dK ys)) := by
  have k : Keeps H (upd H D (.dK ys)) := Keeps.put hD (fun _ => nofun) (fun _ _ => nofun)
  refine ⟨⟨r.len, fun n c a h1 h2 => ?_, r.inj, r.pos, r.zc⟩, k⟩
  have cr := r.at_ n c a h1 h2
  by_cases ha : a = D
  · subst ha
    have n0 : n = 0 := Decidable.byContradiction fun z => hn n z h2
    have := (r.zc n c h1).mpr n0
    cases c with
    | flst ds =>
      obtain ⟨vs, g1, g2⟩ := cr
      refine ⟨vs, ?_, g2.mono k (Ext.refl _)⟩
      rcases g1 with ⟨ob, g1⟩ | g1
      · rw [hD] at g1; cases g1
      · exact .inr g1
    | _ => cases this
  · exact cr.mono k (Ext.refl _) fun o e => by rw [upd_ne ha]; exact e
/-- a thing that FL doesn't see becomes a cell -/
theorem HR.adoptC {H : Hp} {ρ : List Addr} {h : Hs} (r : HR T H ρ h) {D : Addr} {c : Cell} (hm : c.mut = true) (hn : ∀ n : Nat, n ≠ 0 → ρ[n]? ≠ some D) (cr : CR T H (ρ ++ [D]) D c) : HR T H (ρ ++ [D]) (h ++ [c]) := by
  have split : ∀ (n : Nat) (x : Addr), (ρ ++ [D])[n]? = some x → (ρ[n]? = some x ∧ n < ρ.length) ∨ (n = ρ.length ∧ x = D) := fun n x e => by
    by_cases hn : n < ρ.length
    · rw [List.getElem?_append_left hn] at e; exact .inl ⟨e, hn⟩
    · rw [List.getElem?_append_right (by omega)] at e
      have h2 : n - ρ.length < [D].length := (List.getElem?_eq_some_iff.mp e).1
      have h3 : n = ρ.length := by simp at h2; omega
      subst h3; simp at e; exact .inr ⟨rfl, e.symm⟩
  have splitH : ∀ (n : Nat) (x : Cell), n < ρ.length → (h ++ [c])[n]? = some x → h[n]? = some x := fun n x hn e => by
    rw [List.getElem?_append_left (by rw [← r.len]; exact hn)] at e; exact e
  have atP : (h ++ [c])[ρ.length]? = some c := by rw [r.len]; simp
  refine ⟨by rw [List.length_append, List.length_append, r.len]; rfl, fun n x a e1 e2 => ?_, fun m n a x y e1 e2 e3 e4 m1 m2 => ?_, by rw [List.length_append]; have := r.pos; omega, fun n x e => ?_⟩
  · rcases split n a e2 with ⟨q, qn⟩ | ⟨q1, q2⟩
    · exact (r.at_ n x a (splitH n x qn e1) q).mono (Keeps.refl _) (Ext.app _ _) fun _ z => z
    · subst q1; subst q2
      rw [atP] at e1; cases e1; exact cr
  · have no : ∀ (n : Nat) (x : Cell), ρ[n]? = some D → n < ρ.length → (h ++ [c])[n]? = some x → x.mut = true → False := fun n x q1 qn q2 q3 => by
      refine hn n (fun z => ?_) q1
      have := (r.zc n x (splitH n x qn q2)).mpr z
      rw [q3] at this; cases this
    rcases split m a e1 with ⟨q, qn⟩ | ⟨q1, q2⟩
    · rcases split n a e2 with ⟨q', qn'⟩ | ⟨q1', q2'⟩
      · exact r.inj m n a x y q q' (splitH m x qn e3) (splitH n y qn' e4) m1 m2
      · subst q2'; exact (no m x q qn e3 m1).elim
    · rcases split n a e2 with ⟨q', qn'⟩ | ⟨q1', q2'⟩
      · subst q2; exact (no n y q' qn' e4 m2).elim
      · omega
  · by_cases hm2 : n < h.length
    · rw [List.getElem?_append_left hm2] at e; exact r.zc n x e
    · rw [List.getElem?_append_right (by omega)] at e
      have h2 : n - h.length < [c].length := (List.getElem?_eq_some_iff.mp e).1
      have h3 : n = h.length := by simp at h2; omega
      subst h3; simp at e; subst e
      have := r.pos
      rw [hm]
      constructor
      · intro z; cases z
      · intro z; omega
structure DInv (m : Bool) (T : Tx) (W : WX) (σ : L2.St) (Q : VK) (H1 : Hp) (ρ1 : List Addr) (h1 : Hs) (ns : List Nat) (step : FL.D → Hs → R (Option (FL.D × FL.D))) (items : List FL.D) (D : Addr) (i : Nat) (H2 : Hp) (ρ2 : List Addr) (h2 : Hs) (acc : List (L2.Key × V)) (kvs : List (FL.D × FL.D)) : Prop where
  hr : HR T H2 ρ2 h2
  e : Ext ρ1 ρ2
  k : Keeps H1 H2
  hD : H2 D = some (.dK acc)
  nD : ∀ n : Nat, n ≠ 0 → ρ2[n]? ≠ some D
  rds : KS T.K H2 ρ2 kvs acc
  sm : same ns h1 h2
  fr : ∀ (a : Addr) (o : HO), a ≠ D → H1 a = some o → (∀ n : Nat, n ≠ 0 → ρ1[n]? ≠ some a) → H2 a = some o ∧ ∀ n : Nat, n ≠ 0 → ρ2[n]? ≠ some a
  hq : PR T W σ H1 ρ1 (RAd T.K) Q (dcRest m ns h1 step kvs (items.drop i) h2)
theorem dcomp_read {m : Bool} {own : List Nat} {t : FT} {it c ek ev_ : FE} (hsl : (ftSlots t).all own.contains = true) {σ : L2.St} {H : Hp} {Q : VK} (hh : tE Γ T W (.dcomp m own t it c ek ev_) σ H Q) : tDc (tI Γ T W it) (tG T t) (tT Γ T WN c) (tE Γ T WN ek) (tE Γ T WN ev_) own σ H (FrzQ Q) := by
  have hin : ∀ j ∈ ftSlots t, j ∈ own := fun j hj => by simpa using List.all_eq_true.mp hsl j hj
  obtain ⟨ρ, ls, h, rl, hr, hq⟩ := hh
  rw [ev] at hq
  refine ⟨ρ, ls, h, rl, hr, PR.bindK hq fun w h1 ρ1 H1 _ e1 k1 hr1 hq1 J wk => fun D hD => ?_⟩
  obtain ⟨items, ns⟩ := w
  have rl1 : RL T.K H1 ρ1 ls σ := rl.mono k1 e1
  have wk' : Walk T J items ns h1 ρ1 H1 := wk
  have hq2 : PR T W σ H1 ρ1 (RAd T.K) Q (dcRest m ns h1 (dcStep Γ own t c ek ev_ ls) [] items h1) := by
    have hq1 : PR T W σ H1 ρ1 (RAd T.K) Q ((dcompL ns h1 (dcStep Γ own t c ek ev_ ls) items [] h1).bind fun kvs h2 => newD m h2 kvs) := hq1
    unfold dcRest
    cases q : dcompL ns h1 (dcStep Γ own t c ek ev_ ls) items [] h1 with
    | bad => rw [q] at hq1; exact hq1.elim
    | exc _ _ _ => exact (dcompL_exc _ _ _ _ _ _ _ _ _ q).elim
    | ok zs h3 => rw [q] at hq1; exact hq1
  refine ⟨fun i j H2 => j = items.length - i ∧ i ≤ items.length ∧ ∃ ρ2 h2 acc kvs, DInv m T W σ Q H1 ρ1 h1 ns (dcStep Γ own t c ek ev_ ls) items D i H2 ρ2 h2 acc kvs, ⟨items.length, by simp, Nat.zero_le _, ρ1, h1, [], [], ?_⟩, ?_⟩
  · exact ⟨hr1.newO hD, Ext.refl _, Keeps.new hD, upd_same, hr1.fresh hD, .nil, fun _ _ => rfl, fun a o ne h n => ⟨by rw [upd_ne ne]; exact h, n⟩, by simpa using hq2⟩
  · rintro i _ H2 ⟨rfl, hi2, ρ2, h2, acc, kvs, cv⟩
    by_cases hlt : i < items.length
    · have hd := List.drop_eq_getElem_cons hlt
      have hq3 := cv.hq
      rw [hd] at hq3
      obtain ⟨y, h3, es, sm3, er⟩ := dcRest_cons hq3
      obtain ⟨ls2, b, h', ea, et, ey⟩ := dcStep_ok es
      refine .inr ⟨wk'.go i ρ2 H2 h2 cv.hr cv.e cv.k cv.sm hlt, fun H' => ∃ ρ' hh' acc' kvs', DInv m T W σ Q H1 ρ1 h1 ns (dcStep Γ own t c ek ev_ ls) items D (i + 1) H' ρ' hh' acc' kvs', fun H' hH' => ⟨items.length - (i + 1), by omega, rfl, by omega, hH'⟩, fun x H3 hy => ?_⟩
      obtain ⟨s3, rdx⟩ := wk'.yld i ρ2 H2 h2 x H3 items[i] cv.hr cv.e cv.k cv.sm (List.getElem?_eq_getElem hlt) hy
      have hr3 := cv.hr.keep s3
      have k13 : Keeps H1 H3 := cv.k.trans (sameKeeps s3)
      have hD3 : H3 D = some (.dK acc) := s3 _ _ cv.hD
      refine ⟨ρ2, FL.wipe ls own, items[i], ls2, (rl1.mono k13 cv.e).forget own, rdx, ea, fun σ3 rl3 on3 => ⟨wipe_only on3 hin, ρ2, ls2, h2, rl3, hr3, ?_⟩⟩
      rw [et]
      rintro ρ4 b' H4 e4 k4 hr4 rfl
      obtain ⟨hD4, nD4⟩ := k4.fr D _ hD3 cv.nD
      rcases ey with ⟨rfl, y1, y2, h4, ez1, ez2, rfl⟩ | ⟨rfl, rfl, rfl⟩
      · rw [if_pos rfl]
        have rl4 := rl3.mono k4.k e4
        refine ⟨ρ4, ls2, h', rl4, hr4, ?_⟩
        rw [ez1]
        intro ρ5 v1 H5 e5 k5 hr5 rd5
        obtain ⟨hD5, nD5⟩ := k5.fr D _ hD4 nD4
        refine ⟨ρ5, ls2, h4, rl4.mono k5.k e5, hr5, ?_⟩
        rw [ez2]
        intro ρ6 v2 H6 e6 k6 hr6 rd6
        obtain ⟨hD6, nD6⟩ := k6.fr D _ hD5 nD5
        have k26 : Keeps H2 H6 := (((sameKeeps s3).trans k4.k).trans k5.k).trans k6.k
        rcases er with ⟨kk, vv, nk, ekv, hk, ok, hz, er⟩ | ⟨e0, _⟩
        · cases ekv
          rw [er] at hq3
          obtain ⟨l, hl⟩ := Option.isSome_iff_exists.mp ok
          obtain ⟨hg1, hg2⟩ := HR.growK (ys := putK acc l v2) hr6 hD6 nD6
          refine ⟨acc, l, scal_V rd5 hl, hD6, by rw [← cv.rds.length]; exact hz, ρ6, h3, putK acc l v2, dput nk y1 y2 kvs, hg1, cv.e.trans ((e4.trans e5).trans e6), (cv.k.trans k26).trans hg2, upd_same, nD6, ?_, sm3, ?_, hq3⟩
          · exact ((cv.rds.mono k26 ((e4.trans e5).trans e6)).put hl hk rd6).mono hg2 (Ext.refl _)
          · intro a o ne h0 n0
            obtain ⟨q1, q2⟩ := cv.fr a o ne h0 n0
            obtain ⟨q3, q4⟩ := k4.fr a o (s3 _ _ q1) q2
            obtain ⟨q5, q6⟩ := k5.fr a o q3 q4
            obtain ⟨q7, q8⟩ := k6.fr a o q5 q6
            exact ⟨by rw [upd_ne ne]; exact q7, q8⟩
        · cases e0
      · rw [if_neg Bool.false_ne_true]
        have k24 : Keeps H2 H4 := (sameKeeps s3).trans k4.k
        rcases er with ⟨kk, vv, nk, ekv, _⟩ | ⟨_, er⟩
        · cases ekv
        · rw [er] at hq3
          refine ⟨ρ4, h3, acc, kvs, hr4, cv.e.trans e4, cv.k.trans k24, hD4, nD4, cv.rds.mono k24 e4, sm3, ?_, hq3⟩
          intro a o ne h0 n0
          obtain ⟨q1, q2⟩ := cv.fr a o ne h0 n0
          exact k4.fr a o (s3 _ _ q1) q2
    · have ei : i = items.length := by omega
      subst ei
      refine .inl ⟨wk'.stop ρ2 H2 h2 cv.hr cv.e cv.k cv.sm, ?_⟩
      have hq3 := cv.hq
      rw [List.drop_length] at hq3
      unfold dcRest at hq3
      rw [dcompL] at hq3
      simp only [R.must_ok] at hq3
      have fr2 : ∀ (a : Addr) (o : HO), H1 a = some o → (∀ n : Nat, n ≠ 0 → ρ1[n]? ≠ some a) → a ≠ D ∧ H2 a = some o ∧ ∀ n : Nat, n ≠ 0 → ρ2[n]? ≠ some a := fun a o h0 n0 =>
        have ne : a ≠ D := ne_of_none h0 hD
        ⟨ne, cv.fr a o ne h0 n0⟩
      cases m with
      | true =>
        refine FrzQ.of (hq3 (ρ2 ++ [D]) (.ref D) H2 (cv.e.trans (Ext.app _ _)) ?_ ?_ (.loc (by rw [← cv.hr.len]; simp)))
        · refine ⟨cv.k, fun a o h0 n0 => ?_⟩
          obtain ⟨ne, q1, q2⟩ := fr2 a o h0 n0
          refine ⟨q1, fun m m0 em => ?_⟩
          by_cases hm : m < ρ2.length
          · rw [List.getElem?_append_left hm] at em; exact q2 m m0 em
          · rw [List.getElem?_append_right (by omega)] at em
            have h2 : m - ρ2.length < [D].length := (List.getElem?_eq_some_iff.mp em).1
            have h3 : m - ρ2.length = 0 := by simp at h2; omega
            rw [h3] at em; simp at em; exact ne em.symm
        · exact HR.adoptC cv.hr rfl cv.nD ⟨acc, cv.hD, cv.rds.mono (Keeps.refl _) (Ext.app _ _)⟩
      | false =>
        have mL : MutL [D] H2 := ⟨by simp, fun a h => by rw [List.mem_singleton.mp h]; exact ⟨_, cv.hD, trivial⟩⟩
        refine ⟨[D], mL, fun H' lk => ?_⟩
        obtain ⟨o, ho⟩ := lk.in_ D (by simp) _ cv.hD
        have kp := lk.keeps mL
        obtain ⟨z1, z2⟩ := (cv.rds.mono kp (Ext.refl _)).split
        refine hq3 ρ2 (.ref D) H' cv.e ⟨cv.k.trans kp, fun a o h0 n0 => ?_⟩ (cv.hr.lckd lk mL fun n c a e1 e2 hm hL => ?_) (.fd ho z1 rfl z2)
        · obtain ⟨ne, q1, q2⟩ := fr2 a o h0 n0
          exact ⟨by rw [lk.out a (by simpa using ne)]; exact q1, q2⟩
        · rw [List.mem_singleton.mp hL] at e2
          refine cv.nD n (fun z => ?_) e2
          have := (cv.hr.zc n c e1).mpr z
          rw [hm] at this; cases this
theorem s_dcomp {m : Bool} {own : List Nat} {t : FT} {it c ek ev_ : FE} {kx vx tg iter : Expr} {ifs : List Expr} {scope : Scope} {pos : Pos} (O : Ok T B k S X W) (hb : blkC S.N S.sc scope (ownOf S own) = true) (hs : noSet iter = true) (hi : PI X tg iter (tI Γ T W it))
    (hg : mT (FL.blk S scope) t tg = true) (hsl : (ftSlots t).all own.contains = true) (ht : ∀ X', Ok T B k (FL.blk S scope) X' WN → PTs X' ifs (tT Γ T WN c)) (hk : ∀ X', Ok T B k (FL.blk S scope) X' WN → PE X' kx (tE Γ T WN ek)) (he : ∀ X', Ok T B k (FL.blk S scope) X' WN → PE X' vx (tE Γ T WN ev_)) :
    PE X (.DictComp kx vx [⟨tg, iter, ifs, 0⟩] scope pos) (tE Γ T W (.dcomp m own t it c ek ev_)) := by
  have okb : BlkOk X.N X.env.scope scope (ownOf S own) := by rw [O.N, O.sc]; exact blkOk_by hb
  refine peW (pe_frz (pe_dc O.calm O.nd hi okb (fun s H C cl fp => (g_ok (O.blk scope s H C cl fp) t).1 tg hg) (fun s H C cl fp => ht _ (O.blk scope s H C cl fp)) (fun s H C cl fp => hk _ (O.blk scope s H C cl fp)) (fun s H C cl fp => he _ (O.blk scope s H C cl fp)) (set_fold hs))) fun σ H Q hh => ?_
  rw [ownOf_eq]
  exact dcomp_read hsl hh
/-- y = {..}: the compiler's own road -/
theorem sw_trueD {kx vx : Expr} {gs : List Comprehension} {scope : Scope} {pos py : Pos} {y : Str} {l : Nat} {env : Env} (hk : env.scope.kind = .function) (hy : env.scope.names.lookup y = some .local) (hl : (py.line == pos.line) = true)
    (ha : (scope.names.any fun (n, k) => n == y && (k == .local || k == .cell)) = false) : swapsWith (.DictComp kx vx gs scope pos) (some (.Name y py)) l env = pure true := by
  have ky : env.kindOf y = some .local := hy
  have hb : env.blockKind = .function := by unfold Env.blockKind; rw [hk]; rfl
  unfold swapsWith
  simp only [hb, ky, ha, Expr.pos, hl]
  rfl
theorem p_setDc {m : Bool} {i : Nat} {y : Str} {own : List Nat} {t : FT} {it c ek ev_ : FE} {kx vx tg iter : Expr} {ifs : List Expr} {scope : Scope} {py pos spos : Pos} (O : Ok T B k S X W) (hy : X.N[i]? = some y) (hyl : X.env.scope.names.lookup y = some .local)
    (hl : (py.line == pos.line) = true) (ha : (scope.names.any fun (n, k) => n == y && (k == .local || k == .cell)) = false) (hkd : X.env.scope.kind = .function)
    (hb : blkC S.N S.sc scope (ownOf S own) = true) (hs : noSet iter = true) (hi : PI X tg iter (tI Γ T W it))
    (hg : mT (FL.blk S scope) t tg = true) (hsl : (ftSlots t).all own.contains = true) (ht : ∀ X', Ok T B k (FL.blk S scope) X' WN → PTs X' ifs (tT Γ T WN c)) (hk : ∀ X', Ok T B k (FL.blk S scope) X' WN → PE X' kx (tE Γ T WN ek)) (he : ∀ X', Ok T B k (FL.blk S scope) X' WN → PE X' vx (tE Γ T WN ev_)) :
    PS X (.Assign [.Name y py] (.DictComp kx vx [⟨tg, iter, ifs, 0⟩] scope pos) spos) (tAsg (tE Γ T W (.dcomp m own t it c ek ev_)) (gName i)) := by
  have okb : BlkOk X.N X.env.scope scope (ownOf S own) := by rw [O.N, O.sc]; exact blkOk_by hb
  have base : PS X (.Assign [.Name y py] (.DictComp kx vx [⟨tg, iter, ifs, 0⟩] scope pos) spos) (tAsg (tDc (tI Γ T W it) (tG T t) (tT Γ T WN c) (tE Γ T WN ek) (tE Γ T WN ev_) ((ownOf S own).map (·.2))) (gName i)) := by
    refine ⟨fun pins s σ H D I h => ?_⟩
    rw [exec_Assign_Name_used _ _ _ _ (sw_trueD hkd hyl hl ha)]
    refine wpAny_bind (wpAny_standAt (wpAny_bind ?_))
    show wpAny _ X.A (do let _ ← comprehension (.DictComp kx vx [⟨tg, iter, ifs, 0⟩] scope pos) scope X.env (firstIterPos [⟨tg, iter, ifs, 0⟩] pos) newDict false (eval iter X.env) (some (assign (.Name y py) X.env))) _ _ s
    refine wpAny_bind (thn (dc_core (Qf := fun _ s' => SP X pins D .next s') (Q := fun x H1 => gName i x σ H1 D.nx) O.calm O.nd I hi okb (fun s H C cl fp => (g_ok (O.blk scope s H C cl fp) t).1 tg hg) (fun s H C cl fp => ht _ (O.blk scope s H C cl fp)) (fun s H C cl fp => hk _ (O.blk scope s H C cl fp)) (fun s H C cl fp => he _ (O.blk scope s H C cl fp)) (set_fold hs) h fun L C s' m H' I' q hn f => ?_) fun _ s' hq => wpAny_pure (wpAny_pure hq))
    show wpAny _ _ (assign (.Name y py) X.env (.ref L)) _ _ _
    refine wpAny_assign_Name (store_ok2 (v := V.ref L) I' O.nd hy (.inl hyl) rfl (fun s2 I2 ⟨a, sb, ha⟩ => ?_) (.inr hyl))
    obtain ⟨f0, f1, f2, f3, f4, f5⟩ := f
    have haC : C ≠ a := by
      rcases ha with z | z
      · rw [z]; exact f1
      · exact fun e => f4 y a z e.symm
    exact ⟨m, hn.sameBut sb haC, fun h3 sb3 => ⟨_, H', I2.turned (t' := s2.toks) (fun b o hb e => (sb3.2 b hb).trans e) f0 f1 f3 f4 f5, q⟩⟩
  refine psW (ps_frz base) fun D σ H hh => ?_
  unfold tAsg at hh ⊢
  rw [ownOf_eq]
  exact dcomp_read hsl hh
end
end FL
set_option autoImplicit false
set_option linter.all false
set_option maxRecDepth 100000
set_option maxHeartbeats 1000000
/-! FL, part O: instances of own classes. -/
namespace FL
open PySem L2 PyProof.Rows PySem.SeqAt
theorem noSup_ok {o : Expr} {m : Str} {env : Env} (h : noSup o = true) : attributeBase o m env (eval o env) = eval o env := by
  unfold attributeBase
  split
  · rename_i id p p2
    have h : (id != ("super" : Str)) = true := h
    simp [h]
  · rfl
theorem fieldsR.putF {K : PySem.W.Frag} {H : Hp} {ρ : List Addr} {f : Str} {d : FL.D} {v : V} (rd : RD K H ρ d v) : ∀ {fs : List (Str × FL.D)} {gs : List (Str × V)}, fieldsR K H ρ fs gs → fieldsR K H ρ (FL.putF f d fs) (L2.putF f v gs)
  | _, _, .nil => .cons ⟨rfl, rd⟩ .nil
  | _, _, .cons (a := a) (b := b) h hs => by
    obtain ⟨g, w⟩ := a
    obtain ⟨g2, w2⟩ := b
    obtain ⟨h1, h2⟩ := h
    have h1 : g = g2 := h1
    subst h1
    by_cases e : g = f
    · simp only [FL.putF, L2.putF, if_pos e]
      exact .cons ⟨rfl, rd⟩ hs
    · simp only [FL.putF, L2.putF, if_neg e]
      exact .cons ⟨rfl, h2⟩ (fieldsR.putF rd hs)
section
variable {G : Sg} {T : Tx} {B : Heap} {Γ : Cfg} {k : Nat} {S : Sx} {X : Cx} {W : WX}
theorem s_attr {o : FE} {eo : Expr} {f : Str} {pos : Pos} (O : Ok T B k S X W) (X0 : Text G T B Γ k) (hf : G.attrs.contains f = true) (hs : noSup eo = true) (ho : PE X eo (tE Γ T W o)) : PE X (.Attribute eo f pos) (tE Γ T W (.attr o f)) := by
  refine peW (pe_fld ho (noSup_ok hs)) fun σ H Q hh => ?_
  obtain ⟨ρ, ls, h, rl, hr, hq⟩ := hh
  rw [ev] at hq
  refine ⟨ρ, ls, h, rl, hr, PR.bind hq fun d h1 ρ1 v H1 _ e k1 hr1 rd hq1 => ?_⟩
  have hK : X.K = T.K := congrArg Tx.K O.tx
  cases rd with
  | @loc n a hn =>
    simp only [getF] at hq1
    split at hq1
    · rename_i c fs hc
      split at hq1
      · rename_i hcs
        obtain ⟨C, dx, gs, g0, g1, g2⟩ := hr1.at_ n _ a hc hn
        obtain ⟨C', m1, cl, na⟩ := X0.cls c hcs
        rw [g0] at m1; cases m1
        obtain ⟨x, ex, hq1⟩ := hq1.ofO
        obtain ⟨u, eu, ru⟩ := g2.lookup.1 x ex
        rw [hK]
        exact ⟨a, C, dx, gs, u, rfl, g1, cl, na f hf, eu, hq1.ok hr1 ru⟩
      · exact hq1.elim
    · exact hq1.elim
  | _ => exact hq1.elim
/-- o.m(..) of an own class -/
def tMethS (C : Addr) (m : Str) (sp : Sp) (E : L2.St → XK) (ta : TE) (t : TA) : TE := fun σ H Q => ta σ H fun x H1 => ∃ a dx fs, x = .ref a ∧ H1 a = some (.ins C dx fs) ∧ fs.lookup m = none ∧ t σ H1 fun vs H2 => sp (x :: vs) H2 Q (E σ)
theorem meth_tree {o : Expr} {m : Str} {apos pos : Pos} {es : List Expr} {env : Env} (hb : attributeBase o m env (eval o env) = eval o env) (hl : (apos.endLine == pos.line) = true)
    (hf : methodCallForm (es.length + ([] : List Keyword).length) (backTo pos (starEach es env)) (backToKw pos (keywordEach [] env)) = true) : eval (.Call (.Attribute o m apos) es [] pos) env = (do
      let ov ← eval o env
      standAt apos.atName
      let (f, first) ← holding [ov] (getMethod ov m (do return (← importBound o env).getD true))
      callWith pos f first (backTo pos (starEach es env)) (backToKw pos (keywordEach [] env))) := by
  rw [arm_eval_Call, hb]
  unfold methodCall
  rw [hf]
  have hp : methodCallPos true o env apos pos = pure pos := by unfold methodCallPos; simp [hl]
  rw [hp]
  simp only [calleeOf, if_true, pure_bind]
theorem pe_methS {C f : Addr} {fd : FuncData} {ps : List Str} {sp : Sp} {E : L2.St → XK} {m : Str} {apos pos : Pos} {o e : Expr} {es : List Expr} {ta : TE} {t : TA} (he : PE X o ta) (c : Cls X.K C) (hm : Meth X.K C m f) (F : FnOk X.prog X.w X.K X.mg X.base (L2.CX X.prog X.w) k f fd ps sp) (hr : Room k X.A) (hb : Binds X.K fd ps [])
    (hx : ∀ σ, PassesAt (L2.CX X.prog X.w) X σ (E σ)) (ha : PA X (e :: es) t) (hst : starEach (e :: es) X.env = (false, eval e X.env) :: starEach es X.env) (hpl : (backTo pos (starEach es X.env)).any (·.1) = false)
    (hbs : attributeBase o m X.env (eval o X.env) = eval o X.env) (hl : (apos.endLine == pos.line) = true) (hf : methodCallForm ((e :: es).length + ([] : List Keyword).length) (backTo pos (starEach (e :: es) X.env)) (backToKw pos (keywordEach [] X.env)) = true) :
    PE X (.Call (.Attribute o m apos) (e :: es) [] pos) (tMethS C m sp E ta t) := by
  refine ⟨fun pins s σ H Q I h => ?_⟩
  refine PySem.W.methodCall_KW (thn (he.run pins s σ H _ I h) fun u s1 ⟨x, H1, I1, rx, a, dx, fs, ex, ea, l, q⟩ => ?_) (meth_tree hbs hl hf)
  subst ex
  obtain rfl : u = Value.ref a := rx
  refine getmeth_ok I1 ea c hm l ?_
  refine PySem.W.callWith_K (first := [.ref a]) (h₀ := X.base) I.ok.mod.kin hm.kp (thn (ha.run pos pins s1 σ H1 _ I1 q) fun us s2 ⟨vs, H2, I2, r, q2⟩ => ⟨I2.kIn, ?_⟩) hst hpl
  exact run_fnS (us := .ref a :: us) (vs := .ref a :: vs) F hr hb (hx σ) I2 (.cons rfl r) q2
theorem pe_methS0 {C f : Addr} {fd : FuncData} {ps : List Str} {sp : Sp} {E : L2.St → XK} {m : Str} {apos pos : Pos} {o : Expr} {ta : TE} (he : PE X o ta) (c : Cls X.K C) (hm : Meth X.K C m f) (F : FnOk X.prog X.w X.K X.mg X.base (L2.CX X.prog X.w) k f fd ps sp) (hr : Room k X.A) (hb : Binds X.K fd ps [])
    (hx : ∀ σ, PassesAt (L2.CX X.prog X.w) X σ (E σ)) (hbs : attributeBase o m X.env (eval o X.env) = eval o X.env) (hl : (apos.endLine == pos.line) = true) :
    PE X (.Call (.Attribute o m apos) [] [] pos) (tMethS C m sp E ta tNil) := by
  refine ⟨fun pins s σ H Q I h => ?_⟩
  refine PySem.W.methodCall_KW (thn (he.run pins s σ H _ I h) fun u s1 ⟨x, H1, I1, rx, a, dx, fs, ex, ea, l, q⟩ => ?_) (meth_tree hbs hl rfl)
  subst ex
  obtain rfl : u = Value.ref a := rx
  refine getmeth_ok I1 ea c hm l ?_
  exact PySem.W.callWith_K0 (first := [.ref a]) I1.kIn hm.kp (run_fnS (us := [.ref a]) (vs := [.ref a]) F hr hb (hx σ) I1 (.cons rfl .nil) q)
theorem form_ok {as : FE} {es : List Expr} {env : Env} {pos : Pos} (hm : mEs G as S es = true) (hl : es.length < 20) : methodCallForm (es.length + ([] : List Keyword).length) (backTo pos (starEach es env)) (backToKw pos (keywordEach [] env)) = true := by
  have h := stars_plain (env := env) (pos := pos) hm
  unfold methodCallForm
  rw [Bool.and_eq_true, Bool.and_eq_true]
  refine ⟨⟨?_, rfl⟩, by simp [backToKw, keywordEach]; omega⟩
  rw [List.all_eq_true]
  intro x hx
  rw [List.any_eq_false] at h
  simpa using h x hx
theorem s_meth {b : Bool} {c m : Str} {o as : FE} {eo : Expr} {es : List Expr} {apos cpos : Pos} (O : Ok T B k S X W) (X0 : Text G T B Γ k) (hc : G.mths.contains (c, m) = true) (hs : noSup eo = true) (hl : (apos.endLine == cpos.line) = true) (hz : es.length < 20) (hm : mEs G as S es = true)
    (ho : PE X eo (tE Γ T W o)) (has : PA X es (tEs Γ T W as)) : PE X (.Call (.Attribute eo m apos) es [] cpos) (tE Γ T W (.meth b c m o as)) := by
  obtain ⟨C, a, fd, ps, m1, cl, mt, bi, F⟩ := X0.mth c m hc
  obtain rfl : txOf X = T := O.tx
  obtain rfl : X.base = B := O.base
  have go : ∀ {t : TA}, PE X (.Call (.Attribute eo m apos) es [] cpos) (tMethS C m (spF (txOf X) (Γ.call (c ++ "." ++ m))) (WE W) (tE Γ (txOf X) W o) t) → (∀ σ H Q, tEs Γ (txOf X) W as σ H Q → t σ H Q) → PE X (.Call (.Attribute eo m apos) es [] cpos) (tE Γ (txOf X) W (.meth b c m o as)) := by
    intro t hP hT
    refine peW (pe_frz hP) fun σ H Q hh => ?_
    obtain ⟨ρ, ls, h, rl, hr, hq⟩ := hh
    rw [ev] at hq
    refine ⟨ρ, ls, h, rl, hr, PR.bind (gcX_sound hr hq) fun d h1 ρ1 v H1 _ e1 k1 hr1 rd hq1 => ?_⟩
    split at hq1
    · rename_i hi
      cases rd with
      | @loc n a2 hn2 =>
        simp only [isObj] at hi
        split at hi
        · rename_i c' fs hcell
          rw [Bool.and_eq_true, decide_eq_true_eq] at hi
          obtain ⟨rfl, hn⟩ := hi
          obtain ⟨C', dx, gs, g0, g1, g2⟩ := hr1.at_ n _ a2 hcell hn2
          rw [g0] at m1; cases m1
          refine ⟨a2, dx, gs, rfl, g1, g2.lookup.2 (by simpa using hn), hT _ _ _ ⟨ρ1, ls, h1, rl.mono k1 e1, hr1, PR.bind hq1 fun ds h2 ρ2 vs H2 _ e2 k2 hr2 rds hq2 => ?_⟩⟩
          exact ⟨ρ2, .loc n :: ds, h2, .cons (.loc (e2 _ _ hn2)) rds, hr2, hq2.imp (fun _ _ q => q) fun _ _ _ q => q⟩
        · cases hi
      | _ => cases hi
    · exact hq1.elim
  cases es with
  | nil =>
    refine go (t := tNil) (pe_methS0 ho cl mt F O.room bi (fun σ => passAt O.takes σ) (noSup_ok hs) hl) fun σ H Q hh => ?_
    obtain ⟨ρ, ls, h, rl, hr, hq⟩ := hh
    cases as <;> simp only [mEs] at hm <;> first | (simp at hm; done) | skip
    rw [evs] at hq
    exact PR.ok (RA := RAs (txOf X).K) hq hr .nil
  | cons e es =>
    obtain ⟨n1, n2⟩ := mEs_cons hm
    exact go (pe_methS ho cl mt F O.room bi (fun σ => passAt O.takes σ) has (star_cons n1) (n2 _ _) (noSup_ok hs) hl (form_ok hm hz)) fun _ _ _ q => q
/-- C(..) -/
def tMakeS (C : Addr) (sp : Sp) (E : L2.St → XK) (t : TA) : TE := fun σ H Q => t σ H fun vs H1 => ∀ x dx, H1 x = none → H1 dx = none → dx ≠ x →
  sp (.ref x :: vs) (upd (upd H1 dx (.own x)) x (.ins C dx [])) (fun v H2 => v = .non ∧ Q (.ref x) H2) (E σ)
theorem pe_makeS {k' : Nat} {C f : Addr} {fd : FuncData} {ps : List Str} {sp : Sp} {E : L2.St → XK} {x : Str} {p pos : Pos} {e : Expr} {es : List Expr} {t : TA} (M : Mk X.K C f) (F : FnOk X.prog X.w X.K X.mg X.base (L2.CX X.prog X.w) k' f fd ps sp) (hr : Room (k' + 1) X.A) (hg : Gl X x) (hm : X.mg x = some (.ref C)) (hb : Binds X.K fd ps [])
    (hx : ∀ σ, PassesAt (L2.CX X.prog X.w) X σ (E σ)) (ha : PA X (e :: es) t) (hdb : (x == ("__debug__" : Str)) = false) (he : starEach (e :: es) X.env = (false, eval e X.env) :: starEach es X.env) (hpl : (backTo pos (starEach es X.env)).any (·.1) = false) :
    PE X (.Call (.Name x p) (e :: es) [] pos) (tMakeS C sp E t) := by
  refine ⟨fun pins s σ H Q I h => ?_⟩
  refine wpAny_Call_Name_kw (ld_glob I hg hm ?_ hdb)
  refine PySem.W.callWith_K (h₀ := X.base) I.ok.mod.kin M.kp (thn (ha.run pos pins s σ H _ I h) fun us s1 ⟨vs, H1, I1, r, q⟩ => ⟨I1.kIn, ?_⟩) he hpl
  have hq := q (s1.heap.objs.size + 1) s1.heap.objs.size (I1.hok.fresh (Nat.le_succ _)) (I1.hok.fresh (Nat.le_refl _)) (Nat.ne_of_lt (Nat.lt_succ_self _))
  have I2 := Inv.made (C := C) I1
  have r2 : Vals (V.ref (s1.heap.objs.size + 1) :: vs) (Value.ref (s1.heap.objs.size + 1) :: us) := .cons rfl r
  have hl : (Value.ref (s1.heap.objs.size + 1) :: us ++ []).length = ps.length := by
    rw [List.append_nil]
    have e := r2.length
    rw [F.len _ _ _ _ hq] at e
    exact e.symm
  have hb2 := hb _ (Value.ref (s1.heap.objs.size + 1) :: us) I2.kIn hl
  rw [List.append_nil] at hb2
  refine wpAny_call (make_map (f := f) I1.kIn M.makes M.init (beq_iff_eq.mp M.fn) (codeAny_mono (F.run _ X.stack _ _ ⟨Value.ref (s1.heap.objs.size + 1) :: us, []⟩ (Value.ref (s1.heap.objs.size + 1) :: us) _ _ (E σ) (hr.make C us [])
    (I2.env0.make C us []) hb2 r2 hq) fun r s' hq' => ?_))
  cases r with
  | error e => exact hx σ pins _ _ e s' I2 hq'
  | ok fl =>
    cases fl with
    | ret u =>
      obtain ⟨v, H', I3, rv, ev, q3⟩ := I2.after hq'
      subst ev
      exact ⟨rv, ⟨V.ref (s1.heap.objs.size + 1), H', I3, rfl, q3⟩⟩
    | next => exact False.elim hq'
    | brk => exact False.elim hq'
    | cont => exact False.elim hq'
theorem s_new {c : Str} {as : FE} {e : Expr} {es : List Expr} {p pos : Pos} (O : Ok T B k S X W) (X0 : Text G T B Γ k) (h1 : isGl S.sc c = true) (h2 : G.inis.contains c = true) (hm : mEs G as S (e :: es) = true) (has : PA X (e :: es) (tEs Γ T W as)) :
    PE X (.Call (.Name c p) (e :: es) [] pos) (tE Γ T W (.new c as)) := by
  obtain ⟨g1, g2⟩ := isGl_ok O.sc h1
  obtain ⟨C, a, fd, ps, m1, mk, bi, F⟩ := X0.ini c h2
  obtain ⟨n1, n2⟩ := mEs_cons hm
  obtain rfl : txOf X = T := O.tx
  obtain rfl : X.base = B := O.base
  cases k with
  | zero =>
    have hbad := X0.ini0 rfl
    refine ⟨fun pins s σ H Q I hh => ?_⟩
    obtain ⟨ρ, ls, h, rl, hr, hq⟩ := hh
    rw [ev] at hq
    refine wpAny_Call_Name_kw (ld_glob I g1 m1 ?_ g2)
    refine PySem.W.callWith_K (h₀ := X.base) I.ok.mod.kin mk.kp (thn (has.run pos pins s σ H (fun _ _ => False) I ⟨ρ, ls, h, rl, hr, PR.bind hq fun ds h1 ρ1 vs H1 _ e k1 hr1 rds hq1 => ?_⟩) fun us s1 ⟨_, _, _, _, q⟩ => q.elim) (star_cons n1) (n2 _ _)
    rw [hbad] at hq1
    exact hq1.elim
  | succ k' =>
    refine peW (pe_makeS mk (F k' rfl) O.room g1 m1 bi (fun σ => passAt O.takes σ) has g2 (star_cons n1) (n2 _ _)) fun σ H Q hh => ?_
    obtain ⟨ρ, ls, h, rl, hr, hq⟩ := hh
    rw [ev] at hq
    refine ⟨ρ, ls, h, rl, hr, PR.bind hq fun ds h1 ρ1 vs H1 _ e k1 hr1 rds hq1 => fun x dx hx hdx ne => ?_⟩
    have hx1 : upd H1 dx (.own x) x = none := by rw [upd_ne (Ne.symm ne)]; exact hx
    have kf1 : KF H1 ρ1 (upd H1 dx (.own x)) ρ1 := KF.new hdx
    have kf2 : KF (upd H1 dx (.own x)) ρ1 (upd (upd H1 dx (.own x)) x (.ins C dx [])) (ρ1 ++ [x]) := KF.newC hx1
    have kf := kf1.trans kf2
    have hr2 : HR (txOf X) (upd (upd H1 dx (.own x)) x (.ins C dx [])) (ρ1 ++ [x]) (h1 ++ [.obj c []]) := (hr1.newO hdx).newC hx1 rfl ⟨C, dx, [], m1, upd_same, .nil⟩
    refine ⟨ρ1 ++ [x], .loc h1.length :: ds, h1 ++ [.obj c []], RDs.cons (.loc (by rw [← hr1.len]; simp)) (rds.mono kf.k (Ext.app _ _)), hr2, ?_⟩
    refine PR.bind (hq1.after (Ext.app _ _) kf) fun d h2 ρ2 v H2 _ e2 k2 hr3 rd hq2 => ?_
    split at hq2
    · rename_i hn
      have hv : v = .non := by have := isNon_eq rd; rw [hn] at this; exact of_decide_eq_true this.symm
      refine ⟨hv, PR.ok hq2 hr3 (.loc (e2 _ _ ?_))⟩
      rw [← hr1.len]; simp
    · exact hq2.elim
end
end FL
set_option autoImplicit false
set_option linter.all false
set_option maxRecDepth 100000
set_option maxHeartbeats 1000000
/-! FL, part U: d.get, d.setdefault, {k: v, ..}, sorted(set(..)), len(set(..)), o.f, o.g = ... -/
namespace FL
open PySem L2 PyProof.Rows PySem.SeqAt
section
variable {G : Sg} {T : Tx} {B : Heap} {Γ : Cfg} {k : Nat} {S : Sx} {X : Cx} {W : WX}
theorem m1_of {o e : Expr} {m : Str} {apos cpos : Pos} (hc : noCall o = true) (hl : (apos.endLine == cpos.line) = true) (n1 : noStar e = true) : M1 X o m apos e cpos := ⟨call_base hc, by rw [star_cons n1]; rfl, hl, by rw [star_cons n1]; rfl⟩
theorem m2_of {o e f : Expr} {m : Str} {apos cpos : Pos} (hc : noCall o = true) (hl : (apos.endLine == cpos.line) = true) (n1 : noStar e = true) (n2 : noStar f = true) : M2 X o m apos e f cpos := ⟨call_base hc, by rw [star_cons n1, star_cons n2]; rfl, hl, by rw [star_cons n1, star_cons n2]; rfl⟩
theorem dget_ok {σ : L2.St} {H : Hp} {ρ : List Addr} {h : Hs} {x y z : FL.D} {p : Addr} {w : V} {Q : VK} (hr : HR T H ρ h) (rx : RD T.K H ρ x (.ref p)) (ry : RD T.K H ρ y w) (hp : PR T W σ H ρ (RAd T.K) Q (dgetD x y z h)) : ∃ o, DGet H p w o ∧ ∀ zv, RD T.K H ρ z zv → Q (o.getD zv) H := by
  unfold dgetD at hp
  split at hp
  · rename_i kvs nk e1 e2
    split at hp
    · rename_i hk
      obtain ⟨l, hl⟩ := Option.isSome_iff_exists.mp hk
      obtain ⟨q, vs, eq, g1, g2⟩ := hr.dictD rx e1
      cases eq
      have ew := scal_V ry hl
      subst ew
      refine ⟨valV vs l, .inl ⟨vs, l, g1, rfl, rfl⟩, fun zv rz => PR.ok hp hr ?_⟩
      obtain ⟨f1, f2⟩ := KS.find hl e2 g2
      cases hd : dfind nk kvs with
      | none => rw [f2 hd]; exact rz
      | some d => obtain ⟨v', hv, rv⟩ := f1 d hd; rw [hv]; exact rv
    · exact hp.elim
  · exact hp.elim
theorem isD_of {H : Hp} {ρ : List Addr} {h : Hs} {x : FL.D} {v : V} (hr : HR T H ρ h) (rx : RD T.K H ρ x v) (e : (dictD h x).isSome = true) : ∃ p, v = .ref p ∧ IsD H p := by
  obtain ⟨kvs, ek⟩ := Option.isSome_iff_exists.mp e
  obtain ⟨p, vs, rfl, g1, g2⟩ := hr.dictD rx ek
  exact ⟨p, rfl, .inl ⟨vs, g1⟩⟩
theorem s_dget1 {o ke : FE} {eo ek : Expr} {apos cpos : Pos} (O : Ok T B k S X W) (hc : noCall eo = true) (hl : (apos.endLine == cpos.line) = true) (n1 : noStar ek = true) (ho : PE X eo (tE Γ T W o)) (hk : PE X ek (tE Γ T W ke)) : PE X (.Call (.Attribute eo "get" apos) [ek] [] cpos) (tE Γ T W (.dget1 o ke)) := by
  refine peW (pe_dget1 (by have := O.un; omega) ho hk (m1_of hc hl n1)) fun σ H Q hh => ?_
  obtain ⟨ρ, ls, h, rl, hr, hq⟩ := hh
  rw [ev] at hq
  refine ⟨ρ, ls, h, rl, hr, PR.bind hq fun d h1 ρ1 v H1 _ e k1 hr1 rd hq1 => ?_⟩
  split at hq1
  · rename_i hi
    obtain ⟨p, rfl, isd⟩ := isD_of hr1 rd hi
    refine ⟨p, rfl, isd, ρ1, ls, h1, rl.mono k1 e, hr1, PR.bind hq1 fun y h2 ρ2 w H2 _ e2 k2 hr2 ry hq2 => ?_⟩
    obtain ⟨oo, g, q⟩ := dget_ok hr2 (rd.mono k2 e2) ry hq2
    exact ⟨oo, g, q _ .non⟩
  · exact hq1.elim
theorem s_dget {o ke c : FE} {eo ek ec : Expr} {apos cpos : Pos} (O : Ok T B k S X W) (hc : noCall eo = true) (hl : (apos.endLine == cpos.line) = true) (n1 : noStar ek = true) (n2 : noStar ec = true) (ho : PE X eo (tE Γ T W o)) (hk : PE X ek (tE Γ T W ke)) (hx : PE X ec (tE Γ T W c)) : PE X (.Call (.Attribute eo "get" apos) [ek, ec] [] cpos) (tE Γ T W (.dget o ke c)) := by
  refine peW (pe_dget2 (by have := O.un; omega) ho hk hx (m2_of hc hl n1 n2)) fun σ H Q hh => ?_
  obtain ⟨ρ, ls, h, rl, hr, hq⟩ := hh
  rw [ev] at hq
  refine ⟨ρ, ls, h, rl, hr, PR.bind hq fun d h1 ρ1 v H1 _ e k1 hr1 rd hq1 => ?_⟩
  split at hq1
  · rename_i hi
    obtain ⟨p, rfl, isd⟩ := isD_of hr1 rd hi
    refine ⟨p, rfl, isd, ρ1, ls, h1, rl.mono k1 e, hr1, PR.bind hq1 fun y h2 ρ2 w H2 _ e2 k2 hr2 ry hq2 => ?_⟩
    refine ⟨ρ2, ls, h2, (rl.mono k1.k e).mono k2.k e2, hr2, PR.bind hq2 fun z h3 ρ3 u H3 _ e3 k3 hr3 rz hq3 => ?_⟩
    obtain ⟨oo, g, q⟩ := dget_ok hr3 ((rd.mono k2.k e2).mono k3.k e3) (ry.mono k3.k e3) hq3
    exact ⟨oo, g, q _ rz⟩
  · exact hq1.elim
theorem s_dsetd {o ke c : FE} {eo ek ec : Expr} {apos cpos : Pos} (O : Ok T B k S X W) (hc : noCall eo = true) (hl : (apos.endLine == cpos.line) = true) (n1 : noStar ek = true) (n2 : noStar ec = true) (ho : PE X eo (tE Γ T W o)) (hk : PE X ek (tE Γ T W ke)) (hx : PE X ec (tE Γ T W c)) : PE X (.Call (.Attribute eo "setdefault" apos) [ek, ec] [] cpos) (tE Γ T W (.dsetd o ke c)) := by
  refine peW (pe_dsetd ho hk hx (m2_of hc hl n1 n2)) fun σ H Q hh => ?_
  obtain ⟨ρ, ls, h, rl, hr, hq⟩ := hh
  rw [ev] at hq
  refine ⟨ρ, ls, h, rl, hr, PR.bind hq fun d h1 ρ1 v H1 _ e k1 hr1 rd hq1 => ?_⟩
  split at hq1
  · rename_i hi
    cases rd with
    | @loc n p hn =>
      obtain ⟨kvs, hx⟩ := Option.isSome_iff_exists.mp (show (mdictAt h1 n).isSome = true from hi)
      obtain ⟨vs, g1, _⟩ := hr1.mdict hn hx
      refine ⟨p, rfl, .inl ⟨vs, .inl g1⟩, ρ1, ls, h1, rl.mono k1 e, hr1, PR.bind hq1 fun y h2 ρ2 w H2 _ e2 k2 hr2 ry hq2 => ?_⟩
      refine ⟨ρ2, ls, h2, (rl.mono k1.k e).mono k2.k e2, hr2, PR.bind hq2 fun z h3 ρ3 u H3 _ e3 k3 hr3 rz hq3 => ?_⟩
      have hn3 : ρ3[n]? = some p := e3 _ _ (e2 _ _ hn)
      simp only [dsetdD] at hq3
      split at hq3
      · rename_i kvs3 nk e1 e4
        split at hq3
        · rename_i hk3
          obtain ⟨l, hl⟩ := Option.isSome_iff_exists.mp hk3.1
          obtain ⟨vs3, g3, g4⟩ := hr3.mdict hn3 e1
          have ew := scal_V (ry.mono k3.k e3) hl
          subst ew
          obtain ⟨f1, f2⟩ := KS.find hl e4 g4
          refine ⟨vs3, l, g3, rfl, by rw [← g4.length]; exact hk3.2, fun v hv => ?_, fun hv => ?_⟩
          · cases hd : dfind nk kvs3 with
            | none => rw [f2 hd] at hv; cases hv
            | some d =>
              obtain ⟨v', hv', rv⟩ := f1 d hd
              rw [hv'] at hv; cases hv
              rw [hd] at hq3
              exact PR.ok hq3 hr3 rv
          · cases hd : dfind nk kvs3 with
            | some d => obtain ⟨v', hv', rv⟩ := f1 d hd; rw [hv'] at hv; cases hv
            | none =>
              rw [hd] at hq3
              have hc3 : h3[n]? = some (.dict kvs3) := by
                unfold mdictAt at e1
                split at e1
                · rename_i z hz; cases e1; exact hz
                · cases e1
              obtain ⟨q1, q2⟩ := hr3.setC (o := .dK (putK vs3 l u)) hc3 hn3 rfl (c' := .dict (dput nk y z kvs3)) rfl ⟨_, upd_same, (g4.put hl e4 rz).mono (Keeps.put g3 (fun _ => nofun) (fun _ _ => nofun)) (Ext.refl _)⟩
              exact hq3 ρ3 u _ (Ext.refl _) q2 q1 (rz.mono q2 (Ext.refl _))
        · exact hq3.elim
      · exact hq3.elim
    | _ => cases hi
  · exact hq1.elim
/-! ### displays -/
def flatP : List (V × V) → List V
  | [] => []
  | (a, b) :: r => a :: b :: flatP r
def KRead (Γ : Cfg) (T : Tx) (W : WX) (fe : FE) (trs : List (TE × TE)) : Prop := ∀ (σ : L2.St) (H : Hp) (ρ : List Addr) (ls : Ls) (h : Hs) (C : List (V × V) → Hp → Prop), RL T.K H ρ ls σ → HR T H ρ h → PR T W σ H ρ (RAs T.K) (fun vs H' => ∀ ps, flatP ps = vs → C ps H') (evs Γ fe ls h) → tPairs trs σ H C
def VRead (Γ : Cfg) (T : Tx) (W : WX) (fe : FE) (tv : TE) (trs : List (TE × TE)) : Prop := ∀ (σ : L2.St) (H : Hp) (ρ : List Addr) (ls : Ls) (h : Hs) (C : V → List (V × V) → Hp → Prop), RL T.K H ρ ls σ → HR T H ρ h → PR T W σ H ρ (RAs T.K) (fun vs H' => ∀ v ps, v :: flatP ps = vs → C v ps H') (evs Γ fe ls h) → tv σ H fun v H1 => tPairs trs σ H1 fun ps H2 => C v ps H2
theorem k_nil : KRead Γ T W .anil [] := fun σ H ρ ls h C rl hr hq => by
  rw [evs] at hq
  exact PR.ok (RA := RAs T.K) hq hr .nil [] rfl
theorem k_cons {a as : FE} {tv : TE} {trs : List (TE × TE)} (hv : VRead Γ T W as tv trs) : KRead Γ T W (.acons a as) ((tE Γ T W a, tv) :: trs) := fun σ H ρ ls h C rl hr hq => by
  rw [evs] at hq
  refine ⟨ρ, ls, h, rl, hr, PR.bind hq fun d h1 ρ1 v H1 _ e k1 hr1 rd hq1 => ?_⟩
  refine hv σ H1 ρ1 ls h1 (fun w ps H' => C ((v, w) :: ps) H') (rl.mono k1 e) hr1 (PR.bind hq1 fun ds h2 ρ2 vs H2 _ e2 k2 hr2 rds hq2 => ?_)
  intro w ps ew
  exact PR.ok hq2 hr2 (.cons (rd.mono k2 e2) rds) ((v, w) :: ps) (by rw [flatP, ew])
theorem v_cons {b as : FE} {trs : List (TE × TE)} (hv : KRead Γ T W as trs) : VRead Γ T W (.acons b as) (tE Γ T W b) trs := fun σ H ρ ls h C rl hr hq => by
  rw [evs] at hq
  refine ⟨ρ, ls, h, rl, hr, PR.bind hq fun d h1 ρ1 v H1 _ e k1 hr1 rd hq1 => ?_⟩
  refine hv σ H1 ρ1 ls h1 (fun ps H' => C v ps H') (rl.mono k1 e) hr1 (PR.bind hq1 fun ds h2 ρ2 vs H2 _ e2 k2 hr2 rds hq2 => ?_)
  intro ps ew
  exact PR.ok hq2 hr2 (.cons (rd.mono k2 e2) rds) v ps (by rw [ew])
theorem pairsU_rd {K : PySem.W.Frag} {H : Hp} {ρ : List Addr} : ∀ (n : Nat) {ds : List FL.D} {vs : List V} {kvs : List (FL.D × FL.D)}, ds.length ≤ n → RDs K H ρ ds vs → pairsU ds = some kvs → ∃ gs : List (L2.Key × V), vs = flatP (gs.map fun kv => (kV kv.1, kv.2)) ∧ KS K H ρ kvs gs
  | _, [], _, _, _, .nil, e => by cases e; exact ⟨[], rfl, .nil⟩
  | _, [d], _, _, _, _, e => by cases e
  | 0, _ :: _ :: _, _, _, hn, _, _ => by simp at hn
  | n + 1, kd :: vd :: ds, _, _, hn, .cons hk (.cons hv hs), e => by
    rw [pairsU] at e
    split at e
    · rename_i ho
      obtain ⟨kvs', e1, rfl⟩ := Option.map_eq_some_iff.mp e
      obtain ⟨gs, rfl, g2⟩ := pairsU_rd n (by simp at hn; omega) hs e1
      obtain ⟨l, hl⟩ := Option.isSome_iff_exists.mp ho
      have := scal_V hk hl
      subst this
      exact ⟨(l, _) :: gs, rfl, .cons ⟨hl, hv⟩ g2⟩
    · cases e
theorem flatP_inj : ∀ {ps qs : List (V × V)}, flatP ps = flatP qs → ps = qs
  | [], [], _ => rfl
  | [], _ :: _, e => by cases e
  | _ :: _, [], e => by cases e
  | (a, b) :: ps, (c, d) :: qs, e => by
    simp only [flatP, List.cons.injEq] at e
    obtain ⟨rfl, rfl, e⟩ := e
    rw [flatP_inj e]
theorem mergeK_eq (kvs : List (L2.Key × V)) : mergeK [] kvs = kvs.foldl (fun acc p => putK acc p.1 p.2) [] := rfl
theorem s_ddisp {m : Bool} {as : FE} {ks : List (Option Expr)} {es : List Expr} {pos : Pos} {trs : List (TE × TE)} (hP : PPs X pos ks es trs) (hR : KRead Γ T W as trs) (h0 : ks.isEmpty = false) (ha : ks.all (·.isSome) = true) (hl : ks.length = es.length) (h15 : ks.length ≤ 15) : PE X (.Dict ks es pos) (tE Γ T W (.ddisp m as)) := by
  refine peW (pe_frz (pe_disp hP ha hl (fun z => by rw [z] at h0; cases h0) h15)) fun σ H Q hh => ?_
  obtain ⟨ρ, ls, h, rl, hr, hq⟩ := hh
  rw [ev] at hq
  intro p hp
  have kf0 : KF H ρ (upd H p (.dK [])) ρ := KF.new hp
  refine hR σ (upd H p (.dK [])) ρ ls h _ (rl.mono kf0.k (Ext.refl _)) (hr.newO hp) ?_
  cases q : evs Γ as ls h with
  | bad => rw [q] at hq; exact hq.elim
  | exc c fs h' => rw [q] at hq; exact PR.after (r := R.exc c fs h') hq (Ext.refl _) kf0
  | ok xs h1 =>
    rw [q] at hq
    simp only [R.bind_ok] at hq
    intro ρ1 vs H1 e1 k1 hr1 rds ps eps
    obtain ⟨hD, nD⟩ := k1.fr p _ upd_same (hr.fresh hp)
    split at hq
    · rename_i kvs hkv
      split at hq
      · rename_i hz
        obtain ⟨gs, ev1, g2⟩ := pairsU_rd xs.length (Nat.le_refl _) rds hkv
        have epp : ps = gs.map fun kv => (kV kv.1, kv.2) := flatP_inj (eps.trans ev1)
        refine ⟨hD, gs, epp, by rw [← g2.length]; exact hz, ?_⟩
        obtain ⟨hg1, hg2⟩ := HR.growK (ys := mergeK [] gs) hr1 hD nD
        have gm : KS T.K (upd H1 p (.dK (mergeK [] gs))) ρ1 (dmerge [] kvs) (mergeK [] gs) := (KS.mergeN g2).mono hg2 (Ext.refl _)
        have kk : Keeps H H1 := kf0.k.trans k1.k
        have fr2 : ∀ (a : Addr) (o : HO), H a = some o → (∀ n : Nat, n ≠ 0 → ρ[n]? ≠ some a) → a ≠ p ∧ (upd H1 p (.dK (mergeK [] gs))) a = some o ∧ ∀ n : Nat, n ≠ 0 → ρ1[n]? ≠ some a := fun a o z0 n0 => by
          have ne : a ≠ p := ne_of_none z0 hp
          obtain ⟨q1, q2⟩ := k1.fr a o (by rw [upd_ne ne]; exact z0) n0
          exact ⟨ne, by rw [upd_ne ne]; exact q1, q2⟩
        cases m with
        | true =>
          refine FrzQ.of (hq (ρ1 ++ [p]) (.ref p) _ (e1.trans (Ext.app _ _)) ⟨kk.trans hg2, fun a o z0 n0 => ?_⟩ (HR.adoptC hg1 rfl nD ⟨_, upd_same, gm.mono (Keeps.refl _) (Ext.app _ _)⟩) (.loc (by rw [← hr1.len]; simp)))
          obtain ⟨ne, q1, q2⟩ := fr2 a o z0 n0
          refine ⟨q1, fun j j0 em => ?_⟩
          by_cases hj : j < ρ1.length
          · rw [List.getElem?_append_left hj] at em; exact q2 j j0 em
          · rw [List.getElem?_append_right (by omega)] at em
            have h2 : j - ρ1.length < [p].length := (List.getElem?_eq_some_iff.mp em).1
            have h3 : j - ρ1.length = 0 := by simp at h2; omega
            rw [h3] at em; simp at em; exact ne em.symm
        | false =>
          have mL : MutL [p] (upd H1 p (.dK (mergeK [] gs))) := ⟨by simp, fun a hm => by rw [List.mem_singleton.mp hm]; exact ⟨_, upd_same, trivial⟩⟩
          refine ⟨[p], mL, fun H' lk => ?_⟩
          obtain ⟨o, ho⟩ := lk.in_ p (by simp) _ upd_same
          have kp := lk.keeps mL
          obtain ⟨z1, z2⟩ := (gm.mono kp (Ext.refl _)).split
          refine hq ρ1 (.ref p) H' e1 ⟨(kk.trans hg2).trans kp, fun a o z0 n0 => ?_⟩ (hg1.lckd lk mL fun n c a e1 e2 hm hL => ?_) (.fd ho z1 rfl z2)
          · obtain ⟨ne, q1, q2⟩ := fr2 a o z0 n0
            exact ⟨by rw [lk.out a (by simpa using ne)]; exact q1, q2⟩
          · rw [List.mem_singleton.mp hL] at e2
            refine nD n (fun z => ?_) e2
            have := (hr1.zc n c e1).mpr z
            rw [hm] at this; cases this
      · exact hq.elim
    · exact hq.elim
/-! ### sets of ints -/
theorem setOf_rd {H : Hp} {ρ : List Addr} {h : Hs} {d : FL.D} {v : V} {ns : List Int} (hr : HR T H ρ h) (rd : RD T.K H ρ d v) (e : setOf h d = some ns) : ∃ p, v = .ref p ∧ (SqL T.K H p (ns.map V.int) ∨ SqT T.K H p (ns.map V.int)) ∧ ns.length < 64 := by
  unfold setOf at e
  split at e
  · rename_i ms hm
    split at e
    · rename_i hz
      cases e
      obtain ⟨xs, e1, e2⟩ := Option.bind_eq_some_iff.mp hm
      obtain ⟨p, vs, rfl, g1, g2, _⟩ := hr.items rd e1
      have ev := intsD_rd g2 e2
      subst ev
      exact ⟨p, rfl, g1, hz⟩
    · cases e
  · cases e
theorem pe_setI {e : Expr} {ta : TE} {p pos : Pos} (O : Ok T B k S X W) (hg : Gl X "set") (hm : X.mg "set" = none) (n1 : noStar e = true) (ha : PE X e ta) : PE X (.Call (.Name "set" p) [e] [] pos) (fun σ H Q => ta σ H fun v H1 => rSetI X.K X.w [v] H1 Q) := by
  refine peW (pe_callTy (cr_setI O.calm) hg hm PyProof.Rows.boot_set (pa_cons ha pa_nil (star_cons n1)) (by decide) (by decide) (star_cons n1) rfl) fun σ H Q hh => ?_
  exact hh
theorem s_sset {m : Bool} {e : FE} {ex : Expr} {p p2 q2 pos : Pos} (O : Ok T B k S X W) (X0 : Text G T B Γ k) (h1 : isGl S.sc ("sorted" : Str) = true) (h2 : G.blt.contains ("sorted" : Str) = true) (h3 : isGl S.sc ("set" : Str) = true) (h4 : G.blt.contains ("set" : Str) = true) (n1 : noStar ex = true) (he : PE X ex (tE Γ T W e)) :
    PE X (.Call (.Name "sorted" p) [.Call (.Name "set" p2) [ex] [] q2] [] pos) (tE Γ T W (.sset m e)) := by
  obtain ⟨g1, _⟩ := isGl_ok O.sc h1
  obtain ⟨g3, _⟩ := isGl_ok O.sc h3
  have m1 : X.mg ("sorted" : Str) = none := by have := X0.blt _ h2; rw [← O.tx] at this; exact this
  have m3 : X.mg ("set" : Str) = none := by have := X0.blt _ h4; rw [← O.tx] at this; exact this
  refine peW (pe_frz (pe_callB (cr_sortedSet O.calm) g1 m1 PyProof.Rows.boot_sorted (pa_cons (pe_setI O g3 m3 n1 he) pa_nil rfl) (by decide) (by decide) rfl rfl)) fun σ H Q hh => ?_
  obtain ⟨ρ, ls, h, rl, hr, hq⟩ := hh
  rw [ev] at hq
  refine ⟨ρ, ls, h, rl, hr, PR.bind hq fun d h1 ρ1 v H1 _ e1 k1 hr1 rd hq1 => ?_⟩
  split at hq1
  · rename_i ns hns
    obtain ⟨a, rfl, g, hz⟩ := setOf_rd hr1 rd hns
    have hK : X.K = T.K := congrArg Tx.K O.tx
    rw [hK]
    refine ⟨a, ns, rfl, g, hz, fun q hn => ?_⟩
    refine ⟨q, _, _, rfl, upd_same, Nat.lt_of_le_of_lt (ddI_le ns) hz, fun ms r pw mem len hnr => ?_⟩
    have em : ms = setI ns := lt_unique pw (setI_lt ns) fun j => by rw [mem, setI_mem, decide_eq_true_eq]
    subst em
    exact PR.newM (hq1.after (Ext.refl _) (KF.new hn)) (hr1.newO hn) (RDs.ints _) r hnr
  · exact hq1.elim
theorem s_lset {e : FE} {ex : Expr} {p p2 q2 pos : Pos} (O : Ok T B k S X W) (X0 : Text G T B Γ k) (h1 : isGl S.sc ("len" : Str) = true) (h2 : G.blt.contains ("len" : Str) = true) (h3 : isGl S.sc ("set" : Str) = true) (h4 : G.blt.contains ("set" : Str) = true) (n1 : noStar ex = true) (he : PE X ex (tE Γ T W e)) :
    PE X (.Call (.Name "len" p) [.Call (.Name "set" p2) [ex] [] q2] [] pos) (tE Γ T W (.lset e)) := by
  obtain ⟨g1, _⟩ := isGl_ok O.sc h1
  obtain ⟨g3, _⟩ := isGl_ok O.sc h3
  have m1 : X.mg ("len" : Str) = none := by have := X0.blt _ h2; rw [← O.tx] at this; exact this
  have m3 : X.mg ("set" : Str) = none := by have := X0.blt _ h4; rw [← O.tx] at this; exact this
  refine peW (pe_callB cr_lenSetO g1 m1 PySem.boot_len (pa_cons (pe_setI O g3 m3 n1 he) pa_nil rfl) (by decide) (by decide) rfl rfl) fun σ H Q hh => ?_
  obtain ⟨ρ, ls, h, rl, hr, hq⟩ := hh
  rw [ev] at hq
  refine ⟨ρ, ls, h, rl, hr, PR.bind hq fun d h1 ρ1 v H1 _ e1 k1 hr1 rd hq1 => ?_⟩
  obtain ⟨z, ez, hq1⟩ := hq1.ofO
  obtain ⟨ns, hns, rfl⟩ := Option.map_eq_some_iff.mp ez
  obtain ⟨a, rfl, g, hz⟩ := setOf_rd hr1 rd hns
  have hK : X.K = T.K := congrArg Tx.K O.tx
  rw [hK]
  refine ⟨a, ns, rfl, g, hz, fun q hn => ?_⟩
  exact ⟨q, _, _, rfl, upd_same, Nat.lt_of_le_of_lt (ddI_le ns) hz, PR.ok (hq1.after (Ext.refl _) (KF.new hn)) (hr1.newO hn) (.int _)⟩
end
end FL
set_option autoImplicit false
set_option linter.all false
set_option maxRecDepth 100000
set_option maxHeartbeats 4000000
/-! FL, part F: soundness of expressions, by induction. -/
namespace FL
open PySem L2 PyProof.Rows PySem.SeqAt

structure Snd (G : Sg) (T : Tx) (B : Heap) (Γ : Cfg) (k : Nat) (fe : FE) : Prop where
  E : ∀ (S : Sx) (e : Expr) (X : Cx) (W : WX), Ok T B k S X W → mE G fe S e = true → PE X e (tE Γ T W fe)
  A : ∀ (S : Sx) (es : List Expr) (X : Cx) (W : WX), Ok T B k S X W → mEs G fe S es = true → PA X es (tEs Γ T W fe)
  P : ∀ (S : Sx) (o : Option Expr) (X : Cx) (W : WX), Ok T B k S X W → mP G fe S o = true → PO X o (tP Γ T W fe)
  I : ∀ (S : Sx) (tg it : Expr) (X : Cx) (W : WX), Ok T B k S X W → mI G fe S tg it = true → PI X tg it (tI Γ T W fe)
  C : ∀ (S : Sx) (e : Expr) (X : Cx) (W : WX), Ok T B k S X W → mE G fe S e = true → PT X e (tT Γ T W fe)
  W : ∀ (S : Sx) (op : BoolOp) (es : List Expr) (pos : Pos) (X : Cx) (W : WX), Ok T B k S X W → mE G fe S (.BoolOp op es pos) = true → PW X (.BoolOp op es pos) (tT Γ T W fe)
  K : ∀ (S : Sx) (ks : List (Option Expr)) (vs : List Expr) (pos : Pos) (X : Cx) (W : WX), Ok T B k S X W → mK G fe S ks vs = true → ∃ trs, PPs X pos ks vs trs ∧ KRead Γ T W fe trs
  V : ∀ (S : Sx) (ks : List (Option Expr)) (vs : List Expr) (pos : Pos) (X : Cx) (W : WX), Ok T B k S X W → mV G fe S ks vs = true → ∃ e es tv trs, vs = e :: es ∧ PE X e tv ∧ PPs X pos ks es trs ∧ VRead Γ T W fe tv trs
section
variable {G : Sg} {T : Tx} {B : Heap} {Γ : Cfg} {k : Nat}
theorem noA {fe : FE} {S : Sx} {es : List Expr} {p : Prop} (h : mEs G fe S es = true) (h2 : mEs G fe S es = false) : p := by rw [h2] at h; cases h
/-- of an expression that is a value alone -/
theorem Snd.val {fe : FE} (E : ∀ (S : Sx) (e : Expr) (X : Cx) (W : WX), Ok T B k S X W → mE G fe S e = true → PE X e (tE Γ T W fe)) (hp : ∀ (S : Sx) (e : Expr), mE G fe S e = true → plainT e = true)
    (hA : ∀ (S : Sx) (es : List Expr), mEs G fe S es = false) (hP : ∀ (S : Sx) (o : Option Expr), mP G fe S o = false) (hI : ∀ (S : Sx) (tg it : Expr), mI G fe S tg it = false)
    (hK : ∀ (S : Sx) (ks : List (Option Expr)) (vs : List Expr), mK G fe S ks vs = false := by intro S ks vs; cases ks <;> cases vs <;> simp [mK]) (hV : ∀ (S : Sx) (ks : List (Option Expr)) (vs : List Expr), mV G fe S ks vs = false := by intro S ks vs; cases ks <;> cases vs <;> simp [mV]) : Snd G T B Γ k fe where
  E := E
  A := fun S es X W _ h => by rw [hA] at h; cases h
  P := fun S o X W _ h => by rw [hP] at h; cases h
  I := fun S tg it X W _ h => by rw [hI] at h; cases h
  C := fun S e X W O h => pt_of O (E S e X W O h) (hp S e h)
  W := fun S op es pos X W O h => by have := hp S _ h; cases this
  K := fun S ks vs pos X W _ h => by rw [hK] at h; cases h
  V := fun S ks vs pos X W _ h => by rw [hV] at h; cases h
theorem Snd.val2 {fe : FE} (E : ∀ (S : Sx) (e : Expr) (X : Cx) (W : WX), Ok T B k S X W → mE G fe S e = true → PE X e (tE Γ T W fe)) (C : ∀ (S : Sx) (e : Expr) (X : Cx) (W : WX), Ok T B k S X W → mE G fe S e = true → PT X e (tT Γ T W fe))
    (hB : ∀ (S : Sx) (op : BoolOp) (es : List Expr) (pos : Pos), mE G fe S (.BoolOp op es pos) = false)
    (hA : ∀ (S : Sx) (es : List Expr), mEs G fe S es = false) (hP : ∀ (S : Sx) (o : Option Expr), mP G fe S o = false) (hI : ∀ (S : Sx) (tg it : Expr), mI G fe S tg it = false)
    (hK : ∀ (S : Sx) (ks : List (Option Expr)) (vs : List Expr), mK G fe S ks vs = false := by intro S ks vs; cases ks <;> cases vs <;> simp [mK]) (hV : ∀ (S : Sx) (ks : List (Option Expr)) (vs : List Expr), mV G fe S ks vs = false := by intro S ks vs; cases ks <;> cases vs <;> simp [mV]) : Snd G T B Γ k fe where
  E := E
  A := fun S es X W _ h => by rw [hA] at h; cases h
  P := fun S o X W _ h => by rw [hP] at h; cases h
  I := fun S tg it X W _ h => by rw [hI] at h; cases h
  C := C
  W := fun S op es pos X W O h => by rw [hB] at h; cases h
  K := fun S ks vs pos X W _ h => by rw [hK] at h; cases h
  V := fun S ks vs pos X W _ h => by rw [hV] at h; cases h
theorem Snd.none {fe : FE} (hE : ∀ (S : Sx) (e : Expr), mE G fe S e = false) (A : ∀ (S : Sx) (es : List Expr) (X : Cx) (W : WX), Ok T B k S X W → mEs G fe S es = true → PA X es (tEs Γ T W fe)) (P : ∀ (S : Sx) (o : Option Expr) (X : Cx) (W : WX), Ok T B k S X W → mP G fe S o = true → PO X o (tP Γ T W fe))
    (I : ∀ (S : Sx) (tg it : Expr) (X : Cx) (W : WX), Ok T B k S X W → mI G fe S tg it = true → PI X tg it (tI Γ T W fe))
    (hK : ∀ (S : Sx) (ks : List (Option Expr)) (vs : List Expr), mK G fe S ks vs = false := by intro S ks vs; cases ks <;> cases vs <;> simp [mK]) (hV : ∀ (S : Sx) (ks : List (Option Expr)) (vs : List Expr), mV G fe S ks vs = false := by intro S ks vs; cases ks <;> cases vs <;> simp [mV]) : Snd G T B Γ k fe where
  E := fun S e X W _ h => by rw [hE] at h; cases h
  A := A
  P := P
  I := I
  C := fun S e X W _ h => by rw [hE] at h; cases h
  W := fun S op es pos X W _ h => by rw [hE] at h; cases h
  K := fun S ks vs pos X W _ h => by rw [hK] at h; cases h
  V := fun S ks vs pos X W _ h => by rw [hV] at h; cases h

theorem nA {fe : FE} (h : ∀ S : Sx, mEs G fe S = fun _ => false) : ∀ (S : Sx) (es : List Expr), mEs G fe S es = false := fun S es => by rw [h]
theorem tests_of {fe : FE} {S : Sx} {ifs : List Expr} (hS : Snd G T B Γ k fe) (h : (match ifs with
    | [] => noIf fe
    | [i] => mE G fe S i
    | _ => false) = true) : ∀ X', Ok T B k S X' WN → PTs X' ifs (tT Γ T WN fe) := by
  intro X' O
  match ifs, h with
  | [], h =>
    have e := noIf_eq h
    subst e
    refine ⟨fun pins s σ H Q I hh => pts_nil.run pins s σ H Q I ?_⟩
    obtain ⟨ρ, ls, h, rl, hr, hq⟩ := hh
    have hq : PR T WN σ H ρ (RAe Bool) Q (R.ok true h) := by unfold evT at hq; rw [ev] at hq; exact hq
    exact PR.ok (RA := RAe Bool) hq hr rfl
  | [i], h => exact pts_one (hS.C S i X' WN O h)
theorem snd (X0 : Text G T B Γ k) : ∀ fe : FE, Snd G T B Γ k fe := by
  intro fe
  induction fe with
  | var i =>
    refine .val (fun S e X W O h => ?_) (fun S e h => ?_) (fun S es => by cases es <;> simp [mEs]) (fun S o => by cases o <;> simp [mP]) (fun S tg it => by simp [mI])
    · cases e <;> first | (simp [mE] at h; done) | skip
      simp only [mE, Bool.and_eq_true, decide_eq_true_eq] at h
      exact s_var O h.1 h.2
    · cases e <;> first | (simp [mE] at h; done) | rfl
  | cst d =>
    refine .val (fun S e X W O h => ?_) (fun S e h => ?_) (fun S es => by cases es <;> simp [mEs]) (fun S o => by cases o <;> simp [mP]) (fun S tg it => by simp [mI])
    · cases e <;> first | (cases d <;> simp [mE] at h; done) | skip
      rename_i c n pos
      cases d <;> cases c <;> simp [mE] at h
      · exact s_const pe_non fun _ _ => .non
      · subst h; exact s_const pe_bl fun _ _ => .bl _
      · subst h; exact s_const pe_int fun _ _ => .int _
      · subst h; exact s_const pe_str fun _ _ => .str _
    · cases e <;> first | (cases d <;> simp [mE] at h; done) | rfl
  | glob x =>
    refine .val (fun S e X W O h => ?_) (fun S e h => ?_) (fun S es => by cases es <;> simp [mEs]) (fun S o => by cases o <;> simp [mP]) (fun S tg it => by simp [mI])
    · cases e <;> first | (simp [mE] at h; done) | skip
      simp only [mE, Bool.and_eq_true, decide_eq_true_eq] at h
      obtain ⟨⟨h1, h2⟩, h3⟩ := h
      subst h1
      exact s_glob O X0 h2 h3
    · cases e <;> first | (simp [mE] at h; done) | rfl
  | bin m op a b iha ihb =>
    refine .val (fun S e X W O h => ?_) (fun S e h => ?_) (fun S es => by cases es <;> simp [mEs]) (fun S o => by cases o <;> simp [mP]) (fun S tg it => by simp [mI])
    · cases e <;> first | (simp [mE] at h; done) | skip
      simp only [mE, Bool.and_eq_true, decide_eq_true_eq] at h
      obtain ⟨⟨h1, h2⟩, h3⟩ := h
      subst h1
      exact s_bin O (iha.E S _ X W O h2) (ihb.E S _ X W O h3)
    · cases e <;> first | (simp [mE] at h; done) | rfl
  | neg a iha =>
    refine .val (fun S e X W O h => ?_) (fun S e h => ?_) (fun S es => by cases es <;> simp [mEs]) (fun S o => by cases o <;> simp [mP]) (fun S tg it => by simp [mI])
    · cases e <;> first | (simp [mE] at h; done) | skip
      rename_i op ea pos
      cases op <;> first | (simp [mE] at h; done) | skip
      simp only [mE] at h
      exact s_neg O (iha.E S _ X W O h)
    · cases e <;> first | (simp [mE] at h; done) | skip
      rename_i op ea pos
      cases op <;> first | (simp [mE] at h; done) | rfl
  | not a iha =>
    refine .val2 (fun S e X W O h => ?_) (fun S e X W O h => ?_) (fun S op es pos => by simp [mE]) (fun S es => by cases es <;> simp [mEs]) (fun S o => by cases o <;> simp [mP]) (fun S tg it => by simp [mI])
    · cases e <;> first | (simp [mE] at h; done) | skip
      rename_i op ea pos
      cases op <;> first | (simp [mE] at h; done) | skip
      simp only [mE] at h
      exact s_not O (iha.E S _ X W O h)
    · cases e <;> first | (simp [mE] at h; done) | skip
      rename_i op ea pos
      cases op <;> first | (simp [mE] at h; done) | skip
      simp only [mE] at h
      exact t_not (iha.C S _ X W O h)
  | cmp op a b iha ihb =>
    have key : ∀ (S : Sx) (e : Expr), mE G (.cmp op a b) S e = true → ∃ ea eb pos, e = .Compare ea [op] [eb] pos ∧ noSet eb = true ∧ mE G a S ea = true ∧ mE G b S eb = true := by
      intro S e h
      cases e <;> first | (simp [mE] at h; done) | skip
      rename_i ea ops cs pos
      match ops, cs, h with
      | [op'], [eb], h =>
        simp only [mE, Bool.and_eq_true, decide_eq_true_eq] at h
        obtain ⟨⟨⟨h1, h2⟩, h3⟩, h4⟩ := h
        subst h1
        exact ⟨ea, eb, pos, rfl, h2, h3, h4⟩
      | [], _, h => simp [mE] at h
      | [_], [], h => simp [mE] at h
      | [_], _ :: _ :: _, h => simp [mE] at h
      | _ :: _ :: _, _, h => simp [mE] at h
    refine .val2 (fun S e X W O h => ?_) (fun S e X W O h => ?_) (fun S op es pos => by simp [mE]) (fun S es => by cases es <;> simp [mEs]) (fun S o => by cases o <;> simp [mP]) (fun S tg it => by simp [mI])
    · obtain ⟨ea, eb, pos, rfl, h2, h3, h4⟩ := key S e h
      exact s_cmp O h2 (iha.E S _ X W O h3) (ihb.E S _ X W O h4)
    · obtain ⟨ea, eb, pos, rfl, h2, h3, h4⟩ := key S e h
      exact t_cmp O h2 (iha.E S _ X W O h3) (ihb.E S _ X W O h4)
  | chain op op' a b c iha ihb ihc =>
    have key : ∀ (S : Sx) (e : Expr), mE G (.chain op op' a b c) S e = true → ∃ ea eb ec pos, e = .Compare ea [op, op'] [eb, ec] pos ∧ noSet ec = true ∧ mE G a S ea = true ∧ mE G b S eb = true ∧ mE G c S ec = true := by
      intro S e h
      cases e <;> first | (simp [mE] at h; done) | skip
      rename_i ea ops cs pos
      match ops, cs, h with
      | [p, p'], [eb, ec], h =>
        simp only [mE, Bool.and_eq_true, decide_eq_true_eq] at h
        obtain ⟨⟨⟨⟨⟨h1, h1'⟩, h2⟩, h3⟩, h4⟩, h5⟩ := h
        subst h1; subst h1'
        exact ⟨ea, eb, ec, pos, rfl, h2, h3, h4, h5⟩
      | [], _, h => simp [mE] at h
      | [_], _, h => simp [mE] at h
      | [_, _], [], h => simp [mE] at h
      | [_, _], [_], h => simp [mE] at h
      | [_, _], _ :: _ :: _ :: _, h => simp [mE] at h
      | _ :: _ :: _ :: _, _, h => simp [mE] at h
    refine .val2 (fun S e X W O h => ?_) (fun S e X W O h => ?_) (fun S op es pos => by simp [mE]) (fun S es => by cases es <;> simp [mEs]) (fun S o => by cases o <;> simp [mP]) (fun S tg it => by simp [mI])
    · obtain ⟨ea, eb, ec, pos, rfl, h2, h3, h4, h5⟩ := key S e h
      exact s_chain O h2 (iha.E S _ X W O h3) (ihb.E S _ X W O h4) (ihc.E S _ X W O h5)
    · obtain ⟨ea, eb, ec, pos, rfl, h2, h3, h4, h5⟩ := key S e h
      exact t_chain O h2 (iha.E S _ X W O h3) (ihb.E S _ X W O h4) (ihc.E S _ X W O h5)
  | and a b iha ihb =>
    have key : ∀ (S : Sx) (e : Expr), mE G (.and a b) S e = true → ∃ ea eb r pos, e = .BoolOp .And (ea :: eb :: r) pos ∧ mE G a S ea = true ∧ ((r = [] ∧ mE G b S eb = true) ∨ mE G b S (.BoolOp .And (eb :: r) pos) = true) := by
      intro S e h
      cases e <;> first | (simp [mE] at h; done) | skip
      rename_i op es pos
      cases op <;> first | (simp [mE] at h; done) | skip
      match es, h with
      | [], h => simp [mE] at h
      | [_], h => simp [mE] at h
      | [ea, eb], h => simp only [mE, Bool.and_eq_true] at h; exact ⟨ea, eb, [], pos, rfl, h.1, .inl ⟨rfl, h.2⟩⟩
      | ea :: eb :: ec :: r, h => simp only [mE, Bool.and_eq_true] at h; exact ⟨ea, eb, ec :: r, pos, rfl, h.1, .inr h.2⟩
    have kW : ∀ (S : Sx) (e : Expr) (X : Cx) (W : WX), Ok T B k S X W → mE G (.and a b) S e = true → PW X e (tT Γ T W (.and a b)) := by
      intro S e X W O h
      obtain ⟨ea, eb, r, pos, rfl, h1, h2⟩ := key S e h
      rcases h2 with ⟨rfl, h2⟩ | h2
      · exact t_and (iha.C S _ X W O h1) (pw_and1 (ihb.C S _ X W O h2))
      · exact t_and (iha.C S _ X W O h1) (ihb.W S _ _ _ X W O h2)
    refine ⟨fun S e X W O h => ?_, fun S es X W O h => by cases es <;> simp [mEs] at h, fun S o X W O h => by cases o <;> simp [mP] at h, fun S tg it X W O h => by simp [mI] at h, fun S e X W O h => (kW S e X W O h).pt, fun S op es pos X W O h => kW S _ X W O h, fun S ks vs pos X W O h => by cases ks <;> cases vs <;> simp [mK] at h, fun S ks vs pos X W O h => by cases ks <;> cases vs <;> simp [mV] at h⟩
    obtain ⟨ea, eb, r, pos, rfl, h1, h2⟩ := key S e h
    rcases h2 with ⟨rfl, h2⟩ | h2
    · exact s_and O (iha.E S _ X W O h1) (pe_one (ihb.E S _ X W O h2))
    · exact s_and O (iha.E S _ X W O h1) (ihb.E S _ X W O h2)
  | or a b iha ihb =>
    have key : ∀ (S : Sx) (e : Expr), mE G (.or a b) S e = true → ∃ ea eb r pos, e = .BoolOp .Or (ea :: eb :: r) pos ∧ mE G a S ea = true ∧ ((r = [] ∧ mE G b S eb = true) ∨ mE G b S (.BoolOp .Or (eb :: r) pos) = true) := by
      intro S e h
      cases e <;> first | (simp [mE] at h; done) | skip
      rename_i op es pos
      cases op <;> first | (simp [mE] at h; done) | skip
      match es, h with
      | [], h => simp [mE] at h
      | [_], h => simp [mE] at h
      | [ea, eb], h => simp only [mE, Bool.and_eq_true] at h; exact ⟨ea, eb, [], pos, rfl, h.1, .inl ⟨rfl, h.2⟩⟩
      | ea :: eb :: ec :: r, h => simp only [mE, Bool.and_eq_true] at h; exact ⟨ea, eb, ec :: r, pos, rfl, h.1, .inr h.2⟩
    have kW : ∀ (S : Sx) (e : Expr) (X : Cx) (W : WX), Ok T B k S X W → mE G (.or a b) S e = true → PW X e (tT Γ T W (.or a b)) := by
      intro S e X W O h
      obtain ⟨ea, eb, r, pos, rfl, h1, h2⟩ := key S e h
      rcases h2 with ⟨rfl, h2⟩ | h2
      · exact t_or (iha.C S _ X W O h1) (pw_or1 (ihb.C S _ X W O h2))
      · exact t_or (iha.C S _ X W O h1) (ihb.W S _ _ _ X W O h2)
    refine ⟨fun S e X W O h => ?_, fun S es X W O h => by cases es <;> simp [mEs] at h, fun S o X W O h => by cases o <;> simp [mP] at h, fun S tg it X W O h => by simp [mI] at h, fun S e X W O h => (kW S e X W O h).pt, fun S op es pos X W O h => kW S _ X W O h, fun S ks vs pos X W O h => by cases ks <;> cases vs <;> simp [mK] at h, fun S ks vs pos X W O h => by cases ks <;> cases vs <;> simp [mV] at h⟩
    obtain ⟨ea, eb, r, pos, rfl, h1, h2⟩ := key S e h
    rcases h2 with ⟨rfl, h2⟩ | h2
    · exact s_or O (iha.E S _ X W O h1) (pe_one (ihb.E S _ X W O h2))
    · exact s_or O (iha.E S _ X W O h1) (ihb.E S _ X W O h2)
  | ite c a b ihc iha ihb =>
    refine .val2 (fun S e X W O h => ?_) (fun S e X W O h => ?_) (fun S op es pos => by simp [mE]) (fun S es => by cases es <;> simp [mEs]) (fun S o => by cases o <;> simp [mP]) (fun S tg it => by simp [mI])
    · cases e <;> first | (simp [mE] at h; done) | skip
      simp only [mE, Bool.and_eq_true] at h
      exact s_ite (ihc.C S _ X W O h.1.1) (iha.E S _ X W O h.1.2) (ihb.E S _ X W O h.2)
    · cases e <;> first | (simp [mE] at h; done) | skip
      simp only [mE, Bool.and_eq_true] at h
      exact t_ite (ihc.C S _ X W O h.1.1) (iha.C S _ X W O h.1.2) (ihb.C S _ X W O h.2)
  | tup as ih =>
    refine .val (fun S e X W O h => ?_) (fun S e h => ?_) (fun S es => by cases es <;> simp [mEs]) (fun S o => by cases o <;> simp [mP]) (fun S tg it => by simp [mI])
    · cases e <;> first | (simp [mE] at h; done) | skip
      simp only [mE] at h
      exact s_tup (ih.A S _ X W O h)
    · cases e <;> first | (simp [mE] at h; done) | rfl
  | lst m as ih =>
    refine .val (fun S e X W O h => ?_) (fun S e h => ?_) (fun S es => by cases es <;> simp [mEs]) (fun S o => by cases o <;> simp [mP]) (fun S tg it => by simp [mI])
    · cases e <;> first | (simp [mE] at h; done) | skip
      simp only [mE] at h
      exact s_lst (ih.A S _ X W O h)
    · cases e <;> first | (simp [mE] at h; done) | rfl
  | anil =>
    refine ⟨fun S e X W O h => by cases e <;> simp [mE] at h, fun S es X W O h => ?_, fun S o X W O h => by cases o <;> simp [mP] at h, fun S tg it X W O h => by simp [mI] at h, fun S e X W O h => by cases e <;> simp [mE] at h, fun S op es pos X W O h => by simp [mE] at h, fun S ks vs pos X W O h => ?_, fun S ks vs pos X W O h => by cases ks <;> cases vs <;> simp [mV] at h⟩
    · cases es with
      | nil => exact a_nil
      | cons => simp [mEs] at h
    · cases ks <;> cases vs <;> simp [mK] at h
      exact ⟨[], pps_nil, k_nil⟩
  | acons a as iha ihas =>
    refine ⟨fun S e X W O h => by cases e <;> simp [mE] at h, fun S es X W O h => ?_, fun S o X W O h => by cases o <;> simp [mP] at h, fun S tg it X W O h => by simp [mI] at h, fun S e X W O h => by cases e <;> simp [mE] at h, fun S op es pos X W O h => by simp [mE] at h, fun S ks vs pos X W O h => ?_, fun S ks vs pos X W O h => ?_⟩
    · cases es with
      | nil => simp [mEs] at h
      | cons e es =>
        simp only [mEs, Bool.and_eq_true] at h
        exact a_cons h.1.1 (iha.E S _ X W O h.1.2) (ihas.A S _ X W O h.2)
    · cases ks with
      | nil => simp [mK] at h
      | cons o ks =>
        cases o with
        | none => simp [mK] at h
        | some e =>
          simp only [mK, Bool.and_eq_true] at h
          obtain ⟨e2, es, tv, trs, rfl, h1, h2, h3⟩ := ihas.V S ks vs pos X W O h.2
          exact ⟨_, pps_cons (iha.E S e X W O h.1) h1 h2, k_cons h3⟩
    · cases vs with
      | nil => simp [mV] at h
      | cons e es =>
        simp only [mV, Bool.and_eq_true] at h
        obtain ⟨trs, h1, h2⟩ := ihas.K S ks es pos X W O h.2
        exact ⟨e, es, _, trs, rfl, iha.E S e X W O h.1, h1, v_cons h2⟩
  | idx a i iha ihi =>
    refine .val (fun S e X W O h => ?_) (fun S e h => ?_) (fun S es => by cases es <;> simp [mEs]) (fun S o => by cases o <;> simp [mP]) (fun S tg it => by simp [mI])
    · cases e <;> first | (simp [mE] at h; done) | skip
      simp only [mE, Bool.and_eq_true] at h
      exact s_idx O h.1.1 (iha.E S _ X W O h.1.2) (ihi.E S _ X W O h.2)
    · cases e <;> first | (simp [mE] at h; done) | rfl
  | slice m a lo hi iha ihl ihh =>
    refine .val (fun S e X W O h => ?_) (fun S e h => ?_) (fun S es => by cases es <;> simp [mEs]) (fun S o => by cases o <;> simp [mP]) (fun S tg it => by simp [mI])
    · cases e <;> first | (simp [mE] at h; done) | skip
      rename_i ea es pos
      cases es <;> first | (simp [mE] at h; done) | skip
      rename_i l u st p2
      cases st <;> first | (simp [mE] at h; done) | skip
      simp only [mE, Bool.and_eq_true] at h
      exact s_slice O (iha.E S _ X W O h.1.1) (ihl.P S _ X W O h.1.2) (ihh.P S _ X W O h.2)
    · cases e <;> first | (simp [mE] at h; done) | rfl
  | nopart =>
    refine .none (fun S e => by cases e <;> simp [mE]) (fun S es X W O h => by cases es <;> simp [mEs] at h) (fun S o X W O h => ?_) (fun S tg it X W O h => by simp [mI] at h)
    cases o with
    | none => exact p_none
    | some e => simp [mP] at h
  | part a iha =>
    refine .none (fun S e => by cases e <;> simp [mE]) (fun S es X W O h => by cases es <;> simp [mEs] at h) (fun S o X W O h => ?_) (fun S tg it X W O h => by simp [mI] at h)
    cases o with
    | none => simp [mP] at h
    | some e => simp only [mP] at h; exact p_some (iha.E S _ X W O h)
  | call m f as ih =>
    have key : ∀ (S : Sx) (e : Expr), mE G (.call m f as) S e = true → ∃ p e1 es pos, e = .Call (.Name f p) (e1 :: es) [] pos ∧ isGl S.sc f = true ∧ G.fns.contains f = true ∧ mEs G as S (e1 :: es) = true := by
      intro S e h
      cases e <;> first | (simp [mE] at h; done) | skip
      rename_i fn es kws pos
      cases fn <;> cases kws <;> first | (simp [mE] at h; done) | skip
      rename_i x p
      simp only [mE, Bool.and_eq_true, decide_eq_true_eq] at h
      obtain ⟨⟨⟨⟨h1, h2⟩, h3⟩, h4⟩, h5⟩ := h
      subst h1
      cases es with
      | nil => simp at h4
      | cons e1 es => exact ⟨p, e1, es, pos, rfl, h2, h3, h5⟩
    refine .val (fun S e X W O h => ?_) (fun S e h => ?_) (fun S es => by cases es <;> simp [mEs]) (fun S o => by cases o <;> simp [mP]) (fun S tg it => by simp [mI])
    · obtain ⟨p, e1, es, pos, rfl, h2, h3, h5⟩ := key S e h
      exact s_call O X0 h2 h3 h5 (ih.A S _ X W O h5)
    · obtain ⟨p, e1, es, pos, rfl, _⟩ := key S e h; rfl
  | new c as ih =>
    have key : ∀ (S : Sx) (e : Expr), mE G (.new c as) S e = true → ∃ p e1 es pos, e = .Call (.Name c p) (e1 :: es) [] pos ∧ isGl S.sc c = true ∧ G.inis.contains c = true ∧ mEs G as S (e1 :: es) = true := by
      intro S e h
      cases e <;> first | (simp [mE] at h; done) | skip
      rename_i fn es kws pos
      cases fn <;> cases kws <;> first | (simp [mE] at h; done) | skip
      rename_i x p
      simp only [mE, Bool.and_eq_true, decide_eq_true_eq] at h
      obtain ⟨⟨⟨⟨rfl, h2⟩, h3⟩, h4⟩, h5⟩ := h
      cases es with
      | nil => cases h4
      | cons e1 es => exact ⟨p, e1, es, pos, rfl, h2, h3, h5⟩
    refine .val (fun S e X W O h => ?_) (fun S e h => ?_) (fun S es => by cases es <;> simp [mEs]) (fun S o => by cases o <;> simp [mP]) (fun S tg it => by simp [mI])
    · obtain ⟨p, e1, es, pos, rfl, h1, h2, h3⟩ := key S e h
      exact s_new O X0 h1 h2 h3 (ih.A S _ X W O h3)
    · obtain ⟨p, e1, es, pos, rfl, _⟩ := key S e h; rfl
  | meth b c m o as iho ihas =>
    have key : ∀ (S : Sx) (e : Expr), mE G (.meth b c m o as) S e = true → ∃ eo apos es cpos, e = .Call (.Attribute eo m apos) es [] cpos ∧ G.mths.contains (c, m) = true ∧ noSup eo = true ∧ (apos.endLine == cpos.line) = true ∧ es.length < 20 ∧ mE G o S eo = true ∧ mEs G as S es = true := by
      intro S e h
      cases e <;> first | (simp [mE] at h; done) | skip
      rename_i fn es kws pos
      cases fn <;> cases kws <;> first | (simp [mE] at h; done) | skip
      rename_i eo x p
      simp only [mE] at h
      rw [Bool.and_eq_true, Bool.and_eq_true, Bool.and_eq_true, Bool.and_eq_true, Bool.and_eq_true, Bool.and_eq_true, decide_eq_true_eq, decide_eq_true_eq] at h
      obtain ⟨⟨⟨⟨⟨⟨rfl, h2⟩, h3⟩, h4⟩, h5⟩, h6⟩, h7⟩ := h
      exact ⟨eo, p, es, pos, rfl, h2, h3, h4, h5, h6, h7⟩
    refine .val (fun S e X W O h => ?_) (fun S e h => ?_) (fun S es => by cases es <;> simp [mEs]) (fun S o => by cases o <;> simp [mP]) (fun S tg it => by simp [mI])
    · obtain ⟨eo, apos, es, cpos, rfl, h1, h2, h3, h4, h5, h6⟩ := key S e h
      exact s_meth O X0 h1 h2 h3 h4 h6 (iho.E S _ X W O h5) (ihas.A S _ X W O h6)
    · obtain ⟨eo, apos, es, cpos, rfl, _⟩ := key S e h; rfl
  | attr o f iho =>
    refine .val (fun S e X W O h => ?_) (fun S e h => ?_) (fun S es => by cases es <;> simp [mEs]) (fun S o => by cases o <;> simp [mP]) (fun S tg it => by simp [mI])
    · cases e <;> first | (simp [mE] at h; done) | skip
      simp only [mE, Bool.and_eq_true, decide_eq_true_eq] at h
      obtain ⟨⟨⟨rfl, h2⟩, h3⟩, h4⟩ := h
      exact s_attr O X0 h2 h3 (iho.E S _ X W O h4)
    · cases e <;> first | (simp [mE] at h; done) | rfl
  | bcall m b as ih =>
    have key : ∀ (S : Sx) (e : Expr), mE G (.bcall m b as) S e = true → ∃ p es pos, e = .Call (.Name (btName b) p) es [] pos ∧ isGl S.sc (btName b) = true ∧ G.blt.contains (btName b) = true ∧ (match b with
        | .lrange => (match es with
          | [.Call (.Name y _) rs [] _] => decide (y = ("range" : Str)) && isGl S.sc y && G.blt.contains y && decide (rs.length ≤ 2) && mEs G as S rs
          | _ => false)
        | .trange => (match es with
          | [.Call (.Name y _) rs [] _] => decide (y = ("range" : Str)) && isGl S.sc y && G.blt.contains y && decide (rs.length ≤ 2) && mEs G as S rs
          | _ => false)
        | _ => !es.isEmpty && mEs G as S es) = true := by
      intro S e h
      cases e <;> first | (simp [mE] at h; done) | skip
      rename_i fn es kws pos
      cases fn <;> cases kws <;> first | (simp [mE] at h; done) | skip
      rename_i x p
      simp only [mE] at h
      rw [Bool.and_eq_true, Bool.and_eq_true, Bool.and_eq_true, decide_eq_true_eq] at h
      obtain ⟨⟨⟨h1, h2⟩, h3⟩, h4⟩ := h
      subst h1
      exact ⟨p, es, pos, rfl, h2, h3, h4⟩
    have kr : ∀ (S : Sx) (es : List Expr), (match es with
          | [.Call (.Name y _) rs [] _] => decide (y = ("range" : Str)) && isGl S.sc y && G.blt.contains y && decide (rs.length ≤ 2) && mEs G as S rs
          | _ => false) = true → ∃ p1 rs pos1, es = [.Call (.Name "range" p1) rs [] pos1] ∧ isGl S.sc "range" = true ∧ G.blt.contains "range" = true ∧ mEs G as S rs = true := by
      intro S es h
      split at h
      · rename_i y p1 rs pos1
        simp only [Bool.and_eq_true, decide_eq_true_eq] at h
        obtain ⟨⟨⟨⟨h1, h2⟩, h3⟩, h4⟩, h5⟩ := h
        subst h1
        exact ⟨p1, rs, pos1, rfl, h2, h3, h5⟩
      · cases h
    have emp : ∀ (S : Sx) (es : List Expr), (!es.isEmpty && mEs G as S es) = true → ∃ e1 r, es = e1 :: r ∧ mEs G as S (e1 :: r) = true := by
      intro S es h
      cases es with
      | nil => simp at h
      | cons e1 r => exact ⟨e1, r, rfl, by simpa using h⟩
    have nor : ∀ (S : Sx) (X : Cx) (W : WX), mEs G as S [] = true → ∀ (ls : Ls) (h : Hs), evs Γ as ls h = .ok [] h := by
      intro S X W h ls hh
      cases as <;> simp [mEs] at h
      rw [evs]
    refine .val (fun S e X W O h => ?_) (fun S e h => ?_) (fun S es => by cases es <;> simp [mEs]) (fun S o => by cases o <;> simp [mP]) (fun S tg it => by simp [mI])
    · obtain ⟨p, es, pos, rfl, h2, h3, h4⟩ := key S e h
      have hu : X.A.units + 66 < cLine := O.un
      cases b with
      | len => obtain ⟨e1, r, rfl, h5⟩ := emp S es h4; exact s_bcallB O X0 h2 h3 h5 (ih.A S _ X W O h5) ct_len (by decide +kernel) (by decide +kernel)
      | abs => obtain ⟨e1, r, rfl, h5⟩ := emp S es h4; exact s_bcallB O X0 h2 h3 h5 (ih.A S _ X W O h5) ct_abs (by decide +kernel) (by decide +kernel)
      | int => obtain ⟨e1, r, rfl, h5⟩ := emp S es h4; exact s_bcallT O X0 h2 h3 h5 (ih.A S _ X W O h5) ct_int (by decide +kernel) (by decide +kernel)
      | tuple => obtain ⟨e1, r, rfl, h5⟩ := emp S es h4; exact s_bcallT O X0 h2 h3 h5 (ih.A S _ X W O h5) (ct_tuple O.calm) (by decide +kernel) (by decide +kernel)
      | list => obtain ⟨e1, r, rfl, h5⟩ := emp S es h4; exact s_bcallT O X0 h2 h3 h5 (ih.A S _ X W O h5) (ct_list O.calm) (by decide +kernel) (by decide +kernel)
      | dict => obtain ⟨e1, r, rfl, h5⟩ := emp S es h4; exact s_bcallT O X0 h2 h3 h5 (ih.A S _ X W O h5) (ct_dict O.calm) (by decide +kernel) (by decide +kernel)
      | all => obtain ⟨e1, r, rfl, h5⟩ := emp S es h4; exact s_bcallB O X0 h2 h3 h5 (ih.A S _ X W O h5) (ct_all O.calm) (by decide +kernel) (by decide +kernel)
      | any => obtain ⟨e1, r, rfl, h5⟩ := emp S es h4; exact s_bcallB O X0 h2 h3 h5 (ih.A S _ X W O h5) (ct_any O.calm) (by decide +kernel) (by decide +kernel)
      | sum => obtain ⟨e1, r, rfl, h5⟩ := emp S es h4; exact s_bcallB O X0 h2 h3 h5 (ih.A S _ X W O h5) (ct_sum O.calm) (by decide +kernel) (by decide +kernel)
      | max => obtain ⟨e1, r, rfl, h5⟩ := emp S es h4; exact s_bcallB O X0 h2 h3 h5 (ih.A S _ X W O h5) (ct_max O.calm hu) (by decide +kernel) (by decide +kernel)
      | min => obtain ⟨e1, r, rfl, h5⟩ := emp S es h4; exact s_bcallB O X0 h2 h3 h5 (ih.A S _ X W O h5) (ct_min O.calm hu) (by decide +kernel) (by decide +kernel)
      | sorted => obtain ⟨e1, r, rfl, h5⟩ := emp S es h4; exact s_bcallB O X0 h2 h3 h5 (ih.A S _ X W O h5) (ct_sorted O.calm hu) (by decide +kernel) (by decide +kernel)
      | lrange =>
        obtain ⟨p1, rs, pos1, rfl, g1, g2, g3⟩ := kr S es h4
        cases rs with
        | cons r rs => exact s_lrange O X0 h2 h3 g1 g2 g3 (ih.A S _ X W O g3)
        | nil =>
          refine ⟨fun pins s σ H Q I hh => ?_⟩
          obtain ⟨ρ, ls, hh, rl, hr, hq⟩ := hh
          rw [ev, nor S X W g3] at hq
          exact hq.elim
      | trange =>
        obtain ⟨p1, rs, pos1, rfl, g1, g2, g3⟩ := kr S es h4
        cases rs with
        | cons r rs => exact s_trange O X0 h2 h3 g1 g2 g3 (ih.A S _ X W O g3)
        | nil =>
          refine ⟨fun pins s σ H Q I hh => ?_⟩
          obtain ⟨ρ, ls, hh, rl, hr, hq⟩ := hh
          rw [ev, nor S X W g3] at hq
          exact hq.elim
    · obtain ⟨p, es, pos, rfl, _⟩ := key S e h; rfl
  | bmeth m o as iho ih =>
    have key : ∀ (S : Sx) (e : Expr), mE G (.bmeth m o as) S e = true → ∃ eo apos es cpos, e = .Call (.Attribute eo (bmName m) apos) es [] cpos ∧ noCall eo = true ∧ (apos.endLine == cpos.line) = true ∧ es.length ≤ 1 ∧ mE G o S eo = true ∧ mEs G as S es = true := by
      intro S e h
      cases e <;> first | (simp [mE] at h; done) | skip
      rename_i fn es kws pos
      cases fn <;> cases kws <;> first | (simp [mE] at h; done) | skip
      rename_i eo x p
      simp only [mE] at h
      rw [Bool.and_eq_true, Bool.and_eq_true, Bool.and_eq_true, Bool.and_eq_true, Bool.and_eq_true, decide_eq_true_eq, decide_eq_true_eq] at h
      obtain ⟨⟨⟨⟨⟨h1, h2⟩, h3⟩, h4⟩, h5⟩, h6⟩ := h
      subst h1
      exact ⟨eo, p, es, pos, rfl, h2, h3, h4, h5, h6⟩
    refine .val (fun S e X W O h => ?_) (fun S e h => ?_) (fun S es => by cases es <;> simp [mEs]) (fun S o => by cases o <;> simp [mP]) (fun S tg it => by simp [mI])
    · obtain ⟨eo, apos, es, cpos, rfl, h1, h2, h3, h4, h5⟩ := key S e h
      have hO := iho.E S _ X W O h4
      have hA := ih.A S _ X W O h5
      match es, h3, h5, hA with
      | _ :: _ :: _, h3, _, _ => simp at h3
      | [e1], _, h5, hA =>
        cases m with
        | append => exact s_bmeth1 O h1 h2 h5 hO hA PySem.F.slot_list_append PySem.F.type_list_append mt_app (fun _ _ _ _ _ q => q)
        | extend => exact s_bmeth1 O h1 h2 h5 hO hA PySem.F.slot_list_extend PySem.F.type_list_extend mt_ext (fun _ _ _ _ _ q => q)
        | pop => exact s_bmeth1 O h1 h2 h5 hO hA PySem.F.slot_list_pop PySem.F.type_list_pop mt_pop1 (fun _ _ _ _ n q => ⟨n, q⟩)
      | [], _, h5, hA =>
        cases m with
        | append => exact s_bmeth0 O h1 h2 h5 hO PySem.F.slot_list_append PySem.F.type_list_append mt_app (fun _ _ _ q => q)
        | extend => exact s_bmeth0 O h1 h2 h5 hO PySem.F.slot_list_extend PySem.F.type_list_extend mt_ext (fun _ _ _ q => q)
        | pop => exact s_bmeth0 O h1 h2 h5 hO PySem.F.slot_list_pop PySem.F.type_list_pop mt_pop0 (fun _ _ _ q => ⟨rfl, q⟩)
    · obtain ⟨eo, apos, es, cpos, rfl, _⟩ := key S e h; rfl
  | comp m own t it c e iht ihc ihe =>
    refine .val (fun S ex X W O h => ?_) (fun S ex h => ?_) (fun S es => by cases es <;> simp [mEs]) (fun S o => by cases o <;> simp [mP]) (fun S tg it => by simp [mI])
    · cases ex <;> first | (simp [mE] at h; done) | skip
      rename_i elt gs scope pos
      match gs, h with
      | [], h => simp [mE] at h
      | _ :: _ :: _, h => simp [mE] at h
      | [⟨tg, iter, ifs, a⟩], h =>
        simp only [mE] at h
        rw [Bool.and_eq_true, Bool.and_eq_true, Bool.and_eq_true, Bool.and_eq_true, Bool.and_eq_true, Bool.and_eq_true, Bool.and_eq_true, decide_eq_true_eq] at h
        obtain ⟨⟨⟨⟨⟨⟨⟨h0, h1⟩, h2⟩, h3⟩, h4⟩, h5⟩, h6⟩, h7⟩ := h
        subst h0
        exact s_comp O h1 h2 (iht.I S _ _ X W O h3) h4 h5 (tests_of ihc h7) (fun X' O' => ihe.E _ _ X' WN O' h6)
    · cases ex <;> first | (simp [mE] at h; done) | rfl
  | iseq e ih =>
    refine .none (fun S e => by cases e <;> simp [mE]) (fun S es X W O h => by cases es <;> simp [mEs] at h) (fun S o X W O h => by cases o <;> simp [mP] at h) (fun S tg it X W O h => ?_)
    simp only [mI] at h
    exact i_seq O (ih.E S _ X W O h)
  | irange as ih =>
    refine .none (fun S e => by cases e <;> simp [mE]) (fun S es X W O h => by cases es <;> simp [mEs] at h) (fun S o X W O h => by cases o <;> simp [mP] at h) (fun S tg it X W O h => ?_)
    cases it <;> first | (simp [mI] at h; done) | skip
    rename_i fn es kws pos
    cases fn <;> cases kws <;> first | (simp [mI] at h; done) | skip
    rename_i x p
    simp only [mI, Bool.and_eq_true, decide_eq_true_eq] at h
    obtain ⟨⟨⟨⟨h1, h2⟩, h3⟩, h4⟩, h5⟩ := h
    subst h1
    cases es with
    | cons e es => exact i_range O X0 h2 h3 h5 (ih.A S _ X W O h5)
    | nil =>
      refine ⟨fun pins s σ H Q I hh => ?_⟩
      obtain ⟨ρ, ls, hh, rl, hr, hq⟩ := hh
      cases as <;> simp [mEs] at h5
      rw [evI, evs] at hq
      exact hq.elim
  | ienum as ih =>
    refine .none (fun S e => by cases e <;> simp [mE]) (fun S es X W O h => by cases es <;> simp [mEs] at h) (fun S o X W O h => by cases o <;> simp [mP] at h) (fun S tg it X W O h => ?_)
    cases it <;> first | (simp [mI] at h; done) | skip
    rename_i fn es kws pos
    cases fn <;> cases kws <;> first | (simp [mI] at h; done) | skip
    rename_i x p
    simp only [mI, Bool.and_eq_true, decide_eq_true_eq] at h
    obtain ⟨⟨⟨⟨⟨h0, h1⟩, h2⟩, h3⟩, h4⟩, h5⟩ := h
    subst h1
    cases tg <;> first | (cases h0; done) | skip
    match es, h4 with
    | [e], _ => exact i_enum O X0 h2 h3 h5 (ih.A S _ X W O h5)
  | izip as ih =>
    refine .none (fun S e => by cases e <;> simp [mE]) (fun S es X W O h => by cases es <;> simp [mEs] at h) (fun S o X W O h => by cases o <;> simp [mP] at h) (fun S tg it X W O h => ?_)
    cases it <;> first | (simp [mI] at h; done) | skip
    rename_i fn es kws pos
    cases fn <;> cases kws <;> first | (simp [mI] at h; done) | skip
    rename_i x p
    simp only [mI, Bool.and_eq_true, decide_eq_true_eq] at h
    obtain ⟨⟨⟨⟨⟨h0, h1⟩, h2⟩, h3⟩, h4⟩, h5⟩ := h
    subst h1
    cases tg <;> first | (cases h0; done) | skip
    match es, h4 with
    | [e, e2], _ => exact i_zip O X0 h2 h3 h5 (ih.A S _ X W O h5)
  | dnil =>
    refine .val (fun S e X W O h => ?_) (fun S e h => ?_) (fun S es => by cases es <;> simp [mEs]) (fun S o => by cases o <;> simp [mP]) (fun S tg it => by simp [mI])
    · cases e <;> first | (simp [mE] at h; done) | skip
      rename_i ks vs pos
      cases ks <;> cases vs <;> first | (simp [mE] at h; done) | skip
      exact s_dnil
    · cases e <;> first | (simp [mE] at h; done) | rfl
  | svals m e ih =>
    refine .val (fun S x X W O h => ?_) (fun S x h => ?_) (fun S es => by cases es <;> simp [mEs]) (fun S o => by cases o <;> simp [mP]) (fun S tg it => by simp [mI])
    · cases x <;> first | (simp [mE] at h; done) | skip
      rename_i fn es kws pos
      cases fn <;> cases kws <;> first | (simp [mE] at h; done) | skip
      simp only [mE, Bool.and_eq_true, decide_eq_true_eq] at h
      obtain ⟨⟨⟨h1, h2⟩, h3⟩, h4⟩ := h
      subst h1
      split at h4
      · rename_i eo apos cpos hv
        rw [viewC_eq hv]
        simp only [Bool.and_eq_true] at h4
        exact s_svals O X0 h2 h3 h4.1.1 h4.1.2 (ih.E S eo X W O h4.2)
      · cases h4
    · cases x <;> first | (simp [mE] at h; done) | rfl
  | rev m e ih =>
    have key : ∀ (S : Sx) (x : Expr), mE G (.rev m e) S x = true → ∃ ea k p1 p2 p3 pos, x = .Subscript ea (.Slice none none (some (.UnaryOp .USub (.Constant (.int 1) k p1) p2)) p3) pos ∧ mE G e S ea = true := by
      intro S x h
      cases x <;> first | (simp [mE] at h; done) | skip
      rename_i ea sl pos
      simp only [mE, Bool.and_eq_true] at h
      obtain ⟨k, p1, p2, p3, rfl⟩ := isRev_eq h.1
      exact ⟨_, _, _, _, _, _, rfl, h.2⟩
    refine .val (fun S x X W O h => ?_) (fun S x h => ?_) (fun S es => by cases es <;> simp [mEs]) (fun S o => by cases o <;> simp [mP]) (fun S tg it => by simp [mI])
    · obtain ⟨ea, k, p1, p2, p3, pos, rfl, h2⟩ := key S x h
      exact s_rev O (ih.E S _ X W O h2)
    · obtain ⟨ea, k, p1, p2, p3, pos, rfl, h2⟩ := key S x h; rfl
  | dcomp m own t it c k v iht ihc ihk ihv =>
    refine .val (fun S ex X W O h => ?_) (fun S ex h => ?_) (fun S es => by cases es <;> simp [mEs]) (fun S o => by cases o <;> simp [mP]) (fun S tg it => by simp [mI])
    · cases ex <;> first | (simp [mE] at h; done) | skip
      rename_i kx vx gs scope pos
      match gs, h with
      | [], h => simp [mE] at h
      | _ :: _ :: _, h => simp [mE] at h
      | [⟨tg, iter, ifs, a⟩], h =>
        simp only [mE] at h
        rw [Bool.and_eq_true, Bool.and_eq_true, Bool.and_eq_true, Bool.and_eq_true, Bool.and_eq_true, Bool.and_eq_true, Bool.and_eq_true, Bool.and_eq_true, decide_eq_true_eq] at h
        obtain ⟨⟨⟨⟨⟨⟨⟨⟨h0, h1⟩, h2⟩, h3⟩, h4⟩, h5⟩, h6⟩, h8⟩, h7⟩ := h
        subst h0
        exact s_dcomp O h1 h2 (iht.I S _ _ X W O h3) h4 h5 (tests_of ihc h7) (fun X' O' => ihk.E _ _ X' WN O' h6) (fun X' O' => ihv.E _ _ X' WN O' h8)
    · cases ex <;> first | (simp [mE] at h; done) | rfl
  | dupd o e iho ih =>
    have key : ∀ (S : Sx) (x : Expr), mE G (.dupd o e) S x = true → ∃ eo apos ex cpos, x = .Call (.Attribute eo "update" apos) [ex] [] cpos ∧ noCall eo = true ∧ (apos.endLine == cpos.line) = true ∧ noStar ex = true ∧ mE G o S eo = true ∧ mE G e S ex = true := by
      intro S x h
      cases x <;> first | (simp [mE] at h; done) | skip
      rename_i fn es kws pos
      cases fn <;> cases kws <;> first | (simp [mE] at h; done) | skip
      rename_i eo y p
      match es, h with
      | [], h => simp [mE] at h
      | _ :: _ :: _, h => simp [mE] at h
      | [ex], h =>
        simp only [mE] at h
        rw [Bool.and_eq_true, Bool.and_eq_true, Bool.and_eq_true, Bool.and_eq_true, Bool.and_eq_true, decide_eq_true_eq] at h
        obtain ⟨⟨⟨⟨⟨h1, h2⟩, h3⟩, h4⟩, h5⟩, h6⟩ := h
        subst h1
        exact ⟨eo, p, ex, pos, rfl, h2, h3, h4, h5, h6⟩
    refine .val (fun S x X W O h => ?_) (fun S x h => ?_) (fun S es => by cases es <;> simp [mEs]) (fun S o => by cases o <;> simp [mP]) (fun S tg it => by simp [mI])
    · obtain ⟨eo, apos, ex, cpos, rfl, h1, h2, h3, h4, h5⟩ := key S x h
      exact s_dupd O h1 h2 h3 (iho.E S _ X W O h4) (ih.E S _ X W O h5)
    · obtain ⟨eo, apos, ex, cpos, rfl, _⟩ := key S x h; rfl
  | dget1 o ke iho ihk =>
    have key : ∀ (S : Sx) (x : Expr), mE G (.dget1 o ke) S x = true → ∃ eo apos ek cpos, x = .Call (.Attribute eo "get" apos) [ek] [] cpos ∧ noCall eo = true ∧ (apos.endLine == cpos.line) = true ∧ noStar ek = true ∧ mE G o S eo = true ∧ mE G ke S ek = true := by
      intro S x h
      cases x <;> first | (simp [mE] at h; done) | skip
      rename_i fn es kws pos
      cases fn <;> cases kws <;> first | (simp [mE] at h; done) | skip
      rename_i eo y p
      match es, h with
      | [], h => simp [mE] at h
      | _ :: _ :: _, h => simp [mE] at h
      | [ex], h =>
        simp only [mE] at h
        rw [Bool.and_eq_true, Bool.and_eq_true, Bool.and_eq_true, Bool.and_eq_true, Bool.and_eq_true, decide_eq_true_eq] at h
        obtain ⟨⟨⟨⟨⟨h1, h2⟩, h3⟩, h4⟩, h5⟩, h6⟩ := h
        subst h1
        exact ⟨eo, p, ex, pos, rfl, h2, h3, h4, h5, h6⟩
    refine .val (fun S x X W O h => ?_) (fun S x h => ?_) (fun S es => by cases es <;> simp [mEs]) (fun S o => by cases o <;> simp [mP]) (fun S tg it => by simp [mI])
    · obtain ⟨eo, apos, ex, cpos, rfl, h1, h2, h3, h4, h5⟩ := key S x h
      exact s_dget1 O h1 h2 h3 (iho.E S _ X W O h4) (ihk.E S _ X W O h5)
    · obtain ⟨eo, apos, ex, cpos, rfl, _⟩ := key S x h; rfl
  | dget o ke c iho ihk ihc =>
    have key : ∀ (S : Sx) (x : Expr), mE G (.dget o ke c) S x = true → ∃ eo apos ek ec cpos, x = .Call (.Attribute eo "get" apos) [ek, ec] [] cpos ∧ noCall eo = true ∧ (apos.endLine == cpos.line) = true ∧ noStar ek = true ∧ noStar ec = true ∧ mE G o S eo = true ∧ mE G ke S ek = true ∧ mE G c S ec = true := by
      intro S x h
      cases x <;> first | (simp [mE] at h; done) | skip
      rename_i fn es kws pos
      cases fn <;> cases kws <;> first | (simp [mE] at h; done) | skip
      rename_i eo y p
      match es, h with
      | [], h => simp [mE] at h
      | [_], h => simp [mE] at h
      | _ :: _ :: _ :: _, h => simp [mE] at h
      | [ex, ec], h =>
        simp only [mE] at h
        rw [Bool.and_eq_true, Bool.and_eq_true, Bool.and_eq_true, Bool.and_eq_true, Bool.and_eq_true, Bool.and_eq_true, Bool.and_eq_true, decide_eq_true_eq] at h
        obtain ⟨⟨⟨⟨⟨⟨⟨h1, h2⟩, h3⟩, h4⟩, h5⟩, h6⟩, h7⟩, h8⟩ := h
        subst h1
        exact ⟨eo, p, ex, ec, pos, rfl, h2, h3, h4, h5, h6, h7, h8⟩
    refine .val (fun S x X W O h => ?_) (fun S x h => ?_) (fun S es => by cases es <;> simp [mEs]) (fun S o => by cases o <;> simp [mP]) (fun S tg it => by simp [mI])
    · obtain ⟨eo, apos, ex, ec, cpos, rfl, h1, h2, h3, h4, h5, h6, h7⟩ := key S x h
      exact s_dget O h1 h2 h3 h4 (iho.E S _ X W O h5) (ihk.E S _ X W O h6) (ihc.E S _ X W O h7)
    · obtain ⟨eo, apos, ex, ec, cpos, rfl, _⟩ := key S x h; rfl
  | dsetd o ke c iho ihk ihc =>
    have key : ∀ (S : Sx) (x : Expr), mE G (.dsetd o ke c) S x = true → ∃ eo apos ek ec cpos, x = .Call (.Attribute eo "setdefault" apos) [ek, ec] [] cpos ∧ noCall eo = true ∧ (apos.endLine == cpos.line) = true ∧ noStar ek = true ∧ noStar ec = true ∧ mE G o S eo = true ∧ mE G ke S ek = true ∧ mE G c S ec = true := by
      intro S x h
      cases x <;> first | (simp [mE] at h; done) | skip
      rename_i fn es kws pos
      cases fn <;> cases kws <;> first | (simp [mE] at h; done) | skip
      rename_i eo y p
      match es, h with
      | [], h => simp [mE] at h
      | [_], h => simp [mE] at h
      | _ :: _ :: _ :: _, h => simp [mE] at h
      | [ex, ec], h =>
        simp only [mE] at h
        rw [Bool.and_eq_true, Bool.and_eq_true, Bool.and_eq_true, Bool.and_eq_true, Bool.and_eq_true, Bool.and_eq_true, Bool.and_eq_true, decide_eq_true_eq] at h
        obtain ⟨⟨⟨⟨⟨⟨⟨h1, h2⟩, h3⟩, h4⟩, h5⟩, h6⟩, h7⟩, h8⟩ := h
        subst h1
        exact ⟨eo, p, ex, ec, pos, rfl, h2, h3, h4, h5, h6, h7, h8⟩
    refine .val (fun S x X W O h => ?_) (fun S x h => ?_) (fun S es => by cases es <;> simp [mEs]) (fun S o => by cases o <;> simp [mP]) (fun S tg it => by simp [mI])
    · obtain ⟨eo, apos, ex, ec, cpos, rfl, h1, h2, h3, h4, h5, h6, h7⟩ := key S x h
      exact s_dsetd O h1 h2 h3 h4 (iho.E S _ X W O h5) (ihk.E S _ X W O h6) (ihc.E S _ X W O h7)
    · obtain ⟨eo, apos, ex, ec, cpos, rfl, _⟩ := key S x h; rfl
  | ddisp m as ih =>
    refine .val (fun S x X W O h => ?_) (fun S x h => ?_) (fun S es => by cases es <;> simp [mEs]) (fun S o => by cases o <;> simp [mP]) (fun S tg it => by simp [mI])
    · cases x <;> first | (simp [mE] at h; done) | skip
      rename_i ks vs pos
      simp only [mE, Bool.and_eq_true, decide_eq_true_eq, Bool.not_eq_true'] at h
      obtain ⟨⟨⟨⟨h1, h2⟩, h3⟩, h5⟩, h4⟩ := h
      obtain ⟨trs, p1, p2⟩ := ih.K S ks vs pos X W O h4
      exact s_ddisp p1 p2 h1 h2 h3 h5
    · cases x <;> first | (simp [mE] at h; done) | rfl
  | sset m e ih =>
    refine .val (fun S x X W O h => ?_) (fun S x h => ?_) (fun S es => by cases es <;> simp [mEs]) (fun S o => by cases o <;> simp [mP]) (fun S tg it => by simp [mI])
    · cases x <;> first | (simp [mE] at h; done) | skip
      rename_i fn es kws pos
      cases fn <;> cases kws <;> first | (simp [mE] at h; done) | skip
      simp only [mE, Bool.and_eq_true, decide_eq_true_eq] at h
      obtain ⟨⟨⟨h1, h2⟩, h3⟩, h4⟩ := h
      subst h1
      split at h4
      · rename_i ex p2 q2 hv
        rw [viewN_eq hv]
        simp only [Bool.and_eq_true] at h4
        exact s_sset O X0 h2 h3 h4.1.1.1 h4.1.1.2 h4.1.2 (ih.E S ex X W O h4.2)
      · cases h4
    · cases x <;> first | (simp [mE] at h; done) | rfl
  | lset e ih =>
    refine .val (fun S x X W O h => ?_) (fun S x h => ?_) (fun S es => by cases es <;> simp [mEs]) (fun S o => by cases o <;> simp [mP]) (fun S tg it => by simp [mI])
    · cases x <;> first | (simp [mE] at h; done) | skip
      rename_i fn es kws pos
      cases fn <;> cases kws <;> first | (simp [mE] at h; done) | skip
      simp only [mE, Bool.and_eq_true, decide_eq_true_eq] at h
      obtain ⟨⟨⟨h1, h2⟩, h3⟩, h4⟩ := h
      subst h1
      split at h4
      · rename_i ex p2 q2 hv
        rw [viewN_eq hv]
        simp only [Bool.and_eq_true] at h4
        exact s_lset O X0 h2 h3 h4.1.1.1 h4.1.1.2 h4.1.2 (ih.E S ex X W O h4.2)
      · cases h4
    · cases x <;> first | (simp [mE] at h; done) | rfl
end
end FL
set_option autoImplicit false
set_option linter.all false
set_option maxRecDepth 100000
/-! FL, part G: statements. -/
namespace FL
open PySem L2 PyProof.Rows PySem.SeqAt

def noComp : Expr → Bool
  | .ListComp .. => false
  | .SetComp .. => false
  | .DictComp .. => false
  | _ => true
def noTup : Expr → Bool
  | .Tuple .. => false
  | .List .. => false
  | _ => true
def mSetLc (G : Sg) (S : Sx) : FT → FE → Expr → Expr → Bool
  | .name i, .comp m own t2 it c el, .Name y py, .ListComp elt [g] scope p => decide (S.N[i]? = some y) && decide (S.sc.names.lookup y = some .local) && (py.line == p.line) && !(scope.names.any fun (n, k) => n == y && (k == .local || k == .cell)) && mE G (.comp m own t2 it c el) S (.ListComp elt [g] scope p)
  | _, _, _, _ => false
def mSetDc (G : Sg) (S : Sx) : FT → FE → Expr → Expr → Bool
  | .name i, .dcomp m own t2 it c ek el, .Name y py, .DictComp kx vx [g] scope p => decide (S.N[i]? = some y) && decide (S.sc.names.lookup y = some .local) && (py.line == p.line) && !(scope.names.any fun (n, k) => n == y && (k == .local || k == .cell)) && mE G (.dcomp m own t2 it c ek el) S (.DictComp kx vx [g] scope p)
  | _, _, _, _ => false
def mRaise (G : Sg) (S : Sx) (c : Str) (as : FE) : Expr → Bool
  | .Call (.Name x _) [a] [] _ => decide (c = x) && isGl S.sc x && G.errs.contains x && mEs G as S [a]
  | _ => false
/-- the suite of an except clause -/
def mFX (G : Sg) (S : Sx) (c n : Str) : FX → List Stmt → Bool
  | .code, [.Return (some (.Attribute (.Name y _) f _)) _] => decide (y = n) && decide (f = ("code" : Str))
  | .codeIs S0, [.Return (some (.IfExp (.Call (.Name z _) [.Name y1 _, .Name y2 _] [] _) (.Attribute (.Name y _) f _) (.Constant (.str _) _ _) _)) _] => decide (y = n) && decide (y1 = n) && decide (y2 = S0) && decide (f = ("code" : Str)) &&
    decide (z = ("isinstance" : Str)) && isGl S.sc z && G.blt.contains z && isGl S.sc y2 && G.isE.contains (c, y2)
  | _, _ => false
def mHandler (G : Sg) (S : Sx) (c : Str) (i : Nat) (x : FX) : List ExceptHandler → Bool
  | [.ExceptHandler (some (.Name z _)) (some n) suite _] => decide (c = z) && isGl S.sc z && G.errs.contains z && decide (S.N[i]? = some n) && decide (S.sc.names.lookup n = some .local) && !(n == ("__debug__" : Str)) && !(n == ("__classdict__" : Str)) && mFX G S c n x suite
  | _ => false
/-- a name that comprehensions capture -/
def cellTgt (S : Sx) : Expr → Bool
  | .Name y _ => decide (S.sc.names.lookup y = some .cell)
  | _ => false
/-- o.f, o.g, .. -/
def mAtts (G : Sg) (S : Sx) (o : FE) : List Str → List Expr → Bool
  | [], [] => true
  | f :: fs, .Attribute eo y _ :: es => decide (f = y) && G.attrs.contains f && mE G o S eo && mAtts G S o fs es
  | _, _ => false
def mAsg (G : Sg) (S : Sx) (e : FE) (tg x : Expr) : FG → Bool
  | .tgt t => ((noComp x || cellTgt S tg) && (noTup tg || noTup x) && noStar tg && mT S t tg && mE G e S x) || mSetLc G S t e tg x || mSetDc G S t e tg x
  | .sub o i => match tg with
    | .Subscript eo ei _ => noComp x && noSlice ei && mE G o S eo && mE G i S ei && mE G e S x
    | _ => false
  | .attr o f => match tg with
    | .Attribute eo y _ => decide (f = y) && G.attrs.contains f && mE G o S eo && mE G e S x
    | _ => false
  | .atup o fs => match tg with
    | .Tuple es _ _ => noComp x && noTup x && mAtts G S o fs es && mE G e S x
    | _ => false
def mPar (S : Sx) (i j : Nat) (x y : Str) (px py : Pos) (ea eb : Expr) : Bool := noStar ea && noStar eb && decide (i ≠ j) && decide (S.N[i]? = some x) && decide (S.N[j]? = some y) && decide (x ≠ y) && decide (S.sc.names.lookup x = some .local) && decide (S.sc.names.lookup y = some .local) && decide (py.line = px.line) && !([ea, eb].all (foldedForSure 8)) && !([ea, eb].all (constantsAlone 8))
mutual
def mS (G : Sg) : FS → Sx → Stmt → Bool
  | .pass, _, .Pass _ => true
  | .brk, _, .Break _ => true
  | .cont, _, .Continue _ => true
  | .expr e, S, .Expr x _ => noComp x && mE G e S x
  | .asg g e, S, .Assign tgs x _ => (match tgs with
    | [tg] => mAsg G S e tg x g
    | _ => false)
  | .par i j a b, S, .Assign [.Tuple [.Name x px, .Name y py] _ _] (.Tuple [ea, eb] _ _) _ => mPar S i j x y px py ea eb && mE G a S ea && mE G b S eb
  | .aug i op e, S, .AugAssign (.Name x _) op' v _ => decide (op = op') && decide (S.N[i]? = some x) && isLoc S x && mE G e S v
  | .raise c as, S, .Raise (some x) none _ => mRaise G S c as x
  | .try_ body c i x, S, .Try ys hs [] [] _ => mSs G body S ys && mHandler G S c i x hs
  | .ret e, S, .Return (some x) _ => mE G e S x
  | .retN, _, .Return none _ => true
  | .ite c a b, S, .If x y z _ => mE G c S x && mSs G a S y && mSs G b S z
  | .for_ t it body _, S, .For tg x ys [] _ => noSet x && mI G it S tg x && mT S t tg && mSs G body S ys
  | .while_ c body _, S, .While x ys [] _ => mE G c S x && mSs G body S ys
  | _, _, _ => false
def mSs (G : Sg) : FS → Sx → List Stmt → Bool
  | .snil, _, [] => true
  | .scons s ss, S, x :: xs => mS G s S x && mSs G ss S xs
  | _, _, _ => false
end

/-! ### readings -/
def PRS (T : Tx) (W : WX) (H : Hp) (ρ : List Addr) (D : Ends) : RS → Prop
  | .nx ls h => ∀ (ρ' : List Addr) (σ' : L2.St) (H' : Hp), Ext ρ ρ' → KF H ρ H' ρ' → HR T H' ρ' h → RL T.K H' ρ' ls σ' → D.nx σ' H'
  | .bk ls h => ∀ (ρ' : List Addr) (σ' : L2.St) (H' : Hp), Ext ρ ρ' → KF H ρ H' ρ' → HR T H' ρ' h → RL T.K H' ρ' ls σ' → D.bk σ' H'
  | .ct ls h => ∀ (ρ' : List Addr) (σ' : L2.St) (H' : Hp), Ext ρ ρ' → KF H ρ H' ρ' → HR T H' ρ' h → RL T.K H' ρ' ls σ' → D.ct σ' H'
  | .rt d h => ∀ (ρ' : List Addr) (v : V) (H' : Hp), Ext ρ ρ' → KF H ρ H' ρ' → HR T H' ρ' h → RD T.K H' ρ' d v → D.rt v H'
  | .exc c fs ls h => ∀ (ρ' : List Addr) (cls : Value) (dx : Option Addr) (σ' : L2.St) (H' : Hp), Ext ρ ρ' → KF H ρ H' ρ' → HR T H' ρ' h → RL T.K H' ρ' ls σ' → XR T H' ρ' c fs cls dx → W cls dx σ' H'
  | .bad => False
def tS (Γ : Cfg) (T : Tx) (W : WX) (fs : FS) : TS := fun D σ H => ∃ ρ ls h, RL T.K H ρ ls σ ∧ HR T H ρ h ∧ PRS T W H ρ D (evS Γ fs ls h)
theorem pssW {X : Cx} {e : List Stmt} {t t' : TS} (h : PSs X e t) (w : ∀ D σ H, t' D σ H → t D σ H) : PSs X e t' := ⟨fun pins s σ H D I q => h.run pins s σ H D I (w D σ H q)⟩
section
variable {α β : Type} {T : Tx} {W : WX} {σ : L2.St} {H H1 : Hp} {ρ ρ1 : List Addr} {D : Ends} {RA : Hp → List Addr → α → β → Prop} {Q : β → Hp → Prop} {K : α → Hs → List Addr → Hp → Prop}
theorem PRS.after {r : RS} (h : PRS T W H ρ D r) (e : Ext ρ ρ1) (k : KF H ρ H1 ρ1) : PRS T W H1 ρ1 D r := by
  cases r with
  | nx ls h' => exact fun ρ' σ' H' e' k' => h ρ' σ' H' (e.trans e') (k.trans k')
  | bk ls h' => exact fun ρ' σ' H' e' k' => h ρ' σ' H' (e.trans e') (k.trans k')
  | ct ls h' => exact fun ρ' σ' H' e' k' => h ρ' σ' H' (e.trans e') (k.trans k')
  | rt d h' => exact fun ρ' v H' e' k' => h ρ' v H' (e.trans e') (k.trans k')
  | exc c fs ls h' => exact fun ρ' cls dx σ' H' e' k' => h ρ' cls dx σ' H' (e.trans e') (k.trans k')
  | bad => exact h
theorem PRS.andS {r : R α} {ls : Ls} {f : α → Hs → RS} (hp : PRS T W H ρ D (r.andS ls f)) (rl : RL T.K H ρ ls σ)
    (k : ∀ (a : α) (h1 : Hs) (ρ1 : List Addr) (b : β) (H1 : Hp), r = .ok a h1 → Ext ρ ρ1 → KF H ρ H1 ρ1 → HR T H1 ρ1 h1 → RA H1 ρ1 a b → PRS T W H1 ρ1 D (f a h1) → Q b H1) : PR T W σ H ρ RA Q r := by
  cases r with
  | ok a h' => exact fun ρ' b H' e' k' hr ra => k a h' ρ' b H' rfl e' k' hr ra (hp.after e' k')
  | exc c fs h' => exact fun ρ' cls dx H' e' k' hr x => hp ρ' cls dx σ H' e' k' hr (rl.mono k'.k e') x
  | bad => exact hp
theorem PRS.andK {r : R α} {ls : Ls} {f : α → Hs → RS} (hp : PRS T W H ρ D (r.andS ls f)) (rl : RL T.K H ρ ls σ)
    (k : ∀ (a : α) (h1 : Hs) (ρ1 : List Addr) (H1 : Hp), r = .ok a h1 → Ext ρ ρ1 → KF H ρ H1 ρ1 → HR T H1 ρ1 h1 → PRS T W H1 ρ1 D (f a h1) → K a h1 ρ1 H1) : PK T W σ H ρ K r := by
  cases r with
  | ok a h' => exact fun ρ' H' e' k' hr => k a h' ρ' H' rfl e' k' hr (hp.after e' k')
  | exc c fs h' => exact fun ρ' cls dx H' e' k' hr x => hp ρ' cls dx σ H' e' k' hr (rl.mono k'.k e') x
  | bad => exact hp
theorem PRS.nx {ls : Ls} {h : Hs} (hp : PRS T W H ρ D (.nx ls h)) (hr : HR T H ρ h) (rl : RL T.K H ρ ls σ) : D.nx σ H := hp ρ σ H (Ext.refl _) (KF.refl _ _) hr rl
end
section
variable {G : Sg} {T : Tx} {B : Heap} {Γ : Cfg} {k : Nat} {S : Sx} {X : Cx} {W : WX}
theorem comp_none {e : Expr} {l : Nat} {env : Env} (h : noComp e = true) (tg : Option Expr) : swapsWith e tg l env = pure false := by
  cases e <;> first | rfl | cases h
theorem comp_cell {e tg : Expr} {l : Nat} (O : Ok T B k S X W) (h : (noComp e || cellTgt S tg) = true) : swapsWith e (some tg) l X.env = pure false := by
  rw [Bool.or_eq_true] at h
  rcases h with h | h
  · exact comp_none h _
  · cases tg <;> first | (cases h; done) | skip
    rename_i y p
    have hk : X.env.kindOf y = some .cell := by
      unfold Env.kindOf
      rw [O.sc]
      exact of_decide_eq_true h
    unfold swapsWith
    cases e <;> simp [hk, show (NameKind.cell == NameKind.local) = false by decide]
theorem ss_pass {pos : Pos} : PS X (.Pass pos) (tS Γ T W .pass) := by
  refine psW ps_pass fun D σ H hh => ?_
  obtain ⟨ρ, ls, h, rl, hr, hq⟩ := hh
  rw [evS] at hq
  exact hq.nx hr rl
theorem ss_brk {pos : Pos} : PS X (.Break pos) (tS Γ T W .brk) := by
  refine psW ps_break fun D σ H hh => ?_
  obtain ⟨ρ, ls, h, rl, hr, hq⟩ := hh
  rw [evS] at hq
  exact hq ρ σ H (Ext.refl _) (KF.refl _ _) hr rl
theorem ss_cont {pos : Pos} : PS X (.Continue pos) (tS Γ T W .cont) := by
  refine psW ps_continue fun D σ H hh => ?_
  obtain ⟨ρ, ls, h, rl, hr, hq⟩ := hh
  rw [evS] at hq
  exact hq ρ σ H (Ext.refl _) (KF.refl _ _) hr rl
theorem ss_expr {e : FE} {x : Expr} {pos : Pos} (hc : noComp x = true) (he : PE X x (tE Γ T W e)) : PS X (.Expr x pos) (tS Γ T W (.expr e)) := by
  refine psW (ps_expr he (comp_none hc _)) fun D σ H hh => ?_
  obtain ⟨ρ, ls, h, rl, hr, hq⟩ := hh
  rw [evS] at hq
  exact ⟨ρ, ls, h, rl, hr, hq.andS rl fun d h1 ρ1 v H1 _ e k1 hr1 rd hq1 => hq1.nx hr1 (rl.mono k1 e)⟩
theorem ss_ret {e : FE} {x : Expr} {pos : Pos} (he : PE X x (tE Γ T W e)) : PS X (.Return (some x) pos) (tS Γ T W (.ret e)) := by
  refine psW (ps_ret he) fun D σ H hh => ?_
  obtain ⟨ρ, ls, h, rl, hr, hq⟩ := hh
  rw [evS] at hq
  exact ⟨ρ, ls, h, rl, hr, hq.andS rl fun d h1 ρ1 v H1 _ e k1 hr1 rd hq1 => hq1 ρ1 v H1 (Ext.refl _) (KF.refl _ _) hr1 rd⟩
theorem ss_retN {pos : Pos} : PS X (.Return none pos) (tS Γ T W .retN) := by
  refine psW ps_retN fun D σ H hh => ?_
  obtain ⟨ρ, ls, h, rl, hr, hq⟩ := hh
  rw [evS] at hq
  exact hq ρ .non H (Ext.refl _) (KF.refl _ _) hr .non
theorem ss_asg {t : FT} {e : FE} {tg x : Expr} {pos : Pos} (O : Ok T B k S X W) (hc : (noComp x || cellTgt S tg) = true) (ht : (noTup tg || noTup x) = true) (hst : noStar tg = true) (hg : mT S t tg = true) (he : PE X x (tE Γ T W e)) : PS X (.Assign [tg] x pos) (tS Γ T W (.asg (.tgt t) e)) := by
  have hw : swappedStores [tg] x X.env = pure none := by
    cases tg <;> first | rfl | (cases x <;> first | rfl | cases ht)
  refine psW (ps_asg he ((g_ok O t).1 tg hg) (comp_cell O hc) hw (by rw [assign_cons hst]; rfl)) fun D σ H hh => ?_
  obtain ⟨ρ, ls, h, rl, hr, hq⟩ := hh
  rw [evS] at hq
  refine ⟨ρ, ls, h, rl, hr, hq.andS rl fun d h1 ρ1 v H1 _ e k1 hr1 rd hq1 => ?_⟩
  simp only [asgG] at hq1
  split at hq1
  · rename_i ls2 ea
    exact ⟨ρ1, ls, d, ls2, rl.mono k1 e, rd, ea, fun σ2 rl2 _ => hq1.nx hr1 rl2⟩
  · exact hq1.elim
theorem ss_sub {o i e : FE} {eo ei x : Expr} {p pos : Pos} (O : Ok T B k S X W) (hc : noComp x = true) (hs : noSlice ei = true) (ho : PE X eo (tE Γ T W o)) (hi : PE X ei (tE Γ T W i)) (he : PE X x (tE Γ T W e)) : PS X (.Assign [.Subscript eo ei p] x pos) (tS Γ T W (.asg (.sub o i) e)) := by
  have ha : ∀ v, assign (.Subscript eo ei p) X.env v = (do
      let ov ← holding [v] (eval eo X.env)
      let iv ← holding [v, ov] (eval ei X.env)
      standAt p
      holding [v, ov, iv] (setItem ov iv v)
      release [v, ov, iv] []) := by
    intro v
    cases ei <;> first | rfl | cases hs
  refine psW (ps_asg he (pg_sub ho hi (set_any (by have := O.un; omega)) ha) (by simp only [swapsWithSole]; exact comp_none hc _) rfl rfl) fun D σ H hh => ?_
  obtain ⟨ρ, ls, h, rl, hr, hq⟩ := hh
  rw [evS] at hq
  refine ⟨ρ, ls, h, rl, hr, hq.andS rl fun d h1 ρ1 v H1 _ e k1 hr1 rd hq1 => ?_⟩
  have rl1 := rl.mono k1.k e
  refine ⟨ρ1, ls, h1, rl1, hr1, hq1.andS rl1 fun d2 h2 ρ2 v2 H2 _ e2 k2 hr2 rd2 hq2 => ?_⟩
  have rl2 := rl1.mono k2.k e2
  refine ⟨ρ2, ls, h2, rl2, hr2, hq2.andS rl2 fun d3 h3 ρ3 v3 H3 _ e3 k3 hr3 rd3 hq3 => ?_⟩
  rw [O.tx]
  exact ⟨W, σ, ρ3, d2, d3, d, h3, rd2.mono k3 e3, rd3, (rd.mono k2.k e2).mono k3.k e3, hr3, hq3.andS ((rl2.mono k3.k e3)) fun _ h4 ρ4 _ H4 _ e4 k4 hr4 _ hq4 => hq4.nx hr4 ((rl2.mono k3.k e3).mono k4.k e4)⟩
theorem ss_attr {o e : FE} {eo x : Expr} {f : Str} {p pos : Pos} (O : Ok T B k S X W) (X0 : Text G T B Γ k) (hf : G.attrs.contains f = true) (ho : PE X eo (tE Γ T W o)) (he : PE X x (tE Γ T W e)) : PS X (.Assign [.Attribute eo f p] x pos) (tS Γ T W (.asg (.attr o f) e)) := by
  refine psW (ps_fld ho he (by cases x <;> rfl)) fun D σ H hh => ?_
  obtain ⟨ρ, ls, h, rl, hr, hq⟩ := hh
  rw [evS] at hq
  have hK : X.K = T.K := congrArg Tx.K O.tx
  refine ⟨ρ, ls, h, rl, hr, hq.andS rl fun d h1 ρ1 v H1 _ e k1 hr1 rd hq1 => ?_⟩
  have rl1 := rl.mono k1.k e
  refine ⟨ρ1, ls, h1, rl1, hr1, hq1.andS rl1 fun d2 h2 ρ2 v2 H2 _ e2 k2 hr2 rd2 hq2 => ?_⟩
  have rl2 := rl1.mono k2.k e2
  cases rd2 with
  | @loc n a hn =>
    simp only [setF] at hq2
    split at hq2
    · rename_i c fs hc
      split at hq2
      · rename_i hcs
        obtain ⟨C, dx, gs, g0, g1, g2⟩ := hr2.at_ n _ a hc hn
        obtain ⟨C', m1, cl, na⟩ := X0.cls c hcs.2
        rw [g0] at m1; cases m1
        have kp : Keeps H2 (upd H2 a (.ins C dx (L2.putF f v gs))) := Keeps.put g1 (fun _ => nofun) (fun _ _ => nofun)
        obtain ⟨q1, q2⟩ := hr2.setC (o := .ins C dx (L2.putF f v gs)) hc hn rfl (c' := .obj c (FL.putF f d fs)) rfl ⟨C, dx, _, g0, upd_same, ((fieldsR.putF (rd.mono k2.k e2) g2).mono kp (Ext.refl _))⟩
        rw [hK]
        exact ⟨a, C, dx, gs, rfl, g1, cl, na f hf, by rw [← g2.length]; exact hcs.1, PRS.nx (PRS.after hq2 (Ext.refl _) q2) q1 (rl2.mono q2.k (Ext.refl _))⟩
      · exact hq2.elim
    · exact hq2.elim
  | _ => exact hq2.elim
/-- o.f as a target -/
def gAtt (K : PySem.W.Frag) (ta : TE) (f : Str) : TG := fun v σ H Q => ta σ H fun x H2 => ∃ a C dx fs, x = .ref a ∧ H2 a = some (.ins C dx fs) ∧ Cls K C ∧ NoAttr K C f ∧ fs.length < 1000 ∧ Q σ (upd H2 a (.ins C dx (L2.putF f v fs)))
theorem pg_att {o : Expr} {f : Str} {pos : Pos} {ta : TE} (ho : PE X o ta) : PG X (.Attribute o f pos) (gAtt X.K ta f) := by
  refine ⟨fun pins s σ H v u Q I r h => ?_⟩
  rw [assign]
  refine wpAny_bind (wpAny_holding (thn (ho.run pins s σ H _ I h) fun ov s1 ⟨x, H1, I1, r1, a, C, dx, fs, ex, ea, c, n, l, q⟩ => ?_))
  subst ex
  obtain rfl : ov = Value.ref a := r1
  refine wpAny_bind (wpAny_standAt (wpAny_bind (wpAny_holding (setattr_ok I1 ea c n l r fun s2 I2 => ?_))))
  exact wpAny_release ⟨σ, _, I2, q⟩
def tAtts (Γ : Cfg) (T : Tx) (W : WX) (o : FE) (fs : List Str) : TGs := fun vs σ H Q => ∃ ρ ls ds h, RL T.K H ρ ls σ ∧ RDs T.K H ρ ds vs ∧ HR T H ρ h ∧ PR T W σ H ρ (RAe Unit) (fun _ H' => Q σ H') (asgA Γ o ls fs ds h)
theorem gs_atts {o : FE} (O : Ok T B k S X W) (X0 : Text G T B Γ k) (ho : ∀ eo, mE G o S eo = true → PE X eo (tE Γ T W o)) : ∀ (fs : List Str) (es : List Expr), mAtts G S o fs es = true → PGs X es (tAtts Γ T W o fs) ∧ ∀ env : Env, (assignEach es env).length = es.length ∧ (assignEach es env).findIdx? (·.1) = none ∧ fs.length = es.length
  | [], [], _ => by
    refine ⟨pgsW pgs_nil fun vs σ H Q hh => ?_, fun env => ⟨rfl, rfl, rfl⟩⟩
    obtain ⟨ρ, ls, ds, h, rl, rds, hr, hq⟩ := hh
    cases rds with
    | nil => exact ⟨rfl, PR.ok (RA := RAe Unit) hq hr rfl⟩
    | cons => exact hq.elim
  | f :: fs, .Attribute eo y p :: es, hm => by
    simp only [mAtts, Bool.and_eq_true, decide_eq_true_eq] at hm
    obtain ⟨⟨⟨rfl, hf⟩, h1⟩, h2⟩ := hm
    obtain ⟨i1, i2⟩ := gs_atts O X0 ho fs es h2
    refine ⟨pgsW (pgs_cons (pg_att (ho eo h1)) i1 rfl) fun vs σ H Q hh => ?_, fun env => ?_⟩
    · obtain ⟨ρ, ls, ds, h, rl, rds, hr, hq⟩ := hh
      cases rds with
      | nil => exact hq.elim
      | @cons d v ds vs rd rds =>
        refine ⟨v, vs, rfl, ρ, ls, h, rl, hr, PR.bind hq fun x h1 ρ1 w H1 _ e k1 hr1 rx hq1 => ?_⟩
        have hK : X.K = T.K := congrArg Tx.K O.tx
        cases rx with
        | @loc n a hn =>
          simp only [setF] at hq1
          split at hq1
          · rename_i c gs hc
            split at hq1
            · rename_i hcs
              obtain ⟨C, dx, us, g0, g1, g2⟩ := hr1.at_ n _ a hc hn
              obtain ⟨C', m1, cl, na⟩ := X0.cls c hcs.2
              rw [g0] at m1; cases m1
              have kp : Keeps H1 (upd H1 a (.ins C dx (L2.putF f v us))) := Keeps.put g1 (fun _ => nofun) (fun _ _ => nofun)
              obtain ⟨q1, q2⟩ := hr1.setC (o := .ins C dx (L2.putF f v us)) hc hn rfl (c' := .obj c (FL.putF f d gs)) rfl ⟨C, dx, _, g0, upd_same, ((fieldsR.putF (rd.mono k1.k e) g2).mono kp (Ext.refl _))⟩
              rw [hK]
              refine ⟨a, C, dx, us, rfl, g1, cl, na f hf, by rw [← g2.length]; exact hcs.1, ρ1, ls, ds, _, (rl.mono k1.k e).mono q2.k (Ext.refl _), (rds.mono k1.k e).mono q2.k (Ext.refl _), q1, ?_⟩
              exact PR.after (show PR T W σ H1 ρ1 (RAe Unit) (fun _ H' => Q σ H') (asgA Γ o ls fs ds (h1.set n (.obj c (FL.putF f d gs)))) from hq1) (Ext.refl _) q2
            · exact hq1.elim
          · exact hq1.elim
        | _ => exact hq1.elim
    · obtain ⟨j1, j2, j3⟩ := i2 env
      refine ⟨?_, ?_, by rw [List.length_cons, List.length_cons, j3]⟩
      · show ((false, assign (.Attribute eo f p) env) :: assignEach es env).length = _
        rw [List.length_cons, List.length_cons, j1]
      · show ((false, assign (.Attribute eo f p) env) :: assignEach es env).findIdx? (·.1) = none
        rw [List.findIdx?_cons]; simp [j2]
  | [], .Attribute _ _ _ :: _, hm => by simp [mAtts] at hm
  | _ :: _, [], hm => by simp [mAtts] at hm
termination_by fs => fs.length
theorem ss_atup {o e : FE} {fs : List Str} {es : List Expr} {x : Expr} {n1 : Nat} {p pos : Pos} (O : Ok T B k S X W) (X0 : Text G T B Γ k) (hc : noComp x = true) (ht : noTup x = true) (hm : mAtts G S o fs es = true) (ho : ∀ eo, mE G o S eo = true → PE X eo (tE Γ T W o)) (he : PE X x (tE Γ T W e)) : PS X (.Assign [.Tuple es n1 p] x pos) (tS Γ T W (.asg (.atup o fs) e)) := by
  obtain ⟨i1, i2⟩ := gs_atts O X0 ho fs es hm
  have hw : swappedStores [.Tuple es n1 p] x X.env = pure none := by cases x <;> first | rfl | cases ht
  refine psW (ps_asg he (pg_tup O.calm i1 (i2 _).1 (i2 _).2.1) (by simp only [swapsWithSole]; exact comp_none hc _) hw rfl) fun D σ H hh => ?_
  obtain ⟨ρ, ls, h, rl, hr, hq⟩ := hh
  rw [evS] at hq
  refine ⟨ρ, ls, h, rl, hr, hq.andS rl fun d h1 ρ1 v H1 _ e k1 hr1 rd hq1 => ?_⟩
  have hK : X.K = T.K := congrArg Tx.K O.tx
  simp only [asgG] at hq1
  cases rd with
  | @tup xs a vs g1 g2 =>
    simp only at hq1
    split at hq1
    · rename_i hlen
      rw [hK]
      have rl1 := rl.mono k1.k e
      have hq2 : PR T W σ H1 ρ1 (RAe Unit) (fun _ H' => D.nx σ H') (asgA Γ o ls fs xs h1) := hq1.andS rl1 fun _ h2 ρ2 _ H2 _ e2 k2 hr2 _ hq2 => hq2.nx hr2 (rl1.mono k2.k e2)
      refine ⟨a, vs, rfl, g1, ?_, ρ1, ls, xs, h1, rl1, g2, hr1, hq2⟩
      rw [← g2.length, ← (i2 X.env).2.2]
      exact hlen
    · exact hq1.elim
  | _ => exact hq1.elim
theorem ss_par {i j : Nat} {a b : FE} {x y : Str} {px py pt pos : Pos} {kt k2 : Nat} {pt2 : Pos} {ea eb : Expr} (O : Ok T B k S X W) (hk : S.sc.kind = .function) (h : mPar S i j x y px py ea eb = true) (ha : PE X ea (tE Γ T W a)) (hb : PE X eb (tE Γ T W b)) : PS X (.Assign [.Tuple [.Name x px, .Name y py] kt pt] (.Tuple [ea, eb] k2 pt2) pos) (tS Γ T W (.par i j a b)) := by
  unfold mPar at h
  simp only [Bool.and_eq_true, decide_eq_true_eq, Bool.not_eq_true'] at h
  obtain ⟨⟨⟨⟨⟨⟨⟨⟨⟨⟨n1, n2⟩, hij⟩, hi⟩, hj⟩, hxy⟩, lx⟩, ly⟩, hl⟩, f1⟩, f2⟩ := h
  have lx' : X.env.scope.names.lookup x = some .local := by rw [O.sc]; exact lx
  have ly' : X.env.scope.names.lookup y = some .local := by rw [O.sc]; exact ly
  have hbk : X.env.blockKind = .function := by unfold Env.blockKind; rw [O.sc, hk]; rfl
  have hw : swappedStores [.Tuple [.Name x px, .Name y py] kt pt] (.Tuple [ea, eb] k2 pt2) X.env = pure (some [x, y]) := by
    have s0 : ∀ e : Expr, noStar e = true → (match e with | .Starred .. => true | _ => false) = false := by
      intro e h
      cases e <;> first | rfl | (cases h; done)
    have s1 : ([ea, eb].any fun | .Starred .. => true | _ => false) = false := Bool.or_eq_false_iff.mpr ⟨s0 ea n1, Bool.or_eq_false_iff.mpr ⟨s0 eb n2, rfl⟩⟩
    have k1 : X.env.kindOf x = some .local := lx'
    have k2 : X.env.kindOf y = some .local := ly'
    have ed : [x, y].eraseDups = [x, y] := by simp [List.eraseDups_cons, hxy, Ne.symm hxy]
    unfold swappedStores
    simp only [hbk, s1, f1, f2]
    simp [Expr.pos, k1, k2, hl, hxy, List.filterMap_cons, ed]
    rintro (z | z)
    · exact nomatch (s0 ea n1).symm.trans z
    · exact nomatch (s0 eb n2).symm.trans z
  refine psW (ps_par O.calm O.nd (by rw [O.N]; exact hi) (by rw [O.N]; exact hj) hij lx' ly' (a_cons n1 ha (a_cons n2 hb a_nil)) hw) fun D σ H hh => ?_
  obtain ⟨ρ, ls, h, rl, hr, hq⟩ := hh
  rw [evS] at hq
  have he : ((ev Γ a ls h).andS ls fun x h1 => (ev Γ b ls h1).andS ls fun y h2 => if i < ls.length ∧ j < ls.length then .nx ((ls.set i (some x)).set j (some y)) h2 else .bad) = (evs Γ (.acons a (.acons b .anil)) ls h).andS ls fun ds h2 => match ds with
      | [x, y] => if i < ls.length ∧ j < ls.length then .nx ((ls.set i (some x)).set j (some y)) h2 else .bad
      | _ => .bad := by
    rw [evs]
    cases ev Γ a ls h with
    | ok x h1 =>
      simp only [R.bind, R.andS]
      rw [evs]
      cases ev Γ b ls h1 with
      | ok y h2 => simp only [R.bind, R.andS]; rw [evs]
      | exc _ _ _ => rfl
      | bad => rfl
    | exc _ _ _ => rfl
    | bad => rfl
  rw [he] at hq
  refine ⟨ρ, ls, h, rl, hr, hq.andS rl fun ds h1 ρ1 vs H1 _ e k1 hr1 rds hq1 => ?_⟩
  split at hq1
  · rename_i x y
    split at hq1
    · obtain ⟨v, w, rfl⟩ : ∃ v w, vs = [v, w] := by
        have := RDs.length rds
        match vs, this with
        | [v, w], _ => exact ⟨v, w, rfl⟩
      refine ⟨v, w, rfl, ?_⟩
      cases rds with
      | cons rd rds =>
        cases rds with
        | cons rd2 _ => exact hq1.nx hr1 (((rl.mono k1.k e).set rd i).set rd2 j)
    · exact hq1.elim
  · exact hq1.elim
theorem ss_aug {i : Nat} {op : Operator} {e : FE} {x : Str} {v : Expr} {p pos : Pos} (O : Ok T B k S X W) (h1 : S.N[i]? = some x) (h2 : isLoc S x = true) (he : PE X v (tE Γ T W e)) : PS X (.AugAssign (.Name x p) op v pos) (tS Γ T W (.aug i op e)) := by
  obtain ⟨l1, l2⟩ := isLoc_ok O.sc O.fn h2
  refine ⟨fun pins s σ H D I hh => ?_⟩
  obtain ⟨ρ, ls, h, rl, hr, hq⟩ := hh
  rw [evS] at hq
  split at hq
  · rename_i d hd
    obtain ⟨u, e1, e2⟩ := rl.2 i d hd
    have nx : ∀ {h1 : Hs} {ρ1 : List Addr} {H1 : Hp} {z : Int}, Ext ρ ρ1 → KF H ρ H1 ρ1 → HR T H1 ρ1 h1 → PRS T W H1 ρ1 D (.nx (ls.set i (some (.int z))) h1) → D.nx (σ.set i (some (.int z))) H1 :=
      fun e k hr1 hq1 => hq1.nx hr1 ((rl.mono k.k e).set (.int _) i)
    have go : ∀ {ti : TIp}, PIp X op ti → (∀ (d2 : FL.D) (h1 : Hs) (ρ1 : List Addr) (v2 : V) (H1 : Hp), Ext ρ ρ1 → KF H ρ H1 ρ1 → HR T H1 ρ1 h1 → RD T.K H1 ρ1 d2 v2 → PRS T W H1 ρ1 D (augRes op d d2 ls i h1) → ti u v2 H1 fun z H2 => D.nx (σ.set i (some z)) H2) → wpAny (model X.prog X.w) X.A (exec (.AugAssign (.Name x p) op v pos) X.env) (SP X pins D) X.xe s := by
      intro ti hti hk
      refine (ps_aug O.nd (by rw [O.N]; exact h1) l1 he hti l2).run pins s σ H D I ⟨u, e1, ρ, ls, h, rl, hr, hq.andS rl fun d2 h1 ρ1 v2 H1 _ e k1 hr1 rd2 hq1 => hk d2 h1 ρ1 v2 H1 e k1 hr1 rd2 hq1⟩
    cases d with
    | int m =>
      cases e2
      cases op with
      | Add =>
        exact go ip_add fun d2 h1 ρ1 v2 H1 e k1 hr1 rd2 hq1 => by
          cases rd2 with
          | int l => exact ⟨m, l, rfl, rfl, nx e k1 hr1 hq1⟩
          | _ => exact hq1.elim
      | Sub =>
        exact go ip_sub fun d2 h1 ρ1 v2 H1 e k1 hr1 rd2 hq1 => by
          cases rd2 with
          | int l => exact ⟨m, l, rfl, rfl, nx e k1 hr1 hq1⟩
          | _ => exact hq1.elim
      | Mult =>
        exact go (ti := rI CMul fun i j => .int (i * j)) iop_mul fun d2 h1 ρ1 v2 H1 e k1 hr1 rd2 hq1 => by
          cases rd2 with
          | int l =>
            by_cases hm : mulOk m l
            · simp only [augRes, binI, if_pos hm] at hq1
              exact ⟨m, l, rfl, rfl, hm, nx e k1 hr1 hq1⟩
            · simp only [augRes, binI, if_neg hm] at hq1
              exact hq1.elim
          | _ => exact hq1.elim
      | _ => exact go (ti := fun _ _ _ _ => False) (fun _ _ _ _ _ _ _ _ _ _ _ _ z => z.elim) fun d2 h1 ρ1 v2 H1 e k1 hr1 rd2 hq1 => by cases rd2 <;> exact hq1.elim
    | _ => exact go (ti := fun _ _ _ _ => False) (fun _ _ _ _ _ _ _ _ _ _ _ _ z => z.elim) fun d2 h1 ρ1 v2 H1 e k1 hr1 rd2 hq1 => hq1.elim
  · exact hq.elim
theorem ss_ite {c : FE} {a b : FS} {x : Expr} {y z : List Stmt} {pos : Pos} (hc : PT X x (tT Γ T W c)) (ha : PSs X y (tS Γ T W a)) (hb : PSs X z (tS Γ T W b)) : PS X (.If x y z pos) (tS Γ T W (.ite c a b)) := by
  refine psW (ps_if hc ha hb) fun D σ H hh => ?_
  obtain ⟨ρ, ls, h, rl, hr, hq⟩ := hh
  rw [evS] at hq
  refine ⟨ρ, ls, h, rl, hr, hq.andS rl fun d h1 ρ1 v H1 _ e k1 hr1 rd hq1 => ?_⟩
  cases rd
  cases d with
  | true => exact ⟨ρ1, ls, h1, rl.mono k1 e, hr1, hq1⟩
  | false => exact ⟨ρ1, ls, h1, rl.mono k1 e, hr1, hq1⟩
theorem ss_nil : PSs X [] (tS Γ T W .snil) := by
  refine pssW pss_nil fun D σ H hh => ?_
  obtain ⟨ρ, ls, h, rl, hr, hq⟩ := hh
  rw [evS] at hq
  exact hq.nx hr rl
theorem ss_cons {s ss : FS} {x : Stmt} {xs : List Stmt} (hs : PS X x (tS Γ T W s)) (hss : PSs X xs (tS Γ T W ss)) : PSs X (x :: xs) (tS Γ T W (.scons s ss)) := by
  refine pssW (pss_cons hs hss) fun D σ H hh => ?_
  obtain ⟨ρ, ls, h, rl, hr, hq⟩ := hh
  rw [evS] at hq
  refine ⟨ρ, ls, h, rl, hr, ?_⟩
  cases q : evS Γ s ls h with
  | nx ls1 h1 =>
    rw [q] at hq
    exact fun ρ' σ' H' e k hr' rl' => ⟨ρ', ls1, h1, rl', hr', PRS.after (show PRS T W H ρ D (evS Γ ss ls1 h1) from hq) e k⟩
  | bk _ _ => rw [q] at hq; exact hq
  | ct _ _ => rw [q] at hq; exact hq
  | rt _ _ => rw [q] at hq; exact hq
  | exc _ _ _ _ => rw [q] at hq; exact hq
  | bad => rw [q] at hq; exact hq
/-- behind a turn -/
theorem turn_ok {fg : List Nat} {r : RS} {go : Ls → Hs → RS} {H : Hp} {ρ : List Addr} {D : Ends} {N : L2.St → Hp → Prop} (hq : PRS T W H ρ D (turnEnd fg r go))
    (hN : ∀ (ls : Ls) (h : Hs) (ρ' : List Addr) (σ' : L2.St) (H' : Hp), Ext ρ ρ' → KF H ρ H' ρ' → HR T H' ρ' h → RL T.K H' ρ' (FL.wipe ls fg) σ' → PRS T W H' ρ' D (go (FL.wipe ls fg) h) → N σ' H') :
    PRS T W H ρ { D with nx := N, ct := N, bk := D.nx } r := by
  cases r with
  | nx ls h => exact fun ρ' σ' H' e k hr rl => hN ls h ρ' σ' H' e k hr (rl.forgetL fg) (PRS.after (show PRS T W H ρ D (go (FL.wipe ls fg) h) from hq) e k)
  | ct ls h => exact fun ρ' σ' H' e k hr rl => hN ls h ρ' σ' H' e k hr (rl.forgetL fg) (PRS.after (show PRS T W H ρ D (go (FL.wipe ls fg) h) from hq) e k)
  | bk ls h => exact fun ρ' σ' H' e k hr rl => hq ρ' σ' H' e k hr (rl.forgetL fg)
  | rt d h => exact hq
  | exc c fs ls h => exact hq
  | bad => exact hq
theorem ss_for {t : FT} {it : FE} {body : FS} {fg : List Nat} {tg x : Expr} {ys : List Stmt} {pos : Pos} (O : Ok T B k S X W) (hs : noSet x = true) (hi : PI X tg x (tI Γ T W it)) (hg : mT S t tg = true) (hb : PSs X ys (tS Γ T W body)) : PS X (.For tg x ys [] pos) (tS Γ T W (.for_ t it body fg)) := by
  refine psW (ps_for O.own O.calm hi ((g_ok O t).1 tg hg) hb (set_fold hs)) fun D σ H hh => ?_
  obtain ⟨ρ, ls, h, rl, hr, hq⟩ := hh
  rw [evS] at hq
  refine ⟨ρ, ls, h, rl, hr, hq.andK rl fun w h1 ρ1 H1 _ e1 k1 hr1 hq1 J wk => ?_⟩
  obtain ⟨items, ns⟩ := w
  have wk' : Walk T J items ns h1 ρ1 H1 := wk
  generalize hstep : (fun (x : FL.D) (ls1 : Ls) (h2 : Hs) => match asgT t x ls1 with
      | some ls2 => evS Γ body ls2 h2
      | none => .bad) = step at hq1
  refine ⟨fun i m σ2 H2 => m = items.length - i ∧ i ≤ items.length ∧ ∃ (ρ2 : List Addr) (ls2 : Ls) (h2 : Hs), RL T.K H2 ρ2 ls2 σ2 ∧ HR T H2 ρ2 h2 ∧ Ext ρ1 ρ2 ∧ Keeps H1 H2 ∧ same ns h1 h2 ∧ PRS T W H2 ρ2 D (forL fg ns h1 step (items.drop i) ls2 h2), ⟨items.length, by simp, Nat.zero_le _, ρ1, ls, h1, rl.mono k1 e1, hr1, Ext.refl _, Keeps.refl _, fun _ _ => rfl, by simpa using hq1⟩, ?_⟩
  rintro i m σ2 H2 ⟨rfl, hi2, ρ2, ls2, h2, rl2, hr2, e2, k2, sm, hq2⟩
  by_cases hlt : i < items.length
  · rw [List.drop_eq_getElem_cons hlt, forL] at hq2
    refine .inr ⟨wk'.go i ρ2 H2 h2 hr2 e2 k2 sm hlt, fun σ' H' => ∃ (ρ3 : List Addr) (ls3 : Ls) (h3 : Hs), RL T.K H' ρ3 ls3 σ' ∧ HR T H' ρ3 h3 ∧ Ext ρ1 ρ3 ∧ Keeps H1 H' ∧ same ns h1 h3 ∧ PRS T W H' ρ3 D (forL fg ns h1 step (items.drop (i + 1)) ls3 h3), fun σ' H' hh => ⟨items.length - (i + 1), by omega, rfl, by omega, hh⟩, fun v H3 hy => ?_⟩
    obtain ⟨s3, rdx⟩ := wk'.yld i ρ2 H2 h2 v H3 items[i] hr2 e2 k2 sm (List.getElem?_eq_getElem hlt) hy
    have hr3 := hr2.keep s3
    have k23 : Keeps H2 H3 := sameKeeps s3
    rw [← hstep] at hq2
    cases ea : asgT t items[i] ls2 with
    | none => simp only [ea] at hq2; exact hq2.elim
    | some ls3 =>
      simp only [ea] at hq2
      rw [hstep] at hq2
      refine ⟨ρ2, ls2, items[i], ls3, rl2.mono k23 (Ext.refl _), rdx, ea, fun σ3 rl3 _ => ⟨ρ2, ls3, h2, rl3, hr3, ?_⟩⟩
      have kf : KF H2 ρ2 H3 ρ2 := ⟨k23, fun a o h n => ⟨s3 _ _ h, n⟩⟩
      refine turn_ok (hq2.after (Ext.refl _) kf) fun ls4 h4 ρ4 σ4 H4 e4 k4 hr4 rl4 hq4 => ?_
      split at hq4
      · rename_i hsm
        exact ⟨ρ4, _, h4, rl4, hr4, e2.trans e4, (k2.trans k23).trans k4.k, hsm, hq4⟩
      · exact hq4.elim
  · have ei : i = items.length := by omega
    subst ei
    rw [List.drop_length, forL] at hq2
    exact .inl ⟨wk'.stop ρ2 H2 h2 hr2 e2 k2 sm, hq2.nx hr2 rl2⟩
theorem ss_while {c : FE} {body : FS} {fg : List Nat} {x : Expr} {ys : List Stmt} {pos : Pos} (O : Ok T B k S X W) (hc : PT X x (tT Γ T W c)) (hb : PSs X ys (tS Γ T W body)) : PS X (.While x ys [] pos) (tS Γ T W (.while_ c body fg)) := by
  refine psW (ps_while O.own hc hb) fun D σ H hh => ?_
  obtain ⟨ρ, ls, h, rl, hr, hq⟩ := hh
  rw [evS] at hq
  refine ⟨fun m σ2 H2 => ∃ (ρ2 : List Addr) (ls2 : Ls) (h2 : Hs), RL T.K H2 ρ2 ls2 σ2 ∧ HR T H2 ρ2 h2 ∧ PRS T W H2 ρ2 D (whileL fg (evT Γ c) (evS Γ body) m ls2 h2), ⟨Γ.big, ρ, ls, h, rl, hr, hq⟩, ?_⟩
  rintro m σ2 H2 ⟨ρ2, ls2, h2, rl2, hr2, hq2⟩
  cases m with
  | zero => exact hq2.elim
  | succ m =>
    rw [whileL] at hq2
    refine ⟨ρ2, ls2, h2, rl2, hr2, hq2.andS rl2 fun d h3 ρ3 v H3 _ e3 k3 hr3 rd hq3 => ?_⟩
    cases rd
    cases d with
    | false =>
      rw [if_neg Bool.false_ne_true] at hq3 ⊢
      exact hq3.nx hr3 (rl2.mono k3 e3)
    | true =>
      rw [if_pos rfl] at hq3 ⊢
      refine ⟨fun σ' H' => ∃ (ρ3 : List Addr) (ls3 : Ls) (h3 : Hs), RL T.K H' ρ3 ls3 σ' ∧ HR T H' ρ3 h3 ∧ PRS T W H' ρ3 D (whileL fg (evT Γ c) (evS Γ body) m ls3 h3), fun σ' H' hh => ⟨m, Nat.lt_succ_self m, hh⟩, ρ3, ls2, h3, rl2.mono k3 e3, hr3, ?_⟩
      exact turn_ok hq3 fun ls4 h4 ρ4 σ4 H4 e4 k4 hr4 rl4 hq4 => ⟨ρ4, _, h4, rl4, hr4, hq4⟩
theorem ss_raise {c : Str} {as : FE} {x : Expr} {pos : Pos} (O : Ok T B k S X W) (X0 : Text G T B Γ k) (hm : mRaise G S c as x = true) (has : ∀ a, mEs G as S [a] = true → PA X [a] (tEs Γ T W as)) : PS X (.Raise (some x) none pos) (tS Γ T W (.raise c as)) := by
  unfold mRaise at hm
  split at hm
  · rename_i z p a pos2
    simp only [Bool.and_eq_true, decide_eq_true_eq] at hm
    obtain ⟨⟨⟨rfl, h1⟩, h2⟩, h3⟩ := hm
    obtain ⟨g1, g2⟩ := isGl_ok O.sc h1
    obtain ⟨C, fI, Tx, _⟩ := X0.errs _ h2
    have Tx' : EX.Txt X.prog X.K X.mg c C fI := by have e := O.tx; rw [← e] at Tx; exact Tx
    refine psW (ps_raise O.calm O.takes (EX.pmk Tx' O.room (has a h3) g1 g2 (star_cons (mEs_cons h3).1))) fun D σ H hh => ?_
    obtain ⟨ρ, ls, h, rl, hr, hq⟩ := hh
    rw [evS] at hq
    refine ⟨ρ, ls, h, rl, hr, hq.andS rl fun ds h1 ρ1 vs H1 _ e k1 hr1 rds hq1 => ?_⟩
    unfold raiseR at hq1
    split at hq1
    · split at hq1
      · rename_i y _ hy
        cases rds with
        | cons rd rds =>
          cases rds
          cases rd
          refine ⟨y, rfl, hy, fun d hd => ?_⟩
          have kf : KF H1 ρ1 (upd H1 d (.xd [("code", V.str y)])) ρ1 := KF.new hd
          exact hq1 ρ1 (.ref C) (some d) σ _ (Ext.refl _) kf (hr1.newO hd) ((rl.mono k1.k e).mono kf.k (Ext.refl _)) ⟨C, Tx.gC, rfl, .inr ⟨d, _, rfl, upd_same, .cons ⟨rfl, .str y⟩ .nil⟩⟩
      · exact hq1.elim
    · exact hq1.elim
  · cases hm
/-- what the suite reads -/
theorem s_suite {c n : Str} {i : Nat} {x : FX} {C fI : Addr} {suite : List Stmt} (O : Ok T B k S X W) (X0 : Text G T B Γ k) (Tx : EX.Txt X.prog X.K X.mg c C fI) (hi : S.N[i]? = some n) (hl : S.sc.names.lookup n = some .local) (hd1 : (n == ("__debug__" : Str)) = false) (hd2 : (n == ("__classdict__" : Str)) = false) (hx : mFX G S c n x suite = true) :
    ∃ b₀ r, suite = b₀ :: r ∧ ∀ (a : Addr) (oe : Obj) (cls : Value) (d : Option Addr) (pn : List (Addr × Obj)), Zc cls d oe → (∃ vs, oe.data = .fields vs) → PSs (X.suite a ((a, oe) :: pn)) (b₀ :: r) (fun D σ H => σ[i]? = some (some (.ref a)) ∧ cls = .ref C ∧ ∃ (dd : Addr) (v : V), d = some dd ∧ H dd = some (.xd [("code", v)]) ∧ D.rt v H) := by
  have hxf : XfC X.K C := ⟨Tx.ga, Tx.gg, Tx.exC, Tx.hdC⟩
  have etx := O.tx
  have hv : ∀ (a : Addr) (pn : List (Addr × Obj)) (p : Pos), PE (X.suite a pn) (.Name n p) (tVar i) := fun a pn p => pe_var (i := i) (by show X.N[i]? = some n; rw [O.N]; exact hi) (by show Vis X.env.scope n; rw [O.sc]; exact .inl hl) hd1 hd2
  cases x with
  | codeIs S0 =>
    unfold mFX at hx
    split at hx
    · rename_i he; cases he
    · rename_i S1 z p1 y1 p2 y2 p3 p4 y p5 f p6 s0 k0 p7 p8 p9 he
      cases he
      simp only [Bool.and_eq_true, decide_eq_true_eq] at hx
      obtain ⟨⟨⟨⟨⟨⟨⟨⟨rfl, rfl⟩, rfl⟩, rfl⟩, rfl⟩, h1⟩, h2⟩, h3⟩, h4⟩ := hx
      obtain ⟨C', Sa, i1, i2, i3, i4⟩ := X0.isE _ _ h4
      have e1 : X.mg c = some (.ref C') := by rw [← etx] at i1; exact i1
      have e2 : X.mg y2 = some (.ref Sa) := by rw [← etx] at i2; exact i2
      have e3 : ExcC X.K C' := by rw [← etx] at i3; exact i3
      have e4 : PySem.W.kitOne X.K (.ref C') (.ref Sa) = some true := by rw [← etx] at i4; exact i4
      have eC : C' = C := by have := e1.symm.trans Tx.gC; cases this; rfl
      subst eC
      obtain ⟨g1, g2⟩ := isGl_ok O.sc h1
      obtain ⟨g3, g4⟩ := isGl_ok O.sc h3
      have m2 : X.mg ("isinstance" : Str) = none := by have := X0.blt _ h2; rw [← O.tx] at this; exact this
      refine ⟨_, _, rfl, fun a oe cls d pn hz hf => ?_⟩
      have hcall : PE (X.suite a ((a, oe) :: pn)) (.Call (.Name "isinstance" p1) [.Name y1 p2, .Name y2 p3] [] p4) (tCB (EX.rIs X.K C' Sa a cls d) _) :=
        pe_callB (X := X.suite a ((a, oe) :: pn)) (EX.call_is e3 hz hf) g1 m2 PyProof.Rows.boot_isinstance (pa_cons (hv a _ p2) (pa_cons (pe_glob (X := X.suite a ((a, oe) :: pn)) (v := .ref Sa) g3 e2 rfl g4) pa_nil)) (by decide) g2
      refine pssW (pss_cons (ps_ret (pe_ifExp (pt_truth hcall (fun _ => rfl)) (pe_xf hxf Tx.noN hz hf (hv a _ p5)) pe_str)) pss_nil) fun D σ H hh => ?_
      obtain ⟨q1, q2, dd, v, q3, q4, q⟩ := hh
      exact ⟨_, q1, dd, _, q2, q3, rfl, q4, e4, true, rfl, _, q1, rfl, q2, dd, _, v, q3, q4, by simp [List.lookup], q⟩
    · cases hx
  | code =>
    unfold mFX at hx
    split at hx
    · rename_i y p1 f p2 p3 _
      simp only [Bool.and_eq_true, decide_eq_true_eq] at hx
      obtain ⟨rfl, rfl⟩ := hx
      refine ⟨_, _, rfl, fun a oe cls d pn hz hf => pssW (pss_cons (ps_ret (pe_xf hxf Tx.noN hz hf (hv a _ p1))) pss_nil) fun D σ H hh => ?_⟩
      obtain ⟨e1, e2, dd, v, e3, e4, q⟩ := hh
      exact ⟨_, e1, rfl, e2, dd, _, v, e3, e4, by simp [List.lookup], q⟩
    · rename_i he; cases he
    · cases hx
theorem ss_try {body : FS} {c : Str} {i : Nat} {x : FX} {ys : List Stmt} {hs : List ExceptHandler} {pos : Pos} (O : Ok T B k S X W) (X0 : Text G T B Γ k) (hst : X.stack = X.env :: X.outer) (hfr : X.env.frame = some X.env.locals) (hk : X.env.scope.kind = .function) (hm : mHandler G S c i x hs = true)
    (hb : ∀ (X' : Cx) (W' : WX), Ok T B k S X' W' → X'.stack = X'.env :: X'.outer → X'.env.frame = some X'.env.locals → PSs X' ys (tS Γ T W' body)) : PS X (.Try ys hs [] [] pos) (tS Γ T W (.try_ body c i x)) := by
  unfold mHandler at hm
  split at hm
  · rename_i z np n suite pos'
    simp only [Bool.and_eq_true, decide_eq_true_eq, Bool.not_eq_true'] at hm
    obtain ⟨⟨⟨⟨⟨⟨⟨rfl, h1⟩, h2⟩, h3⟩, h4⟩, h5⟩, h6⟩, h7⟩ := hm
    obtain ⟨g1, g2⟩ := isGl_ok O.sc h1
    obtain ⟨C, fI, Tx, te⟩ := X0.errs _ h2
    have etx := O.tx
    have Tx' : EX.Txt X.prog X.K X.mg c C fI := by have Tx := Tx; rw [← etx] at Tx; exact Tx
    have te' : PySem.W.exmOne X.K (.ref C) (.ref C) = some true := by have te := te; rw [← etx] at te; exact te
    obtain ⟨b₀, r, rfl, hsu⟩ := s_suite O X0 Tx' h3 h4 h5 h6 h7
    refine psW (ps_try_as (i := i) (tb := fun W' => tS Γ T W' body) hst hfr O.nd (by rw [O.N]; exact h3) (by show X.env.scope.names.lookup n = _; rw [O.sc]; exact h4) ⟨g1, g2, .inl Tx'.gC⟩ O.takes (fun W' pn xe tk po => hb (X.tr pn xe) W' ⟨O.tx, O.base, O.N, O.sc, O.fn, O.nd, O.calm, tk, O.room, po⟩ hst hfr) hsu) fun D σ H hh => ?_
    obtain ⟨ρ, ls, h, rl, hr, hq⟩ := hh
    rw [evS] at hq
    refine ⟨ρ, ls, h, rl, hr, ?_⟩
    cases q : evS Γ body ls h with
    | nx ls1 h1 => rw [q] at hq; exact hq
    | bk ls1 h1 => rw [q] at hq; exact hq
    | ct ls1 h1 => rw [q] at hq; exact hq
    | rt d h1 => rw [q] at hq; exact hq
    | bad => rw [q] at hq; exact hq.elim
    | exc c' fs ls1 h1 =>
      rw [q] at hq
      simp only [catchR] at hq
      split at hq
      · rename_i ec
        obtain ⟨rfl, hlt⟩ := ec
        split at hq
        · rename_i f d
          split at hq
          · rename_i ef
            subst ef
            rintro ρ' cls dx σ' H' e' k' hr' rl' ⟨C', gC', rfl, hx⟩
            have eC : C' = C := by have := gC'.symm.trans Tx.gC; cases this; rfl
            subst eC
            rcases hx with ⟨hx, _⟩ | ⟨dd, gs, rfl, hdd, hfs⟩
            · cases hx
            · cases hfs with
              | @cons _ b _ _ hp hps =>
                cases hps
                obtain ⟨bf, bv⟩ := b
                obtain ⟨hp1, hp2⟩ := hp
                have hp1 : (("code" : Str)) = bf := hp1
                subst hp1
                refine ⟨true, te', fun _ a ha => ⟨?_, rfl, dd, bv, rfl, hdd, hq ρ' bv H' e' k' hr' hp2⟩, fun z => Bool.noConfusion z⟩
                exact List.getElem?_set_self (by rw [← rl'.1]; exact hlt)
          · exact hq.elim
        · exact hq.elim
      · exact hq.elim
  · cases hm
end
end FL
set_option autoImplicit false
set_option linter.all false
set_option maxRecDepth 100000
set_option maxHeartbeats 2000000
/-! FL, part H: soundness of statements, of defs. -/
namespace FL
open PySem L2 PyProof.Rows PySem.SeqAt
section
variable {G : Sg} {T : Tx} {B : Heap} {Γ : Cfg} {k : Nat}
/-- a def's own context -/
def OkF (X : Cx) : Prop := X.stack = X.env :: X.outer ∧ X.env.frame = some X.env.locals
structure SndS (G : Sg) (T : Tx) (B : Heap) (Γ : Cfg) (k : Nat) (fs : FS) : Prop where
  S : ∀ (S : Sx) (x : Stmt) (X : Cx) (W : WX), S.sc.kind = .function → OkF X → Ok T B k S X W → mS G fs S x = true → PS X x (tS Γ T W fs)
  Ss : ∀ (S : Sx) (xs : List Stmt) (X : Cx) (W : WX), S.sc.kind = .function → OkF X → Ok T B k S X W → mSs G fs S xs = true → PSs X xs (tS Γ T W fs)
theorem SndS.one {fs : FS} (h : ∀ (S : Sx) (x : Stmt) (X : Cx) (W : WX), S.sc.kind = .function → OkF X → Ok T B k S X W → mS G fs S x = true → PS X x (tS Γ T W fs)) (h2 : ∀ (S : Sx) (xs : List Stmt), mSs G fs S xs = false) : SndS G T B Γ k fs :=
  ⟨h, fun S xs X W _ _ O q => by rw [h2] at q; cases q⟩
theorem ss_setLc {m : Bool} {i : Nat} {y : Str} {own : List Nat} {t : FT} {it c e : FE} {elt tg iter : Expr} {ifs : List Expr} {an : Int} {scope : Scope} {py pos spos : Pos} {S : Sx} {X : Cx} {W : WX} (O : Ok T B k S X W) (X0 : Text G T B Γ k) (hk : S.sc.kind = .function) (hy : S.N[i]? = some y) (hyl : S.sc.names.lookup y = some .local)
    (hl : (py.line == pos.line) = true) (ha : (scope.names.any fun (n, k) => n == y && (k == .local || k == .cell)) = false) (hm : mE G (.comp m own t it c e) S (.ListComp elt [⟨tg, iter, ifs, an⟩] scope pos) = true) :
    PS X (.Assign [.Name y py] (.ListComp elt [⟨tg, iter, ifs, an⟩] scope pos) spos) (tS Γ T W (.asg (.tgt (.name i)) (.comp m own t it c e))) := by
  simp only [mE, Bool.and_eq_true, decide_eq_true_eq, Bool.not_eq_true'] at hm
  obtain ⟨⟨⟨⟨⟨⟨⟨rfl, hb⟩, hs⟩, hi⟩, hg⟩, hsl⟩, he⟩, hif⟩ := hm
  have hyl' : X.env.scope.names.lookup y = some .local := by rw [O.sc]; exact hyl
  refine psW (p_setLc (m := m) O (by rw [O.N]; exact hy) hyl' hl ha (by rw [O.sc]; exact hk) hb hs ((snd X0 it).I S tg iter X W O hi) hg hsl (tests_of (snd X0 c) hif) (fun X' O' => (snd X0 e).E _ elt X' WN O' he)) fun D σ H hh => ?_
  obtain ⟨ρ, ls, h, rl, hr, hq⟩ := hh
  rw [evS] at hq
  refine ⟨ρ, ls, h, rl, hr, hq.andS rl fun d h1 ρ1 v H1 _ e k1 hr1 rd hq1 => ?_⟩
  simp only [asgG, asgT] at hq1
  split at hq1
  · rename_i ls2 ea
    split at ea
    · cases ea
      exact hq1.nx hr1 ((rl.mono k1 e).set rd i)
    · cases ea
  · exact hq1.elim
theorem ss_setDc {m : Bool} {i : Nat} {y : Str} {own : List Nat} {t : FT} {it c ek e : FE} {kx elt tg iter : Expr} {ifs : List Expr} {an : Int} {scope : Scope} {py pos spos : Pos} {S : Sx} {X : Cx} {W : WX} (O : Ok T B k S X W) (X0 : Text G T B Γ k) (hk : S.sc.kind = .function) (hy : S.N[i]? = some y) (hyl : S.sc.names.lookup y = some .local)
    (hl : (py.line == pos.line) = true) (ha : (scope.names.any fun (n, k) => n == y && (k == .local || k == .cell)) = false) (hm : mE G (.dcomp m own t it c ek e) S (.DictComp kx elt [⟨tg, iter, ifs, an⟩] scope pos) = true) :
    PS X (.Assign [.Name y py] (.DictComp kx elt [⟨tg, iter, ifs, an⟩] scope pos) spos) (tS Γ T W (.asg (.tgt (.name i)) (.dcomp m own t it c ek e))) := by
  simp only [mE, Bool.and_eq_true, decide_eq_true_eq, Bool.not_eq_true'] at hm
  obtain ⟨⟨⟨⟨⟨⟨⟨⟨rfl, hb⟩, hs⟩, hi⟩, hg⟩, hsl⟩, hkk⟩, he⟩, hif⟩ := hm
  have hyl' : X.env.scope.names.lookup y = some .local := by rw [O.sc]; exact hyl
  refine psW (p_setDc (m := m) O (by rw [O.N]; exact hy) hyl' hl ha (by rw [O.sc]; exact hk) hb hs ((snd X0 it).I S tg iter X W O hi) hg hsl (tests_of (snd X0 c) hif) (fun X' O' => (snd X0 ek).E _ kx X' WN O' hkk) (fun X' O' => (snd X0 e).E _ elt X' WN O' he)) fun D σ H hh => ?_
  obtain ⟨ρ, ls, h, rl, hr, hq⟩ := hh
  rw [evS] at hq
  refine ⟨ρ, ls, h, rl, hr, hq.andS rl fun d h1 ρ1 v H1 _ e k1 hr1 rd hq1 => ?_⟩
  simp only [asgG, asgT] at hq1
  split at hq1
  · rename_i ls2 ea
    split at ea
    · cases ea
      exact hq1.nx hr1 ((rl.mono k1 e).set rd i)
    · cases ea
  · exact hq1.elim
theorem sndS (X0 : Text G T B Γ k) : ∀ fs : FS, SndS G T B Γ k fs := by
  intro fs
  induction fs with
  | pass =>
    refine .one (fun S x X W _ _ O h => ?_) (fun S xs => by cases xs <;> simp [mSs])
    cases x <;> first | (simp [mS] at h; done) | exact ss_pass
  | brk =>
    refine .one (fun S x X W _ _ O h => ?_) (fun S xs => by cases xs <;> simp [mSs])
    cases x <;> first | (simp [mS] at h; done) | exact ss_brk
  | cont =>
    refine .one (fun S x X W _ _ O h => ?_) (fun S xs => by cases xs <;> simp [mSs])
    cases x <;> first | (simp [mS] at h; done) | exact ss_cont
  | expr e =>
    refine .one (fun S x X W _ _ O h => ?_) (fun S xs => by cases xs <;> simp [mSs])
    cases x <;> first | (simp [mS] at h; done) | skip
    simp only [mS, Bool.and_eq_true] at h
    exact ss_expr h.1 ((snd X0 e).E S _ X W O h.2)
  | asg g e =>
    refine .one (fun S x X W hk hf O h => ?_) (fun S xs => by cases xs <;> simp [mSs])
    cases x <;> first | (simp [mS] at h; done) | skip
    rename_i tgs x pos
    simp only [mS] at h
    split at h
    · rename_i tg
      cases g with
      | attr o f =>
        simp only [mAsg] at h
        split at h
        · simp only [Bool.and_eq_true, decide_eq_true_eq] at h
          obtain ⟨⟨⟨rfl, hf⟩, ho⟩, he⟩ := h
          exact ss_attr O X0 hf ((snd X0 o).E S _ X W O ho) ((snd X0 e).E S _ X W O he)
        · cases h
      | atup o fs =>
        simp only [mAsg] at h
        split at h
        · simp only [Bool.and_eq_true] at h
          obtain ⟨⟨⟨hc, ht⟩, hm⟩, he⟩ := h
          exact ss_atup O X0 hc ht hm (fun eo ho => (snd X0 o).E S eo X W O ho) ((snd X0 e).E S _ X W O he)
        · cases h
      | sub o i =>
        simp only [mAsg] at h
        split at h
        · simp only [Bool.and_eq_true] at h
          obtain ⟨⟨⟨⟨hc, hs⟩, ho⟩, hi⟩, he⟩ := h
          exact ss_sub O hc hs ((snd X0 o).E S _ X W O ho) ((snd X0 i).E S _ X W O hi) ((snd X0 e).E S _ X W O he)
        · cases h
      | tgt t =>
        simp only [mAsg, Bool.or_eq_true] at h
        rcases h with (h | h) | h
        · simp only [Bool.and_eq_true] at h
          obtain ⟨⟨⟨⟨hc, ht⟩, hst⟩, hg⟩, he⟩ := h
          exact ss_asg O hc ht hst hg ((snd X0 e).E S _ X W O he)
        · unfold mSetLc at h
          split at h
          · rename_i g scope p
            simp only [Bool.and_eq_true, decide_eq_true_eq, Bool.not_eq_true'] at h
            obtain ⟨⟨⟨⟨hy, hyl⟩, hl⟩, ha⟩, he⟩ := h
            obtain ⟨tg, iter, ifs, an⟩ := g
            exact ss_setLc O X0 hk hy hyl hl ha he
          · cases h
        · unfold mSetDc at h
          split at h
          · rename_i g scope p
            simp only [Bool.and_eq_true, decide_eq_true_eq, Bool.not_eq_true'] at h
            obtain ⟨⟨⟨⟨hy, hyl⟩, hl⟩, ha⟩, he⟩ := h
            obtain ⟨tg, iter, ifs, an⟩ := g
            exact ss_setDc O X0 hk hy hyl hl ha he
          · cases h
    · cases h
  | par i j a b =>
    refine .one (fun S x X W hk hf O h => ?_) (fun S xs => by cases xs <;> simp [mSs])
    cases x <;> first | (simp [mS] at h; done) | skip
    rename_i tgs v pos
    match tgs, v, h with
    | [.Tuple [.Name x px, .Name y py] _ _], .Tuple [ea, eb] _ _, h =>
      simp only [mS, Bool.and_eq_true] at h
      exact ss_par O hk h.1.1 ((snd X0 a).E S _ X W O h.1.2) ((snd X0 b).E S _ X W O h.2)
  | aug i op e =>
    refine .one (fun S x X W _ _ O h => ?_) (fun S xs => by cases xs <;> simp [mSs])
    cases x <;> first | (simp [mS] at h; done) | skip
    rename_i tg op' v pos
    cases tg <;> first | (simp [mS] at h; done) | skip
    simp only [mS, Bool.and_eq_true, decide_eq_true_eq] at h
    obtain ⟨⟨⟨rfl, h1⟩, h2⟩, he⟩ := h
    exact ss_aug O h1 h2 ((snd X0 e).E S _ X W O he)
  | ret e =>
    refine .one (fun S x X W _ _ O h => ?_) (fun S xs => by cases xs <;> simp [mSs])
    cases x <;> first | (simp [mS] at h; done) | skip
    rename_i v pos
    cases v <;> first | (simp [mS] at h; done) | skip
    simp only [mS] at h
    exact ss_ret ((snd X0 e).E S _ X W O h)
  | retN =>
    refine .one (fun S x X W _ _ O h => ?_) (fun S xs => by cases xs <;> simp [mSs])
    cases x <;> first | (simp [mS] at h; done) | skip
    rename_i v pos
    cases v <;> first | (simp [mS] at h; done) | skip
    refine psW ps_retN fun D σ H hh => ?_
    obtain ⟨ρ, ls, h, rl, hr, hq⟩ := hh
    rw [evS] at hq
    exact hq ρ V.non H (Ext.refl _) (KF.refl _ _) hr .non
  | ite c a b iha ihb =>
    refine .one (fun S x X W hk hf O h => ?_) (fun S xs => by cases xs <;> simp [mSs])
    cases x <;> first | (simp [mS] at h; done) | skip
    simp only [mS, Bool.and_eq_true] at h
    exact ss_ite ((snd X0 c).C S _ X W O h.1.1) (iha.Ss S _ X W hk hf O h.1.2) (ihb.Ss S _ X W hk hf O h.2)
  | for_ t it body fg ih =>
    refine .one (fun S x X W hk hf O h => ?_) (fun S xs => by cases xs <;> simp [mSs])
    cases x <;> first | (simp [mS] at h; done) | skip
    rename_i tg x ys els pos
    cases els <;> first | (simp [mS] at h; done) | skip
    simp only [mS, Bool.and_eq_true] at h
    obtain ⟨⟨⟨h1, h2⟩, h3⟩, h4⟩ := h
    exact ss_for O h1 ((snd X0 it).I S _ _ X W O h2) h3 (ih.Ss S _ X W hk hf O h4)
  | while_ c body fg ih =>
    refine .one (fun S x X W hk hf O h => ?_) (fun S xs => by cases xs <;> simp [mSs])
    cases x <;> first | (simp [mS] at h; done) | skip
    rename_i x ys els pos
    cases els <;> first | (simp [mS] at h; done) | skip
    simp only [mS, Bool.and_eq_true] at h
    exact ss_while O ((snd X0 c).C S _ X W O h.1) (ih.Ss S _ X W hk hf O h.2)
  | raise c as =>
    refine .one (fun S x X W hk hf O h => ?_) (fun S xs => by cases xs <;> simp [mSs])
    cases x <;> first | (simp [mS] at h; done) | skip
    rename_i v cause pos
    cases v <;> cases cause <;> first | (simp [mS] at h; done) | skip
    simp only [mS] at h
    exact ss_raise O X0 h fun a ha => (snd X0 as).A S _ X W O ha
  | try_ body c i x ih =>
    refine .one (fun S y X W hk hf O h => ?_) (fun S xs => by cases xs <;> simp [mSs])
    cases y <;> first | (simp [mS] at h; done) | skip
    rename_i ys hs els fin pos
    cases els <;> cases fin <;> first | (simp [mS] at h; done) | skip
    simp only [mS, Bool.and_eq_true] at h
    exact ss_try O X0 hf.1 hf.2 (by rw [O.sc]; exact hk) h.2 fun X' W' O' h1 h2 => ih.Ss S _ X' W' hk ⟨h1, h2⟩ O' h.1
  | snil =>
    refine ⟨fun S x X W _ _ O h => by cases x <;> simp [mS] at h, fun S xs X W hk hf O h => ?_⟩
    cases xs with
    | nil => exact ss_nil
    | cons _ _ => simp [mSs] at h
  | scons s ss ih1 ih2 =>
    refine ⟨fun S x X W _ _ O h => by cases x <;> simp [mS] at h, fun S xs X W hk hf O h => ?_⟩
    cases xs with
    | nil => simp [mSs] at h
    | cons x xs =>
      simp only [mSs, Bool.and_eq_true] at h
      exact ss_cons (ih1.S S _ X W hk hf O h.1) (ih2.Ss S _ X W hk hf O h.2)
end
end FL
set_option autoImplicit false
set_option linter.all false
set_option maxRecDepth 100000
set_option maxHeartbeats 2000000
/-! FL, part I: the defs of a text, by the depth of calls. -/
namespace FL
open PySem L2 PyProof.Rows PySem.SeqAt
structure DefT where
  name : Str
  st : Stmt
  N : List Str
  ps : List Str
  d : FDef
def DefT.ok (G : Sg) (t : DefT) : Bool := C8.scC t.N t.ps (defScope t.st) && mSs G t.d.body ⟨t.N, defScope t.st, fun _ => true⟩ (defBody t.st) && decide (t.d.np = t.ps.length) && decide (t.d.nn = t.N.length)
section
variable {G : Sg} {T : Tx} {B : Heap} {P : Prog} {k : Nat}
theorem RL_start {K : PySem.W.Frag} {H : Hp} {ρ : List Addr} {ds : List D} {vs : List V} {N : List Str} (h : RDs K H ρ ds vs) : RL K H ρ (startL ds.length N.length ds) (start N vs) := by
  unfold startL L2.start
  refine ⟨by simp [h.length], fun i d q => ?_⟩
  by_cases hi : i < ds.length
  · rw [List.getElem?_append_left (by simpa using hi), List.getElem?_map] at q
    cases e : ds[i]? with
    | none => rw [e] at q; cases q
    | some d2 =>
      rw [e] at q; cases q
      obtain ⟨v, hv, rd⟩ := h.get e
      have hi2 : i < vs.length := by rw [← h.length]; exact hi
      exact ⟨v, by rw [List.getElem?_append_left (by simpa using hi2), List.getElem?_map, hv]; rfl, rd⟩
  · rw [List.getElem?_append_right (by simpa using hi), List.getElem?_replicate] at q
    split at q <;> cases q
theorem PRS_call {r : RS} {W : WX} {H : Hp} {ρ : List Addr} {Q : VK} {E : XK} (h : PR T (fun c d _ H' => E c d H') [] H ρ (RAd T.K) Q r.call) : PRS T (fun c d _ H' => E c d H') H ρ { nx := fun _ H' => Q .non H', rt := Q } r := by
  cases r with
  | nx ls h1 => exact fun ρ' σ' H' e k' hr rl => h ρ' .non H' e k' hr .non
  | bk _ _ => exact (show False from h).elim
  | ct _ _ => exact (show False from h).elim
  | rt d h1 => exact fun ρ' v H' e k' hr rd => h ρ' v H' e k' hr rd
  | exc c fs ls h1 => exact fun ρ' cls dx σ' H' e k' hr rl x => h ρ' cls dx H' e k' hr x
  | bad => exact h
theorem spF_zero {T : Tx} {vs : List V} {H : Hp} {Q : VK} {E : XK} {g : List FL.D → Hs → R FL.D} (h : spF T g vs H Q E) (hg : ∀ ds h, g ds h = .bad) : False := by
  obtain ⟨ρ, ds, h, _, _, hq⟩ := h
  rw [hg] at hq
  exact hq
theorem fn_step (X0 : Text G T B (P.cfg k) k) {t : DefT} (ok : t.ok G = true) {qual : Str} {x : Str} {f : Addr} {fd : FuncData} (F : L2.Fun T.K x qual t.st f fd) (hl : List.lookup t.name P.defs = some t.d) :
    FnOk T.P T.w T.K T.mg B (L2.CX T.P T.w) (k + 1) f fd t.ps (spF T (P.call (k + 1) t.name)) := by
  unfold DefT.ok at ok
  simp only [Bool.and_eq_true, decide_eq_true_eq] at ok
  obtain ⟨⟨⟨hsc, hm⟩, hnp⟩, hnn⟩ := ok
  have S : FnScope t.N t.ps (defScope t.st) := C8.fnScope_by hsc
  have bad : ∀ ds h, ¬ ds.length = t.d.np → P.call (k + 1) t.name ds h = .bad := fun ds h hn => by
    simp only [Prog.call_succ, hl, if_neg hn]
  refine F.okX S (fun vs H Q E h => ?_) (fun cdv A outer s H vs Q E hr h => ⟨tS (P.cfg k) T (fun cls d _ H => E cls d H) t.d.body, ?_, ?_⟩)
  · obtain ⟨ρ, ds, h, rds, hr, hq⟩ := h
    by_cases hn : ds.length = t.d.np
    · rw [← rds.length, hn, hnp]
    · rw [bad ds h hn] at hq; exact hq.elim
  · refine (sndS X0 t.d.body).Ss ⟨t.N, defScope t.st, fun _ => true⟩ (defBody t.st) _ _ S.kind ⟨rfl, rfl⟩ ⟨rfl, rfl, rfl, rfl, rfl, S.nd, rfl, takes_of rfl rfl rfl rfl, hr, passes_of rfl⟩ hm
  · obtain ⟨ρ, ds, h, rds, hr, hq⟩ := h
    by_cases hn : ds.length = t.d.np
    · simp only [Prog.call_succ, hl, if_pos hn] at hq
      refine ⟨ρ, startL t.d.np t.d.nn ds, h, ?_, hr, PRS_call (W := fun c d _ H' => E c d H') hq⟩
      rw [← hn, hnn]
      exact RL_start rds
    · rw [bad ds h hn] at hq; exact hq.elim
/-- what the top has written of a def -/
def DefAt (T : Tx) (t : DefT) : Prop := ∃ (f : Addr) (fd : FuncData), T.mg t.name = some (.ref f) ∧ L2.Fun T.K t.name t.name t.st f fd ∧ Binds T.K fd t.ps []
def MethAt (T : Tx) (c m : Str) (t : DefT) : Prop := ∃ (C f : Addr) (fd : FuncData), T.mg c = some (.ref C) ∧ Cls T.K C ∧ Meth T.K C m f ∧ L2.Fun T.K m t.name t.st f fd ∧ Binds T.K fd t.ps []
def InitAt (T : Tx) (c : Str) (t : DefT) : Prop := ∃ (C f : Addr) (fd : FuncData), T.mg c = some (.ref C) ∧ Mk T.K C f ∧ L2.Fun T.K "__init__" t.name t.st f fd ∧ Binds T.K fd t.ps []
theorem text_all {L : List DefT} (hok : ∀ t ∈ L, t.ok G = true) (hl : ∀ t ∈ L, List.lookup t.name P.defs = some t.d) (hf : ∀ f, G.fns.contains f = true → ∃ t ∈ L, t.name = f ∧ DefAt T t)
    (hc : ∀ c, P.clss.contains c = true → ∃ C, T.mg c = some (.ref C) ∧ Cls T.K C ∧ ∀ f, G.attrs.contains f = true → NoAttr T.K C f)
    (hm : ∀ c m, G.mths.contains (c, m) = true → ∃ t ∈ L, t.name = c ++ "." ++ m ∧ MethAt T c m t) (hn : ∀ c, G.inis.contains c = true → ∃ t ∈ L, t.name = c ++ ".__init__" ∧ InitAt T c t)
    (hb : ∀ x, G.blt.contains x = true → T.mg x = none) (hg : ∀ x d, List.lookup x G.glob = some d → List.lookup x P.glob = some d ∧ ∃ u v, T.mg x = some u ∧ RelV v u ∧ ∀ H ρ, RD T.K H ρ d v)
    (he : ∀ c, G.errs.contains c = true → ∃ C fI, EX.Txt T.P T.K T.mg c C fI ∧ PySem.W.exmOne T.K (.ref C) (.ref C) = some true)
    (hi : ∀ c S, G.isE.contains (c, S) = true → ∃ C Sa, T.mg c = some (.ref C) ∧ T.mg S = some (.ref Sa) ∧ ExcC T.K C ∧ PySem.W.kitOne T.K (.ref C) (.ref Sa) = some true) :
    ∀ k, Text G T B (P.cfg k) k ∧ ∀ (t : DefT), t ∈ L → ∀ (qual x : Str) (f : Addr) (fd : FuncData), L2.Fun T.K x qual t.st f fd → FnOk T.P T.w T.K T.mg B (L2.CX T.P T.w) k f fd t.ps (spF T (P.call k t.name)) := by
  -- the text at a depth, from the defs at this depth and at one less
  have mk : ∀ k, (∀ (t : DefT), t ∈ L → ∀ (qual x : Str) (f : Addr) (fd : FuncData), L2.Fun T.K x qual t.st f fd → FnOk T.P T.w T.K T.mg B (L2.CX T.P T.w) k f fd t.ps (spF T (P.call k t.name))) →
      (∀ k', k = k' + 1 → ∀ (t : DefT), t ∈ L → ∀ (qual x : Str) (f : Addr) (fd : FuncData), L2.Fun T.K x qual t.st f fd → FnOk T.P T.w T.K T.mg B (L2.CX T.P T.w) k' f fd t.ps (spF T (P.call k' t.name))) → Text G T B (P.cfg k) k := by
    intro k F F'
    refine ⟨fun f h => ?_, hb, hg, he, hc, fun c m h => ?_, fun c h => ?_, fun e c vs h => by subst e; rfl, hi⟩
    · obtain ⟨t, ht, rfl, f, fd, h1, Fn, bi⟩ := hf f h
      exact ⟨f, fd, t.ps, h1, Fn.kp, bi, F t ht _ _ _ _ Fn⟩
    · obtain ⟨t, ht, hn, C, f, fd, h1, cl, mt, Fn, bi⟩ := hm c m h
      refine ⟨C, f, fd, t.ps, h1, cl, mt, bi, ?_⟩
      have := F t ht _ _ _ _ Fn
      rw [hn] at this
      exact this
    · obtain ⟨t, ht, hn, C, f, fd, h1, mk, Fn, bi⟩ := hn c h
      refine ⟨C, f, fd, t.ps, h1, mk, bi, fun k' hk => ?_⟩
      have := F' k' hk t ht _ _ _ _ Fn
      subst hk
      rw [hn] at this
      exact this
  have zero : ∀ (t : DefT), t ∈ L → ∀ (qual x : Str) (f : Addr) (fd : FuncData), L2.Fun T.K x qual t.st f fd → FnOk T.P T.w T.K T.mg B (L2.CX T.P T.w) 0 f fd t.ps (spF T (P.call 0 t.name)) := fun t ht qual x f fd Fn =>
    ⟨fun vs H Q E z => (spF_zero z fun _ _ => rfl).elim, fun A outer s H args us vs Q E _ _ _ _ z => (spF_zero z fun _ _ => rfl).elim⟩
  intro k
  induction k with
  | zero => exact ⟨mk 0 zero (fun k' h => nomatch h), zero⟩
  | succ k ih =>
    have st : ∀ (t : DefT), t ∈ L → ∀ (qual x : Str) (f : Addr) (fd : FuncData), L2.Fun T.K x qual t.st f fd → FnOk T.P T.w T.K T.mg B (L2.CX T.P T.w) (k + 1) f fd t.ps (spF T (P.call (k + 1) t.name)) := fun t ht qual x f fd Fn => fn_step ih.1 (hok t ht) Fn (hl t ht)
    exact ⟨mk (k + 1) st (fun k' h t ht qual x f fd Fn => by cases h; exact ih.2 t ht qual x f fd Fn), st⟩
end
end FL
set_option autoImplicit false
set_option linter.all false
set_option maxRecDepth 100000
set_option maxHeartbeats 2000000
/-! FL, part J: the law's end. -/
namespace FL
open PySem L2 PyProof.Rows PySem.SeqAt
/-- every parameter of a def is given -/
def BindOk (t : DefT) : Prop := ∀ (x : Str) (kV doc pm : Value) (an : Option Addr) (cdv ct : Value) (us : List Value), us.length = t.ps.length →
  bindArgs (PySem.W.fnOf x t.name (defArgs t.st) (defBody t.st) (defScope t.st) .none kV doc pm an cdv ct) ⟨us, []⟩ = pure (t.ps.zip us)
/-- a def in the written part -/
structure DefKAt (K : PySem.W.Frag) (t : DefT) (f : Addr) (fd : FuncData) : Prop where
  ns : PySem.W.nsIn K mainGlobals t.name = some (some (.ref f))
  F : L2.Fun K t.name t.name t.st f fd
def DefK (K : PySem.W.Frag) (t : DefT) : Prop := ∃ f fd, DefKAt K t f fd
theorem defK_mk {K : PySem.W.Frag} {t : DefT} {f : Addr} {oc : Value} {od an : Option Addr} {osl : Array (Option Value)} {kV doc pm cdv ct : Value} (a : PySem.W.nsIn K mainGlobals t.name = some (some (.ref f)))
    (l : K.lookup f = some ⟨oc, od, .func (PySem.W.fnOf t.name t.name (defArgs t.st) (defBody t.st) (defScope t.st) .none kV doc pm an cdv ct), osl⟩)
    (c : PySem.W.codeIn K cdv t.name = true) (k : PySem.W.keepIn K (.ref f) = true) : DefK K t := ⟨f, _, a, fun_mk l c k⟩
theorem DefK.at {K : PySem.W.Frag} {t : DefT} (h : DefK K t) (b : BindOk t) {P : Program} {w : World} {mg : Str → Option Value} {hp : Heap} (X : K.In hp) (g : hp.Ns mainGlobals mg) : DefAt ⟨P, w, K, mg⟩ t := by
  obtain ⟨f, fd, a, F⟩ := h
  exact ⟨f, fd, PySem.W.mg_of X g a, F, F.binds (b t.name)⟩
/-- a class in the written part; its methods -/
def ClsK (K : PySem.W.Frag) (G : Sg) (c : Str) : Prop := ∃ C, PySem.W.nsIn K mainGlobals c = some (some (.ref C)) ∧ Cls K C ∧ ∀ f, G.attrs.contains f = true → NoAttr K C f
def MethK (K : PySem.W.Frag) (c m : Str) (t : DefT) : Prop := ∃ C f fd, PySem.W.nsIn K mainGlobals c = some (some (.ref C)) ∧ Cls K C ∧ Meth K C m f ∧ L2.Fun K m t.name t.st f fd
def InitK (K : PySem.W.Frag) (c : Str) (t : DefT) : Prop := ∃ C f fd, PySem.W.nsIn K mainGlobals c = some (some (.ref C)) ∧ Mk K C f ∧ L2.Fun K "__init__" t.name t.st f fd
theorem methK_mk {K : PySem.W.Frag} {c m : Str} {t : DefT} {C f : Addr} {oc : Value} {od an : Option Addr} {osl : Array (Option Value)} {kV doc pm cdv ct : Value} (aC : PySem.W.nsIn K mainGlobals c = some (some (.ref C)))
    (pg : PySem.W.plainGet K C Str.empty = true) (hd : PySem.W.hasDictIn K C = true) (po : PySem.W.plainOver K C = true) (sa : PySem.W.findIn K (.ref C) "__setattr__" = some (some (.builtin "object.__setattr__")))
    (a : PySem.W.findIn K (.ref C) m = some (some (.ref f))) (i : PySem.W.isFn K (.ref f) = true)
    (l : K.lookup f = some ⟨oc, od, .func (PySem.W.fnOf m t.name (defArgs t.st) (defBody t.st) (defScope t.st) .none kV doc pm an cdv ct), osl⟩)
    (cc : PySem.W.codeIn K cdv t.name = true) (k : PySem.W.keepIn K (.ref f) = true) : MethK K c m t := ⟨C, f, _, aC, ⟨pg, hd, po, sa⟩, ⟨a, i, k⟩, fun_mk l cc k⟩
theorem initK_mk {K : PySem.W.Frag} {c : Str} {t : DefT} {C f : Addr} {oc : Value} {od an : Option Addr} {osl : Array (Option Value)} {kV doc pm cdv ct : Value} (aC : PySem.W.nsIn K mainGlobals c = some (some (.ref C)))
    (mk : PySem.W.makesIn K C = true) (kc : PySem.W.keepIn K (.ref C) = true)
    (a : PySem.W.findIn K (.ref C) "__init__" = some (some (.ref f))) (i : PySem.W.isFn K (.ref f) = true)
    (l : K.lookup f = some ⟨oc, od, .func (PySem.W.fnOf "__init__" t.name (defArgs t.st) (defBody t.st) (defScope t.st) .none kV doc pm an cdv ct), osl⟩)
    (cc : PySem.W.codeIn K cdv t.name = true) (k : PySem.W.keepIn K (.ref f) = true) : InitK K c t := ⟨C, f, _, aC, ⟨mk, a, i, kc⟩, fun_mk l cc k⟩
theorem clsK_mk {K : PySem.W.Frag} {G : Sg} {c : Str} {C : Addr} (aC : PySem.W.nsIn K mainGlobals c = some (some (.ref C)))
    (pg : PySem.W.plainGet K C Str.empty = true) (hd : PySem.W.hasDictIn K C = true) (po : PySem.W.plainOver K C = true) (sa : PySem.W.findIn K (.ref C) "__setattr__" = some (some (.builtin "object.__setattr__")))
    (na : ∀ f ∈ G.attrs, PySem.W.findIn K (.ref C) f = some none) : ClsK K G c := ⟨C, aC, ⟨pg, hd, po, sa⟩, fun f h => na f (by simpa using h)⟩
/-- the constants of the module -/
def GlobK (K : PySem.W.Frag) (gl : List (Str × D)) : Prop := ∀ x d, List.lookup x gl = some d → ∃ u v, PySem.W.nsIn K mainGlobals x = some (some u) ∧ RelV v u ∧ ∀ H ρ, RD K H ρ d v
structure TextK (Pg : Program) (G : Sg) (P : Prog) (L : List DefT) (K : PySem.W.Frag) : Prop where
  ok : ∀ t ∈ L, t.ok G = true
  bi : ∀ t ∈ L, BindOk t
  lk : ∀ t ∈ L, List.lookup t.name P.defs = some t.d
  fn : ∀ f, G.fns.contains f = true → ∃ t ∈ L, t.name = f ∧ DefK K t
  cl : ∀ c, P.clss.contains c = true → ClsK K G c
  mt : ∀ c m, G.mths.contains (c, m) = true → ∃ t ∈ L, t.name = c ++ "." ++ m ∧ MethK K c m t
  ini : ∀ c, G.inis.contains c = true → ∃ t ∈ L, t.name = c ++ ".__init__" ∧ InitK K c t
  bl : ∀ x, G.blt.contains x = true → PySem.W.nsIn K mainGlobals x = some none
  gl : GlobK K G.glob
  er : ∀ c, G.errs.contains c = true → ∃ C fI, EX.TxtK Pg K c C fI
  ie : ∀ c S, G.isE.contains (c, S) = true → ∃ C Sa, PySem.W.nsIn K mainGlobals c = some (some (.ref C)) ∧ PySem.W.nsIn K mainGlobals S = some (some (.ref Sa)) ∧ ExcC K C ∧ PySem.W.kitOne K (.ref C) (.ref Sa) = some true
  gP : ∀ x d, List.lookup x G.glob = some d → List.lookup x P.glob = some d
/-- every parameter is given, of a method too -/
theorem fun_binds {K : PySem.W.Frag} {x : Str} {t : DefT} {f : Addr} {fd : FuncData} (F : L2.Fun K x t.name t.st f fd) (b : ∀ (kV doc pm : Value) (an : Option Addr) (cdv ct : Value) (us : List Value), us.length = t.ps.length →
    bindArgs (PySem.W.fnOf x t.name (defArgs t.st) (defBody t.st) (defScope t.st) .none kV doc pm an cdv ct) ⟨us, []⟩ = pure (t.ps.zip us)) : Binds K fd t.ps [] := F.binds b
theorem TextK.text {G : Sg} {P : Prog} {L : List DefT} {K : PySem.W.Frag} {Pg : Program} (t : TextK Pg G P L K) {w : World} {mg : Str → Option Value} {B hp : Heap} (X : K.In hp) (g : hp.Ns mainGlobals mg) (k : Nat) : Text G ⟨Pg, w, K, mg⟩ B (P.cfg k) k := by
  refine (text_all (L := L) t.ok t.lk (fun f h => ?_) (fun c h => ?_) (fun c m h => ?_) (fun c h => ?_) (fun x h => PySem.W.mg_none_of X g (t.bl x h)) (fun x d h => ⟨t.gP x d h, ?_⟩) (fun c h => let ⟨C, fI, z⟩ := t.er c h; ⟨C, fI, z.txt X g, z.te⟩) (fun c S h => let ⟨C, Sa, z1, z2, z3, z4⟩ := t.ie c S h; ⟨C, Sa, PySem.W.mg_of X g z1, PySem.W.mg_of X g z2, z3, z4⟩) k).1
  · obtain ⟨d, hd, e, a⟩ := t.fn f h
    exact ⟨d, hd, e, a.at (t.bi d hd) X g⟩
  · obtain ⟨C, z1, z2, z3⟩ := t.cl c h
    exact ⟨C, PySem.W.mg_of X g z1, z2, z3⟩
  · obtain ⟨d, hd, e, C, f, fd, z1, z2, z3, z4⟩ := t.mt c m h
    exact ⟨d, hd, e, C, f, fd, PySem.W.mg_of X g z1, z2, z3, z4, fun_binds z4 (t.bi d hd m)⟩
  · obtain ⟨d, hd, e, C, f, fd, z1, z2, z3⟩ := t.ini c h
    exact ⟨d, hd, e, C, f, fd, PySem.W.mg_of X g z1, z2, z3, fun_binds z3 (t.bi d hd _)⟩
  · obtain ⟨u, v, h1, h2, h3⟩ := t.gl x d h
    exact ⟨u, v, PySem.W.mg_of X g h1, h2, h3⟩
def spLaw (K : PySem.W.Frag) : Sp := fun vs H Q _ => ∃ (a : Addr) (ns : List Int), vs = [.ref a] ∧ Only H ∧ SqL K H a (ns.map V.int) ∧ ns.length ≤ 63 ∧ ∀ H', Q (.bl true) H'
theorem hr_start {T : Tx} {H : Hp} {a : Addr} {ns : List Int} (o : Only H) (s : SqL T.K H a (ns.map V.int)) : HR T H [a] [.flst (ns.map .int)] := by
  have fr : FrL T.K H a (ns.map V.int) := by
    rcases s with s | s
    · rcases s with s | s
      · rcases o a with q | ⟨o', xs, q⟩
        · rw [s] at q; cases q
        · rw [s] at q; cases q
      · exact .inl s
    · exact .inr s
  refine ⟨rfl, fun n c b e1 e2 => ?_, fun m n b c c' e1 e2 e3 e4 m1 m2 => ?_, by simp, fun n c e => ?_⟩
  · match n, e1, e2 with
    | 0, e1, e2 =>
      simp at e1 e2
      subst e1; subst e2
      exact ⟨_, fr, RDs.ints ns⟩
    | n + 1, e1, e2 => simp at e1
  · match m, e3 with
    | 0, e3 => simp at e3; subst e3; cases m1
    | m + 1, e3 => simp at e3
  · match n, e with
    | 0, e => simp at e; subst e; exact ⟨fun _ => rfl, fun _ => rfl⟩
    | n + 1, e => simp at e
theorem walk {l : PySem.W.OpenLaw} {q : Program} {loose : List Str} {XP : (Str → Option Value) → Heap → Prop} {YP : World → Heap → Prop} {d : DefRec} {K : Params → PySem.W.Frag} {k : Nat} {G : Sg} {P : Prog} {L : List DefT} {t : DefT}
    (hn : l.most = some 63) (hdf : d.params.defaults = []) (hr : Room (k + 1) callerA) (hY : ∀ (w : World) (h : Heap), YP w h → (K w.params).In h) (hd : d.name = t.name) (ht : t ∈ L) (hat : ∀ w : World, DefK (K w.params) t) (hps : t.ps = [("script" : Str)])
    (tk : ∀ w : World, TextK l.prog G P L (K w.params))
    (pure_ : ∀ ns : List Int, ns.length ≤ 63 → ∃ h, P.call (k + 1) t.name [.loc 0] [.flst (ns.map .int)] = .ok (.bl true) h) : PySem.W.WalkO q loose XP YP l.row.toRowW d [] (fun f vs => PySem.call f vs) := by
  refine L2.walk_of (n := 63) (k := k + 1) (x := "script") (CX := fun w => L2.CX l.prog w) (K := K) (sp := fun w => spLaw (K w.params)) hn (by decide) hdf hr hY (fun w mg fa h KX g hmg => ?_) (fun w H a ns hl o s => ⟨a, ns, rfl, o, s, hl, fun _ => rfl⟩) (fun w H s e s' z => ?_)
  · obtain ⟨f, fd, a, F⟩ := hat w
    have e := (hd ▸ hmg).symm.trans (PySem.W.mg_of KX g a)
    cases e
    refine ⟨fd, fun s u => ?_, fun base KB gB => ?_⟩
    · obtain ⟨oc, od, kV, doc, pm, an, cdv, ct, osl, rfl, lk, hcd⟩ := F.ex
      have z := (tk w).bi t ht t.name kV doc pm an cdv ct [u] (by rw [hps]; rfl)
      rw [hps] at z
      exact .of_eq z
    · have T := (tk w).text (Pg := l.prog) (w := w) (B := base) KX g k
      have z := fn_step T ((tk w).ok t ht) F ((tk w).lk t ht)
      rw [hps] at z
      refine z.imp fun vs H Q E hs => ?_
      obtain ⟨a, ns, rfl, o, s, hl, hq⟩ := hs
      obtain ⟨h1, e1⟩ := pure_ ns hl
      refine ⟨[a], [.loc 0], [.flst (ns.map .int)], .cons (.loc rfl) .nil, hr_start o s, ?_⟩
      rw [e1]
      rintro ρ' v H' e k hr rd
      cases rd
      exact hq H'
  · obtain ⟨_, _, _, _, _, _, _, _, _, _, _, _, z⟩ := z
    exact z.elim
/-! ### for the printed texts -/
theorem mem_all {α : Type} [BEq α] [LawfulBEq α] {l : List α} {p : α → Prop} (h : ∀ x ∈ l, p x) {x : α} (hx : l.contains x = true) : p x := h x (by simpa using hx)
theorem glob_all {K : PySem.W.Frag} {gl : List (Str × D)} (h : ∀ p ∈ gl, ∃ u v, PySem.W.nsIn K mainGlobals p.1 = some (some u) ∧ RelV v u ∧ ∀ H ρ, RD K H ρ p.2 v) : GlobK K gl := by
  intro x d hx
  exact h (x, d) (mem_of_lookup hx)
theorem glob_int {K : PySem.W.Frag} {x : Str} {i : Int} {t : Tok} (h : PySem.W.nsIn K mainGlobals x = some (some (.int i t))) : ∃ u v, PySem.W.nsIn K mainGlobals x = some (some u) ∧ RelV v u ∧ ∀ H ρ, RD K H ρ (.int i) v := ⟨_, .int i, h, ⟨t, rfl⟩, fun _ _ => .int i⟩
theorem glob_str {K : PySem.W.Frag} {x : Str} {i : Str} {t : Tok} (h : PySem.W.nsIn K mainGlobals x = some (some (.str i t))) : ∃ u v, PySem.W.nsIn K mainGlobals x = some (some u) ∧ RelV v u ∧ ∀ H ρ, RD K H ρ (.str i) v := ⟨_, .str i, h, ⟨t, rfl⟩, fun _ _ => .str i⟩
theorem kit_of {K : PySem.W.Frag} {C S : Addr} (hd : PySem.W.hasDictIn K S = true) (ty : PySem.W.typeIn K (.ref S) = some (.type "type")) (h : PySem.W.subIn K (.ref C) (.ref S) = some true) : PySem.W.kitOne K (.ref C) (.ref S) = some true := by
  obtain ⟨cd, hc, _⟩ := PySem.W.any_some hd
  unfold PySem.W.kitOne
  split
  · rfl
  · show (if ((PySem.W.clsIn K S).isSome && PySem.W.typeIn K (.ref S) == some (.type "type")) = true then PySem.W.subIn K (.ref C) (.ref S) else none) = some true
    have e2 : ((PySem.W.clsIn K S).isSome && PySem.W.typeIn K (.ref S) == some (.type "type")) = true := by rw [hc, ty] <;> rfl
    rw [if_pos e2]; exact h
theorem isE_mk {K : PySem.W.Frag} {c S : Str} {C Sa : Addr} (a : PySem.W.nsIn K mainGlobals c = some (some (.ref C))) (b : PySem.W.nsIn K mainGlobals S = some (some (.ref Sa)))
    (hg : PySem.W.findIn K (.ref C) "__getattribute__" = some (some (.builtin "BaseException.__getattribute__"))) (hk : PySem.W.findIn K (.ref C) "__getattr__" = some none) (hs : PySem.W.subIn K (.ref C) (.type "BaseException") = some true) (hd : PySem.W.hasDictIn K C = true)
    (ha : PySem.W.findIn K (.ref C) "__class__" = some (some (.builtin "object.__class__"))) (hn : PySem.W.specialIn K (.builtin "object.__class__") "__get__" = some (some (.builtin "getset_descriptor.__get__"))) (ht : PySem.W.takesIn K (.builtin "object.__class__") = some true) (hm : PySem.W.mroIn K C (.type "object") = some true)
    (o1 : PySem.W.hasDictIn K Sa = true) (o2 : PySem.W.typeIn K (.ref Sa) = some (.type "type")) (o3 : PySem.W.subIn K (.ref C) (.ref Sa) = some true) : ∃ C Sa, PySem.W.nsIn K mainGlobals c = some (some (.ref C)) ∧ PySem.W.nsIn K mainGlobals S = some (some (.ref Sa)) ∧ ExcC K C ∧ PySem.W.kitOne K (.ref C) (.ref Sa) = some true := ⟨C, Sa, a, b, ⟨hg, hk, hs, hd, ha, hn, ht, hm⟩, kit_of o1 o2 o3⟩
end FL
set_option autoImplicit false
set_option linter.all false
set_option maxRecDepth 100000
/-! FL, part P: the evaluator's small steps, loops, equal data: for the plain proofs. -/
namespace FL
open PySem
/-! ### data without places -/
mutual
theorem flat_closed (n : Nat) : ∀ d : D, d.flat = true → d.closed n = true
  | .non, _ => rfl
  | .bl _, _ => rfl
  | .int _, _ => rfl
  | .str _, _ => rfl
  | .tup xs, h => by rw [D.flat] at h; rw [closed_tup]; exact flatL_closed n xs h
  | .fl xs, h => by rw [D.flat] at h; rw [closed_fl]; exact flatL_closed n xs h
  | .fd ks vs, h => by rw [D.flat, Bool.and_eq_true] at h; rw [closed_fd, flatL_closed n ks h.1, flatL_closed n vs h.2]; rfl
  | .loc _, h => by simp [D.flat] at h
theorem flatL_closed (n : Nat) : ∀ xs : List D, D.flatL xs = true → D.closedL n xs = true
  | [], _ => rfl
  | x :: xs, h => by
    rw [D.flatL, Bool.and_eq_true] at h
    rw [closedL_cons, flat_closed n x h.1, flatL_closed n xs h.2]; rfl
end
@[simp] theorem flat_non : D.flat .non = true := by rw [D.flat]; all_goals simp
@[simp] theorem flat_bl (b : Bool) : D.flat (.bl b) = true := by rw [D.flat]; all_goals simp
@[simp] theorem flat_int (b : Int) : D.flat (.int b) = true := by rw [D.flat]; all_goals simp
@[simp] theorem flat_str (b : Str) : D.flat (.str b) = true := by rw [D.flat]; all_goals simp
@[simp] theorem flat_tup (xs : List D) : D.flat (.tup xs) = D.flatL xs := by rw [D.flat]
@[simp] theorem flat_fl (xs : List D) : D.flat (.fl xs) = D.flatL xs := by rw [D.flat]
@[simp] theorem flat_fd (ks xs : List D) : D.flat (.fd ks xs) = (D.flatL ks && D.flatL xs) := by rw [D.flat]
@[simp] theorem flat_loc (n : Nat) : D.flat (.loc n) = false := by rw [D.flat]
@[simp] theorem flatL_nil : D.flatL [] = true := by rw [D.flatL]
@[simp] theorem flatL_cons (x : D) (xs : List D) : D.flatL (x :: xs) = (D.flat x && D.flatL xs) := by rw [D.flatL]
theorem flatL_iff : ∀ xs : List D, D.flatL xs = true ↔ ∀ x ∈ xs, x.flat = true
  | [] => by simp
  | x :: xs => by rw [flatL_cons, Bool.and_eq_true, flatL_iff xs]; simp
theorem flatL_map {α : Type} (f : α → D) (xs : List α) (h : ∀ x ∈ xs, (f x).flat = true) : D.flatL (xs.map f) = true := by
  rw [flatL_iff]; intro d hd
  obtain ⟨x, hx, rfl⟩ := List.mem_map.mp hd
  exact h x hx
@[simp] theorem flatL_append (xs ys : List D) : D.flatL (xs ++ ys) = (D.flatL xs && D.flatL ys) := by
  rw [Bool.eq_iff_iff, Bool.and_eq_true, flatL_iff, flatL_iff, flatL_iff]
  constructor
  · exact fun h => ⟨fun x hx => h x (by simp [hx]), fun x hx => h x (by simp [hx])⟩
  · rintro ⟨h1, h2⟩ x hx
    rcases List.mem_append.mp hx with h | h
    · exact h1 x h
    · exact h2 x h
@[simp] theorem flatL_ints (xs : List Int) : D.flatL (xs.map .int) = true := flatL_map _ _ fun _ _ => flat_int _
@[simp] theorem flatL_bls (xs : List Bool) : D.flatL (xs.map .bl) = true := flatL_map _ _ fun _ _ => flat_bl _
/-! ### behind a call -/
theorem OldOk.app (h g : Hs) : OldOk h (h ++ g) := fun i hi => .inl (by rw [List.getElem?_append_left hi])
theorem OldOk.refl (h : Hs) : OldOk h h := fun i hi => .inl rfl
theorem OldOk.set {h : Hs} {n : Nat} {c : Cell} (hc : c.closed h.length = true) : OldOk h (h.set n c) := fun i hi => by
  by_cases e : n = i
  · subst e
    exact .inr ⟨c, by rw [List.getElem?_set_self hi], hc⟩
  · exact .inl (by rw [List.getElem?_set_ne e])
theorem frz_flat {n0 : Nat} {h : Hs} {k : Nat} {d : D} (hd : d.flat = true) : frzD n0 h k d = some d := by
  cases k with
  | zero => unfold frzD; rw [if_pos hd]
  | succ k => unfold frzD; rw [if_pos hd]
theorem optL_flat {n0 : Nat} {h : Hs} {k : Nat} : ∀ {xs : List D}, D.flatL xs = true → optL (frzD n0 h k) xs = some xs
  | [], _ => rfl
  | x :: xs, hx => by
    rw [flatL_cons, Bool.and_eq_true] at hx
    rw [optL, frz_flat hx.1, optL_flat hx.2]
/-- a flat result: the cells behind the first ones go -/
theorem gcX_ok {m : Bool} {h h' : Hs} {d : D} (o : OldOk h h') (hl : h.length ≤ h'.length) (hd : d.flat = true) : gcX m h (.ok d h') = .ok d (h'.take h.length) := by
  have hc := flat_closed h.length d hd
  cases m with
  | true => simp only [gcX, gc, if_true, if_pos o, if_pos hc]
  | false => simp only [gcX, Bool.false_eq_true, if_false, if_pos (And.intro o hl), frz_flat hd, if_pos hc]
theorem gcX_flat {m : Bool} {h g : Hs} {d : D} (hd : d.flat = true) : gcX m h (.ok d (h ++ g)) = .ok d h := by
  rw [gcX_ok (OldOk.app h g) (by simp) hd, List.take_left]
theorem gcX_flat0 {m : Bool} {h : Hs} {d : D} (hd : d.flat = true) : gcX m h (.ok d h) = .ok d h := by
  rw [gcX_ok (OldOk.refl h) (Nat.le_refl _) hd, List.take_length]
@[simp] theorem gcX_int (m : Bool) (h : Hs) (i : Int) : gcX m h (.ok (.int i) h) = .ok (.int i) h := gcX_flat0 (flat_int _)
@[simp] theorem gcX_bl (m : Bool) (h : Hs) (i : Bool) : gcX m h (.ok (.bl i) h) = .ok (.bl i) h := gcX_flat0 (flat_bl _)
@[simp] theorem gcX_non (m : Bool) (h : Hs) : gcX m h (.ok .non h) = .ok .non h := gcX_flat0 flat_non
@[simp] theorem gcX_str (m : Bool) (h : Hs) (i : Str) : gcX m h (.ok (.str i) h) = .ok (.str i) h := gcX_flat0 (flat_str _)
@[simp] theorem gcX_bad (m : Bool) (h : Hs) : gcX m h .bad = .bad := rfl
theorem gcX_setApp {m : Bool} {h g : Hs} {n : Nat} {c : Cell} {d : D} (hc : c.closed h.length = true) (hd : d.flat = true) : gcX m h (.ok d (h.set n c ++ g)) = .ok d (h.set n c) := by
  have o : OldOk h (h.set n c ++ g) := fun i hi => by
    rw [List.getElem?_append_left (by simpa using hi)]
    exact OldOk.set hc i hi
  rw [gcX_ok o (by simp) hd, List.take_append_of_le_length (by simp)]
  congr 1
  exact List.take_of_length_le (by simp)
theorem gcX_set {m : Bool} {h : Hs} {n : Nat} {c : Cell} {d : D} (hc : c.closed h.length = true) (hd : d.flat = true) : gcX m h (.ok d (h.set n c)) = .ok d (h.set n c) := by
  have := gcX_setApp (m := m) (g := []) (n := n) hc hd
  simpa using this
/-- a new list, never written again -/
theorem gcX_lst {h h' : Hs} {k : Nat} {xs : List D} (o : OldOk h h') (hl : h.length ≤ k) (e : h'[k]? = some (.lst xs)) (hx : D.flatL xs = true) : gcX false h (.ok (.loc k) h') = .ok (.fl xs) (h'.take h.length) := by
  have hk : k < h'.length := (List.getElem?_eq_some_iff.mp e).1
  have e1 : frzD h.length h' 8 (.loc k) = some (.fl xs) := by
    unfold frzD
    rw [if_neg (by simp)]
    simp only [if_neg (Nat.not_lt.mpr hl), e, optL_flat hx, Option.map_some]
  have e2 : D.closed h.length (.fl xs) = true := by rw [closed_fl]; exact flatL_closed _ _ hx
  simp only [gcX, Bool.false_eq_true, if_false, if_pos (And.intro o (show h.length ≤ h'.length by omega)), e1, if_pos e2]
theorem gcX_lst0 {h g : Hs} {k : Nat} {xs : List D} (hl : h.length ≤ k) (e : (h ++ g)[k]? = some (.lst xs)) (hx : D.flatL xs = true) : gcX false h (.ok (.loc k) (h ++ g)) = .ok (.fl xs) h := by
  rw [gcX_lst (OldOk.app h g) hl e hx, List.take_left]
/-- a list that stays as it is -/
theorem gcX_keep {h : Hs} {k : Nat} {c : Cell} (e : (h ++ [c])[k]? = some c) : True := trivial
@[simp] theorem gcX_exc {m : Bool} {h : Hs} {c : Str} {s f : Str} : gcX m h (.exc c [(f, .str s)] h) = .exc c [(f, .str s)] h := by
  simp [gcX, gcR, OldOk.refl]
/-! ### comparisons of scalars -/
@[simp] theorem py_int (h : Hs) (i : Int) : D.py h (.int i) = some (.int i) := rfl
@[simp] theorem py_bl (h : Hs) (i : Bool) : D.py h (.bl i) = some (.bool i) := rfl
@[simp] theorem py_str (h : Hs) (i : Str) : D.py h (.str i) = some (.str i) := rfl
@[simp] theorem py_non (h : Hs) : D.py h .non = some .none := rfl
@[simp] theorem eqD_int (h : Hs) (i j : Int) : eqD h (.int i) (.int j) = some (decide (i = j)) := by
  simp only [eqD, py_int]
  rw [if_pos ⟨rfl, rfl⟩]
  simp only [PyData.eqv]
  rw [Option.some.injEq, Bool.eq_iff_iff]
  simp
@[simp] theorem eqD_bl (h : Hs) (i j : Bool) : eqD h (.bl i) (.bl j) = some (decide (i = j)) := by
  simp only [eqD, py_bl]
  rw [if_pos ⟨rfl, rfl⟩]
  simp only [PyData.eqv]
  rw [Option.some.injEq, Bool.eq_iff_iff]
  simp
/-! ### the first part first -/
section
variable {α β : Type}
theorem bind_congr' {r r' : R α} {f : α → Hs → R β} (h : r = r') : r.bind f = r'.bind f := by rw [h]
theorem must_congr' {r r' : R α} {f : α → Hs → R β} (h : r = r') : r.must f = r'.must f := by rw [h]
theorem andS_congr' {r r' : R α} {ls : Ls} {f : α → Hs → RS} (h : r = r') : r.andS ls f = r'.andS ls f := by rw [h]
theorem andN_congr' {r r' : RS} {f : Ls → Hs → RS} (h : r = r') : r.andN f = r'.andN f := by rw [h]
theorem turnEnd_congr' {fg : List Nat} {r r' : RS} {f : Ls → Hs → RS} (h : r = r') : turnEnd fg r f = turnEnd fg r' f := by rw [h]
theorem forL_congr' {fg ns : List Nat} {h0 h h' : Hs} {step : D → Ls → Hs → RS} {xs xs' : List D} {ls ls' : Ls} (e1 : xs = xs') (e2 : ls = ls') (e3 : h = h') : forL fg ns h0 step xs ls h = forL fg ns h0 step xs' ls' h' := by rw [e1, e2, e3]
theorem compL_congr' {ns : List Nat} {h0 h h' : Hs} {step : D → Hs → R (Option D)} {xs xs' : List D} (e1 : xs = xs') (e3 : h = h') : compL ns h0 step xs h = compL ns h0 step xs' h' := by rw [e1, e3]
theorem whileL_congr' {fg : List Nat} {c : Ls → Hs → R Bool} {body : Ls → Hs → RS} {k : Nat} {ls ls' : Ls} {h h' : Hs} (e2 : ls = ls') (e3 : h = h') : whileL fg c body k ls h = whileL fg c body k ls' h' := by rw [e2, e3]
@[simp] theorem catchR_nx (c : Str) (i : Nat) (ls : Ls) (h : Hs) : catchR c i (.nx ls h) = .nx ls h := rfl
@[simp] theorem catchR_rt (c : Str) (i : Nat) (d : D) (h : Hs) : catchR c i (.rt d h) = .rt d h := rfl
@[simp] theorem turnEnd_nx (fg : List Nat) (ls : Ls) (h : Hs) (f : Ls → Hs → RS) : turnEnd fg (.nx ls h) f = f (wipe ls fg) h := by cases h <;> rfl
@[simp] theorem turnEnd_ct (fg : List Nat) (ls : Ls) (h : Hs) (f : Ls → Hs → RS) : turnEnd fg (.ct ls h) f = f (wipe ls fg) h := by cases h <;> rfl
@[simp] theorem turnEnd_bk (fg : List Nat) (ls : Ls) (h : Hs) (f : Ls → Hs → RS) : turnEnd fg (.bk ls h) f = .nx (wipe ls fg) h := rfl
@[simp] theorem turnEnd_rt (fg : List Nat) (d : D) (h : Hs) (f : Ls → Hs → RS) : turnEnd fg (.rt d h) f = .rt d h := rfl
@[simp] theorem turnEnd_exc (fg : List Nat) (c : Str) (fs : List (Str × D)) (ls : Ls) (h : Hs) (f : Ls → Hs → RS) : turnEnd fg (.exc c fs ls h) f = .exc c fs ls h := rfl
@[simp] theorem turnEnd_ite (fg : List Nat) (p : Prop) [Decidable p] (a b : RS) (f : Ls → Hs → RS) : turnEnd fg (if p then a else b) f = if p then turnEnd fg a f else turnEnd fg b f := by split <;> rfl
theorem call_ite (p : Prop) [Decidable p] (a b : RS) : (if p then a else b).call = if p then a.call else b.call := by split <;> rfl
end
/-! ### lists by place -/
theorem atI_nat {α : Type} (xs : List α) (n : Nat) : L2.atI xs (n : Int) = xs[n]? := by
  unfold L2.atI L2.ixN
  rw [if_pos (Int.natCast_nonneg n)]
  by_cases h : n < xs.length
  · rw [if_pos (by omega)]; simp
  · rw [if_neg (by omega), List.getElem?_eq_none (by omega)]; rfl
theorem atI_pos {α : Type} (xs : List α) {i : Int} (h : 0 ≤ i) : L2.atI xs i = xs[i.toNat]? := by
  obtain ⟨n, rfl⟩ := Int.eq_ofNat_of_zero_le h
  rw [atI_nat]; rfl
@[simp] theorem atI_lit {α : Type} (xs : List α) (n : Nat) : L2.atI xs (no_index (OfNat.ofNat n : Int)) = xs[n]? := atI_nat xs n
theorem ixN_pos {n : Nat} {i : Int} (h : 0 ≤ i) (h2 : i < n) : L2.ixN n i = some i.toNat := by
  unfold L2.ixN; rw [if_pos h, if_pos h2]
@[simp] theorem ixN_lit (m n : Nat) : L2.ixN m (no_index (OfNat.ofNat n : Int)) = if n < m then some n else none := by
  have e : (OfNat.ofNat n : Int) = (n : Int) := rfl
  rw [e]
  unfold L2.ixN
  rw [if_pos (Int.natCast_nonneg n)]
  by_cases h : n < m
  · rw [if_pos h, if_pos (by omega)]; simp
  · rw [if_neg h, if_neg (by omega)]
theorem lstAt_of {h : Hs} {n : Nat} {xs : List D} (e : h[n]? = some (.lst xs)) : lstAt h n = some xs := by unfold lstAt; rw [e]
theorem lstAt_fr {h : Hs} {n : Nat} {xs : List D} (e : h[n]? = some (.flst xs)) : lstAt h n = some xs := by unfold lstAt; rw [e]
theorem mlstAt_of {h : Hs} {n : Nat} {xs : List D} (e : h[n]? = some (.lst xs)) : mlstAt h n = some xs := by unfold mlstAt; rw [e]
theorem idx_of {h : Hs} {n : Nat} {xs : List D} {j : Int} (e : lstAt h n = some xs) : idxD (.loc n) (.int j) h = R.ofO h (L2.atI xs j) := by simp only [idxD, idxG, lstD, e]
@[simp] theorem idx_fl (h : Hs) (xs : List D) (j : Int) : idxD (.fl xs) (.int j) h = R.ofO h (L2.atI xs j) := rfl
@[simp] theorem idx_tup (h : Hs) (xs : List D) (j : Int) : idxD (.tup xs) (.int j) h = R.ofO h (L2.atI xs j) := rfl
theorem set_of {h : Hs} {n : Nat} {xs : List D} {j : Int} {v : D} (e : h[n]? = some (.lst xs)) : setIdx (.loc n) (.int j) v h = match L2.ixN xs.length j with
    | some k => .ok () (h.set n (.lst (xs.set k v)))
    | none => .bad := by unfold setIdx; first | (simp only [e]; done) | (simp only [e]; cases L2.ixN xs.length j <;> rfl)
theorem len_of {m : Bool} {h : Hs} {n : Nat} {xs : List D} (e : lstAt h n = some xs) : btD m .len [.loc n] h = .ok (.int xs.length) h := by simp only [btD, itemsD, lstD, e]
@[simp] theorem len_tup (m : Bool) (h : Hs) (xs : List D) : btD m .len [.tup xs] h = .ok (.int xs.length) h := rfl
@[simp] theorem len_fl (m : Bool) (h : Hs) (xs : List D) : btD m .len [.fl xs] h = .ok (.int xs.length) h := rfl
@[simp] theorem bt_abs (m : Bool) (h : Hs) (i : Int) : btD m .abs [.int i] h = .ok (.int (if i < 0 then -i else i)) h := rfl
@[simp] theorem bt_int (m : Bool) (h : Hs) (i : Int) : btD m .int [.int i] h = .ok (.int i) h := rfl
@[simp] theorem truth_bl (h : Hs) (b : Bool) : truth h (.bl b) = some b := rfl
@[simp] theorem cmp_eq (h : Hs) (a b : D) : cmpD .Eq h a b = eqD h a b := rfl
@[simp] theorem cmp_ne (h : Hs) (a b : D) : cmpD .NotEq h a b = (eqD h a b).map (!·) := rfl
@[simp] theorem cmp_lt (h : Hs) (a b : Int) : cmpD .Lt h (.int a) (.int b) = some (decide (a < b)) := rfl
@[simp] theorem cmp_le (h : Hs) (a b : Int) : cmpD .LtE h (.int a) (.int b) = some (decide (a ≤ b)) := rfl
@[simp] theorem cmp_gt (h : Hs) (a b : Int) : cmpD .Gt h (.int a) (.int b) = some (decide (b < a)) := rfl
@[simp] theorem cmp_ge (h : Hs) (a b : Int) : cmpD .GtE h (.int a) (.int b) = some (decide (b ≤ a)) := rfl
@[simp] theorem bin_int (m : Bool) (op : Operator) (i j : Int) (h : Hs) : binD m op (.int i) (.int j) h = R.ofO h ((binI op i j).map .int) := rfl
@[simp] theorem binI_add (i j : Int) : binI .Add i j = some (i + j) := rfl
@[simp] theorem binI_sub (i j : Int) : binI .Sub i j = some (i - j) := rfl
@[simp] theorem binI_mul (i j : Int) : binI .Mult i j = if mulOk i j then some (i * j) else none := rfl
theorem mul_l {i j : Int} (h : -(2 ^ 64) < i ∧ i < 2 ^ 64) : binI .Mult i j = some (i * j) := if_pos (.inl h)
theorem mul_r {i j : Int} (h : -(2 ^ 64) < j ∧ j < 2 ^ 64) : binI .Mult i j = some (i * j) := if_pos (.inr h)
@[simp] theorem binI_mod (i j : Int) : binI .Mod i j = if j ≠ 0 then some (i.fmod j) else none := rfl
@[simp] theorem binI_fdiv (i j : Int) : binI .FloorDiv i j = if j ≠ 0 ∧ j.natAbs < 1073741824 then some (i.fdiv j) else none := rfl
@[simp] theorem bin_tup (m : Bool) (xs ys : List D) (h : Hs) : binD m .Add (.tup xs) (.tup ys) h = if xs.length + ys.length ≤ sizeLine then .ok (.tup (xs ++ ys)) h else .bad := rfl
@[simp] theorem bin_fl (m : Bool) (xs ys : List D) (h : Hs) : binD m .Add (.fl xs) (.fl ys) h = if xs.length + ys.length ≤ sizeLine then newM m h (xs ++ ys) else .bad := rfl
theorem size_big : sizeLine = 16777216 := PySem.sizeLine_eq
theorem lt_of_get {α : Type} {h : List α} {n : Nat} {c : α} (e : h[n]? = some c) : n < h.length := (List.getElem?_eq_some_iff.mp e).1
theorem lstAt_set {h : Hs} {n : Nat} {xs : List D} (hl : n < h.length) : lstAt (h.set n (.lst xs)) n = some xs := lstAt_of (List.getElem?_set_self hl)
theorem idx_set {h : Hs} {n : Nat} {xs : List D} {j : Int} (hl : n < h.length) : idxD (.loc n) (.int j) (h.set n (.lst xs)) = R.ofO (h.set n (.lst xs)) (L2.atI xs j) := idx_of (lstAt_set hl)
theorem set_set {h : Hs} {n : Nat} {xs : List D} {j : Int} {v : D} (hl : n < h.length) : setIdx (.loc n) (.int j) v (h.set n (.lst xs)) = match L2.ixN xs.length j with
    | some k => .ok () (h.set n (.lst (xs.set k v)))
    | none => .bad := by rw [set_of (List.getElem?_set_self hl)]; cases L2.ixN xs.length j <;> simp
theorem R.andS_of {α : Type} {r : R α} {a : α} {h : Hs} {ls : Ls} {f : α → Hs → RS} (e : r = .ok a h) : r.andS ls f = f a h := by rw [e]; rfl
theorem seq_nx {Γ : Cfg} {s ss : FS} {ls ls1 : Ls} {h h1 : Hs} (e : evS Γ s ls h = .nx ls1 h1) : evS Γ (.scons s ss) ls h = evS Γ ss ls1 h1 := by rw [evS, e]; rfl
theorem seq_rt {Γ : Cfg} {s ss : FS} {ls : Ls} {h h1 : Hs} {d : D} (e : evS Γ s ls h = .rt d h1) : evS Γ (.scons s ss) ls h = .rt d h1 := by rw [evS, e]; rfl
/-! ### comprehensions, loops -/
theorem same_refl (ns : List Nat) (h : Hs) : same ns h h := fun _ _ => rfl
noncomputable def cstep (Γ : Cfg) (own : List Nat) (t : FT) (c e : FE) (ls : Ls) : D → Hs → R (Option D) := fun x h2 => match asgT t x (wipe ls own) with
  | some ls2 => (ev Γ c ls2 h2).bind fun k h3 => (R.ofO h3 (truth h3 k)).bind fun k h3 => if k = true then (ev Γ e ls2 h3).bind fun y h4 => .ok (some y) h4 else .ok none h3
  | none => .bad
noncomputable def dstep (Γ : Cfg) (own : List Nat) (t : FT) (c k v : FE) (ls : Ls) : D → Hs → R (Option (D × D)) := fun x h2 => match asgT t x (wipe ls own) with
  | some ls2 => (ev Γ c ls2 h2).bind fun b h3 => (R.ofO h3 (truth h3 b)).bind fun b h3 => if b = true then (ev Γ k ls2 h3).bind fun y h4 => (ev Γ v ls2 h4).bind fun z h5 => .ok (some (y, z)) h5 else .ok none h3
  | none => .bad
theorem comp_pure {α : Type} {en : α → D} {f : α → Option D} {ns : List Nat} {h : Hs} {step : D → Hs → R (Option D)} : ∀ {xs : List α}, (∀ x ∈ xs, step (en x) h = .ok (f x) h) → compL ns h step (xs.map en) h = .ok (xs.filterMap f) h
  | [], _ => by rw [List.map_nil, compL]; rfl
  | x :: xs, hs => by
    rw [List.map_cons, compL, hs x (by simp), R.must_ok, if_pos (same_refl ns h), comp_pure (fun y hy => hs y (by simp [hy])), R.must_ok, List.filterMap_cons]
    cases f x <;> rfl
theorem filterMap_some {α β : Type} (f : α → β) (xs : List α) : xs.filterMap (fun x => some (f x)) = xs.map f := by simp
theorem filterMap_if {α : Type} (p : α → Bool) (f : α → D) (xs : List α) : xs.filterMap (fun x => if p x = true then some (f x) else none) = (xs.filter p).map f := by
  induction xs with
  | nil => rfl
  | cons x xs ih =>
    rw [List.filterMap_cons, List.filter_cons]
    cases h : p x <;> simp [ih]
theorem bools_map (bs : List Bool) : bools (bs.map .bl) = some bs := by
  induction bs with
  | nil => rfl
  | cons b bs ih => rw [List.map_cons, bools, ih]; rfl
theorem bools_mapF {α : Type} (p : α → Bool) (xs : List α) : bools (xs.map fun x => .bl (p x)) = some (xs.map p) := by
  have := bools_map (xs.map p)
  rwa [List.map_map] at this
theorem ints_map (bs : List Int) : intsD (bs.map .int) = some bs := by
  induction bs with
  | nil => rfl
  | cons b bs ih => rw [List.map_cons, intsD, ih]; rfl
theorem ints_mapF {α : Type} (p : α → Int) (xs : List α) : intsD (xs.map fun x => .int (p x)) = some (xs.map p) := by
  have := ints_map (xs.map p)
  rwa [List.map_map] at this
@[simp] theorem newL_bind {β : Type} (h : Hs) (xs : List D) (f : D → Hs → R β) : (newL h xs).bind f = f (.loc h.length) (h ++ [.lst xs]) := by cases h <;> rfl
@[simp] theorem newL_andS (h : Hs) (xs : List D) (ls : Ls) (f : D → Hs → RS) : (newL h xs).andS ls f = f (.loc h.length) (h ++ [.lst xs]) := by cases h <;> rfl
theorem lstAt_last (h : Hs) (xs : List D) : lstAt (h ++ [.lst xs]) h.length = some xs := lstAt_of (by simp)
section
variable {α : Type} {en : α → D} {step : D → Hs → R (Option D)} {ns : List Nat} {h : Hs} {xs : List α} {m : Bool}
theorem comp_l (f : α → D) (hs : ∀ x ∈ xs, step (en x) h = .ok (some (f x)) h) (hz : xs.length ≤ sizeLine) : ((compL ns h step (xs.map en) h).bind fun ys h2 => if ys.length ≤ sizeLine then newM m h2 ys else .bad) = newM m h (xs.map f) := by
  rw [comp_pure (f := fun x => some (f x)) hs, R.bind_ok, if_pos (Nat.le_trans (List.length_filterMap_le _ _) hz), filterMap_some]
theorem comp_lf (p : α → Bool) (f : α → D) (hs : ∀ x ∈ xs, step (en x) h = .ok (if p x = true then some (f x) else none) h) (hz : xs.length ≤ sizeLine) : ((compL ns h step (xs.map en) h).bind fun ys h2 => if ys.length ≤ sizeLine then newM m h2 ys else .bad) = newM m h ((xs.filter p).map f) := by
  rw [comp_pure (f := fun x => if p x = true then some (f x) else none) hs, R.bind_ok, if_pos (Nat.le_trans (List.length_filterMap_le _ _) hz), filterMap_if]
end
section
variable {α : Type} {en : α → D} {step : D → Hs → R (Option D)} {ns : List Nat} {h : Hs} {xs : List α}
theorem cf (f : α → D) (hs : ∀ x ∈ xs, step (en x) h = .ok (some (f x)) h) (hz : xs.length ≤ sizeLine) : ((compL ns h step (xs.map en) h).bind fun ys h2 => if ys.length ≤ sizeLine then R.ok (D.fl ys) h2 else .bad) = .ok (.fl (xs.map f)) h := comp_l (m := false) f hs hz
theorem cff (p : α → Bool) (f : α → D) (hs : ∀ x ∈ xs, step (en x) h = .ok (if p x = true then some (f x) else none) h) (hz : xs.length ≤ sizeLine) : ((compL ns h step (xs.map en) h).bind fun ys h2 => if ys.length ≤ sizeLine then R.ok (D.fl ys) h2 else .bad) = .ok (.fl ((xs.filter p).map f)) h := comp_lf (m := false) p f hs hz
end
@[simp] theorem any_fl {α : Type} (m : Bool) (p : α → Bool) (xs : List α) (h : Hs) : btD m .any [.fl (xs.map fun x => .bl (p x))] h = .ok (.bl (xs.any p)) h := by
  simp only [btD, lstD, Option.bind_some, bools_mapF, Option.map_some, ofO_some, List.any_map]; rfl
@[simp] theorem all_fl {α : Type} (m : Bool) (p : α → Bool) (xs : List α) (h : Hs) : btD m .all [.fl (xs.map fun x => .bl (p x))] h = .ok (.bl (xs.all p)) h := by
  simp only [btD, lstD, Option.bind_some, bools_mapF, Option.map_some, ofO_some, List.all_map]; rfl
@[simp] theorem tuple_fl (m : Bool) (xs : List D) (h : Hs) : btD m .tuple [.fl xs] h = .ok (.tup xs) h := rfl
@[simp] theorem tuple_tup (m : Bool) (xs : List D) (h : Hs) : btD m .tuple [.tup xs] h = .ok (.tup xs) h := rfl
@[simp] theorem list_fl (m : Bool) (xs : List D) (h : Hs) : btD m .list [.fl xs] h = newM m h xs := rfl
@[simp] theorem list_tup (m : Bool) (xs : List D) (h : Hs) : btD m .list [.tup xs] h = newM m h xs := rfl
theorem tuple_loc {m : Bool} {h : Hs} {n : Nat} {xs : List D} (e : lstAt h n = some xs) : btD m .tuple [.loc n] h = .ok (.tup xs) h := by simp [btD, itemsD, lstD, e]
theorem list_loc {m : Bool} {h : Hs} {n : Nat} {xs : List D} (e : lstAt h n = some xs) : btD m .list [.loc n] h = newM m h xs := by simp [btD, itemsD, lstD, e]
/-! ### the evaluator's rows, one by one -/
@[simp] theorem ev_var (Γ : Cfg) (i : Nat) (ls : Ls) (h : Hs) : ev Γ (.var i) ls h = match ls[i]? with
    | some (some d) => .ok d h
    | _ => .bad := by rw [ev] <;> rfl
@[simp] theorem ev_cst (Γ : Cfg) (d : D) (ls : Ls) (h : Hs) : ev Γ (.cst d) ls h = .ok d h := by rw [ev] <;> rfl
@[simp] theorem ev_glob (Γ : Cfg) (x : Str) (ls : Ls) (h : Hs) : ev Γ (.glob x) ls h = R.ofO h (Γ.glob x) := by rw [ev] <;> rfl
@[simp] theorem ev_bin (Γ : Cfg) (m : Bool) (op : Operator) (a : FE) (b : FE) (ls : Ls) (h : Hs) : ev Γ (.bin m op a b) ls h = (ev Γ a ls h).bind fun x h1 => (ev Γ b ls h1).bind fun y h2 => binD m op x y h2 := by rw [ev] <;> rfl
@[simp] theorem ev_neg (Γ : Cfg) (a : FE) (ls : Ls) (h : Hs) : ev Γ (.neg a) ls h = (ev Γ a ls h).bind negD := by rw [ev] <;> rfl
@[simp] theorem ev_not (Γ : Cfg) (a : FE) (ls : Ls) (h : Hs) : ev Γ (.not a) ls h = (ev Γ a ls h).bind fun x h1 => R.ofO h1 ((truth h1 x).map fun b => .bl (!b)) := by rw [ev] <;> rfl
@[simp] theorem ev_cmp (Γ : Cfg) (op : CmpOp) (a : FE) (b : FE) (ls : Ls) (h : Hs) : ev Γ (.cmp op a b) ls h = (ev Γ a ls h).bind fun x h1 => (ev Γ b ls h1).bind fun y h2 => R.ofO h2 ((cmpD op h2 x y).map .bl) := by rw [ev] <;> rfl
@[simp] theorem ev_chain (Γ : Cfg) (op : CmpOp) (op' : CmpOp) (a : FE) (b : FE) (c : FE) (ls : Ls) (h : Hs) : ev Γ (.chain op op' a b c) ls h = (ev Γ a ls h).bind fun x h1 => (ev Γ b ls h1).bind fun y h2 => (R.ofO h2 (cmpD op h2 x y)).bind fun k h2 => if k = true then
      (ev Γ c ls h2).bind fun z h3 => R.ofO h3 ((cmpD op' h3 y z).map .bl) else .ok (.bl false) h2 := by rw [ev] <;> rfl
@[simp] theorem ev_and (Γ : Cfg) (a : FE) (b : FE) (ls : Ls) (h : Hs) : ev Γ (.and a b) ls h = (ev Γ a ls h).bind fun x h1 => (R.ofO h1 (truth h1 x)).bind fun k h1 => if k = true then ev Γ b ls h1 else .ok x h1 := by rw [ev] <;> rfl
@[simp] theorem ev_or (Γ : Cfg) (a : FE) (b : FE) (ls : Ls) (h : Hs) : ev Γ (.or a b) ls h = (ev Γ a ls h).bind fun x h1 => (R.ofO h1 (truth h1 x)).bind fun k h1 => if k = true then .ok x h1 else ev Γ b ls h1 := by rw [ev] <;> rfl
@[simp] theorem ev_ite (Γ : Cfg) (c : FE) (a : FE) (b : FE) (ls : Ls) (h : Hs) : ev Γ (.ite c a b) ls h = (ev Γ c ls h).bind fun x h1 => (R.ofO h1 (truth h1 x)).bind fun k h1 => if k = true then ev Γ a ls h1 else ev Γ b ls h1 := by rw [ev] <;> rfl
@[simp] theorem ev_tup (Γ : Cfg) (as : FE) (ls : Ls) (h : Hs) : ev Γ (.tup as) ls h = (evs Γ as ls h).bind fun xs h1 => if xs.length ≤ sizeLine then .ok (.tup xs) h1 else .bad := by rw [ev] <;> rfl
@[simp] theorem ev_lst (Γ : Cfg) (m : Bool) (as : FE) (ls : Ls) (h : Hs) : ev Γ (.lst m as) ls h = (evs Γ as ls h).bind fun xs h1 => if xs.length ≤ sizeLine then newM m h1 xs else .bad := by rw [ev] <;> rfl
@[simp] theorem ev_idx (Γ : Cfg) (a : FE) (i : FE) (ls : Ls) (h : Hs) : ev Γ (.idx a i) ls h = (ev Γ a ls h).bind fun x h1 => (ev Γ i ls h1).bind fun y h2 => idxD x y h2 := by rw [ev] <;> rfl
@[simp] theorem ev_slice (Γ : Cfg) (m : Bool) (a : FE) (lo : FE) (hi : FE) (ls : Ls) (h : Hs) : ev Γ (.slice m a lo hi) ls h = (ev Γ a ls h).bind fun x h1 => (evPart Γ lo ls h1).bind fun l h2 => (evPart Γ hi ls h2).bind fun u h3 => sliceD m x l u h3 := by rw [ev] <;> rfl
@[simp] theorem ev_call (Γ : Cfg) (m : Bool) (f : Str) (as : FE) (ls : Ls) (h : Hs) : ev Γ (.call m f as) ls h = gcX m h ((evs Γ as ls h).bind fun xs h1 => Γ.call f xs h1) := by rw [ev] <;> rfl
@[simp] theorem ev_new (Γ : Cfg) (c : Str) (as : FE) (ls : Ls) (h : Hs) : ev Γ (.new c as) ls h = (evs Γ as ls h).bind fun xs h1 => (Γ.init c (.loc h1.length :: xs) (h1 ++ [.obj c []])).bind fun d h2 => if isNon d = true then .ok (.loc h1.length) h2 else .bad := by rw [ev] <;> rfl
@[simp] theorem ev_meth (Γ : Cfg) (b : Bool) (c m : Str) (o : FE) (as : FE) (ls : Ls) (h : Hs) : ev Γ (.meth b c m o as) ls h = gcX b h ((ev Γ o ls h).bind fun x h1 => if isObj c m h1 x = true then (evs Γ as ls h1).bind fun xs h2 => Γ.call (c ++ "." ++ m) (x :: xs) h2 else .bad) := by rw [ev] <;> rfl
@[simp] theorem ev_attr (Γ : Cfg) (o : FE) (f : Str) (ls : Ls) (h : Hs) : ev Γ (.attr o f) ls h = (ev Γ o ls h).bind fun x h1 => getF Γ.clss x f h1 := by rw [ev] <;> rfl
@[simp] theorem ev_bcall (Γ : Cfg) (m : Bool) (b : Bt) (as : FE) (ls : Ls) (h : Hs) : ev Γ (.bcall m b as) ls h = (evs Γ as ls h).bind fun xs h1 => btD m b xs h1 := by rw [ev] <;> rfl
@[simp] theorem ev_bmeth (Γ : Cfg) (m : Bm) (o : FE) (as : FE) (ls : Ls) (h : Hs) : ev Γ (.bmeth m o as) ls h = (ev Γ o ls h).bind fun x h1 => if isLst h1 x = true then (evs Γ as ls h1).bind fun xs h2 => bmD m x xs h2 else .bad := by rw [ev] <;> rfl
@[simp] theorem ev_rev (Γ : Cfg) (m : Bool) (e : FE) (ls : Ls) (h : Hs) : ev Γ (.rev m e) ls h = (ev Γ e ls h).bind fun x h1 => revD m x h1 := by rw [ev] <;> rfl
@[simp] theorem ev_dupd (Γ : Cfg) (o e : FE) (ls : Ls) (h : Hs) : ev Γ (.dupd o e) ls h = (ev Γ o ls h).bind fun x h1 => if isDict h1 x = true then (ev Γ e ls h1).bind fun y h2 => dupdD x y h2 else .bad := by rw [ev] <;> rfl
@[simp] theorem ev_dget1 (Γ : Cfg) (o k : FE) (ls : Ls) (h : Hs) : ev Γ (.dget1 o k) ls h = (ev Γ o ls h).bind fun x h1 => if (dictD h1 x).isSome = true then (ev Γ k ls h1).bind fun y h2 => dgetD x y .non h2 else .bad := by rw [ev] <;> rfl
@[simp] theorem ev_dget (Γ : Cfg) (o k c : FE) (ls : Ls) (h : Hs) : ev Γ (.dget o k c) ls h = (ev Γ o ls h).bind fun x h1 => if (dictD h1 x).isSome = true then (ev Γ k ls h1).bind fun y h2 => (ev Γ c ls h2).bind fun z h3 => dgetD x y z h3 else .bad := by rw [ev] <;> rfl
@[simp] theorem ev_dsetd (Γ : Cfg) (o k c : FE) (ls : Ls) (h : Hs) : ev Γ (.dsetd o k c) ls h = (ev Γ o ls h).bind fun x h1 => if isDict h1 x = true then (ev Γ k ls h1).bind fun y h2 => (ev Γ c ls h2).bind fun z h3 => dsetdD x y z h3 else .bad := by rw [ev] <;> rfl
@[simp] theorem ev_ddisp (Γ : Cfg) (m : Bool) (as : FE) (ls : Ls) (h : Hs) : ev Γ (.ddisp m as) ls h = (evs Γ as ls h).bind fun xs h1 => match pairsU xs with
    | some kvs => if kvs.length ≤ 15 then newD m h1 (dmerge [] kvs) else .bad
    | none => .bad := by rw [ev] <;> rfl
@[simp] theorem ev_sset (Γ : Cfg) (m : Bool) (e : FE) (ls : Ls) (h : Hs) : ev Γ (.sset m e) ls h = (ev Γ e ls h).bind fun x h1 => match setOf h1 x with
    | some ns => newM m h1 ((setI ns).map .int)
    | none => .bad := by rw [ev] <;> rfl
@[simp] theorem ev_lset (Γ : Cfg) (e : FE) (ls : Ls) (h : Hs) : ev Γ (.lset e) ls h = (ev Γ e ls h).bind fun x h1 => R.ofO h1 ((setOf h1 x).map fun ns => .int (ddI ns).length) := by rw [ev] <;> rfl
theorem setOf_fl (h : Hs) {ns : List Int} (hz : ns.length < 64) : setOf h (.fl (ns.map .int)) = some ns := by
  simp only [setOf, itemsD, lstD, Option.bind_some, ints_map, if_pos hz]
theorem setOf_tup (h : Hs) {ns : List Int} (hz : ns.length < 64) : setOf h (.tup (ns.map .int)) = some ns := by
  simp only [setOf, itemsD, Option.bind_some, ints_map, if_pos hz]
@[simp] theorem ev_comp (Γ : Cfg) (m : Bool) (own : List Nat) (t : FT) (it c e : FE) (ls : Ls) (h : Hs) : ev Γ (.comp m own t it c e) ls h = (evI Γ it ls h).bind fun w h1 => (compL w.2 h1 (cstep Γ own t c e ls) w.1 h1).bind fun ys h2 => if ys.length ≤ sizeLine then newM m h2 ys else .bad := by rw [ev]; rfl
@[simp] theorem ev_dcomp (Γ : Cfg) (m : Bool) (own : List Nat) (t : FT) (it c k v : FE) (ls : Ls) (h : Hs) : ev Γ (.dcomp m own t it c k v) ls h = (evI Γ it ls h).bind fun w h1 => (dcompL w.2 h1 (dstep Γ own t c k v ls) w.1 [] h1).bind fun kvs h2 => newD m h2 kvs := by rw [ev]; rfl
@[simp] theorem ev_T (Γ : Cfg) (c : FE) (ls : Ls) (h : Hs) : evT Γ c ls h = (ev Γ c ls h).bind fun x h1 => R.ofO h1 (truth h1 x) := rfl
@[simp] theorem ev_dnil (Γ : Cfg)  (ls : Ls) (h : Hs) : ev Γ (.dnil) ls h = .ok (.loc h.length) (h ++ [.dict []]) := by rw [ev] <;> rfl
@[simp] theorem ev_svals (Γ : Cfg) (m : Bool) (e : FE) (ls : Ls) (h : Hs) : ev Γ (.svals m e) ls h = (ev Γ e ls h).bind fun x h1 => svalsD m x h1 := by rw [ev] <;> rfl
@[simp] theorem evs_anil (Γ : Cfg)  (ls : Ls) (h : Hs) : evs Γ (.anil) ls h = .ok [] h := by rw [evs] <;> rfl
@[simp] theorem evs_acons (Γ : Cfg) (a : FE) (as : FE) (ls : Ls) (h : Hs) : evs Γ (.acons a as) ls h = (ev Γ a ls h).bind fun x h1 => (evs Γ as ls h1).bind fun xs h2 => .ok (x :: xs) h2 := by rw [evs] <;> rfl
@[simp] theorem evPart_nopart (Γ : Cfg)  (ls : Ls) (h : Hs) : evPart Γ (.nopart) ls h = .ok none h := by rw [evPart] <;> rfl
@[simp] theorem evPart_part (Γ : Cfg) (e : FE) (ls : Ls) (h : Hs) : evPart Γ (.part e) ls h = (ev Γ e ls h).bind fun x h1 => match x with
    | .int i => .ok (some i) h1
    | _ => .bad := by rw [evPart] <;> rfl
@[simp] theorem evI_iseq (Γ : Cfg) (e : FE) (ls : Ls) (h : Hs) : evI Γ (.iseq e) ls h = (ev Γ e ls h).bind fun x h1 => R.ofO h1 ((itemsK h1 x).map fun xs => (xs, placeD x)) := by rw [evI] <;> rfl
@[simp] theorem itemsK_tup (h : Hs) (xs : List D) : itemsK h (.tup xs) = some xs := rfl
@[simp] theorem itemsK_fl (h : Hs) (xs : List D) : itemsK h (.fl xs) = some xs := rfl
@[simp] theorem itemsK_fd (h : Hs) (ks vs : List D) : itemsK h (.fd ks vs) = some ks := rfl
@[simp] theorem itemsK_loc (h : Hs) (n : Nat) : itemsK h (.loc n) = itemsD h (.loc n) := rfl
theorem itemsK_of {h : Hs} {d : D} {xs : List D} (e : itemsD h d = some xs) : itemsK h d = some xs := by
  cases d <;> first | exact e | cases e
@[simp] theorem evI_irange (Γ : Cfg) (as : FE) (ls : Ls) (h : Hs) : evI Γ (.irange as) ls h = (evs Γ as ls h).bind fun xs h1 => match xs with
    | [.int j] => if small j then .ok (rangeD 0 j, []) h1 else .bad
    | [.int i, .int j] => if small i ∧ small j then .ok (rangeD i j, []) h1 else .bad
    | _ => .bad := by rw [evI] <;> rfl
@[simp] theorem evI_ienum (Γ : Cfg) (as : FE) (ls : Ls) (h : Hs) : evI Γ (.ienum as) ls h = (evs Γ as ls h).bind fun vs h1 => enumI vs h1 := by rw [evI] <;> rfl
@[simp] theorem evI_izip (Γ : Cfg) (as : FE) (ls : Ls) (h : Hs) : evI Γ (.izip as) ls h = (evs Γ as ls h).bind fun vs h1 => zipI vs h1 := by rw [evI] <;> rfl
@[simp] theorem evS_pass (Γ : Cfg)  (ls : Ls) (h : Hs) : evS Γ (.pass) ls h = .nx ls h := by rw [evS] <;> rfl
@[simp] theorem evS_brk (Γ : Cfg)  (ls : Ls) (h : Hs) : evS Γ (.brk) ls h = .bk ls h := by rw [evS] <;> rfl
@[simp] theorem evS_cont (Γ : Cfg)  (ls : Ls) (h : Hs) : evS Γ (.cont) ls h = .ct ls h := by rw [evS] <;> rfl
@[simp] theorem evS_expr (Γ : Cfg) (e : FE) (ls : Ls) (h : Hs) : evS Γ (.expr e) ls h = (ev Γ e ls h).andS ls fun _ h1 => .nx ls h1 := by rw [evS] <;> rfl
@[simp] theorem evS_asg (Γ : Cfg) (g : FG) (e : FE) (ls : Ls) (h : Hs) : evS Γ (.asg g e) ls h = (ev Γ e ls h).andS ls fun d h1 => asgG Γ g d ls h1 := by rw [evS] <;> rfl
@[simp] theorem evS_par (Γ : Cfg) (i : Nat) (j : Nat) (a : FE) (b : FE) (ls : Ls) (h : Hs) : evS Γ (.par i j a b) ls h = (ev Γ a ls h).andS ls fun x h1 => (ev Γ b ls h1).andS ls fun y h2 => if i < ls.length ∧ j < ls.length then .nx ((ls.set i (some x)).set j (some y)) h2 else .bad := by rw [evS] <;> rfl
@[simp] theorem evS_aug (Γ : Cfg) (i : Nat) (op : Operator) (e : FE) (ls : Ls) (h : Hs) : evS Γ (.aug i op e) ls h = match ls[i]? with
    | some (some x) => (ev Γ e ls h).andS ls fun y h1 => augRes op x y ls i h1
    | _ => .bad := by rw [evS] <;> rfl
@[simp] theorem evS_ret (Γ : Cfg) (e : FE) (ls : Ls) (h : Hs) : evS Γ (.ret e) ls h = (ev Γ e ls h).andS ls fun d h1 => .rt d h1 := by rw [evS] <;> rfl
@[simp] theorem evS_retN (Γ : Cfg)  (ls : Ls) (h : Hs) : evS Γ (.retN) ls h = .rt .non h := by rw [evS] <;> rfl
@[simp] theorem evS_ite (Γ : Cfg) (c : FE) (a : FS) (b : FS) (ls : Ls) (h : Hs) : evS Γ (.ite c a b) ls h = (evT Γ c ls h).andS ls fun k h1 => if k = true then evS Γ a ls h1 else evS Γ b ls h1 := by rw [evS] <;> rfl
@[simp] theorem evS_raise (Γ : Cfg) (c : Str) (as : FE) (ls : Ls) (h : Hs) : evS Γ (.raise c as) ls h = (evs Γ as ls h).andS ls fun vs h1 => raiseR c vs ls h1 := by rw [evS] <;> rfl
@[simp] theorem evS_try_ (Γ : Cfg) (body : FS) (c : Str) (i : Nat) (z0 : FX) (ls : Ls) (h : Hs) : evS Γ (.try_ body c i z0) ls h = catchR c i (evS Γ body ls h) := by rw [evS] <;> rfl
@[simp] theorem evS_snil (Γ : Cfg)  (ls : Ls) (h : Hs) : evS Γ (.snil) ls h = .nx ls h := by rw [evS] <;> rfl
@[simp] theorem evS_scons (Γ : Cfg) (s : FS) (ss : FS) (ls : Ls) (h : Hs) : evS Γ (.scons s ss) ls h = (evS Γ s ls h).andN fun ls1 h1 => evS Γ ss ls1 h1 := by rw [evS] <;> rfl
@[simp] theorem asgG_tgt (Γ : Cfg) (t : FT) (d : D) (ls : Ls) (h : Hs) : asgG Γ (.tgt t) d ls h = match asgT t d ls with
    | some ls1 => .nx ls1 h
    | none => .bad := rfl
@[simp] theorem asgG_sub (Γ : Cfg) (o i : FE) (d : D) (ls : Ls) (h : Hs) : asgG Γ (.sub o i) d ls h = (ev Γ o ls h).andS ls fun x h1 => (ev Γ i ls h1).andS ls fun y h2 => (setIdx x y d h2).andS ls fun _ h3 => .nx ls h3 := rfl
@[simp] theorem asgG_attr (Γ : Cfg) (o : FE) (f : Str) (d : D) (ls : Ls) (h : Hs) : asgG Γ (.attr o f) d ls h = (ev Γ o ls h).andS ls fun x h1 => (setF Γ.clss x f d h1).andS ls fun _ h2 => .nx ls h2 := rfl
@[simp] theorem asgG_atup (Γ : Cfg) (o : FE) (fs : List Str) (xs : List D) (ls : Ls) (h : Hs) : asgG Γ (.atup o fs) (.tup xs) ls h = if xs.length = fs.length then (asgA Γ o ls fs xs h).andS ls fun _ h1 => .nx ls h1 else .bad := rfl
@[simp] theorem asgA_nil (Γ : Cfg) (o : FE) (ls : Ls) (h : Hs) : asgA Γ o ls [] [] h = .ok () h := rfl
@[simp] theorem asgA_cons (Γ : Cfg) (o : FE) (ls : Ls) (f : Str) (fs : List Str) (d : D) (ds : List D) (h : Hs) : asgA Γ o ls (f :: fs) (d :: ds) h = (ev Γ o ls h).bind fun x h1 => (setF Γ.clss x f d h1).bind fun _ h2 => asgA Γ o ls fs ds h2 := rfl
@[simp] theorem asgT_name (i : Nat) (d : D) (ls : Ls) : asgT (.name i) d ls = if i < ls.length then some (ls.set i (some d)) else none := by rw [asgT]
@[simp] theorem asgT_tup (ts : FT) (xs : List D) (ls : Ls) : asgT (.tup ts) (.tup xs) ls = asgTs ts xs ls := by rw [asgT]
@[simp] theorem asgTs_nil (ls : Ls) : asgTs .tnil [] ls = some ls := by rw [asgTs]
@[simp] theorem asgTs_cons (t ts : FT) (x : D) (xs : List D) (ls : Ls) : asgTs (.tcons t ts) (x :: xs) ls = (asgT t x ls).bind fun ls' => asgTs ts xs ls' := by rw [asgTs]
theorem evS_for (Γ : Cfg) (t : FT) (it : FE) (body : FS) (fg : List Nat) (ls : Ls) (h : Hs) : evS Γ (.for_ t it body fg) ls h = (evI Γ it ls h).andS ls fun w h1 => forL fg w.2 h1 (fun x ls1 h2 => match asgT t x ls1 with
      | some ls2 => evS Γ body ls2 h2
      | none => .bad) w.1 ls h1 := by rw [evS] <;> rfl
@[simp] theorem cfg_call (P : Prog) (k : Nat) : (P.cfg k).call = P.call k := by cases P; rfl
theorem cfg_glob (P : Prog) (k : Nat) : (P.cfg k).glob = fun x => List.lookup x P.glob := rfl
@[simp] theorem cfg_init (P : Prog) (k : Nat) (c : Str) : (P.cfg (k + 1)).init c = P.call k (c ++ ".__init__") := by cases P; rfl
@[simp] theorem cfg_clss (P : Prog) (k : Nat) : (P.cfg k).clss = P.clss := rfl
theorem call_eq {P : Prog} {k : Nat} {f : Str} {d : FDef} {vs : List D} {h : Hs} (hl : List.lookup f P.defs = some d) (hn : vs.length = d.np) : P.call (k + 1) f vs h = (evS (P.cfg k) d.body (startL d.np d.nn vs) h).call := by
  rw [Prog.call_succ]
  simp only [hl, if_pos hn]
/-! ### one turn of a for -/
noncomputable def stp (Γ : Cfg) (t : FT) (b : FS) (x : D) (ls : Ls) (h : Hs) : RS := match asgT t x ls with
  | some ls2 => evS Γ b ls2 h
  | none => .bad
theorem stp_def (Γ : Cfg) (t : FT) (b : FS) (x : D) (ls : Ls) (h : Hs) : stp Γ t b x ls h = match asgT t x ls with
  | some ls2 => evS Γ b ls2 h
  | none => .bad := rfl
@[simp] theorem ev_for (Γ : Cfg) (t : FT) (it : FE) (body : FS) (fg : List Nat) (ls : Ls) (h : Hs) : evS Γ (.for_ t it body fg) ls h = (evI Γ it ls h).andS ls fun w h1 => forL fg w.2 h1 (stp Γ t body) w.1 ls h1 := by rw [evS]; rfl
@[simp] theorem same_nil (h h' : Hs) : same [] h h' = True := by unfold same; simp
theorem same_t (h h' : Hs) : same [] h h' := by simp
/-- a for by an invariant; it may return -/
theorem for_inv {fg ns : List Nat} {h0 : Hs} {step : D → Ls → Hs → RS} {α : Type} {en : α → D} (I : List α → Ls → Hs → Prop) (Q : D → Hs → Prop) : ∀ {xs ds : List α} {ls : Ls} {h : Hs}, I ds ls h →
    (∀ x es rest ls h, I es ls h → ds ++ xs = es ++ x :: rest → (∃ ls1 h1, (step (en x) ls h = .nx ls1 h1 ∨ step (en x) ls h = .ct ls1 h1) ∧ same ns h0 h1 ∧ I (es ++ [x]) (wipe ls1 fg) h1) ∨ ∃ d h1, step (en x) ls h = .rt d h1 ∧ Q d h1) →
    (∃ ls1 h1, forL fg ns h0 step (xs.map en) ls h = .nx ls1 h1 ∧ I (ds ++ xs) ls1 h1) ∨ ∃ d h1, forL fg ns h0 step (xs.map en) ls h = .rt d h1 ∧ Q d h1
  | [], ds, ls, h, hI, _ => .inl ⟨ls, h, by rw [List.map_nil, forL], by simpa using hI⟩
  | x :: xs, ds, ls, h, hI, hs => by
    rcases hs x ds xs ls h hI rfl with ⟨ls1, h1, e, sm, hI2⟩ | ⟨d, h1, e, q⟩
    · rcases for_inv I Q (xs := xs) hI2 fun y es rest ls h hI hy => hs y es rest ls h hI (by simpa using hy) with ⟨ls2, h2, e2, i2⟩ | ⟨d, h2, e2, q2⟩
      · refine .inl ⟨ls2, h2, ?_, by simpa using i2⟩
        rw [List.map_cons, forL]
        rcases e with e | e <;> rw [e] <;> simp only [turnEnd_nx, turnEnd_ct] <;> rw [if_pos sm, e2]
      · refine .inr ⟨d, h2, ?_, q2⟩
        rw [List.map_cons, forL]
        rcases e with e | e <;> rw [e] <;> simp only [turnEnd_nx, turnEnd_ct] <;> rw [if_pos sm, e2]
    · exact .inr ⟨d, h1, by rw [List.map_cons, forL, e]; rfl, q⟩
/-- .. that never returns -/
theorem for_inv' {fg ns : List Nat} {h0 : Hs} {step : D → Ls → Hs → RS} {α : Type} {en : α → D} (I : List α → Ls → Hs → Prop) {xs : List α} {ls : Ls} {h : Hs} (hI : I [] ls h)
    (hs : ∀ x ds rest ls h, I ds ls h → xs = ds ++ x :: rest → ∃ ls1 h1, step (en x) ls h = .nx ls1 h1 ∧ same ns h0 h1 ∧ I (ds ++ [x]) (wipe ls1 fg) h1) :
    ∃ ls1 h1, forL fg ns h0 step (xs.map en) ls h = .nx ls1 h1 ∧ I xs ls1 h1 := by
  rcases for_inv I (fun _ _ => False) hI fun x ds rest ls h hI hx => let ⟨ls1, h1, e, s, i⟩ := hs x ds rest ls h hI hx; .inl ⟨ls1, h1, .inl e, s, i⟩ with h | ⟨_, _, _, q⟩
  · exact h
  · exact q.elim
/-- a for that folds -/
theorem for_fold {fg ns : List Nat} {h0 : Hs} {step : D → Ls → Hs → RS} {α σ : Type} {en : α → D} (L : σ → Ls) (G : σ → Hs) (F : σ → α → σ) : ∀ {xs : List α} {s : σ},
    (∀ x s, x ∈ xs → ∃ ls1, step (en x) (L s) (G s) = .nx ls1 (G (F s x)) ∧ same ns h0 (G (F s x)) ∧ wipe ls1 fg = L (F s x)) →
    forL fg ns h0 step (xs.map en) (L s) (G s) = .nx (L (xs.foldl F s)) (G (xs.foldl F s))
  | [], s, _ => by rw [List.map_nil, forL]; rfl
  | x :: xs, s, hs => by
    obtain ⟨ls1, e, sm, w⟩ := hs x s (by simp)
    rw [List.map_cons, forL, e, turnEnd_nx, if_pos sm, w, for_fold L G F fun y s hy => hs y s (by simp [hy])]
    rfl
/-- a comprehension with effects -/
theorem comp_inv {ns : List Nat} {h0 : Hs} {step : D → Hs → R (Option D)} {α : Type} {en : α → D} (I : List α → List D → Hs → Prop) : ∀ {xs ds : List α} {acc : List D} {h : Hs}, I ds acc h →
    (∀ x es rest acc h, I es acc h → ds ++ xs = es ++ x :: rest → ∃ y h1, step (en x) h = .ok y h1 ∧ same ns h0 h1 ∧ I (es ++ [x]) (acc ++ y.toList) h1) →
    ∃ ys h1, compL ns h0 step (xs.map en) h = .ok ys h1 ∧ I (ds ++ xs) (acc ++ ys) h1
  | [], ds, acc, h, hI, _ => ⟨[], h, by rw [List.map_nil, compL], by simpa using hI⟩
  | x :: xs, ds, acc, h, hI, hs => by
    obtain ⟨y, h1, e, sm, i1⟩ := hs x ds xs acc h hI rfl
    obtain ⟨ys, h2, e2, i2⟩ := comp_inv I (xs := xs) i1 fun z es rest acc h hI hz => hs z es rest acc h hI (by simpa using hz)
    refine ⟨y.toList ++ ys, h2, ?_, by simpa using i2⟩
    rw [List.map_cons, compL, e, R.must_ok, if_pos sm, e2, R.must_ok]
    cases y <;> rfl
/-- a for that looks for one -/
theorem for_find {fg ns : List Nat} {h : Hs} {step : D → Ls → Hs → RS} {α : Type} {en : α → D} (p : α → Bool) (r : α → D) {ls : Ls} : ∀ {xs : List α},
    (∀ x ∈ xs, p x = false → ∃ ls1, step (en x) ls h = .nx ls1 h ∧ wipe ls1 fg = ls) → (∀ x ∈ xs, p x = true → step (en x) ls h = .rt (r x) h) →
    forL fg ns h step (xs.map en) ls h = match xs.find? p with
      | some x => .rt (r x) h
      | none => .nx ls h
  | [], _, _ => by rw [List.map_nil, forL]; rfl
  | x :: xs, h1, h2 => by
    rw [List.map_cons, forL, List.find?_cons]
    cases e : p x with
    | true => rw [h2 x (by simp) e]; rfl
    | false =>
      obtain ⟨ls1, e1, w⟩ := h1 x (by simp) e
      rw [e1, turnEnd_nx, w, if_pos (same_refl ns h), for_find p r (fun y hy => h1 y (by simp [hy])) fun y hy => h2 y (by simp [hy])]
theorem enumFrom_map {α : Type} (en : α → D) : ∀ (xs : List α) (m : Nat), enumFrom m (xs.map en) = (xs.zipIdx m).map fun p => .tup [.int p.2, en p.1]
  | [], _ => rfl
  | x :: xs, m => by rw [List.map_cons, enumFrom, List.zipIdx_cons, List.map_cons, enumFrom_map en xs]
theorem zipD_map {α β : Type} (f : α → D) (g : β → D) : ∀ (xs : List α) (ys : List β), zipD (xs.map f) (ys.map g) = (xs.zip ys).map fun p => .tup [f p.1, g p.2]
  | [], _ => by simp [zipD]
  | _ :: _, [] => by simp [zipD]
  | x :: xs, y :: ys => by simp only [List.map_cons, zipD, List.zip_cons_cons, zipD_map f g xs ys]
theorem rangeD_nat (n : Nat) : rangeD 0 (n : Int) = (List.range n).map fun k => D.int (k : Nat) := by
  unfold rangeD
  rw [show ((n : Int) - 0).toNat = n by omega]
  simp
theorem cut_map {α : Type} (f : α → D) (xs : List α) (lo hi : Option Int) : cut (xs.map f) lo hi = (cut xs lo hi).map f := by
  unfold cut; simp
/-- a for whose state is a function of the items done -/
theorem for_fn {fg ns : List Nat} {h0 : Hs} {step : D → Ls → Hs → RS} {α : Type} {en : α → D} (L : List α → Ls) (G : List α → Hs) : ∀ (ds xs : List α),
    (∀ es x rest, ds ++ xs = es ++ x :: rest → ∃ ls1, step (en x) (L es) (G es) = .nx ls1 (G (es ++ [x])) ∧ same ns h0 (G (es ++ [x])) ∧ wipe ls1 fg = L (es ++ [x])) →
    forL fg ns h0 step (xs.map en) (L ds) (G ds) = .nx (L (ds ++ xs)) (G (ds ++ xs))
  | ds, [], _ => by rw [List.map_nil, forL]; simp
  | ds, x :: xs, hs => by
    obtain ⟨ls1, e, sm, w⟩ := hs ds x xs rfl
    rw [List.map_cons, forL, e, turnEnd_nx, if_pos sm, w, for_fn L G (ds ++ [x]) xs fun es y rest ey => hs es y rest (by simpa using ey)]
    simp
theorem for_fn0 {fg ns : List Nat} {h0 h : Hs} {step : D → Ls → Hs → RS} {α : Type} {en : α → D} (L : List α → Ls) (G : List α → Hs) {ls : Ls} {xs : List α} (e1 : ls = L []) (e2 : h = G [])
    (hs : ∀ es x rest, xs = es ++ x :: rest → ∃ ls1, step (en x) (L es) (G es) = .nx ls1 (G (es ++ [x])) ∧ same ns h0 (G (es ++ [x])) ∧ wipe ls1 fg = L (es ++ [x])) :
    forL fg ns h0 step (xs.map en) ls h = .nx (L xs) (G xs) := by
  subst e1; subst e2
  exact for_fn L G [] xs hs
/-! ### a list that grows -/
@[simp] theorem get_mid (h g : Hs) (c : Cell) : (h ++ c :: g)[h.length]? = some c := by simp
@[simp] theorem set_mid (h g : Hs) (c c' : Cell) : (h ++ c :: g).set h.length c' = h ++ c' :: g := by simp
@[simp] theorem lstAt_mid (h g : Hs) (xs : List D) : lstAt (h ++ .lst xs :: g) h.length = some xs := lstAt_of (get_mid h g _)
theorem isLst_of {h : Hs} {n : Nat} {xs : List D} (e : h[n]? = some (.lst xs)) : isLst h (.loc n) = true := by show (mlstAt h n).isSome = true; rw [mlstAt_of e]; rfl
@[simp] theorem isLst_mid (h g : Hs) (xs : List D) : isLst (h ++ .lst xs :: g) (.loc h.length) = true := isLst_of (get_mid h g _)
theorem append_at {h : Hs} {n : Nat} {xs : List D} {d : D} (e : h[n]? = some (.lst xs)) (hz : xs.length < sizeLine) : bmD .append (.loc n) [d] h = .ok .non (h.set n (.lst (xs ++ [d]))) := by
  unfold bmD
  simp only [e]
  rw [if_pos hz]
theorem extend_at {h : Hs} {n : Nat} {xs ys : List D} {d : D} (e : h[n]? = some (.lst xs)) (e2 : mlstD h d = some ys) (hz : xs.length + ys.length ≤ sizeLine) : bmD .extend (.loc n) [d] h = .ok .non (h.set n (.lst (xs ++ ys))) := by
  unfold bmD
  simp only [e, e2]
  rw [if_pos hz]
@[simp] theorem append_mid (h g : Hs) (xs : List D) (d : D) : bmD .append (.loc h.length) [d] (h ++ .lst xs :: g) = if xs.length < sizeLine then .ok .non (h ++ .lst (xs ++ [d]) :: g) else .bad := by
  split
  · rename_i hz; rw [append_at (get_mid h g _) hz, set_mid]
  · rename_i hz
    unfold bmD
    simp only [get_mid, if_neg hz]
@[simp] theorem extend_mid (h g : Hs) (xs ys : List D) : bmD .extend (.loc h.length) [.fl ys] (h ++ .lst xs :: g) = if xs.length + ys.length ≤ sizeLine then .ok .non (h ++ .lst (xs ++ ys) :: g) else .bad := by
  split
  · rename_i hz; rw [extend_at (get_mid h g _) rfl hz, set_mid]
  · rename_i hz
    unfold bmD
    simp only [get_mid, mlstD, if_neg hz]
@[simp] theorem cmp_in (h : Hs) (a b : D) : cmpD .In h a b = inD h a b := rfl
@[simp] theorem cmp_nin (h : Hs) (a b : D) : cmpD .NotIn h a b = (inD h a b).map (!·) := rfl
@[simp] theorem cmp_is (h : Hs) (a : D) : cmpD .Is h a .non = some (isNon a) := rfl
@[simp] theorem cmp_isnot (h : Hs) (a : D) : cmpD .IsNot h a .non = some (!isNon a) := rfl
@[simp] theorem neg_int (i : Int) (h : Hs) : negD (.int i) h = .ok (.int (-i)) h := rfl
@[simp] theorem slice_tup (m : Bool) (xs : List D) (lo hi : Option Int) (h : Hs) : sliceD m (.tup xs) lo hi h = .ok (.tup (cut xs lo hi)) h := rfl
@[simp] theorem slice_fl (m : Bool) (xs : List D) (lo hi : Option Int) (h : Hs) : sliceD m (.fl xs) lo hi h = newM m h (cut xs lo hi) := rfl
@[simp] theorem rev_fl (m : Bool) (xs : List D) (h : Hs) : revD m (.fl xs) h = newM m h xs.reverse := rfl
@[simp] theorem items_tup (h : Hs) (xs : List D) : itemsD h (.tup xs) = some xs := rfl
@[simp] theorem items_fl (h : Hs) (xs : List D) : itemsD h (.fl xs) = some xs := rfl
theorem items_loc {h : Hs} {n : Nat} {xs : List D} (e : lstAt h n = some xs) : itemsD h (.loc n) = some xs := e
@[simp] theorem place_tup (xs : List D) : placeD (.tup xs) = [] := rfl
@[simp] theorem place_fl (xs : List D) : placeD (.fl xs) = [] := rfl
@[simp] theorem place_loc (n : Nat) : placeD (.loc n) = [n] := rfl
@[simp] theorem truth_tup (h : Hs) (xs : List D) : truth h (.tup xs) = some (!xs.isEmpty) := rfl
@[simp] theorem truth_fl (h : Hs) (xs : List D) : truth h (.fl xs) = some (!xs.isEmpty) := rfl
@[simp] theorem truth_non (h : Hs) : truth h .non = some false := rfl
@[simp] theorem truth_int (h : Hs) (i : Int) : truth h (.int i) = some (i != 0) := rfl
theorem cut_take {α : Type} (xs : List α) (n : Nat) : cut xs none (some (n : Int)) = xs.take n := by
  unfold cut
  rw [HT.sIx_none, HT.sIx_nat]
  simp only [List.drop_zero, Nat.sub_zero]
  by_cases h : n ≤ xs.length
  · rw [Nat.min_eq_left h]
  · rw [Nat.min_eq_right (by omega), List.take_of_length_le (Nat.le_refl _), List.take_of_length_le (by omega)]
theorem cut_drop {α : Type} (xs : List α) (n : Nat) : cut xs (some (n : Int)) none = xs.drop n := by
  unfold cut
  rw [HT.sIx_none, HT.sIx_nat]
  by_cases h : n ≤ xs.length
  · rw [Nat.min_eq_left h]
    exact List.take_of_length_le (by simp)
  · rw [Nat.min_eq_right (by omega), List.drop_of_length_le (Nat.le_refl _), List.drop_of_length_le (by omega)]
    simp
theorem cut_drop1 {α : Type} (xs : List α) (n : Nat) : cut xs (some ((n : Int) + 1)) none = xs.drop (n + 1) := cut_drop xs (n + 1)
theorem lstAt_at {H A B : Hs} {i : Nat} {xs : List D} (e : H = A ++ .lst xs :: B) (hi : i = A.length) : lstAt H i = some xs := by subst e; subst hi; exact lstAt_mid A B xs
theorem truth_loc {h : Hs} {n : Nat} {xs : List D} (e : lstAt h n = some xs) : truth h (.loc n) = some (!xs.isEmpty) := by
  show (match lstAt h n with
    | some xs => some (!xs.isEmpty)
    | none => match mdictAt h n with
      | some kvs => some (!kvs.isEmpty)
      | none => none) = _
  rw [e]
/-! ### equal data, by type -/
structure Eqq {α : Type} [DecidableEq α] (f : α → D) where
  P : α → PyData
  dep : Nat
  py : ∀ lk x, D.pyW lk (f x) = some (P x)
  lay : ∀ x, (P x).canLay0 = true
  deep : ∀ x, (P x).depth ≤ dep
  eqv : ∀ x y, PyData.eqv (P x) (P y) = decide (x = y)
def Eqq.int : Eqq D.int := ⟨.int, 0, fun _ _ => by rw [D.pyW], fun _ => by rw [PyData.canLay0], fun _ => by simp [PyData.depth], fun x y => by simp only [PyData.eqv]; rw [Bool.eq_iff_iff]; simp⟩
def Eqq.bl : Eqq D.bl := ⟨.bool, 0, fun _ _ => by rw [D.pyW], fun _ => by rw [PyData.canLay0], fun _ => by simp [PyData.depth], fun x y => by simp only [PyData.eqv]; rw [Bool.eq_iff_iff]; simp⟩
section
variable {α β : Type} [DecidableEq α] [DecidableEq β] {f : α → D} {g : β → D}
theorem Eqq.pyL (E : Eqq f) (lk : Nat → Option PyData) : ∀ xs : List α, D.pyWL lk (xs.map f) = some (xs.map E.P)
  | [] => by rw [List.map_nil, D.pyWL]; rfl
  | x :: xs => by rw [List.map_cons, D.pyWL, E.py, E.pyL lk xs]; rfl
theorem Eqq.layL (E : Eqq f) : ∀ xs : List α, PyData.canLayAll0 (xs.map E.P) = true
  | [] => by rw [List.map_nil, PyData.canLayAll0]
  | x :: xs => by rw [List.map_cons, PyData.canLayAll0, E.lay, E.layL xs]; rfl
theorem Eqq.deepL (E : Eqq f) : ∀ xs : List α, PyData.depthAll (xs.map E.P) ≤ E.dep
  | [] => by rw [List.map_nil, PyData.depthAll]; omega
  | x :: xs => by
    rw [List.map_cons, PyData.depthAll]
    exact Nat.max_le.mpr ⟨E.deep x, E.deepL xs⟩
theorem Eqq.eqvL (E : Eqq f) : ∀ xs ys : List α, PyData.eqvAll (xs.map E.P) (ys.map E.P) = decide (xs = ys)
  | [], [] => by simp only [List.map_nil, PyData.eqvAll, decide_true]
  | [], _ :: _ => by simp [PyData.eqvAll]
  | _ :: _, [] => by simp [PyData.eqvAll]
  | x :: xs, y :: ys => by
    rw [List.map_cons, List.map_cons, PyData.eqvAll, E.eqv x y, E.eqvL xs ys, ← Bool.decide_and]
    exact decide_eq_decide.mpr (by rw [List.cons.injEq])
def Eqq.tup (E : Eqq f) : Eqq (fun xs : List α => D.tup (xs.map f)) := ⟨fun xs => .tuple (xs.map E.P), E.dep + 1, fun lk xs => by rw [D.pyW, E.pyL]; rfl, fun xs => by simp only [PyData.canLay0]; exact E.layL xs, fun xs => by simp only [PyData.depth]; exact Nat.succ_le_succ (E.deepL xs), fun xs ys => by simp only [PyData.eqv]; exact E.eqvL xs ys⟩
def Eqq.pair (E : Eqq f) (F : Eqq g) : Eqq (fun p : α × β => D.tup [f p.1, g p.2]) := ⟨fun p => .tuple [E.P p.1, F.P p.2], max E.dep F.dep + 1, fun lk p => by rw [D.pyW, D.pyWL, D.pyWL, D.pyWL, E.py, F.py]; rfl, fun p => by simp only [PyData.canLay0, PyData.canLayAll0, E.lay, F.lay, Bool.and_self], fun p => by
    simp only [PyData.depth, PyData.depthAll]
    have h1 := E.deep p.1
    have h2 := F.deep p.2
    omega, fun p q => by
    simp only [PyData.eqv, PyData.eqvAll]
    rw [E.eqv, F.eqv, Bool.and_true, ← Bool.decide_and]
    exact decide_eq_decide.mpr ⟨fun e => Prod.ext e.1 e.2, fun e => by rw [e]; exact ⟨rfl, rfl⟩⟩⟩
theorem shaped_of {p : PyData} (hl : p.canLay0 = true) (hd : p.depth ≤ 64) : SeqAt.shaped p = true := by
  unfold SeqAt.shaped; rw [hl, decide_eq_true hd]; rfl
theorem Eqq.eq (E : Eqq f) (hd : E.dep ≤ 64) (h : Hs) (x y : α) : eqD h (f x) (f y) = some (decide (x = y)) := by
  simp only [eqD, D.py, E.py]
  rw [if_pos ⟨shaped_of (E.lay x) (Nat.le_trans (E.deep x) hd), shaped_of (E.lay y) (Nat.le_trans (E.deep y) hd)⟩, E.eqv]
theorem anyEqv (E : Eqq f) (x : α) : ∀ xs : List α, ((xs.map E.P).any fun y => PyData.eqv y (E.P x)) = decide (x ∈ xs)
  | [] => by simp
  | y :: ys => by
    rw [List.map_cons, List.any_cons, anyEqv E x ys, E.eqv, ← Bool.decide_or]
    exact decide_eq_decide.mpr (by rw [List.mem_cons]; exact ⟨fun h => h.imp Eq.symm id, fun h => h.imp Eq.symm id⟩)
theorem Eqq.inL (E : Eqq f) (hd : E.dep < 64) (h : Hs) (x : α) (xs : List α) : inL h (f x) (xs.map f) = some (decide (x ∈ xs)) := by
  simp only [FL.inL, D.py, FL.pyL, E.py, E.pyL]
  rw [if_pos ⟨shaped_of (E.lay x) (by have := E.deep x; omega), shaped_of (by simp only [PyData.canLay0]; exact E.layL xs) (by simp only [PyData.depth]; have := E.deepL xs; omega)⟩, anyEqv]
theorem Eqq.in_tup (E : Eqq f) (hd : E.dep < 64) (h : Hs) (x : α) (xs : List α) : inD h (f x) (.tup (xs.map f)) = some (decide (x ∈ xs)) := E.inL hd h x xs
theorem Eqq.in_loc (E : Eqq f) (hd : E.dep < 64) {h : Hs} {n : Nat} (x : α) {xs : List α} (e : lstAt h n = some (xs.map f)) : inD h (f x) (.loc n) = some (decide (x ∈ xs)) := by
  simp only [inD, inG, lstD, e]; exact E.inL hd h x xs
theorem Eqq.in_fl (E : Eqq f) (hd : E.dep < 64) (h : Hs) (x : α) (xs : List α) : inD h (f x) (.fl (xs.map f)) = some (decide (x ∈ xs)) := E.inL hd h x xs
theorem py_list (E : Eqq f) {h : Hs} {n : Nat} {xs : List α} (e : lstAt h n = some (xs.map f)) : D.py h (.loc n) = some (.list (xs.map E.P)) := by
  have e2 : (match h[n]? with
    | some (.lst xs) => (D.pyWL (lkL h 7) xs).map PyData.list
    | some (.flst xs) => (D.pyWL (lkL h 7) xs).map PyData.list
    | _ => none) = some (.list (xs.map E.P)) := by
    unfold lstAt at e
    split at e <;> cases e <;> simp only [*, E.pyL] <;> rfl
  rw [D.py, D.pyW]; exact e2
theorem Eqq.eq_loc (E : Eqq f) (hd : E.dep < 64) {h : Hs} {m n : Nat} {xs ys : List α} (e1 : lstAt h m = some (xs.map f)) (e2 : lstAt h n = some (ys.map f)) : eqD h (.loc m) (.loc n) = some (decide (xs = ys)) := by
  simp only [eqD, py_list E e1, py_list E e2]
  rw [if_pos ⟨shaped_of (by simp only [PyData.canLay0]; exact E.layL xs) (by simp only [PyData.depth]; have := E.deepL xs; omega), shaped_of (by simp only [PyData.canLay0]; exact E.layL ys) (by simp only [PyData.depth]; have := E.deepL ys; omega)⟩]
  simp only [PyData.eqv, E.eqvL]
def Eqq.fl (E : Eqq f) : Eqq (fun xs : List α => D.fl (xs.map f)) := ⟨fun xs => .list (xs.map E.P), E.dep + 1, fun lk xs => by rw [D.pyW, E.pyL]; rfl, fun xs => by simp only [PyData.canLay0]; exact E.layL xs, fun xs => by simp only [PyData.depth]; exact Nat.succ_le_succ (E.deepL xs), fun xs ys => by simp only [PyData.eqv]; exact E.eqvL xs ys⟩
end
/-! ### a heap that grows -/
theorem lstAt_app {h g : Hs} {n : Nat} (hn : n < h.length) : lstAt (h ++ g) n = lstAt h n := by unfold lstAt; rw [List.getElem?_append_left hn]
theorem lt_of_lstAt {h : Hs} {n : Nat} {xs : List D} (e : lstAt h n = some xs) : n < h.length := by
  unfold lstAt at e
  by_cases hn : n < h.length
  · exact hn
  · rw [List.getElem?_eq_none (by omega)] at e; cases e
theorem lstAt_grow {h g : Hs} {n : Nat} {xs : List D} (e : lstAt h n = some xs) : lstAt (h ++ g) n = some xs := by rw [lstAt_app (lt_of_lstAt e), e]
/-- a for that may stop -/
theorem for_stop {fg ns : List Nat} {h : Hs} {step : D → Ls → Hs → RS} {α : Type} {en : α → D} (p : α → Option RS) {ls : Ls} : ∀ {xs : List α},
    (∀ x r, p x = some r → ∀ f, turnEnd fg r f = r) → (∀ x ∈ xs, p x = none → ∃ ls1, step (en x) ls h = .nx ls1 h ∧ wipe ls1 fg = ls) → (∀ x ∈ xs, ∀ r, p x = some r → step (en x) ls h = r) →
    forL fg ns h step (xs.map en) ls h = (xs.findSome? p).getD (.nx ls h)
  | [], _, _, _ => by rw [List.map_nil, forL]; rfl
  | x :: xs, h0, h1, h2 => by
    rw [List.map_cons, forL, List.findSome?_cons]
    cases e : p x with
    | some r => rw [h2 x (by simp) r e, h0 x r e]; rfl
    | none =>
      obtain ⟨ls1, e1, w⟩ := h1 x (by simp) e
      rw [e1, turnEnd_nx, w, if_pos (same_refl ns h), for_stop p h0 (fun y hy => h1 y (by simp [hy])) fun y hy => h2 y (by simp [hy])]
/-- a for by an invariant, with what comes behind it -/
theorem for_then {fg ns : List Nat} {h0 : Hs} {step : D → Ls → Hs → RS} {α : Type} {en : α → D} (I : List α → Ls → Hs → Prop) {xs : List α} {ls : Ls} {h : Hs} {r : RS} (hr : forL fg ns h0 step (xs.map en) ls h = r) (hI : I [] ls h)
    (hs : ∀ x ds rest ls h, I ds ls h → xs = ds ++ x :: rest → ∃ ls1 h1, step (en x) ls h = .nx ls1 h1 ∧ same ns h0 h1 ∧ I (ds ++ [x]) (wipe ls1 fg) h1) : ∃ ls1 h1, r = .nx ls1 h1 ∧ I xs ls1 h1 := by
  obtain ⟨ls1, h1, e, i⟩ := for_inv' I hI hs
  exact ⟨ls1, h1, hr ▸ e, i⟩
/-- .. that may return -/
theorem for_thenQ {fg ns : List Nat} {h0 : Hs} {step : D → Ls → Hs → RS} {α : Type} {en : α → D} (I : List α → Ls → Hs → Prop) (Q : D → Hs → Prop) {xs : List α} {ls : Ls} {h : Hs} {r : RS} (hr : forL fg ns h0 step (xs.map en) ls h = r) (hI : I [] ls h)
    (hs : ∀ x ds rest ls h, I ds ls h → xs = ds ++ x :: rest → (∃ ls1 h1, (step (en x) ls h = .nx ls1 h1 ∨ step (en x) ls h = .ct ls1 h1) ∧ same ns h0 h1 ∧ I (ds ++ [x]) (wipe ls1 fg) h1) ∨ ∃ d h1, step (en x) ls h = .rt d h1 ∧ Q d h1) : (∃ ls1 h1, r = .nx ls1 h1 ∧ I xs ls1 h1) ∨ ∃ d h1, r = .rt d h1 ∧ Q d h1 := by
  subst hr
  simpa using for_inv I Q hI hs
/-- a comprehension with effects, with what comes behind it -/
theorem comp_then {ns : List Nat} {h0 : Hs} {step : D → Hs → R (Option D)} {α : Type} {en : α → D} (I : List α → List D → Hs → Prop) {xs : List α} {h : Hs} {r : R (List D)} (hr : compL ns h0 step (xs.map en) h = r) (hI : I [] [] h)
    (hs : ∀ x ds rest acc h, I ds acc h → xs = ds ++ x :: rest → ∃ y h1, step (en x) h = .ok y h1 ∧ same ns h0 h1 ∧ I (ds ++ [x]) (acc ++ y.toList) h1) : ∃ ys h1, r = .ok ys h1 ∧ I xs ys h1 := by
  obtain ⟨ys, h1, e, i⟩ := comp_inv I hI hs
  exact ⟨ys, h1, hr ▸ e, by simpa using i⟩
/-! ### sorted ints -/
open Classical in
theorem sort_ints (h : Hs) (ns : List Int) : sortD h (ns.map .int) = some ((ns.mergeSort fun a b => decide (a ≤ b)).map .int) := by
  have e : pyL h (ns.map .int) = some (ns.map .int) := Eqq.int.pyL _ ns
  have ok : PySem.W.AllAlike (ns.map PyData.int) ∧ PySem.W.Sortable (ns.map PyData.int) ∧ ∀ y ∈ ns.map PyData.int, y.depth ≤ 64 := by
    refine ⟨?_, .inr ?_, ?_⟩
    · intro d hd d' hd'
      obtain ⟨i, _, rfl⟩ := List.mem_map.mp hd
      obtain ⟨j, _, rfl⟩ := List.mem_map.mp hd'
      simp [PySem.W.alike]
    · intro d hd
      obtain ⟨i, _, rfl⟩ := List.mem_map.mp hd
      simp
    · intro d hd
      obtain ⟨i, _, rfl⟩ := List.mem_map.mp hd
      simp [PyData.depth]
  simp only [sortD, e]
  rw [if_pos ok]
  have z : (ns.map FL.D.int).zip (ns.map PyData.int) = ns.map fun i => (FL.D.int i, PyData.int i) := by
    rw [List.zip_map']
  rw [z, ← List.map_mergeSort (r := fun a b => decide (a ≤ b)), List.map_map]
  · rfl
  · intro a _ b _
    show _ = PySem.W.dataLe false (fun p : FL.D × PyData => p.2) (FL.D.int a, PyData.int a) (FL.D.int b, PyData.int b)
    rw [PySem.W.dataLe_eq]
    simp only [cond, PySem.W.dataLt_int]
    by_cases hab : a ≤ b
    · rw [decide_eq_true hab, decide_eq_false (by omega)]; rfl
    · rw [decide_eq_false hab, decide_eq_true (by omega)]; rfl
theorem sorted_le (ns : List Int) : (ns.mergeSort fun a b => decide (a ≤ b)).Pairwise (· ≤ ·) := by
  have := List.pairwise_mergeSort (le := fun a b : Int => decide (a ≤ b)) (by simp; omega) (by simp; omega) ns
  simpa using this
theorem sorted_perm (ns : List Int) : (ns.mergeSort fun a b => decide (a ≤ b)).Perm ns := List.mergeSort_perm ns _
/-- sorted, all different -/
theorem sorted_lt {ns : List Int} (hn : ns.Nodup) : (ns.mergeSort fun a b => decide (a ≤ b)).Pairwise (· < ·) := by
  have h1 := sorted_le ns
  have h2 : (ns.mergeSort fun a b => decide (a ≤ b)).Nodup := (sorted_perm ns).nodup_iff.mpr hn
  exact h1.imp₂ (fun a b h3 h4 => by omega) h2
/-! ### texts -/
theorem eq_str {h : Hs} {s : Str} (hs : PyData.strOk s = true) : eqD h (.str s) (.str s) = some true := by
  simp only [eqD, py_str]
  have e : SeqAt.shaped (.str s) = true := shaped_of (by simpa [PyData.canLay0] using hs) (by simp [PyData.depth])
  rw [if_pos ⟨e, e⟩]
  simp [PyData.eqv]
end FL
set_option autoImplicit false
set_option linter.all false
set_option maxRecDepth 100000
set_option maxHeartbeats 2000000
/-! the helpers that the laws share -/
namespace FL.C
open PySem FL
def b_law_begin : FS := (.scons (.asg (.tgt (.name 1)) (.cst (.int 1)))
  (.scons (.for_ (.name 2) (.iseq (.var 0)) (.scons (.asg (.tgt (.name 1)) (.bin false .Mod (.bin false .Add (.bin false .Add (.bin false .Mult (.var 1) (.cst (.int 69621))) (.bin false .Mod (.bcall false .int (.acons (.var 2) .anil)) (.cst (.int 2147483629)))) (.cst (.int 7))) (.cst (.int 2147483647))))
  .snil) [2])
  (.scons (.ret (.lst true (.acons (.bcall false .list (.acons (.var 0) .anil)) (.acons (.cst (.int 0)) (.acons (.cst (.int 0)) (.acons (.var 1) .anil))))))
  .snil)))
def c_law_begin : FDef := ⟨1, 3, b_law_begin⟩
def b_law_take : FS := (.scons (.ite (.and (.cmp .Eq (.idx (.var 0) (.cst (.int 2))) (.cst (.int 0))) (.cmp .Lt (.idx (.var 0) (.cst (.int 1))) (.bcall false .len (.acons (.idx (.var 0) (.cst (.int 0))) .anil)))) (.scons (.asg (.sub (.var 0) (.cst (.int 2))) (.bcall false .abs (.acons (.bcall false .int (.acons (.idx (.idx (.var 0) (.cst (.int 0))) (.idx (.var 0) (.cst (.int 1)))) .anil)) .anil)))
  (.scons (.asg (.sub (.var 0) (.cst (.int 1))) (.bin false .Add (.idx (.var 0) (.cst (.int 1))) (.cst (.int 1))))
  (.scons (.ite (.cmp .Lt (.idx (.var 0) (.cst (.int 2))) (.bin false .Pow (.cst (.int 10)) (.cst (.int 18)))) (.scons (.asg (.tgt (.name 3)) (.bcall false .int (.acons (.idx (.var 0) (.cst (.int 2))) .anil)))
  (.scons (.asg (.sub (.var 0) (.cst (.int 2))) (.cst (.int 0)))
  (.scons (.ret (.bin false .Mod (.var 3) (.var 1)))
  .snil))) .snil)
  .snil))) .snil)
  (.scons (.ite (.cmp .Gt (.idx (.var 0) (.cst (.int 2))) (.cst (.int 0))) (.scons (.asg (.tgt (.name 2)) (.bin false .Mod (.bcall false .int (.acons (.idx (.var 0) (.cst (.int 2))) .anil)) (.var 1)))
  (.scons (.asg (.sub (.var 0) (.cst (.int 2))) (.bin false .FloorDiv (.bcall false .int (.acons (.idx (.var 0) (.cst (.int 2))) .anil)) (.var 1)))
  (.scons (.ret (.var 2))
  .snil))) .snil)
  (.scons (.asg (.sub (.var 0) (.cst (.int 3))) (.bin false .Mod (.bcall false .int (.acons (.bin false .Add (.bin false .Mult (.idx (.var 0) (.cst (.int 3))) (.cst (.int 48271))) (.cst (.int 11))) .anil)) (.cst (.int 2147483647))))
  (.scons (.ret (.bin false .Mod (.bcall false .int (.acons (.bin false .FloorDiv (.idx (.var 0) (.cst (.int 3))) (.cst (.int 3))) .anil)) (.var 1)))
  .snil))))
def c_law_take : FDef := ⟨2, 4, b_law_take⟩
def b_law_pick : FS := (.scons (.ret (.idx (.var 1) (.call false "_law_take" (.acons (.var 0) (.acons (.bcall false .len (.acons (.var 1) .anil)) .anil)))))
  .snil)
def c_law_pick : FDef := ⟨2, 2, b_law_pick⟩
def b_law_clause : FS := (.scons (.asg (.tgt (.name 3)) .dnil)
  (.scons (.for_ (.name 4) (.irange (.acons (.bin false .Add (.cst (.int 1)) (.call false "_law_take" (.acons (.var 0) (.acons (.var 2) .anil)))) .anil)) (.scons (.asg (.tgt (.name 5)) (.bin false .Add (.cst (.int 1)) (.call false "_law_take" (.acons (.var 0) (.acons (.var 1) .anil)))))
  (.scons (.asg (.sub (.var 3) (.var 5)) (.ite (.cmp .Eq (.call false "_law_take" (.acons (.var 0) (.acons (.cst (.int 2)) .anil))) (.cst (.int 0))) (.var 5) (.bin false .Sub (.cst (.int 0)) (.var 5))))
  .snil)) [4, 5])
  (.scons (.ret (.bcall false .tuple (.acons (.svals false (.var 3)) .anil)))
  .snil)))
def c_law_clause : FDef := ⟨3, 6, b_law_clause⟩
def b_law_problem : FS := (.scons (.asg (.tgt (.name 4)) (.bin false .Add (.cst (.int 1)) (.call false "_law_take" (.acons (.var 0) (.acons (.var 1) .anil)))))
  (.scons (.asg (.tgt (.name 5)) (.comp true [6] (.name 6) (.irange (.acons (.call false "_law_take" (.acons (.var 0) (.acons (.bin false .Add (.var 2) (.cst (.int 1))) .anil))) .anil)) (.cst (.bl true)) (.call false "_law_clause" (.acons (.var 0) (.acons (.var 4) (.acons (.var 3) .anil))))))
  (.scons (.ite (.cmp .Eq (.call false "_law_take" (.acons (.var 0) (.acons (.cst (.int 20)) .anil))) (.cst (.int 0))) (.scons (.expr (.bmeth .append (.var 5) (.acons (.tup .anil) .anil)))
  .snil) .snil)
  (.scons (.ret (.tup (.acons (.var 4) (.acons (.bcall false .tuple (.acons (.var 5) .anil)) .anil))))
  .snil))))
def c_law_problem : FDef := ⟨4, 7, b_law_problem⟩
def b_law_worlds : FS := (.scons (.asg (.tgt (.name 1)) (.lst false (.acons (.tup .anil) .anil)))
  (.scons (.for_ (.name 2) (.irange (.acons (.var 0) .anil)) (.scons (.asg (.tgt (.name 3)) (.lst true .anil))
  (.scons (.for_ (.name 4) (.iseq (.var 1)) (.scons (.expr (.bmeth .extend (.var 3) (.acons (.lst false (.acons (.bin false .Add (.var 4) (.tup (.acons (.cst (.bl false)) .anil))) (.acons (.bin false .Add (.var 4) (.tup (.acons (.cst (.bl true)) .anil))) .anil))) .anil)))
  .snil) [4])
  (.scons (.asg (.tgt (.name 1)) (.var 3))
  .snil))) [2, 3, 4])
  (.scons (.ret (.var 1))
  .snil)))
def c_law_worlds : FDef := ⟨1, 5, b_law_worlds⟩
def b_law_holds : FS := (.scons (.ret (.bcall false .any (.acons (.comp false [2] (.name 2) (.iseq (.var 0)) (.cst (.bl true)) (.cmp .Eq (.idx (.var 1) (.bin false .Sub (.bcall false .abs (.acons (.var 2) .anil)) (.cst (.int 1)))) (.cmp .Gt (.var 2) (.cst (.int 0))))) .anil)))
  .snil)
def c_law_holds : FDef := ⟨2, 3, b_law_holds⟩
def b_law_models : FS := (.scons (.ret (.comp false [1] (.name 1) (.iseq (.call false "_law_worlds" (.acons (.idx (.var 0) (.cst (.int 0))) .anil))) (.bcall false .all (.acons (.comp false [2] (.name 2) (.iseq (.idx (.var 0) (.cst (.int 1)))) (.cst (.bl true)) (.call false "_law_holds" (.acons (.var 2) (.acons (.var 1) .anil)))) .anil)) (.var 1)))
  .snil)
def c_law_models : FDef := ⟨1, 3, b_law_models⟩
/-- the state of the draws: the script, the place, what is left of a number, the seed -/
def DSt (st : List FL.D) : Prop := ∃ (xs : List Int) (a b c : Int), st = [.fl (xs.map .int), .int a, .int b, .int c] ∧ 0 ≤ a ∧ 0 ≤ b
theorem DSt.flat {st : List FL.D} (h : DSt st) : FL.D.flatL st = true := by
  obtain ⟨xs, a, b, c, rfl, _, _⟩ := h
  simp
/-- the heap of a law: the script, the draws, the rest -/
abbrev Dh (F : Cell) (st : List FL.D) (g : Hs) : Hs := F :: .lst st :: g
theorem gcX_draw {m : Bool} {F : Cell} {st st' : List FL.D} {g x : Hs} {d : FL.D} (hs : DSt st') (hd : d.flat = true) : gcX m (F :: .lst st :: g) (.ok d (F :: .lst st' :: (g ++ x))) = .ok d (F :: .lst st' :: g) := by
  have e := gcX_setApp (m := m) (h := F :: .lst st :: g) (g := x) (n := 1) (c := .lst st') (d := d) (flatL_closed _ _ hs.flat) hd
  simpa using e
theorem gcX_draw0 {m : Bool} {F : Cell} {st st' : List FL.D} {g : Hs} {d : FL.D} (hs : DSt st') (hd : d.flat = true) : gcX m (F :: .lst st :: g) (.ok d (F :: .lst st' :: g)) = .ok d (F :: .lst st' :: g) := by
  have := gcX_draw (m := m) (F := F) (st := st) (g := g) (x := []) hs hd
  simpa using this
section
variable {P : Prog} {k : Nat} {F : Cell} {g : Hs} {st : List FL.D}
theorem begin_ok (hP : List.lookup ("_law_begin" : Str) P.defs = some c_law_begin) {ns : List Int} (hz : ns.length ≤ 63) : ∃ st', DSt st' ∧ gcX true [.flst (ns.map .int)] (P.call (k + 1) "_law_begin" [.loc 0] [.flst (ns.map .int)]) = .ok (.loc 1) [.flst (ns.map .int), .lst st'] := by
  have hl : lstAt [Cell.flst (ns.map FL.D.int)] 0 = some (ns.map .int) := lstAt_fr rfl
  rw [call_eq hP rfl]
  simp [c_law_begin, b_law_begin, startL, items_loc hl]
  generalize hr : forL _ _ _ _ _ _ _ = q
  obtain ⟨ls1, h1, rfl, s, rfl, rfl⟩ := for_then (fun ds ls h' => ∃ s : Int, ls = [some (.loc 0), some (.int s), none] ∧ h' = [.flst (ns.map .int)]) hr ⟨1, rfl, rfl⟩ (by
    rintro x ds rest _ _ ⟨s, rfl, rfl⟩ hx
    have hm : binI .Mult s 69621 = some (s * 69621) := mul_r (by omega)
    exact ⟨[some (.loc 0), some (.int ((s * 69621 + x.fmod 2147483629 + 7).fmod 2147483647)), some (.int x)], _, by simp [stp, mulOk], same_refl _ _, (s * 69621 + x.fmod 2147483629 + 7).fmod 2147483647, by simp [wipe], rfl⟩)
  refine ⟨[.fl (ns.map .int), .int 0, .int 0, .int s], ⟨ns, 0, 0, s, rfl, by omega, by omega⟩, ?_⟩
  have z : (4 : Nat) ≤ sizeLine := by rw [size_big]; omega
  simp [list_loc hl, z, newL]
  have e1 : ¬ (FL.D.closed [Cell.flst (ns.map FL.D.int)].length (.loc 1) = true) := by simp
  simp only [gcX, if_true, gc, if_pos (OldOk.app [Cell.flst (ns.map FL.D.int)] [.lst [.fl (ns.map .int), .int 0, .int 0, .int s]]), show [Cell.flst (ns.map FL.D.int), .lst [.fl (ns.map .int), .int 0, .int 0, .int s]] = [Cell.flst (ns.map FL.D.int)] ++ [.lst [.fl (ns.map .int), .int 0, .int 0, .int s]] from rfl, if_neg e1]
  have e2 : (Cell.lst [.fl (ns.map FL.D.int), .int 0, .int 0, .int s]).closed 1 = true := flatL_closed _ _ (by simp)
  simp [e2]
theorem take_ok (hP : List.lookup ("_law_take" : Str) P.defs = some c_law_take) (hs : DSt st) {many : Int} (h0 : 0 < many) (h1 : many < 1000000) :
    ∃ r st', 0 ≤ r ∧ r < many ∧ DSt st' ∧ gcX false (F :: .lst st :: g) (P.call (k + 1) "_law_take" [.loc 1, .int many] (F :: .lst st :: g)) = .ok (.int r) (F :: .lst st' :: g) := by
  obtain ⟨xs, a, b, c, rfl, ha, hb⟩ := hs
  have ln : lstAt (F :: .lst [.fl (xs.map .int), .int a, .int b, .int c] :: g) 1 = some [.fl (xs.map .int), .int a, .int b, .int c] := lstAt_of rfl
  have hmany : many ≠ 0 := by omega
  have hmany2 : many.natAbs < 1073741824 := by omega
  have fm : ∀ i : Int, 0 ≤ i.fmod many ∧ i.fmod many < many := fun i => ⟨Int.fmod_nonneg_of_pos i h0, Int.fmod_lt_of_pos i h0⟩
  have ix : ∀ (st' : List FL.D) (j : Int), idxD (.loc 1) (.int j) (F :: .lst st' :: g) = R.ofO (F :: .lst st' :: g) (L2.atI st' j) := fun st' j => idx_of (lstAt_of rfl)
  have sx : ∀ (st' : List FL.D) (j : Int) (v : FL.D), setIdx (.loc 1) (.int j) v (F :: .lst st' :: g) = match L2.ixN st'.length j with
      | some k => .ok () (F :: .lst (st'.set k v) :: g)
      | none => .bad := fun st' j v => by rw [set_of (n := 1) rfl]; cases L2.ixN st'.length j <;> rfl
  have go : ∀ (r : Int) (st' : List FL.D), DSt st' → gcX false (F :: .lst [.fl (xs.map .int), .int a, .int b, .int c] :: g) (.ok (.int r) (F :: .lst st' :: g)) = .ok (.int r) (F :: .lst st' :: g) := fun r st' hd => gcX_draw0 hd (flat_int _)
  rw [call_eq hP rfl]
  by_cases c1 : b = 0
  · subst c1
    by_cases c2 : a < xs.length
    · obtain ⟨y, hy⟩ : ∃ y, xs[a.toNat]? = some y := ⟨_, List.getElem?_eq_getElem (by omega)⟩
      have ey : L2.atI (xs.map FL.D.int) a = some (.int y) := by rw [atI_pos _ ha, List.getElem?_map, hy]; rfl
      have hv0 : (0 : Int) ≤ (if y < 0 then -y else y) := by split <;> omega
      generalize hv : (if y < 0 then -y else y) = v at hv0
      by_cases c3 : v < 1000000000000000000
      · refine ⟨v.fmod many, [.fl (xs.map .int), .int (a + 1), .int 0, .int c], (fm v).1, (fm v).2, ⟨_, _, _, _, rfl, by omega, by omega⟩, ?_⟩
        have := go (v.fmod many) [.fl (xs.map .int), .int (a + 1), .int 0, .int c] ⟨_, _, _, _, rfl, by omega, by omega⟩
        simpa [c_law_take, b_law_take, startL, ix, sx, binI, powOk, hmany, hmany2, c2, ey, hv, c3] using this
      · have v0 : 0 < v := by omega
        have hd : 0 ≤ v.fdiv many := by rw [Int.fdiv_eq_ediv_of_nonneg _ (by omega)]; exact Int.ediv_nonneg (by omega) (by omega)
        refine ⟨v.fmod many, [.fl (xs.map .int), .int (a + 1), .int (v.fdiv many), .int c], (fm v).1, (fm v).2, ⟨_, _, _, _, rfl, by omega, hd⟩, ?_⟩
        have := go (v.fmod many) [.fl (xs.map .int), .int (a + 1), .int (v.fdiv many), .int c] ⟨_, _, _, _, rfl, by omega, hd⟩
        simpa [c_law_take, b_law_take, startL, ix, sx, binI, powOk, hmany, hmany2, c2, ey, hv, c3, v0] using this
    · have hc : (0 : Int) ≤ 0 := Int.le_refl 0
      generalize hw : (c * 48271 + 11).fmod 2147483647 = w
      refine ⟨(w.fdiv 3).fmod many, [.fl (xs.map .int), .int a, .int 0, .int w], (fm _).1, (fm _).2, ⟨_, _, _, _, rfl, ha, hc⟩, ?_⟩
      have := go ((w.fdiv 3).fmod many) [.fl (xs.map .int), .int a, .int 0, .int w] ⟨_, _, _, _, rfl, ha, hc⟩
      simpa [c_law_take, b_law_take, startL, ix, sx, binI, powOk, hmany, hmany2, c2, mulOk, hw] using this
  · have v0 : 0 < b := by omega
    have hd : 0 ≤ b.fdiv many := by rw [Int.fdiv_eq_ediv_of_nonneg _ (by omega)]; exact Int.ediv_nonneg (by omega) (by omega)
    refine ⟨b.fmod many, [.fl (xs.map .int), .int a, .int (b.fdiv many), .int c], (fm b).1, (fm b).2, ⟨_, _, _, _, rfl, ha, hd⟩, ?_⟩
    have := go (b.fmod many) [.fl (xs.map .int), .int a, .int (b.fdiv many), .int c] ⟨_, _, _, _, rfl, ha, hd⟩
    simpa [c_law_take, b_law_take, startL, ix, sx, binI, powOk, hmany, hmany2, c1, v0] using this
theorem pick_ok (hT : List.lookup ("_law_take" : Str) P.defs = some c_law_take) (hP : List.lookup ("_law_pick" : Str) P.defs = some c_law_pick) (hs : DSt st) {ds : List FL.D} (h0 : 0 < ds.length) (h1 : ds.length < 1000000) (hf : FL.D.flatL ds = true) :
    ∃ (r : Nat) (d : FL.D) (st' : List FL.D), ds[r]? = some d ∧ DSt st' ∧ gcX false (F :: .lst st :: g) (P.call (k + 2) "_law_pick" [.loc 1, .fl ds] (F :: .lst st :: g)) = .ok d (F :: .lst st' :: g) := by
  obtain ⟨r, st', r0, r1, hs', e⟩ := take_ok (k := k) (F := F) (g := g) hT hs (many := ds.length) (by omega) (by omega)
  obtain ⟨n, rfl⟩ := Int.eq_ofNat_of_zero_le r0
  have hn : n < ds.length := by omega
  refine ⟨n, ds[n], st', List.getElem?_eq_getElem hn, hs', ?_⟩
  rw [call_eq hP rfl]
  have ei : L2.atI ds (n : Int) = some ds[n] := by rw [atI_nat, List.getElem?_eq_getElem hn]
  simp [c_law_pick, b_law_pick, startL, e, ei]
  exact gcX_draw0 hs' ((flatL_iff ds).mp hf _ (List.getElem_mem hn))
/-! ### clauses, values -/
abbrev ci (c : List Int) : FL.D := .tup (c.map .int)
abbrev csi (cs : List (List Int)) : FL.D := .tup (cs.map ci)
abbrev pi (n : Nat) (cs : List (List Int)) : FL.D := .tup [.int n, csi cs]
abbrev vi (v : List Bool) : FL.D := .tup (v.map .bl)
@[simp] theorem csi_flat (cs : List (List Int)) : D.flatL (cs.map ci) = true := flatL_map _ _ fun c _ => by simp
@[simp] theorem vis_flat (vs : List (List Bool)) : D.flatL (vs.map vi) = true := flatL_map _ _ fun c _ => by simp
theorem cs_le {n : Nat} (h : n ≤ 100000) : n ≤ sizeLine := by rw [size_big]; omega
/-- the literals' variables lie in 1 .. n -/
def okC (n : Nat) (c : List Int) : Prop := ∀ l ∈ c, 1 ≤ l.natAbs ∧ l.natAbs ≤ n
def isT (v : List Bool) (l : Int) : Bool := decide (v.getD (l.natAbs - 1) false = decide (0 < l))
def hol (v : List Bool) (c : List Int) : Bool := c.any (isT v)
theorem abs_nat (l : Int) : (if l < 0 then -l else l) = (l.natAbs : Int) := by split <;> omega
theorem at_abs {l : Int} {v : List Bool} (hl : 1 ≤ l.natAbs ∧ l.natAbs ≤ v.length) : L2.atI (v.map FL.D.bl) ((l.natAbs : Int) - 1) = some (.bl (v.getD (l.natAbs - 1) false)) := by
  rw [show ((l.natAbs : Int) - 1) = ((l.natAbs - 1 : Nat) : Int) by omega, atI_nat, List.getElem?_map, List.getD_eq_getElem?_getD, List.getElem?_eq_getElem (by omega)]
  rfl
theorem lholds_ok (hP : List.lookup ("_law_holds" : Str) P.defs = some c_law_holds) {h : Hs} {c : List Int} {v : List Bool} (hc : okC v.length c) (hz : c.length ≤ 1000) : P.call (k + 1) "_law_holds" [ci c, vi v] h = .ok (.bl (hol v c)) h := by
  rw [call_eq hP rfl]
  simp [c_law_holds, b_law_holds, startL]
  rw [cf (fun l => .bl (isT v l))]
  · simp [hol]
  · intro l hl
    simp [cstep, wipe, abs_nat, at_abs (hc l hl), isT]
  · exact cs_le (by omega)
def kvL (ls : List Int) : List (FL.D × FL.D) := ls.map fun l => (.int l.natAbs, .int l)
/-- .. with l put -/
def putL (l : Int) (ls : List Int) : List Int := if ls.any (fun x => decide (x.natAbs = l.natAbs)) = true then ls.map (fun x => if x.natAbs = l.natAbs then l else x) else ls ++ [l]
theorem dput_kvL (l : Int) (ls : List Int) : dput (.num l.natAbs) (.int l.natAbs) (.int l) (kvL ls) = kvL (putL l ls) := by
  have e : ((kvL ls).any fun p => decide (p.1.key = some (.num (l.natAbs : Int)))) = ls.any (fun x => decide (x.natAbs = l.natAbs)) := by
    unfold kvL
    rw [List.any_map]
    congr 1
    funext x
    simp [D.key]
    omega
  unfold dput putL
  rw [e]
  split
  · unfold kvL
    rw [List.map_map, List.map_map]
    refine List.map_congr_left fun x hx => ?_
    show (if (FL.D.int (x.natAbs : Int)).key = some (.num (l.natAbs : Int)) then (FL.D.int (x.natAbs : Int), FL.D.int l) else (FL.D.int (x.natAbs : Int), FL.D.int x)) = (FL.D.int ((if x.natAbs = l.natAbs then l else x).natAbs : Int), FL.D.int (if x.natAbs = l.natAbs then l else x))
    by_cases e : x.natAbs = l.natAbs
    · rw [if_pos e, if_pos (by rw [e]; rfl), e]
    · rw [if_neg e, if_neg (by intro h; simp [D.key] at h; omega)]
  · simp [kvL]
/-- the literals: their variables all different, each in 1 .. n -/
def okK (n : Nat) (ls : List Int) : Prop := okC n ls ∧ (ls.map Int.natAbs).Nodup
theorem putL_abs (l : Int) (ls : List Int) : (putL l ls).map Int.natAbs = if l.natAbs ∈ ls.map Int.natAbs then ls.map Int.natAbs else ls.map Int.natAbs ++ [l.natAbs] := by
  unfold putL
  by_cases e : l.natAbs ∈ ls.map Int.natAbs
  · rw [if_pos e, if_pos (by simpa using e), List.map_map]
    refine List.map_congr_left fun x hx => ?_
    simp only [Function.comp]
    split
    · omega
    · rfl
  · rw [if_neg e, if_neg (by simpa using e)]
    simp
theorem putL_ok {n : Nat} {l : Int} {ls : List Int} (hl : 1 ≤ l.natAbs ∧ l.natAbs ≤ n) (h : okK n ls) : okK n (putL l ls) ∧ (putL l ls).length ≤ ls.length + 1 := by
  have h1 := h.1
  have h2 := h.2
  have e := putL_abs l ls
  refine ⟨⟨?_, ?_⟩, ?_⟩
  · intro x hx
    unfold putL at hx
    split at hx
    · obtain ⟨y, hy, e⟩ := List.mem_map.mp hx
      split at e
      · rw [← e]; exact hl
      · rw [← e]; exact h1 y hy
    · rcases List.mem_append.mp hx with hx | hx
      · exact h1 x hx
      · rw [List.mem_singleton.mp hx]; exact hl
  · rw [e]
    split
    · exact h2
    · rename_i hn
      rw [List.nodup_append]
      exact ⟨h2, by simp, by intro a ha b hb; rw [List.mem_singleton.mp hb]; rintro rfl; exact hn ha⟩
  · have := congrArg List.length e
    rw [List.length_map] at this
    rw [this]
    split <;> simp
theorem okK_nodup {n : Nat} {ls : List Int} (h : okK n ls) : ls.Nodup := h.2.of_map _ fun a b h e => h (by rw [e])
/-- a clause of the law: sorted, its variables in 1 .. n, all different -/
def okS (n : Nat) (c : List Int) : Prop := okC n c ∧ c.Pairwise (· < ·) ∧ (c.map Int.natAbs).Nodup
theorem setIdx_dict {h : Hs} {n : Nat} {kvs : List (FL.D × FL.D)} {i v : FL.D} {k : NestedKey} (e : h[n]? = some (.dict kvs)) (hk : i.key = some k) (ho : keyOk i = true) (hz : kvs.length < sizeLine) : setIdx (.loc n) i v h = .ok () (h.set n (.dict (dput k i v kvs))) := by
  unfold setIdx
  simp only [e, hk]
  rw [if_pos ⟨ho, hz⟩]
theorem clause_ok (hT : List.lookup ("_law_take" : Str) P.defs = some c_law_take) (hP : List.lookup ("_law_clause" : Str) P.defs = some c_law_clause) (hs : DSt st) {count most : Nat} (hc : 0 < count) (hc2 : count < 1000) (hm : 0 < most) (hm2 : most < 1000) :
    ∃ c st', DSt st' ∧ okS count c ∧ c.length ≤ most ∧ gcX false (F :: .lst st :: g) (P.call (k + 2) "_law_clause" [.loc 1, .int count, .int most] (F :: .lst st :: g)) = .ok (ci c) (F :: .lst st' :: g) := by
  rw [call_eq hP rfl]
  obtain ⟨r, st1, r0, r1, hs1, e1⟩ := take_ok (k := k) (F := F) (g := g ++ [.dict []]) hT hs (many := most) (by omega) (by omega)
  have e2 : small (1 + r) := by unfold small; omega
  have e3 : rangeD 0 (1 + r) = (List.range (1 + r).toNat).map fun k => FL.D.int (k : Nat) := by rw [← rangeD_nat]; congr 1; omega
  simp [c_law_clause, b_law_clause, startL, e1, e2, e3]
  generalize hr : forL _ _ _ _ _ _ _ = q
  obtain ⟨ls1, h1, rfl, st2, ls, hs2, ok, hl, rfl, rfl⟩ := for_then (fun ds ls h' => ∃ st' xs, DSt st' ∧ okK count xs ∧ xs.length ≤ ds.length ∧ ls = [some (.loc 1), some (.int count), some (.int most), some (.loc (g.length + 1 + 1)), none, none] ∧ h' = F :: .lst st' :: (g ++ [.dict (kvL xs)])) hr ⟨st1, [], hs1, ⟨(fun _ h => nomatch h), by simp⟩, by simp, by simp, by simp [kvL]⟩ (by
    rintro x ds rest _ _ ⟨st2, xs, hs2, ok, hl, rfl, rfl⟩ hx
    obtain ⟨v, st3, v0, v1, hs3, ev1⟩ := take_ok (k := k) (F := F) (g := g ++ [.dict (kvL xs)]) hT hs2 (many := count) (by omega) (by omega)
    obtain ⟨b, st4, b0, b1, hs4, ev2⟩ := take_ok (k := k) (F := F) (g := g ++ [.dict (kvL xs)]) hT hs3 (many := 2) (by omega) (by omega)
    obtain ⟨v, rfl⟩ := Int.eq_ofNat_of_zero_le v0
    have ex : ∃ l : Int, (l.natAbs : Int) = 1 + v ∧ (if b = 0 then FL.D.int (1 + v) else .int (0 - (1 + v))) = .int l := by
      by_cases e : b = 0
      · exact ⟨1 + v, by omega, by rw [if_pos e]⟩
      · exact ⟨0 - (1 + v), by omega, by rw [if_neg e]⟩
    obtain ⟨l, el, ed⟩ := ex
    have p := putL_ok (n := count) (l := l) (ls := xs) (by omega) ok
    have hd : (F :: .lst st4 :: (g ++ [Cell.dict (kvL xs)]))[g.length + 1 + 1]? = some (.dict (kvL xs)) := by simp
    have hset : setIdx (.loc (g.length + 1 + 1)) (.int (1 + v)) (.int l) (F :: .lst st4 :: (g ++ [Cell.dict (kvL xs)])) = .ok () (F :: .lst st4 :: (g ++ [.dict (kvL (putL l xs))])) := by
      have hlen : (kvL xs).length < sizeLine := by
        have e1 : (kvL xs).length = xs.length := by simp [kvL]
        have e2 := congrArg List.length hx
        rw [size_big, e1]; simp at e2; omega
      rw [setIdx_dict hd rfl rfl hlen, ← el, dput_kvL]
      simp
    refine ⟨[some (.loc 1), some (.int count), some (.int most), some (.loc (g.length + 1 + 1)), some (.int x), some (.int (1 + v))], F :: .lst st4 :: (g ++ [.dict (kvL (putL l xs))]), ?_, same_t _ _, st4, putL l xs, hs4, p.1, ?_, by simp [wipe], rfl⟩
    · by_cases e : b = 0
      · rw [if_pos e] at ed; cases ed
        simp [stp, ev1, ev2, e, hset]
      · rw [if_neg e] at ed; cases ed
        simp [stp, ev1, ev2, e]
        simp at hset
        simp [hset]
    · simp; have := p.2; omega)
  have e4 : svalsD false (.loc (g.length + 1 + 1)) (F :: .lst st2 :: (g ++ [.dict (kvL ls)])) = .ok (.fl ((ls.mergeSort fun a b => decide (a ≤ b)).map .int)) (F :: .lst st2 :: (g ++ [.dict (kvL ls)])) := by
    have hd : mdictAt (F :: .lst st2 :: (g ++ [.dict (kvL ls)])) (g.length + 1 + 1) = some (kvL ls) := by simp [mdictAt]
    have hv : (kvL ls).map (·.2) = ls.map .int := by simp [kvL]
    simp only [svalsD, hd, Option.bind_some, hv, sort_ints, newM_false]
  refine ⟨ls.mergeSort fun a b => decide (a ≤ b), st2, hs2, ⟨?_, sorted_lt (okK_nodup ok), ?_⟩, ?_, ?_⟩
  · intro l hl
    exact ok.1 l ((sorted_perm ls).mem_iff.mp hl)
  · exact ((sorted_perm ls).map Int.natAbs).nodup_iff.mpr ok.2
  · rw [(sorted_perm ls).length_eq]
    simp at hl; omega
  · simp [e4]
    exact gcX_draw hs2 (by simp)
theorem problem_ok (hT : List.lookup ("_law_take" : Str) P.defs = some c_law_take) (hC : List.lookup ("_law_clause" : Str) P.defs = some c_law_clause) (hP : List.lookup ("_law_problem" : Str) P.defs = some c_law_problem) (hs : DSt st) {count many most : Nat} (hc : 0 < count) (hc2 : count < 900) (hm : 0 < most) (hm2 : most < 900) (hy : many < 900) :
    ∃ size cs st', DSt st' ∧ 1 ≤ size ∧ size ≤ count ∧ (∀ c ∈ cs, okS size c ∧ c.length ≤ most) ∧ cs.length ≤ many + 1 ∧ gcX false (F :: .lst st :: g) (P.call (k + 3) "_law_problem" [.loc 1, .int count, .int many, .int most] (F :: .lst st :: g)) = .ok (pi size cs) (F :: .lst st' :: g) := by
  rw [call_eq hP rfl]
  obtain ⟨z, st1, z0, z1, hs1, e1⟩ := take_ok (k := k + 1) (F := F) (g := g) hT hs (many := count) (by omega) (by omega)
  obtain ⟨r, st2, r0, r1, hs2, e2⟩ := take_ok (k := k + 1) (F := F) (g := g) hT hs1 (many := many + 1) (by omega) (by omega)
  have e3 : small r := by unfold small; omega
  have e4 : rangeD 0 r = (List.range r.toNat).map fun k => FL.D.int (k : Nat) := by rw [← rangeD_nat]; congr 1; omega
  obtain ⟨s, hs, hs1'⟩ : ∃ s : Nat, (s : Int) = 1 + z ∧ 1 ≤ s ∧ s ≤ count := ⟨(1 + z).toNat, by omega, by omega, by omega⟩
  simp [c_law_problem, b_law_problem, startL, e1, e2, e3, e4, ← hs]
  generalize hr : compL _ _ _ _ _ = q
  obtain ⟨ys, h1, rfl, st3, cs, hs3, ok, hl, rfl, rfl⟩ := comp_then (fun ds acc h' => ∃ st' cs, DSt st' ∧ (∀ c ∈ cs, okS s c ∧ c.length ≤ most) ∧ cs.length ≤ ds.length ∧ acc = cs.map ci ∧ h' = F :: .lst st' :: g) hr ⟨st2, [], hs2, by simp, by simp, rfl, rfl⟩ (by
    rintro x ds rest _ _ ⟨st3, cs, hs3, ok, hl, rfl, rfl⟩ hx
    obtain ⟨c, st4, hs4, okc, lc, ec⟩ := clause_ok (k := k) (F := F) (g := g) (count := s) (most := most) hT hC hs3 (by omega) (by omega) hm (by omega)
    refine ⟨some (ci c), F :: .lst st4 :: g, by simp [cstep, wipe, ec], same_t _ _, st4, cs ++ [c], hs4, ?_, by simp; omega, by simp, rfl⟩
    intro d hd
    rcases List.mem_append.mp hd with hd | hd
    · exact ok d hd
    · rw [List.mem_singleton.mp hd]; exact ⟨okc, lc⟩)
  simp at hl
  obtain ⟨b, st4, b0, b1, hs4, e5⟩ := take_ok (k := k + 1) (F := F) (g := g ++ [.lst (cs.map ci)]) hT hs3 (many := 20) (by omega) (by omega)
  have hz : cs.length ≤ sizeLine := by rw [size_big]; omega
  have hz2 : cs.length < sizeLine := by rw [size_big]; omega
  have z2 : (2 : Nat) ≤ sizeLine := by rw [size_big]; omega
  have ln : ∀ ds : List FL.D, lstAt (F :: .lst st4 :: (g ++ [.lst ds])) (g.length + 1 + 1) = some ds := fun ds => lstAt_of (by simp)
  simp [hz, newL, e5]
  by_cases eb : b = 0
  · refine ⟨s, cs ++ [[]], st4, hs4, hs1'.1, hs1'.2, ?_, by simp; omega, ?_⟩
    · intro d hd
      rcases List.mem_append.mp hd with hd | hd
      · exact ok d hd
      · rw [List.mem_singleton.mp hd]; exact ⟨⟨(fun _ h => by simp at h), .nil, by simp⟩, by simp⟩
    · have ea := append_at (h := F :: .lst st4 :: (g ++ [.lst (cs.map ci)])) (n := g.length + 1 + 1) (xs := cs.map ci) (d := .tup []) (by simp) (by simpa using hz2)
      have em : isLst (F :: .lst st4 :: (g ++ [.lst (cs.map ci)])) (.loc (g.length + 1 + 1)) = true := isLst_of (xs := cs.map ci) (by simp)
      have et := tuple_loc (m := false) (ln (cs.map ci ++ [.tup []]))
      simp [eb, em, ea, et, z2, cs_le]
      have e : pi s (cs ++ [[]]) = .tup [.int s, .tup (cs.map ci ++ [.tup []])] := by simp
      rw [e]
      exact gcX_draw hs4 (by simp)
  · refine ⟨s, cs, st4, hs4, hs1'.1, hs1'.2, ok, by omega, ?_⟩
    have et := tuple_loc (m := false) (ln (cs.map ci))
    simp [eb, et, z2]
    exact gcX_draw (m := false) (F := F) (st := st) (g := g) (x := [.lst (cs.map ci)]) (d := pi s cs) hs4 (by simp)
/-! ### worlds, models -/
def two (r : List Bool) : List (List Bool) := [r ++ [false], r ++ [true]]
def W : Nat → List (List Bool)
  | 0 => [[]]
  | n + 1 => (W n).flatMap two
theorem two_len : ∀ xs : List (List Bool), (xs.flatMap two).length = 2 * xs.length
  | [] => rfl
  | x :: xs => by rw [List.flatMap_cons, List.length_append, two_len xs, List.length_cons]; simp [two]; omega
theorem W_len : ∀ n, (W n).length = 2 ^ n
  | 0 => rfl
  | n + 1 => by rw [W, two_len, W_len n, Nat.pow_succ, Nat.mul_comm]
theorem W_mem : ∀ (n : Nat) (v : List Bool), v ∈ W n → v.length = n
  | 0, v, h => by rw [W] at h; rw [List.mem_singleton.mp h]; rfl
  | n + 1, v, h => by
    rw [W, List.mem_flatMap] at h
    obtain ⟨u, hu, h⟩ := h
    have := W_mem n u hu
    simp only [two, List.mem_cons, List.not_mem_nil, or_false] at h
    rcases h with rfl | rfl <;> simp [this]
theorem W_all : ∀ (n : Nat) (v : List Bool), v.length = n → v ∈ W n
  | 0, v, h => by rw [List.length_eq_zero_iff.mp h, W]; simp
  | n + 1, v, h => by
    have hne : v ≠ [] := by rintro rfl; simp at h
    rw [W, List.mem_flatMap]
    refine ⟨v.dropLast, W_all n _ (by simp [h]), ?_⟩
    have e := List.dropLast_concat_getLast hne
    simp only [two, List.mem_cons, List.not_mem_nil, or_false]
    cases hb : v.getLast hne
    · left; rw [hb] at e; exact e.symm
    · right; rw [hb] at e; exact e.symm
/-- the rows so far: a list as it was written, or a cell behind the first ones -/
def rowsAt (h h' : Hs) (xs : List FL.D) (d : FL.D) : Prop := d = .fl xs ∨ ∃ j, d = .loc j ∧ h.length ≤ j ∧ h'[j]? = some (.lst xs)
theorem rowsAt.items {h h' : Hs} {xs : List FL.D} {d : FL.D} (r : rowsAt h h' xs d) : itemsD h' d = some xs := by
  rcases r with rfl | ⟨j, rfl, _, e⟩
  · rfl
  · exact lstAt_of e
theorem rowsAt.grow {h h' : Hs} {xs : List FL.D} {d : FL.D} (r : rowsAt h h' xs d) (g : Hs) : rowsAt h (h' ++ g) xs d := by
  rcases r with rfl | ⟨j, rfl, hj, e⟩
  · exact .inl rfl
  · exact .inr ⟨j, rfl, hj, by rw [List.getElem?_append_left (lt_of_get e)]; exact e⟩
theorem rowsAt.end_ {h g : Hs} {xs : List FL.D} {d : FL.D} (r : rowsAt h (h ++ g) xs d) (hf : FL.D.flatL xs = true) : gcX false h (.ok d (h ++ g)) = .ok (.fl xs) h := by
  rcases r with rfl | ⟨j, rfl, hj, e⟩
  · exact gcX_flat (by simpa using hf)
  · exact gcX_lst0 hj e hf
theorem worlds_ok (hP : List.lookup ("_law_worlds" : Str) P.defs = some c_law_worlds) {n : Nat} {h : Hs} (hn : n ≤ 10) : gcX false h (P.call (k + 1) "_law_worlds" [.int n] h) = .ok (.fl ((W n).map vi)) h := by
  rw [call_eq hP rfl]
  have e2 : small (n : Int) := by unfold small; omega
  have e3 : rangeD 0 (n : Int) = (List.range n).map fun k => FL.D.int (k : Nat) := rangeD_nat n
  simp [c_law_worlds, b_law_worlds, startL, e2, e3, newL, size_big]
  generalize hr : forL _ _ _ _ _ _ _ = q
  obtain ⟨ls1, h1, rfl, g, d, rfl, rfl, rw⟩ := for_then (fun ds ls h' => ∃ g d, h' = h ++ g ∧ ls = [some (.int n), some d, none, none, none] ∧ rowsAt h h' ((W ds.length).map vi) d) hr ⟨[], .fl [.tup []], by simp, rfl, .inl rfl⟩ (by
    rintro x ds rest _ _ ⟨g, d, rfl, rfl, rw⟩ hx
    have hd : ds.length < n := by have := congrArg List.length hx; simp at this; omega
    have hw : (W ds.length).length ≤ 1024 := by rw [W_len]; exact Nat.pow_le_pow_right (by omega) (show ds.length ≤ 10 by omega)
    refine ⟨[some (.int n), some (.loc (h ++ g).length), some (.int x), some (.loc (h ++ g).length), none], h ++ g ++ [.lst ((W (ds ++ [x]).length).map vi)], ?_, same_t _ _, g ++ [.lst ((W (ds ++ [x]).length).map vi)], .loc (h ++ g).length, by simp, by simp [wipe], .inr ⟨_, rfl, by simp, by simp⟩⟩
    have ri := itemsK_of (rw.grow [.lst []]).items
    have hpl : ∀ i ∈ placeD d, i < (h ++ g).length := by
      rcases rw with rfl | ⟨j, rfl, hj, e⟩
      · intro i hi; simp at hi
      · intro i hi; rw [placeD, List.mem_singleton] at hi; rw [hi]; exact lt_of_get e
    simp [stp]
    simp at ri hpl
    simp [ri]
    rw [for_fn0 (fun _ => [some (.int n), some d, some (.int x), some (.loc (h.length + g.length)), none]) (fun es => h ++ (g ++ [.lst ((es.flatMap two).map vi)])) (by rfl) (by rfl)]
    · simp [W]
    · intro es r rest2 er
      have hlen : es.length < 1024 := by have := congrArg List.length er; simp at this; omega
      have hr : r.length ≤ 1000 := by have := W_mem ds.length r (by rw [er]; simp); omega
      have ex := extend_mid (h ++ g) [] ((es.flatMap two).map vi) ((two r).map vi)
      have em := isLst_mid (h ++ g) [] ((es.flatMap two).map vi)
      have hz : (es.flatMap two).length + 2 ≤ 16777216 := by rw [two_len]; omega
      have hv : ∀ b, vi (r ++ [b]) = FL.D.tup (r.map FL.D.bl ++ [.bl b]) := by intro b; simp
      rw [if_pos (by rw [size_big, List.length_map]; simp [two]; simp at hz; exact hz)] at ex
      simp [two] at ex em
      rw [hv, hv] at ex
      refine ⟨[some (.int n), some d, some (.int x), some (.loc (h.length + g.length)), some (vi r)], ?_, ?_, by simp [wipe]⟩
      · simp [stp, em, size_big, show r.length + 1 ≤ 16777216 by omega]
        simp [ex, two]
      · intro i hi
        have := hpl i hi
        have hi2 : i < (h ++ g).length := by simpa using this
        show (h ++ (g ++ _))[i]? = (h ++ (g ++ _))[i]?
        rw [← List.append_assoc, ← List.append_assoc, List.getElem?_append_left hi2, List.getElem?_append_left hi2])
  simp at rw
  simp
  exact rw.end_ (by simp)
def okP (n : Nat) (cs : List (List Int)) : Prop := cs.length ≤ 1000 ∧ ∀ c ∈ cs, okC n c ∧ c.length ≤ 1000
def Mod (n : Nat) (cs : List (List Int)) : List (List Bool) := (W n).filter fun v => cs.all (hol v)
theorem models_ok (hW : List.lookup ("_law_worlds" : Str) P.defs = some c_law_worlds) (hH : List.lookup ("_law_holds" : Str) P.defs = some c_law_holds) (hP : List.lookup ("_law_models" : Str) P.defs = some c_law_models) {n : Nat} {h : Hs} {cs : List (List Int)} (hn : n ≤ 10) (hc : okP n cs) : P.call (k + 2) "_law_models" [pi n cs] h = .ok (.fl ((Mod n cs).map vi)) h := by
  rw [call_eq hP rfl]
  have hw : (W n).length ≤ 1024 := by rw [W_len]; exact Nat.pow_le_pow_right (by omega) hn
  simp [c_law_models, b_law_models, startL, worlds_ok hW hn]
  rw [cff (fun v => cs.all (hol v)) vi]
  · simp [Mod]
  · intro v hv
    have hl := W_mem n v hv
    show _ = R.ok (if cs.all (hol v) = true then some (vi v) else none) _
    generalize hb : cs.all (hol v) = b
    simp [cstep, wipe]
    rw [cf (fun c => .bl (hol v c))]
    · simp [hb]
      cases b <;> simp
    · intro c hcc
      have := hc.2 c hcc
      rw [← hl] at this
      simp [cstep, wipe, lholds_ok hH this.1 this.2]
    · exact cs_le (by have := hc.1; omega)
  · rw [size_big]; omega
end
end FL.C
set_option autoImplicit false
set_option linter.all false
set_option maxRecDepth 100000
set_option maxHeartbeats 2000000
/-! the text of the law -/
namespace FL.L
open PySem L2
def top (i : Nat) : Stmt := PySem.Challenge.pw_solverhall_k18_whole_differences.main.body.getD i (.Pass ⟨0, 0, 0, 0⟩)
def inC (i j : Nat) : Stmt := (C8.clsBody (top i)).getD j (.Pass ⟨0, 0, 0, 0⟩)
def b_check_differences : FS := (.scons (.asg (.tgt (.tup (.tcons (.name 1) (.tcons (.name 2) .tnil)))) (.var 0))
  (.scons (.ite (.not (.chain .LtE .LtE (.cst (.int 1)) (.var 1) (.glob "MOST_NUMBERS"))) (.scons (.raise "InputError" (.acons (.cst (.str "many")) .anil))
  .snil) .snil)
  (.scons (.ite (.cmp .Gt (.bcall false .len (.acons (.var 2) .anil)) (.glob "MOST_BOUNDS")) (.scons (.raise "InputError" (.acons (.cst (.str "bounds")) .anil))
  .snil) .snil)
  (.scons (.for_ (.tup (.tcons (.name 3) (.tcons (.name 4) (.tcons (.name 5) .tnil)))) (.iseq (.var 2)) (.scons (.ite (.or (.not (.chain .LtE .Lt (.cst (.int 0)) (.var 3) (.var 1))) (.or (.not (.chain .LtE .Lt (.cst (.int 0)) (.var 4) (.var 1))) (.cmp .Eq (.var 3) (.var 4)))) (.scons (.raise "InputError" (.acons (.cst (.str "bound")) .anil))
  .snil) .snil)
  .snil) [3, 4, 5])
  .snil))))
def t_check_differences : DefT := ⟨"check_differences", top 6, ["problem", "many", "bounds", "a", "b", "_"], ["problem"], ⟨1, 6, b_check_differences⟩⟩
def b_fits : FS := (.scons (.ret (.and (.cmp .Eq (.bcall false .len (.acons (.var 1) .anil)) (.idx (.var 0) (.cst (.int 0)))) (.bcall false .all (.acons (.comp false [2, 3, 4] (.tup (.tcons (.name 2) (.tcons (.name 3) (.tcons (.name 4) .tnil)))) (.iseq (.idx (.var 0) (.cst (.int 1)))) (.cst (.bl true)) (.cmp .LtE (.bin false .Sub (.idx (.var 1) (.var 2)) (.idx (.var 1) (.var 3))) (.var 4))) .anil))))
  .snil)
def t_fits : DefT := ⟨"fits", top 7, ["problem", "numbers", "a", "b", "c"], ["problem", "numbers"], ⟨2, 5, b_fits⟩⟩
def b_solve_differences : FS := (.scons (.asg (.tgt (.name 1)) (.new "Lowering" (.acons (.var 0) (.acons (.bin false .Mult (.lst false (.acons (.cst (.int 0)) .anil)) (.idx (.var 0) (.cst (.int 0)))) .anil))))
  (.scons (.asg (.tgt (.name 2)) (.meth false "Lowering" "go" (.var 1) .anil))
  (.scons (.ret (.ite (.cmp .Is (.var 2) (.cst .non)) (.tup (.acons (.cst (.str "numbers")) (.acons (.bcall false .tuple (.acons (.attr (.var 1) "numbers") .anil)) .anil))) (.tup (.acons (.cst (.str "circle")) (.acons (.var 2) .anil)))))
  .snil)))
def t_solve_differences : DefT := ⟨"solve_differences", top 9, ["problem", "lowering", "circle"], ["problem"], ⟨1, 3, b_solve_differences⟩⟩
def b_takes_circle : FS := (.scons (.asg (.tgt (.name 2)) (.idx (.var 0) (.cst (.int 1))))
  (.scons (.ite (.or (.not (.var 1)) (.not (.bcall false .all (.acons (.comp false [4] (.name 4) (.iseq (.var 1)) (.cst (.bl true)) (.chain .LtE .Lt (.cst (.int 0)) (.var 4) (.bcall false .len (.acons (.var 2) .anil)))) .anil)))) (.scons (.ret (.cst (.bl false)))
  .snil) .snil)
  (.scons (.ite (.cmp .Lt (.bcall false .len (.acons (.dcomp false [4] (.name 4) (.iseq (.var 1)) (.cst (.bl true)) (.var 4) (.cst (.bl true))) .anil)) (.bcall false .len (.acons (.var 1) .anil))) (.scons (.ret (.cst (.bl false)))
  .snil) .snil)
  (.scons (.asg (.tgt (.name 3)) (.comp false [4] (.name 4) (.iseq (.var 1)) (.cst (.bl true)) (.idx (.var 2) (.var 4))))
  (.scons (.ite (.not (.bcall false .all (.acons (.comp false [5] (.name 5) (.irange (.acons (.bcall false .len (.acons (.var 3) .anil)) .anil)) (.cst (.bl true)) (.cmp .Eq (.idx (.idx (.var 3) (.var 5)) (.cst (.int 1))) (.idx (.idx (.var 3) (.bin false .Mod (.bin false .Add (.var 5) (.cst (.int 1))) (.bcall false .len (.acons (.var 3) .anil)))) (.cst (.int 0))))) .anil))) (.scons (.ret (.cst (.bl false)))
  .snil) .snil)
  (.scons (.ret (.cmp .Lt (.bcall false .sum (.acons (.comp false [6, 7] (.tup (.tcons (.name 6) (.tcons (.name 6) (.tcons (.name 7) .tnil)))) (.iseq (.var 3)) (.cst (.bl true)) (.var 7)) .anil)) (.cst (.int 0))))
  .snil))))))
def t_takes_circle : DefT := ⟨"takes_circle", top 10, ["problem", "circle", "bounds", "own", "number", "k", "_", "c"], ["problem", "circle"], ⟨2, 8, b_takes_circle⟩⟩
def b_need_numbers : FS := (.scons (.ite (.cmp .Eq (.idx (.call false "solve_differences" (.acons (.var 0) .anil)) (.cst (.int 0))) (.cst (.str "circle"))) (.scons (.raise "InputError" (.acons (.cst (.str "circle")) .anil))
  .snil) .snil)
  .snil)
def t_need_numbers : DefT := ⟨"need_numbers", top 11, ["problem"], ["problem"], ⟨1, 1, b_need_numbers⟩⟩
def b_reached_from : FS := (.scons (.asg (.tgt (.name 2)) (.bin true .Mult (.lst false (.acons (.cst .non) .anil)) (.idx (.var 0) (.cst (.int 0)))))
  (.scons (.asg (.sub (.var 2) (.var 1)) (.cst (.int 0)))
  (.scons (.asg (.tgt (.name 3)) (.new "Lowering" (.acons (.var 0) (.acons (.var 2) .anil))))
  (.scons (.expr (.meth false "Lowering" "go" (.var 3) .anil))
  (.scons (.ret (.tup (.acons (.attr (.var 3) "numbers") (.acons (.attr (.var 3) "last") .anil))))
  .snil)))))
def t_reached_from : DefT := ⟨"reached_from", top 12, ["problem", "b", "numbers", "lowering"], ["problem", "b"], ⟨2, 4, b_reached_from⟩⟩
def b_tightest : FS := (.scons (.expr (.call false "need_numbers" (.acons (.var 0) .anil)))
  (.scons (.ite (.or (.not (.chain .LtE .Lt (.cst (.int 0)) (.var 1) (.idx (.var 0) (.cst (.int 0))))) (.not (.chain .LtE .Lt (.cst (.int 0)) (.var 2) (.idx (.var 0) (.cst (.int 0)))))) (.scons (.raise "InputError" (.acons (.cst (.str "number")) .anil))
  .snil) .snil)
  (.scons (.ite (.cmp .Eq (.var 1) (.var 2)) (.scons (.ret (.tup (.acons (.cst (.int 0)) (.acons (.tup .anil) .anil))))
  .snil) .snil)
  (.scons (.asg (.tgt (.tup (.tcons (.name 5) (.tcons (.name 6) .tnil)))) (.call false "reached_from" (.acons (.var 0) (.acons (.var 2) .anil))))
  (.scons (.ite (.cmp .Is (.idx (.var 5) (.var 1)) (.cst .non)) (.scons (.ret (.cst .non))
  .snil) .snil)
  (.scons (.asg (.tgt (.name 3)) (.lst true .anil))
  (.scons (.asg (.tgt (.name 4)) (.var 1))
  (.scons (.while_ (.cmp .NotEq (.var 4) (.var 2)) (.scons (.expr (.bmeth .append (.var 3) (.acons (.idx (.var 6) (.var 4)) .anil)))
  (.scons (.asg (.tgt (.name 4)) (.idx (.idx (.idx (.var 0) (.cst (.int 1))) (.idx (.var 6) (.var 4))) (.cst (.int 1))))
  .snil)) [])
  (.scons (.ret (.tup (.acons (.idx (.var 5) (.var 1)) (.acons (.bcall false .tuple (.acons (.var 3) .anil)) .anil))))
  .snil)))))))))
def t_tightest : DefT := ⟨"tightest", top 13, ["problem", "a", "b", "found", "at", "numbers", "last"], ["problem", "a", "b"], ⟨3, 7, b_tightest⟩⟩
def b_follows_bound : FS := (.scons (.asg (.tgt (.tup (.tcons (.name 3) (.tcons (.name 4) (.tcons (.name 5) .tnil))))) (.var 1))
  (.scons (.asg (.tgt (.name 2)) (.call false "tightest" (.acons (.var 0) (.acons (.var 3) (.acons (.var 4) .anil)))))
  (.scons (.ite (.and (.cmp .IsNot (.var 2) (.cst .non)) (.cmp .LtE (.idx (.var 2) (.cst (.int 0))) (.var 5))) (.scons (.ret (.tup (.acons (.cst (.str "yes")) (.acons (.idx (.var 2) (.cst (.int 1))) .anil))))
  .snil) .snil)
  (.scons (.ret (.tup (.acons (.cst (.str "no")) (.acons (.idx (.call false "solve_differences" (.acons (.tup (.acons (.idx (.var 0) (.cst (.int 0))) (.acons (.bin false .Add (.idx (.var 0) (.cst (.int 1))) (.tup (.acons (.tup (.acons (.var 4) (.acons (.var 3) (.acons (.bin false .Sub (.neg (.var 5)) (.cst (.int 1))) .anil)))) .anil))) .anil))) .anil)) (.cst (.int 1))) .anil))))
  .snil))))
def t_follows_bound : DefT := ⟨"follows_bound", top 14, ["problem", "bound", "found", "a", "b", "c"], ["problem", "bound"], ⟨2, 6, b_follows_bound⟩⟩
def b__law_begin : FS := (.scons (.asg (.tgt (.name 1)) (.cst (.int 1)))
  (.scons (.for_ (.name 2) (.iseq (.var 0)) (.scons (.asg (.tgt (.name 1)) (.bin false .Mod (.bin false .Add (.bin false .Add (.bin false .Mult (.var 1) (.cst (.int 69621))) (.bin false .Mod (.bcall false .int (.acons (.var 2) .anil)) (.cst (.int 2147483629)))) (.cst (.int 7))) (.cst (.int 2147483647))))
  .snil) [2])
  (.scons (.ret (.lst true (.acons (.bcall false .list (.acons (.var 0) .anil)) (.acons (.cst (.int 0)) (.acons (.cst (.int 0)) (.acons (.var 1) .anil))))))
  .snil)))
def t__law_begin : DefT := ⟨"_law_begin", top 16, ["script", "seed", "cell"], ["script"], ⟨1, 3, b__law_begin⟩⟩
def b__law_take : FS := (.scons (.ite (.and (.cmp .Eq (.idx (.var 0) (.cst (.int 2))) (.cst (.int 0))) (.cmp .Lt (.idx (.var 0) (.cst (.int 1))) (.bcall false .len (.acons (.idx (.var 0) (.cst (.int 0))) .anil)))) (.scons (.asg (.sub (.var 0) (.cst (.int 2))) (.bcall false .abs (.acons (.bcall false .int (.acons (.idx (.idx (.var 0) (.cst (.int 0))) (.idx (.var 0) (.cst (.int 1)))) .anil)) .anil)))
  (.scons (.asg (.sub (.var 0) (.cst (.int 1))) (.bin false .Add (.idx (.var 0) (.cst (.int 1))) (.cst (.int 1))))
  (.scons (.ite (.cmp .Lt (.idx (.var 0) (.cst (.int 2))) (.bin false .Pow (.cst (.int 10)) (.cst (.int 18)))) (.scons (.asg (.tgt (.name 3)) (.bcall false .int (.acons (.idx (.var 0) (.cst (.int 2))) .anil)))
  (.scons (.asg (.sub (.var 0) (.cst (.int 2))) (.cst (.int 0)))
  (.scons (.ret (.bin false .Mod (.var 3) (.var 1)))
  .snil))) .snil)
  .snil))) .snil)
  (.scons (.ite (.cmp .Gt (.idx (.var 0) (.cst (.int 2))) (.cst (.int 0))) (.scons (.asg (.tgt (.name 2)) (.bin false .Mod (.bcall false .int (.acons (.idx (.var 0) (.cst (.int 2))) .anil)) (.var 1)))
  (.scons (.asg (.sub (.var 0) (.cst (.int 2))) (.bin false .FloorDiv (.bcall false .int (.acons (.idx (.var 0) (.cst (.int 2))) .anil)) (.var 1)))
  (.scons (.ret (.var 2))
  .snil))) .snil)
  (.scons (.asg (.sub (.var 0) (.cst (.int 3))) (.bin false .Mod (.bcall false .int (.acons (.bin false .Add (.bin false .Mult (.idx (.var 0) (.cst (.int 3))) (.cst (.int 48271))) (.cst (.int 11))) .anil)) (.cst (.int 2147483647))))
  (.scons (.ret (.bin false .Mod (.bcall false .int (.acons (.bin false .FloorDiv (.idx (.var 0) (.cst (.int 3))) (.cst (.int 3))) .anil)) (.var 1)))
  .snil))))
def t__law_take : DefT := ⟨"_law_take", top 17, ["d", "many", "digit", "small"], ["d", "many"], ⟨2, 4, b__law_take⟩⟩
def b__law_pick : FS := (.scons (.ret (.idx (.var 1) (.call false "_law_take" (.acons (.var 0) (.acons (.bcall false .len (.acons (.var 1) .anil)) .anil)))))
  .snil)
def t__law_pick : DefT := ⟨"_law_pick", top 18, ["d", "menu"], ["d", "menu"], ⟨2, 2, b__law_pick⟩⟩
def b__law_bounds : FS := (.scons (.asg (.tgt (.name 3)) (.bin false .Add (.cst (.int 2)) (.call false "_law_take" (.acons (.var 0) (.acons (.bin false .Sub (.var 1) (.cst (.int 1))) .anil)))))
  (.scons (.asg (.tgt (.name 4)) (.lst true .anil))
  (.scons (.for_ (.name 5) (.irange (.acons (.call false "_law_take" (.acons (.var 0) (.acons (.bin false .Add (.var 2) (.cst (.int 1))) .anil))) .anil)) (.scons (.asg (.tgt (.name 6)) (.call false "_law_take" (.acons (.var 0) (.acons (.var 3) .anil))))
  (.scons (.asg (.tgt (.name 7)) (.call false "_law_take" (.acons (.var 0) (.acons (.bin false .Sub (.var 3) (.cst (.int 1))) .anil))))
  (.scons (.expr (.bmeth .append (.var 4) (.acons (.tup (.acons (.var 6) (.acons (.ite (.cmp .Lt (.var 7) (.var 6)) (.var 7) (.bin false .Add (.var 7) (.cst (.int 1)))) (.acons (.bin false .Sub (.call false "_law_take" (.acons (.var 0) (.acons (.cst (.int 9)) .anil))) (.cst (.int 3))) .anil)))) .anil)))
  .snil))) [5, 6, 7])
  (.scons (.ret (.tup (.acons (.var 3) (.acons (.bcall false .tuple (.acons (.var 4) .anil)) .anil))))
  .snil))))
def t__law_bounds : DefT := ⟨"_law_bounds", top 19, ["d", "most", "many", "size", "bounds", "k", "a", "b"], ["d", "most", "many"], ⟨3, 8, b__law_bounds⟩⟩
def b__law_table : FS := (.scons (.asg (.tgt (.tup (.tcons (.name 3) (.tcons (.name 4) .tnil)))) (.var 0))
  (.scons (.asg (.tgt (.name 1)) (.comp true [5] (.name 5) (.irange (.acons (.var 3) .anil)) (.cst (.bl true)) (.comp true [6] (.name 6) (.irange (.acons (.var 3) .anil)) (.cst (.bl true)) (.ite (.cmp .Eq (.var 5) (.var 6)) (.cst (.int 0)) (.cst .non)))))
  (.scons (.for_ (.tup (.tcons (.name 5) (.tcons (.name 6) (.tcons (.name 7) .tnil)))) (.iseq (.var 4)) (.scons (.ite (.or (.cmp .Is (.idx (.idx (.var 1) (.var 5)) (.var 6)) (.cst .non)) (.cmp .Lt (.var 7) (.idx (.idx (.var 1) (.var 5)) (.var 6)))) (.scons (.asg (.sub (.idx (.var 1) (.var 5)) (.var 6)) (.var 7))
  .snil) .snil)
  .snil) [7])
  (.scons (.for_ (.name 2) (.irange (.acons (.var 3) .anil)) (.scons (.for_ (.name 5) (.irange (.acons (.var 3) .anil)) (.scons (.for_ (.name 6) (.irange (.acons (.var 3) .anil)) (.scons (.ite (.and (.cmp .IsNot (.idx (.idx (.var 1) (.var 5)) (.var 2)) (.cst .non)) (.cmp .IsNot (.idx (.idx (.var 1) (.var 2)) (.var 6)) (.cst .non))) (.scons (.asg (.tgt (.name 8)) (.bin false .Add (.idx (.idx (.var 1) (.var 5)) (.var 2)) (.idx (.idx (.var 1) (.var 2)) (.var 6))))
  (.scons (.ite (.or (.cmp .Is (.idx (.idx (.var 1) (.var 5)) (.var 6)) (.cst .non)) (.cmp .Lt (.var 8) (.idx (.idx (.var 1) (.var 5)) (.var 6)))) (.scons (.asg (.sub (.idx (.var 1) (.var 5)) (.var 6)) (.var 8))
  .snil) .snil)
  .snil)) .snil)
  .snil) [8])
  .snil) [8])
  .snil) [2, 8])
  (.scons (.ret (.var 1))
  .snil)))))
def t__law_table : DefT := ⟨"_law_table", top 20, ["problem", "table", "k", "size", "bounds", "a", "b", "c", "own"], ["problem"], ⟨1, 9, b__law_table⟩⟩
def b__law_has : FS := (.scons (.asg (.tgt (.name 1)) (.call false "_law_table" (.acons (.var 0) .anil)))
  (.scons (.ret (.bcall false .all (.acons (.comp false [2] (.name 2) (.irange (.acons (.idx (.var 0) (.cst (.int 0))) .anil)) (.cst (.bl true)) (.cmp .GtE (.idx (.idx (.var 1) (.var 2)) (.var 2)) (.cst (.int 0)))) .anil)))
  .snil))
def t__law_has : DefT := ⟨"_law_has", top 21, ["problem", "table", "a"], ["problem"], ⟨1, 3, b__law_has⟩⟩
def b__law_fits : FS := (.scons (.ret (.and (.cmp .Eq (.bcall false .len (.acons (.var 1) .anil)) (.idx (.var 0) (.cst (.int 0)))) (.bcall false .all (.acons (.comp false [2, 3, 4] (.tup (.tcons (.name 2) (.tcons (.name 3) (.tcons (.name 4) .tnil)))) (.iseq (.idx (.var 0) (.cst (.int 1)))) (.cst (.bl true)) (.cmp .LtE (.bin false .Sub (.idx (.var 1) (.var 2)) (.idx (.var 1) (.var 3))) (.var 4))) .anil))))
  .snil)
def t__law_fits : DefT := ⟨"_law_fits", top 22, ["problem", "numbers", "a", "b", "c"], ["problem", "numbers"], ⟨2, 5, b__law_fits⟩⟩
def b__law_circle : FS := (.scons (.asg (.tgt (.name 2)) (.idx (.var 0) (.cst (.int 1))))
  (.scons (.ite (.or (.cmp .Eq (.bcall false .len (.acons (.var 1) .anil)) (.cst (.int 0))) (.or (.cmp .Lt (.lset (.var 1)) (.bcall false .len (.acons (.var 1) .anil))) (.not (.bcall false .all (.acons (.comp false [4] (.name 4) (.iseq (.var 1)) (.cst (.bl true)) (.chain .LtE .Lt (.cst (.int 0)) (.var 4) (.bcall false .len (.acons (.var 2) .anil)))) .anil))))) (.scons (.ret (.cst (.bl false)))
  .snil) .snil)
  (.scons (.asg (.tgt (.name 3)) (.comp false [4] (.name 4) (.iseq (.var 1)) (.cst (.bl true)) (.idx (.var 2) (.var 4))))
  (.scons (.ite (.bcall false .any (.acons (.comp false [4] (.name 4) (.irange (.acons (.bcall false .len (.acons (.var 3) .anil)) .anil)) (.cst (.bl true)) (.cmp .NotEq (.idx (.idx (.var 3) (.var 4)) (.cst (.int 1))) (.idx (.idx (.var 3) (.ite (.cmp .Lt (.bin false .Add (.var 4) (.cst (.int 1))) (.bcall false .len (.acons (.var 3) .anil))) (.bin false .Add (.var 4) (.cst (.int 1))) (.cst (.int 0)))) (.cst (.int 0))))) .anil)) (.scons (.ret (.cst (.bl false)))
  .snil) .snil)
  (.scons (.ret (.cmp .Lt (.bcall false .sum (.acons (.comp false [5, 6, 7] (.tup (.tcons (.name 5) (.tcons (.name 6) (.tcons (.name 7) .tnil)))) (.iseq (.var 3)) (.cst (.bl true)) (.var 7)) .anil)) (.cst (.int 0))))
  .snil)))))
def t__law_circle : DefT := ⟨"_law_circle", top 23, ["problem", "circle", "bounds", "own", "k", "a", "b", "c"], ["problem", "circle"], ⟨2, 8, b__law_circle⟩⟩
def b__law_code : FS := (.scons (.try_ (.scons (.expr (.call false "check_differences" (.acons (.var 0) .anil)))
  .snil) "InputError" 1 .code)
  (.scons (.ret (.cst (.str "")))
  .snil))
def t__law_code : DefT := ⟨"_law_code", top 24, ["problem", "e"], ["problem"], ⟨1, 2, b__law_code⟩⟩
def b__law_told : FS := (.scons (.try_ (.scons (.ret (.call false "tightest" (.acons (.var 0) (.acons (.var 1) (.acons (.var 2) .anil)))))
  .snil) "InputError" 3 .code)
  .snil)
def t__law_told : DefT := ⟨"_law_told", top 25, ["problem", "a", "b", "e"], ["problem", "a", "b"], ⟨3, 4, b__law_told⟩⟩
def b__law_leads : FS := (.scons (.asg (.tgt (.name 4)) (.var 2))
  (.scons (.asg (.tgt (.name 5)) (.cst (.int 0)))
  (.scons (.for_ (.name 6) (.iseq (.var 1)) (.scons (.asg (.tgt (.tup (.tcons (.name 7) (.tcons (.name 8) (.tcons (.name 9) .tnil))))) (.idx (.idx (.var 0) (.cst (.int 1))) (.var 6)))
  (.scons (.ite (.cmp .NotEq (.var 7) (.var 4)) (.scons (.ret (.cst .non))
  .snil) .snil)
  (.scons (.asg (.tgt (.name 4)) (.var 8))
  (.scons (.asg (.tgt (.name 5)) (.bin false .Add (.var 5) (.var 9)))
  .snil)))) [6, 7, 8, 9])
  (.scons (.ret (.ite (.cmp .Eq (.var 4) (.var 3)) (.var 5) (.cst .non)))
  .snil))))
def t__law_leads : DefT := ⟨"_law_leads", top 26, ["problem", "ways", "a", "b", "at", "total", "k", "one", "other", "c"], ["problem", "ways", "a", "b"], ⟨4, 10, b__law_leads⟩⟩
def b_law : FS := (.scons (.asg (.tgt (.name 1)) (.call true "_law_begin" (.acons (.var 0) .anil)))
  (.scons (.asg (.tgt (.name 2)) (.lst true (.acons (.tup (.acons (.tup (.acons (.cst (.int 0)) (.acons (.tup .anil) .anil))) (.acons (.cst (.str "many")) .anil))) (.acons (.tup (.acons (.tup (.acons (.cst (.int 13)) (.acons (.tup .anil) .anil))) (.acons (.cst (.str "many")) .anil))) (.acons (.tup (.acons (.tup (.acons (.cst (.int 2)) (.acons (.bin false .Mult (.tup (.acons (.tup (.acons (.cst (.int 0)) (.acons (.cst (.int 1)) (.acons (.cst (.int 0)) .anil)))) .anil)) (.cst (.int 61))) .anil))) (.acons (.cst (.str "bounds")) .anil))) (.acons (.tup (.acons (.tup (.acons (.cst (.int 2)) (.acons (.tup (.acons (.tup (.acons (.cst (.int 0)) (.acons (.cst (.int 2)) (.acons (.cst (.int 0)) .anil)))) .anil)) .anil))) (.acons (.cst (.str "bound")) .anil))) (.acons (.tup (.acons (.tup (.acons (.cst (.int 2)) (.acons (.tup (.acons (.tup (.acons (.bin false .Sub (.cst (.int 0)) (.cst (.int 1))) (.acons (.cst (.int 0)) (.acons (.cst (.int 0)) .anil)))) .anil)) .anil))) (.acons (.cst (.str "bound")) .anil))) .anil)))))))
  (.scons (.expr (.bmeth .extend (.var 2) (.acons (.lst false (.acons (.tup (.acons (.tup (.acons (.cst (.int 2)) (.acons (.tup (.acons (.tup (.acons (.cst (.int 1)) (.acons (.cst (.int 1)) (.acons (.cst (.int 0)) .anil)))) .anil)) .anil))) (.acons (.cst (.str "bound")) .anil))) (.acons (.tup (.acons (.tup (.acons (.cst (.int 13)) (.acons (.tup (.acons (.tup (.acons (.cst (.int 0)) (.acons (.cst (.int 0)) (.acons (.cst (.int 0)) .anil)))) .anil)) .anil))) (.acons (.cst (.str "many")) .anil))) (.acons (.tup (.acons (.tup (.acons (.cst (.int 12)) (.acons (.bin false .Mult (.tup (.acons (.tup (.acons (.cst (.int 11)) (.acons (.cst (.int 0)) (.acons (.bin false .Sub (.cst (.int 0)) (.cst (.int 99))) .anil)))) .anil)) (.cst (.int 60))) .anil))) (.acons (.cst (.str "")) .anil))) .anil)))) .anil)))
  (.scons (.ite (.bcall false .any (.acons (.comp false [3, 19] (.tup (.tcons (.name 3) (.tcons (.name 19) .tnil))) (.iseq (.var 2)) (.cst (.bl true)) (.cmp .NotEq (.call false "_law_code" (.acons (.var 3) .anil)) (.var 19))) .anil)) (.scons (.ret (.cst (.bl false)))
  .snil) .snil)
  (.scons (.asg (.tgt (.name 3)) (.call false "_law_bounds" (.acons (.var 1) (.acons (.cst (.int 5)) (.acons (.cst (.int 9)) .anil)))))
  (.scons (.asg (.tgt (.tup (.tcons (.name 9) (.tcons (.name 10) .tnil)))) (.var 3))
  (.scons (.asg (.tgt (.name 4)) (.call false "_law_table" (.acons (.var 3) .anil)))
  (.scons (.asg (.tgt (.tup (.tcons (.name 11) (.tcons (.name 12) .tnil)))) (.call false "solve_differences" (.acons (.var 3) .anil)))
  (.scons (.ite (.cmp .NotEq (.cmp .Eq (.var 11) (.cst (.str "numbers"))) (.call false "_law_has" (.acons (.var 3) .anil))) (.scons (.ret (.cst (.bl false)))
  .snil) .snil)
  (.scons (.for_ (.name 5) (.irange (.acons (.cst (.int 3)) .anil)) (.scons (.asg (.tgt (.name 13)) (.bcall false .tuple (.acons (.comp false [20] (.name 20) (.irange (.acons (.var 9) .anil)) (.cst (.bl true)) (.bin false .Sub (.call false "_law_take" (.acons (.var 1) (.acons (.cst (.int 9)) .anil))) (.cst (.int 4)))) .anil)))
  (.scons (.ite (.or (.cmp .NotEq (.call false "fits" (.acons (.var 3) (.acons (.var 13) .anil))) (.call false "_law_fits" (.acons (.var 3) (.acons (.var 13) .anil)))) (.call false "fits" (.acons (.var 3) (.acons (.bin false .Add (.var 13) (.tup (.acons (.cst (.int 0)) .anil))) .anil)))) (.scons (.ret (.cst (.bl false)))
  .snil) .snil)
  .snil)) [13])
  (.scons (.asg (.tgt (.name 6)) (.ite (.cmp .Eq (.var 11) (.cst (.str "circle"))) (.var 12) (.bcall false .tuple (.acons (.comp false [20] (.name 20) (.irange (.acons (.cst (.int 2)) .anil)) (.cst (.bl true)) (.call false "_law_take" (.acons (.var 1) (.acons (.bin false .Add (.bcall false .len (.acons (.var 10) .anil)) (.cst (.int 1))) .anil)))) .anil))))
  (.scons (.ite (.and (.cmp .Eq (.var 11) (.cst (.str "circle"))) (.not (.call false "_law_circle" (.acons (.var 3) (.acons (.var 6) .anil))))) (.scons (.ret (.cst (.bl false)))
  .snil) .snil)
  (.scons (.for_ (.name 5) (.irange (.acons (.cst (.int 4)) .anil)) (.scons (.ite (.cmp .NotEq (.call false "takes_circle" (.acons (.var 3) (.acons (.var 6) .anil))) (.call false "_law_circle" (.acons (.var 3) (.acons (.var 6) .anil)))) (.scons (.ret (.cst (.bl false)))
  .snil) .snil)
  (.scons (.asg (.tgt (.name 14)) (.call false "_law_take" (.acons (.var 1) (.acons (.bin false .Add (.bcall false .len (.acons (.var 6) .anil)) (.cst (.int 1))) .anil))))
  (.scons (.asg (.tgt (.name 15)) (.bin false .Sub (.call false "_law_take" (.acons (.var 1) (.acons (.bin false .Add (.bcall false .len (.acons (.var 10) .anil)) (.cst (.int 2))) .anil))) (.cst (.int 1))))
  (.scons (.asg (.tgt (.name 6)) (.call false "_law_pick" (.acons (.var 1) (.acons (.lst false (.acons (.bin false .Add (.slice false (.var 6) .nopart (.part (.var 14))) (.slice false (.var 6) (.part (.bin false .Add (.var 14) (.cst (.int 1)))) .nopart)) (.acons (.bin false .Add (.bin false .Add (.slice false (.var 6) .nopart (.part (.var 14))) (.tup (.acons (.var 15) .anil))) (.slice false (.var 6) (.part (.var 14)) .nopart)) (.acons (.bin false .Add (.slice false (.var 6) (.part (.var 14)) .nopart) (.slice false (.var 6) .nopart (.part (.var 14)))) .anil)))) .anil))))
  .snil)))) [14, 15])
  (.scons (.ite (.cmp .Eq (.var 11) (.cst (.str "circle"))) (.scons (.ret (.and (.cmp .Eq (.call false "_law_told" (.acons (.var 3) (.acons (.cst (.int 0)) (.acons (.cst (.int 1)) .anil)))) (.cst (.str "circle"))) (.cmp .Eq (.call false "_law_told" (.acons (.var 3) (.acons (.cst (.int 0)) (.acons (.cst (.int 99)) .anil)))) (.cst (.str "circle")))))
  .snil) .snil)
  (.scons (.asg (.tgt (.name 7)) (.bcall false .tuple (.acons (.comp false [8] (.name 8) (.irange (.acons (.var 9) .anil)) (.cst (.bl true)) (.bcall false .min (.acons (.comp false [16] (.name 16) (.irange (.acons (.var 9) .anil)) (.cmp .IsNot (.idx (.idx (.var 4) (.var 8)) (.var 16)) (.cst .non)) (.idx (.idx (.var 4) (.var 8)) (.var 16))) .anil))) .anil)))
  (.scons (.ite (.or (.cmp .NotEq (.var 12) (.var 7)) (.not (.call false "_law_fits" (.acons (.var 3) (.acons (.var 12) .anil))))) (.scons (.ret (.cst (.bl false)))
  .snil) .snil)
  (.scons (.for_ (.name 8) (.irange (.acons (.var 9) .anil)) (.scons (.for_ (.name 16) (.irange (.acons (.var 9) .anil)) (.scons (.asg (.tgt (.name 17)) (.call false "_law_told" (.acons (.var 3) (.acons (.var 8) (.acons (.var 16) .anil)))))
  (.scons (.ite (.or (.cmp .NotEq (.cmp .Is (.var 17) (.cst .non)) (.cmp .Is (.idx (.idx (.var 4) (.var 8)) (.var 16)) (.cst .non))) (.and (.cmp .IsNot (.var 17) (.cst .non)) (.or (.cmp .NotEq (.idx (.var 17) (.cst (.int 0))) (.idx (.idx (.var 4) (.var 8)) (.var 16))) (.cmp .NotEq (.call false "_law_leads" (.acons (.var 3) (.acons (.idx (.var 17) (.cst (.int 1))) (.acons (.var 8) (.acons (.var 16) .anil))))) (.idx (.var 17) (.cst (.int 0))))))) (.scons (.ret (.cst (.bl false)))
  .snil) .snil)
  (.scons (.ite (.cmp .NotEq (.var 8) (.var 16)) (.scons (.asg (.tgt (.name 18)) (.bin false .Sub (.call false "_law_take" (.acons (.var 1) (.acons (.cst (.int 9)) .anil))) (.cst (.int 4))))
  (.scons (.asg (.tgt (.tup (.tcons (.name 21) (.tcons (.name 22) .tnil)))) (.call false "follows_bound" (.acons (.var 3) (.acons (.tup (.acons (.var 8) (.acons (.var 16) (.acons (.var 18) .anil)))) .anil))))
  (.scons (.ite (.cmp .NotEq (.cmp .Eq (.var 21) (.cst (.str "yes"))) (.and (.cmp .IsNot (.idx (.idx (.var 4) (.var 8)) (.var 16)) (.cst .non)) (.cmp .LtE (.idx (.idx (.var 4) (.var 8)) (.var 16)) (.var 18)))) (.scons (.ret (.cst (.bl false)))
  .snil) .snil)
  (.scons (.ite (.and (.cmp .Eq (.var 21) (.cst (.str "yes"))) (.or (.cmp .Is (.call false "_law_leads" (.acons (.var 3) (.acons (.var 22) (.acons (.var 8) (.acons (.var 16) .anil))))) (.cst .non)) (.cmp .Gt (.call false "_law_leads" (.acons (.var 3) (.acons (.var 22) (.acons (.var 8) (.acons (.var 16) .anil))))) (.var 18)))) (.scons (.ret (.cst (.bl false)))
  .snil) .snil)
  (.scons (.ite (.and (.cmp .Eq (.var 21) (.cst (.str "no"))) (.or (.not (.call false "_law_fits" (.acons (.var 3) (.acons (.var 22) .anil)))) (.cmp .LtE (.bin false .Sub (.idx (.var 22) (.var 8)) (.idx (.var 22) (.var 16))) (.var 18)))) (.scons (.ret (.cst (.bl false)))
  .snil) .snil)
  .snil))))) .snil)
  .snil))) [16, 17, 18, 21, 22])
  .snil) [8, 16, 17, 18, 21, 22])
  (.scons (.ret (.and (.cmp .Eq (.call false "_law_told" (.acons (.var 3) (.acons (.var 9) (.acons (.cst (.int 0)) .anil)))) (.cst (.str "number"))) (.and (.cmp .Eq (.call false "_law_told" (.acons (.var 3) (.acons (.cst (.int 0)) (.acons (.bin false .Sub (.cst (.int 0)) (.cst (.int 1))) .anil)))) (.cst (.str "number"))) (.cmp .Eq (.call false "_law_told" (.acons (.var 3) (.acons (.cst (.int 0)) (.acons (.cst (.int 0)) .anil)))) (.tup (.acons (.cst (.int 0)) (.acons (.tup .anil) .anil)))))))
  .snil))))))))))))))))))
def t_law : DefT := ⟨"law", top 27, ["script", "d", "bad", "problem", "table", "turn", "circle", "greatest", "a", "size", "bounds", "word", "thing", "numbers", "at", "more", "b", "told", "c", "code", "k", "answer", "reason"], ["script"], ⟨1, 23, b_law⟩⟩
def b_Lowering___init__ : FS := (.scons (.asg (.attr (.var 0) "problem") (.var 1))
  (.scons (.asg (.attr (.var 0) "numbers") (.bcall true .list (.acons (.var 2) .anil)))
  (.scons (.asg (.attr (.var 0) "last") (.bin true .Mult (.lst false (.acons (.cst .non) .anil)) (.idx (.var 1) (.cst (.int 0)))))
  .snil)))
def t_Lowering___init__ : DefT := ⟨"Lowering.__init__", inC 8 0, ["self", "problem", "numbers"], ["self", "problem", "numbers"], ⟨3, 3, b_Lowering___init__⟩⟩
def b_Lowering_turn : FS := (.scons (.asg (.tgt (.name 1)) (.cst .non))
  (.scons (.for_ (.tup (.tcons (.name 2) (.tcons (.tup (.tcons (.name 3) (.tcons (.name 4) (.tcons (.name 5) .tnil)))) .tnil))) (.ienum (.acons (.idx (.attr (.var 0) "problem") (.cst (.int 1))) .anil)) (.scons (.ite (.and (.cmp .IsNot (.idx (.attr (.var 0) "numbers") (.var 4)) (.cst .non)) (.or (.cmp .Is (.idx (.attr (.var 0) "numbers") (.var 3)) (.cst .non)) (.cmp .Gt (.idx (.attr (.var 0) "numbers") (.var 3)) (.bin false .Add (.idx (.attr (.var 0) "numbers") (.var 4)) (.var 5))))) (.scons (.asg (.sub (.attr (.var 0) "numbers") (.var 3)) (.bin false .Add (.idx (.attr (.var 0) "numbers") (.var 4)) (.var 5)))
  (.scons (.asg (.sub (.attr (.var 0) "last") (.var 3)) (.var 2))
  (.scons (.asg (.tgt (.name 1)) (.var 3))
  .snil))) .snil)
  .snil) [2, 3, 4, 5])
  (.scons (.ret (.var 1))
  .snil)))
def t_Lowering_turn : DefT := ⟨"Lowering.turn", inC 8 1, ["self", "found", "number", "a", "b", "c"], ["self"], ⟨1, 6, b_Lowering_turn⟩⟩
def b_Lowering_circle : FS := (.scons (.asg (.tgt (.name 2)) (.idx (.attr (.var 0) "problem") (.cst (.int 1))))
  (.scons (.for_ (.name 3) (.irange (.acons (.idx (.attr (.var 0) "problem") (.cst (.int 0))) .anil)) (.scons (.asg (.tgt (.name 1)) (.idx (.idx (.var 2) (.idx (.attr (.var 0) "last") (.var 1))) (.cst (.int 1))))
  .snil) [3])
  (.scons (.asg (.tgt (.name 4)) (.lst true (.acons (.idx (.attr (.var 0) "last") (.var 1)) .anil)))
  (.scons (.while_ (.cmp .NotEq (.idx (.idx (.var 2) (.idx (.var 4) (.neg (.cst (.int 1))))) (.cst (.int 1))) (.var 1)) (.scons (.expr (.bmeth .append (.var 4) (.acons (.idx (.attr (.var 0) "last") (.idx (.idx (.var 2) (.idx (.var 4) (.neg (.cst (.int 1))))) (.cst (.int 1)))) .anil)))
  .snil) [])
  (.scons (.ret (.bcall false .tuple (.acons (.var 4) .anil)))
  .snil)))))
def t_Lowering_circle : DefT := ⟨"Lowering.circle", inC 8 2, ["self", "start", "bounds", "_", "found"], ["self", "start"], ⟨2, 5, b_Lowering_circle⟩⟩
def b_Lowering_go : FS := (.scons (.for_ (.name 1) (.irange (.acons (.idx (.attr (.var 0) "problem") (.cst (.int 0))) .anil)) (.scons (.ite (.cmp .Is (.meth false "Lowering" "turn" (.var 0) .anil) (.cst .non)) (.scons (.ret (.cst .non))
  .snil) .snil)
  .snil) [1])
  (.scons (.asg (.tgt (.name 2)) (.meth false "Lowering" "turn" (.var 0) .anil))
  (.scons (.ret (.ite (.cmp .Is (.var 2) (.cst .non)) (.cst .non) (.meth false "Lowering" "circle" (.var 0) (.acons (.var 2) .anil))))
  .snil)))
def t_Lowering_go : DefT := ⟨"Lowering.go", inC 8 3, ["self", "_", "found"], ["self"], ⟨1, 3, b_Lowering_go⟩⟩
def gl : List (Str × FL.D) := [("MOST_BOUNDS", .int 60), ("MOST_NUMBERS", .int 12)]
def sg : Sg := ⟨["check_differences", "fits", "solve_differences", "takes_circle", "need_numbers", "reached_from", "tightest", "follows_bound", "_law_begin", "_law_take", "_law_pick", "_law_bounds", "_law_table", "_law_has", "_law_fits", "_law_circle", "_law_code", "_law_told", "_law_leads", "law"], ["Lowering"], ["abs", "all", "any", "enumerate", "int", "len", "list", "min", "range", "set", "sum", "tuple"], gl, ["InputError"], [], ["last", "numbers", "problem"], [("Lowering", "circle"), ("Lowering", "go"), ("Lowering", "turn")], ["Lowering"]⟩
def pg : Prog := ⟨[(("check_differences" : Str), t_check_differences.d), (("fits" : Str), t_fits.d), (("solve_differences" : Str), t_solve_differences.d), (("takes_circle" : Str), t_takes_circle.d), (("need_numbers" : Str), t_need_numbers.d), (("reached_from" : Str), t_reached_from.d), (("tightest" : Str), t_tightest.d), (("follows_bound" : Str), t_follows_bound.d), (("_law_begin" : Str), t__law_begin.d), (("_law_take" : Str), t__law_take.d), (("_law_pick" : Str), t__law_pick.d), (("_law_bounds" : Str), t__law_bounds.d), (("_law_table" : Str), t__law_table.d), (("_law_has" : Str), t__law_has.d), (("_law_fits" : Str), t__law_fits.d), (("_law_circle" : Str), t__law_circle.d), (("_law_code" : Str), t__law_code.d), (("_law_told" : Str), t__law_told.d), (("_law_leads" : Str), t__law_leads.d), (("law" : Str), t_law.d), (("Lowering.__init__" : Str), t_Lowering___init__.d), (("Lowering.turn" : Str), t_Lowering_turn.d), (("Lowering.circle" : Str), t_Lowering_circle.d), (("Lowering.go" : Str), t_Lowering_go.d)], gl, 1000000000, ["Lowering"]⟩
def defs : List DefT := [t_check_differences, t_fits, t_solve_differences, t_takes_circle, t_need_numbers, t_reached_from, t_tightest, t_follows_bound, t__law_begin, t__law_take, t__law_pick, t__law_bounds, t__law_table, t__law_has, t__law_fits, t__law_circle, t__law_code, t__law_told, t__law_leads, t_law, t_Lowering___init__, t_Lowering_turn, t_Lowering_circle, t_Lowering_go]
theorem ok_check_differences : t_check_differences.ok sg = true := by decide +kernel
theorem bi_check_differences : BindOk t_check_differences := fun _ _ _ _ _ _ _ us hl => match us, hl with | [_], _ => rfl
theorem ok_fits : t_fits.ok sg = true := by decide +kernel
theorem bi_fits : BindOk t_fits := fun _ _ _ _ _ _ _ us hl => match us, hl with | [_, _], _ => rfl
theorem ok_solve_differences : t_solve_differences.ok sg = true := by decide +kernel
theorem bi_solve_differences : BindOk t_solve_differences := fun _ _ _ _ _ _ _ us hl => match us, hl with | [_], _ => rfl
theorem ok_takes_circle : t_takes_circle.ok sg = true := by decide +kernel
theorem bi_takes_circle : BindOk t_takes_circle := fun _ _ _ _ _ _ _ us hl => match us, hl with | [_, _], _ => rfl
theorem ok_need_numbers : t_need_numbers.ok sg = true := by decide +kernel
theorem bi_need_numbers : BindOk t_need_numbers := fun _ _ _ _ _ _ _ us hl => match us, hl with | [_], _ => rfl
theorem ok_reached_from : t_reached_from.ok sg = true := by decide +kernel
theorem bi_reached_from : BindOk t_reached_from := fun _ _ _ _ _ _ _ us hl => match us, hl with | [_, _], _ => rfl
theorem ok_tightest : t_tightest.ok sg = true := by decide +kernel
theorem bi_tightest : BindOk t_tightest := fun _ _ _ _ _ _ _ us hl => match us, hl with | [_, _, _], _ => rfl
theorem ok_follows_bound : t_follows_bound.ok sg = true := by decide +kernel
theorem bi_follows_bound : BindOk t_follows_bound := fun _ _ _ _ _ _ _ us hl => match us, hl with | [_, _], _ => rfl
theorem ok__law_begin : t__law_begin.ok sg = true := by decide +kernel
theorem bi__law_begin : BindOk t__law_begin := fun _ _ _ _ _ _ _ us hl => match us, hl with | [_], _ => rfl
theorem ok__law_take : t__law_take.ok sg = true := by decide +kernel
theorem bi__law_take : BindOk t__law_take := fun _ _ _ _ _ _ _ us hl => match us, hl with | [_, _], _ => rfl
theorem ok__law_pick : t__law_pick.ok sg = true := by decide +kernel
theorem bi__law_pick : BindOk t__law_pick := fun _ _ _ _ _ _ _ us hl => match us, hl with | [_, _], _ => rfl
theorem ok__law_bounds : t__law_bounds.ok sg = true := by decide +kernel
theorem bi__law_bounds : BindOk t__law_bounds := fun _ _ _ _ _ _ _ us hl => match us, hl with | [_, _, _], _ => rfl
theorem ok__law_table : t__law_table.ok sg = true := by decide +kernel
theorem bi__law_table : BindOk t__law_table := fun _ _ _ _ _ _ _ us hl => match us, hl with | [_], _ => rfl
theorem ok__law_has : t__law_has.ok sg = true := by decide +kernel
theorem bi__law_has : BindOk t__law_has := fun _ _ _ _ _ _ _ us hl => match us, hl with | [_], _ => rfl
theorem ok__law_fits : t__law_fits.ok sg = true := by decide +kernel
theorem bi__law_fits : BindOk t__law_fits := fun _ _ _ _ _ _ _ us hl => match us, hl with | [_, _], _ => rfl
theorem ok__law_circle : t__law_circle.ok sg = true := by decide +kernel
theorem bi__law_circle : BindOk t__law_circle := fun _ _ _ _ _ _ _ us hl => match us, hl with | [_, _], _ => rfl
theorem ok__law_code : t__law_code.ok sg = true := by decide +kernel
theorem bi__law_code : BindOk t__law_code := fun _ _ _ _ _ _ _ us hl => match us, hl with | [_], _ => rfl
theorem ok__law_told : t__law_told.ok sg = true := by decide +kernel
theorem bi__law_told : BindOk t__law_told := fun _ _ _ _ _ _ _ us hl => match us, hl with | [_, _, _], _ => rfl
theorem ok__law_leads : t__law_leads.ok sg = true := by decide +kernel
theorem bi__law_leads : BindOk t__law_leads := fun _ _ _ _ _ _ _ us hl => match us, hl with | [_, _, _, _], _ => rfl
theorem ok_law : t_law.ok sg = true := by decide +kernel
theorem bi_law : BindOk t_law := fun _ _ _ _ _ _ _ us hl => match us, hl with | [_], _ => rfl
theorem ok_Lowering___init__ : t_Lowering___init__.ok sg = true := by decide +kernel
theorem bi_Lowering___init__ : BindOk t_Lowering___init__ := fun _ _ _ _ _ _ _ us hl => match us, hl with | [_, _, _], _ => rfl
theorem ok_Lowering_turn : t_Lowering_turn.ok sg = true := by decide +kernel
theorem bi_Lowering_turn : BindOk t_Lowering_turn := fun _ _ _ _ _ _ _ us hl => match us, hl with | [_], _ => rfl
theorem ok_Lowering_circle : t_Lowering_circle.ok sg = true := by decide +kernel
theorem bi_Lowering_circle : BindOk t_Lowering_circle := fun _ _ _ _ _ _ _ us hl => match us, hl with | [_, _], _ => rfl
theorem ok_Lowering_go : t_Lowering_go.ok sg = true := by decide +kernel
theorem bi_Lowering_go : BindOk t_Lowering_go := fun _ _ _ _ _ _ _ us hl => match us, hl with | [_], _ => rfl
theorem l_check_differences : List.lookup ("check_differences" : Str) pg.defs = some t_check_differences.d := by kernel_rfl
theorem l_fits : List.lookup ("fits" : Str) pg.defs = some t_fits.d := by kernel_rfl
theorem l_solve_differences : List.lookup ("solve_differences" : Str) pg.defs = some t_solve_differences.d := by kernel_rfl
theorem l_takes_circle : List.lookup ("takes_circle" : Str) pg.defs = some t_takes_circle.d := by kernel_rfl
theorem l_need_numbers : List.lookup ("need_numbers" : Str) pg.defs = some t_need_numbers.d := by kernel_rfl
theorem l_reached_from : List.lookup ("reached_from" : Str) pg.defs = some t_reached_from.d := by kernel_rfl
theorem l_tightest : List.lookup ("tightest" : Str) pg.defs = some t_tightest.d := by kernel_rfl
theorem l_follows_bound : List.lookup ("follows_bound" : Str) pg.defs = some t_follows_bound.d := by kernel_rfl
theorem l__law_begin : List.lookup ("_law_begin" : Str) pg.defs = some t__law_begin.d := by kernel_rfl
theorem l__law_take : List.lookup ("_law_take" : Str) pg.defs = some t__law_take.d := by kernel_rfl
theorem l__law_pick : List.lookup ("_law_pick" : Str) pg.defs = some t__law_pick.d := by kernel_rfl
theorem l__law_bounds : List.lookup ("_law_bounds" : Str) pg.defs = some t__law_bounds.d := by kernel_rfl
theorem l__law_table : List.lookup ("_law_table" : Str) pg.defs = some t__law_table.d := by kernel_rfl
theorem l__law_has : List.lookup ("_law_has" : Str) pg.defs = some t__law_has.d := by kernel_rfl
theorem l__law_fits : List.lookup ("_law_fits" : Str) pg.defs = some t__law_fits.d := by kernel_rfl
theorem l__law_circle : List.lookup ("_law_circle" : Str) pg.defs = some t__law_circle.d := by kernel_rfl
theorem l__law_code : List.lookup ("_law_code" : Str) pg.defs = some t__law_code.d := by kernel_rfl
theorem l__law_told : List.lookup ("_law_told" : Str) pg.defs = some t__law_told.d := by kernel_rfl
theorem l__law_leads : List.lookup ("_law_leads" : Str) pg.defs = some t__law_leads.d := by kernel_rfl
theorem l_law : List.lookup ("law" : Str) pg.defs = some t_law.d := by kernel_rfl
theorem l_Lowering___init__ : List.lookup ("Lowering.__init__" : Str) pg.defs = some t_Lowering___init__.d := by kernel_rfl
theorem l_Lowering_turn : List.lookup ("Lowering.turn" : Str) pg.defs = some t_Lowering_turn.d := by kernel_rfl
theorem l_Lowering_circle : List.lookup ("Lowering.circle" : Str) pg.defs = some t_Lowering_circle.d := by kernel_rfl
theorem l_Lowering_go : List.lookup ("Lowering.go" : Str) pg.defs = some t_Lowering_go.d := by kernel_rfl
theorem lk_all : ∀ t ∈ defs, List.lookup t.name pg.defs = some t.d := List.forall_mem_cons.mpr ⟨l_check_differences, List.forall_mem_cons.mpr ⟨l_fits, List.forall_mem_cons.mpr ⟨l_solve_differences, List.forall_mem_cons.mpr ⟨l_takes_circle, List.forall_mem_cons.mpr ⟨l_need_numbers, List.forall_mem_cons.mpr ⟨l_reached_from, List.forall_mem_cons.mpr ⟨l_tightest, List.forall_mem_cons.mpr ⟨l_follows_bound, List.forall_mem_cons.mpr ⟨l__law_begin, List.forall_mem_cons.mpr ⟨l__law_take, List.forall_mem_cons.mpr ⟨l__law_pick, List.forall_mem_cons.mpr ⟨l__law_bounds, List.forall_mem_cons.mpr ⟨l__law_table, List.forall_mem_cons.mpr ⟨l__law_has, List.forall_mem_cons.mpr ⟨l__law_fits, List.forall_mem_cons.mpr ⟨l__law_circle, List.forall_mem_cons.mpr ⟨l__law_code, List.forall_mem_cons.mpr ⟨l__law_told, List.forall_mem_cons.mpr ⟨l__law_leads, List.forall_mem_cons.mpr ⟨l_law, List.forall_mem_cons.mpr ⟨l_Lowering___init__, List.forall_mem_cons.mpr ⟨l_Lowering_turn, List.forall_mem_cons.mpr ⟨l_Lowering_circle, List.forall_mem_cons.mpr ⟨l_Lowering_go, (fun _ h => nomatch h)⟩⟩⟩⟩⟩⟩⟩⟩⟩⟩⟩⟩⟩⟩⟩⟩⟩⟩⟩⟩⟩⟩⟩⟩
theorem text_mk {Pg : Program} {K : PySem.W.Frag} (d_check_differences : DefK K t_check_differences) (d_fits : DefK K t_fits) (d_solve_differences : DefK K t_solve_differences) (d_takes_circle : DefK K t_takes_circle) (d_need_numbers : DefK K t_need_numbers) (d_reached_from : DefK K t_reached_from) (d_tightest : DefK K t_tightest) (d_follows_bound : DefK K t_follows_bound) (d__law_begin : DefK K t__law_begin) (d__law_take : DefK K t__law_take) (d__law_pick : DefK K t__law_pick) (d__law_bounds : DefK K t__law_bounds) (d__law_table : DefK K t__law_table) (d__law_has : DefK K t__law_has) (d__law_fits : DefK K t__law_fits) (d__law_circle : DefK K t__law_circle) (d__law_code : DefK K t__law_code) (d__law_told : DefK K t__law_told) (d__law_leads : DefK K t__law_leads) (d_law : DefK K t_law) (n_abs : PySem.W.nsIn K mainGlobals "abs" = some none) (n_all : PySem.W.nsIn K mainGlobals "all" = some none) (n_any : PySem.W.nsIn K mainGlobals "any" = some none) (n_enumerate : PySem.W.nsIn K mainGlobals "enumerate" = some none) (n_int : PySem.W.nsIn K mainGlobals "int" = some none) (n_len : PySem.W.nsIn K mainGlobals "len" = some none) (n_list : PySem.W.nsIn K mainGlobals "list" = some none) (n_min : PySem.W.nsIn K mainGlobals "min" = some none) (n_range : PySem.W.nsIn K mainGlobals "range" = some none) (n_set : PySem.W.nsIn K mainGlobals "set" = some none) (n_sum : PySem.W.nsIn K mainGlobals "sum" = some none) (n_tuple : PySem.W.nsIn K mainGlobals "tuple" = some none) (cC_Lowering : ClsK K sg "Lowering") (cM_Lowering_circle : MethK K "Lowering" "circle" t_Lowering_circle) (cM_Lowering_go : MethK K "Lowering" "go" t_Lowering_go) (cM_Lowering_turn : MethK K "Lowering" "turn" t_Lowering_turn) (cI_Lowering : InitK K "Lowering" t_Lowering___init__) (g_MOST_BOUNDS : ∃ u v, PySem.W.nsIn K mainGlobals "MOST_BOUNDS" = some (some u) ∧ L2.RelV v u ∧ ∀ H ρ, RD K H ρ (.int 60) v) (g_MOST_NUMBERS : ∃ u v, PySem.W.nsIn K mainGlobals "MOST_NUMBERS" = some (some u) ∧ L2.RelV v u ∧ ∀ H ρ, RD K H ρ (.int 12) v) (e_InputError : ∃ C fI, EX.TxtK Pg K "InputError" C fI) : TextK Pg sg pg defs K where
  ok := List.forall_mem_cons.mpr ⟨ok_check_differences, List.forall_mem_cons.mpr ⟨ok_fits, List.forall_mem_cons.mpr ⟨ok_solve_differences, List.forall_mem_cons.mpr ⟨ok_takes_circle, List.forall_mem_cons.mpr ⟨ok_need_numbers, List.forall_mem_cons.mpr ⟨ok_reached_from, List.forall_mem_cons.mpr ⟨ok_tightest, List.forall_mem_cons.mpr ⟨ok_follows_bound, List.forall_mem_cons.mpr ⟨ok__law_begin, List.forall_mem_cons.mpr ⟨ok__law_take, List.forall_mem_cons.mpr ⟨ok__law_pick, List.forall_mem_cons.mpr ⟨ok__law_bounds, List.forall_mem_cons.mpr ⟨ok__law_table, List.forall_mem_cons.mpr ⟨ok__law_has, List.forall_mem_cons.mpr ⟨ok__law_fits, List.forall_mem_cons.mpr ⟨ok__law_circle, List.forall_mem_cons.mpr ⟨ok__law_code, List.forall_mem_cons.mpr ⟨ok__law_told, List.forall_mem_cons.mpr ⟨ok__law_leads, List.forall_mem_cons.mpr ⟨ok_law, List.forall_mem_cons.mpr ⟨ok_Lowering___init__, List.forall_mem_cons.mpr ⟨ok_Lowering_turn, List.forall_mem_cons.mpr ⟨ok_Lowering_circle, List.forall_mem_cons.mpr ⟨ok_Lowering_go, (fun _ h => nomatch h)⟩⟩⟩⟩⟩⟩⟩⟩⟩⟩⟩⟩⟩⟩⟩⟩⟩⟩⟩⟩⟩⟩⟩⟩
  bi := List.forall_mem_cons.mpr ⟨bi_check_differences, List.forall_mem_cons.mpr ⟨bi_fits, List.forall_mem_cons.mpr ⟨bi_solve_differences, List.forall_mem_cons.mpr ⟨bi_takes_circle, List.forall_mem_cons.mpr ⟨bi_need_numbers, List.forall_mem_cons.mpr ⟨bi_reached_from, List.forall_mem_cons.mpr ⟨bi_tightest, List.forall_mem_cons.mpr ⟨bi_follows_bound, List.forall_mem_cons.mpr ⟨bi__law_begin, List.forall_mem_cons.mpr ⟨bi__law_take, List.forall_mem_cons.mpr ⟨bi__law_pick, List.forall_mem_cons.mpr ⟨bi__law_bounds, List.forall_mem_cons.mpr ⟨bi__law_table, List.forall_mem_cons.mpr ⟨bi__law_has, List.forall_mem_cons.mpr ⟨bi__law_fits, List.forall_mem_cons.mpr ⟨bi__law_circle, List.forall_mem_cons.mpr ⟨bi__law_code, List.forall_mem_cons.mpr ⟨bi__law_told, List.forall_mem_cons.mpr ⟨bi__law_leads, List.forall_mem_cons.mpr ⟨bi_law, List.forall_mem_cons.mpr ⟨bi_Lowering___init__, List.forall_mem_cons.mpr ⟨bi_Lowering_turn, List.forall_mem_cons.mpr ⟨bi_Lowering_circle, List.forall_mem_cons.mpr ⟨bi_Lowering_go, (fun _ h => nomatch h)⟩⟩⟩⟩⟩⟩⟩⟩⟩⟩⟩⟩⟩⟩⟩⟩⟩⟩⟩⟩⟩⟩⟩⟩
  lk := lk_all
  fn := fun x h => mem_all (l := (["check_differences", "fits", "solve_differences", "takes_circle", "need_numbers", "reached_from", "tightest", "follows_bound", "_law_begin", "_law_take", "_law_pick", "_law_bounds", "_law_table", "_law_has", "_law_fits", "_law_circle", "_law_code", "_law_told", "_law_leads", "law"] : List Str)) (p := fun f => ∃ t ∈ defs, t.name = f ∧ DefK K t) (List.forall_mem_cons.mpr ⟨⟨t_check_differences, (.head _), rfl, d_check_differences⟩, List.forall_mem_cons.mpr ⟨⟨t_fits, (.tail _ (.head _)), rfl, d_fits⟩, List.forall_mem_cons.mpr ⟨⟨t_solve_differences, (.tail _ (.tail _ (.head _))), rfl, d_solve_differences⟩, List.forall_mem_cons.mpr ⟨⟨t_takes_circle, (.tail _ (.tail _ (.tail _ (.head _)))), rfl, d_takes_circle⟩, List.forall_mem_cons.mpr ⟨⟨t_need_numbers, (.tail _ (.tail _ (.tail _ (.tail _ (.head _))))), rfl, d_need_numbers⟩, List.forall_mem_cons.mpr ⟨⟨t_reached_from, (.tail _ (.tail _ (.tail _ (.tail _ (.tail _ (.head _)))))), rfl, d_reached_from⟩, List.forall_mem_cons.mpr ⟨⟨t_tightest, (.tail _ (.tail _ (.tail _ (.tail _ (.tail _ (.tail _ (.head _))))))), rfl, d_tightest⟩, List.forall_mem_cons.mpr ⟨⟨t_follows_bound, (.tail _ (.tail _ (.tail _ (.tail _ (.tail _ (.tail _ (.tail _ (.head _)))))))), rfl, d_follows_bound⟩, List.forall_mem_cons.mpr ⟨⟨t__law_begin, (.tail _ (.tail _ (.tail _ (.tail _ (.tail _ (.tail _ (.tail _ (.tail _ (.head _))))))))), rfl, d__law_begin⟩, List.forall_mem_cons.mpr ⟨⟨t__law_take, (.tail _ (.tail _ (.tail _ (.tail _ (.tail _ (.tail _ (.tail _ (.tail _ (.tail _ (.head _)))))))))), rfl, d__law_take⟩, List.forall_mem_cons.mpr ⟨⟨t__law_pick, (.tail _ (.tail _ (.tail _ (.tail _ (.tail _ (.tail _ (.tail _ (.tail _ (.tail _ (.tail _ (.head _))))))))))), rfl, d__law_pick⟩, List.forall_mem_cons.mpr ⟨⟨t__law_bounds, (.tail _ (.tail _ (.tail _ (.tail _ (.tail _ (.tail _ (.tail _ (.tail _ (.tail _ (.tail _ (.tail _ (.head _)))))))))))), rfl, d__law_bounds⟩, List.forall_mem_cons.mpr ⟨⟨t__law_table, (.tail _ (.tail _ (.tail _ (.tail _ (.tail _ (.tail _ (.tail _ (.tail _ (.tail _ (.tail _ (.tail _ (.tail _ (.head _))))))))))))), rfl, d__law_table⟩, List.forall_mem_cons.mpr ⟨⟨t__law_has, (.tail _ (.tail _ (.tail _ (.tail _ (.tail _ (.tail _ (.tail _ (.tail _ (.tail _ (.tail _ (.tail _ (.tail _ (.tail _ (.head _)))))))))))))), rfl, d__law_has⟩, List.forall_mem_cons.mpr ⟨⟨t__law_fits, (.tail _ (.tail _ (.tail _ (.tail _ (.tail _ (.tail _ (.tail _ (.tail _ (.tail _ (.tail _ (.tail _ (.tail _ (.tail _ (.tail _ (.head _))))))))))))))), rfl, d__law_fits⟩, List.forall_mem_cons.mpr ⟨⟨t__law_circle, (.tail _ (.tail _ (.tail _ (.tail _ (.tail _ (.tail _ (.tail _ (.tail _ (.tail _ (.tail _ (.tail _ (.tail _ (.tail _ (.tail _ (.tail _ (.head _)))))))))))))))), rfl, d__law_circle⟩, List.forall_mem_cons.mpr ⟨⟨t__law_code, (.tail _ (.tail _ (.tail _ (.tail _ (.tail _ (.tail _ (.tail _ (.tail _ (.tail _ (.tail _ (.tail _ (.tail _ (.tail _ (.tail _ (.tail _ (.tail _ (.head _))))))))))))))))), rfl, d__law_code⟩, List.forall_mem_cons.mpr ⟨⟨t__law_told, (.tail _ (.tail _ (.tail _ (.tail _ (.tail _ (.tail _ (.tail _ (.tail _ (.tail _ (.tail _ (.tail _ (.tail _ (.tail _ (.tail _ (.tail _ (.tail _ (.tail _ (.head _)))))))))))))))))), rfl, d__law_told⟩, List.forall_mem_cons.mpr ⟨⟨t__law_leads, (.tail _ (.tail _ (.tail _ (.tail _ (.tail _ (.tail _ (.tail _ (.tail _ (.tail _ (.tail _ (.tail _ (.tail _ (.tail _ (.tail _ (.tail _ (.tail _ (.tail _ (.tail _ (.head _))))))))))))))))))), rfl, d__law_leads⟩, List.forall_mem_cons.mpr ⟨⟨t_law, (.tail _ (.tail _ (.tail _ (.tail _ (.tail _ (.tail _ (.tail _ (.tail _ (.tail _ (.tail _ (.tail _ (.tail _ (.tail _ (.tail _ (.tail _ (.tail _ (.tail _ (.tail _ (.tail _ (.head _)))))))))))))))))))), rfl, d_law⟩, (fun _ h => nomatch h)⟩⟩⟩⟩⟩⟩⟩⟩⟩⟩⟩⟩⟩⟩⟩⟩⟩⟩⟩⟩) h
  cl := fun x h => mem_all (l := (["Lowering"] : List Str)) (p := fun c => ClsK K sg c) (List.forall_mem_cons.mpr ⟨cC_Lowering, (fun _ h => nomatch h)⟩) h
  mt := fun c m h => mem_all (l := ([("Lowering", "circle"), ("Lowering", "go"), ("Lowering", "turn")] : List (Str × Str))) (p := fun z => ∃ t ∈ defs, t.name = z.1 ++ "." ++ z.2 ∧ MethK K z.1 z.2 t) (List.forall_mem_cons.mpr ⟨⟨t_Lowering_circle, (.tail _ (.tail _ (.tail _ (.tail _ (.tail _ (.tail _ (.tail _ (.tail _ (.tail _ (.tail _ (.tail _ (.tail _ (.tail _ (.tail _ (.tail _ (.tail _ (.tail _ (.tail _ (.tail _ (.tail _ (.tail _ (.tail _ (.head _))))))))))))))))))))))), by decide +kernel, cM_Lowering_circle⟩, List.forall_mem_cons.mpr ⟨⟨t_Lowering_go, (.tail _ (.tail _ (.tail _ (.tail _ (.tail _ (.tail _ (.tail _ (.tail _ (.tail _ (.tail _ (.tail _ (.tail _ (.tail _ (.tail _ (.tail _ (.tail _ (.tail _ (.tail _ (.tail _ (.tail _ (.tail _ (.tail _ (.tail _ (.head _)))))))))))))))))))))))), by decide +kernel, cM_Lowering_go⟩, List.forall_mem_cons.mpr ⟨⟨t_Lowering_turn, (.tail _ (.tail _ (.tail _ (.tail _ (.tail _ (.tail _ (.tail _ (.tail _ (.tail _ (.tail _ (.tail _ (.tail _ (.tail _ (.tail _ (.tail _ (.tail _ (.tail _ (.tail _ (.tail _ (.tail _ (.tail _ (.head _)))))))))))))))))))))), by decide +kernel, cM_Lowering_turn⟩, (fun _ h => nomatch h)⟩⟩⟩) h
  ini := fun x h => mem_all (l := (["Lowering"] : List Str)) (p := fun c => ∃ t ∈ defs, t.name = c ++ ".__init__" ∧ InitK K c t) (List.forall_mem_cons.mpr ⟨⟨t_Lowering___init__, (.tail _ (.tail _ (.tail _ (.tail _ (.tail _ (.tail _ (.tail _ (.tail _ (.tail _ (.tail _ (.tail _ (.tail _ (.tail _ (.tail _ (.tail _ (.tail _ (.tail _ (.tail _ (.tail _ (.tail _ (.head _))))))))))))))))))))), by decide +kernel, cI_Lowering⟩, (fun _ h => nomatch h)⟩) h
  bl := fun x h => mem_all (l := (["abs", "all", "any", "enumerate", "int", "len", "list", "min", "range", "set", "sum", "tuple"] : List Str)) (p := fun x => PySem.W.nsIn K mainGlobals x = some none) (List.forall_mem_cons.mpr ⟨n_abs, List.forall_mem_cons.mpr ⟨n_all, List.forall_mem_cons.mpr ⟨n_any, List.forall_mem_cons.mpr ⟨n_enumerate, List.forall_mem_cons.mpr ⟨n_int, List.forall_mem_cons.mpr ⟨n_len, List.forall_mem_cons.mpr ⟨n_list, List.forall_mem_cons.mpr ⟨n_min, List.forall_mem_cons.mpr ⟨n_range, List.forall_mem_cons.mpr ⟨n_set, List.forall_mem_cons.mpr ⟨n_sum, List.forall_mem_cons.mpr ⟨n_tuple, (fun _ h => nomatch h)⟩⟩⟩⟩⟩⟩⟩⟩⟩⟩⟩⟩) h
  gl := glob_all (List.forall_mem_cons.mpr ⟨g_MOST_BOUNDS, List.forall_mem_cons.mpr ⟨g_MOST_NUMBERS, (fun _ h => nomatch h)⟩⟩)
  er := fun x h => mem_all (l := (["InputError"] : List Str)) (p := fun x => ∃ C fI, EX.TxtK Pg K x C fI) (List.forall_mem_cons.mpr ⟨e_InputError, (fun _ h => nomatch h)⟩) h
  ie := fun c S h => nomatch h
  gP := fun x d h => h
theorem law_mem : t_law ∈ defs := (.tail _ (.tail _ (.tail _ (.tail _ (.tail _ (.tail _ (.tail _ (.tail _ (.tail _ (.tail _ (.tail _ (.tail _ (.tail _ (.tail _ (.tail _ (.tail _ (.tail _ (.tail _ (.tail _ (.head _))))))))))))))))))))
end FL.L
set_option autoImplicit false
set_option linter.all false
set_option maxRecDepth 100000
set_option maxHeartbeats 2000000
/-! k18, k19, in plain Lean: bounds, walks, the table of least ways -/
namespace FL.V
open PySem FL
/-- a bound: x a - x b ≤ c -/
abbrev Bd := Nat × Nat × Int
def wk : Nat → Nat → List Bd → Prop
  | a, b, [] => a = b
  | a, b, e :: r => e.1 = a ∧ wk e.2.1 b r
def wt (es : List Bd) : Int := (es.map (·.2.2)).sum
theorem wt_app (p q : List Bd) : wt (p ++ q) = wt p + wt q := by unfold wt; rw [List.map_append, List.sum_append]
theorem wt_cons (e : Bd) (r : List Bd) : wt (e :: r) = e.2.2 + wt r := rfl
theorem wk_app : ∀ {p q : List Bd} {a b c : Nat}, wk a b p → wk b c q → wk a c (p ++ q)
  | [], q, a, b, c, h1, h2 => by cases h1; exact h2
  | e :: p, q, a, b, c, h1, h2 => ⟨h1.1, wk_app h1.2 h2⟩
theorem wk_split : ∀ {p : List Bd} {e : Bd} {q : List Bd} {a c : Nat}, wk a c (p ++ e :: q) → wk a e.1 p ∧ wk e.1 c (e :: q)
  | [], e, q, a, c, h => ⟨h.1.symm, by have := h.1; exact ⟨rfl, h.2⟩⟩
  | d :: p, e, q, a, c, h => by
    obtain ⟨h1, h2⟩ := wk_split (p := p) h.2
    exact ⟨⟨h.1, h1⟩, h2⟩
/-- nodes that repeat: a part that comes back -/
theorem repeat_split : ∀ {es : List Bd}, ¬ (es.map (·.1)).Nodup → ∃ p e q d r, es = p ++ e :: q ++ d :: r ∧ d.1 = e.1
  | [], h => absurd List.nodup_nil h
  | e :: es, h => by
    by_cases hm : e.1 ∈ es.map (·.1)
    · obtain ⟨d, hd, ed⟩ := List.mem_map.mp hm
      obtain ⟨q, r, rfl⟩ := List.append_of_mem hd
      exact ⟨[], e, q, d, r, by simp, ed⟩
    · have hn : ¬ (es.map (·.1)).Nodup := fun z => h (by rw [List.map_cons, List.nodup_cons]; exact ⟨hm, z⟩)
      obtain ⟨p, f, q, d, r, rfl, ed⟩ := repeat_split hn
      exact ⟨e :: p, f, q, d, r, by simp, ed⟩
/-- a walk that comes back, below 0, of nodes all different -/
def NegC (B : List Bd) : Prop := ∃ c es, es ≠ [] ∧ wk c c es ∧ (∀ e ∈ es, e ∈ B) ∧ (es.map (·.1)).Nodup ∧ wt es < 0
theorem simple_of {B : List Bd} : ∀ (m : Nat) (es : List Bd) (a b : Nat), es.length ≤ m → wk a b es → (∀ e ∈ es, e ∈ B) → NegC B ∨ ∃ es', wk a b es' ∧ (∀ e ∈ es', e ∈ B) ∧ (es'.map (·.1)).Nodup ∧ ¬ b ∈ es'.map (·.1) ∧ wt es' ≤ wt es
  | 0, es, a, b, hm, hw, hB => by
    have : es = [] := List.length_eq_zero_iff.mp (by omega)
    subst this
    exact .inr ⟨[], hw, by simp, by simp, by simp, Int.le_refl _⟩
  | m + 1, es, a, b, hm, hw, hB => by
    by_cases hn : (es.map (·.1)).Nodup
    · by_cases hb : b ∈ es.map (·.1)
      · obtain ⟨e, he, eb⟩ := List.mem_map.mp hb
        obtain ⟨p, q, rfl⟩ := List.append_of_mem he
        obtain ⟨h1, h2⟩ := wk_split hw
        rw [eb] at h1 h2
        by_cases hneg : wt (e :: q) < 0
        · refine .inl ⟨b, e :: q, by simp, h2, fun x hx => hB x (by simp at hx ⊢; right; exact hx), ?_, hneg⟩
          rw [List.map_append, List.nodup_append] at hn
          exact hn.2.1
        · refine .inr ⟨p, h1, fun x hx => hB x (by simp [hx]), ?_, ?_, by rw [wt_app]; omega⟩
          · rw [List.map_append, List.nodup_append] at hn
            exact hn.1
          · intro z
            rw [List.map_append, List.nodup_append] at hn
            exact hn.2.2 b z b (by simp [eb]) rfl
      · exact .inr ⟨es, hw, hB, hn, hb, Int.le_refl _⟩
    · obtain ⟨p, e, q, d, r, rfl, ed⟩ := repeat_split hn
      rw [List.append_assoc] at hw
      obtain ⟨h1, h2⟩ := wk_split (p := p) (e := e) (q := q ++ d :: r) hw
      obtain ⟨h3, h4⟩ := wk_split (p := e :: q) (e := d) (q := r) h2
      rw [ed] at h3 h4
      simp at hm
      rcases simple_of m (e :: q) e.1 e.1 (by simp; omega) h3 (fun x hx => hB x (by simp at hx ⊢; rcases hx with h | h <;> simp [h])) with h | ⟨es', g1, g2, g3, g4, g5⟩
      · exact .inl h
      · have hz : es' = [] := by
          cases es' with
          | nil => rfl
          | cons f fs => exact absurd (by simp [g1.1]) g4
        subst hz
        have hge : 0 ≤ wt (e :: q) := g5
        have hw2 : wk a b (p ++ d :: r) := wk_app h1 h4
        rcases simple_of m (p ++ d :: r) a b (by simp; omega) hw2 (fun x hx => hB x (by simp at hx ⊢; rcases hx with h | h | h <;> simp [h])) with h | ⟨es', g1, g2, g3, g4, g5⟩
        · exact .inl h
        · refine .inr ⟨es', g1, g2, g3, g4, ?_⟩
          rw [wt_app] at g5 ⊢
          rw [wt_app]
          omega
/-! ### the table -/
abbrev Tb := Nat → Nat → Option Int
def tset (T : Tb) (a b : Nat) (w : Int) : Tb := fun x y => if x = a ∧ y = b then some w else T x y
/-- no more than w -/
def le (T : Tb) (a b : Nat) (w : Int) : Prop := ∃ t, T a b = some t ∧ t ≤ w
def tput (T : Tb) (a b : Nat) (w : Int) : Tb := match T a b with
  | none => tset T a b w
  | some t => if w < t then tset T a b w else T
theorem tput_le {T : Tb} {a b x y : Nat} {w v : Int} (h : le T x y v) : le (tput T a b w) x y v := by
  obtain ⟨t, e, hl⟩ := h
  unfold tput
  cases ht : T a b with
  | none =>
    show le (tset T a b w) x y v
    refine ⟨t, ?_, hl⟩
    unfold tset
    rw [if_neg]
    · exact e
    · rintro ⟨rfl, rfl⟩; rw [ht] at e; cases e
  | some s =>
    simp only
    by_cases hw : w < s
    · rw [if_pos hw]
      unfold le tset
      by_cases hx : x = a ∧ y = b
      · refine ⟨w, by rw [if_pos hx], ?_⟩
        obtain ⟨rfl, rfl⟩ := hx
        rw [ht] at e; cases e; omega
      · exact ⟨t, by rw [if_neg hx]; exact e, hl⟩
    · rw [if_neg hw]; exact ⟨t, e, hl⟩
theorem tput_at (T : Tb) (a b : Nat) (w : Int) : le (tput T a b w) a b w := by
  unfold tput
  cases ht : T a b with
  | none => exact ⟨w, by simp [tset], Int.le_refl _⟩
  | some t =>
    simp only
    by_cases hw : w < t
    · rw [if_pos hw]; exact ⟨w, by simp [tset], Int.le_refl _⟩
    · rw [if_neg hw]; exact ⟨t, ht, by omega⟩
/-- each entry is a way -/
def snd_ (B : List Bd) (T : Tb) : Prop := ∀ a b w, T a b = some w → ∃ es, wk a b es ∧ (∀ e ∈ es, e ∈ B) ∧ wt es = w
theorem tput_snd {B : List Bd} {T : Tb} {a b : Nat} {w : Int} (h : snd_ B T) (hw : ∃ es, wk a b es ∧ (∀ e ∈ es, e ∈ B) ∧ wt es = w) : snd_ B (tput T a b w) := by
  have key : snd_ B (tset T a b w) := by
    intro x y v e
    unfold tset at e
    split at e
    · rename_i hx
      obtain ⟨rfl, rfl⟩ := hx
      cases e; exact hw
    · exact h x y v e
  unfold tput
  split
  · exact key
  · split
    · exact key
    · exact h
/-- one turn: by way of k -/
def vstep (k : Nat) (T : Tb) (p : Nat × Nat) : Tb := match T p.1 k, T k p.2 with
  | some x, some y => tput T p.1 p.2 (x + y)
  | _, _ => T
theorem vstep_le {k : Nat} {T : Tb} {p : Nat × Nat} {x y : Nat} {v : Int} (h : le T x y v) : le (vstep k T p) x y v := by
  unfold vstep
  split
  · exact tput_le h
  · exact h
theorem vfold_le {k : Nat} : ∀ {ps : List (Nat × Nat)} {T : Tb} {x y : Nat} {v : Int}, le T x y v → le (ps.foldl (vstep k) T) x y v
  | [], _, _, _, _, h => h
  | p :: ps, T, x, y, v, h => vfold_le (ps := ps) (vstep_le h)
theorem vfold_at {k : Nat} : ∀ {ps : List (Nat × Nat)} {T : Tb} {a b : Nat} {u v : Int}, (a, b) ∈ ps → le T a k u → le T k b v → le (ps.foldl (vstep k) T) a b (u + v)
  | [], _, _, _, _, _, h, _, _ => by simp at h
  | p :: ps, T, a, b, u, v, h, h1, h2 => by
    rw [List.foldl_cons]
    rcases List.mem_cons.mp h with rfl | h
    · refine vfold_le ?_
      obtain ⟨x, e1, l1⟩ := h1
      obtain ⟨y, e2, l2⟩ := h2
      unfold vstep
      simp only [e1, e2]
      obtain ⟨t, e3, l3⟩ := tput_at T a b (x + y)
      exact ⟨t, e3, by omega⟩
    · exact vfold_at h (vstep_le h1) (vstep_le h2)
theorem vfold_snd {B : List Bd} {k : Nat} : ∀ {ps : List (Nat × Nat)} {T : Tb}, snd_ B T → snd_ B (ps.foldl (vstep k) T)
  | [], _, h => h
  | p :: ps, T, h => by
    refine vfold_snd (ps := ps) ?_
    unfold vstep
    split
    · rename_i x y e1 e2
      refine tput_snd h ?_
      obtain ⟨es, a1, a2, a3⟩ := h _ _ _ e1
      obtain ⟨fs, b1, b2, b3⟩ := h _ _ _ e2
      refine ⟨es ++ fs, wk_app a1 b1, fun e he => ?_, by rw [wt_app, a3, b3]⟩
      rcases List.mem_append.mp he with he | he
      · exact a2 e he
      · exact b2 e he
    · exact h
def prs (n : Nat) : List (Nat × Nat) := (List.range n).flatMap fun a => (List.range n).map fun b => (a, b)
theorem prs_mem {n a b : Nat} (ha : a < n) (hb : b < n) : (a, b) ∈ prs n := List.mem_flatMap.mpr ⟨a, List.mem_range.mpr ha, List.mem_map.mpr ⟨b, List.mem_range.mpr hb, rfl⟩⟩
/-- the ways whose nodes between are below k -/
def ub (B : List Bd) (n k : Nat) (T : Tb) : Prop := ∀ a b es, a < n → b < n → wk a b es → (∀ e ∈ es, e ∈ B) → (es.map (·.1)).Nodup → ¬ b ∈ (es.drop 1).map (·.1) → (∀ x ∈ (es.drop 1).map (·.1), x < k) → le T a b (wt es)
theorem ub_step {B : List Bd} {n k : Nat} {T : Tb} (hk : k < n) (h : ub B n k T) : ub B n (k + 1) ((prs n).foldl (vstep k) T) := by
  intro a b es ha hb hw hB hn hbn hx
  by_cases hm : k ∈ (es.drop 1).map (·.1)
  · obtain ⟨d, hd, ed⟩ := List.mem_map.mp hm
    match es, hd, hw, hB, hn, hbn, hx with
    | e :: es, hd, hw, hB, hn, hbn, hx =>
      have hd : d ∈ es := hd
      obtain ⟨p, r, rfl⟩ := List.append_of_mem hd
      obtain ⟨h1, h2⟩ := wk_split (p := e :: p) (e := d) (q := r) hw
      rw [ed] at h1 h2
      have hn2 : (((e :: p) ++ d :: r).map (·.1)).Nodup := hn
      rw [List.map_append, List.nodup_append] at hn2
      obtain ⟨n1, n2, n3⟩ := hn2
      have g1 := h a k (e :: p) ha hk h1 (fun x hx => hB x (by simp at hx ⊢; rcases hx with h | h <;> simp [h])) n1 (by
        intro z
        exact n3 k (by simp at z ⊢; right; exact z) k (by simp [ed]) rfl) (by
        intro x hxp
        have h1 := hx x (by simp at hxp ⊢; obtain ⟨c, w, hc⟩ := hxp; exact .inl ⟨c, w, hc⟩)
        have h2 : x ≠ k := fun z => n3 x (by simp at hxp ⊢; right; exact hxp) k (by simp [ed]) z
        omega)
      have g2 := h k b (d :: r) hk hb h2 (fun x hx => hB x (by simp at hx ⊢; rcases hx with h | h <;> simp [h])) n2 (by
        intro z
        exact hbn (by simp at z ⊢; obtain ⟨c, w, hc⟩ := z; exact .inr (.inr ⟨c, w, hc⟩))) (by
        intro x hxr
        have h1 := hx x (by simp at hxr ⊢; obtain ⟨c, w, hc⟩ := hxr; exact .inr (.inr ⟨c, w, hc⟩))
        have h2 : x ≠ k := by
          rintro rfl
          rw [List.map_cons, List.nodup_cons] at n2
          exact n2.1 (by rw [ed]; simpa using hxr)
        omega)
      have := vfold_at (prs_mem ha hb) g1 g2
      rw [show e :: (p ++ d :: r) = (e :: p) ++ d :: r from rfl, wt_app]
      exact this
  · refine vfold_le (h a b es ha hb hw hB hn hbn fun x hxm => ?_)
    have := hx x hxm
    have : x ≠ k := by rintro rfl; exact hm hxm
    omega
/-- the table after all turns -/
def tbl (n : Nat) (T : Tb) : Nat → Tb
  | 0 => T
  | k + 1 => (prs n).foldl (vstep k) (tbl n T k)
theorem tbl_snd {B : List Bd} {n : Nat} {T : Tb} (h : snd_ B T) : ∀ k, snd_ B (tbl n T k)
  | 0 => h
  | k + 1 => vfold_snd (tbl_snd h k)
theorem tbl_ub {B : List Bd} {n : Nat} {T : Tb} (h : ub B n 0 T) : ∀ k, k ≤ n → ub B n k (tbl n T k)
  | 0, _ => h
  | k + 1, hk => ub_step (by omega) (tbl_ub h k (by omega))
/-- the first table: 0 from each to itself, then each bound -/
def t0 : Tb := fun a b => if a = b then some 0 else none
def tb0 (B : List Bd) : Tb := B.foldl (fun T e => tput T e.1 e.2.1 e.2.2) t0
theorem fold_le_ : ∀ {B : List Bd} {T : Tb} {x y : Nat} {v : Int}, le T x y v → le (B.foldl (fun T e => tput T e.1 e.2.1 e.2.2) T) x y v
  | [], _, _, _, _, h => h
  | e :: B, T, x, y, v, h => fold_le_ (B := B) (tput_le h)
theorem fold_at_ : ∀ {B : List Bd} {T : Tb} {e : Bd}, e ∈ B → le (B.foldl (fun T e => tput T e.1 e.2.1 e.2.2) T) e.1 e.2.1 e.2.2
  | [], _, _, h => by simp at h
  | d :: B, T, e, h => by
    rw [List.foldl_cons]
    rcases List.mem_cons.mp h with rfl | h
    · exact fold_le_ (tput_at T _ _ _)
    · exact fold_at_ h
theorem fold_snd_ {B : List Bd} : ∀ {C : List Bd} {T : Tb}, (∀ e ∈ C, e ∈ B) → snd_ B T → snd_ B (C.foldl (fun T e => tput T e.1 e.2.1 e.2.2) T)
  | [], _, _, h => h
  | e :: C, T, hC, h => fold_snd_ (C := C) (fun d hd => hC d (by simp [hd])) (tput_snd h ⟨[e], ⟨rfl, rfl⟩, fun d hd => by rw [List.mem_singleton.mp hd]; exact hC e (by simp), by simp [wt]⟩)
theorem tb0_snd (B : List Bd) : snd_ B (tb0 B) := fold_snd_ (fun e h => h) (by
  intro a b w h
  unfold t0 at h
  split at h
  · rename_i e; cases h; exact ⟨[], e, by simp, rfl⟩
  · cases h)
theorem tb0_ub (B : List Bd) (n : Nat) : ub B n 0 (tb0 B) := by
  intro a b es ha hb hw hB hn hbn hx
  match es, hw, hB, hx with
  | [], hw, _, _ =>
    cases hw
    exact fold_le_ ⟨0, by simp [t0], Int.le_refl _⟩
  | [e], hw, hB, _ =>
    obtain ⟨h1, h2⟩ := hw
    have h2 : e.2.1 = b := h2
    subst h1 h2
    have := fold_at_ (T := t0) (hB e (by simp))
    rw [show wt [e] = e.2.2 by simp [wt]]
    exact this
  | e :: d :: es, _, _, hx =>
    have := hx d.1 (by simp)
    omega
def T_ (B : List Bd) (n : Nat) : Tb := tbl n (tb0 B) n
/-- nodes in their range -/
def okB (n : Nat) (B : List Bd) : Prop := ∀ e ∈ B, e.1 < n ∧ e.2.1 < n
theorem int_lt {n : Nat} {B : List Bd} (ok : okB n B) {es : List Bd} (h : ∀ e ∈ es, e ∈ B) : ∀ x ∈ (es.drop 1).map (·.1), x < n := by
  intro x hx
  obtain ⟨e, he, rfl⟩ := List.mem_map.mp hx
  exact (ok e (h e (List.mem_of_mem_drop he))).1
theorem drop_not {es : List Bd} {b : Nat} (h : ¬ b ∈ es.map (·.1)) : ¬ b ∈ (es.drop 1).map (·.1) := fun z => h (by
  obtain ⟨e, he, e2⟩ := List.mem_map.mp z
  exact List.mem_map.mpr ⟨e, List.mem_of_mem_drop he, e2⟩)
/-- a way back below 0 shows on the table's own line -/
theorem T_neg {n : Nat} {B : List Bd} (ok : okB n B) : NegC B ↔ ∃ a, a < n ∧ ∃ t, T_ B n a a = some t ∧ t < 0 := by
  constructor
  · rintro ⟨c, es, hne, hw, hB, hn, hneg⟩
    obtain ⟨e, r, rfl⟩ := List.exists_cons_of_ne_nil hne
    have hc : c < n := by have := (ok e (hB e (by simp))).1; have h1 := hw.1; omega
    have hbn : ¬ c ∈ ((e :: r).drop 1).map (·.1) := by
      rw [List.map_cons, List.nodup_cons] at hn
      rw [← hw.1]
      exact hn.1
    obtain ⟨t, h1, h2⟩ := tbl_ub (tb0_ub B n) n (Nat.le_refl _) c c (e :: r) hc hc hw hB hn hbn (int_lt ok hB)
    exact ⟨c, hc, t, h1, by omega⟩
  · rintro ⟨a, ha, t, h1, h2⟩
    obtain ⟨es, g1, g2, g3⟩ := tbl_snd (tb0_snd B) n a a t h1
    rcases simple_of es.length es a a (Nat.le_refl _) g1 g2 with h | ⟨es', q1, q2, q3, q4, q5⟩
    · exact h
    · have hz : es' = [] := by
        cases es' with
        | nil => rfl
        | cons f fs => exact absurd (by simp [q1.1]) q4
      subst hz
      have : wt ([] : List Bd) = 0 := rfl
      omega
/-- without one, the table tells the least ways -/
theorem T_least {n : Nat} {B : List Bd} (ok : okB n B) (hN : ¬ NegC B) {a b : Nat} (ha : a < n) (hb : b < n) {es : List Bd} (hw : wk a b es) (hB : ∀ e ∈ es, e ∈ B) : ∃ t, T_ B n a b = some t ∧ t ≤ wt es := by
  rcases simple_of es.length es a b (Nat.le_refl _) hw hB with h | ⟨es', q1, q2, q3, q4, q5⟩
  · exact absurd h hN
  · obtain ⟨t, h1, h2⟩ := tbl_ub (tb0_ub B n) n (Nat.le_refl _) a b es' ha hb q1 q2 q3 (drop_not q4) (int_lt ok q2)
    exact ⟨t, h1, by omega⟩
theorem T_way {n : Nat} {B : List Bd} {a b : Nat} {t : Int} (h : T_ B n a b = some t) : ∃ es, wk a b es ∧ (∀ e ∈ es, e ∈ B) ∧ wt es = t := tbl_snd (tb0_snd B) n a b t h
/-! ### values that fit -/
def fit (B : List Bd) (x : Nat → Int) : Prop := ∀ e ∈ B, x e.1 - x e.2.1 ≤ e.2.2
theorem fit_way {B : List Bd} {x : Nat → Int} (h : fit B x) : ∀ {es : List Bd} {a b : Nat}, wk a b es → (∀ e ∈ es, e ∈ B) → x a - x b ≤ wt es
  | [], a, b, hw, _ => by cases hw; simp [wt]
  | e :: es, a, b, hw, hB => by
    have h1 := h e (hB e (by simp))
    have h2 := fit_way h (es := es) hw.2 fun d hd => hB d (by simp [hd])
    have h3 := hw.1
    rw [wt_cons]
    rw [h3] at h1
    omega
theorem fit_neg {B : List Bd} {x : Nat → Int} (h : fit B x) : ¬ NegC B := by
  rintro ⟨c, es, _, hw, hB, _, hneg⟩
  have := fit_way h hw hB
  omega
end FL.V
set_option autoImplicit false
set_option linter.all false
set_option maxRecDepth 100000
set_option maxHeartbeats 2000000
/-! the lowering: bounds taken in turns, numbers lowered; u: when a node was lowered last (0: never) -/
namespace FL.V
open PySem FL
structure Lo where
  N : Nat → Option Int
  P : Nat → Option Nat
  u : Nat → Nat
def up {β : Type} (f : Nat → β) (a : Nat) (x : β) : Nat → β := fun y => if y = a then x else f y
theorem up_at {β : Type} (f : Nat → β) (a : Nat) (x : β) : up f a x a = x := by unfold up; rw [if_pos rfl]
theorem up_ne {β : Type} (f : Nat → β) {a b : Nat} (x : β) (h : b ≠ a) : up f a x b = f b := by unfold up; rw [if_neg h]
/-- is the bound to be used? -/
def can (N : Nat → Option Int) (e : Bd) : Bool := match N e.2.1 with
  | none => false
  | some y => match N e.1 with
    | none => true
    | some x => decide (y + e.2.2 < x)
def low (s : Lo) (e : Bd) (m t : Nat) : Lo := if can s.N e = true then ⟨up s.N e.1 ((s.N e.2.1).map (· + e.2.2)), up s.P e.1 (some m), up s.u e.1 (t + 1)⟩ else s
/-- the bound that comes at a time -/
def bat (B : List Bd) (t : Nat) : Bd := B.getD (t % B.length) (0, 0, 0)
def st (B : List Bd) (i : Nat → Option Int) : Nat → Lo
  | 0 => ⟨i, fun _ => none, fun _ => 0⟩
  | t + 1 => low (st B i t) (bat B t) (t % B.length) t
theorem bat_mem {B : List Bd} (h : B ≠ []) (t : Nat) : bat B t ∈ B := by
  unfold bat
  have : t % B.length < B.length := Nat.mod_lt _ (List.length_pos_iff.mpr h)
  rw [List.getD_eq_getElem?_getD, List.getElem?_eq_getElem this]
  exact List.getElem_mem this
theorem can_some {N : Nat → Option Int} {e : Bd} (h : can N e = true) : ∃ y, N e.2.1 = some y ∧ ∀ x, N e.1 = some x → y + e.2.2 < x := by
  unfold can at h
  cases hy : N e.2.1 with
  | none => rw [hy] at h; cases h
  | some y =>
    rw [hy] at h
    refine ⟨y, rfl, fun x hx => ?_⟩
    rw [hx] at h
    simpa using h
theorem can_not {N : Nat → Option Int} {e : Bd} (h : can N e = false) {y : Int} (hy : N e.2.1 = some y) : ∃ x, N e.1 = some x ∧ x ≤ y + e.2.2 := by
  unfold can at h
  rw [hy] at h
  cases hx : N e.1 with
  | none => rw [hx] at h; cases h
  | some x => rw [hx] at h; exact ⟨x, rfl, by simpa using h⟩
/-- lower, or as it was -/
def dn (N N' : Nat → Option Int) : Prop := ∀ a x, N a = some x → ∃ x', N' a = some x' ∧ x' ≤ x
theorem dn.refl (N : Nat → Option Int) : dn N N := fun a x h => ⟨x, h, Int.le_refl _⟩
theorem dn.trans {N N1 N2 : Nat → Option Int} (h1 : dn N N1) (h2 : dn N1 N2) : dn N N2 := fun a x h => by
  obtain ⟨y, e1, l1⟩ := h1 a x h
  obtain ⟨z, e2, l2⟩ := h2 a y e1
  exact ⟨z, e2, by omega⟩
theorem low_dn (s : Lo) (e : Bd) (m t : Nat) : dn s.N (low s e m t).N := by
  intro a x h
  unfold low
  split
  · rename_i hc
    obtain ⟨y, h1, h2⟩ := can_some hc
    by_cases ha : a = e.1
    · subst ha
      refine ⟨y + e.2.2, by simp only [up_at, h1, Option.map_some], ?_⟩
      have := h2 x h
      omega
    · exact ⟨x, by simp only [up_ne _ _ ha]; exact h, Int.le_refl _⟩
  · exact ⟨x, h, Int.le_refl _⟩
theorem st_dn (B : List Bd) (i : Nat → Option Int) (t : Nat) : ∀ k, dn (st B i t).N (st B i (t + k)).N
  | 0 => dn.refl _
  | k + 1 => (st_dn B i t k).trans (low_dn _ _ _ _)
/-- each number is a first one and a way to it -/
theorem st_way {B : List Bd} {i : Nat → Option Int} (hB : B ≠ []) : ∀ (t : Nat) (a : Nat) (x : Int), (st B i t).N a = some x → ∃ s y es, i s = some y ∧ wk a s es ∧ (∀ e ∈ es, e ∈ B) ∧ x = y + wt es
  | 0, a, x, h => ⟨a, x, [], h, rfl, by simp, by simp [wt]⟩
  | t + 1, a, x, h => by
    have ih := st_way (i := i) hB t
    rw [st] at h
    unfold low at h
    split at h
    · rename_i hc
      obtain ⟨y, h1, h2⟩ := can_some hc
      by_cases ha : a = (bat B t).1
      · subst ha
        simp only [up_at, h1, Option.map_some, Option.some.injEq] at h
        obtain ⟨s, y0, es, g1, g2, g3, g4⟩ := ih _ _ h1
        refine ⟨s, y0, bat B t :: es, g1, ⟨rfl, g2⟩, fun e he => ?_, by rw [wt_cons]; omega⟩
        rcases List.mem_cons.mp he with rfl | he
        · exact bat_mem hB t
        · exact g3 e he
      · simp only [up_ne _ _ ha] at h
        exact ih a x h
    · exact ih a x h
/-- nothing is left to be lowered -/
def cld (B : List Bd) (N : Nat → Option Int) : Prop := ∀ e ∈ B, can N e = false
theorem cld_way {B : List Bd} {N i : Nat → Option Int} (hc : cld B N) (hd : dn i N) : ∀ {es : List Bd} {a s : Nat} {y : Int}, wk a s es → (∀ e ∈ es, e ∈ B) → i s = some y → ∃ x, N a = some x ∧ x ≤ y + wt es
  | [], a, s, y, hw, _, hy => by
    cases hw
    obtain ⟨x, h1, h2⟩ := hd _ _ hy
    exact ⟨x, h1, by simpa [wt] using h2⟩
  | e :: es, a, s, y, hw, hB, hy => by
    obtain ⟨x, h1, h2⟩ := cld_way hc hd (es := es) hw.2 (fun d hd => hB d (by simp [hd])) hy
    obtain ⟨z, g1, g2⟩ := can_not (hc e (hB e (by simp))) h1
    have := hw.1
    subst this
    exact ⟨z, g1, by rw [wt_cons]; omega⟩
/-- a turn in which nothing was lowered: nothing is left -/
theorem turn_cld {B : List Bd} {i : Nat → Option Int} {t : Nat} (hB : B ≠ []) (h : ∀ k, k < B.length → can (st B i (t * B.length + k)).N (bat B (t * B.length + k)) = false) : cld B (st B i (t * B.length)).N ∧ st B i (t * B.length + B.length) = st B i (t * B.length) := by
  have key : ∀ k, k ≤ B.length → st B i (t * B.length + k) = st B i (t * B.length) := by
    intro k
    induction k with
    | zero => intro _; rfl
    | succ k ih =>
      intro hk
      have h1 := h k (by omega)
      rw [← Nat.add_assoc, st]
      unfold low
      rw [h1]
      simp
      exact ih (by omega)
  refine ⟨fun e he => ?_, key _ (Nat.le_refl _)⟩
  obtain ⟨k, hk, rfl⟩ := List.mem_iff_getElem.mp he
  have h1 := h k hk
  rw [key k (by omega)] at h1
  have e1 : bat B (t * B.length + k) = B[k] := by
    unfold bat
    rw [Nat.mul_comm, Nat.mul_add_mod, Nat.mod_eq_of_lt hk, List.getD_eq_getElem?_getD, List.getElem?_eq_getElem hk]
    rfl
  rw [e1] at h1
  exact h1
/-- after t turns: no more than any way of t bounds -/
theorem turn_ub {B : List Bd} {i : Nat → Option Int} (hB : B ≠ []) : ∀ (t : Nat) (es : List Bd) (a s : Nat) (y : Int), es.length ≤ t → wk a s es → (∀ e ∈ es, e ∈ B) → i s = some y → ∃ x, (st B i (t * B.length)).N a = some x ∧ x ≤ y + wt es
  | t, [], a, s, y, _, hw, _, hy => by
    cases hw
    have := st_dn B i 0 (t * B.length)
    rw [Nat.zero_add] at this
    obtain ⟨x, h1, h2⟩ := this _ _ hy
    exact ⟨x, h1, by simpa [wt] using h2⟩
  | 0, e :: es, _, _, _, hl, _, _, _ => by simp at hl
  | t + 1, e :: es, a, s, y, hl, hw, hm, hy => by
    obtain ⟨x, h1, h2⟩ := turn_ub hB t es e.2.1 s y (by simpa using hl) hw.2 (fun d hd => hm d (by simp [hd])) hy
    have he := hm e (by simp)
    obtain ⟨k, hk, ek⟩ := List.mem_iff_getElem.mp he
    obtain ⟨z, g1, g2⟩ := st_dn B i (t * B.length) k _ _ h1
    have eb : bat B (t * B.length + k) = e := by
      unfold bat
      rw [Nat.mul_comm, Nat.mul_add_mod, Nat.mod_eq_of_lt hk, List.getD_eq_getElem?_getD, List.getElem?_eq_getElem hk]
      exact ek
    have h3 : ∃ w, (st B i (t * B.length + k + 1)).N e.1 = some w ∧ w ≤ z + e.2.2 := by
      rw [st, eb]
      unfold low
      cases hc : can (st B i (t * B.length + k)).N e with
      | true =>
        rw [if_pos rfl]
        exact ⟨z + e.2.2, by simp only [up_at, g1, Option.map_some], Int.le_refl _⟩
      | false =>
        rw [if_neg (by simp)]
        exact can_not hc g1
    obtain ⟨w, q1, q2⟩ := h3
    obtain ⟨v, p1, p2⟩ := st_dn B i (t * B.length + k + 1) (B.length - k - 1) _ _ q1
    have et : t * B.length + k + 1 + (B.length - k - 1) = (t + 1) * B.length := by rw [Nat.succ_mul]; omega
    rw [et] at p1
    have := hw.1
    subst this
    exact ⟨v, p1, by rw [wt_cons]; omega⟩
end FL.V
set_option autoImplicit false
set_option linter.all false
set_option maxRecDepth 100000
set_option maxHeartbeats 2000000
/-! no way back below 0: the lowering ends; and what the last ones say -/
namespace FL.V
open PySem FL
theorem nd_le : ∀ (n : Nat) (l : List Nat), l.Nodup → (∀ x ∈ l, x < n) → l.length ≤ n
  | 0, l, _, h => by
    cases l with
    | nil => simp
    | cons a t => have := h a (by simp); omega
  | n + 1, l, hn, h => by
    have h1 : (l.erase n).length ≤ n := nd_le n _ (hn.erase n) fun x hx => by
      have h2 := h x (List.mem_of_mem_erase hx)
      have h3 : x ≠ n := fun e => by rw [e] at hx; exact (hn.mem_erase_iff.mp hx).1 rfl
      omega
    by_cases hm : n ∈ l
    · rw [List.length_erase_of_mem hm] at h1; omega
    · rw [List.erase_of_not_mem hm] at h1; omega
theorem wk_lt {n : Nat} {B : List Bd} (ok : okB n B) : ∀ {es : List Bd} {a b : Nat}, wk a b es → (∀ e ∈ es, e ∈ B) → a < n → b < n
  | [], a, b, h, _, ha => by cases h; exact ha
  | e :: es, a, b, h, hB, _ => wk_lt ok h.2 (fun d hd => hB d (by simp [hd])) (ok e (hB e (by simp))).2
/-- without a way back below 0 nothing is left after n turns -/
theorem go_none {n : Nat} {B : List Bd} {i : Nat → Option Int} (hB : B ≠ []) (ok : okB n B) (hi : ∀ s y, i s = some y → s < n) (hN : ¬ NegC B) : cld B (st B i (n * B.length)).N := by
  intro e he
  cases hc : can (st B i (n * B.length)).N e with
  | false => rfl
  | true =>
    exfalso
    obtain ⟨y, h1, h2⟩ := can_some hc
    obtain ⟨s, y0, es, g1, g2, g3, g4⟩ := st_way hB _ _ _ h1
    have hw : wk e.1 s (e :: es) := ⟨rfl, g2⟩
    have hm : ∀ d ∈ e :: es, d ∈ B := fun d hd => by
      rcases List.mem_cons.mp hd with rfl | hd
      · exact he
      · exact g3 d hd
    rcases simple_of (e :: es).length (e :: es) e.1 s (Nat.le_refl _) hw hm with h | ⟨es', q1, q2, q3, q4, q5⟩
    · exact hN h
    · have hl : es'.length ≤ n := by
        have := nd_le n (es'.map (·.1)) q3 fun x hx => by
          obtain ⟨d, hd, rfl⟩ := List.mem_map.mp hx
          exact (ok d (q2 d hd)).1
        simpa using this
      obtain ⟨x, p1, p2⟩ := turn_ub hB n es' e.1 s y0 hl q1 q2 g1
      have := h2 x p1
      rw [wt_cons] at q5
      omega
/-- where nothing is left the numbers fit -/
theorem cld_fit {B : List Bd} {N : Nat → Option Int} (hc : cld B N) (hs : ∀ e ∈ B, ∃ y, N e.2.1 = some y) : fit B fun a => (N a).getD 0 := by
  intro e he
  obtain ⟨y, hy⟩ := hs e he
  obtain ⟨x, h1, h2⟩ := can_not (hc e he) hy
  simp only [h1, hy, Option.getD_some]
  omega
/-! ### the last ones -/
structure Iv (B : List Bd) (T : Nat) (s : Lo) : Prop where
  lt : ∀ a, s.u a ≤ T
  P : ∀ a, s.u a ≠ 0 → s.P a = some ((s.u a - 1) % B.length) ∧ (bat B (s.u a - 1)).1 = a ∧ (∃ y, s.N (bat B (s.u a - 1)).2.1 = some y) ∧ (B.length < s.u a → s.u a < s.u (bat B (s.u a - 1)).2.1 + B.length)
  W : ∀ r, r < T → T ≤ r + B.length → ∀ y, s.N (bat B r).2.1 = some y → (∃ x, s.N (bat B r).1 = some x ∧ x ≤ y + (bat B r).2.2) ∨ r + 1 < s.u (bat B r).2.1
theorem bat_mod (B : List Bd) (t : Nat) (h : B.length ≤ t) : bat B (t - B.length) = bat B t := by
  unfold bat
  rw [show t = (t - B.length) + B.length by omega]
  simp
theorem iv {B : List Bd} {i : Nat → Option Int} (hB : B ≠ []) (ns : ∀ e ∈ B, e.1 ≠ e.2.1) : ∀ T, Iv B T (st B i T)
  | 0 => ⟨fun a => Nat.le_refl _, fun a h => absurd rfl h, fun r h => by omega⟩
  | T + 1 => by
    have I := iv (i := i) hB ns T
    have he := bat_mem hB T
    have hne := ns _ he
    rw [st]
    generalize hs : st B i T = s at I
    unfold low
    cases hc : can s.N (bat B T) with
    | false =>
      rw [if_neg (by simp)]
      refine ⟨fun a => by have := I.lt a; omega, I.P, fun r h1 h2 y hy => ?_⟩
      by_cases hr : r = T
      · subst hr; exact .inl (can_not hc hy)
      · exact I.W r (by omega) (by omega) y hy
    | true =>
      rw [if_pos rfl]
      obtain ⟨y0, h1, h2⟩ := can_some hc
      refine ⟨fun a => ?_, fun a ha => ?_, fun r g1 g2 y hy => ?_⟩
      · show up s.u _ _ a ≤ _
        by_cases e : a = (bat B T).1
        · subst e; rw [up_at]
          omega
        · rw [up_ne _ _ e]; have := I.lt a; omega
      · simp only at ha ⊢
        by_cases e : a = (bat B T).1
        · subst e
          rw [up_at, up_at]
          simp only [Nat.add_sub_cancel]
          refine ⟨trivial, trivial, ⟨y0, by rw [up_ne _ _ (Ne.symm hne)]; exact h1⟩, fun hl => ?_⟩
          rw [up_ne _ _ (Ne.symm hne)]
          by_cases hT : B.length ≤ T
          · have hb := bat_mod B T hT
            have hpos : 0 < B.length := List.length_pos_iff.mpr hB
            rcases I.W (T - B.length) (by omega) (by omega) y0 (by rw [hb]; exact h1) with ⟨x, p1, p2⟩ | p
            · rw [hb] at p1 p2
              have := h2 x p1
              omega
            · rw [hb] at p
              omega
          · omega
        · rw [up_ne _ _ e] at ha ⊢
          rw [up_ne _ _ e]
          obtain ⟨q1, q2, q3, q4⟩ := I.P a ha
          refine ⟨q1, q2, ?_, fun hl => ?_⟩
          · obtain ⟨y, hy⟩ := q3
            by_cases e2 : (bat B (s.u a - 1)).2.1 = (bat B T).1
            · rw [e2, up_at]; exact ⟨y0 + (bat B T).2.2, by rw [h1]; rfl⟩
            · rw [up_ne _ _ e2]; exact ⟨y, hy⟩
          · have := q4 hl
            have hlt := I.lt a
            by_cases e2 : (bat B (s.u a - 1)).2.1 = (bat B T).1
            · have h3 := I.lt ((bat B T).1)
              rw [e2, up_at]
              rw [e2] at this
              omega
            · rw [up_ne _ _ e2]; exact this
      · simp only at hy ⊢
        by_cases e2 : (bat B r).2.1 = (bat B T).1
        · by_cases hr : r = T
          · subst hr; exact absurd e2.symm hne
          · right
            rw [e2, up_at]
            omega
        · rw [up_ne _ _ e2] at hy ⊢
          have key : ∀ x, s.N (bat B r).1 = some x → x ≤ y + (bat B r).2.2 → ∃ x, up s.N (bat B T).1 ((s.N (bat B T).2.1).map (· + (bat B T).2.2)) (bat B r).1 = some x ∧ x ≤ y + (bat B r).2.2 := by
            intro x hx hle
            by_cases e3 : (bat B r).1 = (bat B T).1
            · rw [e3, up_at]
              refine ⟨y0 + (bat B T).2.2, by rw [h1]; rfl, ?_⟩
              have := h2 x (by rw [← e3]; exact hx)
              omega
            · rw [up_ne _ _ e3]; exact ⟨x, hx, hle⟩
          by_cases hr : r = T
          · subst hr
            left
            rw [up_at]
            refine ⟨y0 + (bat B r).2.2, by rw [h1]; rfl, ?_⟩
            rw [h1] at hy; cases hy; exact Int.le_refl _
          · rcases I.W r (by omega) (by omega) y hy with ⟨x, p1, p2⟩ | p
            · exact .inl (key x p1 p2)
            · exact .inr p
/-- the one before -/
def pv (B : List Bd) (s : Lo) (a : Nat) : Nat := (bat B (s.u a - 1)).2.1
def pvn (B : List Bd) (s : Lo) : Nat → Nat → Nat
  | 0, a => a
  | k + 1, a => pv B s (pvn B s k a)
/-- from what was lowered in the last turn, n steps back are there -/
theorem pvn_u {B : List Bd} {i : Nat → Option Int} {n T : Nat} (hB : B ≠ []) (ns : ∀ e ∈ B, e.1 ≠ e.2.1) {a : Nat} (ha : n * B.length < (st B i T).u a) : ∀ k, k ≤ n → (n - k) * B.length < (st B i T).u (pvn B (st B i T) k a)
  | 0, _ => ha
  | k + 1, hk => by
    have ih := pvn_u hB ns ha k (by omega)
    have I := iv (i := i) hB ns T
    have e : n - k = (n - (k + 1)) + 1 := by omega
    rw [e, Nat.succ_mul] at ih
    obtain ⟨_, _, _, h4⟩ := I.P (pvn B (st B i T) k a) (by omega)
    have h5 : (st B i T).u (pvn B (st B i T) k a) < (st B i T).u (pvn B (st B i T) (k + 1) a) + B.length := h4 (by omega)
    omega
end FL.V
set_option autoImplicit false
set_option linter.all false
set_option maxRecDepth 100000
set_option maxHeartbeats 2000000
/-! what is lowered after n turns leads to a way back below 0 -/
namespace FL.V
open PySem FL
def Dv (B : List Bd) (s : Lo) : Prop := ∀ a, s.u a ≠ 0 → ∃ x y, s.N a = some x ∧ s.N (bat B (s.u a - 1)).2.1 = some y ∧ y + (bat B (s.u a - 1)).2.2 ≤ x ∧ (s.u a < s.u (bat B (s.u a - 1)).2.1 → y + (bat B (s.u a - 1)).2.2 < x)
theorem dv {B : List Bd} {i : Nat → Option Int} (hB : B ≠ []) (ns : ∀ e ∈ B, e.1 ≠ e.2.1) : ∀ T, Dv B (st B i T)
  | 0 => fun a h => absurd rfl h
  | T + 1 => by
    have D := dv (i := i) hB ns T
    have I := iv (i := i) hB ns T
    have hne := ns _ (bat_mem hB T)
    rw [st]
    generalize hs : st B i T = s at I D
    unfold low
    cases hc : can s.N (bat B T) with
    | false => rw [if_neg (by simp)]; exact D
    | true =>
      rw [if_pos rfl]
      obtain ⟨y0, h1, h2⟩ := can_some hc
      intro a ha
      simp only at ha ⊢
      by_cases e : a = (bat B T).1
      · subst e
        rw [up_at, up_at]
        simp only [Nat.add_sub_cancel]
        refine ⟨y0 + (bat B T).2.2, y0, by rw [h1]; rfl, by rw [up_ne _ _ (Ne.symm hne)]; exact h1, Int.le_refl _, fun hl => ?_⟩
        rw [up_ne _ _ (Ne.symm hne)] at hl
        have := I.lt (bat B T).2.1
        omega
      · rw [up_ne _ _ e] at ha ⊢
        rw [up_ne _ _ e]
        obtain ⟨x, y, q1, q2, q3, q4⟩ := D a ha
        by_cases e2 : (bat B (s.u a - 1)).2.1 = (bat B T).1
        · have hy := h2 y (by rw [← e2]; exact q2)
          rw [e2, up_at, up_at]
          exact ⟨x, y0 + (bat B T).2.2, q1, by rw [h1]; rfl, by omega, fun _ => by omega⟩
        · rw [up_ne _ _ e2, up_ne _ _ e2]
          exact ⟨x, y, q1, q2, q3, q4⟩
theorem pvn_add (B : List Bd) (s : Lo) : ∀ k m a, pvn B s (k + m) a = pvn B s k (pvn B s m a)
  | 0, m, a => by rw [Nat.zero_add]; rfl
  | k + 1, m, a => by rw [Nat.succ_add]; show pv B s (pvn B s (k + m) a) = _; rw [pvn_add B s k m a]; rfl
theorem dup_of {n : Nat} {v : Nat → Nat} (h : ∀ k, k ≤ n → v k < n) : ∃ i j, i < j ∧ j ≤ n ∧ v i = v j := by
  refine Classical.byContradiction fun z => ?_
  have nd : ((List.range (n + 1)).map v).Nodup := by
    rw [List.Nodup, List.pairwise_map]
    refine List.pairwise_lt_range.imp_of_mem fun {a b} ha hb hab e => z ⟨a, b, hab, by have := List.mem_range.mp hb; omega, e⟩
  have := nd_le n _ nd fun x hx => by
    obtain ⟨k, hk, rfl⟩ := List.mem_map.mp hx
    exact h k (by have := List.mem_range.mp hk; omega)
  rw [List.length_map, List.length_range] at this
  omega
/-- n steps back stand on a round -/
theorem round {B : List Bd} {i : Nat → Option Int} {n T : Nat} (hB : B ≠ []) (ok : okB n B) (ns : ∀ e ∈ B, e.1 ≠ e.2.1) {a : Nat} (ha : n * B.length < (st B i T).u a) : ∃ L, 0 < L ∧ L ≤ n ∧ pvn B (st B i T) L (pvn B (st B i T) n a) = pvn B (st B i T) n a ∧ (∀ k, k < L → (st B i T).u (pvn B (st B i T) k (pvn B (st B i T) n a)) ≠ 0) ∧ ∀ j k, j < k → k < L → pvn B (st B i T) j (pvn B (st B i T) n a) ≠ pvn B (st B i T) k (pvn B (st B i T) n a) := by
  have hu : ∀ k, k ≤ n → (st B i T).u (pvn B (st B i T) k a) ≠ 0 := fun k hk => by have := pvn_u hB ns ha k hk; omega
  have I := iv (i := i) hB ns T
  generalize st B i T = s at hu I
  have hv : ∀ k, k ≤ n → pvn B s k a < n := fun k hk => by
    obtain ⟨_, h2, _⟩ := I.P _ (hu k hk)
    rw [← h2]
    exact (ok _ (bat_mem hB _)).1
  obtain ⟨p, q, hpq, hq, he⟩ := dup_of (v := fun k => pvn B s k a) hv
  have per : ∀ k, p ≤ k → pvn B s (k + (q - p)) a = pvn B s k a := by
    intro k hk
    have e1 : k + (q - p) = (k - p) + q := by omega
    have e2 : k = (k - p) + p := by omega
    rw [e1, pvn_add, ← he, ← pvn_add, ← e2]
  have hw : pvn B s (q - p) (pvn B s n a) = pvn B s n a := by
    rw [← pvn_add, Nat.add_comm]; exact per n (by omega)
  -- the least one
  obtain ⟨L, ⟨l1, l2, l3⟩, lmin⟩ : ∃ L, (0 < L ∧ L ≤ q - p ∧ pvn B s L (pvn B s n a) = pvn B s n a) ∧ ∀ M, M < L → ¬ (0 < M ∧ pvn B s M (pvn B s n a) = pvn B s n a) := by
    have hex : ∃ L, 0 < L ∧ L ≤ q - p ∧ pvn B s L (pvn B s n a) = pvn B s n a := ⟨q - p, by omega, Nat.le_refl _, hw⟩
    obtain ⟨L0, h0⟩ := hex
    induction L0 using Nat.strongRecOn with
    | ind L0 ih =>
      by_cases h : ∃ M, M < L0 ∧ 0 < M ∧ pvn B s M (pvn B s n a) = pvn B s n a
      · obtain ⟨M, m1, m2, m3⟩ := h
        exact ih M m1 ⟨m2, by omega, m3⟩
      · exact ⟨L0, h0, fun M hM z => h ⟨M, hM, z⟩⟩
  refine ⟨L, l1, by omega, l3, fun k hk => ?_, fun j k hjk hk e => ?_⟩
  · have e1 : pvn B s k (pvn B s n a) = pvn B s (n - (q - p) + k) a := by
      rw [← pvn_add, Nat.add_comm k n]
      have := per (n - (q - p) + k) (by omega)
      rw [← this]
      congr 1
      omega
    rw [e1]
    exact hu _ (by omega)
  · -- a shorter round
    have h1 : pvn B s (L - k + j) (pvn B s n a) = pvn B s n a := by
      rw [pvn_add, e, ← pvn_add, show L - k + k = L by omega]; exact l3
    exact lmin (L - k + j) (by omega) ⟨by omega, h1⟩
/-- the bounds of the round -/
def rnd (B : List Bd) (s : Lo) (w L : Nat) : List Bd := (List.range L).map fun k => bat B (s.u (pvn B s k w) - 1)
theorem rnd_wk {B : List Bd} {s : Lo} {T w : Nat} (I : Iv B T s) : ∀ L, (∀ k, k < L → s.u (pvn B s k w) ≠ 0) → wk w (pvn B s L w) (rnd B s w L)
  | 0, _ => rfl
  | L + 1, h => by
    have ih := rnd_wk I L fun k hk => h k (by omega)
    unfold rnd
    rw [List.range_succ, List.map_append]
    refine wk_app ih ?_
    obtain ⟨_, h2, _⟩ := I.P _ (h L (by omega))
    exact ⟨h2, rfl⟩
theorem rnd_nodes {B : List Bd} {s : Lo} {T w : Nat} (I : Iv B T s) {L : Nat} (h : ∀ k, k < L → s.u (pvn B s k w) ≠ 0) : (rnd B s w L).map (·.1) = (List.range L).map fun k => pvn B s k w := by
  unfold rnd
  rw [List.map_map]
  refine List.map_congr_left fun k hk => ?_
  obtain ⟨_, h2, _⟩ := I.P _ (h k (List.mem_range.mp hk))
  exact h2
/-- the sum over a part of the round -/
theorem rnd_le {B : List Bd} {s : Lo} {w : Nat} (D : Dv B s) {x : Nat → Int} (hx : ∀ a y, s.N a = some y → x a = y) : ∀ L, (∀ k, k < L → s.u (pvn B s k w) ≠ 0) → wt (rnd B s w L) ≤ x w - x (pvn B s L w)
  | 0, _ => by
    show (0 : Int) ≤ x w - x w
    omega
  | L + 1, h => by
    have ih := rnd_le D hx L fun k hk => h k (by omega)
    obtain ⟨p, q, q1, q2, q3, _⟩ := D _ (h L (by omega))
    have e1 := hx _ _ q1
    have e2 := hx _ _ q2
    have e3 : pvn B s (L + 1) w = (bat B (s.u (pvn B s L w) - 1)).2.1 := rfl
    have e4 : wt (rnd B s w (L + 1)) = wt (rnd B s w L) + (bat B (s.u (pvn B s L w) - 1)).2.2 := by
      unfold rnd
      rw [List.range_succ, List.map_append, wt_app]
      congr 1
      simp [wt]
    rw [e4, e3, e2]
    rw [e1] at ih
    omega
theorem rnd_lt {B : List Bd} {s : Lo} {w : Nat} (D : Dv B s) {x : Nat → Int} (hx : ∀ a y, s.N a = some y → x a = y) : ∀ L, (∀ k, k < L → s.u (pvn B s k w) ≠ 0) → (∃ k, k < L ∧ s.u (pvn B s k w) < s.u (pvn B s (k + 1) w)) → wt (rnd B s w L) < x w - x (pvn B s L w)
  | 0, _, h => by obtain ⟨k, hk, _⟩ := h; omega
  | L + 1, h, hs => by
    obtain ⟨p, q, q1, q2, q3, q4⟩ := D _ (h L (by omega))
    have e1 := hx _ _ q1
    have e2 := hx _ _ q2
    have e3 : pvn B s (L + 1) w = (bat B (s.u (pvn B s L w) - 1)).2.1 := rfl
    have e4 : wt (rnd B s w (L + 1)) = wt (rnd B s w L) + (bat B (s.u (pvn B s L w) - 1)).2.2 := by
      unfold rnd
      rw [List.range_succ, List.map_append, wt_app]
      congr 1
      simp [wt]
    obtain ⟨k, hk, hlt⟩ := hs
    by_cases hkL : k = L
    · subst hkL
      have ih := rnd_le D hx k fun j hj => h j (by omega)
      have := q4 hlt
      rw [e4, e3, e2]
      rw [e1] at ih
      omega
    · have ih := rnd_lt D hx L (fun j hj => h j (by omega)) ⟨k, by omega, hlt⟩
      rw [e4, e3, e2]
      rw [e1] at ih
      omega
/-- a row that comes back and is not of one number alone rises somewhere -/
theorem rises {f : Nat → Nat} {L : Nat} (hL : 0 < L) (hf : f L = f 0) (hne : ∀ k, k < L → f k ≠ f (k + 1)) : ∃ k, k < L ∧ f k < f (k + 1) := by
  refine Classical.byContradiction fun z => ?_
  have hd : ∀ k, k < L → f (k + 1) < f k := fun k hk => by
    have h1 := hne k hk
    have h2 : ¬ f k < f (k + 1) := fun h => z ⟨k, hk, h⟩
    omega
  have key : ∀ k, k ≤ L → f k + k ≤ f 0 := by
    intro k
    induction k with
    | zero => intro _; exact Nat.le_refl _
    | succ k ih =>
      intro hk
      have := ih (by omega)
      have := hd k (by omega)
      omega
  have := key L (Nat.le_refl _)
  omega
/-- the round is a way back below 0 -/
theorem round_neg {B : List Bd} {i : Nat → Option Int} {n T : Nat} (hB : B ≠ []) (ok : okB n B) (ns : ∀ e ∈ B, e.1 ≠ e.2.1) {a : Nat} (ha : n * B.length < (st B i T).u a) : ∃ L, 0 < L ∧ L ≤ n ∧ pvn B (st B i T) L (pvn B (st B i T) n a) = pvn B (st B i T) n a ∧ (∀ k, k < L → (st B i T).u (pvn B (st B i T) k (pvn B (st B i T) n a)) ≠ 0) ∧ (∀ j k, j < k → k < L → pvn B (st B i T) j (pvn B (st B i T) n a) ≠ pvn B (st B i T) k (pvn B (st B i T) n a)) ∧ wt (rnd B (st B i T) (pvn B (st B i T) n a) L) < 0 := by
  obtain ⟨L, h1, h2, h3, h4, h5⟩ := round hB ok ns ha
  have I := iv (i := i) hB ns T
  have D := dv (i := i) hB ns T
  refine ⟨L, h1, h2, h3, h4, h5, ?_⟩
  generalize st B i T = s at *
  generalize pvn B s n a = w at *
  have inj : ∀ p q, s.u p ≠ 0 → s.u p = s.u q → p = q := fun p q hp he => by
    obtain ⟨_, g1, _⟩ := I.P p hp
    obtain ⟨_, g2, _⟩ := I.P q (by omega)
    rw [← g1, ← g2, he]
  have hr := rises (f := fun k => s.u (pvn B s k w)) (L := L) h1 (by show s.u (pvn B s L w) = s.u w; rw [h3]) (by
    intro k hk he
    have hu := h4 k hk
    have := inj _ _ hu he
    -- a bound from a node to itself
    obtain ⟨_, g1, _⟩ := I.P _ hu
    have e3 : pvn B s (k + 1) w = (bat B (s.u (pvn B s k w) - 1)).2.1 := rfl
    rw [e3] at this
    exact ns _ (bat_mem hB _) (g1.trans this))
  have := rnd_lt D (x := fun a => (s.N a).getD 0) (fun a y h => by show (s.N a).getD 0 = y; rw [h]; rfl) L h4 hr
  rw [h3] at this
  omega
end FL.V
set_option autoImplicit false
set_option linter.all false
set_option maxRecDepth 100000
set_option maxHeartbeats 4000000
namespace FL.L
open PySem FL FL.V
def co : Option Int → FL.D
  | some c => .int c
  | none => .non
def lo : Option Nat → FL.D
  | some c => .int (c : Nat)
  | none => .non
theorem getF_at {cs : List Str} {H : Hs} {M : Nat} {c f : Str} {fs : List (Str × FL.D)} {d : FL.D} (e : H[M]? = some (.obj c fs)) (hc : cs.contains c = true) (hd : fs.lookup f = some d) : getF cs (.loc M) f H = .ok d H := by
  simp only [getF, e]
  rw [if_pos hc, hd]
  rfl
theorem clss_Low : pg.clss.contains ("Lowering" : Str) = true := by decide +kernel
abbrev bD (e : Bd) : FL.D := .tup [.int (e.1 : Nat), .int (e.2.1 : Nat), .int e.2.2]
abbrev pD (n : Nat) (B : List Bd) : FL.D := .tup [.int n, .tup (B.map bD)]
def nums (n : Nat) (N : Nat → Option Int) : List FL.D := (List.range n).map fun a => co (N a)
def lasts (n : Nat) (P : Nat → Option Nat) : List FL.D := (List.range n).map fun a => lo (P a)
def loO (L n : Nat) (B : List Bd) : Cell := .obj "Lowering" [("problem", pD n B), ("numbers", .loc (L + 1)), ("last", .loc (L + 2))]
abbrev LH (h : Hs) (n : Nat) (B : List Bd) (s : Lo) : Hs := h ++ [loO h.length n B, .lst (nums n s.N), .lst (lasts n s.P)]
section
variable {k : Nat} {h : Hs} {n : Nat} {B : List Bd} {s : Lo}
theorem LH_0 : (LH h n B s)[h.length]? = some (loO h.length n B) := by simp
theorem LH_1 : (LH h n B s)[h.length + 1]? = some (.lst (nums n s.N)) := by simp
theorem LH_2 : (LH h n B s)[h.length + 2]? = some (.lst (lasts n s.P)) := by simp
theorem LH_p : getF pg.clss (.loc h.length) "problem" (LH h n B s) = .ok (pD n B) (LH h n B s) := getF_at LH_0 clss_Low (by kernel_rfl)
theorem LH_n : getF pg.clss (.loc h.length) "numbers" (LH h n B s) = .ok (.loc (h.length + 1)) (LH h n B s) := getF_at LH_0 clss_Low (by kernel_rfl)
theorem LH_l : getF pg.clss (.loc h.length) "last" (LH h n B s) = .ok (.loc (h.length + 2)) (LH h n B s) := getF_at LH_0 clss_Low (by kernel_rfl)
theorem at_nums {N : Nat → Option Int} {a : Nat} (ha : a < n) : L2.atI (nums n N) (a : Int) = some (co (N a)) := by
  unfold nums
  rw [atI_nat, List.getElem?_map, List.getElem?_range ha]; rfl
theorem at_lasts {P : Nat → Option Nat} {a : Nat} (ha : a < n) : L2.atI (lasts n P) (a : Int) = some (lo (P a)) := by
  unfold lasts
  rw [atI_nat, List.getElem?_map, List.getElem?_range ha]; rfl
theorem idx_n {a : Nat} (ha : a < n) : idxD (.loc (h.length + 1)) (.int a) (LH h n B s) = .ok (co (s.N a)) (LH h n B s) := by
  rw [idx_of (lstAt_of LH_1), at_nums ha]; rfl
theorem idx_l {a : Nat} (ha : a < n) : idxD (.loc (h.length + 2)) (.int a) (LH h n B s) = .ok (lo (s.P a)) (LH h n B s) := by
  rw [idx_of (lstAt_of LH_2), at_lasts ha]; rfl
theorem map_up {β : Type} {n a : Nat} (f : Nat → β) (x : β) (g : β → FL.D) (ha : a < n) : ((List.range n).map fun b => g (f b)).set a (g x) = (List.range n).map fun b => g (up f a x b) := by
  refine List.ext_getElem (by simp) fun i h1 h2 => ?_
  simp at h1
  rw [List.getElem_set]
  by_cases e : a = i
  · subst e; simp [up]
  · rw [if_neg e]; simp [up, Ne.symm e]
theorem set_n {a : Nat} (ha : a < n) (x : Int) : setIdx (.loc (h.length + 1)) (.int a) (.int x) (LH h n B s) = .ok () (LH h n B ⟨up s.N a (some x), s.P, s.u⟩) := by
  rw [set_of LH_1]
  have : L2.ixN (nums n s.N).length (a : Int) = some a := by unfold nums; rw [List.length_map, List.length_range, ixN_pos (by omega) (by omega)]; simp
  rw [this]
  have e := map_up s.N (some x) co ha
  simp only [LH]
  unfold nums at *
  rw [show FL.D.int x = co (some x) from rfl, e]
  simp
theorem set_l {a m : Nat} (ha : a < n) : setIdx (.loc (h.length + 2)) (.int a) (.int (m : Nat)) (LH h n B s) = .ok () (LH h n B ⟨s.N, up s.P a (some m), s.u⟩) := by
  rw [set_of LH_2]
  have : L2.ixN (lasts n s.P).length (a : Int) = some a := by unfold lasts; rw [List.length_map, List.length_range, ixN_pos (by omega) (by omega)]; simp
  rw [this]
  have e := map_up s.P (some m) lo ha
  simp only [LH]
  unfold lasts at *
  rw [show FL.D.int (m : Nat) = lo (some m) from rfl, e]
  simp
end
end FL.L
set_option autoImplicit false
set_option linter.all false
set_option maxRecDepth 100000
set_option maxHeartbeats 4000000
namespace FL.L
open PySem FL FL.V
theorem zipIdx_at {α : Type} {xs : List α} {ds rest : List (α × Nat)} {v : α} {m : Nat} (e : xs.zipIdx = ds ++ (v, m) :: rest) : m = ds.length ∧ xs[ds.length]? = some v := by
  have h2 : xs.zipIdx[ds.length]? = some (v, m) := by rw [e]; simp
  rw [List.getElem?_zipIdx] at h2
  cases h3 : xs[ds.length]? with
  | none => rw [h3] at h2; cases h2
  | some y => rw [h3] at h2; simp at h2; exact ⟨h2.2.symm, by rw [h2.1]⟩
section
variable {k : Nat} {h : Hs} {n : Nat} {B : List Bd}
theorem turn_call {i : Nat → Option Int} (t : Nat) (ok : V.okB n B) (hn : n ≤ 100) (hz : B.length ≤ 1000) : ∃ r : Option Nat, pg.call (k + 1) "Lowering.turn" [.loc h.length] (LH h n B (st B i (t * B.length))) = .ok (lo r) (LH h n B (st B i (t * B.length + B.length))) ∧ (r = none → ∀ j, j < B.length → can (st B i (t * B.length + j)).N (bat B (t * B.length + j)) = false) ∧ ∀ a, r = some a → t * B.length < (st B i (t * B.length + B.length)).u a ∧ a < n := by
  rw [call_eq l_Lowering_turn rfl]
  simp [t_Lowering_turn, b_Lowering_turn, startL, LH_p, enumI, enumFrom_map]
  generalize hr : forL _ _ _ _ _ _ _ = q
  obtain ⟨ls1, h1, rfl, r, rfl, rfl, g1, g2⟩ := for_then (fun (ds : List (Bd × Nat)) ls h' => ∃ r : Option Nat, ls = [some (.loc h.length), some (lo r), none, none, none, none] ∧ h' = LH h n B (st B i (t * B.length + ds.length)) ∧ (r = none → ∀ j, j < ds.length → can (st B i (t * B.length + j)).N (bat B (t * B.length + j)) = false) ∧ ∀ a, r = some a → t * B.length < (st B i (t * B.length + ds.length)).u a ∧ a < n) hr ⟨none, rfl, rfl, by simp, by simp⟩ (by
    rintro ⟨⟨a, b, c⟩, m⟩ ds rest _ _ ⟨r, rfl, rfl, g1, g2⟩ hx
    obtain ⟨rfl, he⟩ := zipIdx_at hx
    have hlt : ds.length < B.length := (List.getElem?_eq_some_iff.mp he).1
    have hm : (a, b, c) ∈ B := List.mem_of_getElem? he
    obtain ⟨ha, hb⟩ := ok _ hm
    simp only at ha hb
    have hB : B ≠ [] := by rintro rfl; simp at hm
    have eb : bat B (t * B.length + ds.length) = (a, b, c) := by
      unfold bat
      rw [Nat.mul_comm, Nat.mul_add_mod, Nat.mod_eq_of_lt hlt, List.getD_eq_getElem?_getD, he]; rfl
    have em : (t * B.length + ds.length) % B.length = ds.length := by rw [Nat.mul_comm, Nat.mul_add_mod, Nat.mod_eq_of_lt hlt]
    have es : st B i (t * B.length + (ds.length + 1)) = low (st B i (t * B.length + ds.length)) (a, b, c) ds.length (t * B.length + ds.length) := by
      rw [← Nat.add_assoc, st, eb, em]
    have hlen : (ds ++ [((a, b, c), ds.length)]).length = ds.length + 1 := by simp
    rw [hlen]
    generalize hs : st B i (t * B.length + ds.length) = s at *
    have nb := idx_n (h := h) (n := n) (B := B) (s := s) hb
    have na := idx_n (h := h) (n := n) (B := B) (s := s) ha
    have ln := LH_n (h := h) (n := n) (B := B) (s := s)
    cases hc : can s.N (a, b, c) with
    | false =>
      have e2 : low s (a, b, c) ds.length (t * B.length + ds.length) = s := by unfold low; rw [hc]; simp
      rw [e2] at es
      refine ⟨[some (.loc h.length), some (lo r), some (.int ds.length), some (.int a), some (.int b), some (.int c)], LH h n B s, ?_, same_t _ _, r, by simp [wipe], by rw [es], fun hr j hj => ?_, fun x hx => ?_⟩
      · unfold can at hc
        simp only at hc
        cases hb2 : s.N b with
        | none =>
          rw [hb2] at nb
          simp [co] at nb
          simp [stp, ln, nb, isNon]
        | some y =>
          rw [hb2] at nb hc
          simp only at hc
          cases ha2 : s.N a with
          | none => rw [ha2] at hc; cases hc
          | some x =>
            rw [ha2] at na hc
            have hx : ¬ y + c < x := by simpa using hc
            simp [co] at nb na
            simp [stp, ln, nb, na, isNon, hx]
      · by_cases e : j = ds.length
        · subst e; rw [hs, eb]; exact hc
        · exact g1 hr j (by omega)
      · rw [es]; exact g2 x hx
    | true =>
      obtain ⟨y, h1, h2⟩ := can_some hc
      simp only at h1 h2
      have e2 : low s (a, b, c) ds.length (t * B.length + ds.length) = ⟨up s.N a (some (y + c)), up s.P a (some ds.length), up s.u a (t * B.length + ds.length + 1)⟩ := by unfold low; rw [hc, h1]; simp
      rw [e2] at es
      rw [h1] at nb
      have sn := set_n (h := h) (n := n) (B := B) (s := s) ha (y + c)
      have sl := set_l (h := h) (n := n) (B := B) (s := ⟨up s.N a (some (y + c)), s.P, s.u⟩) (m := ds.length) ha
      have ll := LH_l (h := h) (n := n) (B := B) (s := ⟨up s.N a (some (y + c)), s.P, s.u⟩)
      simp [co] at nb
      refine ⟨[some (.loc h.length), some (.int a), some (.int ds.length), some (.int a), some (.int b), some (.int c)], LH h n B ⟨up s.N a (some (y + c)), up s.P a (some ds.length), s.u⟩, ?_, same_t _ _, some a, by simp [wipe, lo], by rw [es], (by intro hr; cases hr), ?_⟩
      · cases ha2 : s.N a with
        | none =>
          rw [ha2] at na
          simp [co] at na
          simp [stp, ln, nb, na, isNon, sn, ll, sl]
        | some x =>
          rw [ha2] at na
          have hx := h2 x ha2
          simp [co] at na
          simp [stp, ln, nb, na, isNon, hx, sn, ll, sl]
      · intro x hx
        cases hx
        rw [es]
        exact ⟨by simp only [up_at]; omega, ha⟩)
  rw [List.length_zipIdx] at g1 g2
  refine ⟨r, ?_, g1, g2⟩
  simp
end
end FL.L
set_option autoImplicit false
set_option linter.all false
set_option maxRecDepth 100000
set_option maxHeartbeats 2000000
/-! dicts whose keys are ints -/
namespace FL.C
open PySem FL
def dI (kv : List (Int × FL.D)) : List (FL.D × FL.D) := kv.map fun p => (.int p.1, p.2)
def kI (kv : List (Int × FL.D)) : List Int := kv.map (·.1)
def fI (kv : List (Int × FL.D)) (l : Int) : Option FL.D := (kv.find? fun p => decide (p.1 = l)).map (·.2)
def uI (kv : List (Int × FL.D)) (l : Int) (d : FL.D) : List (Int × FL.D) := if l ∈ kI kv then kv.map (fun p => if p.1 = l then (p.1, d) else p) else kv ++ [(l, d)]
theorem dI_len (kv : List (Int × FL.D)) : (dI kv).length = kv.length := by simp [dI]
theorem dfind_dI (kv : List (Int × FL.D)) (l : Int) : dfind (.num l) (dI kv) = fI kv l := by
  unfold dfind dI fI
  rw [List.find?_map, Option.map_map]
  have e : ((fun p : FL.D × FL.D => decide (p.1.key = some (NestedKey.num l))) ∘ fun p : Int × FL.D => (FL.D.int p.1, p.2)) = fun p => decide (p.1 = l) := by
    funext p; simp [D.key]
  rw [e]; rfl
theorem fI_some (kv : List (Int × FL.D)) (l : Int) : (fI kv l).isSome = decide (l ∈ kI kv) := by
  unfold fI
  rw [Option.isSome_map, Bool.eq_iff_iff, List.find?_isSome, decide_eq_true_eq]
  unfold kI
  simp
theorem any_dI (kv : List (Int × FL.D)) (l : Int) : ((dI kv).any fun p => decide (p.1.key = some (.num l))) = decide (l ∈ kI kv) := by
  rw [Bool.eq_iff_iff, List.any_eq_true, decide_eq_true_eq]
  unfold dI kI
  constructor
  · rintro ⟨a, ha, hk⟩
    obtain ⟨p, hp, rfl⟩ := List.mem_map.mp ha
    simp only [D.key, decide_eq_true_eq, Option.some.injEq, NestedKey.num.injEq] at hk
    exact List.mem_map.mpr ⟨p, hp, hk⟩
  · intro hl
    obtain ⟨p, hp, rfl⟩ := List.mem_map.mp hl
    exact ⟨_, List.mem_map.mpr ⟨p, hp, rfl⟩, by simp [D.key]⟩
theorem dput_dI (kv : List (Int × FL.D)) (l : Int) (d : FL.D) : dput (.num l) (.int l) d (dI kv) = dI (uI kv l d) := by
  unfold dput uI
  rw [any_dI]
  by_cases h : l ∈ kI kv
  · rw [if_pos (by simpa using h), if_pos h]
    unfold dI
    rw [List.map_map, List.map_map]
    refine List.map_congr_left fun p hp => ?_
    simp only [Function.comp, D.key, Option.some.injEq, NestedKey.num.injEq]
    split <;> rfl
  · rw [if_neg (by simpa using h), if_neg h]
    simp [dI]
theorem kI_uI (kv : List (Int × FL.D)) (l : Int) (d : FL.D) : kI (uI kv l d) = if l ∈ kI kv then kI kv else kI kv ++ [l] := by
  unfold uI
  split
  · unfold kI
    rw [List.map_map]
    refine List.map_congr_left fun p hp => ?_
    simp only [Function.comp]
    split <;> rfl
  · simp [kI]
theorem kI_mem {kv : List (Int × FL.D)} {l k : Int} {d : FL.D} : k ∈ kI (uI kv l d) ↔ k ∈ kI kv ∨ k = l := by
  rw [kI_uI]
  split
  · rename_i h
    exact ⟨.inl, fun z => z.elim id fun e => by rw [e]; exact h⟩
  · rw [List.mem_append, List.mem_singleton]
theorem uI_len (kv : List (Int × FL.D)) (l : Int) (d : FL.D) : (uI kv l d).length ≤ kv.length + 1 := by
  unfold uI; split <;> simp
section
variable {h : Hs} {n : Nat} {kv : List (Int × FL.D)} {l : Int} {d : FL.D}
theorem in_dI (e : h[n]? = some (.dict (dI kv))) : inD h (.int l) (.loc n) = some (decide (l ∈ kI kv)) := by
  have e1 : lstD h (.loc n) = none := by simp only [lstD, lstAt, e]
  have e2 : dictD h (.loc n) = some (dI kv) := by simp only [dictD, dictAt, e]
  show inG h (.int l) (.loc n) = _
  unfold inG
  simp only [e1, e2, D.key, keyOk, scalK, Option.isSome_some, if_true, dfind_dI, fI_some]
theorem idx_dI (e : h[n]? = some (.dict (dI kv))) : idxD (.loc n) (.int l) h = FL.R.ofO h (fI kv l) := by
  have e1 : lstD h (.loc n) = none := by simp only [lstD, lstAt, e]
  have e2 : dictD h (.loc n) = some (dI kv) := by simp only [dictD, dictAt, e]
  show idxG (.loc n) (.int l) h = _
  unfold idxG
  simp only [e1, e2, D.key, keyOk, scalK, Option.isSome_some, if_true, dfind_dI]
theorem put_dI (e : h[n]? = some (.dict (dI kv))) (hz : kv.length < 1000000) : setIdx (.loc n) (.int l) d h = .ok () (h.set n (.dict (dI (uI kv l d)))) := by
  rw [setIdx_dict (k := .num l) e rfl rfl (by rw [dI_len, size_big]; omega), dput_dI]
theorem get_dI {z : FL.D} (e : h[n]? = some (.dict (dI kv))) : dgetD (.loc n) (.int l) z h = .ok ((fI kv l).getD z) h := by
  have e2 : dictD h (.loc n) = some (dI kv) := by simp only [dictD, dictAt, e]
  simp only [dgetD, e2, D.key, keyOk, scalK, Option.isSome_some, if_true, dfind_dI]
theorem isD_dI (e : h[n]? = some (.dict (dI kv))) : (dictD h (.loc n)).isSome = true := by simp only [dictD, dictAt, e, Option.isSome_some]
end
/-- all keys there -/
def tuI (K : List Int) : List (Int × FL.D) := K.map fun l => (l, .bl true)
theorem kI_tuI (K : List Int) : kI (tuI K) = K := by unfold kI tuI; rw [List.map_map]; simp [Function.comp_def]
theorem uI_tuI (K : List Int) (l : Int) : uI (tuI K) l (.bl true) = tuI (if l ∈ K then K else K ++ [l]) := by
  unfold uI
  rw [kI_tuI]
  split
  · unfold tuI
    rw [List.map_map]
    refine List.map_congr_left fun p hp => ?_
    simp only [Function.comp]
    split <;> rfl
  · simp [tuI]
theorem tuI_len (K : List Int) : (tuI K).length = K.length := by simp [tuI]
/-! ### loops -/
def runA {α σ : Type} (nx : α → σ → RS ⊕ σ) : List α → σ → RS ⊕ σ
  | [], s => .inr s
  | x :: xs, s => match nx x s with
    | .inl r => .inl r
    | .inr s => runA nx xs s
/-- a for that carries a state and may stop -/
theorem for_run {fg ns : List Nat} {h : Hs} {step : FL.D → Ls → Hs → RS} {α σ : Type} {en : α → FL.D} (L : σ → Ls) (nx : α → σ → RS ⊕ σ) : ∀ {xs : List α} {s : σ} {ls0 : Ls} (e0 : ls0 = L s),
    (∀ x ∈ xs, ∀ s, match nx x s with
      | .inl r => step (en x) (L s) h = r ∧ (∀ f, turnEnd fg r f = r)
      | .inr s' => ∃ ls1, step (en x) (L s) h = .nx ls1 h ∧ wipe ls1 fg = L s') →
    forL fg ns h step (xs.map en) ls0 h = match runA nx xs s with
      | .inl r => r
      | .inr s' => .nx (L s') h
  | [], s, _, rfl, _ => by rw [List.map_nil, forL]; rfl
  | x :: xs, s, _, rfl, hs => by
    have h1 := hs x (by simp) s
    rw [List.map_cons, forL, runA]
    cases e : nx x s with
    | inl r => rw [e] at h1; rw [h1.1, h1.2]
    | inr s' =>
      rw [e] at h1
      obtain ⟨ls1, e1, w⟩ := h1
      rw [e1, turnEnd_nx, w, if_pos (same_refl ns h), for_run L nx rfl fun y hy => hs y (by simp [hy])]
theorem ev_while (Γ : Cfg) (c : FE) (b : FS) (fg : List Nat) (ls : Ls) (h : Hs) : evS Γ (.while_ c b fg) ls h = whileL fg (evT Γ c) (evS Γ b) Γ.big ls h := by rw [evS] <;> rfl
/-- a while by an invariant and a measure -/
theorem while_inv {fg : List Nat} {c : Ls → Hs → R Bool} {body : Ls → Hs → RS} (I : Nat → Ls → Hs → Prop) (Q : RS → Prop)
    (hs : ∀ m ls h, I m ls h → (∃ h1, c ls h = .ok false h1 ∧ Q (.nx ls h1)) ∨ (∃ h1, c ls h = .ok true h1 ∧ ((∃ ls2 h2 m', (body ls h1 = .nx ls2 h2 ∨ body ls h1 = .ct ls2 h2) ∧ m' < m ∧ I m' (wipe ls2 fg) h2) ∨ (∃ d h2, body ls h1 = .rt d h2 ∧ Q (.rt d h2)) ∨ ∃ ls2 h2, body ls h1 = .bk ls2 h2 ∧ Q (.nx (wipe ls2 fg) h2)))) :
    ∀ (m k : Nat) (ls : Ls) (h : Hs), I m ls h → m < k → Q (whileL fg c body k ls h)
  | m, 0, ls, h, _, hk => absurd hk (Nat.not_lt_zero _)
  | m, k + 1, ls, h, hI, hk => by
    rw [whileL]
    rcases hs m ls h hI with ⟨h1, e, q⟩ | ⟨h1, e, ⟨ls2, h2, m', eb, hm, hI2⟩ | ⟨d, h2, eb, q⟩ | ⟨ls2, h2, eb, q⟩⟩
    · rw [e]; simpa using q
    · rw [e]
      simp only [andS_ok, if_true]
      have := while_inv I Q hs m' k (wipe ls2 fg) h2 hI2 (by omega)
      rcases eb with eb | eb <;> rw [eb] <;> simpa using this
    · rw [e]; simp only [andS_ok, if_true]; rw [eb]; simpa using q
    · rw [e]; simp only [andS_ok, if_true]; rw [eb]; simpa using q
/-! ### texts, values -/
theorem eq_str2 {h : Hs} {s t : Str} (hs : PyData.strOk s = true) (ht : PyData.strOk t = true) : eqD h (.str s) (.str t) = some (decide (s = t)) := by
  simp only [eqD, py_str]
  have e : ∀ s, PyData.strOk s = true → SeqAt.shaped (.str s) = true := fun s hs => shaped_of (by simpa [PyData.canLay0] using hs) (by simp [PyData.depth])
  rw [if_pos ⟨e s hs, e t ht⟩]
  simp only [PyData.eqv, Option.some.injEq]
  rw [Bool.eq_iff_iff]; simp
theorem vi_self (h : Hs) (v : List Bool) : eqD h (vi v) (vi v) = some true := by
  have := Eqq.bl.tup.eq (by decide) h v v
  simpa using this
theorem vi_eq (h : Hs) (v w : List Bool) : eqD h (vi v) (vi w) = some (decide (v = w)) := Eqq.bl.tup.eq (by decide) h v w
theorem ci_eq (h : Hs) (v w : List Int) : eqD h (ci v) (ci w) = some (decide (v = w)) := Eqq.int.tup.eq (by decide) h v w
theorem vi_in (h : Hs) (v : List Bool) (vs : List (List Bool)) : inD h (vi v) (.fl (vs.map vi)) = some (decide (v ∈ vs)) := (Eqq.bl.tup.in_fl (by decide) h v vs).trans (by congr)
theorem in_ints (h : Hs) (l : Int) (c : List Int) : inD h (.int l) (.tup (c.map .int)) = some (decide (l ∈ c)) := Eqq.int.in_tup (by decide) h l c
theorem in_intsF (h : Hs) (l : Int) (c : List Int) : inD h (.int l) (.fl (c.map .int)) = some (decide (l ∈ c)) := Eqq.int.in_fl (by decide) h l c
theorem in_intsL {h : Hs} {n : Nat} (l : Int) {c : List Int} (e : lstAt h n = some (c.map .int)) : inD h (.int l) (.loc n) = some (decide (l ∈ c)) := Eqq.int.in_loc (by decide) l e
theorem Mod_mem {n : Nat} {cs : List (List Int)} {v : List Bool} (h : v ∈ Mod n cs) : v.length = n ∧ ∀ c ∈ cs, hol v c = true := by
  obtain ⟨h1, h2⟩ := List.mem_filter.mp h
  exact ⟨W_mem n v h1, List.all_eq_true.mp h2⟩
theorem Mod_iff {n : Nat} {cs : List (List Int)} {v : List Bool} : v ∈ Mod n cs ↔ v.length = n ∧ ∀ c ∈ cs, hol v c = true :=
  ⟨Mod_mem, fun ⟨h1, h2⟩ => List.mem_filter.mpr ⟨W_all n v h1, List.all_eq_true.mpr h2⟩⟩
theorem Mod_len {n : Nat} {cs : List (List Int)} (hn : n ≤ 10) : (Mod n cs).length ≤ 1024 := by
  have h1 := List.length_filter_le (fun v => cs.all (hol v)) (W n)
  have h2 : (W n).length ≤ 2 ^ 10 := by rw [W_len]; exact Nat.pow_le_pow_right (by omega) hn
  unfold FL.C.Mod
  omega
theorem small_ {i : Int} (h : 0 ≤ i ∧ i < 1000) : small i := by unfold small; omega
theorem rangeN (n : Nat) : rangeD 0 (n : Int) = (List.range n).map fun k => FL.D.int (k : Nat) := rangeD_nat n
/-! ### dicts made and joined -/
def mgI (kv more : List (Int × FL.D)) : List (Int × FL.D) := more.foldl (fun acc p => uI acc p.1 p.2) kv
theorem kI_mgI : ∀ {more kv : List (Int × FL.D)} {k : Int}, k ∈ kI (mgI kv more) ↔ k ∈ kI kv ∨ k ∈ kI more
  | [], kv, k => by simp [mgI, kI]
  | p :: more, kv, k => by
    show k ∈ kI (mgI (uI kv p.1 p.2) more) ↔ _
    rw [kI_mgI, kI_mem]
    unfold kI
    rw [List.map_cons, List.mem_cons, or_assoc]
theorem mgI_len : ∀ (more kv : List (Int × FL.D)), (mgI kv more).length ≤ kv.length + more.length
  | [], kv => by simp [mgI]
  | p :: more, kv => by
    have := mgI_len more (uI kv p.1 p.2)
    have := uI_len kv p.1 p.2
    show (mgI (uI kv p.1 p.2) more).length ≤ _
    simp; omega
theorem dmerge_dI : ∀ (more kv : List (Int × FL.D)), dmerge (dI kv) (dI more) = dI (mgI kv more)
  | [], kv => rfl
  | p :: more, kv => by
    show dmerge (dI kv) ((.int p.1, p.2) :: dI more) = _
    rw [dmerge]
    simp only [D.key]
    rw [dput_dI, dmerge_dI more]
    rfl
theorem dmerge_nil (more : List (Int × FL.D)) : dmerge [] (dI more) = dI (mgI [] more) := dmerge_dI more []
theorem zip_dI (kv : List (Int × FL.D)) : ((dI kv).map (·.1)).zip ((dI kv).map (·.2)) = dI kv := by
  induction kv with
  | nil => rfl
  | cons p kv ih => simp only [dI, List.map_cons, List.zip_cons_cons] at ih ⊢; rw [ih]
/-- a dict that is never written again -/
abbrev fdI (kv : List (Int × FL.D)) : FL.D := .fd ((dI kv).map (·.1)) ((dI kv).map (·.2))
theorem dictD_fd (h : Hs) (kv : List (Int × FL.D)) : dictD h (fdI kv) = some (dI kv) := by simp only [dictD, zip_dI]
theorem newD_fd (h : Hs) (kv : List (Int × FL.D)) : newD false h (dI kv) = .ok (fdI kv) h := rfl
theorem fdI_flat {kv : List (Int × FL.D)} (hf : ∀ p ∈ kv, p.2.flat = true) : (fdI kv).flat = true := by
  rw [flat_fd, Bool.and_eq_true, flatL_iff, flatL_iff]
  constructor
  · intro d hd
    obtain ⟨p, hp, rfl⟩ := List.mem_map.mp hd
    obtain ⟨q, hq, rfl⟩ := List.mem_map.mp hp
    simp
  · intro d hd
    obtain ⟨p, hp, rfl⟩ := List.mem_map.mp hd
    obtain ⟨q, hq, rfl⟩ := List.mem_map.mp hp
    exact hf q hq
section
variable {h : Hs} {kv : List (Int × FL.D)} {l : Int}
theorem in_fd : inD h (.int l) (fdI kv) = some (decide (l ∈ kI kv)) := by
  have e1 : lstD h (fdI kv) = none := rfl
  show inG h (.int l) (fdI kv) = _
  unfold inG
  simp only [e1, dictD_fd, D.key, keyOk, scalK, Option.isSome_some, if_true, dfind_dI, fI_some]
theorem idx_fd : idxD (fdI kv) (.int l) h = FL.R.ofO h (fI kv l) := by
  have e1 : lstD h (fdI kv) = none := rfl
  show idxG (fdI kv) (.int l) h = _
  unfold idxG
  simp only [e1, dictD_fd, D.key, keyOk, scalK, Option.isSome_some, if_true, dfind_dI]
theorem get_fd {z : FL.D} : dgetD (fdI kv) (.int l) z h = .ok ((fI kv l).getD z) h := by
  simp only [dgetD, dictD_fd, D.key, keyOk, scalK, Option.isSome_some, if_true, dfind_dI]
theorem isD_fd : (dictD h (fdI kv)).isSome = true := by rw [dictD_fd]; rfl
theorem isDict_of {j : Nat} {kvs : List (FL.D × FL.D)} (e : h[j]? = some (.dict kvs)) : isDict h (.loc j) = true := by
  unfold isDict
  simp only [mdictAt, e, Option.isSome_some]
theorem upd_dI {j : Nat} {more : List (Int × FL.D)} (e : h[j]? = some (.dict (dI kv))) (hz : kv.length + more.length ≤ 1000000) : dupdD (.loc j) (fdI more) h = .ok .non (h.set j (.dict (dI (mgI kv more)))) := by
  unfold dupdD
  simp only [mdictAt, e, dictD_fd]
  rw [if_pos ⟨by rw [dI_len, dI_len, size_big]; omega, rfl⟩, dmerge_dI]
end
/-- {k: v for x in xs if ..} by ints -/
def dcI {α : Type} (g : α → Option (Int × FL.D)) (kv : List (Int × FL.D)) (xs : List α) : List (Int × FL.D) := mgI kv (xs.filterMap g)
theorem dcomp_dI {α : Type} {en : α → FL.D} {ns : List Nat} {h : Hs} {step : FL.D → Hs → FL.R (Option (FL.D × FL.D))} (g : α → Option (Int × FL.D)) : ∀ {xs : List α} {kv : List (Int × FL.D)}, kv.length + xs.length ≤ 1000000 → (∀ x ∈ xs, step (en x) h = .ok ((g x).map fun p => (.int p.1, p.2)) h) → dcompL ns h step (xs.map en) (dI kv) h = .ok (dI (dcI g kv xs)) h
  | [], kv, _, _ => by rw [List.map_nil, dcompL]; rfl
  | x :: xs, kv, hz, hs => by
    have z : (dI kv).length < sizeLine := by rw [size_big, dI_len]; simp at hz; omega
    rw [List.map_cons, dcompL, hs x (by simp)]
    cases hp : g x with
    | none =>
      rw [Option.map_none, R.must_ok, if_pos (same_refl ns h)]
      simp only []
      rw [dcomp_dI g (by simp at hz; omega) fun y hy => hs y (by simp [hy])]
      unfold dcI
      rw [List.filterMap_cons, hp]
    | some p =>
      rw [Option.map_some, R.must_ok, if_pos (same_refl ns h)]
      simp only [D.key]
      rw [if_pos ⟨rfl, z⟩, dput_dI, dcomp_dI g (by have := uI_len kv p.1 p.2; simp at hz; omega) fun y hy => hs y (by simp [hy])]
      unfold dcI
      rw [List.filterMap_cons, hp]
      rfl
theorem dcomp_nil {α : Type} {en : α → FL.D} {ns : List Nat} {h : Hs} {step : FL.D → Hs → FL.R (Option (FL.D × FL.D))} (g : α → Option (Int × FL.D)) {xs : List α} (hz : xs.length ≤ 1000000) (hs : ∀ x ∈ xs, step (en x) h = .ok ((g x).map fun p => (.int p.1, p.2)) h) : dcompL ns h step (xs.map en) [] h = .ok (dI (dcI g [] xs)) h := dcomp_dI g (kv := []) (by simpa using hz) hs
end FL.C
set_option autoImplicit false
set_option linter.all false
set_option maxRecDepth 100000
set_option maxHeartbeats 4000000
namespace FL.L
open PySem FL FL.V FL.C
abbrev LF (h : Hs) (n : Nat) (B : List Bd) (s : Lo) (xs : List FL.D) : Hs := h ++ [loO h.length n B, .lst (nums n s.N), .lst (lasts n s.P), .lst xs]
/-- the number of the bound that lowered a node last -/
def num (B : List Bd) (s : Lo) (a : Nat) : Nat := (s.u a - 1) % B.length
def bdm (B : List Bd) (m : Nat) : Bd := B.getD m (0, 0, 0)
/-- numbers of bounds that lead round below 0 -/
def CirOk (B : List Bd) (ks : List Nat) : Prop := ks ≠ [] ∧ (∀ m ∈ ks, m < B.length) ∧ ks.Nodup ∧ (∃ c, wk c c (ks.map (bdm B))) ∧ wt (ks.map (bdm B)) < 0
theorem nodup_of_map {α β : Type} (f : α → β) : ∀ {l : List α}, (l.map f).Nodup → l.Nodup
  | [], _ => List.nodup_nil
  | x :: l, h => by
    rw [List.map_cons, List.nodup_cons] at h
    rw [List.nodup_cons]
    exact ⟨fun z => h.1 (List.mem_map.mpr ⟨x, z, rfl⟩), nodup_of_map f h.2⟩
section
variable {k : Nat} {h : Hs} {n : Nat} {B : List Bd}
theorem bD_at {m : Nat} (hm : m < B.length) : L2.atI (B.map bD) (m : Int) = some (bD (B.getD m (0, 0, 0))) := by
  rw [atI_nat, List.getElem?_map, List.getD_eq_getElem?_getD, List.getElem?_eq_getElem hm]; rfl
theorem num_lt {s : Lo} {a : Nat} (hB : B ≠ []) : num B s a < B.length := Nat.mod_lt _ (List.length_pos_iff.mpr hB)
theorem num_bD {s : Lo} {a : Nat} (hB : B ≠ []) : L2.atI (B.map bD) (num B s a : Int) = some (bD (bat B (s.u a - 1))) := bD_at (num_lt hB)
theorem circle_call {i : Nat → Option Int} {T a : Nat} (hB : B ≠ []) (ok : V.okB n B) (ns : ∀ e ∈ B, e.1 ≠ e.2.1) (hn : n ≤ 100) (ha : n * B.length < (st B i T).u a) :
    ∃ L, 0 < L ∧ L ≤ n ∧ pvn B (st B i T) L (pvn B (st B i T) n a) = pvn B (st B i T) n a ∧ (∀ k, k < L → (st B i T).u (pvn B (st B i T) k (pvn B (st B i T) n a)) ≠ 0) ∧ (∀ j k, j < k → k < L → pvn B (st B i T) j (pvn B (st B i T) n a) ≠ pvn B (st B i T) k (pvn B (st B i T) n a)) ∧ wt (rnd B (st B i T) (pvn B (st B i T) n a) L) < 0 ∧
      gcX false (LH h n B (st B i T)) (pg.call (k + 1) "Lowering.circle" [.loc h.length, .int a] (LH h n B (st B i T))) = .ok (.tup ((List.range L).map fun j => FL.D.int (num B (st B i T) (pvn B (st B i T) j (pvn B (st B i T) n a)) : Nat))) (LH h n B (st B i T)) := by
  obtain ⟨L, h1, h2, h3, h4, h5, h6⟩ := round_neg (i := i) hB ok ns ha
  refine ⟨L, h1, h2, h3, h4, h5, h6, ?_⟩
  have hu : ∀ k, k ≤ n → (st B i T).u (pvn B (st B i T) k a) ≠ 0 := fun k hk => by have := pvn_u (i := i) hB ns ha k hk; omega
  have I := iv (i := i) hB ns T
  generalize st B i T = s at *
  have lt : ∀ x, s.u x ≠ 0 → x < n := fun x hx => by
    obtain ⟨_, g, _⟩ := I.P x hx
    rw [← g]; exact (ok _ (bat_mem hB _)).1
  have il : ∀ (g : Hs) x, s.u x ≠ 0 → idxD (.loc (h.length + 2)) (.int x) (LH h n B s ++ g) = .ok (.int (num B s x : Nat)) (LH h n B s ++ g) := fun g x hx => by
    rw [idx_of (xs := lasts n s.P) (lstAt_of (by simp)), at_lasts (lt x hx), (I.P x hx).1]; rfl
  have ll : ∀ g : Hs, getF pg.clss (.loc h.length) "last" (LH h n B s ++ g) = .ok (.loc (h.length + 2)) (LH h n B s ++ g) := fun g => getF_at (by simp; rfl) clss_Low (by kernel_rfl)
  have ll0 := ll []
  have il0 := il []
  rw [List.append_nil] at ll0 il0
  have ll1 : ∀ xs, getF pg.clss (.loc h.length) "last" (LF h n B s xs) = .ok (.loc (h.length + 2)) (LF h n B s xs) := fun xs => getF_at (by simp; rfl) clss_Low (by kernel_rfl)
  have il1 : ∀ xs x, s.u x ≠ 0 → idxD (.loc (h.length + 2)) (.int x) (LF h n B s xs) = .ok (.int (num B s x : Nat)) (LF h n B s xs) := fun xs x hx => by
    rw [idx_of (xs := lasts n s.P) (lstAt_of (by simp)), at_lasts (lt x hx), (I.P x hx).1]; rfl
  have ib : ∀ x, L2.atI (B.map bD) (num B s x : Int) = some (bD (bat B (s.u x - 1))) := fun x => num_bD hB
  rw [call_eq l_Lowering_circle rfl]
  have sm : small (n : Int) := by unfold small; omega
  have z1 : 1 ≤ sizeLine := by rw [size_big]; omega
  simp [t_Lowering_circle, b_Lowering_circle, startL, LH_p, sm, rangeD_nat]
  generalize hr : forL _ _ _ _ _ _ _ = q
  obtain ⟨ls1, g1, rfl, rfl, rfl⟩ := for_then (en := fun m : Nat => FL.D.int m) (fun (ds : List Nat) ls h' => ls = [some (.loc h.length), some (.int (pvn B s ds.length a : Nat)), some (.tup (B.map bD)), none, none] ∧ h' = LH h n B s) hr ⟨rfl, rfl⟩ (by
    rintro x ds rest _ _ ⟨rfl, rfl⟩ hx
    have hd : ds.length < n := by have := congrArg List.length hx; simp at this; omega
    have hv := hu ds.length (by omega)
    refine ⟨[some (.loc h.length), some (.int (pvn B s (ds.length + 1) a : Nat)), some (.tup (B.map bD)), some (.int x), none], LH h n B s, ?_, same_t _ _, by simp [wipe], rfl⟩
    simp [stp, ll0, il0 _ hv, ib]
    rfl)
  simp only [List.length_range]
  generalize hw : pvn B s n a = w at *
  have hu0 := h4 0 h1
  have hu0 : s.u w ≠ 0 := hu0
  have e1 : (LH h n B s).length = h.length + 3 := by simp
  simp [ll0, il0 _ hu0, z1, newL]
  rw [ev_while]
  generalize hr2 : whileL _ _ _ _ _ _ = q2
  let Sq : Nat → List FL.D := fun j => (List.range j).map fun q => FL.D.int (num B s (pvn B s q w) : Nat)
  have hS : ∀ j, 0 < j → L2.atI (Sq j) (-1) = some (.int (num B s (pvn B s (j - 1) w) : Nat)) := by
    intro j hj
    have e : L2.ixN (Sq j).length (-1) = some (j - 1) := by
      simp only [Sq, List.length_map, List.length_range]
      unfold L2.ixN
      simp
      omega
    unfold L2.atI
    rw [e, Option.bind_some]
    simp only [Sq]
    rw [List.getElem?_map, List.getElem?_range (by omega)]; rfl
  let Qp : RS → Prop := fun r => r = .nx [some (.loc h.length), some (.int (w : Nat)), some (.tup (B.map bD)), none, some (.loc (h.length + 3))] (LF h n B s (Sq L))
  have hQ : Qp q2 := by
    rw [← hr2]
    refine while_inv (fun m ls h' => ∃ j, 0 < j ∧ j + m = L ∧ ls = [some (.loc h.length), some (.int (w : Nat)), some (.tup (B.map bD)), none, some (.loc (h.length + 3))] ∧ h' = LF h n B s (Sq j)) Qp ?_ (L - 1) _ _ _ ⟨1, by omega, by omega, rfl, by simp [Sq]; rfl⟩ (by show _ < 1000000000; omega)
    rintro m ls h' ⟨j, hj, hm, rfl, rfl⟩
    have hl : lstAt (LF h n B s (Sq j)) (h.length + 3) = some (Sq j) := lstAt_of (by simp)
    have lx : idxD (.loc (h.length + 3)) (.int (-1)) (LF h n B s (Sq j)) = .ok (.int (num B s (pvn B s (j - 1) w) : Nat)) (LF h n B s (Sq j)) := by
      rw [idx_of hl, hS j hj]; rfl
    have pj : (bat B (s.u (pvn B s (j - 1) w) - 1)).2.1 = pvn B s j w := by
      have : j = (j - 1) + 1 := by omega
      conv => rhs; rw [this]
      rfl
    by_cases hjL : j = L
    · subst hjL
      refine .inl ⟨LF h n B s (Sq j), ?_, rfl⟩
      simp [lx, ib, pj, h3]
    · have hjlt : j < L := by omega
      have hne : pvn B s j w ≠ w := fun e => h5 0 j hj hjlt e.symm
      have hne2 : ¬ ((pvn B s j w : Int) = (w : Int)) := by omega
      have uj := h4 j hjlt
      have ea := append_at (h := LF h n B s (Sq j)) (n := h.length + 3) (xs := Sq j) (d := .int (num B s (pvn B s j w) : Nat)) (by simp) (by simp only [Sq]; rw [List.length_map, List.length_range, size_big]; omega)
      have em := isLst_of (h := LF h n B s (Sq j)) (n := h.length + 3) (xs := Sq j) (by simp)
      have e3 : (LF h n B s (Sq j)).set (h.length + 3) (.lst (Sq j ++ [.int (num B s (pvn B s j w) : Nat)])) = LF h n B s (Sq (j + 1)) := by
        simp [Sq, List.range_succ]
      rw [e3] at ea
      refine .inr ⟨LF h n B s (Sq j), ?_, .inl ⟨_, LF h n B s (Sq (j + 1)), m - 1, .inl (?_ : _ = RS.nx [some (.loc h.length), some (.int (w : Nat)), some (.tup (B.map bD)), none, some (.loc (h.length + 3))] (LF h n B s (Sq (j + 1)))), by omega, j + 1, by omega, by omega, by simp [wipe], rfl⟩⟩
      · simp [lx, ib, pj, hne2]
      · simp [lx, ib, pj, ll1, il1 _ _ uj, em, ea]
  rw [show q2 = _ from hQ]
  have tlp := tuple_loc (m := false) (h := LF h n B s (Sq L)) (n := h.length + 3) (xs := Sq L) (lstAt_of (by simp))
  simp [tlp]
  have e5 : LF h n B s (Sq L) = LH h n B s ++ [.lst (Sq L)] := by simp
  rw [e5]
  exact gcX_flat (by simp [Sq]; exact flatL_map _ _ fun _ _ => flat_int _)
end
end FL.L
set_option autoImplicit false
set_option linter.all false
set_option maxRecDepth 100000
set_option maxHeartbeats 4000000
namespace FL.L
open PySem FL FL.V FL.C
section
variable {k : Nat} {h : Hs} {n : Nat} {B : List Bd}
theorem nums_flat (n : Nat) (N : Nat → Option Int) : FL.D.flatL (nums n N) = true := flatL_map _ _ fun a _ => by cases N a <;> rfl
theorem lasts_flat (n : Nat) (P : Nat → Option Nat) : FL.D.flatL (lasts n P) = true := flatL_map _ _ fun a _ => by cases P a <;> rfl
theorem LH_old (s s' : Lo) : OldOk (LH h n B s) (LH h n B s') := by
  intro j hj
  by_cases h1 : j < h.length
  · left; rw [List.getElem?_append_left h1, List.getElem?_append_left h1]
  · rw [List.length_append] at hj
    have hj : j < h.length + 3 := hj
    by_cases e0 : j = h.length
    · subst e0; left; simp
    · by_cases e1 : j = h.length + 1
      · subst e1; right
        exact ⟨.lst (nums n s'.N), by simp, flatL_closed _ _ (nums_flat n s'.N)⟩
      · have e2 : j = h.length + 2 := by omega
        subst e2; right
        exact ⟨.lst (lasts n s'.P), by simp, flatL_closed _ _ (lasts_flat n s'.P)⟩
theorem gc_LH {s s' : Lo} {d : FL.D} (hd : d.flat = true) : gcX false (LH h n B s) (.ok d (LH h n B s')) = .ok d (LH h n B s') := by
  have := gcX_ok (m := false) (LH_old (h := h) (n := n) (B := B) s s') (by simp) hd
  rw [this]
  congr 1
  exact List.take_of_length_le (by simp)
theorem n_turn : (("Lowering" : Str) ++ "." ++ "turn") = "Lowering.turn" := by decide +kernel
theorem n_circle : (("Lowering" : Str) ++ "." ++ "circle") = "Lowering.circle" := by decide +kernel
theorem LH_isObj {s : Lo} {m : Str} (hm : m = "turn" ∨ m = "circle" ∨ m = "go") : isObj "Lowering" m (LH h n B s) (.loc h.length) = true := by
  have key : ∀ m : Str, [(("problem" : Str), pD n B), (("numbers" : Str), FL.D.loc (h.length + 1)), (("last" : Str), FL.D.loc (h.length + 2))].lookup m = none → isObj "Lowering" m (LH h n B s) (.loc h.length) = true := fun m e => by
    have e0 : (LH h n B s)[h.length]? = some (loO h.length n B) := LH_0
    unfold isObj
    simp only [e0, loO, e, Option.isNone_none, Bool.and_true, decide_true]
  rcases hm with rfl | rfl | rfl
  · exact key _ (by kernel_rfl)
  · exact key _ (by kernel_rfl)
  · exact key _ (by kernel_rfl)
theorem turn_gc {i : Nat → Option Int} (t : Nat) (ok : V.okB n B) (hn : n ≤ 100) (hz : B.length ≤ 1000) : ∃ r : Option Nat, gcX false (LH h n B (st B i (t * B.length))) (pg.call (k + 1) "Lowering.turn" [.loc h.length] (LH h n B (st B i (t * B.length)))) = .ok (lo r) (LH h n B (st B i ((t + 1) * B.length))) ∧ (r = none → cld B (st B i ((t + 1) * B.length)).N) ∧ ∀ a, r = some a → t * B.length < (st B i ((t + 1) * B.length)).u a ∧ a < n := by
  obtain ⟨r, e, g1, g2⟩ := turn_call (k := k) (h := h) (i := i) t ok hn hz
  rw [Nat.succ_mul]
  refine ⟨r, by rw [e]; exact gc_LH (by cases r <;> rfl), fun hr => ?_, g2⟩
  by_cases hB : B = []
  · subst hB; intro e he; simp at he
  · obtain ⟨c1, c2⟩ := turn_cld (i := i) (t := t) hB (g1 hr)
    rw [c2]; exact c1
theorem go_call {i : Nat → Option Int} (ok : V.okB n B) (ns : ∀ e ∈ B, e.1 ≠ e.2.1) (hn : n ≤ 100) (hz : B.length ≤ 1000) : ∃ (d : FL.D) (t : Nat), pg.call (k + 2) "Lowering.go" [.loc h.length] (LH h n B (st B i 0)) = .ok d (LH h n B (st B i (t * B.length))) ∧ ((d = .non ∧ cld B (st B i (t * B.length)).N ∧ t ≤ n + 1) ∨ (∃ ks : List Nat, d = .tup (ks.map fun m : Nat => FL.D.int m) ∧ CirOk B ks ∧ NegC B)) := by
  rw [call_eq l_Lowering_go rfl]
  have sm : small (n : Int) := by unfold small; omega
  have e0 : st B i 0 = st B i (0 * B.length) := by rw [Nat.zero_mul]
  have io := fun (s : Lo) => LH_isObj (h := h) (n := n) (B := B) (s := s) (m := "turn") (.inl rfl)
  have io2 := fun (s : Lo) => LH_isObj (h := h) (n := n) (B := B) (s := s) (m := "circle") (.inr (.inl rfl))
  rw [e0]
  simp [t_Lowering_go, b_Lowering_go, startL, LH_p, sm, rangeD_nat]
  generalize hr : forL _ _ _ _ _ _ _ = q
  have T := for_thenQ (en := fun m : Nat => FL.D.int m) (fun (ds : List Nat) ls h' => ls = [some (.loc h.length), none, none] ∧ h' = LH h n B (st B i (ds.length * B.length)))
    (fun d h' => d = .non ∧ ∃ t, h' = LH h n B (st B i (t * B.length)) ∧ cld B (st B i (t * B.length)).N ∧ t ≤ n + 1) hr ⟨rfl, by simp⟩ (by
      rintro x ds rest _ _ ⟨rfl, rfl⟩ hx
      obtain ⟨r, e, g1, g2⟩ := turn_gc (k := k) (h := h) (i := i) ds.length ok hn hz
      have io := io (st B i (ds.length * B.length))
      cases r with
      | none =>
        refine .inr ⟨.non, _, ?_, rfl, ds.length + 1, rfl, g1 rfl, by have := congrArg List.length hx; simp at this; omega⟩
        simp [lo] at e
        simp [stp, io, n_turn, e, isNon]
      | some a =>
        refine .inl ⟨[some (.loc h.length), some (.int x), none], _, .inl ?_, same_t _ _, by simp [wipe], by simp; rfl⟩
        simp [lo] at e
        simp [stp, io, n_turn, e, isNon])
  rcases T with ⟨ls1, h1, rfl, rfl, rfl⟩ | ⟨d, h1, rfl, rfl, t, rfl, hc⟩
  · obtain ⟨r, e, g1, g2⟩ := turn_gc (k := k) (h := h) (i := i) n ok hn hz
    have io := io (st B i (n * B.length))
    have io2 := io2 (st B i ((n + 1) * B.length))
    rw [List.length_range]
    cases r with
    | none =>
      refine ⟨.non, n + 1, ?_, .inl ⟨rfl, g1 rfl, Nat.le_refl _⟩⟩
      simp [lo] at e
      simp [io, n_turn, e, isNon]
    | some a =>
      obtain ⟨ua, al⟩ := g2 a rfl
      have hB : B ≠ [] := by
        rintro rfl
        rw [List.length_nil, Nat.mul_zero, Nat.mul_zero] at ua
        exact absurd ua (by simp [st])
      obtain ⟨L, l1, l2, l3, l4, l5, l6, ec⟩ := circle_call (k := k) (h := h) (i := i) (T := (n + 1) * B.length) hB ok ns hn ua
      simp [lo] at e
      have I := iv (i := i) hB ns ((n + 1) * B.length)
      refine ⟨_, n + 1, ?_, .inr ⟨(List.range L).map fun j => num B (st B i ((n + 1) * B.length)) (pvn B (st B i ((n + 1) * B.length)) j (pvn B (st B i ((n + 1) * B.length)) n a)), rfl, ?_, ?_⟩⟩
      · rw [List.map_map]
        simp [io, io2, n_turn, n_circle, e, isNon, ec]
      · have hlt : ∀ x, num B (st B i ((n + 1) * B.length)) x < B.length := fun x => num_lt hB
        have e1 : ((List.range L).map fun j => num B (st B i ((n + 1) * B.length)) (pvn B (st B i ((n + 1) * B.length)) j (pvn B (st B i ((n + 1) * B.length)) n a))).map (bdm B) = rnd B (st B i ((n + 1) * B.length)) (pvn B (st B i ((n + 1) * B.length)) n a) L := by
          rw [List.map_map]; rfl
        have wk1 := rnd_wk I L l4
        rw [l3] at wk1
        refine ⟨?_, ?_, ?_, ?_, ?_⟩
        · intro z
          have := congrArg List.length z
          simp at this
          omega
        · intro m hm
          obtain ⟨j, _, rfl⟩ := List.mem_map.mp hm
          exact hlt _
        · refine nodup_of_map (fun m => (bdm B m).1) ?_
          rw [show (fun m => (bdm B m).1) = (fun e : Bd => e.1) ∘ bdm B from rfl, ← List.map_map, e1, rnd_nodes I l4, List.Nodup, List.pairwise_map]
          exact List.pairwise_lt_range.imp_of_mem fun {p q} hp hq hpq => l5 p q hpq (List.mem_range.mp hq)
        · rw [e1]; exact ⟨_, wk1⟩
        · rw [e1]; exact l6
      · have wk1 := rnd_wk I L l4
        rw [l3] at wk1
        refine ⟨_, rnd B (st B i ((n + 1) * B.length)) (pvn B (st B i ((n + 1) * B.length)) n a) L, ?_, wk1, fun e he => ?_, ?_, l6⟩
        · intro z
          have := congrArg List.length z
          simp [rnd] at this
          omega
        · obtain ⟨j, _, rfl⟩ := List.mem_map.mp he
          exact bat_mem hB _
        · rw [rnd_nodes I l4, List.Nodup, List.pairwise_map]
          exact List.pairwise_lt_range.imp_of_mem fun {p q} hp hq hpq => l5 p q hpq (List.mem_range.mp hq)
  · exact ⟨.non, t, by simp, .inl ⟨rfl, hc⟩⟩
end
end FL.L
set_option autoImplicit false
set_option linter.all false
set_option maxRecDepth 100000
set_option maxHeartbeats 4000000
namespace FL.L
open PySem FL FL.V FL.C
theorem ne_pn : ¬ (("problem" : Str) = "numbers") := by decide +kernel
theorem ne_pl : ¬ (("problem" : Str) = "last") := by decide +kernel
theorem ne_nl : ¬ (("numbers" : Str) = "last") := by decide +kernel
theorem n_initL : (("Lowering" : Str) ++ ".__init__") = "Lowering.__init__" := by decide +kernel
theorem n_go : (("Lowering" : Str) ++ "." ++ "go") = "Lowering.go" := by decide +kernel
theorem setF_at {cs : List Str} {H : Hs} {M : Nat} {c f : Str} {fs : List (Str × FL.D)} {d : FL.D} (e : H[M]? = some (.obj c fs)) (hc : cs.contains c = true) (hz : fs.length < 1000) : setF cs (.loc M) f d H = .ok () (H.set M (.obj c (putF f d fs))) := by
  unfold setF
  simp only [e, if_pos (And.intro hz hc)]
theorem rep_lasts (n : Nat) : repL [.non] (n : Int) = lasts n (fun _ => none) := by
  unfold repL lasts
  simp
  refine List.ext_getElem (by simp) fun i h1 h2 => ?_
  simp [lo]
theorem rep_nums (n : Nat) : repL [.int 0] (n : Int) = nums n (fun _ => some 0) := by
  unfold repL nums
  refine List.ext_getElem (by simp) fun i h1 h2 => ?_
  simp [co]
theorem bin_rep (m : Bool) (x : FL.D) {n : Nat} (hn : n ≤ 100) (h : Hs) : binD m .Mult (.fl [x]) (.int n) h = newM m h (repL [x] n) := by
  have hc : -(2 ^ 63 : Int) ≤ (n : Int) ∧ (n : Int) < 2 ^ 63 ∧ [x].length * ((n : Nat) : Int).toNat ≤ sizeLine := ⟨by omega, by omega, by rw [size_big]; simp; omega⟩
  simp only [binD, binN, mlstD]
  exact if_pos hc
theorem ev_rep {Γ : Cfg} {ls : Ls} {H : Hs} {d : FL.D} {e : FE} {n : Nat} (hn : n ≤ 100) (he : ev Γ e ls H = .ok (.int n) H) : ev Γ (.bin true .Mult (.lst false (.acons (.cst d) .anil)) e) ls H = .ok (.loc H.length) (H ++ [.lst (repL [d] n)]) := by
  have z1 : 1 ≤ sizeLine := by rw [size_big]; omega
  have hl : ev Γ (.lst false (.acons (.cst d) .anil)) ls H = .ok (.fl [d]) H := by simp [z1]
  rw [ev_bin, hl, R.bind_ok, he, R.bind_ok]
  exact bin_rep true d hn H
section
variable {k : Nat} {h : Hs} {n : Nat} {B : List Bd}
theorem init_call {i : Nat → Option Int} {nd : FL.D} (hn : n ≤ 100) (hd : ∀ g : Hs, itemsD (h ++ g) nd = some (nums n i)) : pg.call (k + 1) "Lowering.__init__" [.loc h.length, pD n B, nd] (h ++ [.obj "Lowering" []]) = .ok .non (LH h n B (st B i 0)) := by
  have s1 : setF pg.clss (.loc h.length) "problem" (pD n B) (h ++ [.obj "Lowering" []]) = .ok () (h ++ [.obj "Lowering" [("problem", pD n B)]]) := by
    rw [setF_at (by simp; rfl) clss_Low (by simp)]; simp [putF]
  have s2 : setF pg.clss (.loc h.length) "numbers" (.loc (h.length + 1)) (h ++ [.obj "Lowering" [("problem", pD n B)], .lst (nums n i)]) = .ok () (h ++ [.obj "Lowering" [("problem", pD n B), ("numbers", .loc (h.length + 1))], .lst (nums n i)]) := by
    rw [setF_at (by simp; rfl) clss_Low (by simp)]; simp [putF, ne_pn]
  have s3 : setF pg.clss (.loc h.length) "last" (.loc (h.length + 2)) (h ++ [.obj "Lowering" [("problem", pD n B), ("numbers", .loc (h.length + 1))], .lst (nums n i), .lst (lasts n fun _ => none)]) = .ok () (LH h n B (st B i 0)) := by
    rw [setF_at (by simp; rfl) clss_Low (by simp)]; simp [putF, ne_pl, ne_nl, loO, st]
  have il : btD true .list [nd] (h ++ [.obj "Lowering" [("problem", pD n B)]]) = .ok (.loc (h.length + 1)) (h ++ [.obj "Lowering" [("problem", pD n B)], .lst (nums n i)]) := by
    simp only [btD, hd, newM]
    simp [newL]
  have bm : binD true .Mult (.fl [.non]) (.int n) (h ++ [.obj "Lowering" [("problem", pD n B), ("numbers", .loc (h.length + 1))], .lst (nums n i)]) = .ok (.loc (h.length + 2)) (h ++ [.obj "Lowering" [("problem", pD n B), ("numbers", .loc (h.length + 1))], .lst (nums n i), .lst (lasts n fun _ => none)]) := by
    rw [bin_rep true .non hn, rep_lasts]
    simp [newM, newL]
  have z1 : 1 ≤ sizeLine := by rw [size_big]; omega
  rw [call_eq l_Lowering___init__ rfl]
  have er := ev_rep (Γ := pg.cfg k) (ls := [some (.loc h.length), some (pD n B), some nd]) (H := h ++ [.obj "Lowering" [("problem", pD n B), ("numbers", .loc (h.length + 1))], .lst (nums n i)]) (d := .non) (e := .idx (.var 1) (.cst (.int 0))) (n := n) hn (by simp)
  rw [rep_lasts] at er
  have e5 : (h ++ [.obj "Lowering" [("problem", pD n B), ("numbers", .loc (h.length + 1))], .lst (nums n i)] ++ [Cell.lst (lasts n fun _ => none)] : Hs) = h ++ [.obj "Lowering" [("problem", pD n B), ("numbers", .loc (h.length + 1))], .lst (nums n i), .lst (lasts n fun _ => none)] := by simp
  rw [e5] at er
  have e6 : (h ++ [.obj "Lowering" [("problem", pD n B), ("numbers", .loc (h.length + 1))], .lst (nums n i)] : Hs).length = h.length + 2 := by simp
  rw [e6] at er
  show (evS (pg.cfg k) b_Lowering___init__ [some (.loc h.length), some (pD n B), some nd] (h ++ [.obj "Lowering" []])).call = _
  unfold b_Lowering___init__
  refine Eq.trans (congrArg RS.call (seq_nx (ls1 := [some (.loc h.length), some (pD n B), some nd]) (h1 := h ++ [.obj "Lowering" [("problem", pD n B)]]) ?_)) ?_
  · simp [s1]
  refine Eq.trans (congrArg RS.call (seq_nx (ls1 := [some (.loc h.length), some (pD n B), some nd]) (h1 := h ++ [.obj "Lowering" [("problem", pD n B), ("numbers", .loc (h.length + 1))], .lst (nums n i)]) ?_)) ?_
  · simp [il, s2]
  refine Eq.trans (congrArg RS.call (seq_nx (ls1 := [some (.loc h.length), some (pD n B), some nd]) (h1 := LH h n B (st B i 0)) ?_)) ?_
  · simp [-ev_bin, er, s3]
  simp
theorem go_gc {i : Nat → Option Int} (ok : V.okB n B) (ns : ∀ e ∈ B, e.1 ≠ e.2.1) (hn : n ≤ 100) (hz : B.length ≤ 1000) : ∃ (d : FL.D) (t : Nat), gcX false (LH h n B (st B i 0)) (pg.call (k + 2) "Lowering.go" [.loc h.length] (LH h n B (st B i 0))) = .ok d (LH h n B (st B i (t * B.length))) ∧ ((d = .non ∧ cld B (st B i (t * B.length)).N ∧ t ≤ n + 1) ∨ (∃ ks : List Nat, d = .tup (ks.map fun m : Nat => FL.D.int m) ∧ CirOk B ks ∧ NegC B)) := by
  obtain ⟨d, t, e, hd⟩ := go_call (k := k) (h := h) (i := i) ok ns hn hz
  refine ⟨d, t, ?_, hd⟩
  rw [e]
  refine gc_LH ?_
  rcases hd with ⟨rfl, _⟩ | ⟨ks, rfl, _⟩
  · rfl
  · simp; exact flatL_map _ _ fun _ _ => flat_int _
end
end FL.L
set_option autoImplicit false
set_option linter.all false
set_option maxRecDepth 100000
set_option maxHeartbeats 2000000
/-! the least ways; one bound changed; the turned problem -/
namespace FL.V
open PySem FL
def IsD (B : List Bd) (a b : Nat) : Option Int → Prop
  | some x => (∃ es, wk a b es ∧ (∀ e ∈ es, e ∈ B) ∧ wt es = x) ∧ ∀ es, wk a b es → (∀ e ∈ es, e ∈ B) → x ≤ wt es
  | none => ∀ es, wk a b es → (∀ e ∈ es, e ∈ B) → False
theorem IsD.uniq {B : List Bd} {a b : Nat} {o p : Option Int} (h : IsD B a b o) (g : IsD B a b p) : o = p := by
  cases o with
  | none => cases p with
    | none => rfl
    | some y => obtain ⟨⟨es, h1, h2, _⟩, _⟩ := g; exact (h es h1 h2).elim
  | some x => cases p with
    | none => obtain ⟨⟨es, h1, h2, _⟩, _⟩ := h; exact (g es h1 h2).elim
    | some y =>
      obtain ⟨⟨es, h1, h2, h3⟩, h4⟩ := h
      obtain ⟨⟨fs, g1, g2, g3⟩, g4⟩ := g
      have := h4 fs g1 g2
      have := g4 es h1 h2
      congr 1; omega
theorem T_isD {n : Nat} {B : List Bd} (ok : okB n B) (hN : ¬ NegC B) {a b : Nat} (ha : a < n) (hb : b < n) : IsD B a b (T_ B n a b) := by
  cases e : T_ B n a b with
  | none => intro es h1 h2; obtain ⟨t, g, _⟩ := T_least ok hN ha hb h1 h2; rw [e] at g; cases g
  | some x =>
    refine ⟨T_way e, fun es h1 h2 => ?_⟩
    obtain ⟨t, g, hl⟩ := T_least ok hN ha hb h1 h2
    rw [e] at g; cases g; exact hl
theorem neg_round {B : List Bd} {c : Nat} {es : List Bd} (h : wk c c es) (hB : ∀ e ∈ es, e ∈ B) (hw : wt es < 0) : NegC B := by
  rcases simple_of es.length es c c (Nat.le_refl _) h hB with g | ⟨es', g1, g2, g3, g4, g5⟩
  · exact g
  · cases es' with
    | nil => exfalso; have : wt ([] : List Bd) = 0 := rfl; omega
    | cons f fs => exact absurd (by simp [g1.1]) g4
theorem NegC.mono {B C : List Bd} (h : NegC B) (hs : ∀ e ∈ B, e ∈ C) : NegC C := by
  obtain ⟨c, es, h1, h2, h3, h4, h5⟩ := h
  exact ⟨c, es, h1, h2, fun e he => hs e (h3 e he), h4, h5⟩
theorem neg_put {p q : List Bd} {a b : Nat} {c : Int} (ho : ¬ NegC (p ++ q)) {o : Option Int} (hd : IsD (p ++ q) b a o) : NegC (p ++ (a, b, c) :: q) ↔ ∃ t, o = some t ∧ c + t < 0 := by
  constructor
  · rintro ⟨z, es, h1, h2, h3, h4, h5⟩
    by_cases hm : ∃ e ∈ es, ¬ e ∈ p ++ q
    · obtain ⟨e, he, hn⟩ := hm
      have hE : e = (a, b, c) := by
        have := h3 e he
        simp at this hn
        rcases this with g | g | g
        · exact absurd g hn.1
        · exact g
        · exact absurd g hn.2
      subst hE
      obtain ⟨u, v, rfl⟩ := List.append_of_mem he
      obtain ⟨w1, w2⟩ := wk_split h2
      have wv : wk b a (v ++ u) := wk_app w2.2 w1
      have hin : ∀ f ∈ v ++ u, f ∈ p ++ q := by
        intro f hf
        have hne : f ≠ (a, b, c) := by
          rintro rfl
          rw [List.map_append, List.nodup_append] at h4
          obtain ⟨n1, n2, n3⟩ := h4
          rw [List.map_cons, List.nodup_cons] at n2
          rcases List.mem_append.mp hf with g | g
          · exact n2.1 (List.mem_map.mpr ⟨_, g, rfl⟩)
          · exact n3 a (List.mem_map.mpr ⟨_, g, rfl⟩) a (by simp) rfl
        have := h3 f (by simp at hf ⊢; rcases hf with g | g <;> simp [g])
        simp at this ⊢
        rcases this with g | g | g
        · exact .inl g
        · exact absurd g hne
        · exact .inr g
      have hw : wt (v ++ u) + c = wt (u ++ (a, b, c) :: v) := by rw [wt_app, wt_app, wt_cons]; simp only; omega
      cases o with
      | none => exact (hd _ wv hin).elim
      | some t => exact ⟨t, rfl, by have := hd.2 _ wv hin; omega⟩
    · refine absurd ⟨z, es, h1, h2, fun e he => ?_, h4, h5⟩ ho
      exact Classical.byContradiction fun g => hm ⟨e, he, g⟩
  · rintro ⟨t, rfl, ht⟩
    obtain ⟨⟨es, h1, h2, h3⟩, _⟩ := hd
    refine neg_round (c := a) (es := (a, b, c) :: es) ⟨rfl, h1⟩ (fun e he => ?_) (by rw [wt_cons]; simp only; omega)
    rcases List.mem_cons.mp he with rfl | he
    · simp
    · have := h2 e he
      simp at this ⊢
      rcases this with g | g <;> simp [g]
theorem wt_low {K : Nat} : ∀ {es : List Bd}, (∀ e ∈ es, -(K : Int) ≤ e.2.2) → -((es.length * K : Nat) : Int) ≤ wt es
  | [], _ => by show -(((0 : Nat) * K : Nat) : Int) ≤ 0; omega
  | e :: es, h => by
    have h1 := h e (by simp)
    have h2 := wt_low (es := es) fun f hf => h f (by simp [hf])
    rw [wt_cons, List.length_cons, Nat.succ_mul]
    omega
theorem isD_low {n K : Nat} {B : List Bd} (ok : okB n B) (hN : ¬ NegC B) (hK : ∀ e ∈ B, -(K : Int) ≤ e.2.2) {a b : Nat} {t : Int} (h : IsD B a b (some t)) : -((n * K : Nat) : Int) ≤ t := by
  obtain ⟨⟨es, h1, h2, h3⟩, h4⟩ := h
  rcases simple_of es.length es a b (Nat.le_refl _) h1 h2 with g | ⟨es', g1, g2, g3, g4, g5⟩
  · exact absurd g hN
  · have hl := nd_le n _ g3 fun x hx => by
      obtain ⟨e, he, rfl⟩ := List.mem_map.mp hx
      exact (ok e (g2 e he)).1
    rw [List.length_map] at hl
    have h5 := wt_low (K := K) fun e he => hK e (g2 e he)
    have h6 := h4 es' g1 g2
    have h7 : es'.length * K ≤ n * K := Nat.mul_le_mul_right K hl
    omega
/-- from one number alone -/
theorem st_isD {n : Nat} {B : List Bd} {b t : Nat} (ok : okB n B) (hc : cld B (st B (fun s => if s = b then some 0 else none) (t * B.length)).N) (a : Nat) : IsD B a b ((st B (fun s => if s = b then some 0 else none) (t * B.length)).N a) := by
  have hd := st_dn B (fun s => if s = b then some 0 else none) 0 (t * B.length)
  rw [Nat.zero_add] at hd
  have hall : ∀ es, wk a b es → (∀ e ∈ es, e ∈ B) → ∃ x, (st B (fun s => if s = b then some 0 else none) (t * B.length)).N a = some x ∧ x ≤ 0 + wt es := fun es h1 h2 => cld_way hc hd h1 h2 (by show (if b = b then some 0 else none) = some (0 : Int); rw [if_pos rfl])
  cases e : (st B (fun s => if s = b then some 0 else none) (t * B.length)).N a with
  | none => intro es h1 h2; obtain ⟨x, g, _⟩ := hall es h1 h2; rw [e] at g; cases g
  | some x =>
    refine ⟨?_, fun es h1 h2 => ?_⟩
    · by_cases hB : B = []
      · subst hB
        rw [List.length_nil, Nat.mul_zero] at e
        have e : (if a = b then some (0 : Int) else none) = some x := e
        split at e
        · rename_i hab; cases e; exact ⟨[], hab, by simp, rfl⟩
        · cases e
      · obtain ⟨s, y, es, g1, g2, g3, g4⟩ := st_way hB _ _ _ e
        by_cases hs : s = b
        · rw [if_pos hs] at g1
          have : (0 : Int) = y := Option.some.inj g1
          subst hs
          exact ⟨es, g2, g3, by omega⟩
        · rw [if_neg hs] at g1; cases g1
    · obtain ⟨y, g, hl⟩ := hall es h1 h2
      rw [e] at g; cases g; omega
/-! ### all numbers from 0 on down -/
theorem all_zero {B : List Bd} (t a : Nat) : ∃ x, (st B (fun _ => some 0) t).N a = some x ∧ x ≤ 0 := by
  have hd := st_dn B (fun _ => some 0) 0 t
  rw [Nat.zero_add] at hd
  exact hd a 0 rfl
theorem zero_fit {B : List Bd} {t : Nat} (hc : cld B (st B (fun _ => some 0) t).N) : fit B fun a => ((st B (fun _ => some 0) t).N a).getD 0 := cld_fit hc fun e he => by obtain ⟨x, h, _⟩ := all_zero (B := B) t e.2.1; exact ⟨x, h⟩
theorem has_fit {n : Nat} {B : List Bd} (ok : okB n B) (hN : ¬ NegC B) : ∃ x, fit B x := by
  by_cases hB : B = []
  · subst hB; exact ⟨fun _ => 0, by intro e he; simp at he⟩
  · have hc := go_none (i := fun s => if s < n then some 0 else none) hB ok (by intro s y h; by_cases hs : s < n; exact hs; rw [if_neg hs] at h; cases h) hN
    refine ⟨_, cld_fit hc fun e he => ?_⟩
    have hd := st_dn B (fun s => if s < n then some 0 else none) 0 (n * B.length)
    rw [Nat.zero_add] at hd
    obtain ⟨x, h, _⟩ := hd e.2.1 0 (by show (if e.2.1 < n then some 0 else none) = some (0 : Int); rw [if_pos (ok e he).2])
    exact ⟨x, h⟩
def tn (e : Bd) : Bd := (e.2.1, e.1, e.2.2)
theorem neg_tn {n : Nat} {B : List Bd} (ok : okB n B) : NegC (B.map tn) ↔ NegC B := by
  have key : ∀ {C : List Bd}, okB n C → NegC (C.map tn) → NegC C := by
    intro C okC h
    refine Classical.byContradiction fun hN => ?_
    obtain ⟨x, hx⟩ := has_fit okC hN
    refine fit_neg (B := C.map tn) (x := fun a => - x a) ?_ h
    intro e he
    obtain ⟨f, hf, rfl⟩ := List.mem_map.mp he
    have := hx f hf
    show - x f.2.1 - - x f.1 ≤ f.2.2
    omega
  constructor
  · exact key ok
  · intro h
    refine key (C := B.map tn) (fun e he => ?_) ?_
    · obtain ⟨f, hf, rfl⟩ := List.mem_map.mp he
      exact ⟨(ok f hf).2, (ok f hf).1⟩
    · rw [List.map_map]
      have : (tn ∘ tn) = (id : Bd → Bd) := rfl
      rw [this, List.map_id]; exact h
/-- the least numbers: the ways from 0, where 0 leads to all for nothing -/
theorem early {n t : Nat} {B : List Bd} (ok : okB n B) (hn : 0 < n) (hg : ∀ k, 0 < k → k < n → (0, k, 0) ∈ B) (hT : B.map tn = [] → t = 0) (hc : cld (B.map tn) (st (B.map tn) (fun _ => some 0) t).N) {a : Nat} (ha : a < n) : ∃ x, T_ B n 0 a = some x ∧ (st (B.map tn) (fun _ => some 0) t).N a = some x ∧ x ≤ 0 ∧ (a = 0 → x = 0) ∧ (∀ b c y, (a, b, c) ∈ B → T_ B n 0 b = some y → y ≤ x + c) := by
  have hf := zero_fit hc
  have hN : ¬ NegC B := fun h => fit_neg hf ((neg_tn ok).mpr h)
  -- the table's row
  have row : ∀ k, k < n → ∃ y, T_ B n 0 k = some y ∧ y ≤ 0 := by
    intro k hk
    by_cases h0 : k = 0
    · subst h0
      obtain ⟨y, h1, h2⟩ := T_least ok hN hn hn (es := []) (show wk 0 0 [] from rfl) (by simp)
      exact ⟨y, h1, h2⟩
    · obtain ⟨y, h1, h2⟩ := T_least ok hN hn hk (es := [(0, k, 0)]) ⟨rfl, rfl⟩ (by intro e he; simp at he; subst he; exact hg k (by omega) hk)
      exact ⟨y, h1, h2⟩
  have tri : ∀ p q c y z, (p, q, c) ∈ B → T_ B n 0 p = some y → T_ B n 0 q = some z → z ≤ y + c := by
    intro p q c y z he h1 h2
    obtain ⟨es, g1, g2, g3⟩ := T_way h1
    obtain ⟨w, w1, w2⟩ := T_least ok hN hn (ok _ he).2 (es := es ++ [(p, q, c)]) (wk_app g1 ⟨rfl, rfl⟩) (by
      intro e hm; rcases List.mem_append.mp hm with hm | hm
      · exact g2 e hm
      · simp at hm; subst hm; exact he)
    rw [show q = ((p, q, c) : Bd).2.1 from rfl] at h2
    rw [h2] at w1; cases w1
    rw [wt_app, g3] at w2
    simp [wt] at w2
    omega
  obtain ⟨x, hx, hx0⟩ := row a ha
  obtain ⟨v, hv, hv0⟩ := all_zero (B := B.map tn) t a
  refine ⟨x, hx, ?_, hx0, ?_, fun b c y he hy => tri a b c x y he hx hy⟩
  · -- v ≤ x
    have h1 : v ≤ x := by
      obtain ⟨es, g1, g2, g3⟩ := T_way hx
      have hfB : fit B fun a => - ((st (B.map tn) (fun _ => some 0) t).N a).getD 0 := by
        intro e he
        have := hf (tn e) (List.mem_map.mpr ⟨e, he, rfl⟩)
        simp only [tn] at this
        simp only
        omega
      have := fit_way hfB g1 g2
      simp only [hv, Option.getD_some] at this
      obtain ⟨v0, e0, l0⟩ := all_zero (B := B.map tn) t 0
      rw [e0] at this
      simp only [Option.getD_some] at this
      omega
    have h2 : x ≤ v := by
      by_cases hB : B.map tn = []
      · rw [hT hB] at hv
        cases hv; exact hx0
      · obtain ⟨s, y, es, g1, g2, g3, g4⟩ := st_way hB _ _ _ hv
        cases g1
        have hy : fit (B.map tn) fun a => (T_ B n 0 a).getD 0 := by
          intro e he
          obtain ⟨f, hf, rfl⟩ := List.mem_map.mp he
          obtain ⟨y1, e1, _⟩ := row f.1 (ok f hf).1
          obtain ⟨y2, e2, _⟩ := row f.2.1 (ok f hf).2
          have := tri f.1 f.2.1 f.2.2 y1 y2 hf e1 e2
          simp only [tn, e1, e2, Option.getD_some]
          omega
        have h3 := fit_way hy g2 g3
        have hs : s < n := wk_lt (fun e he => by obtain ⟨f, hf, rfl⟩ := List.mem_map.mp he; exact ⟨(ok f hf).2, (ok f hf).1⟩) g2 g3 ha
        obtain ⟨y2, e2, l2⟩ := row s hs
        simp only [hx, e2, Option.getD_some] at h3
        omega
    rw [hv]; congr 1; omega
  · rintro rfl
    obtain ⟨es, g1, g2, g3⟩ := T_way hx
    have : ¬ wt es < 0 := fun h => hN (neg_round g1 g2 h)
    omega
end FL.V
set_option autoImplicit false
set_option linter.all false
set_option maxRecDepth 100000
set_option maxHeartbeats 4000000
namespace FL.L
open PySem FL FL.V FL.C
theorem ev_rep0 {Γ : Cfg} {ls : Ls} {H : Hs} {d : FL.D} {e : FE} {n : Nat} (hn : n ≤ 100) (he : ev Γ e ls H = .ok (.int n) H) : ev Γ (.bin false .Mult (.lst false (.acons (.cst d) .anil)) e) ls H = .ok (.fl (repL [d] n)) H := by
  have z1 : 1 ≤ sizeLine := by rw [size_big]; omega
  have hl : ev Γ (.lst false (.acons (.cst d) .anil)) ls H = .ok (.fl [d]) H := by simp [z1]
  rw [ev_bin, hl, R.bind_ok, he, R.bind_ok]
  exact bin_rep false d hn H
/-- x = C(..) -/
theorem asg_new {k i : Nat} {c : Str} {as : FE} {ls : Ls} {h h2 : Hs} {xs : List FL.D} (hi : i < ls.length) (ea : evs (pg.cfg (k + 1)) as ls h = .ok xs h) (ei : pg.call k (c ++ ".__init__") (.loc h.length :: xs) (h ++ [.obj c []]) = .ok .non h2) : evS (pg.cfg (k + 1)) (.asg (.tgt (.name i)) (.new c as)) ls h = .nx (ls.set i (some (.loc h.length))) h2 := by
  rw [evS_asg, ev_new, ea, R.bind_ok, cfg_init, ei, R.bind_ok]
  simp only [isNon, if_true]
  rw [andS_ok]
  rw [asgG_tgt, asgT_name, if_pos hi]
theorem evs2 {Γ : Cfg} {a b : FE} {ls : Ls} {h h1 h2 : Hs} {x y : FL.D} (ha : ev Γ a ls h = .ok x h1) (hb : ev Γ b ls h1 = .ok y h2) : evs Γ (.acons a (.acons b .anil)) ls h = .ok [x, y] h2 := by
  rw [evs_acons, ha, R.bind_ok, evs_acons, hb, R.bind_ok, evs_anil, R.bind_ok, R.bind_ok]
section
variable {k : Nat} {h : Hs} {n : Nat} {B : List Bd}
theorem solve_call (ok : V.okB n B) (ns : ∀ e ∈ B, e.1 ≠ e.2.1) (hn : n ≤ 100) (hz : B.length ≤ 1000) : ∃ d : FL.D, gcX false h (pg.call (k + 3) "solve_differences" [pD n B] h) = .ok d h ∧ ((∃ t, cld B (st B (fun _ => some 0) (t * B.length)).N ∧ d = .tup [.str "numbers", .tup (nums n (st B (fun _ => some 0) (t * B.length)).N)]) ∨ ∃ ks : List Nat, NegC B ∧ CirOk B ks ∧ d = .tup [.str "circle", .tup (ks.map fun m : Nat => FL.D.int m)]) := by
  have z2 : 2 ≤ sizeLine := by rw [size_big]; omega
  have ini := init_call (k := k) (h := h) (n := n) (B := B) (i := fun _ => some 0) (nd := .fl (nums n fun _ => some 0)) hn (fun g => rfl)
  obtain ⟨d, t, eg, hd⟩ := go_gc (k := k) (h := h) (n := n) (B := B) (i := fun _ => some 0) ok ns hn hz
  have io := LH_isObj (h := h) (n := n) (B := B) (s := st B (fun _ => some 0) 0) (m := "go") (.inr (.inr rfl))
  have fn := LH_n (h := h) (n := n) (B := B) (s := st B (fun _ => some 0) (t * B.length))
  have tl := tuple_loc (m := false) (h := LH h n B (st B (fun _ => some 0) (t * B.length))) (n := h.length + 1) (xs := nums n (st B (fun _ => some 0) (t * B.length)).N) (lstAt_of LH_1)
  have S1 : evS (pg.cfg (k + 2)) (.asg (.tgt (.name 1)) (.new "Lowering" (.acons (.var 0) (.acons (.bin false .Mult (.lst false (.acons (.cst (.int 0)) .anil)) (.idx (.var 0) (.cst (.int 0)))) .anil)))) [some (pD n B), none, none] h = .nx [some (pD n B), some (.loc h.length), none] (LH h n B (st B (fun _ => some 0) 0)) := by
    refine asg_new (xs := [pD n B, .fl (nums n fun _ => some 0)]) (by simp) (evs2 (h1 := h) (by simp) ?_) ini
    rw [← rep_nums]
    exact ev_rep0 hn (by simp)
  have S2 : evS (pg.cfg (k + 2)) (.asg (.tgt (.name 2)) (.meth false "Lowering" "go" (.var 1) .anil)) [some (pD n B), some (.loc h.length), none] (LH h n B (st B (fun _ => some 0) 0)) = .nx [some (pD n B), some (.loc h.length), some d] (LH h n B (st B (fun _ => some 0) (t * B.length))) := by
    simp [n_go, io, eg]
  rw [call_eq l_solve_differences rfl]
  show ∃ d : FL.D, gcX false h (evS (pg.cfg (k + 2)) b_solve_differences [some (pD n B), none, none] h).call = .ok d h ∧ _
  unfold b_solve_differences
  rw [seq_nx S1, seq_nx S2]
  rcases hd with ⟨rfl, hc, _⟩ | ⟨ks, rfl, hne, hN⟩
  · refine ⟨_, ?_, .inl ⟨t, hc, rfl⟩⟩
    simp [isNon, fn, tl, z2]
    exact gcX_flat (by simp [nums_flat])
  · refine ⟨_, ?_, .inr ⟨ks, hN, hne, rfl⟩⟩
    simp [isNon, z2]
    exact gcX_flat (by simp; exact flatL_map _ _ fun _ _ => flat_int _)
end
end FL.L
set_option autoImplicit false
set_option linter.all false
set_option maxRecDepth 100000
set_option maxHeartbeats 4000000
/-! the law's own table -/
namespace FL.L
open PySem FL FL.V FL.C
def rows (n : Nat) (T : Tb) : List Cell := (List.range n).map fun a => Cell.lst (nums n (T a))
def outs (L n : Nat) : List FL.D := (List.range n).map fun a => FL.D.loc (L + a)
abbrev TH (h : Hs) (n : Nat) (T : Tb) : Hs := h ++ (rows n T ++ [.lst (outs h.length n)])
section
variable {k : Nat} {h : Hs} {n : Nat} {B : List Bd} {T : Tb}
theorem rows_len : (rows n T).length = n := by simp [rows]
theorem TH_row {a : Nat} (ha : a < n) : (TH h n T)[h.length + a]? = some (.lst (nums n (T a))) := by
  rw [List.getElem?_append_right (by omega), List.getElem?_append_left (by rw [rows_len]; omega)]
  simp [rows, List.getElem?_range ha]
theorem TH_out : (TH h n T)[h.length + n]? = some (.lst (outs h.length n)) := by
  rw [List.getElem?_append_right (by omega), List.getElem?_append_right (by rw [rows_len]; omega), rows_len]
  simp
theorem ix_out {a : Nat} (ha : a < n) : idxD (.loc (h.length + n)) (.int a) (TH h n T) = .ok (.loc (h.length + a)) (TH h n T) := by
  rw [idx_of (lstAt_of TH_out), atI_nat, outs, List.getElem?_map, List.getElem?_range ha]; rfl
theorem ix_row {a b : Nat} (ha : a < n) (hb : b < n) : idxD (.loc (h.length + a)) (.int b) (TH h n T) = .ok (co (T a b)) (TH h n T) := by
  rw [idx_of (lstAt_of (TH_row ha)), at_nums hb]; rfl
theorem rows_set {a b : Nat} (ha : a < n) (hb : b < n) (w : Int) : (rows n T).set a (.lst ((nums n (T a)).set b (.int w))) = rows n (tset T a b w) := by
  have e : (nums n (T a)).set b (.int w) = nums n (tset T a b w a) := by
    have := map_up (T a) (some w) co hb
    unfold nums
    rw [show FL.D.int w = co (some w) from rfl, this]
    refine List.map_congr_left fun y _ => ?_
    unfold up tset
    by_cases h : y = b <;> simp [h]
  rw [e]
  refine List.ext_getElem (by simp [rows]) fun i h1 h2 => ?_
  rw [List.getElem_set]
  by_cases hi : a = i
  · subst hi; simp [rows]
  · rw [if_neg hi]
    simp only [rows, List.getElem_map, List.getElem_range]
    congr 1
    unfold nums
    refine List.map_congr_left fun y _ => ?_
    unfold tset
    rw [if_neg (by rintro ⟨h1, _⟩; exact hi h1.symm)]
theorem set_row {a b : Nat} (ha : a < n) (hb : b < n) (w : Int) : setIdx (.loc (h.length + a)) (.int b) (.int w) (TH h n T) = .ok () (TH h n (tset T a b w)) := by
  rw [set_of (TH_row ha)]
  have : L2.ixN (nums n (T a)).length (b : Int) = some b := by unfold nums; rw [List.length_map, List.length_range, ixN_pos (by omega) (by omega)]; simp
  rw [this]
  have e : (TH h n T).set (h.length + a) (.lst ((nums n (T a)).set b (.int w))) = TH h n (tset T a b w) := by
    show (h ++ (rows n T ++ [Cell.lst (outs h.length n)])).set _ _ = _
    rw [List.set_append_right _ _ (by omega), List.set_append_left _ _ (by rw [rows_len]; omega)]
    rw [show h.length + a - h.length = a by omega, rows_set ha hb w]
  simp only [e]
/-- table[a][b] = w, if that is less -/
abbrev PUT (x : Nat) : FS := .ite (.or (.cmp .Is (.idx (.idx (.var 1) (.var 5)) (.var 6)) (.cst .non)) (.cmp .Lt (.var x) (.idx (.idx (.var 1) (.var 5)) (.var 6)))) (.scons (.asg (.sub (.idx (.var 1) (.var 5)) (.var 6)) (.var x)) .snil) .snil
theorem put7 {Γ : Cfg} {a b : Nat} {w : Int} {p s2 s3 s4 s8 : Option FL.D} (ha : a < n) (hb : b < n) : evS Γ (PUT 7) [p, some (.loc (h.length + n)), s2, s3, s4, some (.int a), some (.int b), some (.int w), s8] (TH h n T) = .nx [p, some (.loc (h.length + n)), s2, s3, s4, some (.int a), some (.int b), some (.int w), s8] (TH h n (tput T a b w)) := by
  have e1 := ix_out (h := h) (n := n) (T := T) ha
  have e2 := ix_row (h := h) (n := n) (T := T) ha hb
  have e3 := set_row (h := h) (n := n) (T := T) ha hb w
  unfold tput
  cases ht : T a b with
  | none =>
    rw [ht] at e2; simp only [co] at e2
    simp [e1, e2, e3, isNon]
  | some t =>
    rw [ht] at e2; simp only [co] at e2
    by_cases hw : w < t
    · simp [e1, e2, e3, isNon, hw]
    · simp [e1, e2, e3, isNon, hw]
theorem put8 {Γ : Cfg} {a b : Nat} {w : Int} {p s2 s3 s4 s7 : Option FL.D} (ha : a < n) (hb : b < n) : evS Γ (PUT 8) [p, some (.loc (h.length + n)), s2, s3, s4, some (.int a), some (.int b), s7, some (.int w)] (TH h n T) = .nx [p, some (.loc (h.length + n)), s2, s3, s4, some (.int a), some (.int b), s7, some (.int w)] (TH h n (tput T a b w)) := by
  have e1 := ix_out (h := h) (n := n) (T := T) ha
  have e2 := ix_row (h := h) (n := n) (T := T) ha hb
  have e3 := set_row (h := h) (n := n) (T := T) ha hb w
  unfold tput
  cases ht : T a b with
  | none =>
    rw [ht] at e2; simp only [co] at e2
    simp [e1, e2, e3, isNon]
  | some t =>
    rw [ht] at e2; simp only [co] at e2
    by_cases hw : w < t
    · simp [e1, e2, e3, isNon, hw]
    · simp [e1, e2, e3, isNon, hw]
abbrev WAY : FS := .scons (.ite (.and (.cmp .IsNot (.idx (.idx (.var 1) (.var 5)) (.var 2)) (.cst .non)) (.cmp .IsNot (.idx (.idx (.var 1) (.var 2)) (.var 6)) (.cst .non))) (.scons (.asg (.tgt (.name 8)) (.bin false .Add (.idx (.idx (.var 1) (.var 5)) (.var 2)) (.idx (.idx (.var 1) (.var 2)) (.var 6)))) (.scons (PUT 8) .snil)) .snil) .snil
theorem way_ev {Γ : Cfg} {a b c : Nat} {p s3 s4 s7 s8 : Option FL.D} (ha : a < n) (hb : b < n) (hc : c < n) : ∃ s8', evS Γ WAY [p, some (.loc (h.length + n)), some (.int c), s3, s4, some (.int a), some (.int b), s7, s8] (TH h n T) = .nx [p, some (.loc (h.length + n)), some (.int c), s3, s4, some (.int a), some (.int b), s7, s8'] (TH h n (vstep c T (a, b))) := by
  have e1 := ix_out (h := h) (n := n) (T := T) ha
  have e2 := ix_row (h := h) (n := n) (T := T) ha hc
  have e3 := ix_out (h := h) (n := n) (T := T) hc
  have e4 := ix_row (h := h) (n := n) (T := T) hc hb
  unfold vstep
  cases h1 : T a c with
  | none =>
    rw [h1] at e2; simp only [co] at e2
    exact ⟨s8, by simp [e1, e2, e3, e4, isNon]⟩
  | some x =>
    rw [h1] at e2; simp only [co] at e2
    cases h2 : T c b with
    | none =>
      rw [h2] at e4; simp only [co] at e4
      exact ⟨s8, by simp [e1, e2, e3, e4, isNon]⟩
    | some y =>
      rw [h2] at e4; simp only [co] at e4
      refine ⟨some (.int (x + y)), ?_⟩
      have e5 := put8 (Γ := Γ) (T := T) (h := h) (w := x + y) (p := p) (s2 := some (.int c)) (s3 := s3) (s4 := s4) (s7 := s7) ha hb
      rw [evS_scons, evS_ite]
      have e6 : evT Γ (.and (.cmp .IsNot (.idx (.idx (.var 1) (.var 5)) (.var 2)) (.cst .non)) (.cmp .IsNot (.idx (.idx (.var 1) (.var 2)) (.var 6)) (.cst .non))) [p, some (.loc (h.length + n)), some (.int c), s3, s4, some (.int a), some (.int b), s7, s8] (TH h n T) = .ok true (TH h n T) := by simp [e1, e2, e3, e4, isNon]
      rw [e6]
      simp only [andS_ok, if_true]
      rw [seq_nx (ls1 := [p, some (.loc (h.length + n)), some (.int c), s3, s4, some (.int a), some (.int b), s7, some (.int (x + y))]) (h1 := TH h n T) (by simp [e1, e2, e3, e4]), seq_nx e5]
      simp
theorem prs_fold {c : Nat} {T : Tb} : (prs n).foldl (vstep c) T = (List.range n).foldl (fun T a => (List.range n).foldl (fun T b => vstep c T (a, b)) T) T := by
  unfold prs
  rw [List.foldl_flatMap]
  congr 1
  funext T a
  rw [List.foldl_map]
theorem co_flat (o : Option Int) : (co o).flat = true := by cases o <;> rfl
theorem table_call (ok : V.okB n B) (hn : n ≤ 100) (hz : B.length ≤ 1000) : gcX false h (pg.call (k + 1) "_law_table" [pD n B] h) = .ok (.fl ((List.range n).map fun a => FL.D.fl (nums n (T_ B n a)))) h := by
  have sm : small (n : Int) := by unfold small; omega
  have zn : (List.range n).length ≤ sizeLine := by rw [List.length_range, size_big]; omega
  rw [call_eq l__law_table rfl]
  show gcX false h (evS (pg.cfg k) b__law_table [some (pD n B), none, none, none, none, none, none, none, none] h).call = _
  unfold b__law_table
  have S1 : evS (pg.cfg k) (.asg (.tgt (.tup (.tcons (.name 3) (.tcons (.name 4) .tnil)))) (.var 0)) [some (pD n B), none, none, none, none, none, none, none, none] h = .nx [some (pD n B), none, none, some (.int n), some (.tup (B.map bD)), none, none, none, none] h := by simp
  have S2 : evS (pg.cfg k) (.asg (.tgt (.name 1)) (.comp true [5] (.name 5) (.irange (.acons (.var 3) .anil)) (.cst (.bl true)) (.comp true [6] (.name 6) (.irange (.acons (.var 3) .anil)) (.cst (.bl true)) (.ite (.cmp .Eq (.var 5) (.var 6)) (.cst (.int 0)) (.cst .non))))) [some (pD n B), none, none, some (.int n), some (.tup (B.map bD)), none, none, none, none] h = .nx [some (pD n B), some (.loc (h.length + n)), none, some (.int n), some (.tup (B.map bD)), none, none, none, none] (TH h n t0) := by
    rw [evS_asg, ev_comp]
    simp only [evI_irange, evs_acons, ev_var, evs_anil, List.getElem?_cons_succ, List.getElem?_cons_zero, R.bind_ok]
    rw [if_pos sm, R.bind_ok, rangeD_nat]
    generalize hr : compL _ _ _ _ _ = q
    obtain ⟨ys, h1, rfl, rfl, rfl⟩ := comp_then (en := fun m : Nat => FL.D.int m) (fun (ds : List Nat) acc h' => acc = (List.range ds.length).map (fun a => FL.D.loc (h.length + a)) ∧ h' = h ++ (List.range ds.length).map fun a => Cell.lst (nums n (t0 a))) hr ⟨rfl, by simp⟩ (by
      rintro a ds rest _ _ ⟨rfl, rfl⟩ hx
      have ha : a = ds.length := by
        have h1 : (List.range n)[ds.length]? = some a := by rw [hx]; simp
        have h2 : ds.length < n := by have := congrArg List.length hx; simp at this; omega
        rw [List.getElem?_range h2] at h1
        exact (Option.some.inj h1).symm
      subst ha
      refine ⟨some (.loc (h.length + ds.length)), h ++ (List.range (ds.length + 1)).map (fun a => Cell.lst (nums n (t0 a))), ?_, same_t _ _, ?_, by simp⟩
      · have ec : ∀ H : Hs, ev (pg.cfg k) (.comp true [6] (.name 6) (.irange (.acons (.var 3) .anil)) (.cst (.bl true)) (.ite (.cmp .Eq (.var 5) (.var 6)) (.cst (.int 0)) (.cst .non))) [some (pD n B), none, none, some (.int n), some (.tup (B.map bD)), some (.int ds.length), none, none, none] H = newL H (nums n (t0 ds.length)) := by
          intro H
          rw [ev_comp]
          simp only [evI_irange, evs_acons, ev_var, evs_anil, List.getElem?_cons_succ, List.getElem?_cons_zero, R.bind_ok]
          rw [if_pos sm, R.bind_ok, rangeD_nat]
          rw [comp_l (m := true) (f := fun b => co (t0 ds.length b)) (fun b hb => ?_) zn]
          · rfl
          · unfold t0
            by_cases e : ds.length = b
            · simp [cstep, co, e, wipe]
            · have e2 : ¬ ((ds.length : Int) = (b : Int)) := by omega
              simp [cstep, co, e, e2, wipe]
        simp [cstep, -ev_comp, ec, newL, List.range_succ, wipe]
      · simp [List.range_succ])
    simp only [List.length_range, R.bind_ok, List.length_map]
    rw [List.length_range] at zn
    rw [if_pos zn, newM_true]
    simp [newL, rows, outs]
  rw [seq_nx S1, seq_nx S2]
  -- the bounds
  have S3 : ∃ x y, evS (pg.cfg k) (.for_ (.tup (.tcons (.name 5) (.tcons (.name 6) (.tcons (.name 7) .tnil)))) (.iseq (.var 4)) (.scons (PUT 7) .snil) [7]) [some (pD n B), some (.loc (h.length + n)), none, some (.int n), some (.tup (B.map bD)), none, none, none, none] (TH h n t0) = .nx [some (pD n B), some (.loc (h.length + n)), none, some (.int n), some (.tup (B.map bD)), x, y, none, none] (TH h n (tb0 B)) := by
    rw [ev_for]
    simp only [evI_iseq, ev_var, List.getElem?_cons_succ, List.getElem?_cons_zero, R.bind_ok, itemsK_tup, Option.map_some, ofO_some, andS_ok]
    generalize hr : forL _ _ _ _ _ _ _ = q
    obtain ⟨ls1, h1, rfl, ⟨x, y, rfl⟩, rfl⟩ := for_then (fun (ds : List Bd) ls h' => (∃ x y, ls = [some (pD n B), some (.loc (h.length + n)), none, some (.int n), some (.tup (B.map bD)), x, y, none, none]) ∧ h' = TH h n (ds.foldl (fun T e => tput T e.1 e.2.1 e.2.2) t0)) hr ⟨⟨none, none, rfl⟩, rfl⟩ (by
      rintro ⟨a, b, c⟩ ds rest _ _ ⟨⟨x, y, rfl⟩, rfl⟩ hx
      obtain ⟨ha, hb⟩ := ok (a, b, c) (by rw [hx]; simp)
      simp only at ha hb
      have e := put7 (Γ := pg.cfg k) (h := h) (T := ds.foldl (fun T e => tput T e.1 e.2.1 e.2.2) t0) (w := c) (p := some (pD n B)) (s2 := none) (s3 := some (.int n)) (s4 := some (.tup (B.map bD))) (s8 := none) ha hb
      refine ⟨[some (pD n B), some (.loc (h.length + n)), none, some (.int n), some (.tup (B.map bD)), some (.int a), some (.int b), some (.int c), none], TH h n (tput (ds.foldl (fun T e => tput T e.1 e.2.1 e.2.2) t0) a b c), ?_, same_t _ _, ⟨some (.int a), some (.int b), by simp [wipe]⟩, by simp [List.foldl_append]⟩
      have ea : asgT (.tup (.tcons (.name 5) (.tcons (.name 6) (.tcons (.name 7) .tnil)))) (bD (a, b, c)) [some (pD n B), some (.loc (h.length + n)), none, some (.int n), some (.tup (B.map bD)), x, y, none, none] = some [some (pD n B), some (.loc (h.length + n)), none, some (.int n), some (.tup (B.map bD)), some (.int a), some (.int b), some (.int c), none] := by simp
      rw [stp_def, ea]
      simp only
      rw [seq_nx e, evS_snil])
    exact ⟨x, y, rfl⟩
  obtain ⟨x, y, S3⟩ := S3
  rw [seq_nx S3]
  have S4 : ∃ x' y' z', evS (pg.cfg k) (.for_ (.name 2) (.irange (.acons (.var 3) .anil)) (.scons (.for_ (.name 5) (.irange (.acons (.var 3) .anil)) (.scons (.for_ (.name 6) (.irange (.acons (.var 3) .anil)) WAY [8]) .snil) [8]) .snil) [2, 8]) [some (pD n B), some (.loc (h.length + n)), none, some (.int n), some (.tup (B.map bD)), x, y, none, none] (TH h n (tb0 B)) = .nx [some (pD n B), some (.loc (h.length + n)), none, some (.int n), some (.tup (B.map bD)), x', y', none, z'] (TH h n (T_ B n)) := by
    rw [ev_for]
    simp only [evI_irange, evs_acons, ev_var, evs_anil, List.getElem?_cons_succ, List.getElem?_cons_zero, R.bind_ok]
    rw [if_pos sm]
    simp only [andS_ok]
    rw [rangeD_nat]
    generalize hr : forL _ _ _ _ _ _ _ = q
    obtain ⟨ls1, h1, rfl, ⟨x', y', z', rfl⟩, rfl⟩ := for_then (en := fun m : Nat => FL.D.int m) (fun (ds : List Nat) ls h' => (∃ x y z, ls = [some (pD n B), some (.loc (h.length + n)), none, some (.int n), some (.tup (B.map bD)), x, y, none, z]) ∧ h' = TH h n (tbl n (tb0 B) ds.length)) hr ⟨⟨x, y, none, rfl⟩, rfl⟩ (by
      rintro c ds rest _ _ ⟨⟨x, y, z, rfl⟩, rfl⟩ hx
      have hc : c = ds.length := by
        have h1 : (List.range n)[ds.length]? = some c := by rw [hx]; simp
        have h2 : ds.length < n := by have := congrArg List.length hx; simp at this; omega
        rw [List.getElem?_range h2] at h1
        exact (Option.some.inj h1).symm
      have hcn : c < n := by have := congrArg List.length hx; simp at this; omega
      have el : (ds ++ [c]).length = ds.length + 1 := by simp
      rw [el]
      have et : tbl n (tb0 B) (ds.length + 1) = (prs n).foldl (vstep c) (tbl n (tb0 B) ds.length) := by rw [hc]; rfl
      rw [et, prs_fold]
      generalize tbl n (tb0 B) ds.length = T
      clear hc hx el et hr
      have key : ∃ x' y' z', evS (pg.cfg k) (.for_ (.name 5) (.irange (.acons (.var 3) .anil)) (.scons (.for_ (.name 6) (.irange (.acons (.var 3) .anil)) WAY [8]) .snil) [8]) [some (pD n B), some (.loc (h.length + n)), some (.int c), some (.int n), some (.tup (B.map bD)), x, y, none, z] (TH h n T) = .nx [some (pD n B), some (.loc (h.length + n)), some (.int c), some (.int n), some (.tup (B.map bD)), x', y', none, z'] (TH h n ((List.range n).foldl (fun T a => (List.range n).foldl (fun T b => vstep c T (a, b)) T) T)) := by
        rw [ev_for]
        simp only [evI_irange, evs_acons, ev_var, evs_anil, List.getElem?_cons_succ, List.getElem?_cons_zero, R.bind_ok]
        rw [if_pos sm]
        simp only [andS_ok]
        rw [rangeD_nat]
        generalize hr : forL _ _ _ _ _ _ _ = q
        obtain ⟨ls1, h1, rfl, ⟨x', y', z', rfl⟩, rfl⟩ := for_then (en := fun m : Nat => FL.D.int m) (fun (ds : List Nat) ls h' => (∃ x y z, ls = [some (pD n B), some (.loc (h.length + n)), some (.int c), some (.int n), some (.tup (B.map bD)), x, y, none, z]) ∧ h' = TH h n (ds.foldl (fun T a => (List.range n).foldl (fun T b => vstep c T (a, b)) T) T)) hr ⟨⟨x, y, z, rfl⟩, rfl⟩ (by
          rintro a ds rest _ _ ⟨⟨x, y, z, rfl⟩, rfl⟩ hx
          have ha : a < n := List.mem_range.mp (by rw [hx]; simp)
          rw [List.foldl_append]
          generalize ds.foldl (fun T a => (List.range n).foldl (fun T b => vstep c T (a, b)) T) T = T
          clear hx hr
          have key : ∃ y' z', evS (pg.cfg k) (.for_ (.name 6) (.irange (.acons (.var 3) .anil)) WAY [8]) [some (pD n B), some (.loc (h.length + n)), some (.int c), some (.int n), some (.tup (B.map bD)), some (.int a), y, none, z] (TH h n T) = .nx [some (pD n B), some (.loc (h.length + n)), some (.int c), some (.int n), some (.tup (B.map bD)), some (.int a), y', none, z'] (TH h n ((List.range n).foldl (fun T b => vstep c T (a, b)) T)) := by
            rw [ev_for]
            simp only [evI_irange, evs_acons, ev_var, evs_anil, List.getElem?_cons_succ, List.getElem?_cons_zero, R.bind_ok]
            rw [if_pos sm]
            simp only [andS_ok]
            rw [rangeD_nat]
            generalize hr : forL _ _ _ _ _ _ _ = q
            obtain ⟨ls1, h1, rfl, ⟨y', z', rfl⟩, rfl⟩ := for_then (en := fun m : Nat => FL.D.int m) (fun (ds : List Nat) ls h' => (∃ y z, ls = [some (pD n B), some (.loc (h.length + n)), some (.int c), some (.int n), some (.tup (B.map bD)), some (.int a), y, none, z]) ∧ h' = TH h n (ds.foldl (fun T b => vstep c T (a, b)) T)) hr ⟨⟨y, z, rfl⟩, rfl⟩ (by
              rintro b ds rest _ _ ⟨⟨y, z, rfl⟩, rfl⟩ hx
              have hb : b < n := List.mem_range.mp (by rw [hx]; simp)
              obtain ⟨s8, e⟩ := way_ev (Γ := pg.cfg k) (h := h) (T := ds.foldl (fun T b => vstep c T (a, b)) T) (p := some (pD n B)) (s3 := some (.int n)) (s4 := some (.tup (B.map bD))) (s7 := none) (s8 := z) ha hb hcn
              refine ⟨_, _, e, same_t _ _, ⟨some (.int b), none, by simp [wipe]⟩, by rw [List.foldl_append]; rfl⟩)
            exact ⟨y', z', rfl⟩
          obtain ⟨y', z', key⟩ := key
          refine ⟨[some (pD n B), some (.loc (h.length + n)), some (.int c), some (.int n), some (.tup (B.map bD)), some (.int a), y', none, z'], _, ?_, same_t _ _, ⟨some (.int a), y', none, by simp [wipe]⟩, rfl⟩
          show evS (pg.cfg k) (.scons _ .snil) [some (pD n B), some (.loc (h.length + n)), some (.int c), some (.int n), some (.tup (B.map bD)), some (.int a), y, none, z] (TH h n T) = _
          rw [seq_nx key, evS_snil]
          rfl)
        exact ⟨x', y', z', rfl⟩
      obtain ⟨x', y', z', key⟩ := key
      refine ⟨[some (pD n B), some (.loc (h.length + n)), some (.int c), some (.int n), some (.tup (B.map bD)), x', y', none, z'], _, ?_, same_t _ _, ⟨x', y', none, by simp [wipe]⟩, rfl⟩
      show evS (pg.cfg k) (.scons _ .snil) [some (pD n B), some (.loc (h.length + n)), some (.int c), some (.int n), some (.tup (B.map bD)), x, y, none, z] (TH h n T) = _
      rw [seq_nx key, evS_snil])
    rw [List.length_range]
    exact ⟨x', y', z', rfl⟩
  obtain ⟨x', y', z', S4⟩ := S4
  rw [seq_nx S4]
  have S5 : evS (pg.cfg k) (.scons (.ret (.var 1)) .snil) [some (pD n B), some (.loc (h.length + n)), none, some (.int n), some (.tup (B.map bD)), x', y', none, z'] (TH h n (T_ B n)) = .rt (.loc (h.length + n)) (TH h n (T_ B n)) := by simp
  rw [S5]
  show gcX false h (.ok (.loc (h.length + n)) (TH h n (T_ B n))) = _
  -- the list of lists is frozen
  have f2 : frzD h.length (TH h n (T_ B n)) 8 (.loc (h.length + n)) = some (.fl ((List.range n).map fun a => FL.D.fl (nums n (T_ B n a)))) := by
    have inner : ∀ a, a < n → frzD h.length (TH h n (T_ B n)) 7 (.loc (h.length + a)) = some (.fl (nums n (T_ B n a))) := by
      intro a ha
      unfold frzD
      rw [if_neg (by simp)]
      simp only [if_neg (show ¬ h.length + a < h.length by omega), TH_row ha, optL_flat (nums_flat n (T_ B n a)), Option.map_some]
    have outer : ∀ xs : List Nat, (∀ a ∈ xs, a < n) → optL (frzD h.length (TH h n (T_ B n)) 7) (xs.map fun a => FL.D.loc (h.length + a)) = some (xs.map fun a => FL.D.fl (nums n (T_ B n a))) := by
      intro xs
      induction xs with
      | nil => intro _; rfl
      | cons a xs ih =>
        intro hx
        rw [List.map_cons, optL, inner a (hx a (by simp)), ih fun b hb => hx b (by simp [hb])]
        rfl
    unfold frzD
    rw [if_neg (by simp)]
    simp only [if_neg (show ¬ h.length + n < h.length by omega), TH_out]
    unfold outs
    rw [outer _ fun a ha => List.mem_range.mp ha]
    rfl
  have e2 : FL.D.closed h.length (.fl ((List.range n).map fun a => FL.D.fl (nums n (T_ B n a)))) = true := by
    rw [closed_fl]
    exact flatL_closed _ _ (flatL_map _ _ fun a _ => by rw [flat_fl]; exact flatL_map _ _ fun x _ => co_flat _)
  simp only [gcX, Bool.false_eq_true, if_false, if_pos (And.intro (OldOk.app h _) (show h.length ≤ (TH h n (T_ B n)).length by simp)), f2, if_pos e2, List.take_left]
end
end FL.L
set_option autoImplicit false
set_option linter.all false
set_option maxRecDepth 100000
set_option maxHeartbeats 4000000
/-! the least of alike data, whichever it is; equal data -/
namespace FL.L
open PySem FL FL.C
theorem plainL_map {α : Type} {enc : α → FL.D} (hp : ∀ a, (enc a).plain = true) : ∀ xs : List α, FL.D.plainL (xs.map enc) = true
  | [] => rfl
  | x :: xs => by rw [List.map_cons, D.plainL, hp x, plainL_map hp xs]; rfl
theorem depth_map {α : Type} {encP : α → PyData} {m : Nat} (hd : ∀ a, (encP a).depth ≤ m) : ∀ xs : List α, PyData.depthAll (xs.map encP) ≤ m
  | [] => by simp [PyData.depthAll]
  | x :: xs => by
    rw [List.map_cons, PyData.depthAll]
    have := hd x
    have := depth_map hd xs
    omega
theorem lay_map {α : Type} {encP : α → PyData} (hc : ∀ a, (encP a).canLay0 = true) : ∀ xs : List α, PyData.canLayAll0 (xs.map encP) = true
  | [] => by simp [PyData.canLayAll0]
  | x :: xs => by rw [List.map_cons, PyData.canLayAll0, hc x, lay_map hc xs]; rfl
open Classical in
theorem best_gen {α : Type} {h : Hs} {enc : α → FL.D} {encP : α → PyData} (inj : ∀ a b, encP a = encP b → a = b) (py : ∀ a, (enc a).py h = some (encP a)) (pl : ∀ xs : List α, pyL h (xs.map enc) = some (xs.map encP)) (al : ∀ a b, PySem.W.alike (encP a) (encP b) = true) (nn : ∀ a, encP a ≠ .none) (dp : ∀ a, (encP a).depth ≤ 60) (cl : ∀ a, (encP a).canLay0 = true) (pn : ∀ a, (enc a).plain = true) {x r : α} {xs : List α} (hr : r ∈ x :: xs) (hm : PySem.W.minD (encP x) (xs.map encP) = encP r) : bestD false h ((x :: xs).map enc) = some (enc r) := by
  have ok : PySem.W.AlikeAll (encP x :: xs.map encP) ∧ PyData.depthAll (encP x :: xs.map encP) ≤ 60 ∧ PyData.canLayAll0 (encP x :: xs.map encP) = true ∧ D.plainL (enc x :: xs.map enc) = true := by
    refine ⟨⟨?_, ?_⟩, ?_, ?_, plainL_map pn (x :: xs)⟩
    · intro a ha b hb
      rw [← List.map_cons] at ha hb
      obtain ⟨a, _, rfl⟩ := List.mem_map.mp ha
      obtain ⟨b, _, rfl⟩ := List.mem_map.mp hb
      exact al a b
    · intro a ha
      rw [← List.map_cons] at ha
      obtain ⟨a, _, rfl⟩ := List.mem_map.mp ha
      exact nn a
    · rw [← List.map_cons]; exact depth_map dp _
    · rw [← List.map_cons]; exact lay_map cl _
  unfold bestD
  rw [pl (x :: xs), List.map_cons, List.map_cons]
  simp only
  rw [if_pos ok, ← List.map_cons]
  rw [show (if false = true then PySem.W.maxD (encP x) (xs.map encP) else PySem.W.minD (encP x) (xs.map encP)) = encP r from hm]
  rw [List.find?_map]
  have : ((x :: xs).find? ((fun d : FL.D => decide (d.py h = some (encP r))) ∘ enc)) = some r := by
    cases hf : (x :: xs).find? ((fun d : FL.D => decide (d.py h = some (encP r))) ∘ enc) with
    | none =>
      rw [List.find?_eq_none] at hf
      exact absurd (by simp [py]) (hf r hr)
    | some a =>
      have := List.find?_some hf
      simp [py] at this
      rw [inj _ _ this]
  rw [this]; rfl
theorem E_inj {α : Type} [DecidableEq α] {f : α → FL.D} (E : Eqq f) {a b : α} (h : E.P a = E.P b) : a = b := by
  have h1 := E.eqv a a
  have h2 := E.eqv a b
  rw [← h, h1] at h2
  simpa using h2
theorem eq_self {h : Hs} {d : FL.D} {p : PyData} (e : d.py h = some p) (hl : p.canLay0 = true) (hd : p.depth ≤ 64) : eqD h d d = some true := by
  simp only [eqD, e]
  rw [if_pos ⟨shaped_of hl hd, shaped_of hl hd⟩, PySem.SeqAt.eqv_refl p hl]
def coP : Option Int → PyData
  | none => .none
  | some c => .int c
def Eco : Eqq co := ⟨coP, 0, fun lk x => by cases x <;> simp [co, coP, D.pyW], fun x => by cases x <;> simp [coP, PyData.canLay0], fun x => by cases x <;> simp [coP, PyData.depth], fun x y => by cases x <;> cases y <;> simp [coP, PyData.eqv] <;> (rw [Bool.eq_iff_iff]; simp)⟩
def Eni : Eqq (fun m : Nat => FL.D.int m) := ⟨fun m => .int m, 0, fun lk x => by rw [D.pyW], fun x => by simp [PyData.canLay0], fun x => by simp [PyData.depth], fun x y => by simp only [PyData.eqv]; rw [Bool.eq_iff_iff]; simp; omega⟩
theorem minD_ex {α : Type} {encP : α → PyData} : ∀ (xs : List α) (x : α), ∃ r ∈ x :: xs, PySem.W.minD (encP x) (xs.map encP) = encP r
  | [], x => ⟨x, by simp, rfl⟩
  | y :: xs, x => by
    unfold PySem.W.minD
    rw [List.map_cons, List.foldl_cons]
    by_cases h : PySem.W.dataLt (encP y) (encP x) = true
    · rw [if_pos h]
      obtain ⟨r, hr, e⟩ := minD_ex xs y
      exact ⟨r, by rcases List.mem_cons.mp hr with g | g <;> simp [g], e⟩
    · rw [if_neg h]
      obtain ⟨r, hr, e⟩ := minD_ex xs x
      exact ⟨r, by rcases List.mem_cons.mp hr with g | g <;> simp [g], e⟩
def pE (p : Int × Nat) : FL.D := .tup [.int p.1, .int p.2]
def EpE : Eqq pE := Eqq.int.pair Eni
theorem best_int {x : Int} {xs : List Int} : ∃ r ∈ x :: xs, ∀ h, bestD false h ((x :: xs).map .int) = some (.int r) := by
  obtain ⟨r, hr, e⟩ := minD_ex (encP := PyData.int) xs x
  exact ⟨r, hr, fun h => best_gen (encP := PyData.int) (fun a b h => by cases h; rfl) (fun a => rfl) (fun xs => Eqq.int.pyL _ xs) (fun a b => by simp [PySem.W.alike]) (fun a => by simp) (fun a => by simp [PyData.depth]) (fun a => by simp [PyData.canLay0]) (fun a => rfl) hr e⟩
theorem pE_P (p : Int × Nat) : EpE.P p = .tuple [.int p.1, .int (p.2 : Nat)] := rfl
theorem best_pE {x : Int × Nat} {xs : List (Int × Nat)} : ∃ r ∈ x :: xs, ∀ h, bestD false h ((x :: xs).map pE) = some (pE r) := by
  obtain ⟨r, hr, e⟩ := minD_ex (encP := EpE.P) xs x
  exact ⟨r, hr, fun h => best_gen (encP := EpE.P) (fun a b h => E_inj EpE h) (fun a => EpE.py _ a) (fun xs => EpE.pyL _ xs) (fun a b => by rw [pE_P, pE_P]; simp [PySem.W.alike, PySem.W.alikeAll]) (fun a => by rw [pE_P]; simp) (fun a => Nat.le_trans (EpE.deep a) (by decide)) (fun a => EpE.lay a) (fun a => by unfold pE; simp [D.plain, D.plainL]) hr e⟩
end FL.L
set_option autoImplicit false
set_option linter.all false
set_option maxRecDepth 100000
set_option maxHeartbeats 4000000
namespace FL.L
open PySem FL FL.V FL.C
open Classical in
noncomputable def hasB (B : List Bd) : Bool := decide (¬ NegC B)
theorem hasB_iff {B : List Bd} : hasB B = true ↔ ¬ NegC B := by unfold hasB; simp
theorem hasB_not {B : List Bd} : hasB B = false ↔ NegC B := by unfold hasB; simp
theorem tbl_le {n : Nat} {T : Tb} {x y : Nat} {v : Int} (h : le T x y v) : ∀ k, le (tbl n T k) x y v
  | 0 => h
  | k + 1 => vfold_le (tbl_le h k)
theorem T_diag (B : List Bd) (n a : Nat) : ∃ t, T_ B n a a = some t := by
  obtain ⟨t, e, _⟩ := tbl_le (n := n) (fold_le_ (B := B) (T := t0) (x := a) (y := a) (v := 0) ⟨0, by unfold t0; rw [if_pos rfl], Int.le_refl _⟩) n
  exact ⟨t, e⟩
theorem range_at {n : Nat} {a : Nat} {α : Type} (f : Nat → α) (ha : a < n) : L2.atI ((List.range n).map f) (a : Int) = some (f a) := by
  rw [atI_nat, List.getElem?_map, List.getElem?_range ha]; rfl
section
variable {k : Nat} {h : Hs} {n : Nat} {B : List Bd}
theorem has_call (ok : V.okB n B) (hn : n ≤ 100) (hz : B.length ≤ 1000) : gcX false h (pg.call (k + 2) "_law_has" [pD n B] h) = .ok (.bl (hasB B)) h := by
  have sm : small (n : Int) := by unfold small; omega
  have zn : (List.range n).length ≤ sizeLine := by rw [List.length_range, size_big]; omega
  have tc := table_call (k := k) (h := h) ok hn hz
  rw [call_eq l__law_has rfl]
  show gcX false h (evS (pg.cfg (k + 1)) b__law_has [some (pD n B), none, none] h).call = _
  unfold b__law_has
  rw [seq_nx (ls1 := [some (pD n B), some (.fl ((List.range n).map fun a => FL.D.fl (nums n (T_ B n a)))), none]) (h1 := h) (by simp [tc])]
  have e : ((List.range n).all fun a => decide (0 ≤ (T_ B n a a).getD 0)) = hasB B := by
    rw [Bool.eq_iff_iff, List.all_eq_true, hasB_iff, T_neg ok]
    constructor
    · rintro g ⟨a, ha, t, h1, h2⟩
      have := g a (List.mem_range.mpr ha)
      rw [h1] at this
      simp at this
      omega
    · intro g a ha
      obtain ⟨t, h1⟩ := T_diag B n a
      rw [h1]
      have : ¬ t < 0 := fun z => g ⟨a, List.mem_range.mp ha, t, h1, z⟩
      simp; omega
  rw [seq_rt (d := .bl (hasB B)) (h1 := h) ?_]
  · exact gcX_bl _ _ _
  simp [sm, rangeD_nat]
  rw [cf (f := fun a => FL.D.bl (decide (0 ≤ (T_ B n a a).getD 0))) (fun a ha => ?_) zn]
  · simp [e]
  · have ha := List.mem_range.mp ha
    obtain ⟨t, h1⟩ := T_diag B n a
    simp [cstep, wipe, range_at _ ha, at_nums ha, h1, co]
theorem ok_nc : PyData.strOk ("circle" : Str) = true := by decide +kernel
theorem ok_nn : PyData.strOk ("numbers" : Str) = true := by decide +kernel
theorem circle_len : ("circle" : Str).length ≤ 1000 := by decide +kernel
theorem ne_nc : ¬ (("numbers" : Str) = "circle") := by decide +kernel
theorem ne_cn : ¬ (("circle" : Str) = "numbers") := by decide +kernel
theorem num_has {t : Nat} (hc : cld B (st B (fun _ => some 0) t).N) : hasB B = true := hasB_iff.mpr (fit_neg (zero_fit hc))
theorem need_call (ok : V.okB n B) (ns : ∀ e ∈ B, e.1 ≠ e.2.1) (hn : n ≤ 100) (hz : B.length ≤ 1000) : gcX false h (pg.call (k + 4) "need_numbers" [pD n B] h) = if hasB B = true then .ok .non h else .exc "InputError" [("code", .str "circle")] h := by
  obtain ⟨d, e, hd⟩ := solve_call (k := k) (h := h) ok ns hn hz
  rw [call_eq l_need_numbers rfl]
  rcases hd with ⟨t, hc, rfl⟩ | ⟨ks, hN, hne, rfl⟩
  · rw [if_pos (num_has hc)]
    simp [t_need_numbers, b_need_numbers, startL, e, eq_str2 ok_nn ok_nc, ne_nc]
  · rw [if_neg (by rw [hasB_not.mpr hN]; simp)]
    simp [t_need_numbers, b_need_numbers, startL, e, eq_str2 ok_nc ok_nc, raiseR, circle_len]
theorem rep_non (n : Nat) : repL [.non] (n : Int) = nums n (fun _ => none) := by
  unfold repL nums
  refine List.ext_getElem (by simp) fun i h1 h2 => ?_
  simp [co]
/-- two new lists in a pair -/
theorem gcX_pair {h g : Hs} {p q : Nat} {xs ys : List FL.D} (hp : h.length ≤ p) (hq : h.length ≤ q) (ep : (h ++ g)[p]? = some (.lst xs)) (eq : (h ++ g)[q]? = some (.lst ys)) (fx : FL.D.flatL xs = true) (fy : FL.D.flatL ys = true) : gcX false h (.ok (.tup [.loc p, .loc q]) (h ++ g)) = .ok (.tup [.fl xs, .fl ys]) h := by
  have f1 : frzD h.length (h ++ g) 7 (.loc p) = some (.fl xs) := by
    unfold frzD
    rw [if_neg (by simp)]
    simp only [if_neg (Nat.not_lt.mpr hp), ep, optL_flat fx, Option.map_some]
  have f2 : frzD h.length (h ++ g) 7 (.loc q) = some (.fl ys) := by
    unfold frzD
    rw [if_neg (by simp)]
    simp only [if_neg (Nat.not_lt.mpr hq), eq, optL_flat fy, Option.map_some]
  have f3 : frzD h.length (h ++ g) 8 (.tup [.loc p, .loc q]) = some (.tup [.fl xs, .fl ys]) := by
    unfold frzD
    rw [if_neg (by simp)]
    simp only [optL, f1, f2, Option.map_some]
  have e2 : FL.D.closed h.length (.tup [.fl xs, .fl ys]) = true := flat_closed _ _ (by simp [fx, fy])
  simp only [gcX, Bool.false_eq_true, if_false, if_pos (And.intro (OldOk.app h g) (show h.length ≤ (h ++ g).length by simp)), f3, if_pos e2, List.take_left]
abbrev oneI (b : Nat) : Nat → Option Int := fun s => if s = b then some 0 else none
theorem reached_tail {g : Hs} {b L : Nat} (ok : V.okB n B) (ns : ∀ e ∈ B, e.1 ≠ e.2.1) (hn : n ≤ 100) (hz : B.length ≤ 1000) (hN : ¬ NegC B) (hL : g[L]? = some (.lst (nums n (oneI b)))) : ∃ t, t ≤ n + 1 ∧ cld B (st B (oneI b) (t * B.length)).N ∧ evS (pg.cfg (k + 2)) (.scons (.asg (.tgt (.name 3)) (.new "Lowering" (.acons (.var 0) (.acons (.var 2) .anil)))) (.scons (.expr (.meth false "Lowering" "go" (.var 3) .anil)) (.scons (.ret (.tup (.acons (.attr (.var 3) "numbers") (.acons (.attr (.var 3) "last") .anil)))) .snil))) [some (pD n B), some (.int b), some (.loc L), none] g = .rt (.tup [.loc (g.length + 1), .loc (g.length + 2)]) (LH g n B (st B (oneI b) (t * B.length))) := by
  have z2 : 2 ≤ sizeLine := by rw [size_big]; omega
  obtain ⟨d, t, eg, hd⟩ := go_gc (k := k) (h := g) (n := n) (B := B) (i := oneI b) ok ns hn hz
  rcases hd with ⟨rfl, hc, ht⟩ | ⟨_, _, _, hN'⟩
  case inr => exact absurd hN' hN
  refine ⟨t, ht, hc, ?_⟩
  have io := LH_isObj (h := g) (n := n) (B := B) (s := st B (oneI b) 0) (m := "go") (.inr (.inr rfl))
  have fn := LH_n (h := g) (n := n) (B := B) (s := st B (oneI b) (t * B.length))
  have fl := LH_l (h := g) (n := n) (B := B) (s := st B (oneI b) (t * B.length))
  have hlt := lt_of_get hL
  have ini := init_call (k := k) (h := g) (n := n) (B := B) (i := oneI b) (nd := .loc L) hn (fun g' => by
    show lstAt _ _ = _
    exact lstAt_of (by rw [List.getElem?_append_left hlt, hL]))
  have S3 : evS (pg.cfg (k + 2)) (.asg (.tgt (.name 3)) (.new "Lowering" (.acons (.var 0) (.acons (.var 2) .anil)))) [some (pD n B), some (.int b), some (.loc L), none] g = .nx [some (pD n B), some (.int b), some (.loc L), some (.loc g.length)] (LH g n B (st B (oneI b) 0)) :=
    asg_new (k := k + 1) (i := 3) (h := g) (ls := [some (pD n B), some (.int b), some (.loc L), none]) (xs := [pD n B, .loc L]) (by simp) (evs2 (a := .var 0) (b := .var 2) (h1 := g) (by simp) (by simp)) ini
  rw [seq_nx S3]
  rw [seq_nx (ls1 := [some (pD n B), some (.int b), some (.loc L), some (.loc g.length)]) (h1 := LH g n B (st B (oneI b) (t * B.length))) (by simp [n_go, io, eg])]
  rw [seq_rt (d := .tup [.loc (g.length + 1), .loc (g.length + 2)]) (h1 := LH g n B (st B (oneI b) (t * B.length))) (by simp [fn, fl, z2])]
theorem reached_call {b : Nat} (ok : V.okB n B) (ns : ∀ e ∈ B, e.1 ≠ e.2.1) (hn : n ≤ 100) (hz : B.length ≤ 1000) (hN : ¬ NegC B) (hb : b < n) : ∃ t, t ≤ n + 1 ∧ cld B (st B (oneI b) (t * B.length)).N ∧ gcX false h (pg.call (k + 3) "reached_from" [pD n B, .int b] h) = .ok (.tup [.fl (nums n (st B (oneI b) (t * B.length)).N), .fl (lasts n (st B (oneI b) (t * B.length)).P)]) h := by
  obtain ⟨t, ht, hc, e⟩ := reached_tail (k := k) (g := h ++ [.lst (nums n (oneI b))]) (L := h.length) (b := b) ok ns hn hz hN (by simp)
  refine ⟨t, ht, hc, ?_⟩
  rw [call_eq l_reached_from rfl]
  show gcX false h (evS (pg.cfg (k + 2)) b_reached_from [some (pD n B), some (.int b), none, none] h).call = _
  unfold b_reached_from
  have er := ev_rep (Γ := pg.cfg (k + 2)) (ls := [some (pD n B), some (.int b), none, none]) (H := h) (d := .non) (e := .idx (.var 0) (.cst (.int 0))) (n := n) hn (by simp)
  rw [rep_non] at er
  rw [seq_nx (ls1 := [some (pD n B), some (.int b), some (.loc h.length), none]) (h1 := h ++ [.lst (nums n fun _ => none)]) (by rw [evS_asg, er, andS_ok]; simp)]
  have sb : setIdx (.loc h.length) (.int b) (.int 0) (h ++ [.lst (nums n fun _ => none)]) = .ok () (h ++ [.lst (nums n (oneI b))]) := by
    rw [set_of (xs := nums n fun _ => none) (by simp)]
    have : L2.ixN (nums n fun _ => none).length (b : Int) = some b := by unfold nums; rw [List.length_map, List.length_range, ixN_pos (by omega) (by omega)]; simp
    rw [this]
    have e := map_up (fun _ => none) (some (0 : Int)) co hb
    simp only
    unfold nums
    rw [show FL.D.int 0 = co (some 0) from rfl, e]
    simp
    intro a ha
    unfold up oneI
    rfl
  rw [seq_nx (ls1 := [some (pD n B), some (.int b), some (.loc h.length), none]) (h1 := h ++ [.lst (nums n (oneI b))]) (by simp [sb])]
  rw [e]
  have hL : (h ++ [Cell.lst (nums n (oneI b))]).length = h.length + 1 := by simp
  rw [hL]
  show gcX false h (.ok _ (LH (h ++ [.lst (nums n (oneI b))]) n B (st B (oneI b) (t * B.length)))) = _
  have e5 : LH (h ++ [.lst (nums n (oneI b))]) n B (st B (oneI b) (t * B.length)) = h ++ ([.lst (nums n (oneI b)), loO (h.length + 1) n B, .lst (nums n (st B (oneI b) (t * B.length)).N), .lst (lasts n (st B (oneI b) (t * B.length)).P)]) := by simp
  rw [e5]
  exact gcX_pair (by omega) (by omega) (by rw [List.getElem?_append_right (by omega), show h.length + 1 + 1 - h.length = 2 by omega]; rfl) (by rw [List.getElem?_append_right (by omega), show h.length + 1 + 2 - h.length = 3 by omega]; rfl) (nums_flat _ _) (lasts_flat _ _)
/-- the numbers alone: the table's column -/
theorem reached_col {b : Nat} (ok : V.okB n B) (ns : ∀ e ∈ B, e.1 ≠ e.2.1) (hn : n ≤ 100) (hz : B.length ≤ 1000) (hN : ¬ NegC B) (hb : b < n) : ∃ P : Nat → Option Nat, gcX false h (pg.call (k + 3) "reached_from" [pD n B, .int b] h) = .ok (.tup [.fl (nums n fun a => T_ B n a b), .fl (lasts n P)]) h := by
  obtain ⟨t, _, hc, e⟩ := reached_call (k := k) (h := h) ok ns hn hz hN hb
  refine ⟨(st B (oneI b) (t * B.length)).P, e.trans ?_⟩
  have : nums n (st B (oneI b) (t * B.length)).N = nums n fun a => T_ B n a b := by
    unfold nums
    refine List.map_congr_left fun a ha => ?_
    rw [(st_isD ok hc a).uniq (T_isD ok hN (List.mem_range.mp ha) hb)]
  rw [this]
end
end FL.L
set_option autoImplicit false
set_option linter.all false
set_option maxRecDepth 100000
set_option maxHeartbeats 4000000
/-! k18, in plain Lean: back along the last ones; the greatest numbers; distinct ones -/
namespace FL.L
open PySem FL FL.V FL.C
section
variable {n : Nat} {B : List Bd} {i : Nat → Option Int}
theorem never : ∀ (T a : Nat), (V.st B i T).u a = 0 → (V.st B i T).N a = i a
  | 0, _, _ => rfl
  | T + 1, a, h => by
    rw [V.st] at h ⊢
    have ih := never T a
    generalize V.st B i T = s at *
    unfold low at h ⊢
    split at h
    · rename_i hc
      rw [if_pos hc]
      simp only at h ⊢
      by_cases e : a = (bat B T).1
      · subst e; rw [up_at] at h; omega
      · rw [up_ne _ _ e] at h ⊢; exact ih h
    · rename_i hc
      rw [if_neg hc]; exact ih h
theorem back {T a : Nat} (hB : B ≠ []) (ns : ∀ e ∈ B, e.1 ≠ e.2.1) (hc : cld B (V.st B i T).N) (hu : (V.st B i T).u a ≠ 0) : ∃ x y, (V.st B i T).N a = some x ∧ (V.st B i T).N (pv B (V.st B i T) a) = some y ∧ x = y + (bat B ((V.st B i T).u a - 1)).2.2 ∧ (bat B ((V.st B i T).u a - 1)).1 = a ∧ (V.st B i T).P a = some (num B (V.st B i T) a) ∧ (V.st B i T).u (pv B (V.st B i T) a) < (V.st B i T).u a := by
  have I := iv (i := i) hB ns T
  obtain ⟨x, y, h1, h2, h3, h4⟩ := dv (i := i) hB ns T a hu
  obtain ⟨g1, g2, _, _⟩ := I.P a hu
  generalize V.st B i T = s at *
  have hm := bat_mem hB (s.u a - 1)
  have hcan := hc _ hm
  obtain ⟨x', e1, e2⟩ := can_not hcan h2
  rw [g2, h1] at e1
  cases e1
  refine ⟨x, y, h1, h2, by omega, g2, g1, ?_⟩
  show s.u (bat B (s.u a - 1)).2.1 < s.u a
  have h5 : ¬ s.u a < s.u (bat B (s.u a - 1)).2.1 := fun z => by have := h4 z; omega
  by_cases h6 : s.u (bat B (s.u a - 1)).2.1 = s.u a
  · obtain ⟨_, q2, _⟩ := I.P (bat B (s.u a - 1)).2.1 (by omega)
    rw [h6] at q2
    exact absurd q2 (ns _ hm)
  · omega
theorem at_start {b t : Nat} (ok : V.okB n B) (hN : ¬ NegC B) (hc : cld B (V.st B (oneI b) (t * B.length)).N) : (V.st B (oneI b) (t * B.length)).N b = some 0 := by
  have h := st_isD (b := b) ok hc b
  have e : ∀ o, IsD B b b o → o = some 0 := by
    intro o h
    cases o with
    | none => exact (h [] rfl (by simp)).elim
    | some x =>
      obtain ⟨⟨es, h1, h2, h3⟩, h4⟩ := h
      have h5 : x ≤ 0 := h4 [] rfl (by simp)
      have h6 : ¬ wt es < 0 := fun z => hN (neg_round h1 h2 z)
      congr 1; omega
  exact e _ h
/-- the greatest numbers: the least of the table's row -/
theorem grt {t a : Nat} (ok : V.okB n B) (hN : ¬ NegC B) (ha : a < n) (hc : cld B (V.st B (fun _ => some 0) (t * B.length)).N) : ∃ x, (V.st B (fun _ => some 0) (t * B.length)).N a = some x ∧ (∀ b w, b < n → T_ B n a b = some w → x ≤ w) ∧ ∃ b, b < n ∧ T_ B n a b = some x := by
  obtain ⟨x, hx, _⟩ := all_zero (B := B) (t * B.length) a
  refine ⟨x, hx, fun b w hb hw => ?_, ?_⟩
  · obtain ⟨es, h1, h2, h3⟩ := T_way hw
    have hd := st_dn B (fun _ => some 0) 0 (t * B.length)
    rw [Nat.zero_add] at hd
    obtain ⟨y, g1, g2⟩ := cld_way hc hd h1 h2 (y := 0) rfl
    rw [hx] at g1; cases g1; omega
  · by_cases hB : B = []
    · subst hB
      rw [List.length_nil, Nat.mul_zero] at hx
      have hx : some (0 : Int) = some x := hx
      cases hx
      obtain ⟨w, hw⟩ := T_diag [] n a
      obtain ⟨es, h1, h2, h3⟩ := T_way hw
      have : es = [] := by
        cases es with
        | nil => rfl
        | cons e es => have := h2 e (by simp); simp at this
      subst this
      have h3 : (0 : Int) = w := h3
      subst h3
      exact ⟨a, ha, hw⟩
    · obtain ⟨s, y, es, g1, g2, g3, g4⟩ := st_way hB _ _ _ hx
      cases g1
      have hs := wk_lt ok g2 g3 ha
      obtain ⟨w, w1, w2⟩ := T_least ok hN ha hs g2 g3
      refine ⟨s, hs, ?_⟩
      obtain ⟨fs, f1, f2, f3⟩ := T_way w1
      have hd := st_dn B (fun _ => some 0) 0 (t * B.length)
      rw [Nat.zero_add] at hd
      obtain ⟨z, q1, q2⟩ := cld_way hc hd f1 f2 (y := 0) rfl
      rw [hx] at q1; cases q1
      rw [w1]; congr 1; omega
end
/-! ### the least of ints -/
theorem minD_least : ∀ (xs : List Int) (x : Int), ∃ r ∈ x :: xs, PySem.W.minD (PyData.int x) (xs.map PyData.int) = PyData.int r ∧ ∀ y ∈ x :: xs, r ≤ y
  | [], x => ⟨x, by simp, rfl, by simp⟩
  | y :: xs, x => by
    unfold PySem.W.minD
    rw [List.map_cons, List.foldl_cons, PySem.W.dataLt_int]
    by_cases h : y < x
    · rw [if_pos (decide_eq_true h)]
      obtain ⟨r, hr, e, hl⟩ := minD_least xs y
      refine ⟨r, by rcases List.mem_cons.mp hr with g | g <;> simp [g], e, fun z hz => ?_⟩
      have h0 := hl y (by simp)
      rcases List.mem_cons.mp hz with rfl | hz
      · omega
      · exact hl z hz
    · rw [if_neg (by simpa using h)]
      obtain ⟨r, hr, e, hl⟩ := minD_least xs x
      refine ⟨r, by rcases List.mem_cons.mp hr with g | g <;> simp [g], e, fun z hz => ?_⟩
      have h0 := hl x (by simp)
      rcases List.mem_cons.mp hz with rfl | hz
      · exact h0
      · rcases List.mem_cons.mp hz with rfl | hz
        · omega
        · exact hl z (by simp [hz])
theorem best_least {xs : List Int} {r : Int} (hr : r ∈ xs) (hl : ∀ y ∈ xs, r ≤ y) (h : Hs) : bestD false h (xs.map .int) = some (.int r) := by
  cases xs with
  | nil => simp at hr
  | cons x xs =>
    obtain ⟨q, hq, e, ql⟩ := minD_least xs x
    have : q = r := by
      have := hl q hq
      have := ql r hr
      omega
    subst this
    exact best_gen (encP := PyData.int) (fun a b h => by cases h; rfl) (fun a => rfl) (fun xs => Eqq.int.pyL _ xs) (fun a b => by simp [PySem.W.alike]) (fun a => by simp) (fun a => by simp [PyData.depth]) (fun a => by simp [PyData.canLay0]) (fun a => rfl) hq e
/-! ### distinct ones -/
theorem ddI_le : ∀ ns : List Int, (ddI ns).length ≤ ns.length ∧ ((ddI ns).length = ns.length ↔ ns.Nodup)
  | [] => by simp [ddI]
  | n :: ns => by
    rw [ddI]
    obtain ⟨h1, h2⟩ := ddI_le ns
    have h3 := List.length_filter_le (fun y => decide (y ≠ n)) (ddI ns)
    have mem : ∀ (l : List Int) (x : Int), x ∈ ddI l ↔ x ∈ l := by
      intro l
      induction l with
      | nil => simp [ddI]
      | cons a l ih =>
        intro x
        rw [ddI]
        simp [ih]
        by_cases e : x = a
        · simp [e]
        · simp [e]
    rw [List.length_cons, List.length_cons, List.nodup_cons]
    refine ⟨by omega, ?_⟩
    constructor
    · intro e
      have e1 : ((ddI ns).filter fun y => decide (y ≠ n)).length = (ddI ns).length := by omega
      have e2 : (ddI ns).length = ns.length := by omega
      refine ⟨fun hm => ?_, h2.mp e2⟩
      have := List.length_filter_eq_length_iff.mp e1 n ((mem ns n).mpr hm)
      simp at this
    · rintro ⟨hm, hnd⟩
      have e2 := h2.mpr hnd
      have : (ddI ns).filter (fun y => decide (y ≠ n)) = ddI ns := List.filter_eq_self.mpr fun a ha => by
        have := (mem ns a).mp ha
        simp
        rintro rfl; exact hm this
      rw [this]; omega
/-- the keys of {k: True for k in ..} -/
def keyF : List Int → List Int → List Int
  | K, [] => K
  | K, x :: xs => keyF (if x ∈ K then K else K ++ [x]) xs
theorem keyF_len : ∀ (xs K : List Int), K.Nodup → (keyF K xs).length ≤ K.length + xs.length ∧ ((keyF K xs).length = K.length + xs.length ↔ (K ++ xs).Nodup)
  | [], K, h => by simp [keyF, h]
  | x :: xs, K, h => by
    rw [keyF]
    by_cases hx : x ∈ K
    · rw [if_pos hx]
      obtain ⟨h1, _⟩ := keyF_len xs K h
      rw [List.length_cons]
      refine ⟨by omega, ⟨fun e => by omega, fun e => ?_⟩⟩
      rw [List.nodup_append] at e
      exact absurd rfl (e.2.2 x hx x (by simp))
    · rw [if_neg hx]
      have hk : (K ++ [x]).Nodup := by
        rw [List.nodup_append]
        refine ⟨h, by simp, fun a ha b hb => ?_⟩
        rw [List.mem_singleton] at hb
        subst hb
        rintro rfl; exact hx ha
      obtain ⟨h1, h2⟩ := keyF_len xs (K ++ [x]) hk
      rw [List.length_append, List.length_singleton] at h1 h2
      rw [List.length_cons]
      refine ⟨by omega, ?_⟩
      rw [show K ++ x :: xs = K ++ [x] ++ xs by simp, ← h2]
      omega
end FL.L
set_option autoImplicit false
set_option linter.all false
set_option maxRecDepth 100000
set_option maxHeartbeats 4000000
namespace FL.L
open PySem FL FL.V FL.C
def own (B : List Bd) (cs : List Int) : List Bd := cs.map fun c => bdm B c.toNat
def nxt (L k : Nat) : Nat := if k + 1 < L then k + 1 else 0
def lnkB (es : List Bd) : Bool := (List.range es.length).all fun k => decide ((es.getD k (0, 0, 0)).2.1 = (es.getD (nxt es.length k) (0, 0, 0)).1)
open Classical in
noncomputable def cB (B : List Bd) (cs : List Int) : Bool := if cs = [] ∨ (¬ ∀ c ∈ cs, 0 ≤ c ∧ c < B.length) ∨ ¬ cs.Nodup then false else lnkB (own B cs) && decide (wt (own B cs) < 0)
theorem nxt_mod {L k : Nat} (hk : k < L) : ((k : Int) + 1).fmod (L : Int) = (nxt L k : Nat) := by
  unfold nxt
  rw [Int.fmod_eq_emod_of_nonneg _ (by omega)]
  split
  · rename_i h
    rw [Int.emod_eq_of_lt (by omega) (by omega)]; omega
  · rename_i h
    have : (k : Int) + 1 = L := by omega
    rw [this, Int.emod_self]; rfl
theorem nxt_lt {L k : Nat} (hk : k < L) : nxt L k < L := by unfold nxt; split <;> omega
theorem tuI_dc : ∀ (xs K : List Int), dcI (fun c : Int => some (c, FL.D.bl true)) (tuI K) xs = tuI (keyF K xs)
  | [], K => rfl
  | x :: xs, K => by
    have : dcI (fun c : Int => some (c, FL.D.bl true)) (tuI K) (x :: xs) = dcI (fun c : Int => some (c, FL.D.bl true)) (uI (tuI K) x (.bl true)) xs := rfl
    rw [this, uI_tuI, tuI_dc xs, keyF]
section
variable {k : Nat} {h : Hs} {n : Nat} {B : List Bd} {cs : List Int}
theorem own_len : (own B cs).length = cs.length := by simp [own]
theorem own_at {es : List Bd} {k : Nat} (hk : k < es.length) : L2.atI (es.map bD) (k : Int) = some (bD (es.getD k (0, 0, 0))) := by
  rw [atI_nat, List.getElem?_map, List.getD_eq_getElem?_getD, List.getElem?_eq_getElem hk]; rfl
theorem bnd_at {c : Int} (h0 : 0 ≤ c) (h1 : c < B.length) : L2.atI (B.map bD) c = some (bD (bdm B c.toNat)) := by
  have := bD_at (B := B) (m := c.toNat) (by omega)
  rw [show ((c.toNat : Nat) : Int) = c by omega] at this
  exact this
theorem sum_own (es : List Bd) : btD false .sum [.fl (es.map fun e => FL.D.int e.2.2)] h = .ok (.int (wt es)) h := by
  simp only [btD, lstD, Option.bind_some, ints_mapF, Option.map_some, ofO_some, wt]
theorem takes_call (zc : cs.length ≤ 60) (hz : B.length ≤ 1000) : gcX false h (pg.call (k + 1) "takes_circle" [pD n B, .tup (cs.map .int)] h) = .ok (.bl (cB B cs)) h := by
  have zl : cs.length ≤ sizeLine := by rw [size_big]; omega
  have zn : (own B cs).length ≤ sizeLine := by rw [own_len]; exact zl
  have zr : (List.range cs.length).length ≤ sizeLine := by rw [List.length_range]; exact zl
  have sm : small (cs.length : Int) := by unfold small; omega
  have key : ∃ h', evS (pg.cfg k) b_takes_circle [some (pD n B), some (.tup (cs.map .int)), none, none, none, none, none, none] h = .rt (.bl (cB B cs)) h' ∧ h' = h := by
    refine ⟨h, ?_, rfl⟩
    unfold b_takes_circle
    rw [seq_nx (ls1 := [some (pD n B), some (.tup (cs.map .int)), some (.tup (B.map bD)), none, none, none, none, none]) (h1 := h) (by simp)]
    by_cases h0 : cs = []
    · rw [seq_rt (d := .bl (cB B cs)) (h1 := h) (by subst h0; simp [cB])]
    have ca : ev (pg.cfg k) (.or (.not (.var 1)) (.not (.bcall false .all (.acons (.comp false [4] (.name 4) (.iseq (.var 1)) (.cst (.bl true)) (.chain .LtE .Lt (.cst (.int 0)) (.var 4) (.bcall false .len (.acons (.var 2) .anil)))) .anil)))) [some (pD n B), some (.tup (cs.map .int)), some (.tup (B.map bD)), none, none, none, none, none] h = .ok (.bl (!(cs.all fun c => decide (0 ≤ c ∧ c < B.length)))) h := by
      have : cs.isEmpty = false := by cases cs with | nil => exact absurd rfl h0 | cons _ _ => rfl
      rw [ev_or]
      simp [h0]
      rw [cf (f := fun c : Int => FL.D.bl (decide (0 ≤ c ∧ c < B.length))) (fun c hc => ?_) zl]
      · simp
      · by_cases h1 : 0 ≤ c
        · simp [cstep, wipe, h1]
        · simp [cstep, wipe, h1]
    by_cases hr : ∀ c ∈ cs, 0 ≤ c ∧ c < B.length
    case neg =>
      have hf : (cs.all fun c => decide (0 ≤ c ∧ c < B.length)) = false := by
        rw [Bool.eq_false_iff]
        intro z
        exact hr fun c hc => by simpa using List.all_eq_true.mp z c hc
      have : cB B cs = false := by unfold cB; rw [if_pos (.inr (.inl hr))]
      rw [this]
      rw [hf] at ca
      refine seq_rt ?_
      rw [evS_ite, ev_T, ca]
      simp
    have ht : (cs.all fun c => decide (0 ≤ c ∧ c < B.length)) = true := List.all_eq_true.mpr fun c hc => by simpa using hr c hc
    rw [ht] at ca
    rw [seq_nx (ls1 := [some (pD n B), some (.tup (cs.map .int)), some (.tup (B.map bD)), none, none, none, none, none]) (h1 := h) (by rw [evS_ite, ev_T, ca]; simp)]
    have dc : dcompL [] h (dstep (pg.cfg k) [4] (.name 4) (.cst (.bl true)) (.var 4) (.cst (.bl true)) [some (pD n B), some (.tup (cs.map .int)), some (.tup (B.map bD)), none, none, none, none, none]) (cs.map .int) [] h = .ok (dI (tuI (keyF [] cs))) h := by
      rw [← tuI_dc cs []]
      exact dcomp_nil (fun c : Int => some (c, FL.D.bl true)) (by omega) (by intro l hl; simp [dstep, wipe])
    obtain ⟨kl, kn⟩ := keyF_len cs [] List.nodup_nil
    simp only [List.length_nil, Nat.zero_add, List.nil_append] at kl kn
    have zk : (keyF [] cs).length ≤ sizeLine := by omega
    have cd : evT (pg.cfg k) (.cmp .Lt (.bcall false .len (.acons (.dcomp false [4] (.name 4) (.iseq (.var 1)) (.cst (.bl true)) (.var 4) (.cst (.bl true))) .anil)) (.bcall false .len (.acons (.var 1) .anil))) [some (pD n B), some (.tup (cs.map .int)), some (.tup (B.map bD)), none, none, none, none, none] h = .ok (decide ((keyF [] cs).length < cs.length)) h := by
      simp [dc, btD, itemsD, lstD, dictD, dI_len, tuI_len, zk]
    by_cases hn : cs.Nodup
    case neg =>
      have : cB B cs = false := by unfold cB; rw [if_pos (.inr (.inr hn))]
      rw [this]
      have hl : (keyF [] cs).length < cs.length := by
        have : ¬ (keyF [] cs).length = cs.length := fun e => hn (kn.mp e)
        omega
      rw [decide_eq_true hl] at cd
      refine seq_rt ?_
      rw [evS_ite, cd]
      simp
    have hl : ¬ (keyF [] cs).length < cs.length := by have := kn.mpr hn; omega
    rw [decide_eq_false hl] at cd
    rw [seq_nx (ls1 := [some (pD n B), some (.tup (cs.map .int)), some (.tup (B.map bD)), none, none, none, none, none]) (h1 := h) (by rw [evS_ite, cd]; simp)]
    have S4 : evS (pg.cfg k) (.asg (.tgt (.name 3)) (.comp false [4] (.name 4) (.iseq (.var 1)) (.cst (.bl true)) (.idx (.var 2) (.var 4)))) [some (pD n B), some (.tup (cs.map .int)), some (.tup (B.map bD)), none, none, none, none, none] h = .nx [some (pD n B), some (.tup (cs.map .int)), some (.tup (B.map bD)), some (.fl ((own B cs).map bD)), none, none, none, none] h := by
      simp
      rw [cf (f := fun c : Int => bD (bdm B c.toNat)) (fun c hc => ?_) zl]
      · simp [own, Function.comp_def]
      · obtain ⟨h1, h2⟩ := hr c hc
        simp [cstep, wipe, bnd_at h1 h2]
    rw [seq_nx S4]
    have hv : cB B cs = (lnkB (own B cs) && decide (wt (own B cs) < 0)) := by
      unfold cB
      rw [if_neg]
      rintro (z | z | z)
      · exact h0 z
      · exact z hr
      · exact z hn
    rw [hv]
    have lo := own_len (B := B) (cs := cs)
    have hpos : 0 < cs.length := List.length_pos_iff.mpr h0
    have cl : evT (pg.cfg k) (.not (.bcall false .all (.acons (.comp false [5] (.name 5) (.irange (.acons (.bcall false .len (.acons (.var 3) .anil)) .anil)) (.cst (.bl true)) (.cmp .Eq (.idx (.idx (.var 3) (.var 5)) (.cst (.int 1))) (.idx (.idx (.var 3) (.bin false .Mod (.bin false .Add (.var 5) (.cst (.int 1))) (.bcall false .len (.acons (.var 3) .anil)))) (.cst (.int 0))))) .anil))) [some (pD n B), some (.tup (cs.map .int)), some (.tup (B.map bD)), some (.fl ((own B cs).map bD)), none, none, none, none] h = .ok (!lnkB (own B cs)) h := by
      have hne : ¬ ((cs.length : Int) = 0) := by omega
      simp [lo, sm, rangeD_nat]
      rw [cf (f := fun j : Nat => FL.D.bl (decide (((own B cs).getD j (0, 0, 0)).2.1 = ((own B cs).getD (nxt cs.length j) (0, 0, 0)).1))) (fun j hj => ?_) zr]
      · simp [lnkB, lo]
      · have hj := List.mem_range.mp hj
        have i1 := own_at (es := own B cs) (k := j) (by omega)
        have i2 := own_at (es := own B cs) (k := nxt cs.length j) (by rw [lo]; exact nxt_lt hj)
        rw [← nxt_mod hj] at i2
        simp [cstep, wipe, i1, i2, lo, h0]
        omega
    generalize own B cs = es at *
    cases hlk : lnkB es with
    | false =>
      rw [hlk] at cl
      refine seq_rt ?_
      rw [evS_ite, cl]
      simp
    | true =>
      rw [hlk] at cl
      rw [seq_nx (ls1 := [some (pD n B), some (.tup (cs.map .int)), some (.tup (B.map bD)), some (.fl (es.map bD)), none, none, none, none]) (h1 := h) (by rw [evS_ite, cl]; simp)]
      refine seq_rt ?_
      simp
      rw [cf (f := fun e : Bd => FL.D.int e.2.2) (fun e he => ?_) zn]
      · simp [sum_own]
      · simp [cstep, wipe]
  obtain ⟨h', e, rfl⟩ := key
  rw [call_eq l_takes_circle rfl]
  show gcX false h' (evS (pg.cfg k) b_takes_circle [some (pD n B), some (.tup (cs.map .int)), none, none, none, none, none, none] h').call = _
  rw [e]
  exact gcX_bl _ _ _
end
end FL.L
set_option autoImplicit false
set_option linter.all false
set_option maxRecDepth 100000
set_option maxHeartbeats 4000000
namespace FL.L
open PySem FL FL.V FL.C
theorem wk_link : ∀ {es : List Bd} {a b : Nat}, wk a b es → (∀ j, j + 1 < es.length → (es.getD j (0, 0, 0)).2.1 = (es.getD (j + 1) (0, 0, 0)).1) ∧ (es ≠ [] → (es.getD 0 (0, 0, 0)).1 = a ∧ (es.getD (es.length - 1) (0, 0, 0)).2.1 = b)
  | [], a, b, h => ⟨fun j hj => by simp at hj, fun h => absurd rfl h⟩
  | [e], a, b, h => ⟨fun j hj => by simp at hj, fun _ => ⟨h.1, h.2⟩⟩
  | e :: f :: es, a, b, h => by
    obtain ⟨h1, h2⟩ := wk_link (es := f :: es) h.2
    obtain ⟨g1, g2⟩ := h2 (by simp)
    refine ⟨fun j hj => ?_, fun _ => ⟨h.1, ?_⟩⟩
    · cases j with
      | zero => exact g1.symm
      | succ j => exact h1 j (by simpa using hj)
    · have : (e :: f :: es).length - 1 = ((f :: es).length - 1) + 1 := by simp
      rw [this]
      exact g2
theorem cir_cB {B : List Bd} {ks : List Nat} (h : CirOk B ks) : cB B (ks.map fun m : Nat => (m : Int)) = true := by
  obtain ⟨h1, h2, h3, ⟨c, h4⟩, h5⟩ := h
  have e1 : own B (ks.map fun m : Nat => (m : Int)) = ks.map (bdm B) := by
    unfold own; rw [List.map_map]
    refine List.map_congr_left fun m _ => ?_
    simp
  unfold cB
  rw [if_neg, e1]
  · obtain ⟨g1, g2⟩ := wk_link h4
    have hne : ks.map (bdm B) ≠ [] := by simpa using h1
    obtain ⟨q1, q2⟩ := g2 hne
    generalize ks.map (bdm B) = es at *
    have : lnkB es = true := by
      unfold lnkB
      rw [List.all_eq_true]
      intro j hj
      have hj := List.mem_range.mp hj
      rw [decide_eq_true_eq]
      unfold nxt
      split
      · rename_i hlt; exact g1 j hlt
      · rename_i hlt
        have : j = es.length - 1 := by omega
        rw [this, q1, q2]
    rw [this, decide_eq_true h5]; rfl
  · rintro (z | z | z)
    · exact h1 (by simpa using z)
    · refine z fun c hc => ?_
      obtain ⟨m, hm, rfl⟩ := List.mem_map.mp hc
      have := h2 m hm
      omega
    · refine z ?_
      rw [List.Nodup, List.pairwise_map]
      exact h3.imp fun hab e => hab (by omega)
section
variable {k : Nat} {h : Hs} {n : Nat} {B : List Bd} {cs : List Int}
theorem lcircle_call (zc : cs.length ≤ 60) (hz : B.length ≤ 1000) : gcX false h (pg.call (k + 1) "_law_circle" [pD n B, .tup (cs.map .int)] h) = .ok (.bl (cB B cs)) h := by
  have zl : cs.length ≤ sizeLine := by rw [size_big]; omega
  have zn : (own B cs).length ≤ sizeLine := by rw [own_len]; exact zl
  have zr : (List.range cs.length).length ≤ sizeLine := by rw [List.length_range]; exact zl
  have sm : small (cs.length : Int) := by unfold small; omega
  have so := setOf_tup h (ns := cs) (by omega)
  have key : ∃ h', evS (pg.cfg k) b__law_circle [some (pD n B), some (.tup (cs.map .int)), none, none, none, none, none, none] h = .rt (.bl (cB B cs)) h' ∧ h' = h := by
    refine ⟨h, ?_, rfl⟩
    unfold b__law_circle
    rw [seq_nx (ls1 := [some (pD n B), some (.tup (cs.map .int)), some (.tup (B.map bD)), none, none, none, none, none]) (h1 := h) (by simp)]
    by_cases h0 : cs = []
    · rw [seq_rt (d := .bl (cB B cs)) (h1 := h) (by subst h0; simp [cB])]
    obtain ⟨dl, dn⟩ := ddI_le cs
    have hpos : 0 < cs.length := List.length_pos_iff.mpr h0
    have hne : ¬ ((cs.length : Int) = 0) := by omega
    have ca : evT (pg.cfg k) (.or (.cmp .Eq (.bcall false .len (.acons (.var 1) .anil)) (.cst (.int 0))) (.or (.cmp .Lt (.lset (.var 1)) (.bcall false .len (.acons (.var 1) .anil))) (.not (.bcall false .all (.acons (.comp false [4] (.name 4) (.iseq (.var 1)) (.cst (.bl true)) (.chain .LtE .Lt (.cst (.int 0)) (.var 4) (.bcall false .len (.acons (.var 2) .anil)))) .anil))))) [some (pD n B), some (.tup (cs.map .int)), some (.tup (B.map bD)), none, none, none, none, none] h = .ok (decide ((ddI cs).length < cs.length) || !(cs.all fun c => decide (0 ≤ c ∧ c < B.length))) h := by
      by_cases hd : (ddI cs).length < cs.length
      · simp [so, hd, h0, hne]
      · simp [so, hd, h0, hne]
        rw [cf (f := fun c : Int => FL.D.bl (decide (0 ≤ c ∧ c < B.length))) (fun c hc => ?_) zl]
        · simp
        · by_cases h1 : 0 ≤ c
          · simp [cstep, wipe, h1]
          · simp [cstep, wipe, h1]
    by_cases hn : cs.Nodup
    case neg =>
      have : cB B cs = false := by unfold cB; rw [if_pos (.inr (.inr hn))]
      rw [this]
      have hl : (ddI cs).length < cs.length := by
        have : ¬ (ddI cs).length = cs.length := fun e => hn (dn.mp e)
        omega
      rw [decide_eq_true hl, Bool.true_or] at ca
      refine seq_rt ?_
      rw [evS_ite, ca]
      simp
    have hl : ¬ (ddI cs).length < cs.length := by have := dn.mpr hn; omega
    rw [decide_eq_false hl, Bool.false_or] at ca
    by_cases hr : ∀ c ∈ cs, 0 ≤ c ∧ c < B.length
    case neg =>
      have hf : (cs.all fun c => decide (0 ≤ c ∧ c < B.length)) = false := by
        rw [Bool.eq_false_iff]
        intro z
        exact hr fun c hc => by simpa using List.all_eq_true.mp z c hc
      have : cB B cs = false := by unfold cB; rw [if_pos (.inr (.inl hr))]
      rw [this]
      rw [hf] at ca
      refine seq_rt ?_
      rw [evS_ite, ca]
      simp
    have ht : (cs.all fun c => decide (0 ≤ c ∧ c < B.length)) = true := List.all_eq_true.mpr fun c hc => by simpa using hr c hc
    rw [ht] at ca
    rw [seq_nx (ls1 := [some (pD n B), some (.tup (cs.map .int)), some (.tup (B.map bD)), none, none, none, none, none]) (h1 := h) (by rw [evS_ite, ca]; simp)]
    have S4 : evS (pg.cfg k) (.asg (.tgt (.name 3)) (.comp false [4] (.name 4) (.iseq (.var 1)) (.cst (.bl true)) (.idx (.var 2) (.var 4)))) [some (pD n B), some (.tup (cs.map .int)), some (.tup (B.map bD)), none, none, none, none, none] h = .nx [some (pD n B), some (.tup (cs.map .int)), some (.tup (B.map bD)), some (.fl ((own B cs).map bD)), none, none, none, none] h := by
      simp
      rw [cf (f := fun c : Int => bD (bdm B c.toNat)) (fun c hc => ?_) zl]
      · simp [own, Function.comp_def]
      · obtain ⟨h1, h2⟩ := hr c hc
        simp [cstep, wipe, bnd_at h1 h2]
    rw [seq_nx S4]
    have hv : cB B cs = (lnkB (own B cs) && decide (wt (own B cs) < 0)) := by
      unfold cB
      rw [if_neg]
      rintro (z | z | z)
      · exact h0 z
      · exact z hr
      · exact z hn
    rw [hv]
    have lo := own_len (B := B) (cs := cs)
    have cl : evT (pg.cfg k) (.bcall false .any (.acons (.comp false [4] (.name 4) (.irange (.acons (.bcall false .len (.acons (.var 3) .anil)) .anil)) (.cst (.bl true)) (.cmp .NotEq (.idx (.idx (.var 3) (.var 4)) (.cst (.int 1))) (.idx (.idx (.var 3) (.ite (.cmp .Lt (.bin false .Add (.var 4) (.cst (.int 1))) (.bcall false .len (.acons (.var 3) .anil))) (.bin false .Add (.var 4) (.cst (.int 1))) (.cst (.int 0)))) (.cst (.int 0))))) .anil)) [some (pD n B), some (.tup (cs.map .int)), some (.tup (B.map bD)), some (.fl ((own B cs).map bD)), none, none, none, none] h = .ok (!lnkB (own B cs)) h := by
      simp [lo, sm, rangeD_nat]
      rw [cf (f := fun j : Nat => FL.D.bl (!decide (((own B cs).getD j (0, 0, 0)).2.1 = ((own B cs).getD (nxt cs.length j) (0, 0, 0)).1))) (fun j hj => ?_) zr]
      · have : ((List.range cs.length).any fun j : Nat => !decide (((own B cs).getD j (0, 0, 0)).2.1 = ((own B cs).getD (nxt cs.length j) (0, 0, 0)).1)) = !lnkB (own B cs) := by
          unfold lnkB
          rw [lo, List.all_eq_not_any_not, Bool.not_not]
        rw [R.bind_ok, R.bind_ok, any_fl, this]
        simp
      · have hj := List.mem_range.mp hj
        have i1 := own_at (es := own B cs) (k := j) (by omega)
        have i2 := own_at (es := own B cs) (k := nxt cs.length j) (by rw [lo]; exact nxt_lt hj)
        unfold nxt at i2 ⊢
        by_cases hlt : j + 1 < cs.length
        · have hlt2 : (j : Int) + 1 < cs.length := by omega
          rw [if_pos hlt] at i2 ⊢
          have i2 : L2.atI ((own B cs).map bD) ((j : Int) + 1) = _ := i2
          have lo2 : ((own B cs).map bD).length = cs.length := by rw [List.length_map, lo]
          generalize (own B cs).getD j (0, 0, 0) = e1 at *
          generalize (own B cs).getD (j + 1) (0, 0, 0) = e2 at *
          generalize (own B cs).map bD = es at *
          simp [cstep, wipe, i1, i2, lo2, hlt2]
          omega
        · have hlt2 : ¬ (j : Int) + 1 < cs.length := by omega
          rw [if_neg hlt] at i2 ⊢
          have i2 : ((own B cs).map bD)[0]? = some (bD ((own B cs).getD 0 (0, 0, 0))) := by
            rw [List.getElem?_map, List.getD_eq_getElem?_getD, List.getElem?_eq_getElem (by omega)]; rfl
          have lo2 : ((own B cs).map bD).length = cs.length := by rw [List.length_map, lo]
          generalize (own B cs).getD j (0, 0, 0) = e1 at *
          generalize (own B cs).getD 0 (0, 0, 0) = e2 at *
          generalize (own B cs).map bD = es at *
          simp [cstep, wipe, i1, i2, lo2, hlt2]
          omega
    generalize own B cs = es at *
    cases hlk : lnkB es with
    | false =>
      rw [hlk] at cl
      refine seq_rt ?_
      rw [evS_ite, cl]
      simp
    | true =>
      rw [hlk] at cl
      rw [seq_nx (ls1 := [some (pD n B), some (.tup (cs.map .int)), some (.tup (B.map bD)), some (.fl (es.map bD)), none, none, none, none]) (h1 := h) (by rw [evS_ite, cl]; simp)]
      refine seq_rt ?_
      simp
      rw [cf (f := fun e : Bd => FL.D.int e.2.2) (fun e he => ?_) zn]
      · simp [sum_own]
      · simp [cstep, wipe]
  obtain ⟨h', e, rfl⟩ := key
  rw [call_eq l__law_circle rfl]
  show gcX false h' (evS (pg.cfg k) b__law_circle [some (pD n B), some (.tup (cs.map .int)), none, none, none, none, none, none] h').call = _
  rw [e]
  exact gcX_bl _ _ _
def fitB (B : List Bd) (x : List Int) : Bool := B.all fun e => decide (x.getD e.1 0 - x.getD e.2.1 0 ≤ e.2.2)
theorem lfits_call {x : List Int} (hx : x.length = n) (ok : V.okB n B) (hz : B.length ≤ 1000) (hn : n ≤ 100) : gcX false h (pg.call (k + 1) "_law_fits" [pD n B, .tup (x.map .int)] h) = .ok (.bl (fitB B x)) h := by
  have zB : B.length ≤ sizeLine := by rw [size_big]; omega
  rw [call_eq l__law_fits rfl]
  show gcX false h (evS (pg.cfg k) b__law_fits [some (pD n B), some (.tup (x.map .int)), none, none, none] h).call = _
  unfold b__law_fits
  have xa : ∀ a, a < n → L2.atI (x.map FL.D.int) (a : Int) = some (.int (x.getD a 0)) := fun a ha => by
    rw [atI_nat, List.getElem?_map, List.getD_eq_getElem?_getD, List.getElem?_eq_getElem (by omega)]; rfl
  rw [seq_rt (d := .bl (fitB B x)) (h1 := h) ?_]
  · exact gcX_bl _ _ _
  simp [hx]
  rw [cf (f := fun e : Bd => FL.D.bl (decide (x.getD e.1 0 - x.getD e.2.1 0 ≤ e.2.2))) (fun e he => ?_) zB]
  · simp [fitB]
  · obtain ⟨oa, ob⟩ := ok e he
    simp [cstep, wipe, xa _ oa, xa _ ob]
theorem fits_call {x : List Int} (hx : x.length = n) (ok : V.okB n B) (hz : B.length ≤ 1000) (hn : n ≤ 100) : gcX false h (pg.call (k + 1) "fits" [pD n B, .tup (x.map .int)] h) = .ok (.bl (fitB B x)) h := by
  have zB : B.length ≤ sizeLine := by rw [size_big]; omega
  rw [call_eq l_fits rfl]
  show gcX false h (evS (pg.cfg k) b_fits [some (pD n B), some (.tup (x.map .int)), none, none, none] h).call = _
  unfold b_fits
  have xa : ∀ a, a < n → L2.atI (x.map FL.D.int) (a : Int) = some (.int (x.getD a 0)) := fun a ha => by
    rw [atI_nat, List.getElem?_map, List.getD_eq_getElem?_getD, List.getElem?_eq_getElem (by omega)]; rfl
  rw [seq_rt (d := .bl (fitB B x)) (h1 := h) ?_]
  · exact gcX_bl _ _ _
  simp [hx]
  rw [cf (f := fun e : Bd => FL.D.bl (decide (x.getD e.1 0 - x.getD e.2.1 0 ≤ e.2.2))) (fun e he => ?_) zB]
  · simp [fitB]
  · obtain ⟨oa, ob⟩ := ok e he
    simp [cstep, wipe, xa _ oa, xa _ ob]
theorem fits_more {x : List FL.D} (hx : x.length = n + 1) : gcX false h (pg.call (k + 1) "fits" [pD n B, .tup x] h) = .ok (.bl false) h := by
  rw [call_eq l_fits rfl]
  show gcX false h (evS (pg.cfg k) b_fits [some (pD n B), some (.tup x), none, none, none] h).call = _
  unfold b_fits
  have h1 : ¬ ((n : Int) + 1 = n) := by omega
  rw [seq_rt (d := .bl false) (h1 := h) (by simp [hx, h1])]
  exact gcX_bl _ _ _
end
end FL.L
set_option autoImplicit false
set_option linter.all false
set_option maxRecDepth 100000
set_option maxHeartbeats 4000000
namespace FL.L
open PySem FL FL.V FL.C
theorem number_len : ("number" : Str).length ≤ 1000 := by decide +kernel
theorem ok_nb : PyData.strOk ("number" : Str) = true := by decide +kernel
theorem catchR_hit {c : Str} {i : Nat} {d : FL.D} {ls : Ls} {h : Hs} (hi : i < ls.length) : catchR c i (.exc c [(("code" : Str), d)] ls h) = .rt d h := by
  unfold catchR
  simp [hi]
theorem co_flat' (o : Option Int) : (co o).flat = true := by cases o <;> rfl
section
variable {k : Nat} {h : Hs} {n : Nat} {B : List Bd}
/-- the numbers of bounds that lead from a to b, of some weight -/
structure Leads (B : List Bd) (a b : Nat) (t : Int) (ks : List Nat) : Prop where
  lt : ∀ m ∈ ks, m < B.length
  wk : wk a b (ks.map (bdm B))
  wt : wt (ks.map (bdm B)) = t
  len : ks.length ≤ 1000000
theorem tight_neg {a b : Int} (ok : V.okB n B) (ns : ∀ e ∈ B, e.1 ≠ e.2.1) (hn : n ≤ 100) (hz : B.length ≤ 1000) (hh : hasB B = false) : gcX false h (pg.call (k + 5) "tightest" [pD n B, .int a, .int b] h) = .exc "InputError" [("code", .str "circle")] h := by
  have nc := need_call (k := k) (h := h) ok ns hn hz
  rw [hh, if_neg (by simp)] at nc
  rw [call_eq l_tightest rfl]
  show gcX false h (evS (pg.cfg (k + 4)) b_tightest [some (pD n B), some (.int a), some (.int b), none, none, none, none] h).call = _
  unfold b_tightest
  rw [evS_scons]
  have e : evS (pg.cfg (k + 4)) (.expr (.call false "need_numbers" (.acons (.var 0) .anil))) [some (pD n B), some (.int a), some (.int b), none, none, none, none] h = .exc "InputError" [("code", .str "circle")] [some (pD n B), some (.int a), some (.int b), none, none, none, none] h := by simp [nc]
  rw [e, andN_exc, call_exc, gcX_exc]
theorem tight_num {a b : Int} (ok : V.okB n B) (ns : ∀ e ∈ B, e.1 ≠ e.2.1) (hn : n ≤ 100) (hz : B.length ≤ 1000) (hh : hasB B = true) (hab : ¬ (0 ≤ a ∧ a < n) ∨ ¬ (0 ≤ b ∧ b < n)) : gcX false h (pg.call (k + 5) "tightest" [pD n B, .int a, .int b] h) = .exc "InputError" [("code", .str "number")] h := by
  have nc := need_call (k := k) (h := h) ok ns hn hz
  rw [hh, if_pos rfl] at nc
  rw [call_eq l_tightest rfl]
  show gcX false h (evS (pg.cfg (k + 4)) b_tightest [some (pD n B), some (.int a), some (.int b), none, none, none, none] h).call = _
  unfold b_tightest
  rw [seq_nx (ls1 := [some (pD n B), some (.int a), some (.int b), none, none, none, none]) (h1 := h) (by simp [nc])]
  have c1 : evT (pg.cfg (k + 4)) (.or (.not (.chain .LtE .Lt (.cst (.int 0)) (.var 1) (.idx (.var 0) (.cst (.int 0))))) (.not (.chain .LtE .Lt (.cst (.int 0)) (.var 2) (.idx (.var 0) (.cst (.int 0)))))) [some (pD n B), some (.int a), some (.int b), none, none, none, none] h = .ok true h := by
    by_cases a0 : 0 ≤ a
    · by_cases a1 : a < n
      · by_cases b0 : 0 ≤ b
        · by_cases b1 : b < n
          · rcases hab with z | z
            · exact absurd ⟨a0, a1⟩ z
            · exact absurd ⟨b0, b1⟩ z
          · simp [a0, a1, b0, b1]
        · simp [a0, a1, b0]
      · simp [a0, a1]
    · simp [a0]
  rw [evS_scons, evS_ite, c1]
  simp only [andS_ok, if_true]
  have e : evS (pg.cfg (k + 4)) (.scons (.raise "InputError" (.acons (.cst (.str "number")) .anil)) .snil) [some (pD n B), some (.int a), some (.int b), none, none, none, none] h = .exc "InputError" [("code", .str "number")] [some (pD n B), some (.int a), some (.int b), none, none, none, none] h := by simp [raiseR, number_len]
  rw [e, andN_exc, call_exc, gcX_exc]
theorem tight_c1 {a b : Nat} (ha : a < n) (hb : b < n) {s3 s4 s5 s6 : Option FL.D} : evT (pg.cfg k) (.or (.not (.chain .LtE .Lt (.cst (.int 0)) (.var 1) (.idx (.var 0) (.cst (.int 0))))) (.not (.chain .LtE .Lt (.cst (.int 0)) (.var 2) (.idx (.var 0) (.cst (.int 0)))))) [some (pD n B), some (.int a), some (.int b), s3, s4, s5, s6] h = .ok false h := by
  have a0 : (0 : Int) ≤ a := by omega
  have b0 : (0 : Int) ≤ b := by omega
  simp [ha, hb]
theorem tight_same {a : Nat} (ok : V.okB n B) (ns : ∀ e ∈ B, e.1 ≠ e.2.1) (hn : n ≤ 100) (hz : B.length ≤ 1000) (hh : hasB B = true) (ha : a < n) : gcX false h (pg.call (k + 5) "tightest" [pD n B, .int a, .int a] h) = .ok (.tup [.int 0, .tup []]) h := by
  have z2 : 2 ≤ sizeLine := by rw [size_big]; omega
  have nc := need_call (k := k) (h := h) ok ns hn hz
  rw [hh, if_pos rfl] at nc
  rw [call_eq l_tightest rfl]
  show gcX false h (evS (pg.cfg (k + 4)) b_tightest [some (pD n B), some (.int a), some (.int a), none, none, none, none] h).call = _
  unfold b_tightest
  rw [seq_nx (ls1 := [some (pD n B), some (.int a), some (.int a), none, none, none, none]) (h1 := h) (by simp [nc])]
  rw [seq_nx (ls1 := [some (pD n B), some (.int a), some (.int a), none, none, none, none]) (h1 := h) (by rw [evS_ite, tight_c1 ha ha]; simp)]
  rw [seq_rt (d := .tup [.int 0, .tup []]) (h1 := h) (by simp [z2])]
  exact gcX_flat0 (by simp)
theorem tight_two {a b : Nat} (ok : V.okB n B) (ns : ∀ e ∈ B, e.1 ≠ e.2.1) (hn : n ≤ 100) (hz : B.length ≤ 1000) (hh : hasB B = true) (ha : a < n) (hb : b < n) (hab : a ≠ b) : (T_ B n a b = none ∧ gcX false h (pg.call (k + 5) "tightest" [pD n B, .int a, .int b] h) = .ok .non h) ∨ ∃ t ks, T_ B n a b = some t ∧ Leads B a b t ks ∧ gcX false h (pg.call (k + 5) "tightest" [pD n B, .int a, .int b] h) = .ok (.tup [.int t, .tup (ks.map fun m : Nat => FL.D.int m)]) h := by
  have z2 : 2 ≤ sizeLine := by rw [size_big]; omega
  have hN := hasB_iff.mp hh
  have nc := need_call (k := k) (h := h) ok ns hn hz
  rw [hh, if_pos rfl] at nc
  obtain ⟨T, hT, hc, er⟩ := reached_call (k := k + 1) (h := h) ok ns hn hz hN hb
  have er : gcX false h (pg.call (k + 4) "reached_from" [pD n B, .int b] h) = _ := er
  have tb : ∀ x, x < n → (V.st B (oneI b) (T * B.length)).N x = T_ B n x b := fun x hx => (st_isD ok hc x).uniq (T_isD ok hN hx hb)
  have nb := at_start ok hN hc
  have nev := never (B := B) (i := oneI b) (T * B.length)
  have bk := fun (hB : B ≠ []) a => back (B := B) (i := oneI b) (T := T * B.length) (a := a) hB ns hc
  have ule : ∀ x, (V.st B (oneI b) (T * B.length)).u x ≤ T * B.length := fun x => by
    by_cases hB : B = []
    · subst hB; rw [List.length_nil, Nat.mul_zero]; exact Nat.le_refl _
    · exact (iv (i := oneI b) hB ns (T * B.length)).lt x
  have hTB : T * B.length ≤ 101 * 1000 := Nat.mul_le_mul (by omega) hz
  have u0 : B = [] → ∀ x, (V.st B (oneI b) (T * B.length)).u x = 0 := fun hB x => by have := ule x; rw [hB, List.length_nil, Nat.mul_zero] at this; rw [hB, List.length_nil, Nat.mul_zero]; omega
  generalize V.st B (oneI b) (T * B.length) = s at *
  have neq : ¬ ((a : Int) = (b : Int)) := by omega
  have main : (T_ B n a b = none ∧ evS (pg.cfg (k + 4)) b_tightest [some (pD n B), some (.int a), some (.int b), none, none, none, none] h = .rt .non h) ∨ ∃ t ks, T_ B n a b = some t ∧ Leads B a b t ks ∧ evS (pg.cfg (k + 4)) b_tightest [some (pD n B), some (.int a), some (.int b), none, none, none, none] h = .rt (.tup [.int t, .tup (ks.map fun m : Nat => FL.D.int m)]) (h ++ [.lst (ks.map fun m : Nat => FL.D.int m)]) := by
    unfold b_tightest
    rw [seq_nx (ls1 := [some (pD n B), some (.int a), some (.int b), none, none, none, none]) (h1 := h) (by simp [nc])]
    rw [seq_nx (ls1 := [some (pD n B), some (.int a), some (.int b), none, none, none, none]) (h1 := h) (by rw [evS_ite, tight_c1 ha hb]; simp)]
    rw [seq_nx (ls1 := [some (pD n B), some (.int a), some (.int b), none, none, none, none]) (h1 := h) (by simp [neq])]
    rw [seq_nx (ls1 := [some (pD n B), some (.int a), some (.int b), none, none, some (.fl (nums n s.N)), some (.fl (lasts n s.P))]) (h1 := h) (by simp [er])]
    have na := at_nums (N := s.N) ha
    cases hTa : T_ B n a b with
    | none =>
      refine .inl ⟨rfl, seq_rt ?_⟩
      rw [tb a ha, hTa] at na
      simp [na, co, isNon]
    | some t =>
      right
      rw [tb a ha, hTa] at na
      rw [seq_nx (ls1 := [some (pD n B), some (.int a), some (.int b), none, none, some (.fl (nums n s.N)), some (.fl (lasts n s.P))]) (h1 := h) (by simp [na, co, isNon])]
      rw [seq_nx (ls1 := [some (pD n B), some (.int a), some (.int b), some (.loc h.length), none, some (.fl (nums n s.N)), some (.fl (lasts n s.P))]) (h1 := h ++ [.lst []]) (by simp [newL])]
      rw [seq_nx (ls1 := [some (pD n B), some (.int a), some (.int b), some (.loc h.length), some (.int a), some (.fl (nums n s.N)), some (.fl (lasts n s.P))]) (h1 := h ++ [.lst []]) (by simp)]
      have W : ∃ ks, Leads B a b t ks ∧ evS (pg.cfg (k + 4)) (.while_ (.cmp .NotEq (.var 4) (.var 2)) (.scons (.expr (.bmeth .append (.var 3) (.acons (.idx (.var 6) (.var 4)) .anil))) (.scons (.asg (.tgt (.name 4)) (.idx (.idx (.idx (.var 0) (.cst (.int 1))) (.idx (.var 6) (.var 4))) (.cst (.int 1)))) .snil)) []) [some (pD n B), some (.int a), some (.int b), some (.loc h.length), some (.int a), some (.fl (nums n s.N)), some (.fl (lasts n s.P))] (h ++ [.lst []]) = .nx [some (pD n B), some (.int a), some (.int b), some (.loc h.length), some (.int b), some (.fl (nums n s.N)), some (.fl (lasts n s.P))] (h ++ [.lst (ks.map fun m : Nat => FL.D.int m)]) := by
        rw [ev_while]
        generalize hr2 : whileL _ _ _ _ _ _ = q2
        let Qp : RS → Prop := fun r => ∃ ks, Leads B a b t ks ∧ r = .nx [some (pD n B), some (.int a), some (.int b), some (.loc h.length), some (.int b), some (.fl (nums n s.N)), some (.fl (lasts n s.P))] (h ++ [.lst (ks.map fun m : Nat => FL.D.int m)])
        have hQ : Qp q2 := by
          rw [← hr2]
          refine while_inv (fun w ls h' => ∃ (x : Nat) (y : Int) (ks : List Nat), x < n ∧ s.N x = some y ∧ (∀ m ∈ ks, m < B.length) ∧ V.wk a x (ks.map (bdm B)) ∧ V.wt (ks.map (bdm B)) + y = t ∧ ks.length + s.u x ≤ s.u a ∧ w = s.u x ∧ ls = [some (pD n B), some (.int a), some (.int b), some (.loc h.length), some (.int x), some (.fl (nums n s.N)), some (.fl (lasts n s.P))] ∧ h' = h ++ [.lst (ks.map fun m : Nat => FL.D.int m)]) Qp ?_ (s.u a) _ _ _ ⟨a, t, [], ha, by rw [tb a ha, hTa], by simp, rfl, by show (0 : Int) + t = t; omega, by simp, rfl, rfl, by simp⟩ (by have := ule a; show s.u a < 1000000000; omega)
          rintro w ls h' ⟨x, y, ks, hx, hy, kl, kw, kt, ku, rfl, rfl, rfl⟩
          by_cases hxb : x = b
          · subst hxb
            rw [nb] at hy
            cases hy
            exact .inl ⟨_, by simp, ks, ⟨kl, kw, by omega, by have := ule a; omega⟩, rfl⟩
          · have hux : s.u x ≠ 0 := fun z => by
              have := nev x z
              rw [hy] at this
              simp [oneI, hxb] at this
            have hB : B ≠ [] := fun z => hux (u0 z x)
            obtain ⟨x', y', g1, g2, g3, g4, g5, g6⟩ := bk hB x hux
            rw [hy] at g1
            cases g1
            have hm := num_lt (s := s) (a := x) hB
            have hbd : bdm B (num B s x) = bat B (s.u x - 1) := rfl
            have la := at_lasts (P := s.P) hx
            rw [g5] at la
            have la : L2.atI (lasts n s.P) (x : Int) = some (.int (num B s x : Nat)) := la
            have ib := num_bD (s := s) (a := x) hB
            have hpx : pv B s x < n := (ok _ (bat_mem hB _)).2
            have zz : ks.length < sizeLine := by have := ule a; rw [size_big]; omega
            have hne : ¬ ((x : Int) = (b : Int)) := by omega
            refine .inr ⟨h ++ [.lst (ks.map fun m : Nat => FL.D.int m)], by simp [hne], .inl ⟨_, h ++ [.lst ((ks ++ [num B s x]).map fun m : Nat => FL.D.int m)], s.u (pv B s x), .inl (?_ : _ = RS.nx [some (pD n B), some (.int a), some (.int b), some (.loc h.length), some (.int (pv B s x : Nat)), some (.fl (nums n s.N)), some (.fl (lasts n s.P))] (h ++ [.lst ((ks ++ [num B s x]).map fun m : Nat => FL.D.int m)])), g6, pv B s x, y', ks ++ [num B s x], hpx, g2, ?_, ?_, ?_, ?_, rfl, by simp [wipe], rfl⟩⟩
            · rw [seq_nx (ls1 := [some (pD n B), some (.int a), some (.int b), some (.loc h.length), some (.int (x : Nat)), some (.fl (nums n s.N)), some (.fl (lasts n s.P))]) (h1 := h ++ [.lst ((ks ++ [num B s x]).map fun m : Nat => FL.D.int m)]) (by simp [la, zz])]
              simp [la, ib]
              rfl
            · intro m hm2
              rcases List.mem_append.mp hm2 with hm2 | hm2
              · exact kl m hm2
              · rw [List.mem_singleton.mp hm2]; exact hm
            · rw [List.map_append]
              exact wk_app kw ⟨g4, rfl⟩
            · rw [List.map_append, wt_app]
              have : V.wt ([num B s x].map (bdm B)) = (bat B (s.u x - 1)).2.2 := by simp [V.wt, hbd]
              omega
            · rw [List.length_append, List.length_singleton]; omega
        exact hQ
      obtain ⟨ks, L, W⟩ := W
      refine ⟨t, ks, rfl, L, ?_⟩
      rw [seq_nx W]
      have tl := tuple_loc (m := false) (h := h ++ [.lst (ks.map fun m : Nat => FL.D.int m)]) (n := h.length) (xs := ks.map fun m : Nat => FL.D.int m) (lstAt_of (by simp))
      refine seq_rt ?_
      simp [na, co, tl, z2]
  rw [call_eq l_tightest rfl]
  show (T_ B n a b = none ∧ gcX false h (evS (pg.cfg (k + 4)) b_tightest [some (pD n B), some (.int a), some (.int b), none, none, none, none] h).call = .ok .non h) ∨ ∃ t ks, T_ B n a b = some t ∧ Leads B a b t ks ∧ gcX false h (evS (pg.cfg (k + 4)) b_tightest [some (pD n B), some (.int a), some (.int b), none, none, none, none] h).call = .ok (.tup [.int t, .tup (ks.map fun m : Nat => FL.D.int m)]) h
  rcases main with ⟨h1, e⟩ | ⟨t, ks, h1, h2, e⟩
  · exact .inl ⟨h1, by rw [e]; exact gcX_flat0 flat_non⟩
  · refine .inr ⟨t, ks, h1, h2, ?_⟩
    rw [e]
    exact gcX_flat (by simp; exact flatL_map _ _ fun _ _ => flat_int _)
end
end FL.L
set_option autoImplicit false
set_option linter.all false
set_option maxRecDepth 100000
set_option maxHeartbeats 4000000
namespace FL.L
open PySem FL FL.V FL.C
section
variable {k : Nat} {h : Hs} {n : Nat} {B : List Bd}
theorem told_ok {d x y : FL.D} (hd : d.flat = true) (e : gcX false h (pg.call k "tightest" [pD n B, x, y] h) = .ok d h) : gcX false h (pg.call (k + 1) "_law_told" [pD n B, x, y] h) = .ok d h := by
  rw [call_eq l__law_told rfl]
  show gcX false h (evS (pg.cfg k) b__law_told [some (pD n B), some x, some y, none] h).call = _
  unfold b__law_told
  simp [e]
  exact gcX_flat0 hd
theorem told_exc {s : Str} {x y : FL.D} (e : gcX false h (pg.call k "tightest" [pD n B, x, y] h) = .exc "InputError" [("code", .str s)] h) : gcX false h (pg.call (k + 1) "_law_told" [pD n B, x, y] h) = .ok (.str s) h := by
  rw [call_eq l__law_told rfl]
  show gcX false h (evS (pg.cfg k) b__law_told [some (pD n B), some x, some y, none] h).call = _
  unfold b__law_told
  rw [evS_scons, evS_try_]
  have e : evS (pg.cfg k) (.scons (.ret (.call false "tightest" (.acons (.var 0) (.acons (.var 1) (.acons (.var 2) .anil))))) .snil) [some (pD n B), some x, some y, none] h = .exc "InputError" [("code", .str s)] [some (pD n B), some x, some y, none] h := by simp [e]
  rw [e, catchR_hit (by simp), andN_rt, call_rt]
  exact gcX_str _ _ _
theorem leads_call {a b : Nat} {t : Int} {ks : List Nat} (L : Leads B a b t ks) : gcX false h (pg.call (k + 1) "_law_leads" [pD n B, .tup (ks.map fun m : Nat => FL.D.int m), .int a, .int b] h) = .ok (.int t) h := by
  obtain ⟨kl, kw, kt, kz⟩ := L
  rw [call_eq l__law_leads rfl]
  show gcX false h (evS (pg.cfg k) b__law_leads [some (pD n B), some (.tup (ks.map fun m : Nat => FL.D.int m)), some (.int a), some (.int b), none, none, none, none, none, none] h).call = _
  unfold b__law_leads
  rw [seq_nx (ls1 := [some (pD n B), some (.tup (ks.map fun m : Nat => FL.D.int m)), some (.int a), some (.int b), some (.int a), none, none, none, none, none]) (h1 := h) (by simp)]
  rw [seq_nx (ls1 := [some (pD n B), some (.tup (ks.map fun m : Nat => FL.D.int m)), some (.int a), some (.int b), some (.int a), some (.int 0), none, none, none, none]) (h1 := h) (by simp)]
  have S : evS (pg.cfg k) (.for_ (.name 6) (.iseq (.var 1)) (.scons (.asg (.tgt (.tup (.tcons (.name 7) (.tcons (.name 8) (.tcons (.name 9) .tnil))))) (.idx (.idx (.var 0) (.cst (.int 1))) (.var 6))) (.scons (.ite (.cmp .NotEq (.var 7) (.var 4)) (.scons (.ret (.cst .non)) .snil) .snil) (.scons (.asg (.tgt (.name 4)) (.var 8)) (.scons (.asg (.tgt (.name 5)) (.bin false .Add (.var 5) (.var 9))) .snil)))) [6, 7, 8, 9]) [some (pD n B), some (.tup (ks.map fun m : Nat => FL.D.int m)), some (.int a), some (.int b), some (.int a), some (.int 0), none, none, none, none] h = .nx [some (pD n B), some (.tup (ks.map fun m : Nat => FL.D.int m)), some (.int a), some (.int b), some (.int b), some (.int t), none, none, none, none] h := by
    rw [ev_for]
    simp only [evI_iseq, ev_var, List.getElem?_cons_succ, List.getElem?_cons_zero, R.bind_ok, itemsK_tup, Option.map_some, ofO_some, andS_ok]
    generalize hr : forL _ _ _ _ _ _ _ = q
    obtain ⟨ls1, h1, rfl, x, hw, rfl, e⟩ := for_then (en := fun m : Nat => FL.D.int m) (fun (ds : List Nat) ls h' => ∃ x : Nat, V.wk a x (ds.map (bdm B)) ∧ ls = [some (pD n B), some (.tup (ks.map fun m : Nat => FL.D.int m)), some (.int a), some (.int b), some (.int x), some (.int (V.wt (ds.map (bdm B)))), none, none, none, none] ∧ h' = h) hr ⟨a, rfl, rfl, rfl⟩ (by
      rintro m ds rest _ _ ⟨x, hw, rfl, rfl⟩ hx
      have hm := kl m (by rw [hx]; simp)
      have ib := bD_at hm
      have ib : L2.atI (B.map bD) (m : Int) = some (bD (bdm B m)) := ib
      have hk := kw
      rw [hx, List.map_append, List.map_cons] at hk
      obtain ⟨w1, w2⟩ := wk_split hk
      have hxe : (bdm B m).1 = x := by
        have uniq : ∀ {es : List Bd} {a x y : Nat}, V.wk a x es → V.wk a y es → x = y := by
          intro es
          induction es with
          | nil => intro a x y h1 h2; exact h1.symm.trans h2
          | cons e es ih => intro a x y h1 h2; exact ih h1.2 h2.2
        exact uniq w1 hw
      have hwt : V.wt ((ds ++ [m]).map (bdm B)) = V.wt (ds.map (bdm B)) + (bdm B m).2.2 := by
        rw [List.map_append, wt_app]
        congr 1
        simp [V.wt]
      have hwk : V.wk a (bdm B m).2.1 ((ds ++ [m]).map (bdm B)) := by
        rw [List.map_append]
        exact wk_app hw ⟨hxe, rfl⟩
      generalize bdm B m = e at *
      obtain ⟨p, q, c⟩ := e
      simp only at hxe hwk hwt
      subst hxe
      refine ⟨[some (pD n B), some (.tup (ks.map fun m : Nat => FL.D.int m)), some (.int a), some (.int b), some (.int q), some (.int (V.wt ((ds ++ [m]).map (bdm B)))), some (.int m), some (.int p), some (.int q), some (.int c)], _, ?_, same_refl _ _, q, hwk, by simp [wipe], rfl⟩
      rw [hwt]
      have ea : asgT (.name 6) (.int (m : Nat)) [some (pD n B), some (.tup (ks.map fun m : Nat => FL.D.int m)), some (.int a), some (.int b), some (.int p), some (.int (V.wt (ds.map (bdm B)))), none, none, none, none] = some [some (pD n B), some (.tup (ks.map fun m : Nat => FL.D.int m)), some (.int a), some (.int b), some (.int p), some (.int (V.wt (ds.map (bdm B)))), some (.int (m : Nat)), none, none, none] := by simp
      rw [stp_def, ea]
      simp [ib])
    subst e
    have uniq : x = b := by
      have uniq : ∀ {es : List Bd} {a x y : Nat}, V.wk a x es → V.wk a y es → x = y := by
        intro es
        induction es with
        | nil => intro a x y h1 h2; exact h1.symm.trans h2
        | cons e es ih => intro a x y h1 h2; exact ih h1.2 h2.2
      exact uniq hw kw
    subst uniq
    rw [kt]
  rw [seq_nx S]
  rw [seq_rt (d := .int t) (h1 := h) (by simp)]
  exact gcX_int _ _ _
/-! ### follows_bound -/
theorem ok_ad {a b : Nat} {c : Int} (ok : V.okB n B) (ha : a < n) (hb : b < n) : V.okB n (B ++ [(b, a, c)]) := by
  intro e he
  rcases List.mem_append.mp he with he | he
  · exact ok e he
  · rw [List.mem_singleton.mp he]; exact ⟨hb, ha⟩
theorem follows_call {a b : Nat} {c : Int} (ok : V.okB n B) (ns : ∀ e ∈ B, e.1 ≠ e.2.1) (hn : n ≤ 100) (hz : B.length ≤ 500) (hh : hasB B = true) (ha : a < n) (hb : b < n) (hab : a ≠ b) : (∃ t ks, T_ B n a b = some t ∧ t ≤ c ∧ Leads B a b t ks ∧ gcX false h (pg.call (k + 6) "follows_bound" [pD n B, .tup [.int a, .int b, .int c]] h) = .ok (.tup [.str "yes", .tup (ks.map fun m : Nat => FL.D.int m)]) h) ∨ ((∀ t, T_ B n a b = some t → c < t) ∧ ∃ x : List Int, x.length = n ∧ fitB B x = true ∧ c < x.getD a 0 - x.getD b 0 ∧ gcX false h (pg.call (k + 6) "follows_bound" [pD n B, .tup [.int a, .int b, .int c]] h) = .ok (.tup [.str "no", .tup (x.map .int)]) h) := by
  have z1 : 1 ≤ sizeLine := by rw [size_big]; omega
  have z2 : 2 ≤ sizeLine := by rw [size_big]; omega
  have z3 : 3 ≤ sizeLine := by rw [size_big]; omega
  have zB : B.length + 1 ≤ sizeLine := by rw [size_big]; omega
  have no : (∀ t, T_ B n a b = some t → c < t) → ∃ x : List Int, x.length = n ∧ fitB B x = true ∧ c < x.getD a 0 - x.getD b 0 ∧ gcX false h (pg.call (k + 5) "solve_differences" [pD n (B ++ [(b, a, -c - 1)])] h) = .ok (.tup [.str "numbers", .tup (x.map .int)]) h := by
    intro ht
    have okA := ok_ad (c := -c - 1) ok ha hb
    have nsA : ∀ e ∈ B ++ [(b, a, -c - 1)], e.1 ≠ e.2.1 := by
      intro e he
      rcases List.mem_append.mp he with he | he
      · exact ns e he
      · rw [List.mem_singleton.mp he]; exact (Ne.symm hab)
    have hNA : ¬ NegC (B ++ [(b, a, -c - 1)]) := by
      have := neg_put (p := B) (q := []) (a := b) (b := a) (c := -c - 1) (by simpa using hasB_iff.mp hh) (o := T_ B n a b) (by simpa using T_isD ok (hasB_iff.mp hh) ha hb)
      rw [this]
      rintro ⟨t, e, hl⟩
      have := ht t e
      omega
    obtain ⟨d, e, hd⟩ := solve_call (k := k + 2) (h := h) okA nsA hn (by simp; omega)
    rcases hd with ⟨t, hc, rfl⟩ | ⟨ks, hN, _, _⟩
    · have hf := zero_fit hc
      have hv : ∀ x, ∃ y, (V.st (B ++ [(b, a, -c - 1)]) (fun _ => some 0) (t * (B ++ [(b, a, -c - 1)]).length)).N x = some y := fun x => by
        obtain ⟨y, hy, _⟩ := all_zero (B := B ++ [(b, a, -c - 1)]) (t * (B ++ [(b, a, -c - 1)]).length) x
        exact ⟨y, hy⟩
      generalize V.st (B ++ [(b, a, -c - 1)]) (fun _ => some 0) (t * (B ++ [(b, a, -c - 1)]).length) = s at *
      have gd : ∀ x, x < n → ((List.range n).map fun x => (s.N x).getD 0).getD x 0 = (s.N x).getD 0 := fun x hx => by
        rw [List.getD_eq_getElem?_getD, List.getElem?_map, List.getElem?_range hx]; rfl
      refine ⟨(List.range n).map fun x => (s.N x).getD 0, by simp, ?_, ?_, ?_⟩
      · unfold fitB
        rw [List.all_eq_true]
        intro e he
        obtain ⟨o1, o2⟩ := ok e he
        rw [gd _ o1, gd _ o2, decide_eq_true_eq]
        exact hf e (List.mem_append_left _ he)
      · rw [gd _ ha, gd _ hb]
        have := hf (b, a, -c - 1) (by simp)
        simp only at this
        omega
      · have : nums n s.N = ((List.range n).map fun x => (s.N x).getD 0).map .int := by
          unfold nums
          rw [List.map_map]
          refine List.map_congr_left fun x _ => ?_
          obtain ⟨y, hy⟩ := hv x
          rw [Function.comp, hy]; rfl
        rw [← this]
        exact e
    · exact absurd hN hNA
  have body : gcX false h (pg.call (k + 6) "follows_bound" [pD n B, .tup [.int a, .int b, .int c]] h) = gcX false h (evS (pg.cfg (k + 5)) b_follows_bound [some (pD n B), some (.tup [.int a, .int b, .int c]), none, none, none, none] h).call := by
    rw [call_eq l_follows_bound rfl]; rfl
  have S0 : evS (pg.cfg (k + 5)) (.asg (.tgt (.tup (.tcons (.name 3) (.tcons (.name 4) (.tcons (.name 5) .tnil))))) (.var 1)) [some (pD n B), some (.tup [.int a, .int b, .int c]), none, none, none, none] h = .nx [some (pD n B), some (.tup [.int a, .int b, .int c]), none, some (.int a), some (.int b), some (.int c)] h := by simp
  have noE : ∀ f : Option FL.D, (∀ t, T_ B n a b = some t → c < t) → ∃ x : List Int, x.length = n ∧ fitB B x = true ∧ c < x.getD a 0 - x.getD b 0 ∧ evS (pg.cfg (k + 5)) (.scons (.ret (.tup (.acons (.cst (.str "no")) (.acons (.idx (.call false "solve_differences" (.acons (.tup (.acons (.idx (.var 0) (.cst (.int 0))) (.acons (.bin false .Add (.idx (.var 0) (.cst (.int 1))) (.tup (.acons (.tup (.acons (.var 4) (.acons (.var 3) (.acons (.bin false .Sub (.neg (.var 5)) (.cst (.int 1))) .anil)))) .anil))) .anil))) .anil)) (.cst (.int 1))) .anil)))) .snil) [some (pD n B), some (.tup [.int a, .int b, .int c]), f, some (.int a), some (.int b), some (.int c)] h = .rt (.tup [.str "no", .tup (x.map .int)]) h := by
    intro f ht
    obtain ⟨x, x1, x2, x3, e⟩ := no ht
    refine ⟨x, x1, x2, x3, seq_rt ?_⟩
    have e6 : pD n (B ++ [(b, a, -c - 1)]) = .tup [.int n, .tup (B.map bD ++ [.tup [.int b, .int a, .int (-c - 1)]])] := by simp
    rw [e6] at e
    simp [e, z1, z2, z3, zB]
  rw [body]
  unfold b_follows_bound
  rw [seq_nx S0]
  rcases tight_two (k := k) (h := h) ok ns hn (by omega) hh ha hb hab with ⟨h1, e⟩ | ⟨t, ks, h1, h2, e⟩
  · right
    refine ⟨fun t ht => (by rw [h1] at ht; cases ht), ?_⟩
    obtain ⟨x, x1, x2, x3, ex⟩ := noE (some .non) (fun t ht => by rw [h1] at ht; cases ht)
    refine ⟨x, x1, x2, x3, ?_⟩
    rw [seq_nx (ls1 := [some (pD n B), some (.tup [.int a, .int b, .int c]), some .non, some (.int a), some (.int b), some (.int c)]) (h1 := h) (by simp [e])]
    rw [seq_nx (ls1 := [some (pD n B), some (.tup [.int a, .int b, .int c]), some .non, some (.int a), some (.int b), some (.int c)]) (h1 := h) (by simp [isNon])]
    rw [ex]
    exact gcX_flat0 (by simp)
  · rw [seq_nx (ls1 := [some (pD n B), some (.tup [.int a, .int b, .int c]), some (.tup [.int t, .tup (ks.map fun m : Nat => FL.D.int m)]), some (.int a), some (.int b), some (.int c)]) (h1 := h) (by simp [e])]
    by_cases htc : t ≤ c
    · left
      refine ⟨t, ks, h1, htc, h2, ?_⟩
      rw [seq_rt (d := .tup [.str "yes", .tup (ks.map fun m : Nat => FL.D.int m)]) (h1 := h) (by simp [isNon, htc, z2])]
      exact gcX_flat0 (by simp; exact flatL_map _ _ fun _ _ => flat_int _)
    · right
      have ht : ∀ t', T_ B n a b = some t' → c < t' := fun t' e => by rw [h1] at e; cases e; omega
      obtain ⟨x, x1, x2, x3, ex⟩ := noE (some (.tup [.int t, .tup (ks.map fun m : Nat => FL.D.int m)])) ht
      refine ⟨ht, x, x1, x2, x3, ?_⟩
      rw [seq_nx (ls1 := [some (pD n B), some (.tup [.int a, .int b, .int c]), some (.tup [.int t, .tup (ks.map fun m : Nat => FL.D.int m)]), some (.int a), some (.int b), some (.int c)]) (h1 := h) (by simp [isNon, htc])]
      rw [ex]
      exact gcX_flat0 (by simp)
end
end FL.L
set_option autoImplicit false
set_option linter.all false
set_option maxRecDepth 100000
set_option maxHeartbeats 4000000
namespace FL.L
open PySem FL FL.V FL.C
section
variable {k : Nat} {F Z : Cell} {st : List FL.D}
theorem bounds_call (hs : DSt st) : ∃ (n : Nat) (B : List Bd) (st' : List FL.D), DSt st' ∧ 2 ≤ n ∧ n ≤ 5 ∧ V.okB n B ∧ (∀ e ∈ B, e.1 ≠ e.2.1) ∧ B.length ≤ 9 ∧ (∀ e ∈ B, -3 ≤ e.2.2) ∧ gcX false [F, .lst st, Z] (pg.call (k + 2) "_law_bounds" [.loc 1, .int 5, .int 9] [F, .lst st, Z]) = .ok (pD n B) [F, .lst st', Z] := by
  have z3 : 3 ≤ sizeLine := by rw [size_big]; omega
  have z2 : 2 ≤ sizeLine := by rw [size_big]; omega
  obtain ⟨z, st1, z0, z1, hs1, e1⟩ := take_ok (P := pg) (k := k) (F := F) (g := [Z]) l__law_take hs (many := 4) (by omega) (by omega)
  obtain ⟨y, st2, y0, y1, hs2, e2⟩ := take_ok (P := pg) (k := k) (F := F) (g := [Z, .lst []]) l__law_take hs1 (many := 10) (by omega) (by omega)
  obtain ⟨n, hn, n1, n5⟩ : ∃ n : Nat, 2 + z = (n : Int) ∧ 2 ≤ n ∧ n ≤ 5 := ⟨(2 + z).toNat, by omega, by omega, by omega⟩
  obtain ⟨q, rfl, q9⟩ : ∃ q : Nat, y = (q : Int) ∧ q ≤ 9 := ⟨y.toNat, by omega, by omega⟩
  have sm : small (q : Int) := by unfold small; omega
  rw [call_eq l__law_bounds rfl]
  show ∃ (n : Nat) (B : List Bd) (st' : List FL.D), DSt st' ∧ 2 ≤ n ∧ n ≤ 5 ∧ V.okB n B ∧ (∀ e ∈ B, e.1 ≠ e.2.1) ∧ B.length ≤ 9 ∧ (∀ e ∈ B, -3 ≤ e.2.2) ∧ gcX false [F, .lst st, Z] (evS (pg.cfg (k + 1)) b__law_bounds [some (.loc 1), some (.int 5), some (.int 9), none, none, none, none, none] [F, .lst st, Z]).call = .ok (pD n B) [F, .lst st', Z]
  unfold b__law_bounds
  have S1 : evS (pg.cfg (k + 1)) (.asg (.tgt (.name 3)) (.bin false .Add (.cst (.int 2)) (.call false "_law_take" (.acons (.var 0) (.acons (.bin false .Sub (.var 1) (.cst (.int 1))) .anil))))) [some (.loc 1), some (.int 5), some (.int 9), none, none, none, none, none] [F, .lst st, Z] = .nx [some (.loc 1), some (.int 5), some (.int 9), some (.int n), none, none, none, none] [F, .lst st1, Z] := by
    simp [e1, hn]
  rw [seq_nx S1]
  rw [seq_nx (ls1 := [some (.loc 1), some (.int 5), some (.int 9), some (.int n), some (.loc 3), none, none, none]) (h1 := [F, .lst st1, Z, .lst []]) (by simp [newL])]
  have S3 : ∃ (B : List Bd) (st' : List FL.D), DSt st' ∧ V.okB n B ∧ (∀ e ∈ B, e.1 ≠ e.2.1) ∧ B.length ≤ 9 ∧ (∀ e ∈ B, -3 ≤ e.2.2) ∧ evS (pg.cfg (k + 1)) (.for_ (.name 5) (.irange (.acons (.call false "_law_take" (.acons (.var 0) (.acons (.bin false .Add (.var 2) (.cst (.int 1))) .anil))) .anil)) (.scons (.asg (.tgt (.name 6)) (.call false "_law_take" (.acons (.var 0) (.acons (.var 3) .anil))))
  (.scons (.asg (.tgt (.name 7)) (.call false "_law_take" (.acons (.var 0) (.acons (.bin false .Sub (.var 3) (.cst (.int 1))) .anil))))
  (.scons (.expr (.bmeth .append (.var 4) (.acons (.tup (.acons (.var 6) (.acons (.ite (.cmp .Lt (.var 7) (.var 6)) (.var 7) (.bin false .Add (.var 7) (.cst (.int 1)))) (.acons (.bin false .Sub (.call false "_law_take" (.acons (.var 0) (.acons (.cst (.int 9)) .anil))) (.cst (.int 3))) .anil)))) .anil)))
  .snil))) [5, 6, 7]) [some (.loc 1), some (.int 5), some (.int 9), some (.int n), some (.loc 3), none, none, none] [F, .lst st1, Z, .lst []] = .nx [some (.loc 1), some (.int 5), some (.int 9), some (.int n), some (.loc 3), none, none, none] [F, .lst st', Z, .lst (B.map bD)] := by
    rw [ev_for]
    simp [e2, sm, rangeD_nat]
    generalize hr : forL _ _ _ _ _ _ _ = r
    obtain ⟨ls1, h1, rfl, B, st', hs', ok, ns, zB, hK, rfl, rfl⟩ := for_then (en := fun m : Nat => FL.D.int m) (fun (ds : List Nat) ls h' => ∃ (B : List Bd) (st' : List FL.D), DSt st' ∧ V.okB n B ∧ (∀ e ∈ B, e.1 ≠ e.2.1) ∧ B.length = ds.length ∧ (∀ e ∈ B, -3 ≤ e.2.2) ∧ ls = [some (.loc 1), some (.int 5), some (.int 9), some (.int n), some (.loc 3), none, none, none] ∧ h' = [F, .lst st', Z, .lst (B.map bD)]) hr ⟨[], st2, hs2, by intro e he; simp at he, by simp, rfl, by simp, rfl, rfl⟩ (by
      rintro x ds rest _ _ ⟨B, st', hs', ok, ns, zB, hK, rfl, rfl⟩ hx
      have hd : ds.length < 10 := by have := congrArg List.length hx; simp at this; omega
      obtain ⟨a, sa, a0, a1, hsa, ea⟩ := take_ok (P := pg) (k := k) (F := F) (g := [Z, .lst (B.map bD)]) l__law_take hs' (many := (n : Int)) (by omega) (by omega)
      obtain ⟨b, sb, b0, b1, hsb, eb⟩ := take_ok (P := pg) (k := k) (F := F) (g := [Z, .lst (B.map bD)]) l__law_take hsa (many := (n : Int) - 1) (by omega) (by omega)
      obtain ⟨c, sc, c0, c1, hsc, ec⟩ := take_ok (P := pg) (k := k) (F := F) (g := [Z, .lst (B.map bD)]) l__law_take hsb (many := 9) (by omega) (by omega)
      obtain ⟨a, rfl⟩ : ∃ m : Nat, a = (m : Int) := ⟨a.toNat, by omega⟩
      obtain ⟨b, rfl⟩ : ∃ m : Nat, b = (m : Int) := ⟨b.toNat, by omega⟩
      have e0 : Bd := (0, 0, 0)
      have zz : B.length < sizeLine := by rw [size_big]; omega
      refine ⟨[some (.loc 1), some (.int 5), some (.int 9), some (.int n), some (.loc 3), some (.int x), some (.int a), some (.int b)], [F, .lst sc, Z, .lst ((B ++ [(a, (if b < a then b else b + 1), c - 3)]).map bD)], ?_, same_t _ _, B ++ [(a, (if b < a then b else b + 1), c - 3)], sc, hsc, ?_, ?_, by simp [zB], ?_, by simp [wipe], rfl⟩
      · have il : isLst [F, .lst sb, Z, .lst (B.map bD)] (.loc 3) = true := isLst_of (n := 3) rfl
        have ap : ∀ d : FL.D, bmD .append (.loc 3) [d] [F, .lst sc, Z, .lst (B.map bD)] = .ok .non [F, .lst sc, Z, .lst (B.map bD ++ [d])] := fun d => by
          rw [append_at (n := 3) (xs := B.map bD) rfl (by simpa using zz)]; rfl
        by_cases hba : b < a
        · simp [stp, ea, eb, ec, il, ap, hba, z3]
        · simp [stp, ea, eb, ec, il, ap, hba, z3]
      · intro e he
        rcases List.mem_append.mp he with he | he
        · exact ok e he
        · rw [List.mem_singleton.mp he]
          refine ⟨by show a < n; omega, ?_⟩
          show (if b < a then b else b + 1) < n
          split <;> omega
      · intro e he
        rcases List.mem_append.mp he with he | he
        · exact ns e he
        · rw [List.mem_singleton.mp he]
          show a ≠ (if b < a then b else b + 1)
          split <;> omega
      · intro e he
        rcases List.mem_append.mp he with he | he
        · exact hK e he
        · rw [List.mem_singleton.mp he]
          show -3 ≤ c - 3
          omega)
    rw [List.length_range] at zB
    exact ⟨B, st', hs', ok, fun a b c h => ns (a, b, c) h, by omega, fun a b c h => hK (a, b, c) h, rfl⟩
  obtain ⟨B, st', hs', ok, ns, zB, hK, S3⟩ := S3
  rw [seq_nx S3]
  refine ⟨n, B, st', hs', n1, n5, ok, ns, zB, hK, ?_⟩
  have tl := tuple_loc (m := false) (h := [F, .lst st', Z, .lst (B.map bD)]) (n := 3) (xs := B.map bD) (lstAt_of rfl)
  rw [seq_rt (d := pD n B) (h1 := [F, .lst st', Z, .lst (B.map bD)]) (by simp [tl, z2])]
  exact gcX_draw (m := false) (F := F) (st := st) (g := [Z]) (x := [.lst (B.map bD)]) hs' (by simp; exact flatL_map _ _ fun _ _ => by simp)
end
/-! ### the codes of wrong problems -/
abbrev T3 := Int × Int × Int
def bI (e : T3) : FL.D := .tup [.int e.1, .int e.2.1, .int e.2.2]
def pI (m : Int) (L : List T3) : FL.D := .tup [.int m, .tup (L.map bI)]
abbrev gdI (m : Int) (e : T3) : Prop := (0 ≤ e.1 ∧ e.1 < m) ∧ (0 ≤ e.2.1 ∧ e.2.1 < m) ∧ e.1 ≠ e.2.1
theorem many_len : ("many" : Str).length ≤ 1000 := by decide +kernel
theorem bounds_len : ("bounds" : Str).length ≤ 1000 := by decide +kernel
theorem bound_len : ("bound" : Str).length ≤ 1000 := by decide +kernel
section
variable {k : Nat} {h : Hs} {m : Int} {L : List T3}
theorem glob_N : (pg.cfg k).glob "MOST_NUMBERS" = some (.int 12) := by rw [cfg_glob]; rfl
theorem glob_B : (pg.cfg k).glob "MOST_BOUNDS" = some (.int 60) := by rw [cfg_glob]; rfl
theorem code_exc {s : Str} {p : FL.D} (e : gcX false h (pg.call k "check_differences" [p] h) = .exc "InputError" [("code", .str s)] h) : gcX false h (pg.call (k + 1) "_law_code" [p] h) = .ok (.str s) h := by
  rw [call_eq l__law_code rfl]
  show gcX false h (evS (pg.cfg k) b__law_code [some p, none] h).call = _
  unfold b__law_code
  rw [evS_scons, evS_try_]
  have e : evS (pg.cfg k) (.scons (.expr (.call false "check_differences" (.acons (.var 0) .anil))) .snil) [some p, none] h = .exc "InputError" [("code", .str s)] [some p, none] h := by simp [e]
  rw [e, catchR_hit (by simp), andN_rt, call_rt]
  exact gcX_str _ _ _
theorem code_ok {p : FL.D} (e : gcX false h (pg.call k "check_differences" [p] h) = .ok .non h) : gcX false h (pg.call (k + 1) "_law_code" [p] h) = .ok (.str "") h := by
  rw [call_eq l__law_code rfl]
  show gcX false h (evS (pg.cfg k) b__law_code [some p, none] h).call = _
  unfold b__law_code
  rw [seq_nx (ls1 := [some p, none]) (h1 := h) (by rw [evS_try_]; simp [e])]
  simp
theorem chk_many (hm : ¬ (1 ≤ m ∧ m ≤ 12)) : gcX false h (pg.call (k + 1) "check_differences" [pI m L] h) = .exc "InputError" [("code", .str "many")] h := by
  rw [call_eq l_check_differences rfl]
  show gcX false h (evS (pg.cfg k) b_check_differences [some (pI m L), none, none, none, none, none] h).call = _
  unfold b_check_differences
  rw [seq_nx (ls1 := [some (pI m L), some (.int m), some (.tup (L.map bI)), none, none, none]) (h1 := h) (by simp [pI])]
  have c : evT (pg.cfg k) (.not (.chain .LtE .LtE (.cst (.int 1)) (.var 1) (.glob "MOST_NUMBERS"))) [some (pI m L), some (.int m), some (.tup (L.map bI)), none, none, none] h = .ok true h := by
    have gn := glob_N (k := k)
    by_cases h1 : 1 ≤ m
    · have h2 : ¬ m ≤ 12 := fun z => hm ⟨h1, z⟩
      simp [gn, h1, h2]
    · simp [gn, h1]
  rw [evS_scons, evS_ite, c]
  simp only [andS_ok, if_true]
  have e : evS (pg.cfg k) (.scons (.raise "InputError" (.acons (.cst (.str "many")) .anil)) .snil) [some (pI m L), some (.int m), some (.tup (L.map bI)), none, none, none] h = .exc "InputError" [("code", .str "many")] [some (pI m L), some (.int m), some (.tup (L.map bI)), none, none, none] h := by simp [raiseR, many_len]
  rw [e, andN_exc, call_exc, gcX_exc]
theorem chk_c1 (h1 : 1 ≤ m) (h2 : m ≤ 12) {s0 s2 s3 s4 s5 : Option FL.D} : evT (pg.cfg k) (.not (.chain .LtE .LtE (.cst (.int 1)) (.var 1) (.glob "MOST_NUMBERS"))) [s0, some (.int m), s2, s3, s4, s5] h = .ok false h := by
  have gn := glob_N (k := k)
  simp [gn, h1, h2]
theorem chk_bounds (h1 : 1 ≤ m) (h2 : m ≤ 12) (hl : 60 < L.length) : gcX false h (pg.call (k + 1) "check_differences" [pI m L] h) = .exc "InputError" [("code", .str "bounds")] h := by
  have gn := glob_B (k := k)
  rw [call_eq l_check_differences rfl]
  show gcX false h (evS (pg.cfg k) b_check_differences [some (pI m L), none, none, none, none, none] h).call = _
  unfold b_check_differences
  rw [seq_nx (ls1 := [some (pI m L), some (.int m), some (.tup (L.map bI)), none, none, none]) (h1 := h) (by simp [pI])]
  rw [seq_nx (ls1 := [some (pI m L), some (.int m), some (.tup (L.map bI)), none, none, none]) (h1 := h) (by rw [evS_ite, chk_c1 h1 h2]; simp)]
  have c : evT (pg.cfg k) (.cmp .Gt (.bcall false .len (.acons (.var 2) .anil)) (.glob "MOST_BOUNDS")) [some (pI m L), some (.int m), some (.tup (L.map bI)), none, none, none] h = .ok true h := by
    simp [gn]; omega
  rw [evS_scons, evS_ite, c]
  simp only [andS_ok, if_true]
  have e : evS (pg.cfg k) (.scons (.raise "InputError" (.acons (.cst (.str "bounds")) .anil)) .snil) [some (pI m L), some (.int m), some (.tup (L.map bI)), none, none, none] h = .exc "InputError" [("code", .str "bounds")] [some (pI m L), some (.int m), some (.tup (L.map bI)), none, none, none] h := by simp [raiseR, bounds_len]
  rw [e, andN_exc, call_exc, gcX_exc]
theorem chk_c2 (hl : L.length ≤ 60) {s0 s1 s3 s4 s5 : Option FL.D} : evT (pg.cfg k) (.cmp .Gt (.bcall false .len (.acons (.var 2) .anil)) (.glob "MOST_BOUNDS")) [s0, s1, some (.tup (L.map bI)), s3, s4, s5] h = .ok false h := by
  have gn := glob_B (k := k)
  simp [gn]; omega
theorem chk_c3 {a b c : Int} {s0 s2 : Option FL.D} : evT (pg.cfg k) (.or (.not (.chain .LtE .Lt (.cst (.int 0)) (.var 3) (.var 1))) (.or (.not (.chain .LtE .Lt (.cst (.int 0)) (.var 4) (.var 1))) (.cmp .Eq (.var 3) (.var 4)))) [s0, some (.int m), s2, some (.int a), some (.int b), some (.int c)] h = .ok (!decide (gdI m (a, b, c))) h := by
  unfold gdI
  by_cases a0 : 0 ≤ a
  · by_cases a1 : a < m
    · by_cases b0 : 0 ≤ b
      · by_cases b1 : b < m
        · simp [a0, a1, b0, b1]
        · simp [a0, a1, b0, b1]
      · simp [a0, a1, b0]
    · simp [a0, a1]
  · simp [a0]
theorem chk_bound {a b c : Int} (h1 : 1 ≤ m) (h2 : m ≤ 12) (hb : ¬ gdI m (a, b, c)) : gcX false h (pg.call (k + 1) "check_differences" [pI m [(a, b, c)]] h) = .exc "InputError" [("code", .str "bound")] h := by
  rw [call_eq l_check_differences rfl]
  show gcX false h (evS (pg.cfg k) b_check_differences [some (pI m [(a, b, c)]), none, none, none, none, none] h).call = _
  unfold b_check_differences
  rw [seq_nx (ls1 := [some (pI m [(a, b, c)]), some (.int m), some (.tup ([(a, b, c)].map bI)), none, none, none]) (h1 := h) (by simp [pI])]
  rw [seq_nx (ls1 := [some (pI m [(a, b, c)]), some (.int m), some (.tup ([(a, b, c)].map bI)), none, none, none]) (h1 := h) (by rw [evS_ite, chk_c1 h1 h2]; simp)]
  rw [seq_nx (ls1 := [some (pI m [(a, b, c)]), some (.int m), some (.tup ([(a, b, c)].map bI)), none, none, none]) (h1 := h) (by rw [evS_ite, chk_c2 (by simp)]; simp)]
  rw [evS_scons, ev_for]
  simp only [evI_iseq, ev_var, List.getElem?_cons_succ, List.getElem?_cons_zero, R.bind_ok, itemsK_tup, Option.map_some, ofO_some, andS_ok]
  have st : stp (pg.cfg k) (.tup (.tcons (.name 3) (.tcons (.name 4) (.tcons (.name 5) .tnil)))) (.scons (.ite (.or (.not (.chain .LtE .Lt (.cst (.int 0)) (.var 3) (.var 1))) (.or (.not (.chain .LtE .Lt (.cst (.int 0)) (.var 4) (.var 1))) (.cmp .Eq (.var 3) (.var 4)))) (.scons (.raise "InputError" (.acons (.cst (.str "bound")) .anil)) .snil) .snil) .snil) (bI (a, b, c)) [some (pI m [(a, b, c)]), some (.int m), some (.tup ([(a, b, c)].map bI)), none, none, none] h = .exc "InputError" [("code", .str "bound")] [some (pI m [(a, b, c)]), some (.int m), some (.tup ([(a, b, c)].map bI)), some (.int a), some (.int b), some (.int c)] h := by
    have ea : asgT (.tup (.tcons (.name 3) (.tcons (.name 4) (.tcons (.name 5) .tnil)))) (bI (a, b, c)) [some (pI m [(a, b, c)]), some (.int m), some (.tup ([(a, b, c)].map bI)), none, none, none] = some [some (pI m [(a, b, c)]), some (.int m), some (.tup ([(a, b, c)].map bI)), some (.int a), some (.int b), some (.int c)] := by simp [bI]
    rw [stp_def, ea]
    simp only
    rw [evS_scons, evS_ite, chk_c3, decide_eq_false hb]
    simp [raiseR, bound_len]
  rw [show [(a, b, c)].map bI = [bI (a, b, c)] from rfl] at st ⊢
  rw [forL, st]
  simp
theorem chk_ok (h1 : 1 ≤ m) (h2 : m ≤ 12) (hl : L.length ≤ 60) (hg : ∀ e ∈ L, gdI m e) : gcX false h (pg.call (k + 1) "check_differences" [pI m L] h) = .ok .non h := by
  rw [call_eq l_check_differences rfl]
  show gcX false h (evS (pg.cfg k) b_check_differences [some (pI m L), none, none, none, none, none] h).call = _
  unfold b_check_differences
  rw [seq_nx (ls1 := [some (pI m L), some (.int m), some (.tup (L.map bI)), none, none, none]) (h1 := h) (by simp [pI])]
  rw [seq_nx (ls1 := [some (pI m L), some (.int m), some (.tup (L.map bI)), none, none, none]) (h1 := h) (by rw [evS_ite, chk_c1 h1 h2]; simp)]
  rw [seq_nx (ls1 := [some (pI m L), some (.int m), some (.tup (L.map bI)), none, none, none]) (h1 := h) (by rw [evS_ite, chk_c2 hl]; simp)]
  have S : evS (pg.cfg k) (.for_ (.tup (.tcons (.name 3) (.tcons (.name 4) (.tcons (.name 5) .tnil)))) (.iseq (.var 2)) (.scons (.ite (.or (.not (.chain .LtE .Lt (.cst (.int 0)) (.var 3) (.var 1))) (.or (.not (.chain .LtE .Lt (.cst (.int 0)) (.var 4) (.var 1))) (.cmp .Eq (.var 3) (.var 4)))) (.scons (.raise "InputError" (.acons (.cst (.str "bound")) .anil)) .snil) .snil) .snil) [3, 4, 5]) [some (pI m L), some (.int m), some (.tup (L.map bI)), none, none, none] h = .nx [some (pI m L), some (.int m), some (.tup (L.map bI)), none, none, none] h := by
    rw [ev_for]
    simp only [evI_iseq, ev_var, List.getElem?_cons_succ, List.getElem?_cons_zero, R.bind_ok, itemsK_tup, Option.map_some, ofO_some, andS_ok]
    generalize hr : forL _ _ _ _ _ _ _ = q
    obtain ⟨ls1, h1, rfl, rfl, e⟩ := for_then (en := bI) (fun (ds : List T3) ls h' => ls = [some (pI m L), some (.int m), some (.tup (L.map bI)), none, none, none] ∧ h' = h) hr ⟨rfl, rfl⟩ (by
      rintro ⟨a, b, c⟩ ds rest _ _ ⟨rfl, rfl⟩ hx
      have hb := hg (a, b, c) (by rw [hx]; simp)
      refine ⟨[some (pI m L), some (.int m), some (.tup (L.map bI)), some (.int a), some (.int b), some (.int c)], _, ?_, same_refl _ _, by simp [wipe], rfl⟩
      have ea : asgT (.tup (.tcons (.name 3) (.tcons (.name 4) (.tcons (.name 5) .tnil)))) (bI (a, b, c)) [some (pI m L), some (.int m), some (.tup (L.map bI)), none, none, none] = some [some (pI m L), some (.int m), some (.tup (L.map bI)), some (.int a), some (.int b), some (.int c)] := by simp [bI]
      rw [stp_def, ea]
      simp only
      rw [evS_scons, evS_ite, chk_c3, decide_eq_true hb]
      simp)
    subst e
    rfl
  rw [seq_nx S]
  simp
end
end FL.L
set_option autoImplicit false
set_option linter.all false
set_option maxRecDepth 100000
set_option maxHeartbeats 4000000
namespace FL.L
open PySem FL FL.V FL.C
abbrev G3 (F Z : Cell) (st : List FL.D) : Hs := [F, .lst st, Z]
theorem asg_t {Γ : Cfg} {x : Nat} {e : FE} {ls : Ls} {h h1 : Hs} {d : FL.D} (hx : x < ls.length) (he : ev Γ e ls h = .ok d h1) : evS Γ (.asg (.tgt (.name x)) e) ls h = .nx (ls.set x (some d)) h1 := by
  rw [evS_asg, he, andS_ok, asgG_tgt, asgT_name, if_pos hx]
section
variable {F Z : Cell} {st : List FL.D} {n : Nat} {B : List Bd}
theorem tk {st : List FL.D} (hs : DSt st) {many : Int} (h0 : 0 < many) (h1 : many < 1000000) : ∃ (r : Nat) (st' : List FL.D), (r : Int) < many ∧ DSt st' ∧ gcX false (G3 F Z st) (pg.call 40 "_law_take" [.loc 1, .int many] (G3 F Z st)) = .ok (.int r) (G3 F Z st') := by
  obtain ⟨r, st', r0, r1, hs', e⟩ := take_ok (P := pg) (k := 39) (F := F) (g := [Z]) l__law_take hs h0 h1
  refine ⟨r.toNat, st', by omega, hs', ?_⟩
  rw [show ((r.toNat : Nat) : Int) = r by omega]
  exact e
/-! ### the drawn numbers -/
theorem loop_9 {s0 s2 s4 s6 s7 s8 s11 s12 s14 s15 s16 s17 s18 s19 s20 s21 s22 : Option FL.D} (hs : DSt st) (ok : V.okB n B) (hn : n ≤ 5) (hz : B.length ≤ 9) : ∃ (st' : List FL.D) (s5 : Option FL.D), DSt st' ∧ evS (pg.cfg 40) (.for_ (.name 5) (.irange (.acons (.cst (.int 3)) .anil)) (.scons (.asg (.tgt (.name 13)) (.bcall false .tuple (.acons (.comp false [20] (.name 20) (.irange (.acons (.var 9) .anil)) (.cst (.bl true)) (.bin false .Sub (.call false "_law_take" (.acons (.var 1) (.acons (.cst (.int 9)) .anil))) (.cst (.int 4)))) .anil))) (.scons (.ite (.or (.cmp .NotEq (.call false "fits" (.acons (.var 3) (.acons (.var 13) .anil))) (.call false "_law_fits" (.acons (.var 3) (.acons (.var 13) .anil)))) (.call false "fits" (.acons (.var 3) (.acons (.bin false .Add (.var 13) (.tup (.acons (.cst (.int 0)) .anil))) .anil)))) (.scons (.ret (.cst (.bl false))) .snil) .snil) .snil)) [13]) [s0, some (.loc 1), s2, some (pD n B), s4, none, s6, s7, s8, some (.int n), some (.tup (B.map bD)), s11, s12, none, s14, s15, s16, s17, s18, s19, s20, s21, s22] (G3 F Z st) = .nx [s0, some (.loc 1), s2, some (pD n B), s4, s5, s6, s7, s8, some (.int n), some (.tup (B.map bD)), s11, s12, none, s14, s15, s16, s17, s18, s19, s20, s21, s22] (G3 F Z st') := by
  have sm : small (n : Int) := by unfold small; omega
  have z1 : 1 ≤ sizeLine := by rw [size_big]; omega
  have s3 : small (3 : Int) := by unfold small; omega
  rw [ev_for]
  have ei : evI (pg.cfg 40) (.irange (.acons (.cst (.int 3)) .anil)) [s0, some (.loc 1), s2, some (pD n B), s4, none, s6, s7, s8, some (.int n), some (.tup (B.map bD)), s11, s12, none, s14, s15, s16, s17, s18, s19, s20, s21, s22] (G3 F Z st) = .ok ((List.range 3).map fun j => FL.D.int (j : Nat), []) (G3 F Z st) := by
    rw [← rangeD_nat]
    simp [s3]
  rw [ei, andS_ok]
  generalize hr : forL _ _ _ _ _ _ _ = q
  obtain ⟨ls1, h1, rfl, st', s5, hs', rfl, rfl⟩ := for_then (en := fun m : Nat => FL.D.int m) (fun (ds : List Nat) ls h' => ∃ (st' : List FL.D) (s5 : Option FL.D), DSt st' ∧ ls = [s0, some (.loc 1), s2, some (pD n B), s4, s5, s6, s7, s8, some (.int n), some (.tup (B.map bD)), s11, s12, none, s14, s15, s16, s17, s18, s19, s20, s21, s22] ∧ h' = G3 F Z st') hr ⟨st, none, hs, rfl, rfl⟩ (by
    rintro m ds rest _ _ ⟨st1, s5, hs1, rfl, rfl⟩ hx
    have ea : asgT (.name 5) (.int (m : Nat)) [s0, some (.loc 1), s2, some (pD n B), s4, s5, s6, s7, s8, some (.int n), some (.tup (B.map bD)), s11, s12, none, s14, s15, s16, s17, s18, s19, s20, s21, s22] = some [s0, some (.loc 1), s2, some (pD n B), s4, some (.int (m : Nat)), s6, s7, s8, some (.int n), some (.tup (B.map bD)), s11, s12, none, s14, s15, s16, s17, s18, s19, s20, s21, s22] := by simp
    have C1 : ∃ (xs : List Int) (st2 : List FL.D), DSt st2 ∧ xs.length = n ∧ ev (pg.cfg 40) (.bcall false .tuple (.acons (.comp false [20] (.name 20) (.irange (.acons (.var 9) .anil)) (.cst (.bl true)) (.bin false .Sub (.call false "_law_take" (.acons (.var 1) (.acons (.cst (.int 9)) .anil))) (.cst (.int 4)))) .anil)) [s0, some (.loc 1), s2, some (pD n B), s4, some (.int (m : Nat)), s6, s7, s8, some (.int n), some (.tup (B.map bD)), s11, s12, none, s14, s15, s16, s17, s18, s19, s20, s21, s22] (G3 F Z st1) = .ok (.tup (xs.map .int)) (G3 F Z st2) := by
      rw [ev_bcall, evs_acons, ev_comp]
      simp only [evI_irange, evs_acons, ev_var, evs_anil, List.getElem?_cons_succ, List.getElem?_cons_zero, R.bind_ok]
      rw [if_pos sm, R.bind_ok, rangeD_nat]
      generalize hr : compL _ _ _ _ _ = q
      obtain ⟨ys, h1, rfl, st2, xs, hs2, lx, rfl, rfl⟩ := comp_then (en := fun m : Nat => FL.D.int m) (fun (ds : List Nat) acc h' => ∃ (st' : List FL.D) (xs : List Int), DSt st' ∧ xs.length = ds.length ∧ acc = xs.map .int ∧ h' = G3 F Z st') hr ⟨st1, [], hs1, rfl, rfl, rfl⟩ (by
        rintro x ds rest _ _ ⟨st3, xs, hs3, lx, rfl, rfl⟩ hx
        obtain ⟨r, st4, _, hs4, e⟩ := tk (F := F) (Z := Z) hs3 (many := 9) (by omega) (by omega)
        exact ⟨some (.int ((r : Int) - 4)), G3 F Z st4, by simp [cstep, wipe, e], same_t _ _, st4, xs ++ [(r : Int) - 4], hs4, by simp [lx], by simp, rfl⟩)
      rw [List.length_range] at lx
      refine ⟨xs, st2, hs2, lx, ?_⟩
      have zx : xs.length ≤ sizeLine := by rw [lx, size_big]; omega
      simp [zx]
    obtain ⟨xs, st2, hs2, lx, C1⟩ := C1
    refine ⟨[s0, some (.loc 1), s2, some (pD n B), s4, some (.int (m : Nat)), s6, s7, s8, some (.int n), some (.tup (B.map bD)), s11, s12, some (.tup (xs.map .int)), s14, s15, s16, s17, s18, s19, s20, s21, s22], G3 F Z st2, ?_, same_t _ _, st2, some (.int (m : Nat)), hs2, by simp [wipe], rfl⟩
    rw [stp_def, ea]
    simp only
    rw [seq_nx (asg_t (by simp) C1)]
    have f1 := fits_call (k := 39) (h := G3 F Z st2) lx ok (by omega) (by omega)
    have f1 : gcX false (G3 F Z st2) (pg.call 40 "fits" [pD n B, .tup (xs.map .int)] (G3 F Z st2)) = _ := f1
    have f2 := lfits_call (k := 39) (h := G3 F Z st2) lx ok (by omega) (by omega)
    have f2 : gcX false (G3 F Z st2) (pg.call 40 "_law_fits" [pD n B, .tup (xs.map .int)] (G3 F Z st2)) = _ := f2
    have f3 := fits_more (k := 39) (h := G3 F Z st2) (n := n) (B := B) (x := xs.map .int ++ [.int 0]) (by simp [lx])
    have f3 : gcX false (G3 F Z st2) (pg.call 40 "fits" [pD n B, .tup (xs.map .int ++ [.int 0])] (G3 F Z st2)) = _ := f3
    have zx : xs.length + 1 ≤ sizeLine := by rw [lx, size_big]; omega
    simp [f1, f2, f3, zx, z1])
  exact ⟨st', s5, hs', rfl⟩
/-! ### circles with parts changed -/
theorem loop_12 {s0 s2 s4 s7 s8 s11 s12 s13 s16 s17 s18 s19 s20 s21 s22 : Option FL.D} {s5 : Option FL.D} {cs : List Int} (hs : DSt st) (zc : cs.length ≤ 10) (hz : B.length ≤ 9) : ∃ (st' : List FL.D) (t5 t6 : Option FL.D), DSt st' ∧ evS (pg.cfg 40) (.for_ (.name 5) (.irange (.acons (.cst (.int 4)) .anil)) (.scons (.ite (.cmp .NotEq (.call false "takes_circle" (.acons (.var 3) (.acons (.var 6) .anil))) (.call false "_law_circle" (.acons (.var 3) (.acons (.var 6) .anil)))) (.scons (.ret (.cst (.bl false))) .snil) .snil) (.scons (.asg (.tgt (.name 14)) (.call false "_law_take" (.acons (.var 1) (.acons (.bin false .Add (.bcall false .len (.acons (.var 6) .anil)) (.cst (.int 1))) .anil)))) (.scons (.asg (.tgt (.name 15)) (.bin false .Sub (.call false "_law_take" (.acons (.var 1) (.acons (.bin false .Add (.bcall false .len (.acons (.var 10) .anil)) (.cst (.int 2))) .anil))) (.cst (.int 1)))) (.scons (.asg (.tgt (.name 6)) (.call false "_law_pick" (.acons (.var 1) (.acons (.lst false (.acons (.bin false .Add (.slice false (.var 6) .nopart (.part (.var 14))) (.slice false (.var 6) (.part (.bin false .Add (.var 14) (.cst (.int 1)))) .nopart)) (.acons (.bin false .Add (.bin false .Add (.slice false (.var 6) .nopart (.part (.var 14))) (.tup (.acons (.var 15) .anil))) (.slice false (.var 6) (.part (.var 14)) .nopart)) (.acons (.bin false .Add (.slice false (.var 6) (.part (.var 14)) .nopart) (.slice false (.var 6) .nopart (.part (.var 14)))) .anil)))) .anil)))) .snil)))) [14, 15]) [s0, some (.loc 1), s2, some (pD n B), s4, s5, some (.tup (cs.map .int)), s7, s8, some (.int n), some (.tup (B.map bD)), s11, s12, s13, none, none, s16, s17, s18, s19, s20, s21, s22] (G3 F Z st) = .nx [s0, some (.loc 1), s2, some (pD n B), s4, t5, t6, s7, s8, some (.int n), some (.tup (B.map bD)), s11, s12, s13, none, none, s16, s17, s18, s19, s20, s21, s22] (G3 F Z st') := by
  have s4' : small (4 : Int) := by unfold small; omega
  have z3 : 3 ≤ sizeLine := by rw [size_big]; omega
  have z1 : 1 ≤ sizeLine := by rw [size_big]; omega
  rw [ev_for]
  have ei : evI (pg.cfg 40) (.irange (.acons (.cst (.int 4)) .anil)) [s0, some (.loc 1), s2, some (pD n B), s4, s5, some (.tup (cs.map .int)), s7, s8, some (.int n), some (.tup (B.map bD)), s11, s12, s13, none, none, s16, s17, s18, s19, s20, s21, s22] (G3 F Z st) = .ok ((List.range 4).map fun j => FL.D.int (j : Nat), []) (G3 F Z st) := by
    rw [← rangeD_nat]
    simp [s4']
  rw [ei, andS_ok]
  generalize hr : forL _ _ _ _ _ _ _ = q
  obtain ⟨ls1, h1, rfl, st', s5', cs', hs', _, rfl, rfl⟩ := for_then (en := fun m : Nat => FL.D.int m) (fun (ds : List Nat) ls h' => ∃ (st' : List FL.D) (s5 : Option FL.D) (cs : List Int), DSt st' ∧ cs.length ≤ 10 + ds.length ∧ ls = [s0, some (.loc 1), s2, some (pD n B), s4, s5, some (.tup (cs.map .int)), s7, s8, some (.int n), some (.tup (B.map bD)), s11, s12, s13, none, none, s16, s17, s18, s19, s20, s21, s22] ∧ h' = G3 F Z st') hr ⟨st, s5, cs, hs, by simpa using zc, rfl, rfl⟩ (by
    rintro m ds rest _ _ ⟨st1, s5, cs, hs1, zc, rfl, rfl⟩ hx
    have hd : ds.length < 4 := by have := congrArg List.length hx; simp at this; omega
    have ea : asgT (.name 5) (.int (m : Nat)) [s0, some (.loc 1), s2, some (pD n B), s4, s5, some (.tup (cs.map .int)), s7, s8, some (.int n), some (.tup (B.map bD)), s11, s12, s13, none, none, s16, s17, s18, s19, s20, s21, s22] = some [s0, some (.loc 1), s2, some (pD n B), s4, some (.int (m : Nat)), some (.tup (cs.map .int)), s7, s8, some (.int n), some (.tup (B.map bD)), s11, s12, s13, none, none, s16, s17, s18, s19, s20, s21, s22] := by simp
    obtain ⟨p, st2, hp, hs2, e2⟩ := tk (F := F) (Z := Z) hs1 (many := (cs.length : Int) + 1) (by omega) (by omega)
    obtain ⟨w, st3, hw, hs3, e3⟩ := tk (F := F) (Z := Z) hs2 (many := (B.length : Int) + 2) (by omega) (by omega)
    let m1 := cs.take p ++ cs.drop (p + 1)
    let m2 := cs.take p ++ ((w : Int) - 1) :: cs.drop p
    let m3 := cs.drop p ++ cs.take p
    let ms : List (List Int) := [m1, m2, m3]
    obtain ⟨r, d, st4, hr, hs4, e4⟩ := pick_ok (P := pg) (k := 38) (F := F) (g := [Z]) l__law_take l__law_pick hs3 (ds := ms.map fun c => .tup (c.map .int)) (by simp [ms]) (by simp [ms]) (by simp [ms])
    obtain ⟨c, hc, rfl⟩ : ∃ c, c ∈ ms ∧ d = .tup (c.map .int) := by
      have := List.mem_of_getElem? hr
      obtain ⟨c, hc, rfl⟩ := List.mem_map.mp this
      exact ⟨c, hc, rfl⟩
    have lc : c.length ≤ cs.length + 1 := by
      simp only [ms, List.mem_cons, List.not_mem_nil, or_false] at hc
      rcases hc with rfl | rfl | rfl
      · simp [m1]; omega
      · simp [m2]; omega
      · simp [m3]; omega
    have e4 : gcX false (G3 F Z st3) (pg.call 40 "_law_pick" [.loc 1, .fl (ms.map fun c => .tup (c.map .int))] (G3 F Z st3)) = .ok (.tup (c.map .int)) (G3 F Z st4) := e4
    refine ⟨[s0, some (.loc 1), s2, some (pD n B), s4, some (.int (m : Nat)), some (.tup (c.map .int)), s7, s8, some (.int n), some (.tup (B.map bD)), s11, s12, s13, some (.int p), some (.int ((w : Int) - 1)), s16, s17, s18, s19, s20, s21, s22], G3 F Z st4, ?_, same_t _ _, st4, some (.int (m : Nat)), c, hs4, by simp; omega, by simp [wipe], rfl⟩
    rw [stp_def, ea]
    simp only
    have t1 := takes_call (k := 39) (h := G3 F Z st1) (n := n) (B := B) (cs := cs) (by omega) (by omega)
    have t1 : gcX false (G3 F Z st1) (pg.call 40 "takes_circle" [pD n B, .tup (cs.map .int)] (G3 F Z st1)) = _ := t1
    have t2 := lcircle_call (k := 39) (h := G3 F Z st1) (n := n) (B := B) (cs := cs) (by omega) (by omega)
    have t2 : gcX false (G3 F Z st1) (pg.call 40 "_law_circle" [pD n B, .tup (cs.map .int)] (G3 F Z st1)) = _ := t2
    rw [seq_nx (ls1 := [s0, some (.loc 1), s2, some (pD n B), s4, some (.int (m : Nat)), some (.tup (cs.map .int)), s7, s8, some (.int n), some (.tup (B.map bD)), s11, s12, s13, none, none, s16, s17, s18, s19, s20, s21, s22]) (h1 := G3 F Z st1) (by simp [t1, t2])]
    rw [seq_nx (ls1 := [s0, some (.loc 1), s2, some (pD n B), s4, some (.int (m : Nat)), some (.tup (cs.map .int)), s7, s8, some (.int n), some (.tup (B.map bD)), s11, s12, s13, some (.int p), none, s16, s17, s18, s19, s20, s21, s22]) (h1 := G3 F Z st2) (by simp [e2])]
    rw [seq_nx (ls1 := [s0, some (.loc 1), s2, some (pD n B), s4, some (.int (m : Nat)), some (.tup (cs.map .int)), s7, s8, some (.int n), some (.tup (B.map bD)), s11, s12, s13, some (.int p), some (.int ((w : Int) - 1)), s16, s17, s18, s19, s20, s21, s22]) (h1 := G3 F Z st3) (by simp [e3])]
    have c1 : cut (cs.map FL.D.int) none (some (p : Int)) = (cs.take p).map .int := by rw [cut_take, List.map_take]
    have c2 : cut (cs.map FL.D.int) (some (p : Int)) none = (cs.drop p).map .int := by rw [cut_drop, List.map_drop]
    have c3 : cut (cs.map FL.D.int) (some ((p : Int) + 1)) none = (cs.drop (p + 1)).map .int := by rw [cut_drop1, List.map_drop]
    have l1 : (cs.take p).length ≤ 14 := by simp; omega
    have l2 : (cs.drop p).length ≤ 14 := by simp; omega
    have l3 : (cs.drop (p + 1)).length ≤ 14 := by simp; omega
    have am : ∀ H : Hs, ev (pg.cfg 40) (.lst false (.acons (.bin false .Add (.slice false (.var 6) .nopart (.part (.var 14))) (.slice false (.var 6) (.part (.bin false .Add (.var 14) (.cst (.int 1)))) .nopart)) (.acons (.bin false .Add (.bin false .Add (.slice false (.var 6) .nopart (.part (.var 14))) (.tup (.acons (.var 15) .anil))) (.slice false (.var 6) (.part (.var 14)) .nopart)) (.acons (.bin false .Add (.slice false (.var 6) (.part (.var 14)) .nopart) (.slice false (.var 6) .nopart (.part (.var 14)))) .anil)))) [s0, some (.loc 1), s2, some (pD n B), s4, some (.int (m : Nat)), some (.tup (cs.map .int)), s7, s8, some (.int n), some (.tup (B.map bD)), s11, s12, s13, some (.int p), some (.int ((w : Int) - 1)), s16, s17, s18, s19, s20, s21, s22] H = .ok (.fl (ms.map fun c => .tup (c.map .int))) H := by
      intro H
      have em : (ms.map fun c => FL.D.tup (c.map .int)) = [.tup ((cs.take p).map .int ++ (cs.drop (p + 1)).map .int), .tup ((cs.take p).map .int ++ .int ((w : Int) - 1) :: (cs.drop p).map .int), .tup ((cs.drop p).map .int ++ (cs.take p).map .int)] := by simp [ms, m1, m2, m3]
      rw [em]
      generalize cs.take p = u at *
      generalize cs.drop p = v at *
      generalize cs.drop (p + 1) = x at *
      have k1 : u.length + x.length ≤ sizeLine := by rw [size_big]; omega
      have k2 : u.length + 1 ≤ sizeLine := by rw [size_big]; omega
      have k3 : u.length + 1 + v.length ≤ sizeLine := by rw [size_big]; omega
      have k4 : v.length + u.length ≤ sizeLine := by rw [size_big]; omega
      simp [c1, c2, c3, k1, k2, k3, k4, z3, z1]
    have S3 : evS (pg.cfg 40) (.asg (.tgt (.name 6)) (.call false "_law_pick" (.acons (.var 1) (.acons (.lst false (.acons (.bin false .Add (.slice false (.var 6) .nopart (.part (.var 14))) (.slice false (.var 6) (.part (.bin false .Add (.var 14) (.cst (.int 1)))) .nopart)) (.acons (.bin false .Add (.bin false .Add (.slice false (.var 6) .nopart (.part (.var 14))) (.tup (.acons (.var 15) .anil))) (.slice false (.var 6) (.part (.var 14)) .nopart)) (.acons (.bin false .Add (.slice false (.var 6) (.part (.var 14)) .nopart) (.slice false (.var 6) .nopart (.part (.var 14)))) .anil)))) .anil)))) [s0, some (.loc 1), s2, some (pD n B), s4, some (.int (m : Nat)), some (.tup (cs.map .int)), s7, s8, some (.int n), some (.tup (B.map bD)), s11, s12, s13, some (.int p), some (.int ((w : Int) - 1)), s16, s17, s18, s19, s20, s21, s22] (G3 F Z st3) = .nx [s0, some (.loc 1), s2, some (pD n B), s4, some (.int (m : Nat)), some (.tup (c.map .int)), s7, s8, some (.int n), some (.tup (B.map bD)), s11, s12, s13, some (.int p), some (.int ((w : Int) - 1)), s16, s17, s18, s19, s20, s21, s22] (G3 F Z st4) := by
      refine asg_t (by simp) ?_
      rw [ev_call, evs_acons, ev_var]
      simp only [List.getElem?_cons_succ, List.getElem?_cons_zero, R.bind_ok]
      rw [evs_acons, am, R.bind_ok, evs_anil, R.bind_ok, R.bind_ok, R.bind_ok, cfg_call]
      exact e4
    rw [seq_nx S3, evS_snil])
  exact ⟨st', s5', _, hs', rfl⟩
end
end FL.L
set_option autoImplicit false
set_option linter.all false
set_option maxRecDepth 100000
set_option maxHeartbeats 4000000
namespace FL.L
open PySem FL FL.V FL.C
theorem ok_yes : PyData.strOk ("yes" : Str) = true := by decide +kernel
theorem ok_no : PyData.strOk ("no" : Str) = true := by decide +kernel
theorem ne_yn : ¬ (("yes" : Str) = "no") := by decide +kernel
theorem ne_ny : ¬ (("no" : Str) = "yes") := by decide +kernel
abbrev tblD (n : Nat) (T : Tb) : FL.D := .fl ((List.range n).map fun a => FL.D.fl (nums n (T a)))
section
variable {F Z : Cell} {st : List FL.D} {n : Nat} {B : List Bd} {h : Hs}
theorem T_self {a : Nat} (ok : V.okB n B) (hh : hasB B = true) (ha : a < n) : T_ B n a a = some 0 := by
  have hN := hasB_iff.mp hh
  have h := T_isD ok hN ha ha
  cases e : T_ B n a a with
  | none => rw [e] at h; exact (h [] rfl (by simp)).elim
  | some x =>
    rw [e] at h
    obtain ⟨⟨es, h1, h2, h3⟩, h4⟩ := h
    have h5 : x ≤ 0 := h4 [] rfl (by simp)
    have h6 : ¬ wt es < 0 := fun z => hN (neg_round h1 h2 z)
    congr 1; omega
theorem told_all {a b : Nat} (ok : V.okB n B) (ns : ∀ e ∈ B, e.1 ≠ e.2.1) (hn : n ≤ 5) (hz : B.length ≤ 9) (hh : hasB B = true) (ha : a < n) (hb : b < n) : ∃ d : FL.D, gcX false h (pg.call 40 "_law_told" [pD n B, .int a, .int b] h) = .ok d h ∧ ((T_ B n a b = none ∧ d = .non) ∨ ∃ t ks, T_ B n a b = some t ∧ Leads B a b t ks ∧ d = .tup [.int t, .tup (ks.map fun m : Nat => FL.D.int m)]) := by
  by_cases hab : a = b
  · subst hab
    have e := tight_same (k := 34) (h := h) ok ns (by omega) (by omega) hh ha
    refine ⟨_, told_ok (by simp) e, .inr ⟨0, [], T_self ok hh ha, ⟨by simp, rfl, rfl, by simp⟩, rfl⟩⟩
  · rcases tight_two (k := 34) (h := h) ok ns (by omega) (by omega) hh ha hb hab with ⟨h1, e⟩ | ⟨t, ks, h1, h2, e⟩
    · exact ⟨_, told_ok flat_non e, .inl ⟨h1, rfl⟩⟩
    · exact ⟨_, told_ok (by simp; exact flatL_map _ _ fun _ _ => flat_int _) e, .inr ⟨t, ks, h1, h2, rfl⟩⟩
theorem tbl_row {a : Nat} {T : Tb} (ha : a < n) (h : Hs) : idxD (tblD n T) (.int a) h = .ok (.fl (nums n (T a))) h := by
  rw [idx_fl, range_at _ ha]; rfl
/-- one pair of numbers -/
theorem pair_ev {a b : Nat} {s0 s2 s5 s6 s7 s11 s12 s13 s14 s15 s17 s18 s19 s20 s21 s22 : Option FL.D} (hs : DSt st) (ok : V.okB n B) (ns : ∀ e ∈ B, e.1 ≠ e.2.1) (hn : n ≤ 5) (hz : B.length ≤ 9) (hh : hasB B = true) (ha : a < n) (hb : b < n) : ∃ (st' : List FL.D) (t17 t18 t21 t22 : Option FL.D), DSt st' ∧ evS (pg.cfg 40) (.scons (.asg (.tgt (.name 17)) (.call false "_law_told" (.acons (.var 3) (.acons (.var 8) (.acons (.var 16) .anil))))) (.scons (.ite (.or (.cmp .NotEq (.cmp .Is (.var 17) (.cst .non)) (.cmp .Is (.idx (.idx (.var 4) (.var 8)) (.var 16)) (.cst .non))) (.and (.cmp .IsNot (.var 17) (.cst .non)) (.or (.cmp .NotEq (.idx (.var 17) (.cst (.int 0))) (.idx (.idx (.var 4) (.var 8)) (.var 16))) (.cmp .NotEq (.call false "_law_leads" (.acons (.var 3) (.acons (.idx (.var 17) (.cst (.int 1))) (.acons (.var 8) (.acons (.var 16) .anil))))) (.idx (.var 17) (.cst (.int 0))))))) (.scons (.ret (.cst (.bl false))) .snil) .snil) (.scons (.ite (.cmp .NotEq (.var 8) (.var 16)) (.scons (.asg (.tgt (.name 18)) (.bin false .Sub (.call false "_law_take" (.acons (.var 1) (.acons (.cst (.int 9)) .anil))) (.cst (.int 4)))) (.scons (.asg (.tgt (.tup (.tcons (.name 21) (.tcons (.name 22) .tnil)))) (.call false "follows_bound" (.acons (.var 3) (.acons (.tup (.acons (.var 8) (.acons (.var 16) (.acons (.var 18) .anil)))) .anil)))) (.scons (.ite (.cmp .NotEq (.cmp .Eq (.var 21) (.cst (.str "yes"))) (.and (.cmp .IsNot (.idx (.idx (.var 4) (.var 8)) (.var 16)) (.cst .non)) (.cmp .LtE (.idx (.idx (.var 4) (.var 8)) (.var 16)) (.var 18)))) (.scons (.ret (.cst (.bl false))) .snil) .snil) (.scons (.ite (.and (.cmp .Eq (.var 21) (.cst (.str "yes"))) (.or (.cmp .Is (.call false "_law_leads" (.acons (.var 3) (.acons (.var 22) (.acons (.var 8) (.acons (.var 16) .anil))))) (.cst .non)) (.cmp .Gt (.call false "_law_leads" (.acons (.var 3) (.acons (.var 22) (.acons (.var 8) (.acons (.var 16) .anil))))) (.var 18)))) (.scons (.ret (.cst (.bl false))) .snil) .snil) (.scons (.ite (.and (.cmp .Eq (.var 21) (.cst (.str "no"))) (.or (.not (.call false "_law_fits" (.acons (.var 3) (.acons (.var 22) .anil)))) (.cmp .LtE (.bin false .Sub (.idx (.var 22) (.var 8)) (.idx (.var 22) (.var 16))) (.var 18)))) (.scons (.ret (.cst (.bl false))) .snil) .snil) .snil))))) .snil) .snil))) [s0, some (.loc 1), s2, some (pD n B), some (tblD n (T_ B n)), s5, s6, s7, some (.int a), some (.int n), some (.tup (B.map bD)), s11, s12, s13, s14, s15, some (.int b), s17, s18, s19, s20, s21, s22] (G3 F Z st) = .nx [s0, some (.loc 1), s2, some (pD n B), some (tblD n (T_ B n)), s5, s6, s7, some (.int a), some (.int n), some (.tup (B.map bD)), s11, s12, s13, s14, s15, some (.int b), t17, t18, s19, s20, t21, t22] (G3 F Z st') := by
  have z3 : 3 ≤ sizeLine := by rw [size_big]; omega
  obtain ⟨d, e, hd⟩ := told_all (h := G3 F Z st) ok ns hn hz hh ha hb
  have ir := fun H => tbl_row (T := T_ B n) ha H
  have ia := at_nums (N := T_ B n a) hb
  have S0 := seq_nx (Γ := pg.cfg 40) (s := (.asg (.tgt (.name 17)) (.call false "_law_told" (.acons (.var 3) (.acons (.var 8) (.acons (.var 16) .anil)))))) (ss := (.scons (.ite (.or (.cmp .NotEq (.cmp .Is (.var 17) (.cst .non)) (.cmp .Is (.idx (.idx (.var 4) (.var 8)) (.var 16)) (.cst .non))) (.and (.cmp .IsNot (.var 17) (.cst .non)) (.or (.cmp .NotEq (.idx (.var 17) (.cst (.int 0))) (.idx (.idx (.var 4) (.var 8)) (.var 16))) (.cmp .NotEq (.call false "_law_leads" (.acons (.var 3) (.acons (.idx (.var 17) (.cst (.int 1))) (.acons (.var 8) (.acons (.var 16) .anil))))) (.idx (.var 17) (.cst (.int 0))))))) (.scons (.ret (.cst (.bl false))) .snil) .snil) (.scons (.ite (.cmp .NotEq (.var 8) (.var 16)) (.scons (.asg (.tgt (.name 18)) (.bin false .Sub (.call false "_law_take" (.acons (.var 1) (.acons (.cst (.int 9)) .anil))) (.cst (.int 4)))) (.scons (.asg (.tgt (.tup (.tcons (.name 21) (.tcons (.name 22) .tnil)))) (.call false "follows_bound" (.acons (.var 3) (.acons (.tup (.acons (.var 8) (.acons (.var 16) (.acons (.var 18) .anil)))) .anil)))) (.scons (.ite (.cmp .NotEq (.cmp .Eq (.var 21) (.cst (.str "yes"))) (.and (.cmp .IsNot (.idx (.idx (.var 4) (.var 8)) (.var 16)) (.cst .non)) (.cmp .LtE (.idx (.idx (.var 4) (.var 8)) (.var 16)) (.var 18)))) (.scons (.ret (.cst (.bl false))) .snil) .snil) (.scons (.ite (.and (.cmp .Eq (.var 21) (.cst (.str "yes"))) (.or (.cmp .Is (.call false "_law_leads" (.acons (.var 3) (.acons (.var 22) (.acons (.var 8) (.acons (.var 16) .anil))))) (.cst .non)) (.cmp .Gt (.call false "_law_leads" (.acons (.var 3) (.acons (.var 22) (.acons (.var 8) (.acons (.var 16) .anil))))) (.var 18)))) (.scons (.ret (.cst (.bl false))) .snil) .snil) (.scons (.ite (.and (.cmp .Eq (.var 21) (.cst (.str "no"))) (.or (.not (.call false "_law_fits" (.acons (.var 3) (.acons (.var 22) .anil)))) (.cmp .LtE (.bin false .Sub (.idx (.var 22) (.var 8)) (.idx (.var 22) (.var 16))) (.var 18)))) (.scons (.ret (.cst (.bl false))) .snil) .snil) .snil))))) .snil) .snil))) (ls := [s0, some (.loc 1), s2, some (pD n B), some (tblD n (T_ B n)), s5, s6, s7, some (.int a), some (.int n), some (.tup (B.map bD)), s11, s12, s13, s14, s15, some (.int b), s17, s18, s19, s20, s21, s22]) (h := G3 F Z st) (ls1 := [s0, some (.loc 1), s2, some (pD n B), some (tblD n (T_ B n)), s5, s6, s7, some (.int a), some (.int n), some (.tup (B.map bD)), s11, s12, s13, s14, s15, some (.int b), some d, s18, s19, s20, s21, s22]) (h1 := G3 F Z st) (by simp [e])
  rw [S0]
  have S1 : evS (pg.cfg 40) (.ite (.or (.cmp .NotEq (.cmp .Is (.var 17) (.cst .non)) (.cmp .Is (.idx (.idx (.var 4) (.var 8)) (.var 16)) (.cst .non))) (.and (.cmp .IsNot (.var 17) (.cst .non)) (.or (.cmp .NotEq (.idx (.var 17) (.cst (.int 0))) (.idx (.idx (.var 4) (.var 8)) (.var 16))) (.cmp .NotEq (.call false "_law_leads" (.acons (.var 3) (.acons (.idx (.var 17) (.cst (.int 1))) (.acons (.var 8) (.acons (.var 16) .anil))))) (.idx (.var 17) (.cst (.int 0))))))) (.scons (.ret (.cst (.bl false))) .snil) .snil) [s0, some (.loc 1), s2, some (pD n B), some (tblD n (T_ B n)), s5, s6, s7, some (.int a), some (.int n), some (.tup (B.map bD)), s11, s12, s13, s14, s15, some (.int b), some d, s18, s19, s20, s21, s22] (G3 F Z st) = .nx [s0, some (.loc 1), s2, some (pD n B), some (tblD n (T_ B n)), s5, s6, s7, some (.int a), some (.int n), some (.tup (B.map bD)), s11, s12, s13, s14, s15, some (.int b), some d, s18, s19, s20, s21, s22] (G3 F Z st) := by
    generalize tblD n (T_ B n) = TD at *
    rcases hd with ⟨h1, rfl⟩ | ⟨t, ks, h1, L, rfl⟩
    · rw [h1] at ia
      simp [ir, ia, co, isNon]
    · rw [h1] at ia
      have le := leads_call (k := 39) (h := G3 F Z st) (n := n) L
      have le : gcX false (G3 F Z st) (pg.call 40 "_law_leads" [pD n B, .tup (ks.map fun m : Nat => FL.D.int m), .int a, .int b] (G3 F Z st)) = _ := le
      generalize ks.map (fun m : Nat => FL.D.int m) = kd at *
      simp [ir, ia, co, isNon, le]
  rw [seq_nx S1]
  by_cases hab : a = b
  · have hab2 : (a : Int) = (b : Int) := by omega
    refine ⟨st, some d, s18, s21, s22, hs, ?_⟩
    rw [seq_nx (ls1 := [s0, some (.loc 1), s2, some (pD n B), some (tblD n (T_ B n)), s5, s6, s7, some (.int a), some (.int n), some (.tup (B.map bD)), s11, s12, s13, s14, s15, some (.int b), some d, s18, s19, s20, s21, s22]) (h1 := G3 F Z st) (by simp [hab2]), evS_snil]
  · have hab2 : ¬ ((a : Int) = (b : Int)) := by omega
    obtain ⟨r, st1, _, hs1, e1⟩ := tk (F := F) (Z := Z) hs (many := 9) (by omega) (by omega)
    have c0 : evT (pg.cfg 40) (.cmp .NotEq (.var 8) (.var 16)) [s0, some (.loc 1), s2, some (pD n B), some (tblD n (T_ B n)), s5, s6, s7, some (.int a), some (.int n), some (.tup (B.map bD)), s11, s12, s13, s14, s15, some (.int b), some d, s18, s19, s20, s21, s22] (G3 F Z st) = .ok true (G3 F Z st) := by simp [hab2]
    have key : ∃ t21 t22, evS (pg.cfg 40) (.scons (.asg (.tgt (.name 18)) (.bin false .Sub (.call false "_law_take" (.acons (.var 1) (.acons (.cst (.int 9)) .anil))) (.cst (.int 4)))) (.scons (.asg (.tgt (.tup (.tcons (.name 21) (.tcons (.name 22) .tnil)))) (.call false "follows_bound" (.acons (.var 3) (.acons (.tup (.acons (.var 8) (.acons (.var 16) (.acons (.var 18) .anil)))) .anil)))) (.scons (.ite (.cmp .NotEq (.cmp .Eq (.var 21) (.cst (.str "yes"))) (.and (.cmp .IsNot (.idx (.idx (.var 4) (.var 8)) (.var 16)) (.cst .non)) (.cmp .LtE (.idx (.idx (.var 4) (.var 8)) (.var 16)) (.var 18)))) (.scons (.ret (.cst (.bl false))) .snil) .snil) (.scons (.ite (.and (.cmp .Eq (.var 21) (.cst (.str "yes"))) (.or (.cmp .Is (.call false "_law_leads" (.acons (.var 3) (.acons (.var 22) (.acons (.var 8) (.acons (.var 16) .anil))))) (.cst .non)) (.cmp .Gt (.call false "_law_leads" (.acons (.var 3) (.acons (.var 22) (.acons (.var 8) (.acons (.var 16) .anil))))) (.var 18)))) (.scons (.ret (.cst (.bl false))) .snil) .snil) (.scons (.ite (.and (.cmp .Eq (.var 21) (.cst (.str "no"))) (.or (.not (.call false "_law_fits" (.acons (.var 3) (.acons (.var 22) .anil)))) (.cmp .LtE (.bin false .Sub (.idx (.var 22) (.var 8)) (.idx (.var 22) (.var 16))) (.var 18)))) (.scons (.ret (.cst (.bl false))) .snil) .snil) .snil))))) [s0, some (.loc 1), s2, some (pD n B), some (tblD n (T_ B n)), s5, s6, s7, some (.int a), some (.int n), some (.tup (B.map bD)), s11, s12, s13, s14, s15, some (.int b), some d, s18, s19, s20, s21, s22] (G3 F Z st) = .nx [s0, some (.loc 1), s2, some (pD n B), some (tblD n (T_ B n)), s5, s6, s7, some (.int a), some (.int n), some (.tup (B.map bD)), s11, s12, s13, s14, s15, some (.int b), some d, some (.int ((r : Int) - 4)), s19, s20, t21, t22] (G3 F Z st1) := by
      rw [seq_nx (ls1 := [s0, some (.loc 1), s2, some (pD n B), some (tblD n (T_ B n)), s5, s6, s7, some (.int a), some (.int n), some (.tup (B.map bD)), s11, s12, s13, s14, s15, some (.int b), some d, some (.int ((r : Int) - 4)), s19, s20, s21, s22]) (h1 := G3 F Z st1) (by simp [e1])]
      generalize (r : Int) - 4 = c
      have ok3 : [FL.D.int a, .int b, .int c].length ≤ sizeLine := z3
      rcases follows_call (k := 34) (h := G3 F Z st1) (c := c) ok ns (by omega) (by omega) hh ha hb hab with ⟨t, ks, h1, htc, L, e⟩ | ⟨h1, x, x1, x2, x3, e⟩
      · have e : gcX false (G3 F Z st1) (pg.call 40 "follows_bound" [pD n B, .tup [.int a, .int b, .int c]] (G3 F Z st1)) = _ := e
        have le := leads_call (k := 39) (h := G3 F Z st1) (n := n) L
        have le : gcX false (G3 F Z st1) (pg.call 40 "_law_leads" [pD n B, .tup (ks.map fun m : Nat => FL.D.int m), .int a, .int b] (G3 F Z st1)) = _ := le
        rw [h1] at ia
        generalize ks.map (fun m : Nat => FL.D.int m) = kd at *
        refine ⟨some (.str "yes"), some (.tup kd), ?_⟩
        rw [seq_nx (ls1 := [s0, some (.loc 1), s2, some (pD n B), some (tblD n (T_ B n)), s5, s6, s7, some (.int a), some (.int n), some (.tup (B.map bD)), s11, s12, s13, s14, s15, some (.int b), some d, some (.int c), s19, s20, some (.str "yes"), some (.tup kd)]) (h1 := G3 F Z st1) (by simp [e, z3])]
        generalize tblD n (T_ B n) = TD at *
        have htc2 : ¬ c < t := by omega
        rw [seq_nx (ls1 := [s0, some (.loc 1), s2, some (pD n B), some TD, s5, s6, s7, some (.int a), some (.int n), some (.tup (B.map bD)), s11, s12, s13, s14, s15, some (.int b), some d, some (.int c), s19, s20, some (.str "yes"), some (.tup kd)]) (h1 := G3 F Z st1) (by simp [ir, ia, co, isNon, htc, eq_str2 ok_yes ok_yes])]
        rw [seq_nx (ls1 := [s0, some (.loc 1), s2, some (pD n B), some TD, s5, s6, s7, some (.int a), some (.int n), some (.tup (B.map bD)), s11, s12, s13, s14, s15, some (.int b), some d, some (.int c), s19, s20, some (.str "yes"), some (.tup kd)]) (h1 := G3 F Z st1) (by simp [le, isNon, htc2, eq_str2 ok_yes ok_yes])]
        rw [seq_nx (ls1 := [s0, some (.loc 1), s2, some (pD n B), some TD, s5, s6, s7, some (.int a), some (.int n), some (.tup (B.map bD)), s11, s12, s13, s14, s15, some (.int b), some d, some (.int c), s19, s20, some (.str "yes"), some (.tup kd)]) (h1 := G3 F Z st1) (by simp [eq_str2 ok_yes ok_no, ne_yn]), evS_snil]
      · have e : gcX false (G3 F Z st1) (pg.call 40 "follows_bound" [pD n B, .tup [.int a, .int b, .int c]] (G3 F Z st1)) = _ := e
        have lf := lfits_call (k := 39) (h := G3 F Z st1) x1 ok (by omega) (by omega)
        rw [x2] at lf
        have lf : gcX false (G3 F Z st1) (pg.call 40 "_law_fits" [pD n B, .tup (x.map .int)] (G3 F Z st1)) = _ := lf
        have xa : L2.atI (x.map FL.D.int) (a : Int) = some (.int (x.getD a 0)) := by
          rw [atI_nat, List.getElem?_map, List.getD_eq_getElem?_getD, List.getElem?_eq_getElem (by omega)]; rfl
        have xb : L2.atI (x.map FL.D.int) (b : Int) = some (.int (x.getD b 0)) := by
          rw [atI_nat, List.getElem?_map, List.getD_eq_getElem?_getD, List.getElem?_eq_getElem (by omega)]; rfl
        have x4 : ¬ x.getD a 0 - x.getD b 0 ≤ c := by omega
        generalize x.getD a 0 = xa' at *
        generalize x.getD b 0 = xb' at *
        generalize x.map FL.D.int = xd at *
        refine ⟨some (.str "no"), some (.tup xd), ?_⟩
        rw [seq_nx (ls1 := [s0, some (.loc 1), s2, some (pD n B), some (tblD n (T_ B n)), s5, s6, s7, some (.int a), some (.int n), some (.tup (B.map bD)), s11, s12, s13, s14, s15, some (.int b), some d, some (.int c), s19, s20, some (.str "no"), some (.tup xd)]) (h1 := G3 F Z st1) (by simp [e, z3])]
        generalize tblD n (T_ B n) = TD at *
        have S1 : evS (pg.cfg 40) (.ite (.cmp .NotEq (.cmp .Eq (.var 21) (.cst (.str "yes"))) (.and (.cmp .IsNot (.idx (.idx (.var 4) (.var 8)) (.var 16)) (.cst .non)) (.cmp .LtE (.idx (.idx (.var 4) (.var 8)) (.var 16)) (.var 18)))) (.scons (.ret (.cst (.bl false))) .snil) .snil) [s0, some (.loc 1), s2, some (pD n B), some TD, s5, s6, s7, some (.int a), some (.int n), some (.tup (B.map bD)), s11, s12, s13, s14, s15, some (.int b), some d, some (.int c), s19, s20, some (.str "no"), some (.tup xd)] (G3 F Z st1) = .nx [s0, some (.loc 1), s2, some (pD n B), some TD, s5, s6, s7, some (.int a), some (.int n), some (.tup (B.map bD)), s11, s12, s13, s14, s15, some (.int b), some d, some (.int c), s19, s20, some (.str "no"), some (.tup xd)] (G3 F Z st1) := by
          cases hT : T_ B n a b with
          | none =>
            rw [hT] at ia
            simp [ir, ia, co, isNon, eq_str2 ok_no ok_yes, ne_ny]
          | some t =>
            rw [hT] at ia
            have := h1 t hT
            have h2 : ¬ t ≤ c := by omega
            simp [ir, ia, co, isNon, h2, eq_str2 ok_no ok_yes, ne_ny]
        rw [seq_nx S1]
        rw [seq_nx (ls1 := [s0, some (.loc 1), s2, some (pD n B), some TD, s5, s6, s7, some (.int a), some (.int n), some (.tup (B.map bD)), s11, s12, s13, s14, s15, some (.int b), some d, some (.int c), s19, s20, some (.str "no"), some (.tup xd)]) (h1 := G3 F Z st1) (by simp [eq_str2 ok_no ok_yes, ne_ny])]
        rw [seq_nx (ls1 := [s0, some (.loc 1), s2, some (pD n B), some TD, s5, s6, s7, some (.int a), some (.int n), some (.tup (B.map bD)), s11, s12, s13, s14, s15, some (.int b), some d, some (.int c), s19, s20, some (.str "no"), some (.tup xd)]) (h1 := G3 F Z st1) (by simp [lf, xa, xb, x4, eq_str2 ok_no ok_no]), evS_snil]
    obtain ⟨t21, t22, key⟩ := key
    refine ⟨st1, some d, some (.int ((r : Int) - 4)), t21, t22, hs1, ?_⟩
    rw [evS_scons, evS_ite, c0]
    simp only [andS_ok, if_true]
    rw [key, andN_nx, evS_snil]
theorem loop_16 {s0 s2 s5 s6 s7 s11 s12 s13 s14 s15 s19 s20 : Option FL.D} (hs : DSt st) (ok : V.okB n B) (ns : ∀ e ∈ B, e.1 ≠ e.2.1) (hn : n ≤ 5) (hz : B.length ≤ 9) (hh : hasB B = true) : ∃ st' : List FL.D, DSt st' ∧ evS (pg.cfg 40) (.for_ (.name 8) (.irange (.acons (.var 9) .anil)) (.scons (.for_ (.name 16) (.irange (.acons (.var 9) .anil)) (.scons (.asg (.tgt (.name 17)) (.call false "_law_told" (.acons (.var 3) (.acons (.var 8) (.acons (.var 16) .anil))))) (.scons (.ite (.or (.cmp .NotEq (.cmp .Is (.var 17) (.cst .non)) (.cmp .Is (.idx (.idx (.var 4) (.var 8)) (.var 16)) (.cst .non))) (.and (.cmp .IsNot (.var 17) (.cst .non)) (.or (.cmp .NotEq (.idx (.var 17) (.cst (.int 0))) (.idx (.idx (.var 4) (.var 8)) (.var 16))) (.cmp .NotEq (.call false "_law_leads" (.acons (.var 3) (.acons (.idx (.var 17) (.cst (.int 1))) (.acons (.var 8) (.acons (.var 16) .anil))))) (.idx (.var 17) (.cst (.int 0))))))) (.scons (.ret (.cst (.bl false))) .snil) .snil) (.scons (.ite (.cmp .NotEq (.var 8) (.var 16)) (.scons (.asg (.tgt (.name 18)) (.bin false .Sub (.call false "_law_take" (.acons (.var 1) (.acons (.cst (.int 9)) .anil))) (.cst (.int 4)))) (.scons (.asg (.tgt (.tup (.tcons (.name 21) (.tcons (.name 22) .tnil)))) (.call false "follows_bound" (.acons (.var 3) (.acons (.tup (.acons (.var 8) (.acons (.var 16) (.acons (.var 18) .anil)))) .anil)))) (.scons (.ite (.cmp .NotEq (.cmp .Eq (.var 21) (.cst (.str "yes"))) (.and (.cmp .IsNot (.idx (.idx (.var 4) (.var 8)) (.var 16)) (.cst .non)) (.cmp .LtE (.idx (.idx (.var 4) (.var 8)) (.var 16)) (.var 18)))) (.scons (.ret (.cst (.bl false))) .snil) .snil) (.scons (.ite (.and (.cmp .Eq (.var 21) (.cst (.str "yes"))) (.or (.cmp .Is (.call false "_law_leads" (.acons (.var 3) (.acons (.var 22) (.acons (.var 8) (.acons (.var 16) .anil))))) (.cst .non)) (.cmp .Gt (.call false "_law_leads" (.acons (.var 3) (.acons (.var 22) (.acons (.var 8) (.acons (.var 16) .anil))))) (.var 18)))) (.scons (.ret (.cst (.bl false))) .snil) .snil) (.scons (.ite (.and (.cmp .Eq (.var 21) (.cst (.str "no"))) (.or (.not (.call false "_law_fits" (.acons (.var 3) (.acons (.var 22) .anil)))) (.cmp .LtE (.bin false .Sub (.idx (.var 22) (.var 8)) (.idx (.var 22) (.var 16))) (.var 18)))) (.scons (.ret (.cst (.bl false))) .snil) .snil) .snil))))) .snil) .snil))) [16, 17, 18, 21, 22]) .snil) [8, 16, 17, 18, 21, 22]) [s0, some (.loc 1), s2, some (pD n B), some (tblD n (T_ B n)), s5, s6, s7, none, some (.int n), some (.tup (B.map bD)), s11, s12, s13, s14, s15, none, none, none, s19, s20, none, none] (G3 F Z st) = .nx [s0, some (.loc 1), s2, some (pD n B), some (tblD n (T_ B n)), s5, s6, s7, none, some (.int n), some (.tup (B.map bD)), s11, s12, s13, s14, s15, none, none, none, s19, s20, none, none] (G3 F Z st') := by
  have sm : small (n : Int) := by unfold small; omega
  rw [ev_for]
  simp only [evI_irange, evs_acons, ev_var, evs_anil, List.getElem?_cons_succ, List.getElem?_cons_zero, R.bind_ok]
  rw [if_pos sm]
  simp only [andS_ok]
  rw [rangeD_nat]
  generalize hr : forL _ _ _ _ _ _ _ = q
  obtain ⟨ls1, h1, rfl, st', hs', rfl, rfl⟩ := for_then (en := fun m : Nat => FL.D.int m) (fun (ds : List Nat) ls h' => ∃ st' : List FL.D, DSt st' ∧ ls = [s0, some (.loc 1), s2, some (pD n B), some (tblD n (T_ B n)), s5, s6, s7, none, some (.int n), some (.tup (B.map bD)), s11, s12, s13, s14, s15, none, none, none, s19, s20, none, none] ∧ h' = G3 F Z st') hr ⟨st, hs, rfl, rfl⟩ (by
    rintro a ds rest _ _ ⟨st1, hs1, rfl, rfl⟩ hx
    have ha : a < n := List.mem_range.mp (by rw [hx]; simp)
    clear hx hr
    have ea : asgT (.name 8) (.int (a : Nat)) [s0, some (.loc 1), s2, some (pD n B), some (tblD n (T_ B n)), s5, s6, s7, none, some (.int n), some (.tup (B.map bD)), s11, s12, s13, s14, s15, none, none, none, s19, s20, none, none] = some [s0, some (.loc 1), s2, some (pD n B), some (tblD n (T_ B n)), s5, s6, s7, some (.int (a : Nat)), some (.int n), some (.tup (B.map bD)), s11, s12, s13, s14, s15, none, none, none, s19, s20, none, none] := by simp
    have key : ∃ st' : List FL.D, DSt st' ∧ evS (pg.cfg 40) (.for_ (.name 16) (.irange (.acons (.var 9) .anil)) (.scons (.asg (.tgt (.name 17)) (.call false "_law_told" (.acons (.var 3) (.acons (.var 8) (.acons (.var 16) .anil))))) (.scons (.ite (.or (.cmp .NotEq (.cmp .Is (.var 17) (.cst .non)) (.cmp .Is (.idx (.idx (.var 4) (.var 8)) (.var 16)) (.cst .non))) (.and (.cmp .IsNot (.var 17) (.cst .non)) (.or (.cmp .NotEq (.idx (.var 17) (.cst (.int 0))) (.idx (.idx (.var 4) (.var 8)) (.var 16))) (.cmp .NotEq (.call false "_law_leads" (.acons (.var 3) (.acons (.idx (.var 17) (.cst (.int 1))) (.acons (.var 8) (.acons (.var 16) .anil))))) (.idx (.var 17) (.cst (.int 0))))))) (.scons (.ret (.cst (.bl false))) .snil) .snil) (.scons (.ite (.cmp .NotEq (.var 8) (.var 16)) (.scons (.asg (.tgt (.name 18)) (.bin false .Sub (.call false "_law_take" (.acons (.var 1) (.acons (.cst (.int 9)) .anil))) (.cst (.int 4)))) (.scons (.asg (.tgt (.tup (.tcons (.name 21) (.tcons (.name 22) .tnil)))) (.call false "follows_bound" (.acons (.var 3) (.acons (.tup (.acons (.var 8) (.acons (.var 16) (.acons (.var 18) .anil)))) .anil)))) (.scons (.ite (.cmp .NotEq (.cmp .Eq (.var 21) (.cst (.str "yes"))) (.and (.cmp .IsNot (.idx (.idx (.var 4) (.var 8)) (.var 16)) (.cst .non)) (.cmp .LtE (.idx (.idx (.var 4) (.var 8)) (.var 16)) (.var 18)))) (.scons (.ret (.cst (.bl false))) .snil) .snil) (.scons (.ite (.and (.cmp .Eq (.var 21) (.cst (.str "yes"))) (.or (.cmp .Is (.call false "_law_leads" (.acons (.var 3) (.acons (.var 22) (.acons (.var 8) (.acons (.var 16) .anil))))) (.cst .non)) (.cmp .Gt (.call false "_law_leads" (.acons (.var 3) (.acons (.var 22) (.acons (.var 8) (.acons (.var 16) .anil))))) (.var 18)))) (.scons (.ret (.cst (.bl false))) .snil) .snil) (.scons (.ite (.and (.cmp .Eq (.var 21) (.cst (.str "no"))) (.or (.not (.call false "_law_fits" (.acons (.var 3) (.acons (.var 22) .anil)))) (.cmp .LtE (.bin false .Sub (.idx (.var 22) (.var 8)) (.idx (.var 22) (.var 16))) (.var 18)))) (.scons (.ret (.cst (.bl false))) .snil) .snil) .snil))))) .snil) .snil))) [16, 17, 18, 21, 22]) [s0, some (.loc 1), s2, some (pD n B), some (tblD n (T_ B n)), s5, s6, s7, some (.int (a : Nat)), some (.int n), some (.tup (B.map bD)), s11, s12, s13, s14, s15, none, none, none, s19, s20, none, none] (G3 F Z st1) = .nx [s0, some (.loc 1), s2, some (pD n B), some (tblD n (T_ B n)), s5, s6, s7, some (.int (a : Nat)), some (.int n), some (.tup (B.map bD)), s11, s12, s13, s14, s15, none, none, none, s19, s20, none, none] (G3 F Z st') := by
      rw [ev_for]
      simp only [evI_irange, evs_acons, ev_var, evs_anil, List.getElem?_cons_succ, List.getElem?_cons_zero, R.bind_ok]
      rw [if_pos sm]
      simp only [andS_ok]
      rw [rangeD_nat]
      generalize hr : forL _ _ _ _ _ _ _ = q
      obtain ⟨ls1, h1, rfl, st', hs', rfl, rfl⟩ := for_then (en := fun m : Nat => FL.D.int m) (fun (ds : List Nat) ls h' => ∃ st' : List FL.D, DSt st' ∧ ls = [s0, some (.loc 1), s2, some (pD n B), some (tblD n (T_ B n)), s5, s6, s7, some (.int (a : Nat)), some (.int n), some (.tup (B.map bD)), s11, s12, s13, s14, s15, none, none, none, s19, s20, none, none] ∧ h' = G3 F Z st') hr ⟨st1, hs1, rfl, rfl⟩ (by
        rintro b ds rest _ _ ⟨st2, hs2, rfl, rfl⟩ hx
        have hb : b < n := List.mem_range.mp (by rw [hx]; simp)
        clear hx hr
        have ea : asgT (.name 16) (.int (b : Nat)) [s0, some (.loc 1), s2, some (pD n B), some (tblD n (T_ B n)), s5, s6, s7, some (.int (a : Nat)), some (.int n), some (.tup (B.map bD)), s11, s12, s13, s14, s15, none, none, none, s19, s20, none, none] = some [s0, some (.loc 1), s2, some (pD n B), some (tblD n (T_ B n)), s5, s6, s7, some (.int (a : Nat)), some (.int n), some (.tup (B.map bD)), s11, s12, s13, s14, s15, some (.int (b : Nat)), none, none, s19, s20, none, none] := by simp
        obtain ⟨st3, t17, t18, t21, t22, hs3, e⟩ := pair_ev (F := F) (Z := Z) (a := a) (b := b) (s0 := s0) (s2 := s2) (s5 := s5) (s6 := s6) (s7 := s7) (s11 := s11) (s12 := s12) (s13 := s13) (s14 := s14) (s15 := s15) (s17 := none) (s18 := none) (s19 := s19) (s20 := s20) (s21 := none) (s22 := none) hs2 ok ns hn hz hh ha hb
        refine ⟨[s0, some (.loc 1), s2, some (pD n B), some (tblD n (T_ B n)), s5, s6, s7, some (.int a), some (.int n), some (.tup (B.map bD)), s11, s12, s13, s14, s15, some (.int b), t17, t18, s19, s20, t21, t22], G3 F Z st3, ?_, same_t _ _, st3, hs3, ?_, rfl⟩
        · rw [stp_def, ea]
          exact e
        · simp [wipe])
      exact ⟨st', hs', rfl⟩
    obtain ⟨st2, hs2, e⟩ := key
    refine ⟨[s0, some (.loc 1), s2, some (pD n B), some (tblD n (T_ B n)), s5, s6, s7, some (.int (a : Nat)), some (.int n), some (.tup (B.map bD)), s11, s12, s13, s14, s15, none, none, none, s19, s20, none, none], G3 F Z st2, ?_, same_t _ _, st2, hs2, ?_, rfl⟩
    · rw [stp_def, ea]
      simp only
      rw [seq_nx e, evS_snil]
    · simp [wipe])
  exact ⟨st', hs', rfl⟩
end
end FL.L
set_option autoImplicit false
set_option linter.all false
set_option maxRecDepth 100000
set_option maxHeartbeats 4000000
namespace FL.L
open PySem FL FL.V FL.C
def L61 : List T3 := List.replicate 61 (0, 1, 0)
def L60 : List T3 := List.replicate 60 (11, 0, -99)
theorem rep61 : repL [.tup [.int 0, .int 1, .int 0]] 61 = L61.map bI := rfl
theorem rep60 : repL [.tup [.int 11, .int 0, .int (-99)]] 60 = L60.map bI := rfl
theorem tup_rep {m : Bool} {x : FL.D} {n : Int} {h : Hs} (h1 : 2 ≤ n) (h2 : n ≤ 1000) : binD m .Mult (.tup [x]) (.int n) h = .ok (.tup (repL [x] n)) h := by
  have : 2 ≤ n ∧ n ≤ 1000 ∧ [x].length ≤ 1000 ∧ [x].isEmpty = false := ⟨h1, h2, by simp, rfl⟩
  simp only [binD]
  exact if_pos this
def prb5 : List (FL.D × Str) := [(pI 0 [], "many"), (pI 13 [], "many"), (pI 2 L61, "bounds"), (pI 2 [(0, 2, 0)], "bound"), (pI 2 [(-1, 0, 0)], "bound")]
def prb3 : List (FL.D × Str) := [(pI 2 [(1, 1, 0)], "bound"), (pI 13 [(0, 0, 0)], "many"), (pI 12 L60, "")]
def enP (p : FL.D × Str) : FL.D := .tup [p.1, .str p.2]
theorem ok_m : PyData.strOk ("many" : Str) = true := by decide +kernel
theorem ok_bs : PyData.strOk ("bounds" : Str) = true := by decide +kernel
theorem ok_b : PyData.strOk ("bound" : Str) = true := by decide +kernel
theorem ok_e : PyData.strOk ("" : Str) = true := by decide +kernel
theorem prb_ok : ∀ p ∈ prb5 ++ prb3, PyData.strOk p.2 = true ∧ ∀ h, gcX false h (pg.call 40 "_law_code" [p.1] h) = .ok (.str p.2) h := by
  intro p hp
  simp only [prb5, prb3, List.cons_append, List.nil_append, List.mem_cons, List.not_mem_nil, or_false] at hp
  rcases hp with rfl | rfl | rfl | rfl | rfl | rfl | rfl | rfl
  · exact ⟨ok_m, fun h => code_exc (k := 39) (chk_many (k := 38) (by omega))⟩
  · exact ⟨ok_m, fun h => code_exc (k := 39) (chk_many (k := 38) (by omega))⟩
  · exact ⟨ok_bs, fun h => code_exc (k := 39) (chk_bounds (k := 38) (by omega) (by omega) (by simp [L61]))⟩
  · exact ⟨ok_b, fun h => code_exc (k := 39) (chk_bound (k := 38) (by omega) (by omega) (by simp [gdI]))⟩
  · exact ⟨ok_b, fun h => code_exc (k := 39) (chk_bound (k := 38) (by omega) (by omega) (by simp [gdI]))⟩
  · exact ⟨ok_b, fun h => code_exc (k := 39) (chk_bound (k := 38) (by omega) (by omega) (by simp [gdI]))⟩
  · exact ⟨ok_m, fun h => code_exc (k := 39) (chk_many (k := 38) (by omega))⟩
  · exact ⟨ok_e, fun h => code_ok (k := 39) (chk_ok (k := 38) (by omega) (by omega) (by simp [L60]) (by
      intro e he
      rw [List.eq_of_mem_replicate he]
      simp [gdI]))⟩
def Zb : Cell := .lst ((prb5 ++ prb3).map enP)
abbrev LW (s3 s4 s5 s6 s7 s9 s10 s11 s12 : Option FL.D) : Ls := [some (.loc 0), some (.loc 1), some (.loc 2), s3, s4, s5, s6, s7, none, s9, s10, s11, s12, none, none, none, none, none, none, none, none, none, none]
section
variable {F : Cell} {st : List FL.D}
theorem st_1 : evS (pg.cfg 40) (.asg (.tgt (.name 2)) (.lst true (.acons (.tup (.acons (.tup (.acons (.cst (.int 0)) (.acons (.tup .anil) .anil))) (.acons (.cst (.str "many")) .anil))) (.acons (.tup (.acons (.tup (.acons (.cst (.int 13)) (.acons (.tup .anil) .anil))) (.acons (.cst (.str "many")) .anil))) (.acons (.tup (.acons (.tup (.acons (.cst (.int 2)) (.acons (.bin false .Mult (.tup (.acons (.tup (.acons (.cst (.int 0)) (.acons (.cst (.int 1)) (.acons (.cst (.int 0)) .anil)))) .anil)) (.cst (.int 61))) .anil))) (.acons (.cst (.str "bounds")) .anil))) (.acons (.tup (.acons (.tup (.acons (.cst (.int 2)) (.acons (.tup (.acons (.tup (.acons (.cst (.int 0)) (.acons (.cst (.int 2)) (.acons (.cst (.int 0)) .anil)))) .anil)) .anil))) (.acons (.cst (.str "bound")) .anil))) (.acons (.tup (.acons (.tup (.acons (.cst (.int 2)) (.acons (.tup (.acons (.tup (.acons (.bin false .Sub (.cst (.int 0)) (.cst (.int 1))) (.acons (.cst (.int 0)) (.acons (.cst (.int 0)) .anil)))) .anil)) .anil))) (.acons (.cst (.str "bound")) .anil))) .anil))))))) [some (.loc 0), some (.loc 1), none, none, none, none, none, none, none, none, none, none, none, none, none, none, none, none, none, none, none, none, none] [F, .lst st] = .nx (LW none none none none none none none none none) [F, .lst st, .lst (prb5.map enP)] := by
  have z1 : 1 ≤ sizeLine := by rw [size_big]; omega
  have z0 : 0 ≤ sizeLine := by rw [size_big]; omega
  have z2 : 2 ≤ sizeLine := by rw [size_big]; omega
  have z3 : 3 ≤ sizeLine := by rw [size_big]; omega
  have z5 : 5 ≤ sizeLine := by rw [size_big]; omega
  have e61 : ∀ H : Hs, binD false .Mult (.tup [.tup [.int 0, .int 1, .int 0]]) (.int 61) H = .ok (.tup (L61.map bI)) H := fun H => by rw [tup_rep (by omega) (by omega), rep61]
  refine (asg_t (h1 := [F, .lst st, .lst (prb5.map enP)]) (d := .loc 2) (by simp) ?_).trans rfl
  simp [e61, z0, z1, z2, z3, z5, newL, prb5, enP, pI, bI]
theorem st_2 : evS (pg.cfg 40) (.expr (.bmeth .extend (.var 2) (.acons (.lst false (.acons (.tup (.acons (.tup (.acons (.cst (.int 2)) (.acons (.tup (.acons (.tup (.acons (.cst (.int 1)) (.acons (.cst (.int 1)) (.acons (.cst (.int 0)) .anil)))) .anil)) .anil))) (.acons (.cst (.str "bound")) .anil))) (.acons (.tup (.acons (.tup (.acons (.cst (.int 13)) (.acons (.tup (.acons (.tup (.acons (.cst (.int 0)) (.acons (.cst (.int 0)) (.acons (.cst (.int 0)) .anil)))) .anil)) .anil))) (.acons (.cst (.str "many")) .anil))) (.acons (.tup (.acons (.tup (.acons (.cst (.int 12)) (.acons (.bin false .Mult (.tup (.acons (.tup (.acons (.cst (.int 11)) (.acons (.cst (.int 0)) (.acons (.bin false .Sub (.cst (.int 0)) (.cst (.int 99))) .anil)))) .anil)) (.cst (.int 60))) .anil))) (.acons (.cst (.str "")) .anil))) .anil)))) .anil))) (LW none none none none none none none none none) [F, .lst st, .lst (prb5.map enP)] = .nx (LW none none none none none none none none none) [F, .lst st, Zb] := by
  have z1 : 1 ≤ sizeLine := by rw [size_big]; omega
  have z2 : 2 ≤ sizeLine := by rw [size_big]; omega
  have z3 : 3 ≤ sizeLine := by rw [size_big]; omega
  have z8 : 8 ≤ sizeLine := by rw [size_big]; omega
  have e60 : ∀ H : Hs, binD false .Mult (.tup [.tup [.int 11, .int 0, .int (-99)]]) (.int 60) H = .ok (.tup (L60.map bI)) H := fun H => by rw [tup_rep (by omega) (by omega), rep60]
  have ee := extend_at (h := [F, .lst st, .lst (prb5.map enP)]) (n := 2) (xs := prb5.map enP) (ys := prb3.map enP) (d := .fl (prb3.map enP)) rfl rfl (by simp [prb5, prb3]; exact z8)
  have il : isLst [F, .lst st, .lst (prb5.map enP)] (.loc 2) = true := isLst_of (n := 2) rfl
  have ev3 : evs (pg.cfg 40) (.acons (.lst false (.acons (.tup (.acons (.tup (.acons (.cst (.int 2)) (.acons (.tup (.acons (.tup (.acons (.cst (.int 1)) (.acons (.cst (.int 1)) (.acons (.cst (.int 0)) .anil)))) .anil)) .anil))) (.acons (.cst (.str "bound")) .anil))) (.acons (.tup (.acons (.tup (.acons (.cst (.int 13)) (.acons (.tup (.acons (.tup (.acons (.cst (.int 0)) (.acons (.cst (.int 0)) (.acons (.cst (.int 0)) .anil)))) .anil)) .anil))) (.acons (.cst (.str "many")) .anil))) (.acons (.tup (.acons (.tup (.acons (.cst (.int 12)) (.acons (.bin false .Mult (.tup (.acons (.tup (.acons (.cst (.int 11)) (.acons (.cst (.int 0)) (.acons (.bin false .Sub (.cst (.int 0)) (.cst (.int 99))) .anil)))) .anil)) (.cst (.int 60))) .anil))) (.acons (.cst (.str "")) .anil))) .anil)))) .anil) (LW none none none none none none none none none) [F, .lst st, .lst (prb5.map enP)] = .ok [.fl (prb3.map enP)] [F, .lst st, .lst (prb5.map enP)] := by
    generalize [F, Cell.lst st, .lst (prb5.map enP)] = H
    simp [e60, z1, z2, z3, prb3, enP, pI, bI]
  rw [evS_expr, ev_bmeth, ev_var]
  simp only [List.getElem?_cons_succ, List.getElem?_cons_zero, R.bind_ok]
  rw [if_pos il, ev3, R.bind_ok, ee, andS_ok]
  simp [Zb]
theorem st_3 : evS (pg.cfg 40) (.ite (.bcall false .any (.acons (.comp false [3, 19] (.tup (.tcons (.name 3) (.tcons (.name 19) .tnil))) (.iseq (.var 2)) (.cst (.bl true)) (.cmp .NotEq (.call false "_law_code" (.acons (.var 3) .anil)) (.var 19))) .anil)) (.scons (.ret (.cst (.bl false))) .snil) .snil) (LW none none none none none none none none none) [F, .lst st, Zb] = .nx (LW none none none none none none none none none) [F, .lst st, Zb] := by
  have hl : lstAt [F, .lst st, Zb] 2 = some ((prb5 ++ prb3).map enP) := lstAt_of rfl
  have il : itemsD [F, .lst st, Zb] (.loc 2) = some ((prb5 ++ prb3).map enP) := hl
  have zz : (prb5 ++ prb3).length ≤ sizeLine := by rw [size_big]; simp [prb5, prb3]
  have hp := prb_ok
  generalize [F, .lst st, Zb] = H at *
  generalize prb5 ++ prb3 = ps at *
  have c : evT (pg.cfg 40) (.bcall false .any (.acons (.comp false [3, 19] (.tup (.tcons (.name 3) (.tcons (.name 19) .tnil))) (.iseq (.var 2)) (.cst (.bl true)) (.cmp .NotEq (.call false "_law_code" (.acons (.var 3) .anil)) (.var 19))) .anil)) (LW none none none none none none none none none) H = .ok false H := by
    rw [ev_T, ev_bcall, evs_acons, ev_comp, evI_iseq, ev_var]
    simp only [List.getElem?_cons_succ, List.getElem?_cons_zero, R.bind_ok, itemsK_loc, il, Option.map_some, ofO_some]
    rw [comp_l (m := false) (f := fun _ : FL.D × Str => FL.D.bl false) (fun p hpm => ?_) zz]
    · have : btD false .any [.fl (ps.map fun _ : FL.D × Str => FL.D.bl false)] H = .ok (.bl false) H := by
        rw [any_fl (p := fun _ : FL.D × Str => false)]
        simp
      simp [this]
    · obtain ⟨h1, h2⟩ := hp p hpm
      simp [cstep, wipe, enP, h2, eq_str2 h1 h1]
  rw [evS_ite, c]
  simp
end
theorem ok_code : True := trivial
theorem pure_law (ns : List Int) (hz : ns.length ≤ 63) : ∃ h, pg.call 41 t_law.name [.loc 0] [.flst (ns.map .int)] = .ok (.bl true) h := by
  obtain ⟨st0, hs0, e0⟩ := begin_ok (P := pg) (k := 39) l__law_begin hz
  have e0 : gcX true [.flst (ns.map .int)] (pg.call 40 "_law_begin" [.loc 0] [.flst (ns.map .int)]) = .ok (.loc 1) [.flst (ns.map .int), .lst st0] := e0
  revert e0
  generalize Cell.flst (ns.map .int) = F
  intro e0
  rw [show pg.call 41 t_law.name = pg.call 41 "law" from rfl, call_eq l_law rfl]
  show ∃ h, (evS (pg.cfg 40) b_law [some (.loc 0), none, none, none, none, none, none, none, none, none, none, none, none, none, none, none, none, none, none, none, none, none, none] [F]).call = .ok (.bl true) h
  unfold b_law
  rw [seq_nx (ls1 := [some (.loc 0), some (.loc 1), none, none, none, none, none, none, none, none, none, none, none, none, none, none, none, none, none, none, none, none, none]) (h1 := [F, .lst st0]) (by simp [e0])]
  rw [seq_nx st_1, seq_nx st_2, seq_nx st_3]
  generalize Zb = Z
  obtain ⟨n, B, st1, hs1, n2, n5, ok, nse, zB, hK, e1⟩ := bounds_call (k := 38) (F := F) (Z := Z) hs0
  have e1 : gcX false [F, .lst st0, Z] (pg.call 40 "_law_bounds" [.loc 1, .int 5, .int 9] [F, .lst st0, Z]) = .ok (pD n B) [F, .lst st1, Z] := e1
  have z1 : 1 ≤ sizeLine := by rw [size_big]; omega
  have z2 : 2 ≤ sizeLine := by rw [size_big]; omega
  have sm : small (n : Int) := by unfold small; omega
  have zr : (List.range n).length ≤ sizeLine := by rw [List.length_range, size_big]; omega
  rw [seq_nx (ls1 := LW (some (pD n B)) none none none none none none none none) (h1 := [F, .lst st1, Z]) (by simp [e1])]
  rw [seq_nx (ls1 := LW (some (pD n B)) none none none none (some (.int n)) (some (.tup (B.map bD))) none none) (h1 := [F, .lst st1, Z]) (by simp)]
  have tc := table_call (k := 39) (h := [F, .lst st1, Z]) ok (by omega) (by omega : B.length ≤ 1000)
  have tc : gcX false [F, .lst st1, Z] (pg.call 40 "_law_table" [pD n B] [F, .lst st1, Z]) = .ok (tblD n (T_ B n)) [F, .lst st1, Z] := tc
  have hc := has_call (k := 38) (h := [F, .lst st1, Z]) ok (by omega) (by omega : B.length ≤ 1000)
  have hc : gcX false [F, .lst st1, Z] (pg.call 40 "_law_has" [pD n B] [F, .lst st1, Z]) = _ := hc
  obtain ⟨d, es, hd⟩ := solve_call (k := 37) (h := [F, .lst st1, Z]) ok nse (by omega) (by omega : B.length ≤ 1000)
  have es : gcX false [F, .lst st1, Z] (pg.call 40 "solve_differences" [pD n B] [F, .lst st1, Z]) = _ := es
  rw [seq_nx (ls1 := LW (some (pD n B)) (some (tblD n (T_ B n))) none none none (some (.int n)) (some (.tup (B.map bD))) none none) (h1 := [F, .lst st1, Z]) (by simp [tc])]
  rcases hd with ⟨t, hcl, rfl⟩ | ⟨ks, hN, hcir, rfl⟩
  · -- numbers
    have hh := num_has hcl
    rw [hh] at hc
    rw [seq_nx (ls1 := LW (some (pD n B)) (some (tblD n (T_ B n))) none none none (some (.int n)) (some (.tup (B.map bD))) (some (.str "numbers")) (some (.tup (nums n (V.st B (fun _ => some 0) (t * B.length)).N)))) (h1 := [F, .lst st1, Z]) (by simp [es])]
    rw [seq_nx (ls1 := LW (some (pD n B)) (some (tblD n (T_ B n))) none none none (some (.int n)) (some (.tup (B.map bD))) (some (.str "numbers")) (some (.tup (nums n (V.st B (fun _ => some 0) (t * B.length)).N)))) (h1 := [F, .lst st1, Z]) (by simp [hc, eq_str2 ok_nn ok_nn])]
    have hv : ∀ a, a < n → ∃ x, (V.st B (fun _ => some 0) (t * B.length)).N a = some x ∧ (∀ b w, b < n → T_ B n a b = some w → x ≤ w) ∧ ∃ b, b < n ∧ T_ B n a b = some x := fun a ha => grt ok (hasB_iff.mp hh) ha hcl
    have hf := zero_fit hcl
    generalize V.st B (fun _ => some 0) (t * B.length) = s at *
    let xs : List Int := (List.range n).map fun a => (s.N a).getD 0
    have lx : xs.length = n := by simp [xs]
    have ex : nums n s.N = xs.map .int := by
      unfold nums
      rw [List.map_map]
      refine List.map_congr_left fun a ha => ?_
      obtain ⟨x, hx, _⟩ := hv a (List.mem_range.mp ha)
      simp [hx, co]
    have fx : fitB B xs = true := by
      have gd : ∀ x, x < n → xs.getD x 0 = (s.N x).getD 0 := fun x hx => by
        simp only [xs]
        rw [List.getD_eq_getElem?_getD, List.getElem?_map, List.getElem?_range hx]; rfl
      unfold fitB
      rw [List.all_eq_true]
      intro e he
      obtain ⟨o1, o2⟩ := ok e he
      rw [gd _ o1, gd _ o2, decide_eq_true_eq]
      exact hf e he
    rw [ex]
    obtain ⟨st2, s5, hs2, L9⟩ := loop_9 (F := F) (Z := Z) (s0 := some (.loc 0)) (s2 := some (.loc 2)) (s4 := some (tblD n (T_ B n))) (s6 := none) (s7 := none) (s8 := none) (s11 := some (.str "numbers")) (s12 := some (.tup (xs.map .int))) (s14 := none) (s15 := none) (s16 := none) (s17 := none) (s18 := none) (s19 := none) (s20 := none) (s21 := none) (s22 := none) hs1 ok n5 zB
    rw [seq_nx L9]
    -- two drawn numbers
    have S10 : ∃ (cs : List Int) (st3 : List FL.D), DSt st3 ∧ cs.length ≤ 10 ∧ evS (pg.cfg 40) (.asg (.tgt (.name 6)) (.ite (.cmp .Eq (.var 11) (.cst (.str "circle"))) (.var 12) (.bcall false .tuple (.acons (.comp false [20] (.name 20) (.irange (.acons (.cst (.int 2)) .anil)) (.cst (.bl true)) (.call false "_law_take" (.acons (.var 1) (.acons (.bin false .Add (.bcall false .len (.acons (.var 10) .anil)) (.cst (.int 1))) .anil)))) .anil)))) (LW (some (pD n B)) (some (tblD n (T_ B n))) s5 none none (some (.int n)) (some (.tup (B.map bD))) (some (.str "numbers")) (some (.tup (xs.map .int)))) (G3 F Z st2) = .nx (LW (some (pD n B)) (some (tblD n (T_ B n))) s5 (some (.tup (cs.map .int))) none (some (.int n)) (some (.tup (B.map bD))) (some (.str "numbers")) (some (.tup (xs.map .int)))) (G3 F Z st3) := by
      have s2' : small (2 : Int) := by unfold small; omega
      obtain ⟨r, st3, _, hs3, e3⟩ := tk (F := F) (Z := Z) hs2 (many := (B.length : Int) + 1) (by omega) (by omega)
      obtain ⟨q, st4, _, hs4, e4⟩ := tk (F := F) (Z := Z) hs3 (many := (B.length : Int) + 1) (by omega) (by omega)
      refine ⟨[(r : Int), (q : Int)], st4, hs4, by simp, ?_⟩
      have e2 : rangeD 0 2 = [.int 0, .int 1] := rfl
      simp [eq_str2 ok_nn ok_nc, ne_nc, s2', e2, compL, cstep, wipe, e3, e4, z2]
    obtain ⟨cs, st3, hs3, zc, S10⟩ := S10
    rw [seq_nx S10]
    rw [seq_nx (ls1 := LW (some (pD n B)) (some (tblD n (T_ B n))) s5 (some (.tup (cs.map .int))) none (some (.int n)) (some (.tup (B.map bD))) (some (.str "numbers")) (some (.tup (xs.map .int)))) (h1 := G3 F Z st3) (by simp [eq_str2 ok_nn ok_nc, ne_nc])]
    obtain ⟨st4, t5, t6, hs4, L12⟩ := loop_12 (F := F) (Z := Z) (n := n) (s0 := some (.loc 0)) (s2 := some (.loc 2)) (s4 := some (tblD n (T_ B n))) (s5 := s5) (s7 := none) (s8 := none) (s11 := some (.str "numbers")) (s12 := some (.tup (xs.map .int))) (s13 := none) (s16 := none) (s17 := none) (s18 := none) (s19 := none) (s20 := none) (s21 := none) (s22 := none) hs3 zc zB
    rw [seq_nx L12]
    rw [seq_nx (ls1 := LW (some (pD n B)) (some (tblD n (T_ B n))) t5 t6 none (some (.int n)) (some (.tup (B.map bD))) (some (.str "numbers")) (some (.tup (xs.map .int)))) (h1 := G3 F Z st4) (by simp [eq_str2 ok_nn ok_nc, ne_nc])]
    have S14 : evS (pg.cfg 40) (.asg (.tgt (.name 7)) (.bcall false .tuple (.acons (.comp false [8] (.name 8) (.irange (.acons (.var 9) .anil)) (.cst (.bl true)) (.bcall false .min (.acons (.comp false [16] (.name 16) (.irange (.acons (.var 9) .anil)) (.cmp .IsNot (.idx (.idx (.var 4) (.var 8)) (.var 16)) (.cst .non)) (.idx (.idx (.var 4) (.var 8)) (.var 16))) .anil))) .anil))) (LW (some (pD n B)) (some (tblD n (T_ B n))) t5 t6 none (some (.int n)) (some (.tup (B.map bD))) (some (.str "numbers")) (some (.tup (xs.map .int)))) (G3 F Z st4) = .nx (LW (some (pD n B)) (some (tblD n (T_ B n))) t5 t6 (some (.tup (xs.map .int))) (some (.int n)) (some (.tup (B.map bD))) (some (.str "numbers")) (some (.tup (xs.map .int)))) (G3 F Z st4) := by
      refine asg_t (by simp) ?_
      rw [ev_bcall, evs_acons, ev_comp]
      simp only [evI_irange, evs_acons, ev_var, evs_anil, List.getElem?_cons_succ, List.getElem?_cons_zero, R.bind_ok]
      rw [if_pos sm, R.bind_ok, rangeD_nat]
      rw [comp_l (m := false) (f := fun a => FL.D.int ((s.N a).getD 0)) (fun a ha => ?_) zr]
      · have : (List.range n).map (fun a => FL.D.int ((s.N a).getD 0)) = xs.map .int := by simp [xs, Function.comp_def]
        rw [this]; simp
      · have ha := List.mem_range.mp ha
        obtain ⟨x, hx, hl, b0, hb0, hT0⟩ := hv a ha
        have ir := fun H => tbl_row (T := T_ B n) ha H
        generalize tblD n (T_ B n) = TD at *
        have inner : ∀ H, ev (pg.cfg 40) (.bcall false .min (.acons (.comp false [16] (.name 16) (.irange (.acons (.var 9) .anil)) (.cmp .IsNot (.idx (.idx (.var 4) (.var 8)) (.var 16)) (.cst .non)) (.idx (.idx (.var 4) (.var 8)) (.var 16))) .anil)) [some (.loc 0), some (.loc 1), some (.loc 2), some (pD n B), some TD, t5, t6, none, some (.int (a : Nat)), some (.int n), some (.tup (B.map bD)), some (.str "numbers"), some (.tup (xs.map .int)), none, none, none, none, none, none, none, none, none, none] H = .ok (.int x) H := by
          intro H
          rw [ev_bcall, evs_acons, ev_comp]
          simp only [evI_irange, evs_acons, ev_var, evs_anil, List.getElem?_cons_succ, List.getElem?_cons_zero, R.bind_ok]
          rw [if_pos sm, R.bind_ok, rangeD_nat]
          rw [comp_lf (m := false) (p := fun b => (T_ B n a b).isSome) (f := fun b => FL.D.int ((T_ B n a b).getD 0)) (fun b hb => ?_) zr]
          · have em : ((List.range n).filter fun b => (T_ B n a b).isSome).map (fun b => FL.D.int ((T_ B n a b).getD 0)) = (((List.range n).filter fun b => (T_ B n a b).isSome).map fun b => (T_ B n a b).getD 0).map .int := by rw [List.map_map]; rfl
            rw [em]
            have bl := best_least (xs := ((List.range n).filter fun b => (T_ B n a b).isSome).map fun b => (T_ B n a b).getD 0) (r := x) (List.mem_map.mpr ⟨b0, List.mem_filter.mpr ⟨List.mem_range.mpr hb0, by rw [hT0]; rfl⟩, by rw [hT0]; rfl⟩) (by
              intro y hy
              obtain ⟨b, hb, rfl⟩ := List.mem_map.mp hy
              obtain ⟨hb1, hb2⟩ := List.mem_filter.mp hb
              obtain ⟨w, hw⟩ := Option.isSome_iff_exists.mp hb2
              rw [hw]
              exact hl b w (List.mem_range.mp hb1) hw)
            rw [newM_false, R.bind_ok, R.bind_ok]
            simp only [btD, items_fl, Option.bind_some]
            rw [bl H]; rfl
          · have hb := List.mem_range.mp hb
            have ia := at_nums (N := T_ B n a) hb
            cases hT : T_ B n a b with
            | none =>
              rw [hT] at ia
              simp [cstep, wipe, ir, ia, co, isNon]
            | some w =>
              rw [hT] at ia
              simp [cstep, wipe, ir, ia, co, isNon]
        rw [hx, Option.getD_some]
        simp [-ev_bcall, cstep, wipe, inner]
    rw [seq_nx S14]
    have lf := lfits_call (k := 39) (h := G3 F Z st4) lx ok (by omega) (by omega)
    rw [fx] at lf
    have lf : gcX false (G3 F Z st4) (pg.call 40 "_law_fits" [pD n B, .tup (xs.map .int)] (G3 F Z st4)) = _ := lf
    have ee : eqD (G3 F Z st4) (.tup (xs.map .int)) (.tup (xs.map .int)) = some true := by
      have := Eqq.int.tup.eq (by decide) (G3 F Z st4) xs xs
      rw [decide_eq_true rfl] at this
      exact this
    rw [seq_nx (ls1 := LW (some (pD n B)) (some (tblD n (T_ B n))) t5 t6 (some (.tup (xs.map .int))) (some (.int n)) (some (.tup (B.map bD))) (some (.str "numbers")) (some (.tup (xs.map .int)))) (h1 := G3 F Z st4) (by
      generalize tblD n (T_ B n) = TD
      generalize xs.map FL.D.int = xd at *
      simp [lf, ee])]
    obtain ⟨st5, hs5, L16⟩ := loop_16 (F := F) (Z := Z) (s0 := some (.loc 0)) (s2 := some (.loc 2)) (s5 := t5) (s6 := t6) (s7 := some (.tup (xs.map .int))) (s11 := some (.str "numbers")) (s12 := some (.tup (xs.map .int))) (s13 := none) (s14 := none) (s15 := none) (s19 := none) (s20 := none) hs4 ok nse n5 zB hh
    rw [seq_nx L16]
    have f1 := told_exc (tight_num (k := 34) (h := G3 F Z st5) (a := (n : Int)) (b := 0) ok nse (by omega) (by omega) hh (.inl (by omega)))
    have f1 : gcX false (G3 F Z st5) (pg.call 40 "_law_told" [pD n B, .int n, .int 0] (G3 F Z st5)) = _ := f1
    have f2 := told_exc (tight_num (k := 34) (h := G3 F Z st5) (a := 0) (b := -1) ok nse (by omega) (by omega) hh (.inr (by omega)))
    have f2 : gcX false (G3 F Z st5) (pg.call 40 "_law_told" [pD n B, .int 0, .int (-1)] (G3 F Z st5)) = _ := f2
    have f3 := told_ok (k := 39) (by simp) (tight_same (k := 34) (h := G3 F Z st5) (a := 0) ok nse (by omega) (by omega) hh (by omega))
    have f3 : gcX false (G3 F Z st5) (pg.call 40 "_law_told" [pD n B, .int 0, .int 0] (G3 F Z st5)) = .ok (.tup [.int 0, .tup []]) (G3 F Z st5) := f3
    have e3 : eqD (G3 F Z st5) (.tup [.int 0, .tup []]) (.tup [.int 0, .tup []]) = some true := eq_self (p := .tuple [.int 0, .tuple []]) rfl rfl (by decide)
    refine ⟨G3 F Z st5, ?_⟩
    rw [seq_rt (d := .bl true) (h1 := G3 F Z st5) (by
      generalize tblD n (T_ B n) = TD
      simp [f1, f2, f3, e3, eq_str2 ok_nb ok_nb, z2])]
    rfl
  · -- a circle
    have hh : hasB B = false := hasB_not.mpr hN
    rw [hh] at hc
    have lk : ks.length ≤ 10 := by
      have := nd_le B.length ks hcir.2.2.1 hcir.2.1
      omega
    have ek : ks.map (fun m : Nat => FL.D.int m) = (ks.map fun m : Nat => (m : Int)).map .int := by rw [List.map_map]; rfl
    have cb := cir_cB hcir
    rw [ek] at es
    have lc : (ks.map fun m : Nat => (m : Int)).length ≤ 10 := by simpa using lk
    generalize (ks.map fun m : Nat => (m : Int)) = cs at *
    rw [seq_nx (ls1 := LW (some (pD n B)) (some (tblD n (T_ B n))) none none none (some (.int n)) (some (.tup (B.map bD))) (some (.str "circle")) (some (.tup (cs.map .int)))) (h1 := [F, .lst st1, Z]) (by simp [es])]
    rw [seq_nx (ls1 := LW (some (pD n B)) (some (tblD n (T_ B n))) none none none (some (.int n)) (some (.tup (B.map bD))) (some (.str "circle")) (some (.tup (cs.map .int)))) (h1 := [F, .lst st1, Z]) (by simp [hc, eq_str2 ok_nc ok_nn, ne_cn])]
    obtain ⟨st2, s5, hs2, L9⟩ := loop_9 (F := F) (Z := Z) (s0 := some (.loc 0)) (s2 := some (.loc 2)) (s4 := some (tblD n (T_ B n))) (s6 := none) (s7 := none) (s8 := none) (s11 := some (.str "circle")) (s12 := some (.tup (cs.map .int))) (s14 := none) (s15 := none) (s16 := none) (s17 := none) (s18 := none) (s19 := none) (s20 := none) (s21 := none) (s22 := none) hs1 ok n5 zB
    rw [seq_nx L9]
    rw [seq_nx (ls1 := LW (some (pD n B)) (some (tblD n (T_ B n))) s5 (some (.tup (cs.map .int))) none (some (.int n)) (some (.tup (B.map bD))) (some (.str "circle")) (some (.tup (cs.map .int)))) (h1 := G3 F Z st2) (by
      generalize tblD n (T_ B n) = TD
      simp [eq_str2 ok_nc ok_nc])]
    have t2 := lcircle_call (k := 39) (h := G3 F Z st2) (n := n) (B := B) (cs := cs) (by omega) (by omega)
    rw [cb] at t2
    have t2 : gcX false (G3 F Z st2) (pg.call 40 "_law_circle" [pD n B, .tup (cs.map .int)] (G3 F Z st2)) = _ := t2
    rw [seq_nx (ls1 := LW (some (pD n B)) (some (tblD n (T_ B n))) s5 (some (.tup (cs.map .int))) none (some (.int n)) (some (.tup (B.map bD))) (some (.str "circle")) (some (.tup (cs.map .int)))) (h1 := G3 F Z st2) (by
      generalize tblD n (T_ B n) = TD
      simp [eq_str2 ok_nc ok_nc, t2])]
    obtain ⟨st4, t5, t6, hs4, L12⟩ := loop_12 (F := F) (Z := Z) (n := n) (s0 := some (.loc 0)) (s2 := some (.loc 2)) (s4 := some (tblD n (T_ B n))) (s5 := s5) (s7 := none) (s8 := none) (s11 := some (.str "circle")) (s12 := some (.tup (cs.map .int))) (s13 := none) (s16 := none) (s17 := none) (s18 := none) (s19 := none) (s20 := none) (s21 := none) (s22 := none) hs2 lc zB
    rw [seq_nx L12]
    have f1 := told_exc (tight_neg (k := 34) (h := G3 F Z st4) (a := 0) (b := 1) ok nse (by omega) (by omega) hh)
    have f1 : gcX false (G3 F Z st4) (pg.call 40 "_law_told" [pD n B, .int 0, .int 1] (G3 F Z st4)) = _ := f1
    have f2 := told_exc (tight_neg (k := 34) (h := G3 F Z st4) (a := 0) (b := 99) ok nse (by omega) (by omega) hh)
    have f2 : gcX false (G3 F Z st4) (pg.call 40 "_law_told" [pD n B, .int 0, .int 99] (G3 F Z st4)) = _ := f2
    refine ⟨G3 F Z st4, ?_⟩
    rw [seq_rt (d := .bl true) (h1 := G3 F Z st4) (by
      generalize tblD n (T_ B n) = TD
      simp [f1, f2, eq_str2 ok_nc ok_nc])]
    rfl
end FL.L
open PySem PySem.W PyProof.Rows in
set_option maxRecDepth 100000 in
set_option maxHeartbeats 0 in
theorem PySem.Challenge.cw_solverhall_k18_whole_differences_holds : PySem.Challenge.rw_solverhall_k18_whole_differences.Holds := by
  w_on; o_law; k_head; (case hw => w_witness2)
  k_fill
  refine FL.walk (l := PySem.Challenge.rw_solverhall_k18_whole_differences) (k := 40) (G := FL.L.sg) (P := FL.L.pg) (L := FL.L.defs) (t := FL.L.t_law) rfl rfl ⟨rfl, by decide, by decide⟩ (fun w h Y => PySem.W.kIn_of Y) rfl FL.L.law_mem ?lk rfl ?tk FL.L.pure_law
  case lk =>
    intro w
    (refine' FL.defK_mk (t := FL.L.t_law) ?za ?zl ?zc ?zk; (case za => k_is); (case zl => k_is); (case zc => k_is); (case zk => k_is))
  case tk =>
    intro w
    refine' FL.L.text_mk ?d_check_differences ?d_fits ?d_solve_differences ?d_takes_circle ?d_need_numbers ?d_reached_from ?d_tightest ?d_follows_bound ?d__law_begin ?d__law_take ?d__law_pick ?d__law_bounds ?d__law_table ?d__law_has ?d__law_fits ?d__law_circle ?d__law_code ?d__law_told ?d__law_leads ?d_law ?n_abs ?n_all ?n_any ?n_enumerate ?n_int ?n_len ?n_list ?n_min ?n_range ?n_set ?n_sum ?n_tuple ?cC_Lowering ?cM_Lowering_circle ?cM_Lowering_go ?cM_Lowering_turn ?cI_Lowering ?g_MOST_BOUNDS ?g_MOST_NUMBERS ?e_InputError
    (case d_check_differences => (refine' FL.defK_mk (t := FL.L.t_check_differences) ?za ?zl ?zc ?zk; (case za => k_is); (case zl => k_is); (case zc => k_is); (case zk => k_is)))
    (case d_fits => (refine' FL.defK_mk (t := FL.L.t_fits) ?za ?zl ?zc ?zk; (case za => k_is); (case zl => k_is); (case zc => k_is); (case zk => k_is)))
    (case d_solve_differences => (refine' FL.defK_mk (t := FL.L.t_solve_differences) ?za ?zl ?zc ?zk; (case za => k_is); (case zl => k_is); (case zc => k_is); (case zk => k_is)))
    (case d_takes_circle => (refine' FL.defK_mk (t := FL.L.t_takes_circle) ?za ?zl ?zc ?zk; (case za => k_is); (case zl => k_is); (case zc => k_is); (case zk => k_is)))
    (case d_need_numbers => (refine' FL.defK_mk (t := FL.L.t_need_numbers) ?za ?zl ?zc ?zk; (case za => k_is); (case zl => k_is); (case zc => k_is); (case zk => k_is)))
    (case d_reached_from => (refine' FL.defK_mk (t := FL.L.t_reached_from) ?za ?zl ?zc ?zk; (case za => k_is); (case zl => k_is); (case zc => k_is); (case zk => k_is)))
    (case d_tightest => (refine' FL.defK_mk (t := FL.L.t_tightest) ?za ?zl ?zc ?zk; (case za => k_is); (case zl => k_is); (case zc => k_is); (case zk => k_is)))
    (case d_follows_bound => (refine' FL.defK_mk (t := FL.L.t_follows_bound) ?za ?zl ?zc ?zk; (case za => k_is); (case zl => k_is); (case zc => k_is); (case zk => k_is)))
    (case d__law_begin => (refine' FL.defK_mk (t := FL.L.t__law_begin) ?za ?zl ?zc ?zk; (case za => k_is); (case zl => k_is); (case zc => k_is); (case zk => k_is)))
    (case d__law_take => (refine' FL.defK_mk (t := FL.L.t__law_take) ?za ?zl ?zc ?zk; (case za => k_is); (case zl => k_is); (case zc => k_is); (case zk => k_is)))
    (case d__law_pick => (refine' FL.defK_mk (t := FL.L.t__law_pick) ?za ?zl ?zc ?zk; (case za => k_is); (case zl => k_is); (case zc => k_is); (case zk => k_is)))
    (case d__law_bounds => (refine' FL.defK_mk (t := FL.L.t__law_bounds) ?za ?zl ?zc ?zk; (case za => k_is); (case zl => k_is); (case zc => k_is); (case zk => k_is)))
    (case d__law_table => (refine' FL.defK_mk (t := FL.L.t__law_table) ?za ?zl ?zc ?zk; (case za => k_is); (case zl => k_is); (case zc => k_is); (case zk => k_is)))
    (case d__law_has => (refine' FL.defK_mk (t := FL.L.t__law_has) ?za ?zl ?zc ?zk; (case za => k_is); (case zl => k_is); (case zc => k_is); (case zk => k_is)))
    (case d__law_fits => (refine' FL.defK_mk (t := FL.L.t__law_fits) ?za ?zl ?zc ?zk; (case za => k_is); (case zl => k_is); (case zc => k_is); (case zk => k_is)))
    (case d__law_circle => (refine' FL.defK_mk (t := FL.L.t__law_circle) ?za ?zl ?zc ?zk; (case za => k_is); (case zl => k_is); (case zc => k_is); (case zk => k_is)))
    (case d__law_code => (refine' FL.defK_mk (t := FL.L.t__law_code) ?za ?zl ?zc ?zk; (case za => k_is); (case zl => k_is); (case zc => k_is); (case zk => k_is)))
    (case d__law_told => (refine' FL.defK_mk (t := FL.L.t__law_told) ?za ?zl ?zc ?zk; (case za => k_is); (case zl => k_is); (case zc => k_is); (case zk => k_is)))
    (case d__law_leads => (refine' FL.defK_mk (t := FL.L.t__law_leads) ?za ?zl ?zc ?zk; (case za => k_is); (case zl => k_is); (case zc => k_is); (case zk => k_is)))
    (case d_law => (refine' FL.defK_mk (t := FL.L.t_law) ?za ?zl ?zc ?zk; (case za => k_is); (case zl => k_is); (case zc => k_is); (case zk => k_is)))
    (case n_abs => k_is)
    (case n_all => k_is)
    (case n_any => k_is)
    (case n_enumerate => k_is)
    (case n_int => k_is)
    (case n_len => k_is)
    (case n_list => k_is)
    (case n_min => k_is)
    (case n_range => k_is)
    (case n_set => k_is)
    (case n_sum => k_is)
    (case n_tuple => k_is)
    (case cC_Lowering => (refine' FL.clsK_mk (c := "Lowering") ?za ?zb ?zc ?zd ?ze ?zn; (case za => k_is); (case zb => k_is); (case zc => k_is); (case zd => k_is); (case ze => k_is); (case zn => ((refine' List.forall_mem_cons.mpr ⟨?z1, ?z2⟩; (case z1 => k_is); (case z2 => (refine' List.forall_mem_cons.mpr ⟨?z1, ?z2⟩; (case z1 => k_is); (case z2 => (refine' List.forall_mem_cons.mpr ⟨?z1, ?z2⟩; (case z1 => k_is); (case z2 => (exact fun _ h => nomatch h)))))))))))
    (case cM_Lowering_circle => (refine' FL.methK_mk (c := "Lowering") (m := "circle") (t := FL.L.t_Lowering_circle) ?zaC ?zpg ?zhd ?zpo ?zsa ?za ?zi ?zl ?zcc ?zk; (case zaC => k_is); (case zpg => k_is); (case zhd => k_is); (case zpo => k_is); (case zsa => k_is); (case za => k_is); (case zi => k_is); (case zl => k_is); (case zcc => k_is); (case zk => k_is)))
    (case cM_Lowering_go => (refine' FL.methK_mk (c := "Lowering") (m := "go") (t := FL.L.t_Lowering_go) ?zaC ?zpg ?zhd ?zpo ?zsa ?za ?zi ?zl ?zcc ?zk; (case zaC => k_is); (case zpg => k_is); (case zhd => k_is); (case zpo => k_is); (case zsa => k_is); (case za => k_is); (case zi => k_is); (case zl => k_is); (case zcc => k_is); (case zk => k_is)))
    (case cM_Lowering_turn => (refine' FL.methK_mk (c := "Lowering") (m := "turn") (t := FL.L.t_Lowering_turn) ?zaC ?zpg ?zhd ?zpo ?zsa ?za ?zi ?zl ?zcc ?zk; (case zaC => k_is); (case zpg => k_is); (case zhd => k_is); (case zpo => k_is); (case zsa => k_is); (case za => k_is); (case zi => k_is); (case zl => k_is); (case zcc => k_is); (case zk => k_is)))
    (case cI_Lowering => (refine' FL.initK_mk (c := "Lowering") (t := FL.L.t_Lowering___init__) ?zaC ?zmk ?zkc ?za ?zi ?zl ?zcc ?zk; (case zaC => k_is); (case zmk => k_is); (case zkc => k_is); (case za => k_is); (case zi => k_is); (case zl => k_is); (case zcc => k_is); (case zk => k_is)))
    (case g_MOST_BOUNDS => (refine' FL.glob_int ?za; (case za => k_is)))
    (case g_MOST_NUMBERS => (refine' FL.glob_int ?za; (case za => k_is)))
    (case e_InputError => (refine' FL.EX.txtK_mk ?zgC ?zgS ?zpS ?zxC ?zsa ?zga ?zgg ?znoN ?ziC ?ztC ?zkC ?zexC ?zveC ?zseC ?ztyC ?zhdC ?zsuI ?zmrC ?zopq ?zlF ?zcF ?zhl ?zlc ?zld ?zhv ?zhf; (case zgC => k_is); (case zgS => k_is); (case zpS => rfl); (case zxC => k_is); (case zsa => k_is); (case zga => k_is); (case zgg => k_is); (case znoN => k_is); (case ziC => k_is); (case ztC => k_is); (case zkC => k_is); (case zexC => k_is); (case zveC => k_is); (case zseC => k_is); (case ztyC => k_is); (case zhdC => k_is); (case zsuI => ks_is); (case zmrC => k_is); (case zopq => k_is); (case zlF => k_is); (case zcF => k_is); (case zhl => rfl); (case zlc => k_is); (case zld => k_is); (case zhv => rfl); (case zhf => rfl)))
