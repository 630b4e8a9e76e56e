import PyProof.Rows.All
import HandS.List
import HandS.Text
import HandS.Dict
import HandS.ForExc
import HandS.CallSlots
import HandS.Comp
import HandS.Iter
import HandS.TupAny
import HandS.TupMul
import HandS.Wide
import HandS.Zip
import HandS.IsInst
import HandS.Style
import HandS.Star
import HandS.Small
import HandS.WordsDict
import HandS.Gcd
import HandS.Flt
import KE.KTupSum
import PyProof.StrOps2
import PyProof.NeKinds
import PyProof.EqKinds
import HandS.Deep
import HandS.HotCalls
import HandS.ExcInitHot
import HandS.ExcField
import HandS.WordsExc
import KE.KExcIs
import HandS.RaiseMore
import HandS.ExcIs
import HandS.More
import KE.GoesNew
import HandS.NoneIn
import PySem.Challenge.RW_pastever_k30_steps_one_by_one
section
set_option linter.all false
/-! PDcore: a small evaluator over plain data for the part of Python that the laws use. -/
namespace PD
open PySem

/-- plain data; `ref n` is the n-th mutable cell of the store; `rol` a list that is only read -/
inductive D where
  | non | bl (b : Bool) | int (i : Int) | str (s : Str) | tup (ds : List D) | rol (ds : List D) | ref (n : Nat) | fnv (x : Str)
  deriving Inhabited

inductive Cell where
  | lst (ds : List D) | dic (kvs : List (L2.Key × D)) | oth
  deriving Inhabited
abbrev Store := List Cell
/-- an exception: its class and its field's value -/
structure Exn where
  cls : Nat
  fs : List D

inductive R (α : Type) where
  | ok (a : α) (S : Store) | exc (x : Exn) (S : Store) | stuck
@[inline] def R.bind {α β : Type} (r : R α) (f : α → Store → R β) : R β :=
  match r with
  | .ok a S => f a S
  | .exc x S => .exc x S
  | .stuck => .stuck
def R.noexc {α : Type} : R α → R α
  | .exc _ _ => .stuck
  | r => r
@[simp] theorem R.bind_ok {α β : Type} (a : α) (S : Store) (f : α → Store → R β) : R.bind (.ok a S) f = f a S := rfl
@[simp] theorem R.bind_exc {α β : Type} (x : Exn) (S : Store) (f : α → Store → R β) : R.bind (.exc x S : R α) f = .exc x S := rfl
@[simp] theorem R.bind_stuck {α β : Type} (f : α → Store → R β) : R.bind (.stuck : R α) f = .stuck := rfl
@[simp] theorem R.noexc_ok {α : Type} (a : α) (S : Store) : R.noexc (.ok a S) = .ok a S := rfl

/-! equality of data -/
mutual
def D.eqb : D → D → Bool
  | .non, .non => true
  | .bl a, .bl b => a == b
  | .int a, .int b => a == b
  | .str a, .str b => decide (a = b)
  | .tup a, .tup b => D.eqbs a b
  | .rol a, .rol b => D.eqbs a b
  | .ref a, .ref b => a == b
  | .fnv a, .fnv b => decide (a = b)
  | _, _ => false
def D.eqbs : List D → List D → Bool
  | [], [] => true
  | x :: xs, y :: ys => D.eqb x y && D.eqbs xs ys
  | _, _ => false
end
mutual
theorem D.eqb_refl : ∀ d : D, D.eqb d d = true
  | .non => by simp [D.eqb]
  | .bl _ => by simp [D.eqb]
  | .int _ => by simp [D.eqb]
  | .str _ => by simp [D.eqb]
  | .tup ds => by simp [D.eqb, D.eqbs_refl ds]
  | .rol ds => by simp [D.eqb, D.eqbs_refl ds]
  | .ref _ => by simp [D.eqb]
  | .fnv _ => by simp [D.eqb]
theorem D.eqbs_refl : ∀ ds : List D, D.eqbs ds ds = true
  | [] => by simp [D.eqbs]
  | d :: ds => by simp [D.eqbs, D.eqb_refl d, D.eqbs_refl ds]
end
mutual
theorem D.eqb_eq : ∀ a b : D, D.eqb a b = true → a = b
  | .non, b, h => by cases b <;> simp_all [D.eqb]
  | .bl _, b, h => by cases b <;> simp_all [D.eqb]
  | .int _, b, h => by cases b <;> simp_all [D.eqb]
  | .str _, b, h => by cases b <;> simp_all [D.eqb]
  | .tup xs, b, h => by
    cases b with
    | tup ys => rw [D.eqbs_eq xs ys (by simpa [D.eqb] using h)]
    | _ => simp [D.eqb] at h
  | .rol xs, b, h => by
    cases b with
    | rol ys => rw [D.eqbs_eq xs ys (by simpa [D.eqb] using h)]
    | _ => simp [D.eqb] at h
  | .ref _, b, h => by cases b <;> simp_all [D.eqb]
  | .fnv _, b, h => by cases b <;> simp_all [D.eqb]
theorem D.eqbs_eq : ∀ a b : List D, D.eqbs a b = true → a = b
  | [], [], _ => rfl
  | x :: xs, y :: ys, h => by
    simp only [D.eqbs, Bool.and_eq_true] at h
    rw [D.eqb_eq x y h.1, D.eqbs_eq xs ys h.2]
  | [], _ :: _, h => by simp [D.eqbs] at h
  | _ :: _, [], h => by simp [D.eqbs] at h
end
def Cell.eqb : Cell → Cell → Bool
  | .lst a, .lst b => D.eqbs a b
  | .dic a, .dic b => decide (a.map (·.1) = b.map (·.1)) && D.eqbs (a.map (·.2)) (b.map (·.2))
  | .oth, .oth => true
  | _, _ => false
theorem pairs_eq {α β : Type} : ∀ {a b : List (α × β)}, a.map (·.1) = b.map (·.1) → a.map (·.2) = b.map (·.2) → a = b
  | [], [], _, _ => rfl
  | (x, y) :: a, (z, w) :: b, h1, h2 => by
    simp only [List.map_cons, List.cons.injEq] at h1 h2
    rw [h1.1, h2.1, pairs_eq h1.2 h2.2]
  | [], _ :: _, h, _ => by simp at h
  | _ :: _, [], h, _ => by simp at h
def eqStore : List Cell → List Cell → Bool
  | [], [] => true
  | a :: s, b :: t => Cell.eqb a b && eqStore s t
  | _, _ => false
theorem Cell.eqb_refl (c : Cell) : Cell.eqb c c = true := by cases c <;> simp [Cell.eqb, D.eqbs_refl]
theorem Cell.eqb_eq {a b : Cell} (h : Cell.eqb a b = true) : a = b := by
  match a, b with
  | .lst a, .lst b => rw [D.eqbs_eq a b (by simpa [Cell.eqb] using h)]
  | .dic a, .dic b =>
    simp only [Cell.eqb, Bool.and_eq_true, decide_eq_true_eq] at h
    rw [pairs_eq h.1 (D.eqbs_eq _ _ h.2)]
  | .oth, .oth => rfl
  | .lst _, .dic _ => simp [Cell.eqb] at h
  | .lst _, .oth => simp [Cell.eqb] at h
  | .dic _, .lst _ => simp [Cell.eqb] at h
  | .dic _, .oth => simp [Cell.eqb] at h
  | .oth, .lst _ => simp [Cell.eqb] at h
  | .oth, .dic _ => simp [Cell.eqb] at h
theorem eqStore_refl : ∀ s, eqStore s s = true
  | [] => rfl
  | c :: s => by simp [eqStore, Cell.eqb_refl, eqStore_refl s]
theorem eqStore_eq : ∀ {s t}, eqStore s t = true → s = t
  | [], [], _ => rfl
  | a :: s, b :: t, h => by
    simp only [eqStore, Bool.and_eq_true] at h
    rw [Cell.eqb_eq h.1, eqStore_eq h.2]
  | [], _ :: _, h => by simp [eqStore] at h
  | _ :: _, [], h => by simp [eqStore] at h

/-! all refs below n -/
mutual
def D.lt (n : Nat) : D → Bool
  | .tup ds => D.lts n ds
  | .rol ds => D.lts n ds
  | .ref k => decide (k < n)
  | _ => true
def D.lts (n : Nat) : List D → Bool
  | [] => true
  | d :: ds => D.lt n d && D.lts n ds
end
def Cell.lt (n : Nat) : Cell → Bool
  | .lst ds => D.lts n ds
  | .dic kvs => D.lts n (kvs.map (·.2))
  | .oth => true
def cellsLt (n : Nat) (S : Store) : Bool := S.all (Cell.lt n)
/-- behind a call: what the call has made and nobody holds is dropped -/
def gcS (S0 : Store) (d : D) (S : Store) : Store :=
  if D.lt S0.length d && (eqStore (S.take S0.length) S0 || cellsLt S0.length (S.take S0.length)) then S.take S0.length else S
def gc (S0 : Store) : R D → R D
  | .ok d S => .ok d (gcS S0 d S)
  | r => r
theorem gcS_same {S0 G : Store} {d : D} (h : D.lt S0.length d = true) : gcS S0 d (S0 ++ G) = S0 := by
  unfold gcS
  simp [h, eqStore_refl]
theorem gcS_self {S0 : Store} {d : D} : gcS S0 d S0 = S0 := by
  unfold gcS
  simp
theorem gcS_wf {S0 A G : Store} {d : D} (hl : A.length = S0.length) (h : D.lt S0.length d = true) (hw : cellsLt S0.length A = true) : gcS S0 d (A ++ G) = A := by
  unfold gcS
  rw [← hl] at h hw ⊢
  simp [h, hw]

/-! ### operators -/
def mulOk (i j : Int) : Bool := decide (i.natAbs < 2 ^ 63) || decide (j.natAbs < 2 ^ 63) || decide (i.natAbs.log2 + j.natAbs.log2 < 1000000)
def powOk (i j : Int) : Bool := decide (0 ≤ j) && decide (j ≤ 1000000) && decide (i.natAbs < 2 ^ 64)

mutual
def D.py (f : Nat → Option PyData) : D → Option PyData
  | .non => some .none
  | .bl b => some (.bool b)
  | .int i => some (.int i)
  | .str s => some (.str s)
  | .tup ds => (D.pys f ds).map .tuple
  | .rol ds => (D.pys f ds).map .list
  | .ref n => f n
  | .fnv _ => none
def D.pys (f : Nat → Option PyData) : List D → Option (List PyData)
  | [] => some []
  | d :: ds => match D.py f d, D.pys f ds with
    | some x, some xs => some (x :: xs)
    | _, _ => none
end
def pyR (S : Store) : Nat → Nat → Option PyData
  | 0, _ => none
  | k + 1, n => match S[n]? with
    | some (.lst ds) => (D.pys (pyR S k) ds).map .list
    | _ => none
def toPy (S : Store) (d : D) : Option PyData := d.py (pyR S 6)

/-- the items of a list or a tuple -/
def itemsOf (S : Store) : D → Option (List D)
  | .tup ds => some ds
  | .rol ds => some ds
  | .ref n => match S[n]? with
    | some (.lst ds) => some ds
    | _ => none
  | _ => none
/-! ### dicts -/
def D.key : D → Option L2.Key
  | .int i => some (.inl i)
  | .str s => some (.inr s)
  | _ => none
def dicOf (S : Store) : D → Option (List (L2.Key × D))
  | .ref n => match S[n]? with
    | some (.dic kvs) => some kvs
    | _ => none
  | _ => none
def valD (kvs : List (L2.Key × D)) (k : L2.Key) : Option D := (kvs.find? fun kv => decide (kv.1 = k)).map (·.2)
def putD (kvs : List (L2.Key × D)) (k : L2.Key) (v : D) : List (L2.Key × D) :=
  if (kvs.any fun kv => decide (kv.1 = k)) = true then kvs.map (fun kv => if kv.1 = k then (kv.1, v) else kv) else kvs ++ [(k, v)]
/-- all keys are texts -/
def keysS? : List L2.Key → Option (List Str)
  | [] => some []
  | .inr s :: r => (keysS? r).map (s :: ·)
  | .inl _ :: _ => none
theorem keysS_eq : ∀ {l : List L2.Key} {ks : List Str}, keysS? l = some ks → l = ks.map Sum.inr
  | [], ks, h => by simp [keysS?] at h; subst h; rfl
  | .inr s :: r, ks, h => by
    simp only [keysS?, Option.map_eq_some_iff] at h
    obtain ⟨k, h1, rfl⟩ := h
    rw [keysS_eq h1]
    rfl
  | .inl _ :: _, ks, h => by simp [keysS?] at h
def mergeD (kvs more : List (L2.Key × D)) : List (L2.Key × D) := more.foldl (fun acc kv => putD acc kv.1 kv.2) kvs
def isFlat : D → Bool
  | .non => true | .bl _ => true | .int _ => true | .str _ => true | _ => false
/-- == of flat things -/
def flatEq : D → D → Bool
  | .non, .non => true
  | .bl a, .bl b => a == b
  | .bl a, .int j => (if a then 1 else 0) == j
  | .int i, .bl b => i == (if b then 1 else 0)
  | .int i, .int j => i == j
  | .str a, .str b => a == b
  | _, _ => false
def ints? : List D → Option (List Int)
  | [] => some []
  | .int i :: ds => (ints? ds).map (i :: ·)
  | _ :: _ => none
def bls? : List D → Option (List Bool)
  | [] => some []
  | .bl i :: ds => (bls? ds).map (i :: ·)
  | _ :: _ => none
def strs? : List D → Option (List Str)
  | [] => some []
  | .str i :: ds => (strs? ds).map (i :: ·)
  | _ :: _ => none

/-- a text so many times -/
def repS (a : Str) (n : Nat) : Str := ⟨(List.replicate n a.cps).foldl (· ++ ·) #[]⟩
theorem foldl_size : ∀ (l : List (Array Nat)) (x : Array Nat), (l.foldl (· ++ ·) x).toList = x.toList ++ (l.map (·.toList)).flatten
  | [], x => by simp
  | a :: l, x => by simp [foldl_size l (x ++ a)]
theorem repS_list (a : Str) (n : Nat) : (repS a n).cps.toList = (List.replicate n a.cps.toList).flatten := by
  unfold repS
  rw [foldl_size]
  simp
theorem repS_len (a : Str) (n : Nat) : (repS a n).length = a.length * n := by
  have h := congrArg List.length (repS_list a n)
  simp only [List.length_flatten, List.map_replicate, List.sum_replicate_nat, Array.length_toList] at h
  show (repS a n).cps.size = a.cps.size * n
  rw [h, Nat.mul_comm]
def newL (ds : List D) (S : Store) : R D := .ok (.ref S.length) (S ++ [.lst ds])
def newD (S : Store) : R D := .ok (.ref S.length) (S ++ [.dic []])

def opBin (o : Operator) (x y : D) (S : Store) : R D :=
  match o, x, y with
  | .Add, .int i, .int j => .ok (.int (i + j)) S
  | .Add, .str a, .str b => if a.length + b.length ≤ sizeLine then .ok (.str (a ++ b)) S else .stuck
  | .Add, .tup a, .tup b => if a.length + b.length ≤ sizeLine then .ok (.tup (a ++ b)) S else .stuck
  | .Add, .ref m, .ref n => match S[m]?, S[n]? with
    | some (.lst a), some (.lst b) => if a.length + b.length ≤ sizeLine then newL (a ++ b) S else .stuck
    | _, _ => .stuck
  | .Sub, .int i, .int j => .ok (.int (i - j)) S
  | .Mult, .int i, .int j => if mulOk i j then .ok (.int (i * j)) S else .stuck
  | .Mult, .str a, .int k => if 2 ≤ k ∧ k ≤ 100000 ∧ 0 < a.length ∧ a.length ≤ 100 then .ok (.str (repS a k.toNat)) S else .stuck
  | .Mult, .ref m, .int k => match S[m]? with
    | some (.lst a) => if -(2 ^ 63) ≤ k ∧ k < 2 ^ 63 ∧ a.length * k.toNat ≤ sizeLine then newL (List.replicate k.toNat a).flatten S else .stuck
    | _ => .stuck
  | .Mult, .tup a, .int k => if a.length ≤ 1000 ∧ k ≤ 1000 ∧ -1000 ≤ k then .ok (.tup (List.replicate k.toNat a).flatten) S else .stuck
  | .FloorDiv, .int i, .int j => if 0 < j ∧ j.natAbs.log2 < 9000 then .ok (.int (i / j)) S else .stuck
  | .Mod, .int i, .int j => if 0 < j then .ok (.int (i % j)) S else .stuck
  | .Pow, .int i, .int j => if powOk i j then .ok (.int (i ^ j.toNat)) S else .stuck
  | .LShift, .int i, .int j => if powOk i j then .ok (.int (i * 2 ^ j.toNat)) S else .stuck
  | .RShift, .int i, .int j => if 0 ≤ j then .ok (.int (i / 2 ^ j.toNat)) S else .stuck
  | .BitAnd, .int i, .int j => .ok (.int (Builtin.bitAnd i j)) S
  | .BitOr, .int i, .int j => .ok (.int (Builtin.bitOr i j)) S
  | _, _, _ => .stuck
/-- name op= e -/
def opAug (o : Operator) (x y : D) (S : Store) : R D :=
  match o, x, y with
  | .Add, .int i, .int j => .ok (.int (i + j)) S
  | .Sub, .int i, .int j => .ok (.int (i - j)) S
  | .Mult, .int i, .int j => if decide (i.natAbs < 2 ^ 63) || decide (j.natAbs < 2 ^ 63) then .ok (.int (i * j)) S else .stuck
  | .FloorDiv, .int i, .int j => if 0 < j ∧ j < 1073741824 then .ok (.int (i / j)) S else .stuck
  | .Mod, .int i, .int j => if 0 < j then .ok (.int (i % j)) S else .stuck
  | .Add, .str a, .str b => if a.length + b.length ≤ sizeLine then .ok (.str (a ++ b)) S else .stuck
  | _, _, _ => .stuck
def opUn (o : UnaryOp) (x : D) (S : Store) : R D :=
  match o, x with
  | .USub, .int i => .ok (.int (-i)) S
  | .Invert, .int i => .ok (.int (Builtin.bitNot i)) S
  | _, _ => .stuck
/-- nested data in a list -/
def inD (x y : D) (S : Store) : R Bool :=
  match toPy S x, toPy S y with
  | some d, some (.list es) => if SeqAt.shaped d && SeqAt.shaped (.list es) then .ok (es.any fun z => PyData.eqv z d) S else .stuck
  | _, _ => .stuck
def opIn0 (x y : D) (S : Store) : R Bool :=
  match x, y with
  | .str a, .str b => .ok (!(Builtin.Str.occurrences b a 0 b.length 1).isEmpty) S
  | _, _ => match itemsOf S y with
    | some ds => if isFlat x && ds.all isFlat then .ok (ds.any fun z => flatEq z x) S else inD x y S
    | none => .stuck
def opIn (x y : D) (S : Store) : R Bool :=
  match dicOf S y with
  | some kvs => match x.key with
    | some k => .ok (valD kvs k).isSome S
    | none => .stuck
  | none => opIn0 x y S
/-- == with the empty tuple, whatever lies within the other one -/
def eqNil (x y : D) (S : Store) : R Bool :=
  match x, y with
  | .tup ds, .tup [] => .ok ds.isEmpty S
  | .ref n, .tup [] => match S[n]? with
    | some (.lst _) => .ok false S
    | some (.dic _) => .ok false S
    | _ => .stuck
  | _, _ => .stuck
def opEq (x y : D) (S : Store) : R Bool :=
  match toPy S x, toPy S y with
  | some a, some b => if SeqAt.shaped a && SeqAt.shaped b then .ok (PyData.eqv a b) S else eqNil x y S
  | _, _ => eqNil x y S
def opIs (x y : D) (S : Store) : R Bool :=
  match x, y with
  | .non, .non => .ok true S
  | _, .non => .ok false S
  | .bl a, .bl b => .ok (decide (a = b)) S
  | _, _ => .stuck
def opLt (x y : D) (S : Store) : R Bool :=
  match x, y with
  | .int i, .int j => .ok (decide (i < j)) S
  | .str a, .str b => .ok (decide (a.cps.toList < b.cps.toList)) S
  | .tup a, .tup b => match ints? a, ints? b with
    | some m, some n => .ok (HT.lexLt m n) S
    | _, _ => .stuck
  | _, _ => .stuck
def opLe (x y : D) (S : Store) : R Bool :=
  match x, y with
  | .int i, .int j => .ok (decide (i ≤ j)) S
  | _, _ => .stuck
def R.map {α β : Type} (r : R α) (f : α → β) : R β := r.bind fun a S => .ok (f a) S
@[simp] theorem R.map_ok {α β : Type} (a : α) (S : Store) (f : α → β) : R.map (.ok a S) f = .ok (f a) S := rfl
def opCmp (o : CmpOp) (x y : D) (S : Store) : R Bool :=
  match o with
  | .Eq => opEq x y S
  | .NotEq => (opEq x y S).map not
  | .Lt => opLt x y S
  | .Gt => (match x, y with | .int i, .int j => .ok (decide (j < i)) S | _, _ => .stuck)
  | .LtE => opLe x y S
  | .GtE => (match x, y with | .int i, .int j => .ok (decide (j ≤ i)) S | _, _ => .stuck)
  | .In => opIn x y S
  | .NotIn => (opIn x y S).map not
  | .Is => opIs x y S
  | .IsNot => (opIs x y S).map not
/-- truth -/
def opTru (x : D) (S : Store) : R Bool :=
  match x with
  | .non => .ok false S
  | .bl b => .ok b S
  | .int i => .ok (i != 0) S
  | _ => .stuck

/-! ### subscripts -/
def strAt (s : Str) (i : Int) : Option D := if s.length ≤ sizeLine then (L2.atI s.cps.toList i).map fun c => .str ⟨#[c]⟩ else none
def opIx0 (x y : D) (S : Store) : R D :=
  match y with
  | .int i => match x with
    | .str s => match strAt s i with | some d => .ok d S | none => .stuck
    | _ => match itemsOf S x with
      | some ds => match L2.atI ds i with | some d => .ok d S | none => .stuck
      | none => .stuck
  | _ => .stuck
def opIx (x y : D) (S : Store) : R D :=
  match dicOf S x with
  | some kvs => match y.key with
    | some k => match valD kvs k with
      | some d => .ok d S
      | none => .stuck
    | none => .stuck
  | none => opIx0 x y S
def cutD {α : Type} (xs : List α) (lo hi : Option Int) : List α := (xs.drop (HT.sIx xs.length 0 lo)).take (HT.sIx xs.length xs.length hi - HT.sIx xs.length 0 lo)
def opSl (x : D) (lo hi : Option Int) (S : Store) : R D :=
  match x with
  | .str z => if z.length ≤ sizeLine then .ok (.str (L2.cutS z lo hi)) S else .stuck
  | .tup ds => .ok (.tup (cutD ds lo hi)) S
  | .rol ds => newL (cutD ds lo hi) S
  | .ref n => match S[n]? with
    | some (.lst ds) => newL (cutD ds lo hi) S
    | _ => .stuck
  | _ => .stuck

/-! ### built-in functions -/
inductive Blt where
  | len | abs | int | str | tuple | list | all | any | sum | max | min | sorted | gcd
  deriving DecidableEq
inductive Ty where
  | int | bool | str | tuple | list
  deriving DecidableEq
/-- the greatest, the least of some numbers -/
def maxL (i : Int) (ns : List Int) : Int := ns.foldl (fun a b => if a < b then b else a) i
def minL (i : Int) (ns : List Int) : Int := ns.foldl (fun a b => if b < a then b else a) i
def leStr (a b : Str) : Bool := !decide (b.cps.toList < a.cps.toList)
def sortStr (xs : List Str) : List Str := xs.mergeSort leStr
def min3 (i j k : Int) : Int := if k < (if j < i then j else i) then k else (if j < i then j else i)
def opBlt (b : Blt) (xs : List D) (S : Store) : R D :=
  match b, xs with
  | .len, [.str s] => if s.length ≤ sizeLine then .ok (.int s.length) S else .stuck
  | .len, [x] => match itemsOf S x with | some ds => .ok (.int ds.length) S | none => match dicOf S x with | some kvs => .ok (.int kvs.length) S | none => .stuck
  | .abs, [.int i] => .ok (.int (if i < 0 then -i else i)) S
  | .int, [.int i] => .ok (.int i) S
  | .int, [.bl k] => .ok (.int (if k then 1 else 0)) S
  | .int, [.str s] => if s.length ≤ 640 then (match PySem.intText? s with | some i => .ok (.int i) S | none => .stuck) else .stuck
  | .str, [.int i] => if i.natAbs.log2 < 1920 then .ok (.str (toString i)) S else .stuck
  | .tuple, [.tup ds] => .ok (.tup ds) S
  | .tuple, [x] => match itemsOf S x with | some ds => .ok (.tup ds) S | none => .stuck
  | .list, [x] => match itemsOf S x with | some ds => newL ds S | none => .stuck
  | .all, [x] => match x, itemsOf S x with
    | .tup _, _ => .stuck
    | _, some ds => match bls? ds with | some bs => .ok (.bl (bs.all id)) S | none => .stuck
    | _, none => .stuck
  | .any, [x] => match x, itemsOf S x with
    | .tup _, _ => .stuck
    | _, some ds => match bls? ds with | some bs => .ok (.bl (bs.any id)) S | none => .stuck
    | _, none => .stuck
  | .sum, [x] => match x, itemsOf S x with
    | .tup ds, _ => match ints? ds with | some bs => .ok (.int bs.sum) S | none => .stuck
    | _, some ds => match ints? ds with | some bs => .ok (.int bs.sum) S | none => .stuck
    | _, none => .stuck
  | .max, [.int i, .int j] => .ok (.int (if j > i then j else i)) S
  | .min, [.int i, .int j] => .ok (.int (if j < i then j else i)) S
  | .min, [.int i, .int j, .int k] => .ok (.int (min3 i j k)) S
  | .gcd, [.int i, .int j] => .ok (.int ((Nat.gcd i.natAbs j.natAbs : Nat) : Int)) S
  | .max, [x] => match x, itemsOf S x with
    | .tup _, _ => .stuck
    | _, some ds => match ints? ds with | some (i :: ns) => .ok (.int (maxL i ns)) S | _ => .stuck
    | _, none => .stuck
  | .min, [x] => match x, itemsOf S x with
    | .tup _, _ => .stuck
    | _, some ds => match ints? ds with | some (i :: ns) => .ok (.int (minL i ns)) S | _ => .stuck
    | _, none => .stuck
  | .sorted, [x] => match x, itemsOf S x with
    | .tup _, _ => .stuck
    | _, some ds => match strs? ds with | some ss => if ss.length < 64 then newL ((sortStr ss).map .str) S else .stuck | none => .stuck
    | _, none => match dicOf S x with
      | some kvs => match keysS? (kvs.map (·.1)) with | some ss => if ss.length < 64 then newL ((sortStr ss).map .str) S else .stuck | none => .stuck
      | none => .stuck
  | _, _ => .stuck
def isTy (x : D) (t : Ty) (S : Store) : Option Bool :=
  match x with
  | .non => some false
  | .bl _ => some (match t with | .bool => true | .int => true | _ => false)
  | .int _ => some (match t with | .int => true | _ => false)
  | .str _ => some (match t with | .str => true | _ => false)
  | .tup _ => some (match t with | .tuple => true | _ => false)
  | .rol _ => some (match t with | .list => true | _ => false)
  | .fnv _ => none
  | .ref n => match S[n]? with
    | some (.lst _) => some (match t with | .list => true | _ => false)
    | some (.dic _) => some false
    | _ => none
inductive Mth where
  | append | pop | extend | join | split | partition | startswith | update
  deriving DecidableEq
/-- what has the method -/
def rcvOk (m : Mth) (o : D) (S : Store) : Bool :=
  match m with
  | .append | .pop | .extend => match o with
    | .ref n => match S[n]? with
      | some (.lst _) => true
      | _ => false
    | _ => false
  | .update => match o with
    | .ref n => match S[n]? with
      | some (.dic _) => true
      | _ => false
    | _ => false
  | _ => match o with
    | .str _ => true
    | _ => false
def opJoin (a : Str) (x : D) (S : Store) : R D :=
  match itemsOf S x with
  | some ds => match strs? ds with
    | some ys => if (ys.map (·.length)).sum + ys.length * a.length ≤ 16777216 then .ok (.str (Txt.join a ys)) S else .stuck
    | none => .stuck
  | none => .stuck
def opMth (m : Mth) (o : D) (xs : List D) (S : Store) : R D :=
  match o with
  | .str a => match m, xs with
    | .join, [x] => opJoin a x S
    | .split, [.str b] => if (b.length == 0) = false ∧ a.length + 2 ≤ sizeLine then newL ((Txt.split a b).map .str) S else .stuck
    | .partition, [.str b] => if (b.length == 0) = false ∧ a.length ≤ sizeLine then .ok (.tup [.str (Txt.partition a b).1, .str (Txt.partition a b).2.1, .str (Txt.partition a b).2.2]) S else .stuck
    | .startswith, [.str b] => .ok (.bl (Txt.startswith a b)) S
    | _, _ => .stuck
  | .ref n => match S[n]? with
    | some (.lst ds) => match m, xs with
      | .append, [x] => if ds.length < sizeLine then .ok .non (S.set n (.lst (ds ++ [x]))) else .stuck
      | .pop, [] => match ds[ds.length - 1]? with
        | some y => .ok y (S.set n (.lst ds.dropLast))
        | none => .stuck
      | .extend, [.ref k] => match S[k]? with
        | some (.lst es) => if ds.length + es.length ≤ sizeLine then .ok .non (S.set n (.lst (ds ++ es))) else .stuck
        | _ => .stuck
      | _, _ => .stuck
    | some (.dic kvs) => match m, xs with
      | .update, [.ref k] => match S[k]? with
        | some (.dic more) => if n ≠ k ∧ kvs.length + more.length ≤ sizeLine then .ok .non (S.set n (.dic (mergeD kvs more))) else .stuck
        | _ => .stuck
      | _, _ => .stuck
    | _ => .stuck
  | _ => .stuck
def opSet (o i v : D) (S : Store) : R Unit :=
  match dicOf S o with
  | some kvs => match o, i.key with
    | .ref n, some k => if kvs.length < sizeLine then .ok () (S.set n (.dic (putD kvs k v))) else .stuck
    | _, _ => .stuck
  | none => match o, i with
  | .ref n, .int k => match S[n]? with
    | some (.lst ds) => match L2.ixN ds.length k with
      | some j => .ok () (S.set n (.lst (ds.set j v)))
      | none => .stuck
    | _ => .stuck
  | _, _ => .stuck

/-! ### what is walked -/
inductive Src where
  | st (items : List D) | ls (n : Nat) | en (n : Nat)
def Src.nx : Src → Nat → Store → R (Option D)
  | .st items, i, S => .ok items[i]? S
  | .ls n, i, S => match S[n]? with
    | some (.lst ds) => .ok ds[i]? S
    | _ => .stuck
  | .en n, i, S => match S[n]? with
    | some (.lst ds) => .ok (ds[i]?.map fun d => .tup [.int i, d]) S
    | _ => .stuck

/-! ### the text -/
mutual
inductive Tg where
  | nm (i : Nat) | tp (ts : Tgs)
inductive Tgs where
  | nil | cons (t : Tg) (ts : Tgs)
end
abbrev Env := List (Option D)
mutual
def asgT (S : Store) : Tg → D → Env → Option Env
  | .nm i, d, env => some (env.set i (some d))
  | .tp ts, d, env => match itemsOf S d with
    | some ds => asgTs S ts ds env
    | none => none
def asgTs (S : Store) : Tgs → List D → Env → Option Env
  | .nil, [], env => some env
  | .cons t ts, d :: ds, env => match asgT S t d env with
    | some env' => asgTs S ts ds env'
    | none => none
  | _, _, _ => none
end
def wipeE (env : Env) : List Nat → Env
  | [] => env
  | v :: vs => (wipeE env vs).set v none

mutual
inductive E where
  | slot (i : Nat) | cst (d : D)
  | bin (o : Operator) (a b : E) | un (o : UnaryOp) (a : E)
  | cmp (o : CmpOp) (a b : E) | chn (o p : CmpOp) (a b c : E)
  | and (a b : E) | or (a b : E) | not (a : E)
  | ife (c a b : E)
  | call (f : Nat) (as : Es)
  | blt (f : Blt) (as : Es)
  | isi (a : E) (t : Ty)
  | mth (m : Mth) (o : E) (as : Es)
  | ix (a i : E) | slc (a : E) (lo hi : Oe)
  | tup (as : Es) | lst (as : Es) | dnew
  | lc (e : E) (t : Tg) (s : I) (c : Oe) (own : List Nat)
  | xf (i : Nat) | xi (i : Nat) (cs : List Nat)
  | callv (i : Nat) (fs : List (Str × Nat)) (as : Es)
  | gix (kvs : List (Str × D)) (e : E) | gin (neg : Bool) (ks : List Str) (e : E)
  | dct (kvs : List (L2.Key × D))
inductive Es where
  | nil | cons (e : E) (es : Es) | star (e : E) (es : Es)
inductive Oe where
  | no | so (e : E)
inductive I where
  | any (e : E) | rng1 (a : E) | rng2 (a b : E) | rng3 (a b : E) (c : Int) | enu (e : E) | zip (a b : E)
end
mutual
inductive T where
  | asg (t : Tg) (e : E)
  | seti (a i e : E)
  | aug (i : Nat) (o : Operator) (e : E)
  | exp (e : E)
  | ret (e : E) | retN
  | iff (c : E) (a b : Ts)
  | whl (c : E) (b : Ts)
  | for_ (t : Tg) (s : I) (b : Ts)
  | pas | brk | cnt
  | rai (x : Nat) (as : Es)
  | nev
  | try_ (b : Ts) (h : Hs)
inductive Ts where
  | nil | cons (s : T) (r : Ts)
/-- except clauses: the classes that are caught, the name's slot, the suite -/
inductive Hs where
  | nil | cons (cs : List Nat) (i : Option Nat) (s : Ts) (r : Hs)
end

/-- the numbers under which the caught exception's field, its class, are asked for within a suite -/
def xfId : Nat := 1000000
def xiId : Nat := 1000001
abbrev Fn := Nat → List D → Store → R D
/-- a bound for the turns of a loop -/
def wmax : Nat := 4611686018427387904
def lcGo (nx : Nat → Store → R (Option D)) (tgt : D → Store → Option Env) (tst : Env → Store → R Bool) (elt : Env → Store → R D) : Nat → Nat → List D → Store → R (List D)
  | 0, _, _, _ => .stuck
  | n + 1, i, acc, S => (nx i S).bind fun o S1 => match o with
    | none => .ok acc S1
    | some d => match tgt d S1 with
      | none => .stuck
      | some env => (tst env S1).bind fun b S2 => if b then (elt env S2).bind fun x S3 => if acc.length < sizeLine then lcGo nx tgt tst elt n (i + 1) (acc ++ [x]) S3 else .stuck
        else lcGo nx tgt tst elt n (i + 1) acc S2
def rangeD (lo : Int) (c : Int) (n : Nat) : List D := (List.range n).map fun (i : Nat) => .int (lo + i * c)
def rngOk (i : Int) : Bool := decide (-4611686018427387904 ≤ i) && decide (i < 4611686018427387904)
def strItems (s : Str) : List D := s.cps.toList.map fun c => .str ⟨#[c]⟩
def enumD (ds : List D) : List D := ds.zipIdx.map fun p => .tup [.int p.2, p.1]
def zipD (xs ys : List D) : List D := (xs.zip ys).map fun p => .tup [p.1, p.2]

mutual
def evE (F : Fn) (env : Env) : E → Store → R D
  | .slot i, S => match env[i]? with
    | some (some d) => .ok d S
    | _ => .stuck
  | .cst d, S => .ok d S
  | .bin o a b, S => (evE F env a S).bind fun x S => (evE F env b S).bind fun y S => opBin o x y S
  | .un o a, S => (evE F env a S).bind fun x S => opUn o x S
  | .cmp o a b, S => (evE F env a S).bind fun x S => (evE F env b S).bind fun y S => (opCmp o x y S).map .bl
  | .chn o p a b c, S => (evE F env a S).bind fun x S => (evE F env b S).bind fun y S => (opCmp o x y S).bind fun k S =>
      if k then (evE F env c S).bind fun z S => (opCmp p y z S).map .bl else .ok (.bl false) S
  | .and a b, S => (evE F env a S).bind fun x S => match x with
    | .bl true => evE F env b S
    | .bl false => .ok (.bl false) S
    | _ => .stuck
  | .or a b, S => (evE F env a S).bind fun x S => match x with
    | .bl true => .ok (.bl true) S
    | .bl false => evE F env b S
    | _ => .stuck
  | .not a, S => (evE F env a S).bind fun x S => match x with
    | .bl k => .ok (.bl (!k)) S
    | _ => .stuck
  | .ife c a b, S => (evT F env c S).bind fun k S => if k then evE F env a S else evE F env b S
  | .call f as, S => (evEs F env as S).bind fun xs S => F f xs S
  | .blt f as, S => (evEs F env as S).bind fun xs S => opBlt f xs S
  | .isi a t, S => (evE F env a S).bind fun x S => match isTy x t S with
    | some k => .ok (.bl k) S
    | none => .stuck
  | .mth m o as, S => (evE F env o S).bind fun x S => if rcvOk m x S then (evEs F env as S).bind fun xs S => opMth m x xs S else .stuck
  | .ix a i, S => (evE F env a S).bind fun x S => (evE F env i S).bind fun y S => opIx x y S
  | .slc a lo hi, S => (evE F env a S).bind fun x S => (evO F env lo S).bind fun l S => (evO F env hi S).bind fun h S => opSl x l h S
  | .tup as, S => (evEs F env as S).bind fun xs S => if xs.length ≤ sizeLine then .ok (.tup xs) S else .stuck
  | .lst as, S => (evEs F env as S).bind fun xs S => if xs.length ≤ sizeLine then newL xs S else .stuck
  | .dnew, S => newD S
  | .lc e t s c own, S => (evI F env s S).bind fun src S =>
      ((lcGo src.nx (fun d S => asgT S t d (wipeE env own)) (fun env S => evOT F env c S) (fun env S => evE F env e S) wmax 0 [] S).noexc).bind fun ds S => newL ds S
  | .xf i, S => match env[i]? with
    | some none => F xfId [] S
    | _ => .stuck
  | .xi i cs, S => match env[i]? with
    | some none => F xiId [.tup (cs.map fun (c : Nat) => .int c)] S
    | _ => .stuck
  | .callv i fs as, S => match env[i]? with
    | some (some (.fnv x)) => match fs.lookup x with
      | some f => (evEs F env as S).bind fun xs S => F f xs S
      | none => .stuck
    | _ => .stuck
  | .gix kvs e, S => (evE F env e S).bind fun x S => match x with
    | .str s => match kvs.lookup s with
      | some d => .ok d S
      | none => .stuck
    | _ => .stuck
  | .gin neg ks e, S => (evE F env e S).bind fun x S => match x with
    | .str s => .ok (.bl (neg != ks.contains s)) S
    | _ => .stuck
  | .dct kvs, S => .ok (.ref S.length) (S ++ [.dic (mergeD [] kvs)])
def evEs (F : Fn) (env : Env) : Es → Store → R (List D)
  | .nil, S => .ok [] S
  | .cons e es, S => (evE F env e S).bind fun x S => (evEs F env es S).bind fun xs S => .ok (x :: xs) S
  | .star e es, S => (evE F env e S).bind fun x S => match itemsOf S x with
    | some ds => (evEs F env es S).bind fun xs S => .ok (ds ++ xs) S
    | none => .stuck
/-- a part of a slice -/
def evO (F : Fn) (env : Env) : Oe → Store → R (Option Int)
  | .no, S => .ok none S
  | .so e, S => (evE F env e S).bind fun x S => match x with
    | .int i => .ok (some i) S
    | _ => .stuck
/-- a comprehension's test -/
def evOT (F : Fn) (env : Env) : Oe → Store → R Bool
  | .no, S => .ok true S
  | .so e, S => evT F env e S
/-- a test -/
def evT (F : Fn) (env : Env) : E → Store → R Bool
  | .and a b, S => (evT F env a S).bind fun k S => if k then evT F env b S else .ok false S
  | .or a b, S => (evT F env a S).bind fun k S => if k then .ok true S else evT F env b S
  | .not a, S => (evT F env a S).map not
  | .cmp o a b, S => (evE F env a S).bind fun x S => (evE F env b S).bind fun y S => opCmp o x y S
  | .chn o p a b c, S => (evE F env a S).bind fun x S => (evE F env b S).bind fun y S => (opCmp o x y S).bind fun k S =>
      if k then (evE F env c S).bind fun z S => opCmp p y z S else .ok false S
  | .slot i, S => (match env[i]? with
    | some (some d) => .ok d S
    | _ => .stuck : R D).bind fun x S => opTru x S
  | .call f as, S => ((evEs F env as S).bind fun xs S => F f xs S).bind fun x S => opTru x S
  | .blt f as, S => ((evEs F env as S).bind fun xs S => opBlt f xs S).bind fun x S => opTru x S
  | .isi a t, S => (evE F env a S).bind fun x S => match isTy x t S with
    | some k => .ok k S
    | none => .stuck
  | .ix a i, S => ((evE F env a S).bind fun x S => (evE F env i S).bind fun y S => opIx x y S).bind fun x S => opTru x S
  | .mth m o as, S => ((evE F env o S).bind fun x S => if rcvOk m x S then (evEs F env as S).bind fun xs S => opMth m x xs S else .stuck).bind fun x S => opTru x S
  | .xi i cs, S => (match env[i]? with
    | some none => F xiId [.tup (cs.map fun (c : Nat) => .int c)] S
    | _ => .stuck : R D).bind fun x S => opTru x S
  | .callv i fs as, S => (match env[i]? with
    | some (some (.fnv x)) => match fs.lookup x with
      | some f => (evEs F env as S).bind fun xs S => F f xs S
      | none => .stuck
    | _ => .stuck : R D).bind fun x S => opTru x S
  | .gin neg ks e, S => (evE F env e S).bind fun x S => match x with
    | .str s => .ok (neg != ks.contains s) S
    | _ => .stuck
  | _, _ => .stuck
def evI (F : Fn) (env : Env) : I → Store → R Src
  | .any e, S => (evE F env e S).bind fun x S => match x with
    | .tup ds => .ok (.st ds) S
    | .rol ds => .ok (.st ds) S
    | .str s => .ok (.st (strItems s)) S
    | .ref n => match S[n]? with
      | some (.lst _) => .ok (.ls n) S
      | _ => .stuck
    | _ => .stuck
  | .rng1 a, S => (evE F env a S).bind fun x S => match x with
    | .int j => if rngOk j then .ok (.st (rangeD 0 1 j.toNat)) S else .stuck
    | _ => .stuck
  | .rng2 a b, S => (evE F env a S).bind fun x S => (evE F env b S).bind fun y S => match x, y with
    | .int i, .int j => if rngOk i && rngOk j then .ok (.st (rangeD i 1 (j - i).toNat)) S else .stuck
    | _, _ => .stuck
  | .rng3 a b c, S => (evE F env a S).bind fun x S => (evE F env b S).bind fun y S => match x, y with
    | .int i, .int j => if rngOk i && rngOk j && decide (c = -1) then .ok (.st (rangeD i (-1) (i - j).toNat)) S else .stuck
    | _, _ => .stuck
  | .enu e, S => (evE F env e S).bind fun x S => match x with
    | .tup ds => .ok (.st (enumD ds)) S
    | .str s => .ok (.st (enumD (strItems s))) S
    | .ref n => match S[n]? with
      | some (.lst _) => .ok (.en n) S
      | _ => .stuck
    | _ => .stuck
  | .zip a b, S => (evE F env a S).bind fun x S => (evE F env b S).bind fun y S => match x, y with
    | .tup xs, .tup ys => .ok (.st (zipD xs ys)) S
    | _, _ => .stuck
end

/-- how a statement ends -/
inductive Out where
  | nx (env : Env) (S : Store) | rt (d : D) (S : Store) | bk (env : Env) (S : Store) | ct (env : Env) (S : Store) | ex (x : Exn) (env : Env) (S : Store) | stuck
def Out.thn (o : Out) (f : Env → Store → Out) : Out :=
  match o with
  | .nx env S => f env S
  | o => o
@[simp] theorem Out.thn_nx (env : Env) (S : Store) (f : Env → Store → Out) : (Out.nx env S).thn f = f env S := rfl
@[simp] theorem Out.thn_rt (d : D) (S : Store) (f : Env → Store → Out) : (Out.rt d S).thn f = .rt d S := rfl
@[simp] theorem Out.thn_bk (env : Env) (S : Store) (f : Env → Store → Out) : (Out.bk env S).thn f = .bk env S := rfl
@[simp] theorem Out.thn_ct (env : Env) (S : Store) (f : Env → Store → Out) : (Out.ct env S).thn f = .ct env S := rfl
@[simp] theorem Out.thn_ex (x : Exn) (env : Env) (S : Store) (f : Env → Store → Out) : (Out.ex x env S).thn f = .ex x env S := rfl
/-- a value, then a statement's end -/
def R.out {α : Type} (r : R α) (env : Env) (f : α → Store → Out) : Out :=
  match r with
  | .ok a S => f a S
  | .exc x S => .ex x env S
  | .stuck => .stuck
@[simp] theorem R.out_ok {α : Type} (a : α) (S : Store) (env : Env) (f : α → Store → Out) : R.out (.ok a S) env f = f a S := rfl
@[simp] theorem R.out_exc {α : Type} (x : Exn) (S : Store) (env : Env) (f : α → Store → Out) : R.out (.exc x S : R α) env f = .ex x env S := rfl
def whlGo (c : Env → Store → R Bool) (b : Env → Store → Out) : Nat → Env → Store → Out
  | 0, _, _ => .stuck
  | n + 1, env, S => (c env S).out env fun k S => if k then
      match b env S with
      | .nx env' S' => whlGo c b n env' S'
      | .ct env' S' => whlGo c b n env' S'
      | .bk env' S' => .nx env' S'
      | o => o
    else .nx env S
def forGo (nx : Nat → Store → R (Option D)) (t : Tg) (b : Env → Store → Out) : Nat → Nat → Env → Store → Out
  | 0, _, _, _ => .stuck
  | n + 1, i, env, S => (nx i S).out env fun o S => match o with
    | none => .nx env S
    | some d => match asgT S t d env with
      | none => .stuck
      | some env1 => match b env1 S with
        | .nx env' S' => forGo nx t b n (i + 1) env' S'
        | .ct env' S' => forGo nx t b n (i + 1) env' S'
        | .bk env' S' => .nx env' S'
        | o => o
/-- the callees within an except suite -/
def xF (F : Fn) (x : Exn) : Fn := fun f xs S =>
  if f = xfId then (match x.fs, xs with
    | [d], [] => .ok d S
    | _, _ => .stuck)
  else if f = xiId then (match xs with
    | [.tup ds] => .ok (.bl (ds.any fun d => D.eqb d (.int x.cls))) S
    | _ => .stuck)
  else F f xs S
def wipeO (env : Env) : Option Nat → Env
  | none => env
  | some i => env.set i none
/-- behind an except suite -/
def Out.aftX (i : Option Nat) : Out → Out
  | .nx env S => .nx (wipeO env i) S
  | .bk env S => .bk (wipeO env i) S
  | .ct env S => .ct (wipeO env i) S
  | .rt d S => .rt d S
  | _ => .stuck
mutual
def exT (F : Fn) : T → Env → Store → Out
  | .asg t e, env, S => (evE F env e S).out env fun d S => match asgT S t d env with
    | some env' => .nx env' S
    | none => .stuck
  | .seti a i e, env, S => (evE F env e S).out env fun v S => (evE F env a S).out env fun o S => (evE F env i S).out env fun k S => (opSet o k v S).out env fun _ S => .nx env S
  | .aug i o e, env, S => match env[i]? with
    | some (some x) => (evE F env e S).out env fun y S => (opAug o x y S).out env fun z S => .nx (env.set i (some z)) S
    | _ => .stuck
  | .exp e, env, S => (evE F env e S).out env fun _ S => .nx env S
  | .ret e, env, S => (evE F env e S).out env fun d S => .rt d S
  | .retN, _, S => .rt .non S
  | .iff c a b, env, S => (evT F env c S).out env fun k S => if k then exTs F a env S else exTs F b env S
  | .whl c b, env, S => whlGo (fun env S => evT F env c S) (fun env S => exTs F b env S) wmax env S
  | .for_ t s b, env, S => (evI F env s S).out env fun src S => forGo src.nx t (fun env S => exTs F b env S) wmax 0 env S
  | .pas, env, S => .nx env S
  | .brk, env, S => .bk env S
  | .cnt, env, S => .ct env S
  | .rai x as, env, S => (evEs F env as S).out env fun ds S => .ex ⟨x, ds⟩ env S
  | .nev, _, _ => .stuck
  | .try_ b h, env, S => match exTs F b env S with
    | .ex x env' S' => exH F h x env' S'
    | o => o
def exTs (F : Fn) : Ts → Env → Store → Out
  | .nil, env, S => .nx env S
  | .cons s r, env, S => (exT F s env S).thn fun env S => exTs F r env S
def exH (F : Fn) : Hs → Exn → Env → Store → Out
  | .nil, x, env, S => .ex x env S
  | .cons cs i s r, x, env, S => if cs.contains x.cls then (exTs (xF F x) s (wipeO env i) S).aftX i else exH F r x env S
end

/-- a def: how many parameters, how many names, its body -/
structure Def where
  np : Nat
  ns : Nat
  body : Ts
def runDef (F : Fn) (d : Def) (xs : List D) (S : Store) : R D :=
  if xs.length = d.np then
    match exTs F d.body (xs.map some ++ List.replicate (d.ns - xs.length) none) S with
    | .nx _ S' => gc S (.ok .non S')
    | .rt v S' => gc S (.ok v S')
    | .ex x _ S' => .exc x S'
    | _ => .stuck
  else .stuck
abbrev Tab := Nat → Option Def
def callN (T : Tab) : Nat → Fn
  | 0 => fun _ _ _ => .stuck
  | n + 1 => fun f xs S => match T f with
    | some d => runDef (callN T n) d xs S
    | none => .stuck
end PD
end

section
set_option linter.all false
set_option maxRecDepth 100000
/-! PDrep: how plain data lies in the heap; what a reading of plain data promises. -/
namespace PD
open PySem L2

/-- a list that nobody changes -/
def SqF (K : PySem.W.Frag) (H : Hp) (a : Addr) (xs : List V) : Prop :=
  (∃ o, H a = some (.frz o (.lst xs))) ∨
    ∃ (o : Obj) (its : Array Value) (n : Nat), K.lookup a = some o ∧ o.cls = .type "list" ∧ o.dict = none ∧ o.data = .seq its n ∧ its.size ≤ sizeLine ∧ Vals xs its.toList
theorem SqF.sq {K : PySem.W.Frag} {H : Hp} {a : Addr} {xs : List V} (h : SqF K H a xs) : SqL K H a xs := by
  rcases h with ⟨o, h⟩ | h
  · exact .inl (.inr ⟨o, h⟩)
  · exact .inr h

mutual
inductive RepV (K : PySem.W.Frag) (μ : List Addr) (H : Hp) : D → V → Prop
  | non : RepV K μ H .non .non
  | bl (b : Bool) : RepV K μ H (.bl b) (.bl b)
  | int (i : Int) : RepV K μ H (.int i) (.int i)
  | str (s : Str) : RepV K μ H (.str s) (.str s)
  | tup {ds : List D} {a : Addr} {vs : List V} : SqT K H a vs → RepVs K μ H ds vs → RepV K μ H (.tup ds) (.ref a)
  | rol {ds : List D} {a : Addr} {vs : List V} : SqF K H a vs → RepVs K μ H ds vs → RepV K μ H (.rol ds) (.ref a)
  | ref {n : Nat} {a : Addr} : μ[n]? = some a → RepV K μ H (.ref n) (.ref a)
  | fnv {x : Str} {a : Addr} : PySem.W.nsIn K mainGlobals x = some (some (.ref a)) → RepV K μ H (.fnv x) (.ref a)
inductive RepVs (K : PySem.W.Frag) (μ : List Addr) (H : Hp) : List D → List V → Prop
  | nil : RepVs K μ H [] []
  | cons {d : D} {ds : List D} {v : V} {vs : List V} : RepV K μ H d v → RepVs K μ H ds vs → RepVs K μ H (d :: ds) (v :: vs)
end

/-- the heap has grown; only cells of μ may have changed -/
structure Ext (μ : List Addr) (H : Hp) (μ' : List Addr) (H' : Hp) : Prop where
  pre : ∃ t, μ' = μ ++ t ∧ ∀ b ∈ t, H b = none
  keep : ∀ b o, H b = some o → b ∉ μ → H' b = some o
  live : ∀ b, H b ≠ none → H' b ≠ none
  tups : ∀ b xs, H b = some (.tup xs) → H' b = some (.tup xs)
  frzs : ∀ b o u, H b = some (.frz o u) → H' b = some (.frz o u)

theorem Ext.refl (μ : List Addr) (H : Hp) : Ext μ H μ H :=
  ⟨⟨[], by simp, by simp⟩, fun _ _ h _ => h, fun _ h => h, fun _ _ h => h, fun _ _ _ h => h⟩
theorem Ext.trans {μ μ1 μ2 : List Addr} {H H1 H2 : Hp} (a : Ext μ H μ1 H1) (b : Ext μ1 H1 μ2 H2) : Ext μ H μ2 H2 := by
  obtain ⟨t1, e1, f1⟩ := a.pre
  obtain ⟨t2, e2, f2⟩ := b.pre
  subst e1; subst e2
  refine ⟨⟨t1 ++ t2, by simp, fun c hc => ?_⟩, fun c o h n => ?_, fun c h => b.live c (a.live c h), fun c xs h => b.tups c xs (a.tups c xs h), fun c o u h => b.frzs c o u (a.frzs c o u h)⟩
  · rcases List.mem_append.mp hc with hc | hc
    · exact f1 c hc
    · have z := f2 c hc
      cases q : H c with
      | none => rfl
      | some o => exact absurd z (a.live c (by rw [q]; simp))
  · refine b.keep c o (a.keep c o h n) fun hm => ?_
    rcases List.mem_append.mp hm with hm | hm
    · exact n hm
    · rw [f1 c hm] at h; cases h
theorem Ext.get {μ μ' : List Addr} {H H' : Hp} (e : Ext μ H μ' H') {n : Nat} {a : Addr} (h : μ[n]? = some a) : μ'[n]? = some a := by
  obtain ⟨t, rfl, _⟩ := e.pre
  exact List.getElem?_append_left (List.getElem?_eq_some_iff.mp h).1 ▸ h
theorem Ext.sqT {K : PySem.W.Frag} {μ μ' : List Addr} {H H' : Hp} (e : Ext μ H μ' H') {a : Addr} {xs : List V} (h : SqT K H a xs) : SqT K H' a xs := by
  rcases h with (h | ⟨o, h⟩) | h
  · exact .inl (.inl (e.tups _ _ h))
  · exact .inl (.inr ⟨o, e.frzs _ _ _ h⟩)
  · exact .inr h
theorem Ext.sqF {K : PySem.W.Frag} {μ μ' : List Addr} {H H' : Hp} (e : Ext μ H μ' H') {a : Addr} {xs : List V} (h : SqF K H a xs) : SqF K H' a xs := by
  rcases h with ⟨o, h⟩ | h
  · exact .inl ⟨o, e.frzs _ _ _ h⟩
  · exact .inr h

/-- what data leans on -/
structure Wk (μ : List Addr) (H : Hp) (μ' : List Addr) (H' : Hp) : Prop where
  get : ∀ (n : Nat) (a : Addr), μ[n]? = some a → μ'[n]? = some a
  tups : ∀ b xs, H b = some (.tup xs) → H' b = some (.tup xs)
  frzs : ∀ b o u, H b = some (.frz o u) → H' b = some (.frz o u)
theorem Ext.wk {μ μ' : List Addr} {H H' : Hp} (e : Ext μ H μ' H') : Wk μ H μ' H' := ⟨fun _ _ h => e.get h, e.tups, e.frzs⟩
theorem Wk.sqT {K : PySem.W.Frag} {μ μ' : List Addr} {H H' : Hp} (e : Wk μ H μ' H') {a : Addr} {xs : List V} (h : SqT K H a xs) : SqT K H' a xs := by
  rcases h with (h | ⟨o, h⟩) | h
  · exact .inl (.inl (e.tups _ _ h))
  · exact .inl (.inr ⟨o, e.frzs _ _ _ h⟩)
  · exact .inr h
theorem Wk.sqF {K : PySem.W.Frag} {μ μ' : List Addr} {H H' : Hp} (e : Wk μ H μ' H') {a : Addr} {xs : List V} (h : SqF K H a xs) : SqF K H' a xs := by
  rcases h with ⟨o, h⟩ | h
  · exact .inl ⟨o, e.frzs _ _ _ h⟩
  · exact .inr h
/-- a list that no cell is, changed -/
theorem Wk.other {μ : List Addr} {H : Hp} {a : Addr} {xs ys : List V} (h : H a = some (.lst xs)) : Wk μ H μ (upd H a (.lst ys)) :=
  ⟨fun _ _ h => h, fun b zs e => by rw [upd_ne (ne_of e h (by intro z; cases z))]; exact e, fun b o u e => by rw [upd_ne (ne_of e h (by intro z; cases z))]; exact e⟩

section
variable {K : PySem.W.Frag} {μ μ' : List Addr} {H H' : Hp}
mutual
theorem RepV.wk (e : Wk μ H μ' H') : ∀ {d : D} {v : V}, RepV K μ H d v → RepV K μ' H' d v
  | _, _, .non => .non
  | _, _, .bl b => .bl b
  | _, _, .int i => .int i
  | _, _, .str s => .str s
  | _, _, .tup h r => .tup (e.sqT h) (RepVs.wk e r)
  | _, _, .rol h r => .rol (e.sqF h) (RepVs.wk e r)
  | _, _, .ref h => .ref (e.get _ _ h)
  | _, _, .fnv h => .fnv h
theorem RepVs.wk (e : Wk μ H μ' H') : ∀ {ds : List D} {vs : List V}, RepVs K μ H ds vs → RepVs K μ' H' ds vs
  | _, _, .nil => .nil
  | _, _, .cons h r => .cons (RepV.wk e h) (RepVs.wk e r)
end
mutual
theorem RepV.mono (e : Ext μ H μ' H') : ∀ {d : D} {v : V}, RepV K μ H d v → RepV K μ' H' d v
  | _, _, .non => .non
  | _, _, .bl b => .bl b
  | _, _, .int i => .int i
  | _, _, .str s => .str s
  | _, _, .tup h r => .tup (e.sqT h) (RepVs.mono e r)
  | _, _, .rol h r => .rol (e.sqF h) (RepVs.mono e r)
  | _, _, .ref h => .ref (e.get h)
  | _, _, .fnv h => .fnv h
theorem RepVs.mono (e : Ext μ H μ' H') : ∀ {ds : List D} {vs : List V}, RepVs K μ H ds vs → RepVs K μ' H' ds vs
  | _, _, .nil => .nil
  | _, _, .cons h r => .cons (RepV.mono e h) (RepVs.mono e r)
end
theorem RepVs.length : ∀ {ds : List D} {vs : List V}, RepVs K μ H ds vs → ds.length = vs.length
  | _, _, .nil => rfl
  | _, _, .cons _ r => by simp [RepVs.length r]
theorem RepVs.append : ∀ {ds es : List D} {vs us : List V}, RepVs K μ H ds vs → RepVs K μ H es us → RepVs K μ H (ds ++ es) (vs ++ us)
  | _, _, _, _, .nil, s => s
  | _, _, _, _, .cons h r, s => .cons h (RepVs.append r s)
theorem RepVs.take : ∀ (n : Nat) {ds : List D} {vs : List V}, RepVs K μ H ds vs → RepVs K μ H (ds.take n) (vs.take n)
  | 0, _, _, _ => .nil
  | _ + 1, _, _, .nil => .nil
  | n + 1, _, _, .cons h r => .cons h (RepVs.take n r)
theorem RepVs.drop : ∀ (n : Nat) {ds : List D} {vs : List V}, RepVs K μ H ds vs → RepVs K μ H (ds.drop n) (vs.drop n)
  | 0, _, _, r => r
  | _ + 1, _, _, .nil => .nil
  | n + 1, _, _, .cons _ r => RepVs.drop n r
theorem RepVs.set {d : D} {v : V} (h : RepV K μ H d v) : ∀ (n : Nat) {ds : List D} {vs : List V}, RepVs K μ H ds vs → RepVs K μ H (ds.set n d) (vs.set n v)
  | _, _, _, .nil => .nil
  | 0, _, _, .cons _ r => .cons h r
  | n + 1, _, _, .cons q r => .cons q (RepVs.set h n r)
theorem RepVs.get : ∀ {n : Nat} {ds : List D} {vs : List V} {d : D}, RepVs K μ H ds vs → ds[n]? = some d → ∃ v, vs[n]? = some v ∧ RepV K μ H d v
  | _, _, _, _, .nil, e => by simp at e
  | 0, _, _, _, .cons h _, e => by simp at e; subst e; exact ⟨_, rfl, h⟩
  | n + 1, _, _, _, .cons _ r, e => by
    obtain ⟨v, h1, h2⟩ := RepVs.get (n := n) r (by simpa using e)
    exact ⟨v, by simpa using h1, h2⟩
theorem RepVs.getV : ∀ {n : Nat} {ds : List D} {vs : List V} {v : V}, RepVs K μ H ds vs → vs[n]? = some v → ∃ d, ds[n]? = some d ∧ RepV K μ H d v
  | _, _, _, _, .nil, e => by simp at e
  | 0, _, _, _, .cons h _, e => by simp at e; subst e; exact ⟨_, rfl, h⟩
  | n + 1, _, _, _, .cons _ r, e => by
    obtain ⟨v, h1, h2⟩ := RepVs.getV (n := n) r (by simpa using e)
    exact ⟨v, by simpa using h1, h2⟩
theorem RepVs.dropLast {ds : List D} {vs : List V} (r : RepVs K μ H ds vs) : RepVs K μ H ds.dropLast vs.dropLast := by
  rw [List.dropLast_eq_take, List.dropLast_eq_take, r.length]
  exact r.take _
theorem RepVs.rep {ds : List D} {vs : List V} (r : RepVs K μ H ds vs) : ∀ k : Nat, RepVs K μ H (List.replicate k ds).flatten (List.replicate k vs).flatten
  | 0 => .nil
  | k + 1 => by
    rw [List.replicate_succ, List.replicate_succ, List.flatten_cons, List.flatten_cons]
    exact r.append (RepVs.rep r k)
theorem RepVs.cut {ds : List D} {vs : List V} (r : RepVs K μ H ds vs) (lo hi : Option Int) : RepVs K μ H (cutD ds lo hi) (cutV vs lo hi) := by
  unfold cutD cutV
  rw [r.length]
  exact (r.drop _).take _
theorem RepVs.ints : ∀ {ds : List D} {vs : List V} {ns : List Int}, RepVs K μ H ds vs → ints? ds = some ns → vs = ns.map V.int
  | _, _, _, .nil, e => by simp [ints?] at e; subst e; rfl
  | d :: ds, _, ns, .cons h r, e => by
    cases h with
    | int i =>
      simp only [ints?, Option.map_eq_some_iff] at e
      obtain ⟨ms, e1, rfl⟩ := e
      rw [RepVs.ints r e1]; rfl
    | _ => simp [ints?] at e
theorem RepVs.bls : ∀ {ds : List D} {vs : List V} {ns : List Bool}, RepVs K μ H ds vs → bls? ds = some ns → vs = ns.map V.bl
  | _, _, _, .nil, e => by simp [bls?] at e; subst e; rfl
  | d :: ds, _, ns, .cons h r, e => by
    cases h with
    | bl i =>
      simp only [bls?, Option.map_eq_some_iff] at e
      obtain ⟨ms, e1, rfl⟩ := e
      rw [RepVs.bls r e1]; rfl
    | _ => simp [bls?] at e
theorem RepVs.strs : ∀ {ds : List D} {vs : List V} {ns : List Str}, RepVs K μ H ds vs → strs? ds = some ns → vs = ns.map V.str
  | _, _, _, .nil, e => by simp [strs?] at e; subst e; rfl
  | d :: ds, _, ns, .cons h r, e => by
    cases h with
    | str i =>
      simp only [strs?, Option.map_eq_some_iff] at e
      obtain ⟨ms, e1, rfl⟩ := e
      rw [RepVs.strs r e1]; rfl
    | _ => simp [strs?] at e
theorem RepVs.ofStrs : ∀ (ns : List Str), RepVs K μ H (ns.map D.str) (ns.map V.str)
  | [] => .nil
  | i :: ns => .cons (.str i) (RepVs.ofStrs ns)
theorem RepVs.ofInts : ∀ (ns : List Int), RepVs K μ H (ns.map D.int) (ns.map V.int)
  | [] => .nil
  | i :: ns => .cons (.int i) (RepVs.ofInts ns)
end

/-- a cell at an address -/
def RepKV (K : PySem.W.Frag) (μ : List Addr) (H : Hp) (kvs : List (Key × D)) (vs : List (Key × V)) : Prop := kvs.map (·.1) = vs.map (·.1) ∧ RepVs K μ H (kvs.map (·.2)) (vs.map (·.2))
def RepC (K : PySem.W.Frag) (μ : List Addr) (H : Hp) (c : Cell) (a : Addr) : Prop :=
  match c with
  | .lst ds => ∃ vs, H a = some (.lst vs) ∧ RepVs K μ H ds vs
  | .dic kvs => ∃ vs, H a = some (.dK vs) ∧ RepKV K μ H kvs vs
  | .oth => False
structure RepS (K : PySem.W.Frag) (μ : List Addr) (H : Hp) (S : Store) : Prop where
  len : μ.length = S.length
  nd : μ.Nodup
  cell : ∀ (n : Nat) (c : Cell), S[n]? = some c → ∃ a, μ[n]? = some a ∧ RepC K μ H c a
/-- the ground of a reading: the written part, the classes, the callees, the caught exception's own dict, its field's name and value -/
structure Gd where
  K : PySem.W.Frag
  xt : Nat → Option (Addr × Option Str)
  F : Fn
  cx : Option (Nat × Addr × Option (Addr × Str × D)) := none
/-- the caught exception is held by its name, its dict stands as it is told -/
def CurOk (Γ : Gd) (μ : List Addr) (H : Hp) (σ : St) (env : Env) : Prop :=
  match Γ.cx with
  | none => True
  | some (i, a, o) => (env[i]? = some none → σ[i]? = some (some (.ref a))) ∧ match o with
    | none => True
    | some (b, f, d) => ∃ v, H b = some (.xd [(f, v)]) ∧ b ∉ μ ∧ RepV Γ.K μ H d v
theorem CurOk.mono {Γ : Gd} {μ μ' : List Addr} {H H' : Hp} {σ : St} {env : Env} (e : Ext μ H μ' H') (h : CurOk Γ μ H σ env) : CurOk Γ μ' H' σ env := by
  unfold CurOk at *
  split
  · trivial
  next i a o q =>
    rw [q] at h
    refine ⟨h.1, ?_⟩
    have h2 := h.2
    split
    · trivial
    next b f d =>
      obtain ⟨v, h1, h2, h3⟩ := h2
      refine ⟨v, e.keep _ _ h1 h2, fun z => ?_, h3.mono e⟩
      obtain ⟨t, rfl, ft⟩ := e.pre
      rcases List.mem_append.mp z with z | z
      · exact h2 z
      · rw [ft _ z] at h1; cases h1
theorem CurOk.set {Γ : Gd} {μ : List Addr} {H : Hp} {σ : St} {env : Env} {j : Nat} {v : Option V} {d : D} (h : CurOk Γ μ H σ env) : CurOk Γ μ H (σ.set j v) (env.set j (some d)) := by
  unfold CurOk at *
  split
  · trivial
  next i a o q =>
    rw [q] at h
    refine ⟨fun e => ?_, h.2⟩
    by_cases z : j = i
    · subst z
      by_cases hl : j < env.length
      · rw [List.getElem?_set_self hl] at e; cases e
      · rw [List.getElem?_eq_none (by simp; omega)] at e; cases e
    · rw [List.getElem?_set_ne z] at e ⊢
      exact h.1 e
theorem CurOk.no {Γ : Gd} {μ : List Addr} {H : Hp} {σ : St} {env : Env} (h : Γ.cx = none) : CurOk Γ μ H σ env := by unfold CurOk; rw [h]; trivial
structure RepE (Γ : Gd) (μ : List Addr) (H : Hp) (σ : St) (env : Env) : Prop where
  len : env.length = σ.length
  slot : ∀ (i : Nat) (d : D), env[i]? = some (some d) → ∃ v, σ[i]? = some (some v) ∧ RepV Γ.K μ H d v
  cur : CurOk Γ μ H σ env

section
variable {Γ : Gd} {K : PySem.W.Frag} {μ μ' : List Addr} {H H' : Hp} {S : Store} {σ : St} {env : Env} {p a : Addr} {xs vs : List V} {ds : List D}
/-- what a cell is -/
def CellO : HO → Prop
  | .lst _ => True
  | .dK _ => True
  | _ => False
theorem CellO.ntup {o : HO} (h : CellO o) (xs : List V) : o ≠ .tup xs := fun e => by subst e; exact h
theorem CellO.nfrz {o : HO} (h : CellO o) (b : Obj) (u : HO) : o ≠ .frz b u := fun e => by subst e; exact h
theorem RepC.there {c : Cell} (h : RepC K μ H c a) : ∃ o, H a = some o ∧ CellO o := by
  cases c with
  | lst ds => obtain ⟨vs, h, _⟩ := h; exact ⟨_, h, trivial⟩
  | dic kvs => obtain ⟨vs, h, _⟩ := h; exact ⟨_, h, trivial⟩
  | oth => exact h.elim
theorem RepS.there (r : RepS K μ H S) (h : a ∈ μ) : ∃ o, H a = some o ∧ CellO o := by
  obtain ⟨n, hn, e⟩ := List.getElem_of_mem h
  have hs : n < S.length := by rw [← r.len]; exact hn
  obtain ⟨b, e1, e2⟩ := r.cell n S[n] (by simp [hs])
  have : b = a := by
    rw [List.getElem?_eq_getElem hn] at e1
    rw [← e]; exact (Option.some.inj e1).symm
  subst this
  exact e2.there
theorem RepS.fresh (r : RepS K μ H S) (h : H p = none) : p ∉ μ := fun z => by
  obtain ⟨xs, q, _⟩ := r.there z
  rw [h] at q; cases q
theorem RepC.mono {c : Cell} (e : Ext μ H μ' H') (h : RepC K μ H c a) (k : H' a = H a) : RepC K μ' H' c a := by
  cases c with
  | lst ds => obtain ⟨vs, h, r⟩ := h; exact ⟨vs, by rw [k]; exact h, r.mono e⟩
  | dic kvs => obtain ⟨vs, h, r1, r2⟩ := h; exact ⟨vs, by rw [k]; exact h, r1, r2.mono e⟩
  | oth => exact h
/-- a new object that no cell is -/
theorem Ext.new {o : HO} (h : H p = none) : Ext μ H μ (upd H p o) := by
  have ne : ∀ b, H b ≠ none → b ≠ p := fun b hb z => hb (by rw [z]; exact h)
  refine ⟨⟨[], by simp, by simp⟩, fun b u e _ => ?_, fun b e => ?_, fun b xs e => ?_, fun b ob u e => ?_⟩
  · rw [upd_ne (ne b (by rw [e]; simp))]; exact e
  · rw [upd_ne (ne b e)]; exact e
  · rw [upd_ne (ne b (by rw [e]; simp))]; exact e
  · rw [upd_ne (ne b (by rw [e]; simp))]; exact e
theorem RepS.new {o : HO} (r : RepS K μ H S) (h : H p = none) : RepS K μ (upd H p o) S := by
  refine ⟨r.len, r.nd, fun n c e => ?_⟩
  obtain ⟨a, e1, e2⟩ := r.cell n c e
  refine ⟨a, e1, e2.mono (Ext.new h) ?_⟩
  obtain ⟨xs, q, _⟩ := e2.there
  exact upd_ne (ne_of_none q h)
/-- a new cell -/
theorem Ext.newCell {o : HO} (h : H p = none) : Ext μ H (μ ++ [p]) (upd H p o) := by
  obtain ⟨_, k, l, t, f⟩ := Ext.new (μ := μ) (o := o) h
  exact ⟨⟨[p], rfl, fun b hb => by simp at hb; subst hb; exact h⟩, k, l, t, f⟩
theorem RepS.newC {o : HO} {c0 : Cell} (r : RepS K μ H S) (h : H p = none) (rc : RepC K (μ ++ [p]) (upd H p o) c0 p) : RepS K (μ ++ [p]) (upd H p o) (S ++ [c0]) := by
  have e := Ext.newCell (μ := μ) (o := o) h
  refine ⟨by simp [r.len], ?_, fun n c q => ?_⟩
  · rw [List.nodup_append]
    refine ⟨r.nd, by simp, fun a ha b hb z => ?_⟩
    simp at hb; subst hb; subst z
    exact r.fresh h ha
  · by_cases hn : n < S.length
    · rw [List.getElem?_append_left hn] at q
      obtain ⟨a, e1, e2⟩ := r.cell n c q
      refine ⟨a, e.get e1, e2.mono e ?_⟩
      obtain ⟨ys, z, _⟩ := e2.there
      exact upd_ne (ne_of_none z h)
    · have hn' : n = S.length := by
        have := (List.getElem?_eq_some_iff.mp q).1
        simp at this; omega
      subst hn'
      rw [List.getElem?_append_right (Nat.le_refl _)] at q
      simp at q; subst q
      exact ⟨p, by rw [← r.len]; simp, rc⟩
theorem RepS.newCell (r : RepS K μ H S) (h : H p = none) (rv : RepVs K μ H ds xs) : RepS K (μ ++ [p]) (upd H p (.lst xs)) (S ++ [.lst ds]) :=
  r.newC h ⟨xs, upd_same, rv.mono (Ext.newCell h)⟩
theorem RepS.newDic (r : RepS K μ H S) (h : H p = none) : RepS K (μ ++ [p]) (upd H p (.dK [])) (S ++ [.dic []]) :=
  r.newC h ⟨[], upd_same, rfl, .nil⟩
theorem RepS.newRef (r : RepS K μ H S) : (μ ++ [p])[S.length]? = some p := by
  rw [← r.len]; simp
/-- a list that no cell is, changed -/
theorem RepS.other (r : RepS K μ H S) (h : H a = some (.lst xs)) (n : a ∉ μ) : RepS K μ (upd H a (.lst vs)) S := by
  refine ⟨r.len, r.nd, fun m c e => ?_⟩
  obtain ⟨b, e1, e2⟩ := r.cell m c e
  have hb : b ≠ a := fun z => n (by rw [← z]; exact List.mem_of_getElem? e1)
  refine ⟨b, e1, ?_⟩
  cases c with
  | lst ds => obtain ⟨ws, g1, g2⟩ := e2; exact ⟨ws, by rw [upd_ne hb]; exact g1, g2.wk (Wk.other h)⟩
  | dic kvs => obtain ⟨ws, g1, g2, g3⟩ := e2; exact ⟨ws, by rw [upd_ne hb]; exact g1, g2, g3.wk (Wk.other h)⟩
  | oth => exact e2
/-- a cell's list is changed -/
theorem RepS.lst (r : RepS K μ H S) {n : Nat} (h : S[n]? = some (.lst ds)) : ∃ a vs, μ[n]? = some a ∧ H a = some (.lst vs) ∧ RepVs K μ H ds vs := by
  obtain ⟨a, e1, vs, e2, e3⟩ := r.cell n _ h
  exact ⟨a, vs, e1, e2, e3⟩
theorem RepS.dic (r : RepS K μ H S) {n : Nat} {kvs : List (Key × D)} (h : S[n]? = some (.dic kvs)) : ∃ a vs, μ[n]? = some a ∧ H a = some (.dK vs) ∧ RepKV K μ H kvs vs := by
  obtain ⟨a, e1, vs, e2, e3⟩ := r.cell n _ h
  exact ⟨a, vs, e1, e2, e3⟩
theorem Ext.setC {o o' : HO} (h : H a = some o) (ho : CellO o) (hm : a ∈ μ) : Ext μ H μ (upd H a o') := by
  refine ⟨⟨[], by simp, by simp⟩, fun b u e n => ?_, fun b e => ?_, fun b ys e => ?_, fun b ob u e => ?_⟩
  · rw [upd_ne (fun z => n (by rw [z]; exact hm))]; exact e
  · by_cases z : b = a
    · subst z; rw [upd_same]; simp
    · rw [upd_ne z]; exact e
  · rw [upd_ne (fun z => by subst z; rw [e] at h; cases h; exact ho)]; exact e
  · rw [upd_ne (fun z => by subst z; rw [e] at h; cases h; exact ho)]; exact e
theorem Ext.set (h : H a = some (.lst xs)) (hm : a ∈ μ) : Ext μ H μ (upd H a (.lst vs)) := Ext.setC h trivial hm
theorem RepS.setC {o o' : HO} {c0 : Cell} (r : RepS K μ H S) {n : Nat} (hn : μ[n]? = some a) (h : H a = some o) (ho : CellO o) (rc : RepC K μ (upd H a o') c0 a) : RepS K μ (upd H a o') (S.set n c0) := by
  have hm : a ∈ μ := List.mem_of_getElem? hn
  have e := Ext.setC (μ := μ) (o' := o') h ho hm
  refine ⟨by simp [r.len], r.nd, fun m c q => ?_⟩
  by_cases z : n = m
  · subst z
    have hl : n < S.length := by rw [← r.len]; exact (List.getElem?_eq_some_iff.mp hn).1
    rw [List.getElem?_set_self hl] at q
    cases q
    exact ⟨a, hn, rc⟩
  · rw [List.getElem?_set_ne z] at q
    obtain ⟨b, e1, e2⟩ := r.cell m c q
    refine ⟨b, e1, e2.mono e (upd_ne fun w => z ?_)⟩
    subst w
    have h1 := List.getElem?_eq_some_iff.mp hn
    have h2 := List.getElem?_eq_some_iff.mp e1
    obtain ⟨l1, g1⟩ := h1
    obtain ⟨l2, g2⟩ := h2
    exact (List.getElem_inj r.nd).mp (g1.trans g2.symm)
theorem RepS.set (r : RepS K μ H S) {n : Nat} (hn : μ[n]? = some a) (h : H a = some (.lst xs)) (rv : RepVs K μ H ds vs) : RepS K μ (upd H a (.lst vs)) (S.set n (.lst ds)) :=
  r.setC hn h trivial ⟨vs, upd_same, rv.mono (Ext.set h (List.mem_of_getElem? hn))⟩
theorem RepS.setD (r : RepS K μ H S) {n : Nat} {kvs' : List (Key × D)} {us vs : List (Key × V)} (hn : μ[n]? = some a) (h : H a = some (.dK us)) (rv : RepKV K μ H kvs' vs) : RepS K μ (upd H a (.dK vs)) (S.set n (.dic kvs')) :=
  r.setC hn h trivial ⟨vs, upd_same, rv.1, rv.2.mono (Ext.setC h trivial (List.mem_of_getElem? hn))⟩
theorem RepKV.val {K : PySem.W.Frag} {k : Key} : ∀ {kvs : List (Key × D)} {vs : List (Key × V)}, RepKV K μ H kvs vs → (valD kvs k = none ∧ valV vs k = none) ∨ ∃ d v, valD kvs k = some d ∧ valV vs k = some v ∧ RepV K μ H d v
  | [], [], _ => .inl ⟨rfl, rfl⟩
  | (a, d) :: kvs, (b, v) :: vs, ⟨h1, h2⟩ => by
    simp only [List.map_cons, List.cons.injEq] at h1
    obtain ⟨rfl, h1⟩ := h1
    cases h2 with
    | cons r h2 =>
      by_cases e : a = k
      · exact .inr ⟨d, v, by simp [valD, List.find?_cons, e], by simp [valV, List.find?_cons, e], r⟩
      · have := RepKV.val (k := k) (⟨h1, h2⟩ : RepKV K μ H kvs vs)
        simpa [valD, valV, List.find?_cons, e] using this
  | [], _ :: _, ⟨h, _⟩ => by simp at h
  | _ :: _, [], ⟨h, _⟩ => by simp at h
theorem RepKV.any {K : PySem.W.Frag} {k : Key} {kvs : List (Key × D)} {vs : List (Key × V)} (h : RepKV K μ H kvs vs) : (kvs.any fun kv => decide (kv.1 = k)) = (vs.any fun kv => decide (kv.1 = k)) := by
  have e1 : (kvs.any fun kv => decide (kv.1 = k)) = ((kvs.map (·.1)).any fun a => decide (a = k)) := by rw [List.any_map]; rfl
  have e2 : (vs.any fun kv => decide (kv.1 = k)) = ((vs.map (·.1)).any fun a => decide (a = k)) := by rw [List.any_map]; rfl
  rw [e1, e2, h.1]
theorem RepKV.upd {K : PySem.W.Frag} {k : Key} {d : D} {v : V} (r : RepV K μ H d v) : ∀ {kvs : List (Key × D)} {vs : List (Key × V)}, RepKV K μ H kvs vs → RepKV K μ H (kvs.map fun kv => if kv.1 = k then (kv.1, d) else kv) (vs.map fun kv => if kv.1 = k then (kv.1, v) else kv)
  | [], [], _ => ⟨rfl, .nil⟩
  | (a, d') :: kvs, (b, v') :: vs, ⟨h1, h2⟩ => by
    simp only [List.map_cons, List.cons.injEq] at h1
    obtain ⟨rfl, h1⟩ := h1
    cases h2 with
    | cons q h2 =>
      have ih := RepKV.upd (k := k) r (⟨h1, h2⟩ : RepKV K μ H kvs vs)
      by_cases e : a = k
      · simp only [List.map_cons, e, if_true]
        exact ⟨by simp only [List.map_cons, ih.1], by simp only [List.map_cons]; exact .cons r ih.2⟩
      · simp only [List.map_cons, e, if_false]
        exact ⟨by simp only [List.map_cons, ih.1], by simp only [List.map_cons]; exact .cons q ih.2⟩
  | [], _ :: _, ⟨h, _⟩ => by simp at h
  | _ :: _, [], ⟨h, _⟩ => by simp at h
theorem RepKV.put {K : PySem.W.Frag} {k : Key} {d : D} {v : V} {kvs : List (Key × D)} {vs : List (Key × V)} (h : RepKV K μ H kvs vs) (r : RepV K μ H d v) : RepKV K μ H (putD kvs k d) (putK vs k v) := by
  unfold putD putK
  rw [h.any]
  split
  · exact h.upd r
  · exact ⟨by simp [h.1], by rw [List.map_append, List.map_append]; exact h.2.append (.cons r .nil)⟩
theorem RepKV.length {K : PySem.W.Frag} {kvs : List (Key × D)} {vs : List (Key × V)} (h : RepKV K μ H kvs vs) : kvs.length = vs.length := by
  have := congrArg List.length h.1
  simpa using this
theorem key_of {K : PySem.W.Frag} {d : D} {v : V} {k : Key} (r : RepV K μ H d v) (h : d.key = some k) : v = kV k := by
  cases r <;> simp [D.key] at h <;> subst h <;> rfl
theorem RepE.mono (e : Ext μ H μ' H') (r : RepE Γ μ H σ env) : RepE Γ μ' H' σ env :=
  ⟨r.len, fun i d q => let ⟨v, h1, h2⟩ := r.slot i d q; ⟨v, h1, h2.mono e⟩, r.cur.mono e⟩
theorem RepE.set {i : Nat} {d : D} {v : V} (r : RepE Γ μ H σ env) (h : RepV Γ.K μ H d v) : RepE Γ μ H (σ.set i (some v)) (env.set i (some d)) := by
  refine ⟨by simp [r.len], fun j d' q => ?_, r.cur.set⟩
  by_cases z : i = j
  · subst z
    by_cases hl : i < env.length
    · rw [List.getElem?_set_self hl] at q
      cases q
      exact ⟨v, by rw [List.getElem?_set_self (by rw [← r.len]; exact hl)], h⟩
    · rw [List.getElem?_eq_none (by simp; omega)] at q; cases q
  · rw [List.getElem?_set_ne z] at q ⊢
    exact r.slot j d' q
theorem RepE.setN {i : Nat} (hc : Γ.cx = none) (r : RepE Γ μ H σ env) : RepE Γ μ H (σ.set i none) (env.set i none) := by
  refine ⟨by simp [r.len], fun j d' q => ?_, .no hc⟩
  by_cases z : i = j
  · subst z
    by_cases hl : i < env.length
    · rw [List.getElem?_set_self hl] at q; cases q
    · rw [List.getElem?_eq_none (by simp; omega)] at q; cases q
  · rw [List.getElem?_set_ne z] at q ⊢
    exact r.slot j d' q
theorem RepE.wipe (hc : Γ.cx = none) (r : RepE Γ μ H σ env) : ∀ vs : List Nat, RepE Γ μ H (L2.wipe σ vs) (wipeE env vs)
  | [] => r
  | v :: vs => by
    unfold L2.wipe wipeE
    exact (RepE.wipe hc r vs).setN hc
end

/-- an exception in the heap -/
def RepX (Γ : Gd) (μ : List Addr) (H : Hp) (x : Exn) (cls : Value) (dd : Option Addr) : Prop :=
  ∃ C fo, Γ.xt x.cls = some (C, fo) ∧ cls = .ref C ∧
    ((x.fs = [] ∧ fo = none ∧ dd = none) ∨ ∃ d f a v, x.fs = [d] ∧ fo = some f ∧ dd = some a ∧ H a = some (.xd [(f, v)]) ∧ RepV Γ.K μ H d v)
def Aft {α : Type} (Γ : Gd) (E : XK) (μ : List Addr) (H : Hp) (P : α → Store → List Addr → Hp → Prop) (r : R α) : Prop :=
  match r with
  | .ok a S' => ∀ μ' H', Ext μ H μ' H' → RepS Γ.K μ' H' S' → P a S' μ' H'
  | .exc x S' => ∀ μ' H' cls dd, Ext μ H μ' H' → RepS Γ.K μ' H' S' → RepX Γ μ' H' x cls dd → E cls dd H'
  | .stuck => False
theorem Aft.mono {α : Type} {Γ : Gd} {E : XK} {μ μ1 : List Addr} {H H1 : Hp} {P : α → Store → List Addr → Hp → Prop} {r : R α} (h : Aft Γ E μ H P r) (e : Ext μ H μ1 H1) : Aft Γ E μ1 H1 P r := by
  cases r with
  | ok a S' => exact fun μ' H' e' r' => h μ' H' (e.trans e') r'
  | exc x S' => exact fun μ' H' cls dd e' r' => h μ' H' cls dd (e.trans e') r'
  | stuck => exact h
theorem Aft.bind {α β : Type} {Γ : Gd} {E : XK} {μ : List Addr} {H : Hp} {P : β → Store → List Addr → Hp → Prop} {P' : α → Store → List Addr → Hp → Prop} {r : R α} {f : α → Store → R β} (h : Aft Γ E μ H P (r.bind f))
    (k : ∀ a S' μ' H', Ext μ H μ' H' → RepS Γ.K μ' H' S' → Aft Γ E μ' H' P (f a S') → P' a S' μ' H') : Aft Γ E μ H P' r := by
  cases r with
  | ok a S' => exact fun μ' H' e r => k a S' μ' H' e r (Aft.mono h e)
  | exc x S' => exact h
  | stuck => exact h
theorem Aft.imp {α : Type} {Γ : Gd} {E : XK} {μ : List Addr} {H : Hp} {P P' : α → Store → List Addr → Hp → Prop} {r : R α} (h : Aft Γ E μ H P r)
    (k : ∀ a S' μ' H', Ext μ H μ' H' → RepS Γ.K μ' H' S' → P a S' μ' H' → P' a S' μ' H') : Aft Γ E μ H P' r := by
  cases r with
  | ok a S' => exact fun μ' H' e r => k a S' μ' H' e r (h μ' H' e r)
  | exc x S' => exact h
  | stuck => exact h
theorem Aft.map {α β : Type} {Γ : Gd} {E : XK} {μ : List Addr} {H : Hp} {P : β → Store → List Addr → Hp → Prop} {r : R α} {f : α → β} (h : Aft Γ E μ H P (r.map f)) : Aft Γ E μ H (fun a S' μ' H' => P (f a) S' μ' H') r :=
  Aft.bind (f := fun a S => .ok (f a) S) h fun a S' μ' H' _ rs z => z μ' H' (Ext.refl _ _) rs
/-- what is there now -/
theorem Aft.now {α : Type} {Γ : Gd} {E : XK} {μ : List Addr} {H : Hp} {P : α → Store → List Addr → Hp → Prop} {a : α} {S : Store} (h : Aft Γ E μ H P (.ok a S)) (r : RepS Γ.K μ H S) : P a S μ H := h μ H (Ext.refl _ _) r

/-! ### the readings -/
section
variable (Γ : Gd) (W : WX)
/-- exceptions at the slots as they stand -/
abbrev atS (σ : St) : XK := fun cls d H => W cls d σ H
def tE (c : E) : TE := fun σ H Q => ∃ μ env S, RepS Γ.K μ H S ∧ RepE Γ μ H σ env ∧ Aft Γ (atS W σ) μ H (fun d _ μ' H' => ∀ v, RepV Γ.K μ' H' d v → Q v H') (evE Γ.F env c S)
def tEs (c : Es) : TA := fun σ H Q => ∃ μ env S, RepS Γ.K μ H S ∧ RepE Γ μ H σ env ∧ Aft Γ (atS W σ) μ H (fun ds _ μ' H' => ∀ vs, RepVs Γ.K μ' H' ds vs → Q vs H') (evEs Γ.F env c S)
def tO (c : Oe) : TO := fun σ H Q => ∃ μ env S, RepS Γ.K μ H S ∧ RepE Γ μ H σ env ∧ Aft Γ (atS W σ) μ H (fun o _ _ H' => Q o H') (evO Γ.F env c S)
def tOT (c : Oe) : TT := fun σ H Q => ∃ μ env S, RepS Γ.K μ H S ∧ RepE Γ μ H σ env ∧ Aft Γ (atS W σ) μ H (fun o _ _ H' => Q o H') (evOT Γ.F env c S)
def tT (c : E) : TT := fun σ H Q => ∃ μ env S, RepS Γ.K μ H S ∧ RepE Γ μ H σ env ∧ Aft Γ (atS W σ) μ H (fun o _ _ H' => Q o H') (evT Γ.F env c S)
end

/-! ### from one reading to another -/
section
variable {X : Cx} {e : PySem.Expr}
theorem _root_.L2.PE.imp {t t' : TE} (h : PE X e t) (k : ∀ σ H Q, t' σ H Q → t σ H Q) : PE X e t' := ⟨fun pins s σ H Q I q => h.run pins s σ H Q I (k σ H Q q)⟩
theorem _root_.L2.PT.imp {t t' : TT} (h : PT X e t) (k : ∀ σ H Q, t' σ H Q → t σ H Q) : PT X e t' := ⟨fun pins s σ H Q I q => h.run pins s σ H Q I (k σ H Q q)⟩
theorem _root_.L2.PW.imp {t t' : TT} (h : PW X e t) (k : ∀ σ H Q, t' σ H Q → t σ H Q) : PW X e t' := ⟨fun wh pins s σ H Q I q => h.run wh pins s σ H Q I (k σ H Q q)⟩
theorem _root_.L2.PA.imp {es : List PySem.Expr} {t t' : TA} (h : PA X es t) (k : ∀ σ H Q, t' σ H Q → t σ H Q) : PA X es t' := ⟨fun pos pins s σ H Q I q => h.run pos pins s σ H Q I (k σ H Q q)⟩
theorem _root_.L2.PI.imp {tg : PySem.Expr} {t t' : TI} (h : PI X tg e t) (k : ∀ σ H R, t' σ H R → t σ H R) : PI X tg e t' := ⟨fun pins s σ H R I q => h.run pins s σ H R I (k σ H R q)⟩
theorem _root_.L2.PI.or {tg : PySem.Expr} {t t' : TI} (h : PI X tg e t) (h' : PI X tg e t') : PI X tg e (fun σ H R => t σ H R ∨ t' σ H R) := ⟨fun pins s σ H R I q => q.elim (h.run pins s σ H R I) (h'.run pins s σ H R I)⟩
theorem _root_.L2.PS.imp {st : PySem.Stmt} {t t' : TS} (h : PS X st t) (k : ∀ D σ H, t' D σ H → t D σ H) : PS X st t' := ⟨fun pins s σ H D I q => h.run pins s σ H D I (k D σ H q)⟩
end
end PD
end

section
set_option linter.all false
set_option maxRecDepth 100000
/-! PDmstr: a text so many times. -/
namespace PD
open PySem L2
/-- text * number -/
theorem op_mul_str {X : Cx} : OpR X (binaryOp .Mult) (fun x y H Q => ∃ a k, x = .str a ∧ y = .int k ∧ 2 ≤ k ∧ k ≤ 100000 ∧ 0 < a.length ∧ a.length ≤ 100 ∧ Q (.str (repS a k.toNat)) H) := by
  intro pins s σ H x y v u Q I rx ry ⟨a, k, ex, ey, h1, h2, h3, h4, q⟩
  subst ex ey
  obtain ⟨t, rfl⟩ := rx
  obtain ⟨t', rfl⟩ := ry
  have n1 : ¬ k < 1 := by omega
  have e1 : (k == 1) = false := by
    rw [beq_eq_false_iff_ne]
    omega
  have e2 : (a.length == 0) = false := by
    rw [beq_eq_false_iff_ne]
    omega
  have e3 : (k == 1 || a.length == 0) = false := by rw [e1, e2]; rfl
  have l1 : a.length * k.toNat ≤ 10000000 := by
    have : a.length * k.toNat ≤ 100 * 100000 := Nat.mul_le_mul h4 (by omega)
    omega
  refine PySem.P.mul_str ?_ (fun _ _ => ?_) (fun _ _ => ?_) ?_
  · rw [decide_eq_false (by omega : ¬ k < -(2 ^ 63 : Int)), decide_eq_false (by omega : ¬ k ≥ 2 ^ 63)]; rfl
  · have : (100 : Int) ≤ (2 ^ 63 - 1) / k := by
      rw [Int.le_ediv_iff_mul_le (by omega)]
      omega
    omega
  · unfold Builtin.Str.tooLong
    rw [decide_eq_false]
    rw [PySem.sizeLine_eq]
    omega
  · rw [if_neg n1, e3, if_neg (by decide)]
    have len : (repS a k.toNat).length = a.length * k.toNat := repS_len a k.toNat
    refine ⟨?_, ⟨.str (repS a k.toNat), H, I.tok _, ⟨_, rfl⟩, q⟩⟩
    show (repS a k.toNat).length ≤ sizeLine
    rw [len, PySem.sizeLine_eq]
    omega
end PD
end

section
set_option linter.all false
set_option maxRecDepth 100000
set_option maxHeartbeats 1000000
/-! PDops: each operation of the evaluator does what the model does. -/
namespace PD
open PySem L2

/-- what is wanted of a value's data -/
def QV (Γ : Gd) (Q : VK) : D → Store → List Addr → Hp → Prop := fun d _ μ' H' => ∀ v, RepV Γ.K μ' H' d v → Q v H'
def QB (Q : Bool → Hp → Prop) : Bool → Store → List Addr → Hp → Prop := fun b _ _ H' => Q b H'
/-- the reading of a two-place operation on data -/
def rBin (Γ : Gd) (f : D → D → Store → R D) : R2 := fun x y H Q => ∃ E μ S dx dy, RepS Γ.K μ H S ∧ RepV Γ.K μ H dx x ∧ RepV Γ.K μ H dy y ∧ Aft Γ E μ H (QV Γ Q) (f dx dy S)

section
variable {Γ : Gd} {E : XK} {μ : List Addr} {H : Hp} {S : Store} {Q : VK}
/-- a value that needs no object -/
theorem qv {d : D} {v : V} (h : Aft Γ E μ H (QV Γ Q) (.ok d S)) (rs : RepS Γ.K μ H S) (r : RepV Γ.K μ H d v) : Q v H := h.now rs v r
/-- a new tuple -/
theorem qv_tup {ds : List D} {xs : List V} (h : Aft Γ E μ H (QV Γ Q) (.ok (.tup ds) S)) (rs : RepS Γ.K μ H S) (r : RepVs Γ.K μ H ds xs) {p : Addr} (hp : H p = none) : Q (.ref p) (upd H p (.tup xs)) :=
  h μ (upd H p (.tup xs)) (Ext.new hp) (rs.new hp) _ (.tup (SqT.of upd_same) (r.mono (Ext.new hp)))
/-- a new list -/
theorem qv_lst {ds : List D} {xs : List V} (h : Aft Γ E μ H (QV Γ Q) (newL ds S)) (rs : RepS Γ.K μ H S) (r : RepVs Γ.K μ H ds xs) {p : Addr} (hp : H p = none) : Q (.ref p) (upd H p (.lst xs)) :=
  h (μ ++ [p]) (upd H p (.lst xs)) (Ext.newCell hp) (rs.newCell hp r) _ (.ref rs.newRef)
end

/-! ### tuple * int, the ways that make no new items -/
theorem tuple_mul_same (l : Addr) (items : Array Value) (n : Nat) (dd : Option Addr) (sl : Array (Option Value)) (x : Int) (u : Tok)
    (c0 : (decide (x < -(2 ^ 63)) || decide (x ≥ 2 ^ 63)) = false) (c1 : (items.isEmpty || x == 1) = true) :
    Meets (Builtin.«tuple.__mul__» ⟨[.ref l, .int x u], []⟩) (fun _ R s => s.heap.get? l = some { cls := .type "tuple", dict := dd, data := .seq items n, slots := sl } ∧ R (.ok (.ret (Value.ref l))) s) :=
  .of_wp fun prog w A R s h => by
    obtain ⟨hp, gg, dr, tk, oo⟩ := s
    obtain ⟨hl, h⟩ := h
    have f1 := AutoSeq1.idx_int
    wp_walk using wpAny_loadPart' hl
    repeat (first
      | (refine wpAny_ite_false (decide_eq_false (by rw [c0]; exact Bool.false_ne_true)) ?_; wp_walk using wpAny_loadPart' hl)
      | (refine wpAny_ite_true (decide_eq_true (by rw [c1])) ?_; wp_walk using wpAny_loadPart' hl))
    exact ⟨_, rfl, h⟩
theorem tuple_mul_none (l : Addr) (items : Array Value) (n : Nat) (dd : Option Addr) (sl : Array (Option Value)) (x : Int) (u : Tok)
    (c0 : (decide (x < -(2 ^ 63)) || decide (x ≥ 2 ^ 63)) = false) (c1 : (items.isEmpty || x == 1) = false) (c2 : (decide (x ≤ 0) || items.isEmpty) = true) :
    Meets (Builtin.«tuple.__mul__» ⟨[.ref l, .int x u], []⟩) (fun _ R s => s.heap.get? l = some { cls := .type "tuple", dict := dd, data := .seq items n, slots := sl } ∧
      R (.ok (.ret (Value.ref s.heap.objs.size))) { s with heap := s.heap.push { cls := Value.type "tuple", data := Data.seq #[] }, toks := s.toks }) :=
  .of_wp fun prog w A R s h => by
    obtain ⟨hp, gg, dr, tk, oo⟩ := s
    obtain ⟨hl, h⟩ := h
    have f1 := AutoSeq1.idx_int
    wp_walk using wpAny_loadPart' hl
    repeat (first
      | (refine wpAny_ite_false (decide_eq_false (by rw [c0]; exact Bool.false_ne_true)) ?_; wp_walk using wpAny_loadPart' hl)
      | (refine wpAny_ite_false (decide_eq_false (by rw [c1]; exact Bool.false_ne_true)) ?_; wp_walk using wpAny_loadPart' hl)
      | (refine wpAny_ite_true (decide_eq_true (by rw [c2])) ?_; wp_walk using wpAny_loadPart' hl))
    exact ⟨_, rfl, h⟩

def rRepA (K : PySem.W.Frag) : R2 := fun x y H Q => ∃ l k xs, x = .ref l ∧ y = .int k ∧ SqT K H l xs ∧ -1000 ≤ k ∧ k ≤ 1000 ∧ xs.length ≤ 1000 ∧
  (xs = [] ∨ k = 1 → Q (.ref l) H) ∧ ∀ p, H p = none → Q (.ref p) (upd H p (.tup (List.replicate k.toNat xs).flatten))
theorem op_repA {X : Cx} : OpR X (binaryOp .Mult) (rRepA X.K) := by
  intro pins s σ H x y v u Q I rx ry h
  obtain ⟨l, k, xs, rfl, rfl, hT, h1, h2, hz, q0, q1⟩ := h
  by_cases big : 2 ≤ k ∧ xs ≠ []
  · exact op_repT pins s σ H _ _ v u Q I rx ry ⟨l, k, xs, rfl, rfl, hT, big.2, big.1, h2, hz, q1⟩
  cases rx
  obtain ⟨t, rfl⟩ := ry
  obtain ⟨its, r, ⟨⟨cls, dd, data, sl⟩, ho, hc, n, hd⟩, hs⟩ := I.tuple hT
  simp only at hc hd
  subst hc; subst hd
  have c0 : (decide (k < -(2 ^ 63)) || decide (k ≥ 2 ^ 63)) = false := by
    rw [decide_eq_false (by omega), decide_eq_false (by omega)]; rfl
  have em : its.toArray.isEmpty = decide (xs = []) := by
    have hle := r.length
    cases its with
    | nil => cases r; rfl
    | cons a b => cases r; simp
  by_cases same : xs = [] ∨ k = 1
  · have c1 : (its.toArray.isEmpty || k == 1) = true := by
      rw [em]
      rcases same with e | e
      · simp [e]
      · simp [e]
    refine wpAny_binaryOp_repeat_ref (T := "tuple") (U := "int") (by decide) ⟨_, ho, rfl⟩ (fun s' => typeIs_int s' k t) noFill_tuple_mul F.fills_int_mul F.slot_int_rmul repeat_tuple F.slot_int_index.lookup
      (call_meets F.slot_int_rmul (typeIs_int s k t) F.entry_int_rmul (F.args_int_rmul_2 _ _) (int_rmul_tuple k t l its.toArray n dd sl)
        ⟨ho, rfl, ⟨_, ho, rfl⟩, call_meets F.slot_tuple_mul ⟨_, ho, rfl⟩ F.entry_tuple_mul (F.args_tuple_mul_2 _ _) (tuple_mul_same l its.toArray n dd sl k t c0 c1) ⟨ho, ?_⟩⟩)
    exact ⟨.ref l, H, I, rfl, q0 same⟩
  · have hx : xs ≠ [] := fun e => same (.inl e)
    have hk : k ≤ 0 := by
      have a1 : ¬ k = 1 := fun e => same (.inr e)
      have a2 : ¬ 2 ≤ k := fun e => big ⟨e, hx⟩
      omega
    have c1 : (its.toArray.isEmpty || k == 1) = false := by
      rw [em]; simp [hx]; omega
    have c2 : (decide (k ≤ 0) || its.toArray.isEmpty) = true := by simp [hk]
    refine wpAny_binaryOp_repeat_ref (T := "tuple") (U := "int") (by decide) ⟨_, ho, rfl⟩ (fun s' => typeIs_int s' k t) noFill_tuple_mul F.fills_int_mul F.slot_int_rmul repeat_tuple F.slot_int_index.lookup
      (call_meets F.slot_int_rmul (typeIs_int s k t) F.entry_int_rmul (F.args_int_rmul_2 _ _) (int_rmul_tuple k t l its.toArray n dd sl)
        ⟨ho, rfl, ⟨_, ho, rfl⟩, call_meets F.slot_tuple_mul ⟨_, ho, rfl⟩ F.entry_tuple_mul (F.args_tuple_mul_2 _ _) (tuple_mul_none l its.toArray n dd sl k t c0 c1 c2) ⟨ho, ?_⟩⟩)
    have q1' := q1 s.heap.objs.size (I.hok.fresh (Nat.le_refl _))
    have e0 : (List.replicate k.toNat xs).flatten = [] := by
      have : k.toNat = 0 := by omega
      rw [this]; rfl
    rw [e0] at q1'
    refine ⟨.ref s.heap.objs.size, _, I.laid (t' := s.toks) (o := .tup []) (fun b ob q => Heap.get?_push_of_some _ q) (Nat.le_refl _) ?_, rfl, q1'⟩
    exact ⟨by simp, [], .nil, PyProof.Rows.IsTup.new _ _⟩

theorem mul_ok {i j : Int} (h : mulOk i j = true) : CMul i j ∨ CMulW i j := by
  simp only [mulOk, Bool.or_eq_true, decide_eq_true_eq] at h
  rcases h with (h | h) | h
  · exact .inl (.inl ⟨by omega, by omega⟩)
  · exact .inl (.inr ⟨by omega, by omega⟩)
  · exact .inr h
theorem pow_ok {i j : Int} (h : powOk i j = true) : CPow i j := by
  simp only [powOk, Bool.and_eq_true, decide_eq_true_eq] at h
  exact ⟨h.1.1, h.1.2, h.2⟩

section
variable {Γ : Gd} {X : Cx}
theorem op_bin (hK : Γ.K = X.K) (o : Operator) : OpR X (binaryOp o) (rBin Γ (opBin o)) := by
  intro pins s σ H x y v u Q I rx ry h
  obtain ⟨E, μ, S, dx, dy, rs, hx, hy, h⟩ := h
  unfold opBin at h
  split at h
  · cases hx; cases hy
    exact op_add pins s σ H _ _ v u Q I rx ry ⟨_, _, rfl, rfl, qv h rs (.int _)⟩
  · cases hx; cases hy
    split at h
    · exact op_add_str pins s σ H _ _ v u Q I rx ry ⟨_, _, rfl, rfl, by assumption, qv h rs (.str _)⟩
    · exact h.elim
  · cases hx with
    | tup sa ra =>
      cases hy with
      | tup sb rb =>
        split at h
        next hl =>
          rw [hK] at sa sb
          refine op_catA pins s σ H _ _ v u Q I rx ry ⟨_, _, _, _, rfl, rfl, sa, sb, by rw [← ra.length, ← rb.length]; exact hl, fun e => ?_, fun _ e => ?_, fun _ _ p hp => ?_⟩
          · subst e
            cases ra
            exact qv h rs (.tup (by rw [hK]; exact sb) rb)
          · subst e
            cases rb
            rw [List.append_nil] at h
            exact qv h rs (.tup (by rw [hK]; exact sa) ra)
          · exact qv_tup h rs (ra.append rb) hp
        · exact h.elim
  · cases hx with
    | ref ea =>
      cases hy with
      | ref eb =>
        split at h
        next a b ha hb =>
          split at h
          next hl =>
            obtain ⟨p, xs, e1, e2, e3⟩ := rs.lst ha
            obtain ⟨q, ys, f1, f2, f3⟩ := rs.lst hb
            rw [ea] at e1; cases e1
            rw [eb] at f1; cases f1
            exact op_cat pins s σ H _ _ v u Q I rx ry ⟨_, _, _, _, rfl, rfl, e2, f2, by rw [← e3.length, ← f3.length]; exact hl, fun p hp => qv_lst h rs (e3.append f3) hp⟩
          · exact h.elim
        · exact h.elim
  · cases hx; cases hy
    exact op_sub pins s σ H _ _ v u Q I rx ry ⟨_, _, rfl, rfl, qv h rs (.int _)⟩
  · cases hx; cases hy
    split at h
    next hm =>
      rcases mul_ok hm with c | c
      · exact op_mul pins s σ H _ _ v u Q I rx ry ⟨_, _, rfl, rfl, c, qv h rs (.int _)⟩
      · exact op_mulW pins s σ H _ _ v u Q I rx ry ⟨_, _, rfl, rfl, c, qv h rs (.int _)⟩
    · exact h.elim
  · cases hx; cases hy
    split at h
    next hm => exact op_mul_str pins s σ H _ _ v u Q I rx ry ⟨_, _, rfl, rfl, hm.1, hm.2.1, hm.2.2.1, hm.2.2.2, qv h rs (.str _)⟩
    · exact h.elim
  · cases hx with
    | ref ea =>
      cases hy
      split at h
      next a ha =>
        split at h
        next hl =>
          obtain ⟨p, xs, e1, e2, e3⟩ := rs.lst ha
          rw [ea] at e1; cases e1
          exact op_rep pins s σ H _ _ v u Q I rx ry ⟨_, _, _, rfl, rfl, e2, hl.1, hl.2.1, by rw [← e3.length]; exact hl.2.2, fun p hp => qv_lst h rs (e3.rep _) hp⟩
        · exact h.elim
      · exact h.elim
  · cases hx with
    | tup sa ra =>
      cases hy
      split at h
      next hl =>
        obtain ⟨h1, h2, h3⟩ := hl
        rw [hK] at sa
        refine op_repA pins s σ H _ _ v u Q I rx ry ⟨_, _, _, rfl, rfl, sa, h3, h2, by rw [← ra.length]; exact h1, fun e => ?_, fun p hp => qv_tup h rs (ra.rep _) hp⟩
        rcases e with e | e
        · subst e
          cases ra
          rw [show (List.replicate (Int.toNat _) ([] : List D)).flatten = [] from by simp] at h
          exact qv h rs (.tup (by rw [hK]; exact sa) .nil)
        · subst e
          rw [show (List.replicate (Int.toNat 1) _).flatten = _ from by simp; rfl] at h
          exact qv h rs (.tup (by rw [hK]; exact sa) (by simpa using ra))
      · exact h.elim
  · cases hx; cases hy
    split at h
    next hm => exact op_fdivW pins s σ H _ _ v u Q I rx ry ⟨_, _, rfl, rfl, hm, qv h rs (.int _)⟩
    · exact h.elim
  · cases hx; cases hy
    split at h
    next hm => exact op_mod pins s σ H _ _ v u Q I rx ry ⟨_, _, rfl, rfl, hm, qv h rs (.int _)⟩
    · exact h.elim
  · cases hx; cases hy
    split at h
    next hm => exact op_pow pins s σ H _ _ v u Q I rx ry ⟨_, _, rfl, rfl, pow_ok hm, qv h rs (.int _)⟩
    · exact h.elim
  · cases hx; cases hy
    split at h
    next hm => exact op_shl pins s σ H _ _ v u Q I rx ry ⟨_, _, rfl, rfl, pow_ok hm, qv h rs (.int _)⟩
    · exact h.elim
  · cases hx; cases hy
    split at h
    next hm => exact op_shr pins s σ H _ _ v u Q I rx ry ⟨_, _, rfl, rfl, hm, qv h rs (.int _)⟩
    · exact h.elim
  · cases hx; cases hy
    exact op_and pins s σ H _ _ v u Q I rx ry ⟨_, _, rfl, rfl, qv h rs (.int _)⟩
  · cases hx; cases hy
    exact op_or pins s σ H _ _ v u Q I rx ry ⟨_, _, rfl, rfl, qv h rs (.int _)⟩
  · exact h.elim
end
end PD
end

section
set_option linter.all false
set_option maxRecDepth 100000
/-! PDeqn: == and != of a dict and a tuple. -/
namespace PySem.SeqAt
open PySem AutoSeq1 MeetsSeq
theorem dict_ne_declines_tuple (l b : Addr) (es : Array DictEntry) (n n2 : Nat) (items2 : Array Value) (dd dd2 : Option Addr) (sl sl2 : Array (Option Value)) :
    Meets (Builtin.«dict.__ne__» ⟨[.ref l, .ref b], []⟩) (fun _ R s => s.heap.get? l = some { cls := .type "dict", dict := dd, data := .dict es n, slots := sl } ∧ s.heap.get? b = some { cls := .type "tuple", dict := dd2, data := .seq items2 n2, slots := sl2 } ∧ R (.ok (.ret .notImplemented)) s) :=
  .of_wp fun prog w A R s h => by
    obtain ⟨hp, g, d, tk, os⟩ := s
    obtain ⟨hl, hb, h⟩ := h
    have f1 := F.sub_tuple_dict
    wp_walk using wpAny_loadPart' hl, wpAny_loadPart' hb
    exact ⟨_, rfl, h⟩
theorem tuple_ne_declines_dict (l b : Addr) (es : Array DictEntry) (n n2 : Nat) (items2 : Array Value) (dd dd2 : Option Addr) (sl sl2 : Array (Option Value)) :
    Meets (Builtin.«tuple.__ne__» ⟨[.ref b, .ref l], []⟩) (fun _ R s => s.heap.get? l = some { cls := .type "dict", dict := dd, data := .dict es n, slots := sl } ∧ s.heap.get? b = some { cls := .type "tuple", dict := dd2, data := .seq items2 n2, slots := sl2 } ∧ R (.ok (.ret .notImplemented)) s) :=
  .of_wp fun prog w A R s h => by
    obtain ⟨hp, g, d, tk, os⟩ := s
    obtain ⟨hl, hb, h⟩ := h
    have f1 := F.sub_dict_tuple
    wp_walk using wpAny_loadPart' hl, wpAny_loadPart' hb
    exact ⟨_, rfl, h⟩
theorem dict_eq_declines_tuple (l b : Addr) (es : Array DictEntry) (n n2 : Nat) (items2 : Array Value) (dd dd2 : Option Addr) (sl sl2 : Array (Option Value)) :
    Meets (Builtin.«dict.__eq__» ⟨[.ref l, .ref b], []⟩) (fun _ R s => s.heap.get? l = some { cls := .type "dict", dict := dd, data := .dict es n, slots := sl } ∧ s.heap.get? b = some { cls := .type "tuple", dict := dd2, data := .seq items2 n2, slots := sl2 } ∧ R (.ok (.ret .notImplemented)) s) :=
  .of_wp fun prog w A R s h => by
    obtain ⟨hp, g, d, tk, os⟩ := s
    obtain ⟨hl, hb, h⟩ := h
    have f1 := F.sub_tuple_dict
    wp_walk using wpAny_loadPart' hl, wpAny_loadPart' hb
    exact ⟨_, rfl, h⟩
theorem tuple_eq_declines_dict (l b : Addr) (es : Array DictEntry) (n n2 : Nat) (items2 : Array Value) (dd dd2 : Option Addr) (sl sl2 : Array (Option Value)) :
    Meets (Builtin.«tuple.__eq__» ⟨[.ref b, .ref l], []⟩) (fun _ R s => s.heap.get? l = some { cls := .type "dict", dict := dd, data := .dict es n, slots := sl } ∧ s.heap.get? b = some { cls := .type "tuple", dict := dd2, data := .seq items2 n2, slots := sl2 } ∧ R (.ok (.ret .notImplemented)) s) :=
  .of_wp fun prog w A R s h => by
    obtain ⟨hp, g, d, tk, os⟩ := s
    obtain ⟨hl, hb, h⟩ := h
    have f1 := F.sub_dict_tuple
    wp_walk using wpAny_loadPart' hl, wpAny_loadPart' hb
    exact ⟨_, rfl, h⟩
section
variable {A : Around} {s : Shared} {l b : Addr} {items2 : Array Value}
theorem RcNeAt.dict_tuple {o : Obj} {es : Array DictEntry} {n : Nat} (ho : s.heap.get? l = some o) (hc : o.cls = .type "dict") (hd : o.data = .dict es n) (hb : s.heap.IsTuple b items2) (hu : A.units < cLine) : RcNeAt A s (.ref l) (.ref b) true := fun prog w E Q h => by
  obtain ⟨cls, dd, data, sl⟩ := o
  obtain ⟨⟨cls2, dd2, data2, sl2⟩, ho2, hc2, n2, hd2⟩ := id hb
  simp only at hc hd hc2 hd2
  subst hc hd hc2 hd2
  have hne : l ≠ b := fun e => by subst e; rw [ho] at ho2; exact absurd (Option.some.inj ho2) (by simp)
  exact (rc_ne_decline_or (k := false) ⟨_, ho, rfl⟩ ⟨_, ho2, rfl⟩ (by decide) F.sub_tuple_dict F.slot_dict_ne F.slot_tuple_ne_refl
    (fun _ hq => call_meets F.slot_dict_ne ⟨_, ho, rfl⟩ F.entry_dict_ne (F.args_dict_ne_2 _ _) (dict_ne_declines_tuple l b es n n2 items2 dd dd2 sl sl2) ⟨ho, ho2, hq⟩)
    (fun _ hq => call_meets F.slot_tuple_ne_refl ⟨_, ho2, rfl⟩ F.entry_tuple_ne (F.args_tuple_ne_2 _ _) (tuple_ne_declines_dict l b es n n2 items2 dd dd2 sl sl2) ⟨ho, ho2, hq⟩)
    (fun _ hq => wpAny_isSame_ref_other hne ho ho2 (by simp) hq) (.inr hu) h)
theorem RcAt.dict_tuple {o : Obj} {es : Array DictEntry} {n : Nat} (ho : s.heap.get? l = some o) (hc : o.cls = .type "dict") (hd : o.data = .dict es n) (hb : s.heap.IsTuple b items2) (hu : A.units < cLine) : RcAt A s (.ref l) (.ref b) false := fun prog w E Q h => by
  obtain ⟨cls, dd, data, sl⟩ := o
  obtain ⟨⟨cls2, dd2, data2, sl2⟩, ho2, hc2, n2, hd2⟩ := id hb
  simp only at hc hd hc2 hd2
  subst hc hd hc2 hd2
  have hne : l ≠ b := fun e => by subst e; rw [ho] at ho2; exact absurd (Option.some.inj ho2) (by simp)
  exact (rc_eq_decline_or (k := false) ⟨_, ho, rfl⟩ ⟨_, ho2, rfl⟩ (by decide) F.sub_tuple_dict F.slot_dict_eq F.slot_tuple_eq_refl
    (fun _ hq => call_meets F.slot_dict_eq ⟨_, ho, rfl⟩ F.entry_dict_eq (F.args_dict_eq_2 _ _) (dict_eq_declines_tuple l b es n n2 items2 dd dd2 sl sl2) ⟨ho, ho2, hq⟩)
    (fun _ hq => call_meets F.slot_tuple_eq_refl ⟨_, ho2, rfl⟩ F.entry_tuple_eq (F.args_tuple_eq_2 _ _) (tuple_eq_declines_dict l b es n n2 items2 dd dd2 sl sl2) ⟨ho, ho2, hq⟩)
    (fun _ hq => wpAny_isSame_ref_other hne ho ho2 (by simp) hq) (.inr hu) h)
end
end PySem.SeqAt
namespace PD
open PySem L2
variable {X : Cx} {pins : List (Addr × Obj)} {σ : St} {H : Hp} {s : Shared}
/-- what is told of == and != with an empty tuple -/
theorem rc_nil {p q : Addr} (hu : X.A.units < cLine) (I : Inv X pins σ H s) (hy : SqT X.K H q []) (k : Bool) (hx : (∃ xs, SqT X.K H p xs ∧ k = xs.isEmpty) ∨ ((∃ xs, SqL X.K H p xs) ∧ k = false) ∨ ((∃ kvs, H p = some (.dK kvs)) ∧ k = false)) :
    SeqAt.RcAt X.A s (.ref p) (.ref q) k ∧ SeqAt.RcNeAt X.A s (.ref p) (.ref q) (!k) := by
  obtain ⟨its2, r2, ht2, _⟩ := I.tuple hy
  have e2 : its2 = [] := by have := r2.length; cases its2 with | nil => rfl | cons a t => simp at this
  subst e2
  have ht2' : s.heap.IsTuple q #[] := ht2
  rcases hx with ⟨xs, hx, rfl⟩ | ⟨⟨xs, hx⟩, rfl⟩ | ⟨⟨kvs, hx⟩, rfl⟩
  · obtain ⟨its, r, ht, _⟩ := I.tuple hx
    have hl := r.length
    have a := SeqAt.RcAt.tuples (e := fun _ => true) (show s.heap.IsTuple p its.toArray from ht) ht2' hu (fun j h1 h2 => absurd h2 (by simp))
    have b := SeqAt.RcNeAt.tuples (e := fun _ => true) (show s.heap.IsTuple p its.toArray from ht) ht2' hu (fun j h1 h2 => absurd h2 (by simp))
    have e : ((List.range (min its.toArray.size (#[] : Array Value).size)).all (fun _ => true) && its.toArray.size == (#[] : Array Value).size) = xs.isEmpty := by
      cases xs with
      | nil => simp at hl; simp [hl]
      | cons x xs => simp at hl; simp; intro z; simp [z] at hl
    rw [e] at a b
    exact ⟨a, b⟩
  · obtain ⟨its, r, ht, _⟩ := I.list hx
    exact ⟨SeqAt.RcAt.list_tuple (show s.heap.IsList p its.toArray from ht.isList) ht2' hu, SeqAt.RcNeAt.list_tuple (show s.heap.IsList p its.toArray from ht.isList) ht2' hu⟩
  · obtain ⟨z1, d1, vs, r1, dd1⟩ := dk_of I.hok hx
    obtain ⟨o2, g1, g2⟩ := dd1.typeIs
    obtain ⟨o, es, ep, ho, _, hd, _⟩ := dd1
    have eo : o2 = o := Option.some.inj (g1.symm.trans ho)
    have hc : o.cls = .type "dict" := eo ▸ g2
    exact ⟨SeqAt.RcAt.dict_tuple ho hc hd ht2' hu, SeqAt.RcNeAt.dict_tuple ho hc hd ht2' hu⟩
end PD
end

section
set_option linter.all false
set_option maxRecDepth 100000
set_option maxHeartbeats 1000000
/-! PDops2: comparisons, subscripts, built-ins, methods. -/
namespace PD
open PySem L2

section
variable {K : PySem.W.Frag} {μ : List Addr} {H : Hp} {S : Store}
/-! ### data at any depth -/
mutual
theorem dp_of {f : Nat → Option PyData} (hf : ∀ n a e, μ[n]? = some a → f n = some e → Dp K H (.ref a) e) : ∀ {d : D} {v : V} {e : PyData}, RepV K μ H d v → d.py f = some e → Dp K H v e
  | _, _, _, .non, h => by simp [D.py] at h; subst h; exact .non
  | _, _, _, .bl b, h => by simp [D.py] at h; subst h; exact .bl b
  | _, _, _, .int i, h => by simp [D.py] at h; subst h; exact .int i
  | _, _, _, .str x, h => by simp [D.py] at h; subst h; exact .str x
  | _, _, _, .tup q r, h => by
    simp only [D.py, Option.map_eq_some_iff] at h
    obtain ⟨es, h1, rfl⟩ := h
    exact .tup q (dps_of hf r h1)
  | _, _, _, .rol q r, h => by
    simp only [D.py, Option.map_eq_some_iff] at h
    obtain ⟨es, h1, rfl⟩ := h
    exact .lst q.sq (dps_of hf r h1)
  | _, _, _, .ref q, h => hf _ _ _ q (by simpa [D.py] using h)
theorem dps_of {f : Nat → Option PyData} (hf : ∀ n a e, μ[n]? = some a → f n = some e → Dp K H (.ref a) e) : ∀ {ds : List D} {vs : List V} {es : List PyData}, RepVs K μ H ds vs → D.pys f ds = some es → DpAll K H vs es
  | _, _, _, .nil, h => by simp [D.pys] at h; subst h; exact .nil
  | d :: ds, _, es, .cons q r, h => by
    simp only [D.pys] at h
    cases h1 : D.py f d with
    | none => rw [h1] at h; simp at h
    | some x =>
      cases h2 : D.pys f ds with
      | none => rw [h1, h2] at h; simp at h
      | some xs =>
        rw [h1, h2] at h
        simp at h; subst h
        exact .cons (dp_of hf q h1) (dps_of hf r h2)
end
theorem ref_py (rs : RepS K μ H S) : ∀ (k n : Nat) (a : Addr) (e : PyData), μ[n]? = some a → pyR S k n = some e → Dp K H (.ref a) e
  | 0, _, _, _, _, h => by simp [pyR] at h
  | k + 1, n, a, e, q, h => by
    simp only [pyR] at h
    split at h
    next ds hd =>
      simp only [Option.map_eq_some_iff] at h
      obtain ⟨es, h1, rfl⟩ := h
      obtain ⟨b, vs, e1, e2, e3⟩ := rs.lst hd
      rw [q] at e1; cases e1
      exact .lst (SqL.of e2) (dps_of (fun n a e => ref_py rs k n a e) e3 h1)
    · cases h
theorem toPy_dp (rs : RepS K μ H S) {d : D} {v : V} {e : PyData} (r : RepV K μ H d v) (h : toPy S d = some e) : Dp K H v e :=
  dp_of (fun n a e => ref_py rs 6 n a e) r h

/-! ### what stands in a list or a tuple -/
theorem items_of (rs : RepS K μ H S) {d : D} {v : V} {ds : List D} (r : RepV K μ H d v) (h : itemsOf S d = some ds) : ∃ p vs, v = .ref p ∧ (SqL K H p vs ∨ SqT K H p vs) ∧ RepVs K μ H ds vs ∧ ((∀ z, d ≠ .tup z) → SqL K H p vs) ∧ ((∃ z, d = .tup z) → SqT K H p vs ∧ d = .tup ds) := by
  cases r with
  | tup q r => simp [itemsOf] at h; subst h; exact ⟨_, _, rfl, .inr q, r, fun z => absurd rfl (z _), fun _ => ⟨q, rfl⟩⟩
  | rol q r => simp [itemsOf] at h; subst h; exact ⟨_, _, rfl, .inl q.sq, r, fun _ => q.sq, fun ⟨z, e⟩ => nomatch e⟩
  | ref q =>
    simp only [itemsOf] at h
    split at h
    next es hd =>
      cases h
      obtain ⟨b, vs, e1, e2, e3⟩ := rs.lst hd
      rw [q] at e1; cases e1
      exact ⟨_, _, rfl, .inl (SqL.of e2), e3, fun _ => SqL.of e2, fun ⟨z, e⟩ => nomatch e⟩
    · cases h
  | _ => simp [itemsOf] at h
theorem flat_of {d : D} {v : V} (r : RepV K μ H d v) : flatV v = isFlat d := by cases r <;> rfl
theorem flats_of : ∀ {ds : List D} {vs : List V}, RepVs K μ H ds vs → vs.all flatV = ds.all isFlat
  | _, _, .nil => rfl
  | _, _, .cons h r => by rw [List.all_cons, List.all_cons, flat_of h, flats_of r]
theorem eqV_of {d e : D} {v u : V} (r : RepV K μ H d v) (q : RepV K μ H e u) : eqV v u = flatEq d e := by
  cases r <;> cases q <;> rfl
theorem inV_of {d : D} {v : V} (q : RepV K μ H d v) : ∀ {ds : List D} {vs : List V}, RepVs K μ H ds vs → inV v vs = ds.any fun z => flatEq z d
  | _, _, .nil => rfl
  | _, _, .cons h r => by
    have := inV_of q r
    unfold inV at this ⊢
    rw [List.any_cons, List.any_cons, eqV_of h q, this]
theorem atI_of {ds : List D} {vs : List V} {i : Int} {d : D} (r : RepVs K μ H ds vs) (h : atI ds i = some d) : ∃ v, atI vs i = some v ∧ RepV K μ H d v := by
  unfold atI at h ⊢
  rw [← r.length]
  cases e : ixN ds.length i with
  | none => rw [e] at h; cases h
  | some j =>
    rw [e] at h
    exact r.get h
end

def rCmp (Γ : Gd) (f : D → D → Store → R Bool) : R2 := fun x y H Q => ∃ E μ S dx dy, RepS Γ.K μ H S ∧ RepV Γ.K μ H dx x ∧ RepV Γ.K μ H dy y ∧ Aft Γ E μ H (QB fun b H' => Q (.bl b) H') (f dx dy S)
section
variable {Γ : Gd} {X : Cx}
theorem eqNil_rc (hK : Γ.K = X.K) (hu : X.A.units + 64 < cLine) {pins : List (Addr × Obj)} {σ : St} {H : Hp} {s : Shared} {μ : List Addr} {S S' : Store} {dx dy : D} {x y : V} {v u : Value} {b : Bool} (rs : RepS Γ.K μ H S) (hx : RepV Γ.K μ H dx x) (hy : RepV Γ.K μ H dy y)
    (I : Inv X pins σ H s) (rx : RelV x v) (ry : RelV y u) (h : eqNil dx dy S = .ok b S') : S' = S ∧ SeqAt.RcAt X.A s v u b ∧ SeqAt.RcNeAt X.A s v u (!b) := by
  unfold eqNil at h
  split at h
  next ds =>
    cases hx with
    | tup q r =>
      cases hy with
      | tup q2 r2 =>
        cases r2
        cases rx
        cases ry
        cases h
        have hl := r.length
        refine ⟨rfl, rc_nil (by omega) I (hK ▸ q2) _ (.inl ⟨_, hK ▸ q, ?_⟩)⟩
        rename_i vs _
        cases ds <;> cases vs <;> first | rfl | simp at hl
  next n =>
    cases hx with
    | ref q =>
      cases hy with
      | tup q2 r2 =>
        cases r2
        cases rx
        cases ry
        split at h
        next ds hd =>
          cases h
          obtain ⟨c, vs, e1, e2, e3⟩ := rs.lst hd
          rw [q] at e1; cases e1
          exact ⟨rfl, rc_nil (by omega) I (hK ▸ q2) false (.inr (.inl ⟨⟨vs, SqL.of e2⟩, rfl⟩))⟩
        next kvs hd =>
          cases h
          obtain ⟨c, vs, e1, e2, e3⟩ := rs.dic hd
          rw [q] at e1; cases e1
          exact ⟨rfl, rc_nil (by omega) I (hK ▸ q2) false (.inr (.inr ⟨⟨vs, e2⟩, rfl⟩))⟩
        · cases h
  · cases h
theorem eqNil_exc {dx dy : D} {S S' : Store} {x : Exn} : eqNil dx dy S ≠ .exc x S' := fun h => by
  unfold eqNil at h
  split at h
  · cases h
  · split at h <;> cases h
  · cases h
theorem op_eqS (hK : Γ.K = X.K) (hu : X.A.units + 64 < cLine) : OpR X (compareOp .Eq) (rCmp Γ opEq) := by
  intro pins s σ H x y v u Q I rx ry ⟨E, μ, S, dx, dy, rs, hx, hy, h⟩
  unfold opEq at h
  split at h
  next a b ha hb =>
    split at h
    next hs =>
      simp only [Bool.and_eq_true] at hs
      have d1 := toPy_dp rs hx ha
      have d2 := toPy_dp rs hy hb
      rw [hK] at d1 d2
      exact op_eqD hu pins s σ H _ _ v u Q I rx ry ⟨_, _, d1, d2, hs.1, hs.2, h.now rs⟩
    · cases he : eqNil dx dy S with
      | ok b S' =>
        rw [he] at h
        obtain ⟨rfl, q1, _⟩ := eqNil_rc hK hu rs hx hy I rx ry he
        exact q1 _ _ _ _ ⟨.bl b, H, I, rfl, h.now rs⟩
      | exc x S' => exact absurd he eqNil_exc
      | stuck => rw [he] at h; exact h.elim
  · cases he : eqNil dx dy S with
    | ok b S' =>
      rw [he] at h
      obtain ⟨rfl, q1, _⟩ := eqNil_rc hK hu rs hx hy I rx ry he
      exact q1 _ _ _ _ ⟨.bl b, H, I, rfl, h.now rs⟩
    | exc x S' => exact absurd he eqNil_exc
    | stuck => rw [he] at h; exact h.elim
theorem op_neS (hK : Γ.K = X.K) (hu : X.A.units + 64 < cLine) : OpR X (compareOp .NotEq) (rCmp Γ fun x y S => (opEq x y S).map not) := by
  intro pins s σ H x y v u Q I rx ry ⟨E, μ, S, dx, dy, rs, hx, hy, h⟩
  replace h := Aft.map h
  unfold opEq at h
  split at h
  next a b ha hb =>
    split at h
    next hs =>
      simp only [Bool.and_eq_true] at hs
      have d1 := toPy_dp rs hx ha
      have d2 := toPy_dp rs hy hb
      rw [hK] at d1 d2
      exact op_neD hu pins s σ H _ _ v u Q I rx ry ⟨_, _, d1, d2, hs.1, hs.2, h.now rs⟩
    · cases he : eqNil dx dy S with
      | ok b S' =>
        rw [he] at h
        obtain ⟨rfl, _, q1⟩ := eqNil_rc hK hu rs hx hy I rx ry he
        exact q1 _ _ _ _ ⟨.bl (!b), H, I, rfl, h.now rs⟩
      | exc x S' => exact absurd he eqNil_exc
      | stuck => rw [he] at h; exact h.elim
  · cases he : eqNil dx dy S with
    | ok b S' =>
      rw [he] at h
      obtain ⟨rfl, _, q1⟩ := eqNil_rc hK hu rs hx hy I rx ry he
      exact q1 _ _ _ _ ⟨.bl (!b), H, I, rfl, h.now rs⟩
    | exc x S' => exact absurd he eqNil_exc
    | stuck => rw [he] at h; exact h.elim
theorem op_inS' (hK : Γ.K = X.K) (hu : X.A.units + 65 < cLine) : OpR X (compareOp .In) (rCmp Γ opIn) := by
  intro pins s σ H x y v u Q I rx ry ⟨E, μ, S, dx, dy, rs, hx, hy, h⟩
  unfold opIn at h
  split at h
  next kvs hd =>
    split at h
    next k hk =>
      unfold dicOf at hd
      split at hd
      next n =>
        split at hd
        next kvs' hS =>
          cases hd
          obtain ⟨a, vs, e1, e2, e3⟩ := rs.dic hS
          cases hy with
          | ref q =>
            rw [q] at e1; cases e1
            obtain rfl : u = Value.ref a := ry
            have ey := key_of hx hk
            subst ey
            have fin : ∀ s', L2.Inv X pins σ H s' → EP X pins σ Q (.bool ((valV vs k).isSome)) s' := fun s' I' => by
              have e4 : (valD kvs k).isSome = (valV vs k).isSome := by
                rcases e3.val (k := k) with ⟨g1, g2⟩ | ⟨d, w, g1, g2, _⟩ <;> rw [g1, g2] <;> rfl
              exact ⟨.bl ((valV vs k).isSome), H, I', rfl, by rw [← e4]; exact h.now rs⟩
            exact d_in (by omega) I (DGet.k e2) rx fin
        · cases hd
      · cases hd
    · exact h.elim
  · unfold opIn0 at h
    split at h
    · cases hx; cases hy
      exact op_in_str pins s σ H _ _ v u Q I rx ry ⟨_, _, rfl, rfl, h.now rs⟩
    · split at h
      next ds hd =>
        split at h
        next hf =>
          simp only [Bool.and_eq_true] at hf
          obtain ⟨p, vs, rfl, hq, r, _⟩ := items_of rs hy hd
          rw [hK] at hq
          refine op_in_seq pins s σ H _ _ v u Q I rx ry ⟨p, vs, rfl, hq, by rw [flat_of hx]; exact hf.1, by rw [flats_of r]; exact hf.2, ?_⟩
          show Q (.bl (inV x vs)) H
          rw [inV_of hx r]
          exact h.now rs
        · unfold inD at h
          split at h
          next d es ha hb =>
            split at h
            next hs =>
              simp only [Bool.and_eq_true] at hs
              have d1 := toPy_dp rs hx ha
              have d2 := toPy_dp rs hy hb
              rw [hK] at d1 d2
              exact op_inD hu pins s σ H _ _ v u Q I rx ry ⟨_, _, d1, d2, hs.1, hs.2, h.now rs⟩
            · exact h.elim
          · exact h.elim
      · exact h.elim
theorem op_niS' (hK : Γ.K = X.K) (hu : X.A.units + 65 < cLine) : OpR X (compareOp .NotIn) (rCmp Γ fun x y S => (opIn x y S).map not) := by
  intro pins s σ H x y v u Q I rx ry ⟨E, μ, S, dx, dy, rs, hx, hy, h⟩
  replace h := Aft.map h
  unfold opIn at h
  split at h
  next kvs hd =>
    split at h
    next k hk =>
      unfold dicOf at hd
      split at hd
      next n =>
        split at hd
        next kvs' hS =>
          cases hd
          obtain ⟨a, vs, e1, e2, e3⟩ := rs.dic hS
          cases hy with
          | ref q =>
            rw [q] at e1; cases e1
            obtain rfl : u = Value.ref a := ry
            have ey := key_of hx hk
            subst ey
            have fin : ∀ s', L2.Inv X pins σ H s' → EP X pins σ Q (.bool (!(valV vs k).isSome)) s' := fun s' I' => by
              have e4 : (valD kvs k).isSome = (valV vs k).isSome := by
                rcases e3.val (k := k) with ⟨g1, g2⟩ | ⟨d, w, g1, g2, _⟩ <;> rw [g1, g2] <;> rfl
              exact ⟨.bl (!(valV vs k).isSome), H, I', rfl, by rw [← e4]; exact h.now rs⟩
            exact d_notIn (by omega) I (DGet.k e2) rx fin
        · cases hd
      · cases hd
    · exact h.elim
  · unfold opIn0 at h
    split at h
    · cases hx; cases hy
      exact op_notIn_str pins s σ H _ _ v u Q I rx ry ⟨_, _, rfl, rfl, h.now rs⟩
    · split at h
      next ds hd =>
        split at h
        next hf =>
          simp only [Bool.and_eq_true] at hf
          obtain ⟨p, vs, rfl, hq, r, _⟩ := items_of rs hy hd
          rw [hK] at hq
          refine op_notIn_seq pins s σ H _ _ v u Q I rx ry ⟨p, vs, rfl, hq, by rw [flat_of hx]; exact hf.1, by rw [flats_of r]; exact hf.2, ?_⟩
          show Q (.bl (!inV x vs)) H
          rw [inV_of hx r]
          exact h.now rs
        · unfold inD at h
          split at h
          next d es ha hb =>
            split at h
            next hs =>
              simp only [Bool.and_eq_true] at hs
              have d1 := toPy_dp rs hx ha
              have d2 := toPy_dp rs hy hb
              rw [hK] at d1 d2
              exact op_notInD hu pins s σ H _ _ v u Q I rx ry ⟨_, _, d1, d2, hs.1, hs.2, h.now rs⟩
            · exact h.elim
          · exact h.elim
      · exact h.elim
theorem dec_non {d : D} {v : V} {K : PySem.W.Frag} {μ : List Addr} {H : Hp} (r : RepV K μ H d v) : (d = .non → v = .non) ∧ (d ≠ .non → v ≠ .non) := by
  cases r <;> simp
theorem op_isS' (hK : Γ.K = X.K) : OpR X (compareOp .Is) (rCmp Γ opIs) := by
  intro pins s σ H x y v u Q I rx ry ⟨E, μ, S, dx, dy, rs, hx, hy, h⟩
  unfold opIs at h
  split at h
  · cases hx; cases hy
    exact op_isN pins s σ H _ _ v u Q I rx ry ⟨rfl, h.now rs⟩
  next hne =>
    cases hy
    have z := (dec_non hx).2 (fun e => hne e)
    refine op_isN pins s σ H _ _ v u Q I rx ry ⟨rfl, ?_⟩
    rw [decide_eq_false z]
    exact h.now rs
  · cases hx; cases hy
    exact op_isBl pins s σ H _ _ v u Q I rx ry ⟨_, _, rfl, rfl, h.now rs⟩
  · exact h.elim
theorem op_isntS' (hK : Γ.K = X.K) : OpR X (compareOp .IsNot) (rCmp Γ fun x y S => (opIs x y S).map not) := by
  intro pins s σ H x y v u Q I rx ry ⟨E, μ, S, dx, dy, rs, hx, hy, h⟩
  replace h := Aft.map h
  unfold opIs at h
  split at h
  · cases hx; cases hy
    exact op_notN pins s σ H _ _ v u Q I rx ry ⟨rfl, h.now rs⟩
  next hne =>
    cases hy
    have z := (dec_non hx).2 (fun e => hne e)
    refine op_notN pins s σ H _ _ v u Q I rx ry ⟨rfl, ?_⟩
    rw [decide_eq_false z]
    exact h.now rs
  · cases hx; cases hy
    exact op_notBl pins s σ H _ _ v u Q I rx ry ⟨_, _, rfl, rfl, h.now rs⟩
  · exact h.elim
theorem op_ltS (hK : Γ.K = X.K) (hu : X.A.units < cLine) : OpR X (compareOp .Lt) (rCmp Γ opLt) := by
  intro pins s σ H x y v u Q I rx ry ⟨E, μ, S, dx, dy, rs, hx, hy, h⟩
  unfold opLt at h
  split at h
  · cases hx; cases hy
    exact op_lt pins s σ H _ _ v u Q I rx ry ⟨_, _, rfl, rfl, h.now rs⟩
  · cases hx; cases hy
    exact op_lt_str pins s σ H _ _ v u Q I rx ry ⟨_, _, rfl, rfl, h.now rs⟩
  · split at h
    next m n hm hn =>
      cases hx with
      | tup qa ra =>
        cases hy with
        | tup qb rb =>
          have e1 := ra.ints hm
          have e2 := rb.ints hn
          subst e1; subst e2
          rw [hK] at qa qb
          exact op_ltT hu pins s σ H _ _ v u Q I rx ry ⟨_, _, _, _, rfl, rfl, qa, qb, h.now rs⟩
    · exact h.elim
  · exact h.elim
theorem op_cmp (hK : Γ.K = X.K) (hu : X.A.units + 65 < cLine) (o : CmpOp) : OpR X (compareOp o) (rCmp Γ (opCmp o)) := by
  cases o with
  | Eq => exact op_eqS hK (by omega)
  | NotEq => exact op_neS hK (by omega)
  | Lt => exact op_ltS hK (by omega)
  | In => exact op_inS' hK (by omega)
  | NotIn => exact op_niS' hK (by omega)
  | Is => exact op_isS' hK
  | IsNot => exact op_isntS' hK
  | LtE =>
    intro pins s σ H x y v u Q I rx ry ⟨E, μ, S, dx, dy, rs, hx, hy, h⟩
    simp only [opCmp, opLe] at h
    split at h
    · cases hx; cases hy
      exact op_le pins s σ H _ _ v u Q I rx ry ⟨_, _, rfl, rfl, h.now rs⟩
    · exact h.elim
  | Gt =>
    intro pins s σ H x y v u Q I rx ry ⟨E, μ, S, dx, dy, rs, hx, hy, h⟩
    simp only [opCmp] at h
    split at h
    · cases hx; cases hy
      exact op_gt pins s σ H _ _ v u Q I rx ry ⟨_, _, rfl, rfl, h.now rs⟩
    · exact h.elim
  | GtE =>
    intro pins s σ H x y v u Q I rx ry ⟨E, μ, S, dx, dy, rs, hx, hy, h⟩
    simp only [opCmp] at h
    split at h
    · cases hx; cases hy
      exact op_ge pins s σ H _ _ v u Q I rx ry ⟨_, _, rfl, rfl, h.now rs⟩
    · exact h.elim

/-! ### one-place operators, truth -/
def rUn (Γ : Gd) (f : D → Store → R D) : V → Hp → VK → Prop := fun x H Q => ∃ E μ S dx, RepS Γ.K μ H S ∧ RepV Γ.K μ H dx x ∧ Aft Γ E μ H (QV Γ Q) (f dx S)
theorem op_un (hK : Γ.K = X.K) (o : UnaryOp) : UnR X (unaryOp o) (rUn Γ (opUn o)) := by
  intro pins s σ H x v Q I rx ⟨E, μ, S, dx, rs, hx, h⟩
  unfold opUn at h
  split at h
  · cases hx
    exact un_neg pins s σ H _ v Q I rx ⟨_, rfl, qv h rs (.int _)⟩
  · cases hx
    exact un_inv pins s σ H _ v Q I rx ⟨_, rfl, qv h rs (.int _)⟩
  · exact h.elim
/-- truth -/
theorem tru_of {E : XK} {μ : List Addr} {H : Hp} {S : Store} {d : D} {v : V} {Q : Bool → Hp → Prop} (rs : RepS Γ.K μ H S) (r : RepV Γ.K μ H d v) (h : Aft Γ E μ H (QB Q) (opTru d S)) : ∃ k, TruV X.K v H k ∧ Q k H := by
  unfold opTru at h
  split at h
  · cases r; exact ⟨_, rfl, h.now rs⟩
  · cases r; exact ⟨_, rfl, h.now rs⟩
  · cases r; exact ⟨_, rfl, h.now rs⟩
  · exact h.elim

/-! ### subscripts -/
theorem op_ix (hK : Γ.K = X.K) : IxR X (rBin Γ opIx0) := by
  intro value slice pins s σ H x y v u Q I rx ry ⟨E, μ, S, dx, dy, rs, hx, hy, h⟩ hs
  unfold opIx0 at h
  split at h
  next i =>
    cases hy
    split at h
    next z =>
      cases hx
      split at h
      next d hd =>
        simp only [strAt] at hd
        split at hd
        next hl =>
          simp only [Option.map_eq_some_iff] at hd
          obtain ⟨c, hc, rfl⟩ := hd
          exact ix_str value slice pins s σ H _ _ v u Q I rx ry ⟨_, _, _, rfl, rfl, hl, hc, qv h rs (.str _)⟩ hs
        · cases hd
      · exact h.elim
    · split at h
      next ds hd =>
        split at h
        next d ha =>
          obtain ⟨p, vs, rfl, hq, r, _⟩ := items_of rs hx hd
          obtain ⟨w, hw, rw'⟩ := atI_of r ha
          rw [hK] at hq
          rcases hq with hq | hq
          · exact ix_list value slice pins s σ H _ _ v u Q I rx ry ⟨_, _, _, _, rfl, rfl, hq, hw, qv h rs rw'⟩ hs
          · exact ix_tup value slice pins s σ H _ _ v u Q I rx ry ⟨_, _, _, _, rfl, rfl, hq, hw, qv h rs rw'⟩ hs
        · exact h.elim
      · exact h.elim
  · exact h.elim
def rSlc (Γ : Gd) : V → Option Int → Option Int → Hp → VK → Prop := fun x lo hi H Q => ∃ E μ S dx, RepS Γ.K μ H S ∧ RepV Γ.K μ H dx x ∧ Aft Γ E μ H (QV Γ Q) (opSl dx lo hi S)
theorem op_sl (hK : Γ.K = X.K) : SlR X (rSlc Γ) := by
  intro pins s σ H x v vl vu lo hi sl Q I rx hsl pl pu h
  obtain ⟨E, μ, S, dx, rs, hx, h⟩ := h
  unfold opSl at h
  split at h
  next z =>
    cases hx
    split at h
    next hl => exact sl_str pins s σ H _ v vl vu lo hi sl Q I rx hsl pl pu ⟨z, rfl, hl, qv h rs (.str _)⟩
    · exact h.elim
  next ds =>
    cases hx with
    | tup q r =>
      rw [hK] at q
      refine sl_tupA pins s σ H _ v vl vu lo hi sl Q I rx hsl pl pu ⟨_, _, rfl, q, fun e => ?_, fun _ p hp => qv_tup h rs (r.cut lo hi) hp⟩
      rw [← r.length] at e
      have e2 : cutD ds lo hi = ds := by
        unfold cutD
        rw [e.1, e.2]; simp
      rw [e2] at h
      exact qv h rs (.tup (by rw [hK]; exact q) r)
  · cases hx with
    | rol q r =>
      have q' := q.sq
      rw [hK] at q'
      exact sl_list pins s σ H _ v vl vu lo hi sl Q I rx hsl pl pu ⟨_, _, rfl, q', fun p hp => qv_lst h rs (r.cut lo hi) hp⟩
  · split at h
    next ds hd =>
      cases hx with
      | ref q =>
        obtain ⟨b, vs, e1, e2, e3⟩ := rs.lst hd
        rw [q] at e1; cases e1
        exact sl_list pins s σ H _ v vl vu lo hi sl Q I rx hsl pl pu ⟨_, _, rfl, SqL.of e2, fun p hp => qv_lst h rs (e3.cut lo hi) hp⟩
    · exact h.elim
  · exact h.elim
end
end PD
end

section
set_option linter.all false
set_option maxRecDepth 100000
set_option maxHeartbeats 1000000
/-! PDops3: built-in functions, isinstance, methods, o[i] = v. -/
namespace PD
open PySem L2

def bltV : Blt → Value
  | .len => .builtin "len" | .abs => .builtin "abs" | .int => .type "int" | .str => .type "str" | .tuple => .type "tuple" | .list => .type "list"
  | .all => .builtin "all" | .any => .builtin "any" | .sum => .builtin "sum"
  | .max => .builtin "max" | .min => .builtin "min" | .sorted => .builtin "sorted" | .gcd => .builtin "math.gcd"
def rBlt (Γ : Gd) (f : List D → Store → R D) : List V → Hp → VK → Prop := fun xs H Q => ∃ E μ S ds, RepS Γ.K μ H S ∧ RepVs Γ.K μ H ds xs ∧ Aft Γ E μ H (QV Γ Q) (f ds S)
theorem dic_of {K : PySem.W.Frag} {μ : List Addr} {H : Hp} {S : Store} {d : D} {v : V} {kvs : List (Key × D)} (rs : RepS K μ H S) (r : RepV K μ H d v) (h : dicOf S d = some kvs) : ∃ a vs, v = .ref a ∧ H a = some (.dK vs) ∧ RepKV K μ H kvs vs := by
  unfold dicOf at h
  split at h
  next n =>
    split at h
    next kvs' hS =>
      cases h
      obtain ⟨a, vs, e1, e2, e3⟩ := rs.dic hS
      cases r with
      | ref q => rw [q] at e1; cases e1; exact ⟨_, vs, rfl, e2, e3⟩
    · cases h
  · cases h
section
variable {Γ : Gd} {X : Cx}
theorem op_len (hK : Γ.K = X.K) : CallR X (.builtin "len") (rBlt Γ (opBlt .len)) := by
  intro pins s σ H xs us Q I rv ⟨E, μ, S, ds, rs, hx, h⟩
  match ds, hx with
  | [], _ => exact h.elim
  | _ :: _ :: _, _ => exact (by simpa [opBlt, Aft] using h)
  | [d], .cons (v := v) r .nil =>
    cases r with
    | str z =>
      simp only [opBlt] at h
      split at h
      next hl => exact call_len_str pins s σ H _ us Q I rv ⟨_, rfl, hl, qv h rs (.int _)⟩
      · exact h.elim
    | tup q r =>
      simp only [opBlt, itemsOf] at h
      rw [hK] at q
      refine call_len_seq pins s σ H _ us Q I rv ⟨_, _, rfl, .inr q, ?_⟩
      rw [← r.length]
      exact qv h rs (.int _)
    | rol q r =>
      simp only [opBlt, itemsOf] at h
      have q' := q.sq
      rw [hK] at q'
      refine call_len_seq pins s σ H _ us Q I rv ⟨_, _, rfl, .inl q', ?_⟩
      rw [← r.length]
      exact qv h rs (.int _)
    | ref q =>
      simp only [opBlt] at h
      split at h
      next es hd =>
        obtain ⟨p, vs, e, _, r, hq, _⟩ := items_of rs (.ref q) hd
        cases e
        refine call_len_seq pins s σ H _ us Q I rv ⟨_, _, rfl, .inl (hK ▸ hq (fun z e => nomatch e)), ?_⟩
        rw [← r.length]
        exact qv h rs (.int _)
      · split at h
        next kvs hd =>
          obtain ⟨a, vs, e, e2, e3⟩ := dic_of rs (.ref q) hd
          cases e
          refine call_lenD pins s σ H _ us Q I rv ⟨_, _, rfl, e2, ?_⟩
          rw [← e3.length]
          exact qv h rs (.int _)
        · exact h.elim
    | _ => exact (by simpa [opBlt, itemsOf, dicOf, Aft] using h)
theorem op_abs : CallR X (.builtin "abs") (rBlt Γ (opBlt .abs)) := by
  intro pins s σ H xs us Q I rv ⟨E, μ, S, ds, rs, hx, h⟩
  unfold opBlt at h
  split at h <;> (try contradiction) <;> (try exact h.elim)
  match hx with
  | .cons (.int i) .nil => exact call_abs pins s σ H _ us Q I rv ⟨_, rfl, qv h rs (.int _)⟩
theorem op_int : CallR X (.type "int") (rBlt Γ (opBlt .int)) := by
  intro pins s σ H xs us Q I rv ⟨E, μ, S, ds, rs, hx, h⟩
  unfold opBlt at h
  split at h <;> (try contradiction) <;> (try exact h.elim)
  · match hx with
    | .cons (.int i) .nil => exact call_int1 pins s σ H _ us Q I rv (.inl ⟨_, rfl, qv h rs (.int _)⟩)
  · match hx with
    | .cons (.bl i) .nil => exact call_int1 pins s σ H _ us Q I rv (.inr ⟨_, rfl, qv h rs (.int _)⟩)
  · match hx with
    | .cons (.str z) .nil =>
      split at h
      next hl =>
        split at h
        next i hi => exact call_int_str pins s σ H _ us Q I rv ⟨_, _, rfl, hi, hl, qv h rs (.int _)⟩
        · exact h.elim
      · exact h.elim
theorem op_str : CallR X (.type "str") (rBlt Γ (opBlt .str)) := by
  intro pins s σ H xs us Q I rv ⟨E, μ, S, ds, rs, hx, h⟩
  unfold opBlt at h
  split at h <;> (try contradiction) <;> (try exact h.elim)
  match hx with
  | .cons (.int i) .nil =>
    split at h
    next hl => exact call_str_int pins s σ H _ us Q I rv ⟨_, rfl, hl, qv h rs (.str _)⟩
    · exact h.elim
theorem op_tuple (hK : Γ.K = X.K) : CallR X (.type "tuple") (rBlt Γ (opBlt .tuple)) := by
  intro pins s σ H xs us Q I rv ⟨E, μ, S, ds, rs, hx, h⟩
  unfold opBlt at h
  split at h <;> (try contradiction) <;> (try exact h.elim)
  · match hx with
    | .cons (.tup q r) .nil => exact call_tuple_of pins s σ H _ us Q I rv ⟨_, _, rfl, .inr ⟨hK ▸ q, qv h rs (.tup q r)⟩⟩
  next x hn _ =>
    match hx with
    | .cons (v := v) r .nil =>
      split at h
      next es hd =>
        obtain ⟨p, vs, e, _, r', hq, _⟩ := items_of rs r hd
        cases e
        exact call_tuple_of pins s σ H _ us Q I rv ⟨_, _, rfl, .inl ⟨hK ▸ hq (fun z e => hn z (by rw [e])), fun l hl => qv_tup h rs r' hl⟩⟩
      · exact h.elim
theorem op_list (hK : Γ.K = X.K) : CallR X (.type "list") (rBlt Γ (opBlt .list)) := by
  intro pins s σ H xs us Q I rv ⟨E, μ, S, ds, rs, hx, h⟩
  unfold opBlt at h
  split at h <;> (try contradiction) <;> (try exact h.elim)
  match hx with
  | .cons (v := v) r .nil =>
    split at h
    next es hd =>
      obtain ⟨p, vs, e, hq, r', _⟩ := items_of rs r hd
      cases e
      exact call_list_of pins s σ H _ us Q I rv ⟨_, _, rfl, hK ▸ hq, fun l hl => qv_lst h rs r' hl⟩
    · exact h.elim
theorem op_all (hK : Γ.K = X.K) (hc : X.calm = true) : CallR X (.builtin "all") (rBlt Γ (opBlt .all)) := by
  intro pins s σ H xs us Q I rv ⟨E, μ, S, ds, rs, hx, h⟩
  unfold opBlt at h
  split at h <;> (try contradiction) <;> (try exact h.elim)
  next x =>
    match hx with
    | .cons (v := v) r .nil =>
      split at h
      · exact h.elim
      next es hn hd =>
        split at h
        next bs hb =>
          obtain ⟨p, vs, e, _, r', hq, _⟩ := items_of rs r hd
          cases e
          have e2 := r'.bls hb
          subst e2
          exact cr_all hc pins s σ H _ us Q I rv ⟨_, _, rfl, hK ▸ hq (fun z e => hn z e), qv h rs (.bl _)⟩
        · exact h.elim
      · exact h.elim
theorem op_any (hK : Γ.K = X.K) (hc : X.calm = true) : CallR X (.builtin "any") (rBlt Γ (opBlt .any)) := by
  intro pins s σ H xs us Q I rv ⟨E, μ, S, ds, rs, hx, h⟩
  unfold opBlt at h
  split at h <;> (try contradiction) <;> (try exact h.elim)
  next x =>
    match hx with
    | .cons (v := v) r .nil =>
      split at h
      · exact h.elim
      next es hn hd =>
        split at h
        next bs hb =>
          obtain ⟨p, vs, e, _, r', hq, _⟩ := items_of rs r hd
          cases e
          have e2 := r'.bls hb
          subst e2
          exact cr_any hc pins s σ H _ us Q I rv ⟨_, _, rfl, hK ▸ hq (fun z e => hn z e), qv h rs (.bl _)⟩
        · exact h.elim
      · exact h.elim
theorem sum_tup (hc : X.calm = true) : CallR X (.builtin "sum") (fun vs H Q => ∃ (a : Addr) (ns : List Int), vs = [V.ref a] ∧ SqT X.K H a (ns.map V.int) ∧ Q (.int ns.sum) H) := by
  intro pins s σ H vs us Q I r h
  obtain ⟨a, ns, rfl, hs, q⟩ := h
  obtain ⟨its, rv, hl, _⟩ := I.tuple hs
  rw [Vals.ref1 r]
  have hi := rv.ints
  obtain ⟨xs, e⟩ := hi.allInts.items
  have hn : numsOf (intItems xs).toList = ns := by rw [← e]; exact hi.numsOf
  rw [nums_intItems] at hn
  rw [e] at hl
  refine PySem.W.ktm_sumG (I.ok.hd hc) hl fun h' tk t' hk => ?_
  rw [preSum_eq, List.take_of_length_le (by simp), hn]
  exact ⟨.int _, H, I.kept hk, ⟨_, rfl⟩, q⟩
theorem op_sum (hK : Γ.K = X.K) (hc : X.calm = true) : CallR X (.builtin "sum") (rBlt Γ (opBlt .sum)) := by
  intro pins s σ H xs us Q I rv ⟨E, μ, S, ds, rs, hx, h⟩
  unfold opBlt at h
  split at h <;> (try contradiction) <;> (try exact h.elim)
  next x =>
    match hx with
    | .cons (v := v) r .nil =>
      split at h
      · split at h
        next bs hb =>
          cases r with
          | tup q r' =>
            have e2 := r'.ints hb
            subst e2
            exact sum_tup hc pins s σ H _ us Q I rv ⟨_, _, rfl, hK ▸ q, qv h rs (.int _)⟩
        · exact h.elim
      next es hn hd =>
        split at h
        next bs hb =>
          obtain ⟨p, vs, e, _, r', hq, _⟩ := items_of rs r hd
          cases e
          have e2 := r'.ints hb
          subst e2
          exact cr_sum hc pins s σ H _ us Q I rv ⟨_, _, rfl, hK ▸ hq (fun z e => hn z e), qv h rs (.int _)⟩
        · exact h.elim
      · exact h.elim
theorem maxL_ok : ∀ (ns : List Int) (i : Int), maxL i ns ∈ i :: ns ∧ ∀ y ∈ i :: ns, y ≤ maxL i ns
  | [], i => by simp [maxL]
  | n :: ns, i => by
    have ih := maxL_ok ns (if i < n then n else i)
    have e : maxL i (n :: ns) = maxL (if i < n then n else i) ns := rfl
    rw [e]
    refine ⟨?_, fun y hy => ?_⟩
    · rcases List.mem_cons.1 ih.1 with h | h
      · rw [h]; split <;> simp
      · simp [h]
    · have h0 := ih.2 (if i < n then n else i) (by simp)
      have q1 : i ≤ (if i < n then n else i) := by split <;> omega
      have q2 : n ≤ (if i < n then n else i) := by split <;> omega
      rcases List.mem_cons.1 hy with h | hy
      · rw [h]; exact Int.le_trans q1 h0
      · rcases List.mem_cons.1 hy with h | hy
        · rw [h]; exact Int.le_trans q2 h0
        · exact ih.2 y (by simp [hy])
theorem minL_ok : ∀ (ns : List Int) (i : Int), minL i ns ∈ i :: ns ∧ ∀ y ∈ i :: ns, minL i ns ≤ y
  | [], i => by simp [minL]
  | n :: ns, i => by
    have ih := minL_ok ns (if n < i then n else i)
    have e : minL i (n :: ns) = minL (if n < i then n else i) ns := rfl
    rw [e]
    refine ⟨?_, fun y hy => ?_⟩
    · rcases List.mem_cons.1 ih.1 with h | h
      · rw [h]; split <;> simp
      · simp [h]
    · have h0 := ih.2 (if n < i then n else i) (by simp)
      have q1 : (if n < i then n else i) ≤ i := by split <;> omega
      have q2 : (if n < i then n else i) ≤ n := by split <;> omega
      rcases List.mem_cons.1 hy with h | hy
      · rw [h]; exact Int.le_trans h0 q1
      · rcases List.mem_cons.1 hy with h | hy
        · rw [h]; exact Int.le_trans h0 q2
        · exact ih.2 y (by simp [hy])
theorem leStr_trans (a b c : Str) (h1 : leStr a b = true) (h2 : leStr b c = true) : leStr a c = true := by
  simp only [leStr, Bool.not_eq_true', decide_eq_false_iff_not] at *
  exact List.le_trans h1 h2
theorem leStr_total (a b : Str) : (leStr a b || leStr b a) = true := by
  simp only [leStr, Bool.or_eq_true, Bool.not_eq_true', decide_eq_false_iff_not]
  exact List.le_total _ _
theorem leStr_antisymm {a b : Str} (h1 : leStr a b = true) (h2 : leStr b a = true) : a = b := by
  simp only [leStr, Bool.not_eq_true', decide_eq_false_iff_not] at *
  have := List.le_antisymm h1 h2
  cases a; cases b
  simp only [Array.toList_inj] at this
  simp_all
theorem rising_pw : ∀ (l : List Str) (p : Str), PyProof.Rows.risingS p l = true → (p :: l).Pairwise (fun a b => leStr a b = true)
  | [], p, _ => by simp
  | x :: r, p, h => by
    simp only [PyProof.Rows.risingS, Bool.and_eq_true, Bool.not_eq_true', PyProof.Rows.ltCps_eq, decide_eq_false_iff_not] at h
    have ih := rising_pw r x h.2
    have hpx : leStr p x = true := by simp only [leStr, Bool.not_eq_true', decide_eq_false_iff_not]; exact h.1
    refine List.pairwise_cons.2 ⟨fun y hy => ?_, ih⟩
    rcases List.mem_cons.1 hy with rfl | hy
    · exact hpx
    · exact leStr_trans _ _ _ hpx ((List.pairwise_cons.1 ih).1 y hy)
theorem sortStr_eq {ys xs : List Str} (hp : ys.Perm xs) (hs : PyProof.Rows.sortedS ys = true) : ys = sortStr xs := by
  have h1 : ys.Pairwise (fun a b => leStr a b = true) := by
    cases ys with
    | nil => simp
    | cons y r => exact rising_pw r y hs
  have h2 : (sortStr xs).Pairwise (fun a b => leStr a b = true) := List.pairwise_mergeSort leStr_trans leStr_total xs
  exact List.Perm.eq_of_pairwise (le := fun a b => leStr a b = true) (fun a b _ _ q r => leStr_antisymm q r) h1 h2 (hp.trans (List.mergeSort_perm xs leStr).symm)
theorem op_max (hK : Γ.K = X.K) (hc : X.calm = true) : CallR X (.builtin "max") (rBlt Γ (opBlt .max)) := by
  intro pins s σ H xs us Q I rv ⟨E, μ, S, ds, rs, hx, h⟩
  unfold opBlt at h
  split at h <;> (try contradiction) <;> (try exact h.elim)
  next i j =>
    match hx with
    | .cons (.int i) (.cons (.int j) .nil) => exact call_max2 hc pins s σ H _ us Q I rv ⟨i, j, rfl, qv h rs (.int _)⟩
  next x _ =>
    match hx with
    | .cons (v := v) r .nil =>
      split at h
      · exact h.elim
      next es hn hd =>
        split at h
        next i ns hb =>
          obtain ⟨p, vs, e, _, r', hq, _⟩ := items_of rs r hd
          cases e
          have e2 := r'.ints hb
          subst e2
          refine cr_max hc pins s σ H _ us Q I rv ⟨_, _, rfl, hK ▸ hq (fun z e => hn z e), by simp, fun m h1 h2 => ?_⟩
          have ok := maxL_ok ns i
          have e3 : m = maxL i ns := Int.le_antisymm (ok.2 m h1) (h2 _ ok.1)
          subst e3
          exact qv h rs (.int _)
        · exact h.elim
      · exact h.elim
theorem op_min (hK : Γ.K = X.K) (hc : X.calm = true) : CallR X (.builtin "min") (rBlt Γ (opBlt .min)) := by
  intro pins s σ H xs us Q I rv ⟨E, μ, S, ds, rs, hx, h⟩
  unfold opBlt at h
  split at h <;> (try contradiction) <;> (try exact h.elim)
  next i j =>
    match hx with
    | .cons (.int i) (.cons (.int j) .nil) => exact call_min2 hc pins s σ H _ us Q I rv ⟨i, j, rfl, qv h rs (.int _)⟩
  next i j k =>
    match hx with
    | .cons (.int i) (.cons (.int j) (.cons (.int k) .nil)) =>
      refine call_min3Nu hc pins s σ H _ us Q I rv ⟨.int i, .int j, .int k, .int (min3 i j k), rfl, ?_, qv h rs (.int _)⟩
      simp only [nuMin3, nuMin2, nuLt, nuCB, min3]
      by_cases h1 : j < i
      · by_cases h2 : k < j <;> simp [nuLt, nuCB, h1, h2]
      · by_cases h2 : k < i <;> simp [nuLt, nuCB, h1, h2]
  next x _ =>
    match hx with
    | .cons (v := v) r .nil =>
      split at h
      · exact h.elim
      next es hn hd =>
        split at h
        next i ns hb =>
          obtain ⟨p, vs, e, _, r', hq, _⟩ := items_of rs r hd
          cases e
          have e2 := r'.ints hb
          subst e2
          refine cr_min hc pins s σ H _ us Q I rv ⟨_, _, rfl, hK ▸ hq (fun z e => hn z e), by simp, fun m h1 h2 => ?_⟩
          have ok := minL_ok ns i
          have e3 : m = minL i ns := Int.le_antisymm (h2 _ ok.1) (ok.2 m h1)
          subst e3
          exact qv h rs (.int _)
        · exact h.elim
      · exact h.elim
theorem op_sorted (hK : Γ.K = X.K) (hc : X.calm = true) : CallR X (.builtin "sorted") (rBlt Γ (opBlt .sorted)) := by
  intro pins s σ H xs us Q I rv ⟨E, μ, S, ds, rs, hx, h⟩
  unfold opBlt at h
  split at h <;> (try contradiction) <;> (try exact h.elim)
  next x =>
    match hx with
    | .cons (v := v) r .nil =>
      split at h
      · exact h.elim
      next es hn hd =>
        split at h
        next ss hb =>
          split at h
          next hl =>
            obtain ⟨p, vs, e, _, r', hq, _⟩ := items_of rs r hd
            cases e
            have e2 := r'.strs hb
            subst e2
            refine cr_sortedS pins s σ H _ us Q I rv ⟨_, _, rfl, hK ▸ hq (fun z e => hn z e), hl, fun ys p hp hs hn2 => ?_⟩
            rw [sortStr_eq hp hs]
            exact qv_lst h rs (.ofStrs _) hn2
          · exact h.elim
        · exact h.elim
      · split at h
        next kvs hk =>
          split at h
          next ks hks =>
            split at h
            next hl =>
              obtain ⟨a, vs, e, e2, e3⟩ := dic_of rs r hk
              cases e
              refine call_sortedD hc pins s σ H _ us Q I rv ⟨a, vs, ks, rfl, .inl e2, by rw [← e3.1]; exact keysS_eq hks, hl, fun ys p hp hs hn2 => ?_⟩
              rw [sortStr_eq hp hs]
              exact qv_lst h rs (.ofStrs _) hn2
            · exact h.elim
          · exact h.elim
        · exact h.elim
theorem op_gcd : CallR X (.builtin "math.gcd") (rBlt Γ (opBlt .gcd)) := by
  intro pins s σ H xs us Q I rv ⟨E, μ, S, ds, rs, hx, h⟩
  unfold opBlt at h
  split at h <;> (try contradiction) <;> (try exact h.elim)
  next i j =>
    match hx with
    | .cons (.int i) (.cons (.int j) .nil) => exact cr_gcd pins s σ H _ us Q I rv ⟨i, j, rfl, qv h rs (.int _)⟩
/-- which of them want that no exception is handled -/
def bltC : Blt → Bool
  | .all => true | .any => true | .sum => true | .max => true | .min => true | .sorted => true
  | _ => false
theorem op_blt (hK : Γ.K = X.K) (b : Blt) (hb : bltC b = true → X.calm = true) : CallR X (bltV b) (rBlt Γ (opBlt b)) := by
  cases b with
  | len => exact op_len hK
  | abs => exact op_abs
  | int => exact op_int
  | str => exact op_str
  | tuple => exact op_tuple hK
  | list => exact op_list hK
  | all => exact op_all hK (hb rfl)
  | any => exact op_any hK (hb rfl)
  | sum => exact op_sum hK (hb rfl)
  | max => exact op_max hK (hb rfl)
  | min => exact op_min hK (hb rfl)
  | sorted => exact op_sorted hK (hb rfl)
  | gcd => exact op_gcd

/-! ### isinstance -/
def tyN : Ty → String
  | .int => "int" | .bool => "bool" | .str => "str" | .tuple => "tuple" | .list => "list"
theorem sqT_ty {K : PySem.W.Frag} {H : Hp} {a : Addr} {xs : List V} (h : SqT K H a xs) : TyX K H (.ref a) (.type "tuple") := by
  rcases h with (h | ⟨o, h⟩) | ⟨o, _, _, h, c, _⟩
  · exact .base (.tup h)
  · exact .fTuple h
  · exact .kTuple h c
theorem sqF_ty {K : PySem.W.Frag} {H : Hp} {a : Addr} {xs : List V} (h : SqF K H a xs) : TyX K H (.ref a) (.type "list") := by
  rcases h with ⟨o, h⟩ | ⟨o, _, _, h, c, _⟩
  · exact .base (.frz h)
  · exact .kList h c
theorem op_isi (hK : Γ.K = X.K) {μ : List Addr} {H : Hp} {S : Store} {d : D} {v : V} {t : Ty} {k : Bool} (rs : RepS Γ.K μ H S) (r : RepV Γ.K μ H d v) (h : isTy d t S = some k) :
    ∃ w, TyX X.K H v w ∧ PySem.W.kitOne X.K w (.type (tyN t)) = some k := by
  cases r with
  | non => simp only [isTy] at h; cases h; exact ⟨_, .base .non, by cases t <;> exact kit_ty (by decide +kernel)⟩
  | bl b => simp only [isTy] at h; cases h; exact ⟨_, .base (.bl _), by cases t <;> exact kit_ty (by decide +kernel)⟩
  | int i => simp only [isTy] at h; cases h; exact ⟨_, .base (.int _), by cases t <;> exact kit_ty (by decide +kernel)⟩
  | str z => simp only [isTy] at h; cases h; exact ⟨_, .base (.str _), by cases t <;> exact kit_ty (by decide +kernel)⟩
  | tup q r => simp only [isTy] at h; cases h; exact ⟨_, sqT_ty (hK ▸ q), by cases t <;> exact kit_ty (by decide +kernel)⟩
  | rol q r => simp only [isTy] at h; cases h; exact ⟨_, sqF_ty (hK ▸ q), by cases t <;> exact kit_ty (by decide +kernel)⟩
  | fnv q => simp only [isTy] at h; cases h
  | ref q =>
    simp only [isTy] at h
    split at h
    next ds hd =>
      cases h
      obtain ⟨b, vs, e1, e2, e3⟩ := rs.lst hd
      rw [q] at e1; cases e1
      exact ⟨_, .base (.lst e2), by cases t <;> exact kit_ty (by decide +kernel)⟩
    next kvs hd =>
      cases h
      obtain ⟨b, vs, e1, e2, e3⟩ := rs.dic hd
      rw [q] at e1; cases e1
      exact ⟨_, .base (.dK e2), by cases t <;> exact kit_ty (by decide +kernel)⟩
    · cases h

/-! ### methods -/
def mthT : Mth → String
  | .append | .pop | .extend => "list"
  | .update => "dict"
  | _ => "str"
def mthN : Mth → String
  | .append => "append" | .pop => "pop" | .extend => "extend" | .join => "join" | .split => "split" | .partition => "partition" | .startswith => "startswith" | .update => "update"
def mthId : Mth → String
  | .append => "list.append" | .pop => "list.pop" | .extend => "list.extend" | .join => "str.join" | .split => "str.split" | .partition => "str.partition" | .startswith => "str.startswith" | .update => "dict.update"
theorem length_mergeK : ∀ (more kvs : List (Key × V)), (mergeK kvs more).length ≤ kvs.length + more.length
  | [], kvs => by simp [mergeK]
  | kv :: more, kvs => by
    have h1 := length_mergeK more (putK kvs kv.1 kv.2)
    have h2 := length_putK kvs kv.1 kv.2
    show (mergeK (putK kvs kv.1 kv.2) more).length ≤ _
    simp only [List.length_cons]
    omega
theorem RepKV.merge {K : PySem.W.Frag} {μ : List Addr} {H : Hp} : ∀ {more : List (Key × D)} {ms : List (Key × V)} {kvs : List (Key × D)} {vs : List (Key × V)}, RepKV K μ H more ms → RepKV K μ H kvs vs → RepKV K μ H (mergeD kvs more) (mergeK vs ms)
  | [], [], kvs, vs, _, r => r
  | (a, d) :: more, (b, v) :: ms, kvs, vs, ⟨h1, h2⟩, r => by
    simp only [List.map_cons, List.cons.injEq] at h1
    obtain ⟨rfl, h1⟩ := h1
    cases h2 with
    | cons rd h2 => exact RepKV.merge (more := more) (ms := ms) ⟨h1, h2⟩ (r.put rd)
  | [], _ :: _, _, _, ⟨h, _⟩, _ => by simp at h
  | _ :: _, [], _, _, ⟨h, _⟩, _ => by simp at h
theorem mt_update : MtR X "dict.update" (fun x xs H Q => ∃ (a b : Addr) (kvs more : List (Key × V)), x = V.ref a ∧ xs = [V.ref b] ∧ a ≠ b ∧ H a = some (.dK kvs) ∧ H b = some (.dK more) ∧ kvs.length + more.length ≤ sizeLine ∧ Q .non (upd H a (.dK (mergeK kvs more)))) := by
  intro pins s σ H x xs v us Q I rx rxs ⟨a, b, kvs, more, ex, exs, hab, ha, hb, hl, q⟩
  subst ex exs
  cases rx
  obtain ⟨u, eu, ru⟩ := rxs.one
  subst eu
  cases ru
  obtain ⟨z1, d1, vs, r1, dd1⟩ := dk_of I.hok ha
  obtain ⟨z2, d2, rs, r2, dd2⟩ := dk_of I.hok hb
  refine call_meetsIn PySem.F.slot_dict_update dd1.typeIs PySem.F.entry_dict_update (PySem.F.args_dict_update_2 _ _) (meets_dict_update (mixKind X.prog X.w) a b hab d2) ⟨vs, rs, dd1, dd2, by rw [← r1.length, ← r2.length]; exact hl, fun h' dd' _ hs => ?_⟩
  have he : ∃ q, h'.get? a = some q := let ⟨q, _, _, hq, _⟩ := dd'; ⟨q, hq⟩
  have hz : (mergeK kvs more).length ≤ sizeLine := Nat.le_trans (length_mergeK _ _) hl
  exact ⟨.non, _, d_write I (by rw [ha]; exact True.intro) hs he (dk_new hz d1 (r2.merge r1) dd'), rfl, q⟩
def rMth (Γ : Gd) (f : D → List D → Store → R D) : V → List V → Hp → VK → Prop := fun x xs H Q => ∃ E μ S d ds, RepS Γ.K μ H S ∧ RepV Γ.K μ H d x ∧ RepVs Γ.K μ H ds xs ∧ Aft Γ E μ H (QV Γ Q) (f d ds S)
theorem op_mth (hK : Γ.K = X.K) (m : Mth) : MtR X (mthId m) (rMth Γ (opMth m)) := by
  intro pins s σ H x xs v us Q I rx rv ⟨E, μ, S, d, es, rs, hx, hxs, h⟩
  unfold opMth at h
  split at h
  next a =>
    cases hx
    split at h
    · match hxs with
      | .cons (v := w) r .nil =>
        unfold opJoin at h
        split at h
        next fs hf =>
          split at h
          next ys hy =>
            split at h
            next hl =>
              obtain ⟨p, vs, e, hq, r', _, _⟩ := items_of rs r hf
              cases e
              have e2 := r'.strs hy
              subst e2
              exact mt_join pins s σ H _ _ v us Q I rx rv ⟨_, _, _, rfl, rfl, hK ▸ hq, hl, qv h rs (.str _)⟩
            · exact h.elim
          · exact h.elim
        · exact h.elim
    · match hxs with
      | .cons (.str b) .nil =>
        split at h
        next hl => exact mt_split pins s σ H _ _ v us Q I rx rv ⟨_, _, rfl, rfl, hl.1, hl.2, fun p hp => qv_lst h rs (.ofStrs _) hp⟩
        · exact h.elim
    · match hxs with
      | .cons (.str b) .nil =>
        split at h
        next hl => exact mt_partition pins s σ H _ _ v us Q I rx rv ⟨_, _, rfl, rfl, hl.1, hl.2, fun p hp => qv_tup h rs (.cons (.str _) (.cons (.str _) (.cons (.str _) .nil))) hp⟩
        · exact h.elim
    · match hxs with
      | .cons (.str b) .nil => exact mt_startswith pins s σ H _ _ v us Q I rx rv ⟨_, _, rfl, rfl, qv h rs (.bl _)⟩
    · exact h.elim
  next n =>
    cases hx with
    | ref q =>
      split at h
      next ds hd =>
        obtain ⟨b, vs, e1, e2, e3⟩ := rs.lst hd
        rw [q] at e1; cases e1
        split at h
        · match hxs with
          | .cons r .nil =>
            split at h
            next hl =>
              refine mt_append pins s σ H _ _ v us Q I rx rv ⟨_, _, _, rfl, rfl, e2, by rw [← e3.length]; exact hl, ?_⟩
              exact h μ _ (Ext.set e2 (List.mem_of_getElem? q)) (rs.set q e2 (e3.append (.cons r .nil))) _ .non
            · exact h.elim
        · match hxs with
          | .nil =>
            split at h
            next y hy =>
              obtain ⟨w, hw, rw'⟩ := e3.get hy
              rw [e3.length] at hw
              refine mt_pop pins s σ H _ _ v us Q I rx rv ⟨_, _, _, rfl, rfl, e2, hw, ?_⟩
              have ex := Ext.set (vs := vs.dropLast) e2 (List.mem_of_getElem? q)
              exact h μ _ ex (rs.set q e2 e3.dropLast) _ (rw'.mono ex)
            · exact h.elim
        · match hxs with
          | .cons (.ref q2) .nil =>
            split at h
            next fs hf =>
              obtain ⟨c, ws, f1, f2, f3⟩ := rs.lst hf
              rw [q2] at f1; cases f1
              split at h
              next hl =>
                refine mt_extend pins s σ H _ _ v us Q I rx rv ⟨_, _, _, _, rfl, rfl, e2, f2, by rw [← e3.length, ← f3.length]; exact hl, ?_⟩
                exact h μ _ (Ext.set e2 (List.mem_of_getElem? q)) (rs.set q e2 (e3.append f3)) _ .non
              · exact h.elim
            · exact h.elim
        · exact h.elim
      next kvs hd =>
        obtain ⟨b, vs, e1, e2, e3⟩ := rs.dic hd
        rw [q] at e1; cases e1
        split at h
        · match hxs with
          | .cons (.ref q2) .nil =>
            split at h
            next more hf =>
              obtain ⟨c, ws, f1, f2, f3⟩ := rs.dic hf
              rw [q2] at f1; cases f1
              split at h
              next hl =>
                have hne : _ ≠ _ := fun e => hl.1 ((List.getElem_inj rs.nd).mp ((List.getElem?_eq_some_iff.mp q).2.trans (e.trans (List.getElem?_eq_some_iff.mp q2).2.symm)))
                refine mt_update pins s σ H _ _ v us Q I rx rv ⟨_, _, _, _, rfl, rfl, hne, e2, f2, by rw [← e3.length, ← f3.length]; exact hl.2, ?_⟩
                exact h μ _ (Ext.setC e2 trivial (List.mem_of_getElem? q)) (rs.setD q e2 (f3.merge e3)) _ .non
              · exact h.elim
            · exact h.elim
        · exact h.elim
      · exact h.elim
  · exact h.elim
theorem mth_ty (hK : Γ.K = X.K) {μ : List Addr} {H : Hp} {S : Store} {m : Mth} {d : D} {v : V} (rs : RepS Γ.K μ H S) (r : RepV Γ.K μ H d v) (h : rcvOk m d S = true) : tyV X.K (mthT m) v H := by
  have l : ∀ {n : Nat}, RepV Γ.K μ H (.ref n) v → (match S[n]? with | some (.lst _) => true | _ => false) = true → tyV X.K "list" v H := fun r h => by
    split at h
    next ds hd =>
      cases r with
      | ref q =>
        obtain ⟨b, vs, e1, e2, e3⟩ := rs.lst hd
        rw [q] at e1; cases e1
        exact .inl ⟨rfl, vs, SqL.of e2⟩
    · cases h
  cases m with
  | append => cases d <;> first | exact l r h | cases h
  | pop => cases d <;> first | exact l r h | cases h
  | extend => cases d <;> first | exact l r h | cases h
  | join => cases d <;> first | (cases r; exact rfl) | cases h
  | split => cases d <;> first | (cases r; exact rfl) | cases h
  | partition => cases d <;> first | (cases r; exact rfl) | cases h
  | startswith => cases d <;> first | (cases r; exact rfl) | cases h
  | update =>
    cases d with
    | ref n =>
      unfold rcvOk at h
      simp only at h
      split at h
      next kvs hd =>
        cases r with
        | ref q =>
          obtain ⟨b, vs, e1, e2, e3⟩ := rs.dic hd
          rw [q] at e1; cases e1
          exact .inr (.inr (.inl ⟨rfl, .inl ⟨vs, e2⟩⟩))
      · cases h
    | _ => cases h

/-! ### o[i] = v -/
def rSet (Γ : Gd) : TSet := fun o i v H Q => ∃ E μ S do' di dv, RepS Γ.K μ H S ∧ RepV Γ.K μ H do' o ∧ RepV Γ.K μ H di i ∧ RepV Γ.K μ H dv v ∧ Aft Γ E μ H (fun _ _ _ H' => Q H') (opSet do' di dv S)
theorem op_set (hu : X.A.units + 1 < cLine) : PSet X (rSet Γ) := by
  intro pins s σ H o i v ov iv u Q I ro ri rv ⟨E, μ, S, d1, d2, d3, rs, h1, h2, h3, h⟩
  unfold opSet at h
  split at h
  next kvs hd =>
    split at h
    next n k hk =>
      split at h
      next hl =>
        obtain ⟨a, vs, rfl, e2, e3⟩ := dic_of rs h1 hd
        cases h1 with
        | ref q =>
          have ey := key_of h2 hk
          subst ey
          refine set_dict hu pins s σ H _ _ _ ov iv u Q I ro ri rv ⟨a, _, rfl, DPut.k e2 (by rw [← e3.length]; exact hl), ?_⟩
          exact h μ _ (Ext.setC e2 trivial (List.mem_of_getElem? q)) (rs.setD q e2 (e3.put h3))
      · exact h.elim
    · exact h.elim
  · split at h
    next n k =>
      cases h1 with
      | ref q =>
        cases h2
        split at h
        next ds hd =>
          split at h
          next j hj =>
            obtain ⟨b, vs, e1, e2, e3⟩ := rs.lst hd
            rw [q] at e1; cases e1
            refine set_list pins s σ H _ _ _ ov iv u Q I ro ri rv ⟨_, _, _, j, rfl, rfl, e2, by rw [← e3.length]; exact hj, ?_⟩
            exact h μ _ (Ext.set e2 (List.mem_of_getElem? q)) (rs.set q e2 (e3.set h3 j))
          · exact h.elim
        · exact h.elim
    · exact h.elim
/-- name op= e on things that do not change -/
theorem op_aug (o : Operator) : OpR X (inplaceOp o) (rBin Γ (opAug o)) := by
  intro pins s σ H x y v u Q I rx ry ⟨E, μ, S, dx, dy, rs, hx, hy, h⟩
  unfold opAug at h
  split at h
  · cases hx; cases hy
    exact iop_add pins s σ H _ _ v u Q I rx ry ⟨_, _, rfl, rfl, qv h rs (.int _)⟩
  · cases hx; cases hy
    exact iop_sub pins s σ H _ _ v u Q I rx ry ⟨_, _, rfl, rfl, qv h rs (.int _)⟩
  · cases hx; cases hy
    split at h
    next hm =>
      simp only [Bool.or_eq_true, decide_eq_true_eq] at hm
      refine iop_mul pins s σ H _ _ v u Q I rx ry ⟨_, _, rfl, rfl, ?_, qv h rs (.int _)⟩
      rcases hm with hm | hm
      · exact .inl ⟨by omega, by omega⟩
      · exact .inr ⟨by omega, by omega⟩
    · exact h.elim
  · cases hx; cases hy
    split at h
    next hm => exact iop_fdiv pins s σ H _ _ v u Q I rx ry ⟨_, _, rfl, rfl, hm, qv h rs (.int _)⟩
    · exact h.elim
  · cases hx; cases hy
    split at h
    next hm => exact iop_mod pins s σ H _ _ v u Q I rx ry ⟨_, _, rfl, rfl, hm, qv h rs (.int _)⟩
    · exact h.elim
  · cases hx; cases hy
    split at h
    next hm => exact iop_add_str pins s σ H _ _ v u Q I rx ry ⟨_, _, rfl, rfl, hm, qv h rs (.str _)⟩
    · exact h.elim
  · exact h.elim
end
end PD
end

section
set_option linter.all false
set_option maxRecDepth 100000
set_option maxHeartbeats 2000000
/-! PDexc: except clauses with and without names, own errors made and asked, at the hand layer. -/
namespace PD
open PySem L2 PySem.Spec PyProof.Rows

/-! ### several except clauses, each with or without a name -/
structure Cl where
  c : Value
  i : Option Nat
  ts : Addr → Value → Option Addr → TS
def endsO (D : Ends) : Option Nat → Ends
  | none => D
  | some i => ⟨fun σ H => D.nx (σ.set i none) H, D.rt, fun σ H => D.bk (σ.set i none) H, fun σ H => D.ct (σ.set i none) H⟩
def atO (σ : L2.St) (a : Addr) : Option Nat → L2.St
  | none => σ
  | some i => σ.set i (some (.ref a))
/-- what the clauses ask, one behind the other -/
def wCls (K : PySem.W.Frag) (Wo : WX) (D : Ends) : List Cl → WX
  | [] => Wo
  | q :: r => fun cls d σ H => ∃ b, PySem.W.exmOne K cls q.c = some b ∧ (b = true → ∀ a, H a = none → q.ts a cls d (endsO D q.i) (atO σ a q.i) H) ∧ (b = false → wCls K Wo D r cls d σ H)
/-- a suite keeps what it is asked -/
def SuOk (X : Cx) (su : List PySem.Stmt) (ts : Addr → Value → Option Addr → TS) : Prop :=
  ∀ (a : Addr) (oe : Obj) (cls : Value) (d : Option Addr) (pn : List (Addr × Obj)), L2N.Zn cls d oe → (∃ fv, oe.data = .fields fv) → PSs (X.suite a ((a, oe) :: pn)) su (ts a cls d)
inductive ClsOk (X : Cx) : List ExceptHandler → List Cl → Prop
  | nil : ClsOk X [] []
  | bare {x : Str} {c : Value} {ts : Addr → Value → Option Addr → TS} {b0 : PySem.Stmt} {bs : List PySem.Stmt} {p1 p2 : Pos} {g : List ExceptHandler} {l : List Cl} (hc : Names X x c) (hs : SuOk X (b0 :: bs) ts) (r : ClsOk X g l) :
      ClsOk X (.ExceptHandler (some (.Name x p1)) none (b0 :: bs) p2 :: g) (⟨c, none, ts⟩ :: l)
  | named {x n : Str} {c : Value} {i : Nat} {ts : Addr → Value → Option Addr → TS} {b0 : PySem.Stmt} {bs : List PySem.Stmt} {p1 p2 : Pos} {g : List ExceptHandler} {l : List Cl} (hc : Names X x c) (hi : X.N[i]? = some n) (hl : X.env.kindOf n = some .local) (hs : SuOk X (b0 :: bs) ts) (r : ClsOk X g l) :
      ClsOk X (.ExceptHandler (some (.Name x p1)) (some n) (b0 :: bs) p2 :: g) (⟨c, some i, ts⟩ :: l)

section
variable {X : Cx} {pins : List (Addr × Obj)} {D : Ends} {Wo : WX}
theorem end_bare {a : Addr} {p : Addr × Obj} {f : Flow} {s : Shared} (ok : X.Ok) (h : SP (X.suite a (p :: (X.pn ++ pins))) [] D f s) : SP X pins D f s := by
  cases f with
  | next => let ⟨σ, H, I, q⟩ := h; exact ⟨σ, H, I.unsuite ok, q⟩
  | brk => let ⟨σ, H, I, q⟩ := h; exact ⟨σ, H, I.unsuite ok, q⟩
  | cont => let ⟨σ, H, I, q⟩ := h; exact ⟨σ, H, I.unsuite ok, q⟩
  | ret u => let ⟨v, σ, H, I, r, q⟩ := h; exact ⟨v, σ, H, I.unsuite ok, r, q⟩
theorem end_named {a : Addr} {p : Addr × Obj} {f : Flow} {s : Shared} {i : Nat} {n : Str} {p2 : Pos} (ok : X.Ok) (hN : X.N.Nodup) (hi : X.N[i]? = some n) (hl : X.env.kindOf n = some .local) (h : SP (X.suite a (p :: (X.pn ++ pins))) [] (endsO D (some i)) f s) :
    wpAny (model X.prog X.w) X.A (do bindName X.env n .none; unbindBehindTheSuite X.env n p2) (fun _ s' => SP X pins D f s') X.xe s := by
  cases f with
  | next => let ⟨σ, H, I, q⟩ := h; exact gone_ok (I.unsuite ok) hN hi hl fun s' J => ⟨_, _, J, q⟩
  | brk => let ⟨σ, H, I, q⟩ := h; exact gone_ok (I.unsuite ok) hN hi hl fun s' J => ⟨_, _, J, q⟩
  | cont => let ⟨σ, H, I, q⟩ := h; exact gone_ok (I.unsuite ok) hN hi hl fun s' J => ⟨_, _, J, q⟩
  | ret u => let ⟨v, σ, H, I, r, q⟩ := h; exact gone_ok (I.unsuite ok) hN hi hl fun s' J => ⟨v, _, _, J, r, q⟩
theorem end_try {f : Flow} {s : Shared} {pn : List (Addr × Obj)} {xe : Value → Shared → Prop} (ok : X.Ok) (h : SP (X.tr (X.pn ++ pins) xe) [] D f s) : SP X pins D f s := by
  cases f with
  | next => let ⟨σ, H, I, q⟩ := h; exact ⟨σ, H, I.ofTry ok, q⟩
  | brk => let ⟨σ, H, I, q⟩ := h; exact ⟨σ, H, I.ofTry ok, q⟩
  | cont => let ⟨σ, H, I, q⟩ := h; exact ⟨σ, H, I.ofTry ok, q⟩
  | ret u => let ⟨v, σ, H, I, r, q⟩ := h; exact ⟨v, σ, H, I.ofTry ok, r, q⟩

/-- an exception that has come down to its frame -/
structure Down (X : Cx) (pins : List (Addr × Obj)) (a : Addr) (B : Heap) (sI s : Shared) (σ : L2.St) (H : Hp) (cls : Value) (d : Option Addr) (h : Heap) : Prop where
  inv : Inv X pins σ H sI
  gr : ∀ b o, sI.heap.get? b = some o → b ∉ frs X.stack → B.get? b = some o
  up : sI.heap.UpToSlots h
  fly : HandSPX.FlyingZ B (X.env :: X.outer) a (L2N.Zn cls d) h
  na : H a = none
  os : s.os = sI.os
  ag : AllBare s.gens
variable {a : Addr} {B : Heap} {sI s : Shared} {σ : L2.St} {H : Hp} {cls : Value} {d : Option Addr} {h : Heap}
theorem Down.here (w : Down X pins a B sI s σ H cls d h) : Inv X pins σ H { s with heap := h } := w.inv.landed (s' := { s with heap := h }) w.gr w.fly.1 w.up w.os w.ag
theorem Down.pin (w : Down X pins a B sI s σ H cls d h) (hst : X.stack = X.env :: X.outer) (hfr : X.env.frame = some X.env.locals) : ∃ oe, L2N.Zn cls d oe ∧ (∃ fv, oe.data = .fields fv) ∧ h.get? a = some oe ∧ Inv (X.suite a ((a, oe) :: (X.pn ++ pins))) [] σ H { s with heap := h } := by
  obtain ⟨oe, fv, e1, e2, e3⟩ := w.fly.there
  have off : a ∉ frs (X.env :: X.outer) := fun m => by
    obtain ⟨_, o, e, nf⟩ := w.fly.2.2.1.mem m
    rw [e1] at e
    exact nf _ ((Option.some.inj e) ▸ e3)
  refine ⟨oe, e2, ⟨fv, e3⟩, e1, w.here.suite e1 e3 w.na (fun z => off ?_) fun z => off ?_⟩
  · exact List.mem_filterMap.2 ⟨X.env, .head _, hfr.trans (congrArg some z.symm)⟩
  · obtain ⟨e, he, q⟩ := List.mem_filterMap.1 z
    exact List.mem_filterMap.2 ⟨e, .tail _ he, q⟩
theorem Down.again (w : Down X pins a B sI s σ H cls d h) {h' : Heap} (fl : HandSPX.FlyingZ B (X.env :: X.outer) a (L2N.Zn cls d) h') (up : h.UpToSlots h') : Down X pins a B sI s σ H cls d h' := ⟨w.inv, w.gr, w.up.trans up, fl, w.na, w.os, w.ag⟩
/-- no clause takes it -/
theorem Down.on (w : Down X pins a B sI s σ H cls d h) (hst : X.stack = X.env :: X.outer) (hfr : X.env.frame = some X.env.locals) (tk : L2N.Takes X Wo) (q : Wo cls d σ H) : wpAny (model X.prog X.w) X.A (handleBy (.ref a) X.env []) (SP X pins D) X.xe { s with heap := h } := by
  refine wpAny_handleBy_nil ?_
  obtain ⟨oe, fv, T, oT, tv, e1, e2, e3, e4, e5⟩ := w.fly.2.2.2
  unfold PySem.passOn
  refine wpAny_bind (wpAny_field e1 e3 e4 ?_)
  rw [if_neg (by simp)]
  have last : wpAny (model X.prog X.w) X.A (setFlight (.ref a) X.env.frame) (fun _ s4 => wpAny (model X.prog X.w) X.A (throw (.ref a) : Sem Flow) (SP X pins D) X.xe s4) X.xe { s with heap := h } := by
    rw [hfr]
    exact HandSPX.setFlight_upZ w.fly fun h' hh up => wpAny_throw (tk _ _ ⟨a, B, sI, pins, σ, H, cls, d, rfl, w.inv, w.gr, w.up.trans up, hst ▸ .inr (.inr hh), w.na, w.os, w.ag, q⟩)
  first
    | exact wpAny_bind (wpAny_pure (wpAny_bind last))
    | exact wpAny_bind last
theorem Down.clauses (hst : X.stack = X.env :: X.outer) (hfr : X.env.frame = some X.env.locals) (hN : X.N.Nodup) (tk : L2N.Takes X Wo) (w : Down X pins a B sI s σ H cls d h) :
    ∀ {g : List ExceptHandler} {l : List Cl}, ClsOk X g l → wCls X.K Wo D l cls d σ H → wpAny (model X.prog X.w) X.A (handleBy (.ref a) X.env g) (SP X pins D) X.xe { s with heap := h } := by
  have ok := w.inv.ok
  obtain ⟨oe, z, zf, eg, S3⟩ := w.pin hst hfr
  have look : ∀ {c : Value} {b : Bool}, PySem.W.exmOne X.K cls c = some b → PySem.W.Looks (model X.prog X.w) h (excMatches (.ref a) c) b := fun e =>
    PySem.W.exm_one w.here.kIn (fun A Q E s k q => wpAny_typeOf_ref (k _ _ eg) (z.1.symm ▸ q)) e
  have test : ∀ {x : Str} {c : Value} {p : Pos} {Q E : Value → Shared → Prop}, Names X x c → Q c { s with heap := h } → wpAny (model X.prog X.w) (X.A.mark (some (.ref a))) (eval (.Name x p) X.env) Q E { s with heap := h } := fun {x c p Q E} hc q => by
    obtain ⟨g1, g2, g3 | ⟨g3, g4, g5⟩⟩ := hc
    · exact ld_glob (X := X.suite a ((a, oe) :: (X.pn ++ pins))) S3 g1 g3 q g2
    · exact ld_blt (X := X.suite a ((a, oe) :: (X.pn ++ pins))) S3 g1 g3 g4 q g5 g2
  intro g l k
  induction k with
  | nil => exact fun q => w.on hst hfr tk q
  | @bare x c ts b0 bs p1 p2 g l hc hs r ih =>
    rintro ⟨b, e, yes, no⟩
    refine wpAny_handleBy_cons (codeAny_handlers_test (test hc ((look e).here ?_))) (by intro q; cases q)
    cases b with
    | false =>
      show wpAny _ X.A (handleBy (.ref a) X.env g) _ _ _
      exact ih (no rfl)
    | true =>
      refine codeAny_handlers_suite (HandSPX.lands_againZ w.fly fun h4 fl up => ?_)
      obtain ⟨o4, z4, f4, _, S4⟩ := (w.again fl up).pin hst hfr
      exact wpAny_mono ((hs a o4 cls d _ z4 f4).run [] _ _ H _ S4 (yes rfl a w.na)) (fun f s6 q => end_bare ok q) fun _ _ z => z.elim
  | @named x n c i ts b0 bs p1 p2 g l hc hi hl hs r ih =>
    rintro ⟨b, e, yes, no⟩
    refine wpAny_handleBy_cons (codeAny_handlers_test (test hc ((look e).here ?_))) (by intro q; cases q)
    cases b with
    | false =>
      show wpAny _ X.A (handleBy (.ref a) X.env g) _ _ _
      exact ih (no rfl)
    | true =>
      refine codeAny_handlers_suite_as (HandSPX.lands_againZ w.fly fun h4 fl up => ?_)
      obtain ⟨o4, z4, f4, _, S4⟩ := (w.again fl up).pin hst hfr
      refine store_ok (X := X.suite a ((a, o4) :: (X.pn ++ pins))) (v := .ref a) S4 hN hi (.inl hl) rfl (fun s5 S5 => ?_) (.inr hl)
      exact wpAny_mono ((hs a o4 cls d _ z4 f4).run [] s5 _ H _ S5 (yes rfl a w.na)) (fun f s6 q => end_named ok hN hi hl q) fun _ _ z => z.elim
end
theorem ps_try_cls {X : Cx} {body : List PySem.Stmt} {g0 : ExceptHandler} {gs : List ExceptHandler} {l : List Cl} {pos : Pos} {tb : WX → TS} {Wo : WX} (hst : X.stack = X.env :: X.outer) (hfr : X.env.frame = some X.env.locals) (hN : X.N.Nodup) (tk : L2N.Takes X Wo)
    (hb : ∀ (W : WX) (pn : List (Addr × Obj)) (xe : Value → Shared → Prop), L2N.Takes (X.tr pn xe) W → PassesOwn (model X.prog X.w) X.A X.env xe → PSs (X.tr pn xe) body (tb W)) (hh : ClsOk X (g0 :: gs) l) :
    PS X (.Try body (g0 :: gs) [] [] pos) (fun D σ H => tb (wCls X.K Wo D l) D σ H) := by
  refine ⟨fun pins s σ H D I q => ?_⟩
  have ok := I.ok
  have frm : X.A.frames = some (X.env :: X.outer) := hst ▸ ok.frames
  refine wpAny_Try_except (wpAny_mono ((hb (wCls X.K Wo D l) (X.pn ++ pins) (fun e s1 => wpAny (model X.prog X.w) X.A (noteFrame e X.env) (fun _ s2 => wpAny (model X.prog X.w) X.A (setFlight e none)
    (fun _ s3 => wpAny (model X.prog X.w) X.A (handleBy e X.env (g0 :: gs)) (SP X pins D) X.xe s3) X.xe s2) X.xe s1) (fun u s' xx => ?_) PassesOwn.looking).run [] s σ H D (I.toTry _) q) (fun f s1 z => ?_) fun _ _ z => z)
  · obtain ⟨a, B, sI, pins', σ', H', cls, d, rfl, J, nb, up, sky, na, os, ag, w⟩ := xx
    rw [show (X.tr (X.pn ++ pins) _).stack = X.stack from rfl, hst] at sky
    exact L2N.Sky.land L2N.Zn.steady frm hfr sky fun h3 fl up3 => Down.clauses hst hfr hN tk ⟨J.ofTry ok, nb, up.trans up3, fl, na, os, ag⟩ hh w
  · have z' := end_try (pn := []) ok z
    cases f with
    | next => let ⟨σ', H', J, q'⟩ := z'; exact wpAny_execs_nil ⟨σ', H', J, q'⟩
    | brk => exact z'
    | cont => exact z'
    | ret u => exact z'
end PD
end

section
set_option linter.all false
set_option maxRecDepth 100000
set_option maxHeartbeats 4000000
/-! PDexc2: own errors made, with one field or none; what isinstance tells of a caught one. -/
namespace PD
open PySem L2 PySem.Spec PyProof.Rows

abbrev veL : List Value := [.type "ValueError", .type "Exception", .type "BaseException", .type "object"]
/-- what the written part says of an own error class -/
structure XcC (K : PySem.W.Frag) (C : Addr) : Prop where
  kC : PySem.W.keepIn K (.ref C) = true
  tyC : PySem.W.typeIn K (.ref C) = some (.type "type")
  xf : XfC K C
  ha : PySem.W.findIn K (.ref C) "__class__" = some (some (.builtin "object.__class__"))
  hm : PySem.W.mroIn K C (.type "object") = some true
  hn : PySem.W.specialIn K (.builtin "object.__class__") "__get__" = some (some (.builtin "getset_descriptor.__get__"))
  ht : PySem.W.takesIn K (.builtin "object.__class__") = some true
def xcB (K : PySem.W.Frag) (C : Addr) : Bool := PySem.W.keepIn K (.ref C) && (decide (PySem.W.typeIn K (.ref C) = some (.type "type")) && (xfB K C && (decide (PySem.W.findIn K (.ref C) "__class__" = some (some (.builtin "object.__class__"))) &&
  (decide (PySem.W.mroIn K C (.type "object") = some true) && (decide (PySem.W.specialIn K (.builtin "object.__class__") "__get__" = some (some (.builtin "getset_descriptor.__get__"))) && decide (PySem.W.takesIn K (.builtin "object.__class__") = some true))))))
theorem xcB_ok {K : PySem.W.Frag} {C : Addr} (h : xcB K C = true) : XcC K C := by
  simp only [xcB, Bool.and_eq_true, decide_eq_true_eq] at h
  obtain ⟨h1, h2, h3, h4, h5, h6, h7⟩ := h
  exact ⟨h1, h2, xfB_ok h3, h4, h5, h6, h7⟩
theorem XcC.raises {X : Cx} {C : Addr} (x : XcC X.K C) : Raises X (.ref C) := raises_own x.xf.exC x.tyC
theorem XcC.cls {K : PySem.W.Frag} {C : Addr} (x : XcC K C) : (PySem.W.clsIn K C).isSome = true := by
  have h := x.xf.hdC
  unfold PySem.W.hasDictIn at h
  cases e : PySem.W.clsIn K C with
  | none => rw [e] at h; cases h
  | some _ => rfl
theorem XcC.exm {K : PySem.W.Frag} {C : Addr} {cls : Value} {b : Bool} (x : XcC K C) (h : PySem.W.subIn K cls (.ref C) = some b) : PySem.W.exmOne K cls (.ref C) = some b := PySem.W.exm_ref x.xf.exC x.xf.hdC x.tyC h
theorem XcC.kit {K : PySem.W.Frag} {C C' : Addr} {b : Bool} (x : XcC K C) (h : PySem.W.subIn K (.ref C') (.ref C) = some b) (hs : C' = C → b = true) : PySem.W.kitOne K (.ref C') (.ref C) = some b := by
  unfold PySem.W.kitOne
  split
  next q =>
    have e : C' = C := Value.ref.inj (beq_iff_eq.1 q)
    rw [hs e]
  · have e := x.exm h
    unfold PySem.W.exmOne at e
    split at e
    · exact e
    · cases e

/-! ### C() -/
section
variable {X : Cx} {C : Addr} {x : Str} {p pos : Pos}
theorem pmk0 (c : XcC X.K C) (q : PySem.W.excIn X.K C veL "ValueError.__new__" = true) (hm : X.mg x = some (.ref C)) (hg : Gl X x) (hd : (x == ("__debug__" : Str)) = false) : L2N.PMk X (.Call (.Name x p) [] [] pos) (fun _ H Q => Q (.ref C) none H) := by
  intro pins s σ H Q I h
  obtain ⟨bm, N, nm, qn, bs, hdct, sn, sub, ab, col, dd, k0, k1, k2, k3, k5, mN, hC, hN, hni, T⟩ := exc_obj I.kIn q
  refine wpAny_Call_Name_kw (ld_glob I hg hm (PySem.W.callWith_K0 I.kIn c.kC ?_) hd)
  exact wpAny_call_exc_subT PySem.F.excBase_ValueError T hC hN hni (fun h' e m => L2N.mk_of I m c.raises h (I.hok.gone m.new)) (by show 0 ≤ sizeLine; omega)

/-! ### C(e), C's own __init__ keeping it -/
/-- what __init__ promises -/
def spI (C : Addr) (f : Str) : Sp := fun vs H Q _ => ∃ a v, vs = [.ref a, v] ∧ H a = some (exo a C none) ∧ ∀ dx, H dx = none → dx ≠ a → Q .non (upd (upd H dx (exd dx [(f, v)])) a (exo a C (some dx)))
theorem pmk1 {k : Nat} {fI : Addr} {fd : FuncData} {f n1 n2 : Str} {e : PySem.Expr} {ta : TA} (c : XcC X.K C) (T : OexC X.K C) (iC : PySem.W.findIn X.K (.ref C) "__init__" = some (some (.ref fI))) (tI : PySem.W.typeIn X.K (.ref fI) = some (.type "function"))
    (F1 : FnOk X.prog X.w X.K X.mg X.base (L2N.CX X.prog X.w) k fI fd [n1, n2] (spI C f)) (hr : Room (k + 1) X.A) (hb : Binds X.K fd [n1, n2] []) (hx : Passes (L2N.CX X.prog X.w) X (fun _ _ _ => False)) (hg : Gl X x) (hm : X.mg x = some (.ref C)) (ha : PA X [e] ta)
    (hd : (x == ("__debug__" : Str)) = false) (hs : starEach [e] X.env = (false, eval e X.env) :: starEach [] X.env) : L2N.PMk X (.Call (.Name x p) [e] [] pos) (fun σ H Q => ta σ H fun vs H1 => ∃ v, vs = [v] ∧ ∀ d, H1 d = none → Q (.ref C) (some d) (upd H1 d (.xd [(f, v)]))) := by
  intro pins s σ H Q I h
  obtain ⟨nm, q, N, bs, bm, sn, sub, ab, col, dd, k0, k1, k2, k3, k5, hC, hbm⟩ := T.cls
  refine wpAny_Call_Name_kw (ld_glob I hg hm ?_ hd)
  refine PySem.W.callWith_K (h₀ := X.base) I.ok.mod.kin c.kC (thn (ha.run pos pins s σ H _ I h) fun us s1 w => ?_) hs rfl
  obtain ⟨vs, H1, J, r, v, rfl, w⟩ := w
  refine ⟨J.kIn, ?_⟩
  match us, r with
  | [u], .cons ru .nil =>
    obtain ⟨h1, g1, d1, t1, o1⟩ := s1
    have low : h1.objs.size ≤ h1.objs.size + 1 := Nat.le_succ _
    have new : H1 (h1.objs.size + 1) = none := J.hok.fresh low
    obtain ⟨hE, eE⟩ : ∃ hE, hE = (h1.push (PySem.W.kdv_tup [u])).push (PySem.HandSPX.excO C h1.objs.size) := ⟨_, rfl⟩
    have stay : ∀ b o, h1.get? b = some o → hE.get? b = some o := fun b o z => by rw [eE]; exact Heap.get?_push_of_some _ (Heap.get?_push_of_some _ z)
    have there : hE.get? (h1.objs.size + 1) = some (PySem.HandSPX.excO C h1.objs.size) := by rw [eE]; heap_get
    have J2 : Inv X pins σ (upd H1 (h1.objs.size + 1) (exo (h1.objs.size + 1) C none)) ⟨hE, g1, d1, t1, o1⟩ := J.laid (t' := t1) (a := h1.objs.size + 1) (o := exo (h1.objs.size + 1) C none) (h' := hE) stay low (exo_ok there)
    have r2 : Vals [V.ref (h1.objs.size + 1), v] [Value.ref (h1.objs.size + 1), u] := .cons rfl (.cons ru .nil)
    have b2 := hb ⟨hE, g1, d1, t1, o1⟩ [Value.ref (h1.objs.size + 1), u] J2.kIn (by rfl)
    rw [List.append_nil] at b2
    have run := F1.run (X.A.under (.builtin "type.__call__" ⟨.ref C :: [u], []⟩)) X.stack ⟨hE, g1, d1, t1, o1⟩ _ ⟨[Value.ref (h1.objs.size + 1), u], []⟩ [Value.ref (h1.objs.size + 1), u] _
      (fun v2 H2 => v2 = .non ∧ ∃ (d : Addr), H2 (h1.objs.size + 1) = some (exo (h1.objs.size + 1) C (some d)) ∧ H2 d = some (exd d [(f, v)]) ∧ H1 d = none ∧ Q (.ref C) (some d) (upd (del H2 (h1.objs.size + 1)) d (.xd [(f, v)])))
      (fun _ _ _ => False) (hr.make C [u] []) (J2.env0.make C [u] []) b2 r2 ⟨_, v, rfl, upd_same, fun dx e1 e2 => by
        have e3 : H1 dx = none := by rw [upd_ne e2] at e1; exact e1
        refine ⟨rfl, dx, upd_same, by rw [upd_ne e2, upd_same], e3, ?_⟩
        have eq : upd (del (upd (upd (upd H1 (h1.objs.size + 1) (exo (h1.objs.size + 1) C none)) dx (exd dx [(f, v)])) (h1.objs.size + 1) (exo (h1.objs.size + 1) C (some dx))) (h1.objs.size + 1)) dx (.xd [(f, v)]) = upd H1 dx (.xd [(f, v)]) := by
          funext b
          by_cases z : b = dx
          · rw [z, upd_same, upd_same]
          · rw [upd_ne z, upd_ne z]
            by_cases y : b = h1.objs.size + 1
            · rw [y, del_same, new]
            · rw [del_ne y, upd_ne y, upd_ne z, upd_ne y]
        rw [eq]
        exact w dx e3⟩
    show wpAny _ _ (call (.ref C) [u]) _ _ _
    refine wpAny_call (PySem.HandSPX.call_own PySem.F.excBase_ValueError (fun Y => PySem.HandSPX.refsVE_contains Y bm hbm) (J.kIn _ _ hC) (PySem.W.looks_findIn J.kIn iC) (fun self => PySem.W.bind_fn J.kIn self tI) (by show 1 ≤ sizeLine; rw [sizeLine_eq]; omega) ?_)
    rw [← eE]
    refine codeAny_mono run fun r s' z => ?_
    match r, z with
    | .error er, z => exact hx pins σ _ _ er s' J2 z
    | .ok (.ret u2), z =>
      obtain ⟨v2, H2, os2, bare2, un2, hok2, rv, rfl, dx, ea, ed, e0, q2⟩ := z
      obtain ⟨h2, g2, d2, t2, o2⟩ := s'
      obtain ⟨t0, G, J3, kG, ge, hoe, na⟩ := mk_end0 (d2 := d2) (t2 := t2) J low stay un2 hok2 os2 bare2 ea ed e0
      exact ⟨rv, h1.objs.size + 1, _, _, ⟨G, g2, d2, t2, o2⟩, _, .ref C, some dx, rfl, J3, kG, ge, hoe, ⟨rfl, rfl, fun fv hv => by cases hv; rfl⟩, rfl, rfl, na, rfl, bare2, c.raises, q2⟩
end
/-- the text of such an __init__ -/
structure InitTxt (st : PySem.Stmt) (f n1 n2 : Str) : Prop where
  body : ∃ q1 q2 q3 q4, defBody st = [.Assign [.Attribute (.Name n1 q1) f q2] (.Name n2 q3) q4]
  sc : FnScope [n1, n2] [n1, n2] (defScope st)
  l1 : (defScope st).names.lookup n1 = some .local
  l2 : (defScope st).names.lookup n2 = some .local
  d1 : (n1 == ("__debug__" : Str)) = false ∧ (n1 == ("__classdict__" : Str)) = false
  d2 : (n2 == ("__debug__" : Str)) = false ∧ (n2 == ("__classdict__" : Str)) = false
theorem init_ok {P : Program} {w : World} {K : PySem.W.Frag} {mg : Str → Option Value} {base : Heap} {x qual : Str} {st : PySem.Stmt} {fI : Addr} {fd : FuncData} {C : Addr} {f n1 n2 : Str} (F : Fun K x qual st fI fd) (t : InitTxt st f n1 n2) (T : OexC K C) (hno : PySem.W.findIn K (.ref C) f = some none) :
    FnOk P w K mg base (L2N.CX P w) 1 fI fd [n1, n2] (spI C f) := by
  obtain ⟨oc, od, kV, doc, pm, an, cdv, ct, osl, rfl, lk, hcd⟩ := F.ex
  refine fn_of lk hcd t.sc (fun vs H Q E ⟨a, v, e, _⟩ => by rw [e]; rfl) fun A outer s H vs Q E hr ⟨a, v, e, ea, q⟩ => ?_
  obtain ⟨q1, q2, q3, q4, eb⟩ := t.body
  rw [eb]
  subst e
  obtain ⟨X, eX⟩ : ∃ X, X = cxOf (L2N.CX P w) P w K mg base [n1, n2] qual (defScope st) fI cdv A outer s H E := ⟨_, rfl⟩
  have o : PE X (.Name n1 q1) _ := pe_var (i := 0) (by rw [eX]; rfl) (by rw [eX]; exact .inl t.l1) t.d1.1 t.d1.2
  have e : PE X (.Name n2 q3) _ := pe_var (i := 1) (by rw [eX]; rfl) (by rw [eX]; exact .inl t.l2) t.d2.1 t.d2.2
  refine ⟨_, eX ▸ pss_cons (ps_ost o e rfl) pss_nil, ?_⟩
  refine ⟨v, rfl, .ref a, rfl, a, C, rfl, by rw [show (cxOf (L2N.CX P w) P w K mg base [n1, n2] qual (defScope st) fI cdv A outer s H E).K = K from rfl]; exact T, hno, .inl ⟨ea, fun dx h1 h2 => q dx h1 h2⟩⟩

/-! ### isinstance of a caught one -/
theorem call_isD {X : Cx} {a D : Addr} {d : Option Addr} {oe : Obj} {pn : List (Addr × Obj)} (c : XcC X.K D) (hz : Zc (.ref D) d oe) (hf : ∃ fv, oe.data = .fields fv) :
    CallR (X.suite a ((a, oe) :: pn)) (.builtin "isinstance") (fun xs H Q => ∃ (C : Addr) (b : Bool), xs = [.ref a, .ref C] ∧ PySem.W.kitOne X.K (.ref D) (.ref C) = some b ∧ (d = none ∨ ∃ dd fs, d = some dd ∧ H dd = some (.xd fs)) ∧ Q (.bl b) H) := by
  intro pins s σ H xs us Q I r ⟨C, b, e, hk, hd, q⟩
  subst e
  match us, r with
  | [_, _], .cons rfl (.cons rfl .nil) =>
    obtain ⟨hget, _⟩ := I.pin (a, oe) (List.mem_append.2 (.inl (.head _)))
    obtain ⟨fv, hv⟩ := hf
    have J : ∃ od, PySem.W.InstAt s.heap a oe D od := by
      rcases hd with rfl | ⟨dd, fs, rfl, hx⟩
      · exact ⟨none, hget, hz.1, by unfold PySem.W.notCls; rw [hv] <;> rfl, by rw [hz.2] <;> trivial⟩
      · have hx2 : ObjOk X.prog X.w H s.heap dd (.xd fs) := I.hok dd _ hx
        obtain ⟨mA, hns, _⟩ := hx2
        obtain ⟨od, ho, _⟩ := lookIn_ns hns
        exact ⟨some od, hget, hz.1, by unfold PySem.W.notCls; rw [hv] <;> rfl, by rw [hz.2]; exact ho⟩
    obtain ⟨od, J⟩ := J
    exact PySem.W.kia_one (PySem.W.kitx_exc c.cls c.xf.ga c.xf.gg c.xf.exC c.ha c.hn c.ht c.hm) I.kIn J hk (fun z => nomatch z) fun tk => ⟨.bl b, H, I.kept (t' := tk) fun _ _ z => z, rfl, q⟩
end PD
end

section
set_option linter.all false
set_option maxRecDepth 100000
set_option maxHeartbeats 1000000
/-! PDexp: a rule for each form of expression. -/
namespace PD
open PySem L2

/-- what a def promises: what the evaluator says -/
def spOf (Γ : Gd) (f : Nat) : Sp := fun vs H Q E => ∃ μ S ds, RepS Γ.K μ H S ∧ RepVs Γ.K μ H ds vs ∧ Aft Γ E μ H (QV Γ Q) (Γ.F f ds S)

/-- within an except suite (hot), or not; the caught exception's name, its slot and its field's name -/
structure Md where
  hot : Bool := false
  en : Option (Str × Nat × Option Str) := none
/-- where one stands: the caught exception, if it has a name there -/
def SuCx (Γ : Gd) (X : Cx) (n : Str) (i : Nat) (fo : Option Str) : Prop :=
  ∃ (X0 : Cx) (a : Addr) (oe : Obj) (C : Addr) (d : Option Addr) (pn : List (Addr × Obj)) (F0 : Fn) (x : Exn) (fx : Option Str),
    X = X0.suite a ((a, oe) :: pn) ∧ Zc (.ref C) d oe ∧ (∃ fv, oe.data = .fields fv) ∧ XcC X.K C ∧ X.N[i]? = some n ∧ X.env.scope.names.lookup n = some .local ∧ (n == ("__debug__" : Str)) = false ∧ (n == ("__classdict__" : Str)) = false ∧
      Γ.F = xF F0 x ∧ Γ.xt x.cls = some (C, fx) ∧ (∀ f, fo = some f → fx = some f) ∧ (∀ f, fx = some f → PySem.W.findIn X.K (.ref C) f = some none) ∧
      ((x.fs = [] ∧ fx = none ∧ d = none ∧ Γ.cx = some (i, a, none)) ∨ ∃ f dd dv, x.fs = [dv] ∧ fx = some f ∧ d = some dd ∧ Γ.cx = some (i, a, some (dd, f, dv)))
/-- where one stands -/
structure Hold (Γ : Gd) (W : WX) (md : Md) (k : Nat) (X : Cx) : Prop where
  hK : Γ.K = X.K
  nd : X.N.Nodup
  calm : md.hot = false → X.calm = true
  room : md.hot = false → Room k X.A
  roomH : L2H.RoomH k X.A
  warm : md.hot = true → L2H.HotC X
  k2 : 2 ≤ k
  pass : ∀ σ, PassesAt (L2N.CX X.prog X.w) X σ (atS W σ)
  cx : md.hot = false → Γ.cx = none
  en0 : md.hot = false → md.en = none
  en : ∀ n i fo, md.en = some (n, i, fo) → SuCx Γ X n i fo
theorem Hold.units {Γ : Gd} {W : WX} {md : Md} {k : Nat} {X : Cx} (h : Hold Γ W md k X) : X.A.units + 65 < cLine := by have := h.roomH.un; omega

def nst : PySem.Expr → Bool
  | .Starred .. => false
  | _ => true
theorem star_of {e : PySem.Expr} {es : List PySem.Expr} {env : PySem.Env} (h : nst e = true) : starEach (e :: es) env = (false, eval e env) :: starEach es env := by
  cases e <;> first | rfl | cases h
theorem stars_of {env : PySem.Env} {pos : Pos} : ∀ {es : List PySem.Expr}, (∀ e ∈ es, nst e = true) → (backTo pos (starEach es env)).any (·.1) = false
  | [], _ => rfl
  | e :: es, h => by
    rw [star_of (h e List.mem_cons_self)]
    have := stars_of (env := env) (pos := pos) fun e' he => h e' (List.mem_cons_of_mem _ he)
    unfold backTo at this ⊢
    rw [List.map_cons, List.any_cons, this]; rfl

section
variable {Γ : Gd} {W : WX} {md : Md} {k : Nat} {X : Cx} {pos : Pos} {a b c : PySem.Expr} {ca cb cc : E}
theorem e_slot {i : Nat} {x : Str} (hN : X.N[i]? = some x) (hv : Vis X.env.scope x) (hd : (x == ("__debug__" : Str)) = false) (hcd : (x == ("__classdict__" : Str)) = false) : PE X (.Name x pos) (tE Γ W (.slot i)) :=
  (pe_var hN hv hd hcd).imp fun σ H Q ⟨μ, env, S, rs, re, h⟩ => by
    simp only [evE] at h
    split at h
    next d hd =>
      obtain ⟨v, hv, r⟩ := re.slot i d hd
      exact ⟨v, hv, h.now rs v r⟩
    · exact h.elim
theorem e_cst {d : D} {v : V} {e : PySem.Expr} (h0 : PE X e (tC v)) (hr : ∀ μ H, RepV Γ.K μ H d v) : PE X e (tE Γ W (.cst d)) :=
  h0.imp fun σ H Q ⟨μ, env, S, rs, re, h⟩ => h.now rs v (hr μ H)
theorem e_bin (hH : Hold Γ W md k X) {o : Operator} (ha : PE X a (tE Γ W ca)) (hb : PE X b (tE Γ W cb)) : PE X (.BinOp a o b pos) (tE Γ W (.bin o ca cb)) :=
  (pe_op (op_bin hH.hK o) ha hb).imp fun σ H Q ⟨μ, env, S, rs, re, h⟩ =>
    ⟨μ, env, S, rs, re, h.bind fun d S1 μ1 H1 e1 r1 h1 v rv => ⟨μ1, env, S1, r1, re.mono e1, h1.bind fun d2 S2 μ2 H2 e2 r2 h2 w rw => ⟨_, μ2, S2, d, d2, r2, rv.mono e2, rw, h2⟩⟩⟩
theorem e_un (hH : Hold Γ W md k X) {o : UnaryOp} (ha : PE X a (tE Γ W ca)) : PE X (.UnaryOp o a pos) (tE Γ W (.un o ca)) :=
  (pe_un (op_un hH.hK o) ha).imp fun σ H Q ⟨μ, env, S, rs, re, h⟩ => ⟨μ, env, S, rs, re, h.bind fun d S1 μ1 H1 e1 r1 h1 v rv => ⟨_, μ1, S1, d, r1, rv, h1⟩⟩
theorem e_cmp (hH : Hold Γ W md k X) {o : CmpOp} (ha : PE X a (tE Γ W ca)) (hb : PE X b (tE Γ W cb)) (hm : behindInMarks o b = false) : PE X (.Compare a [o] [b] pos) (tE Γ W (.cmp o ca cb)) :=
  (pe_cmpR (op_cmp hH.hK hH.units o) ha hb hm).imp fun σ H Q ⟨μ, env, S, rs, re, h⟩ =>
    ⟨μ, env, S, rs, re, h.bind fun d S1 μ1 H1 e1 r1 h1 v rv => ⟨μ1, env, S1, r1, re.mono e1, h1.bind fun d2 S2 μ2 H2 e2 r2 h2 w rw =>
      ⟨_, μ2, S2, d, d2, r2, rv.mono e2, rw, (Aft.map h2).imp fun b S' μ' H' _ _ q => q _ (.bl b)⟩⟩⟩
theorem t_cmp (hH : Hold Γ W md k X) {o : CmpOp} (ha : PE X a (tE Γ W ca)) (hb : PE X b (tE Γ W cb)) (hm : behindInMarks o b = false) : PT X (.Compare a [o] [b] pos) (tT Γ W (.cmp o ca cb)) :=
  (pt_cmpR (op_cmp hH.hK hH.units o) ha hb hm).imp fun σ H Q ⟨μ, env, S, rs, re, h⟩ =>
    ⟨μ, env, S, rs, re, h.bind fun d S1 μ1 H1 e1 r1 h1 v rv => ⟨μ1, env, S1, r1, re.mono e1, h1.bind fun d2 S2 μ2 H2 e2 r2 h2 w rw =>
      ⟨_, μ2, S2, d, d2, r2, rv.mono e2, rw, h2.imp fun b S' μ' H' _ _ q => ⟨b, rfl, q⟩⟩⟩⟩
theorem e_chn (hH : Hold Γ W md k X) {o p : CmpOp} (ha : PE X a (tE Γ W ca)) (hb : PE X b (tE Γ W cb)) (hc : PE X c (tE Γ W cc)) (hm : lastMarks [o, p] [b, c] = false) : PE X (.Compare a [o, p] [b, c] pos) (tE Γ W (.chn o p ca cb cc)) :=
  (pe_chain (op_cmp hH.hK hH.units o) (op_cmp hH.hK hH.units p) ha hb hc hm).imp fun σ H Q ⟨μ, env, S, rs, re, h⟩ =>
    ⟨μ, env, S, rs, re, h.bind fun d S1 μ1 H1 e1 r1 h1 v rv => ⟨μ1, env, S1, r1, re.mono e1, h1.bind fun d2 S2 μ2 H2 e2 r2 h2 w rw =>
      ⟨_, μ2, S2, d, d2, r2, rv.mono e2, rw, h2.bind fun b S3 μ3 H3 e3 r3 h3 => ⟨b, rfl, by
        cases b with
        | true =>
          simp only [if_true] at h3 ⊢
          exact ⟨μ3, env, S3, r3, re.mono ((e1.trans e2).trans e3), h3.bind fun d4 S4 μ4 H4 e4 r4 h4 z rz =>
            ⟨_, μ4, S4, d2, d4, r4, rw.mono (e3.trans e4), rz, (Aft.map h4).imp fun b' S' μ' H' _ _ q => q _ (.bl b')⟩⟩
        | false =>
          simp only [Bool.false_eq_true, if_false] at h3 ⊢
          exact h3.now r3 _ (.bl false)⟩⟩⟩⟩
theorem t_chn (hH : Hold Γ W md k X) {o p : CmpOp} (ha : PE X a (tE Γ W ca)) (hb : PE X b (tE Γ W cb)) (hc : PE X c (tE Γ W cc)) (hm : lastMarks [o, p] [b, c] = false) : PT X (.Compare a [o, p] [b, c] pos) (tT Γ W (.chn o p ca cb cc)) :=
  (pt_chain (op_cmp hH.hK hH.units o) (op_cmp hH.hK hH.units p) ha hb hc hm).imp fun σ H Q ⟨μ, env, S, rs, re, h⟩ =>
    ⟨μ, env, S, rs, re, h.bind fun d S1 μ1 H1 e1 r1 h1 v rv => ⟨μ1, env, S1, r1, re.mono e1, h1.bind fun d2 S2 μ2 H2 e2 r2 h2 w rw =>
      ⟨_, μ2, S2, d, d2, r2, rv.mono e2, rw, h2.bind fun b S3 μ3 H3 e3 r3 h3 => ⟨b, rfl, by
        cases b with
        | true =>
          simp only [if_true] at h3 ⊢
          exact ⟨μ3, env, S3, r3, re.mono ((e1.trans e2).trans e3), h3.bind fun d4 S4 μ4 H4 e4 r4 h4 z rz =>
            ⟨_, μ4, S4, d2, d4, r4, rw.mono (e3.trans e4), rz, h4.imp fun b' S' μ' H' _ _ q => ⟨b', rfl, q⟩⟩⟩
        | false =>
          simp only [Bool.false_eq_true, if_false] at h3 ⊢
          exact ⟨false, rfl, h3.now r3⟩⟩⟩⟩⟩
theorem e_not (ha : PE X a (tE Γ W ca)) : PE X (.UnaryOp .Not a pos) (tE Γ W (.not ca)) :=
  (pe_not ha).imp fun σ H Q ⟨μ, env, S, rs, re, h⟩ => ⟨μ, env, S, rs, re, h.bind fun d S1 μ1 H1 e1 r1 h1 v rv => by
    split at h1
    · cases rv; exact ⟨_, rfl, h1.now r1 _ (.bl _)⟩
    · exact h1.elim⟩
theorem t_not (ha : PT X a (tT Γ W ca)) : PT X (.UnaryOp .Not a pos) (tT Γ W (.not ca)) :=
  (pt_not ha).imp fun σ H Q ⟨μ, env, S, rs, re, h⟩ => ⟨μ, env, S, rs, re, Aft.map h⟩
theorem e_ife (hc : PT X c (tT Γ W cc)) (ha : PE X a (tE Γ W ca)) (hb : PE X b (tE Γ W cb)) : PE X (.IfExp c a b pos) (tE Γ W (.ife cc ca cb)) :=
  (pe_ifExp hc ha hb).imp fun σ H Q ⟨μ, env, S, rs, re, h⟩ => ⟨μ, env, S, rs, re, h.bind fun d S1 μ1 H1 e1 r1 h1 => by
    cases d with
    | true => exact ⟨μ1, env, S1, r1, re.mono e1, h1⟩
    | false => exact ⟨μ1, env, S1, r1, re.mono e1, h1⟩⟩
/-- a test that is a value's truth -/
theorem t_val (hH : Hold Γ W md k X) (ha : PE X a (tE Γ W ca)) (he : ∀ whole, isTrue a X.env whole = (do let v ← whole; standAt a.pos; holding [v] (truthy v)))
    (hev : ∀ env S, evT Γ.F env ca S = (evE Γ.F env ca S).bind fun x S => opTru x S) : PT X a (tT Γ W ca) :=
  (pt_truth ha he).imp fun σ H Q ⟨μ, env, S, rs, re, h⟩ => ⟨μ, env, S, rs, re, (hev env S ▸ h).bind fun d S1 μ1 H1 e1 r1 h1 v rv => tru_of r1 rv h1⟩

/-! and, or -/
theorem e_and1 {rest : List PySem.Expr} (ha : PE X a (tE Γ W ca)) (hb : PE X (.BoolOp .And (b :: rest) pos) (tE Γ W cb)) : PE X (.BoolOp .And (a :: b :: rest) pos) (tE Γ W (.and ca cb)) :=
  (pe_and ha hb).imp fun σ H Q ⟨μ, env, S, rs, re, h⟩ => ⟨μ, env, S, rs, re, h.bind fun d S1 μ1 H1 e1 r1 h1 v rv => by
    split at h1
    · cases rv; exact ⟨true, rfl, μ1, env, S1, r1, re.mono e1, h1⟩
    · cases rv; exact ⟨false, rfl, h1.now r1 _ (.bl _)⟩
    · exact h1.elim⟩
theorem e_or1 {rest : List PySem.Expr} (ha : PE X a (tE Γ W ca)) (hb : PE X (.BoolOp .Or (b :: rest) pos) (tE Γ W cb)) : PE X (.BoolOp .Or (a :: b :: rest) pos) (tE Γ W (.or ca cb)) :=
  (pe_or ha hb).imp fun σ H Q ⟨μ, env, S, rs, re, h⟩ => ⟨μ, env, S, rs, re, h.bind fun d S1 μ1 H1 e1 r1 h1 v rv => by
    split at h1
    · cases rv; exact ⟨true, rfl, h1.now r1 _ (.bl _)⟩
    · cases rv; exact ⟨false, rfl, μ1, env, S1, r1, re.mono e1, h1⟩
    · exact h1.elim⟩
theorem w_and1 {rest : List PySem.Expr} (ha : PT X a (tT Γ W ca)) (hb : PW X (.BoolOp .And (b :: rest) pos) (tT Γ W cb)) : PW X (.BoolOp .And (a :: b :: rest) pos) (tT Γ W (.and ca cb)) :=
  (pw_and ha hb).imp fun σ H Q ⟨μ, env, S, rs, re, h⟩ => ⟨μ, env, S, rs, re, h.bind fun d S1 μ1 H1 e1 r1 h1 => by
    cases d with
    | true => exact ⟨μ1, env, S1, r1, re.mono e1, h1⟩
    | false => exact h1.now r1⟩
theorem w_or1 {rest : List PySem.Expr} (ha : PT X a (tT Γ W ca)) (hb : PW X (.BoolOp .Or (b :: rest) pos) (tT Γ W cb)) : PW X (.BoolOp .Or (a :: b :: rest) pos) (tT Γ W (.or ca cb)) :=
  (pw_or ha hb).imp fun σ H Q ⟨μ, env, S, rs, re, h⟩ => ⟨μ, env, S, rs, re, h.bind fun d S1 μ1 H1 e1 r1 h1 => by
    cases d with
    | true => exact h1.now r1
    | false => exact ⟨μ1, env, S1, r1, re.mono e1, h1⟩⟩

/-! arguments -/
theorem a_nil : PA X [] (tEs Γ W .nil) := PA.imp pa_nil fun σ H Q ⟨μ, env, S, rs, re, h⟩ => h.now rs [] .nil
theorem a_cons {es : List PySem.Expr} {ces : Es} (hs : nst a = true) (ha : PE X a (tE Γ W ca)) (hr : PA X es (tEs Γ W ces)) : PA X (a :: es) (tEs Γ W (.cons ca ces)) :=
  PA.imp (pa_cons ha hr (star_of hs)) fun σ H Q ⟨μ, env, S, rs, re, h⟩ => ⟨μ, env, S, rs, re, h.bind fun d S1 μ1 H1 e1 r1 h1 v rv =>
    ⟨μ1, env, S1, r1, re.mono e1, h1.bind fun ds S2 μ2 H2 e2 r2 h2 vs rvs => h2.now r2 _ (.cons (rv.mono e2) rvs)⟩⟩
theorem a_star {es : List PySem.Expr} {ces : Es} {p : Pos} (hH : Hold Γ W md k X) (ha : PE X a (tE Γ W ca)) (hr : PA X es (tEs Γ W ces)) : PA X (.Starred a p :: es) (tEs Γ W (.star ca ces)) :=
  PA.imp (StX.pa_star ha hr) fun σ H Q ⟨μ, env, S, rs, re, h⟩ => ⟨μ, env, S, rs, re, h.bind fun d S1 μ1 H1 e1 r1 h1 v rv => by
    split at h1
    next ds hd =>
      obtain ⟨q, vs, rfl, hq, rvs0, _, _⟩ := items_of r1 rv hd
      exact ⟨q, vs, rfl, hH.hK ▸ hq.symm, μ1, env, S1, r1, re.mono e1, h1.bind fun ds2 S2 μ2 H2 e2 r2 h2 vs2 rvs => h2.now r2 _ ((rvs0.mono e2).append rvs)⟩
    · exact h1.elim⟩
theorem e_tup {es : List PySem.Expr} {ces : Es} {x1 : Nat} (h : PA X es (tEs Γ W ces)) : PE X (.Tuple es x1 pos) (tE Γ W (.tup ces)) :=
  (pe_tup h).imp fun σ H Q ⟨μ, env, S, rs, re, h⟩ => ⟨μ, env, S, rs, re, h.bind fun ds S1 μ1 H1 e1 r1 h1 vs rvs => by
    split at h1
    next hl => exact ⟨by rw [← rvs.length]; exact hl, fun p hp => qv_tup h1 r1 rvs hp⟩
    · exact h1.elim⟩
theorem e_lst {es : List PySem.Expr} {ces : Es} (h : PA X es (tEs Γ W ces)) : PE X (.List es pos) (tE Γ W (.lst ces)) :=
  (pe_lst h).imp fun σ H Q ⟨μ, env, S, rs, re, h⟩ => ⟨μ, env, S, rs, re, h.bind fun ds S1 μ1 H1 e1 r1 h1 vs rvs => by
    split at h1
    next hl => exact ⟨by rw [← rvs.length]; exact hl, fun p hp => qv_lst h1 r1 rvs hp⟩
    · exact h1.elim⟩

/-! calls -/
theorem call_fin {f : Nat} {ces : Es} (σ : L2.St) (H : Hp) (Q : VK) : tE Γ W (.call f ces) σ H Q → tCallS (spOf Γ f) (fun σ => atS W σ) (tEs Γ W ces) σ H Q := fun ⟨μ, env, S, rs, re, h⟩ =>
  ⟨μ, env, S, rs, re, h.bind fun ds S1 μ1 H1 e1 r1 h1 vs rvs => ⟨μ1, S1, ds, r1, rvs, h1⟩⟩
/-- hot defs stand under numbers of their own -/
def hotOff : Nat := 100000
def fid (md : Md) (f : Nat) : Nat := if md.hot then f + hotOff else f
/-- a def, called where nothing is handled, or within an except suite -/
def FnG (hot : Bool) (P : Program) (w : World) (K : PySem.W.Frag) (mg : Str → Option Value) (base : Heap) (k : Nat) (ad : Addr) (fd : FuncData) (ps : List Str) (sp : Sp) : Prop :=
  (hot = false → FnOk P w K mg base (L2N.CX P w) k ad fd ps sp) ∧ (hot = true → L2H.FnH P w K mg base (L2N.CX P w) k ad fd ps sp)
theorem e_call (hH : Hold Γ W md k X) {x : Str} {f : Nat} {ad : Addr} {fd : FuncData} {ps : List Str} {e : PySem.Expr} {es : List PySem.Expr} {ces : Es} {p : Pos} (G : FnG md.hot X.prog X.w X.K X.mg X.base k ad fd ps (spOf Γ f)) (hg : Gl X x)
    (hm : X.mg x = some (.ref ad)) (hk : PySem.W.keepIn X.K (.ref ad) = true) (hb : Binds X.K fd ps []) (hd : (x == ("__debug__" : Str)) = false) (hs : ∀ e' ∈ e :: es, nst e' = true) (ha : PA X (e :: es) (tEs Γ W ces)) :
    PE X (.Call (.Name x p) (e :: es) [] pos) (tE Γ W (.call f ces)) := by
  have s1 := star_of (env := X.env) (es := es) (hs e List.mem_cons_self)
  have s2 := stars_of (env := X.env) (pos := pos) fun e' he => hs e' (List.mem_cons_of_mem _ he)
  cases h : md.hot with
  | false => exact (pe_callS (G.1 h) (hH.room h) hg hm hk hb hH.pass ha hd s1 s2).imp call_fin
  | true => exact (L2H.pe_callH (G.2 h) hH.roomH (hH.warm h) hg hm hk hb hH.pass ha hd s1 s2).imp call_fin
theorem e_call0 (hH : Hold Γ W md k X) {x : Str} {f : Nat} {ad : Addr} {fd : FuncData} {ps : List Str} {p : Pos} (G : FnG md.hot X.prog X.w X.K X.mg X.base k ad fd ps (spOf Γ f)) (hg : Gl X x)
    (hm : X.mg x = some (.ref ad)) (hk : PySem.W.keepIn X.K (.ref ad) = true) (hb : Binds X.K fd ps []) (hd : (x == ("__debug__" : Str)) = false) : PE X (.Call (.Name x p) [] [] pos) (tE Γ W (.call f .nil)) := by
  refine ⟨fun pins s σ H Q I ⟨μ, env, S, rs, re, h⟩ => ?_⟩
  cases q : md.hot with
  | false => exact wpAny_Call_Name_kw (ld_glob I hg hm (PySem.W.callWith_K0 I.kIn hk (run_fnS (G.1 q) (hH.room q) hb (hH.pass σ) I .nil ⟨μ, S, [], rs, .nil, h⟩)) hd)
  | true => exact wpAny_Call_Name_kw (ld_glob I hg hm (PySem.W.callWith_K0 I.kIn hk (L2H.run_fnH (G.2 q) hH.roomH (hH.warm q) hb (hH.pass σ) I .nil ⟨μ, S, [], rs, .nil, h⟩)) hd)
theorem any_has : ∀ (cs : List Nat) (x : Nat), ((cs.map fun (c : Nat) => D.int c).any fun d => D.eqb d (.int x)) = cs.contains x
  | [], x => rfl
  | c :: cs, x => by
    simp only [List.map_cons, List.any_cons, List.contains_cons, any_has cs x]
    have : D.eqb (.int c) (.int x) = (x == c) := by
      simp only [D.eqb]
      by_cases z : x = c
      · simp [z]
      · have z2 : ¬ ((c : Int) = (x : Int)) := fun q => z (by omega)
        have e1 : ((c : Int) == (x : Int)) = false := by simpa using z2
        have e2 : (x == c) = false := by simpa using z
        rw [e1, e2]
    rw [this]
/-- the caught exception, by its name -/
theorem pe_en {n : Str} {i : Nat} {fo : Option Str} {p : Pos} (hs : SuCx Γ X n i fo) : ∃ (X0 : Cx) (a : Addr) (oe : Obj) (C : Addr) (d : Option Addr) (pn : List (Addr × Obj)) (F0 : Fn) (x : Exn) (fx : Option Str),
    X = X0.suite a ((a, oe) :: pn) ∧ Zc (.ref C) d oe ∧ (∃ fv, oe.data = .fields fv) ∧ XcC X.K C ∧ Γ.F = xF F0 x ∧ Γ.xt x.cls = some (C, fx) ∧ (∀ f, fo = some f → fx = some f) ∧ (∀ f, fx = some f → PySem.W.findIn X.K (.ref C) f = some none) ∧
      PE X (.Name n p) (fun σ H Q => (∃ μ env S, RepS Γ.K μ H S ∧ RepE Γ μ H σ env ∧ env[i]? = some none ∧ Q (.ref a) H)) ∧
      ∀ {μ H σ env}, RepE Γ μ H σ env → (x.fs = [] ∧ fx = none ∧ d = none) ∨ ∃ f dd dv v, x.fs = [dv] ∧ fx = some f ∧ d = some dd ∧ H dd = some (.xd [(f, v)]) ∧ RepV Γ.K μ H dv v := by
  obtain ⟨X0, a, oe, C, d, pn, F0, x, fx, e1, e2, e3, e4, e5, e6, e7, e8, e9, e10, e11, e12, e13⟩ := hs
  refine ⟨X0, a, oe, C, d, pn, F0, x, fx, e1, e2, e3, e4, e9, e10, e11, e12, (pe_var e5 (.inl e6) e7 e8).imp fun σ H Q ⟨μ, env, S, rs, re, h0, q⟩ => ?_, fun {μ H σ env} re => ?_⟩
  · have c := re.cur
    unfold CurOk at c
    rcases e13 with ⟨_, _, _, g⟩ | ⟨f, dd, dv, _, _, _, g⟩
    · rw [g] at c; exact ⟨_, c.1 h0, q⟩
    · rw [g] at c; exact ⟨_, c.1 h0, q⟩
  · have c := re.cur
    unfold CurOk at c
    rcases e13 with ⟨h1, h2, h3, _⟩ | ⟨f, dd, dv, h1, h2, h3, g⟩
    · exact .inl ⟨h1, h2, h3⟩
    · rw [g] at c
      obtain ⟨v, g1, g2, g3⟩ := c.2
      exact .inr ⟨f, dd, dv, v, h1, h2, h3, g1, g3⟩
theorem e_xf (hH : Hold Γ W md k X) {n f : Str} {i : Nat} {p : Pos} (hs : SuCx Γ X n i (some f)) (hb : attributeBase (.Name n p) f X.env (eval (.Name n p) X.env) = eval (.Name n p) X.env) : PE X (.Attribute (.Name n p) f pos) (tE Γ W (.xf i)) := by
  obtain ⟨X0, a, oe, C, d, pn, F0, x, fx, rfl, e2, e3, e4, e9, e10, e11, e12, hn, cur⟩ := pe_en (p := p) hs
  have hf := e11 f rfl
  refine (pe_xf (pos := pos) e4.xf (e12 f hf) e2 e3 hn hb).imp fun σ H Q ⟨μ, env, S, rs, re, h⟩ => ?_
  simp only [evE] at h
  split at h
  next h0 =>
    refine ⟨μ, env, S, rs, re, h0, rfl, rfl, ?_⟩
    rw [e9] at h
    rcases cur re with ⟨h1, h2, _⟩ | ⟨f', dd, dv, v, h1, h2, h3, h4, h5⟩
    · rw [h2] at hf; cases hf
    · rw [h2] at hf; cases hf
      simp only [xF, if_true, h1] at h
      exact ⟨dd, _, v, h3, h4, by simp [List.lookup], h.now rs v h5⟩
  · exact h.elim
theorem e_xi (hH : Hold Γ W md k X) {n y : Str} {i : Nat} {fo : Option Str} {p q r : Pos} {cs : List Nat} {C : Addr} (hs : SuCx Γ X n i fo) (hg : Gl X "isinstance") (hm : X.mg "isinstance" = none) (hg2 : Gl X y) (hm2 : X.mg y = some (.ref C)) (hd : (y == ("__debug__" : Str)) = false)
    (hk : ∀ c' C' fo', Γ.xt c' = some (C', fo') → PySem.W.kitOne X.K (.ref C') (.ref C) = some (cs.contains c')) : PE X (.Call (.Name "isinstance" p) [.Name n q, .Name y r] [] pos) (tE Γ W (.xi i cs)) := by
  obtain ⟨X0, a, oe, C0, d, pn, F0, x, fx, rfl, e2, e3, e4, e9, e10, e11, e12, hn, cur⟩ := pe_en (p := q) hs
  have hy : PE (X0.suite a ((a, oe) :: pn)) (.Name y r) (tC (.ref C)) := pe_glob hg2 hm2 rfl hd
  refine (pe_callB (call_isD e4 e2 e3) hg hm (by decide +kernel) (pa_cons hn (pa_cons hy pa_nil)) (by decide) (by decide) rfl rfl).imp fun σ H Q ⟨μ, env, S, rs, re, h⟩ => ?_
  simp only [evE] at h
  split at h
  next h0 =>
    rw [e9] at h
    have h' : Aft Γ (atS W σ) μ H (fun d _ μ' H' => ∀ v, RepV Γ.K μ' H' d v → Q v H') (.ok (.bl (cs.contains x.cls)) S) := by
      have e : xF F0 x xiId [.tup (cs.map fun (c : Nat) => .int c)] S = .ok (.bl (cs.contains x.cls)) S := by
        have ne : xiId ≠ xfId := by decide
        simp only [xF, if_neg ne, if_true]
        rw [any_has]
      rwa [e] at h
    refine ⟨μ, env, S, rs, re, h0, C, cs.contains x.cls, rfl, hk _ _ _ e10, ?_, h'.now rs _ (.bl _)⟩
    rcases cur re with ⟨_, _, h3⟩ | ⟨f', dd, dv, v, h1, h2, h3, h4, h5⟩
    · exact .inl h3
    · exact .inr ⟨dd, _, h3, h4⟩
  · exact h.elim
theorem e_blt {x : Str} {b : Blt} {e : PySem.Expr} {es : List PySem.Expr} {ces : Es} {p : Pos} (hH : Hold Γ W md k X) (hc : md.hot = true → bltC b = false) (hg : Gl X x) (hm : X.mg x = none) (hv : bootBuiltins x = some (bltV b)) (hn : x ≠ "__name__") (hd : (x == ("__debug__" : Str)) = false)
    (hs : ∀ e' ∈ e :: es, nst e' = true) (ha : PA X (e :: es) (tEs Γ W ces)) : PE X (.Call (.Name x p) (e :: es) [] pos) (tE Γ W (.blt b ces)) := by
  have h := op_blt (Γ := Γ) (X := X) hH.hK b fun z => hH.calm (by
    cases q : md.hot with
    | false => rfl
    | true => rw [hc q] at z; cases z)
  have s1 := star_of (env := X.env) (es := es) (hs e List.mem_cons_self)
  have s2 := stars_of (env := X.env) (pos := pos) fun e' he => hs e' (List.mem_cons_of_mem _ he)
  have fin : ∀ σ H Q, tE Γ W (.blt b ces) σ H Q → tCB (rBlt Γ (opBlt b)) (tEs Γ W ces) σ H Q := fun σ H Q ⟨μ, env, S, rs, re, h⟩ =>
    ⟨μ, env, S, rs, re, h.bind fun ds S1 μ1 H1 e1 r1 h1 vs rvs => ⟨_, μ1, S1, ds, r1, rvs, h1⟩⟩
  cases b with
  | len => exact (pe_callB h hg hm hv ha hn hd s1 s2).imp fin
  | abs => exact (pe_callB h hg hm hv ha hn hd s1 s2).imp fin
  | all => exact (pe_callB h hg hm hv ha hn hd s1 s2).imp fin
  | any => exact (pe_callB h hg hm hv ha hn hd s1 s2).imp fin
  | sum => exact (pe_callB h hg hm hv ha hn hd s1 s2).imp fin
  | max => exact (pe_callB h hg hm hv ha hn hd s1 s2).imp fin
  | min => exact (pe_callB h hg hm hv ha hn hd s1 s2).imp fin
  | sorted => exact (pe_callB h hg hm hv ha hn hd s1 s2).imp fin
  | gcd => exact (pe_callB h hg hm hv ha hn hd s1 s2).imp fin
  | int => exact (pe_callTy h hg hm hv ha hn hd s1 s2).imp fin
  | str => exact (pe_callTy h hg hm hv ha hn hd s1 s2).imp fin
  | tuple => exact (pe_callTy h hg hm hv ha hn hd s1 s2).imp fin
  | list => exact (pe_callTy h hg hm hv ha hn hd s1 s2).imp fin
/-- a built-in function under a name of the module -/
theorem e_bfn {x : Str} {e : PySem.Expr} {es : List PySem.Expr} {ces : Es} {p : Pos} (hH : Hold Γ W md k X) (hg : Gl X x) (hm : X.mg x = some (.builtin "math.gcd")) (hd : (x == ("__debug__" : Str)) = false)
    (hs : ∀ e' ∈ e :: es, nst e' = true) (ha : PA X (e :: es) (tEs Γ W ces)) : PE X (.Call (.Name x p) (e :: es) [] pos) (tE Γ W (.blt .gcd ces)) :=
  (pe_callBfun (op_blt (Γ := Γ) (X := X) hH.hK .gcd fun z => nomatch z) hg hm ha hd (star_of (hs e List.mem_cons_self)) (stars_of fun e' he => hs e' (List.mem_cons_of_mem _ he))).imp fun σ H Q ⟨μ, env, S, rs, re, h⟩ =>
    ⟨μ, env, S, rs, re, h.bind fun ds S1 μ1 H1 e1 r1 h1 vs rvs => ⟨_, μ1, S1, ds, r1, rvs, h1⟩⟩
theorem e_isi {t : Ty} {y : Str} {p q : Pos} (hH : Hold Γ W md k X) (hg : Gl X "isinstance") (hm : X.mg "isinstance" = none) (hg2 : Gl X y) (hm2 : X.mg y = none) (hv2 : bootBuiltins y = some (.type (tyN t))) (hn : y ≠ "__name__") (hd : (y == ("__debug__" : Str)) = false)
    (hs : nst a = true) (ha : PE X a (tE Γ W ca)) : PE X (.Call (.Name "isinstance" p) [a, .Name y q] [] pos) (tE Γ W (.isi ca t)) := by
  have hy : PE X (.Name y q) (tC (.ty (tyN t))) := pe_bltn hg2 hm2 hv2 rfl hn hd
  refine (pe_callB call_isi hg hm (by decide +kernel) (pa_cons ha (pa_cons hy pa_nil) (star_of hs)) (by decide) (by decide) (star_of hs) rfl).imp fun σ H Q ⟨μ, env, S, rs, re, h⟩ => ?_
  refine ⟨μ, env, S, rs, re, h.bind fun d S1 μ1 H1 e1 r1 h1 v rv => ?_⟩
  split at h1
  next b hb =>
    obtain ⟨w, tw, kw⟩ := op_isi hH.hK r1 rv hb
    exact ⟨v, .ty (tyN t), w, _, b, rfl, .ty _, tw, kw, h1.now r1 _ (.bl b)⟩
  · exact h1.elim

/-! methods -/
theorem few_of {env : PySem.Env} {pos : Pos} {es : List PySem.Expr} (h : ∀ e ∈ es, nst e = true) (hl : es.length < 29) :
    ((backTo pos (starEach es env)).all (fun x => !x.1) && (backToKw pos (keywordEach [] env)).all (fun x => x.1.isSome) && decide (es.length + ([] : List Keyword).length + (if ([] : List Keyword).isEmpty then 0 else 1) < 30)) = true := by
  have h1 := stars_of (env := env) (pos := pos) h
  have h2 : (backTo pos (starEach es env)).all (fun x => !x.1) = true := by
    rw [List.all_eq_not_any_not]; simp [h1]
  rw [h2]
  simp [keywordEach, backToKw]
  omega
theorem mth_fin {m : Mth} {ces : Es} (hH : Hold Γ W md k X) (σ : L2.St) (H : Hp) (Q : VK) : tE Γ W (.mth m ca ces) σ H Q → tBM X.K (mthT m) (rMth Γ (opMth m)) (tE Γ W ca) (tEs Γ W ces) σ H Q := fun ⟨μ, env, S, rs, re, h⟩ =>
  ⟨μ, env, S, rs, re, h.bind fun d S1 μ1 H1 e1 r1 h1 v rv => by
    split at h1
    next hr => exact ⟨mth_ty hH.hK r1 rv hr, μ1, env, S1, r1, re.mono e1, h1.bind fun ds S2 μ2 H2 e2 r2 h2 vs rvs => ⟨_, μ2, S2, d, ds, r2, rv.mono e2, rvs, h2⟩⟩
    · exact h1.elim⟩
theorem e_mth {m : Mth} {e : PySem.Expr} {es : List PySem.Expr} {ces : Es} {apos : Pos} (hH : Hold Γ W md k X) (hbase : attributeBase a (mthN m) X.env (eval a X.env) = eval a X.env) (hline : (apos.endLine == pos.line) = true)
    (hs : ∀ e' ∈ e :: es, nst e' = true) (hl : (e :: es).length < 29) (ha : PE X a (tE Γ W ca)) (hA : PA X (e :: es) (tEs Γ W ces)) : PE X (.Call (.Attribute a (mthN m) apos) (e :: es) [] pos) (tE Γ W (.mth m ca ces)) := by
  have h := op_mth (Γ := Γ) (X := X) hH.hK m
  have s1 := star_of (env := X.env) (es := es) (hs e List.mem_cons_self)
  have s2 := stars_of (env := X.env) (pos := pos) fun e' he => hs e' (List.mem_cons_of_mem _ he)
  have s3 := few_of (env := X.env) (pos := pos) hs hl
  cases m with
  | append => exact (pe_bm PySem.F.plainAttrs_list PySem.F.slot_list_append PySem.F.type_list_append h ha hA hbase s3 hline s1 s2).imp (mth_fin hH)
  | pop => exact (pe_bm PySem.F.plainAttrs_list PySem.F.slot_list_pop PySem.F.type_list_pop h ha hA hbase s3 hline s1 s2).imp (mth_fin hH)
  | extend => exact (pe_bm PySem.F.plainAttrs_list PySem.F.slot_list_extend PySem.F.type_list_extend h ha hA hbase s3 hline s1 s2).imp (mth_fin hH)
  | join => exact (pe_bm PySem.F.plainAttrs_str PySem.F.slot_str_join PySem.F.type_str_join h ha hA hbase s3 hline s1 s2).imp (mth_fin hH)
  | split => exact (pe_bm PySem.F.plainAttrs_str PySem.F.slot_str_split PySem.F.type_str_split h ha hA hbase s3 hline s1 s2).imp (mth_fin hH)
  | partition => exact (pe_bm PySem.F.plainAttrs_str PySem.F.slot_str_partition PySem.F.type_str_partition h ha hA hbase s3 hline s1 s2).imp (mth_fin hH)
  | startswith => exact (pe_bm PySem.F.plainAttrs_str PySem.F.slot_str_startswith PySem.F.type_str_startswith h ha hA hbase s3 hline s1 s2).imp (mth_fin hH)
  | update => exact (pe_bm PySem.F.plainAttrs_dict PySem.F.slot_dict_update PySem.F.type_dict_update h ha hA hbase s3 hline s1 s2).imp (mth_fin hH)
theorem mth_fin0 {m : Mth} (hH : Hold Γ W md k X) (σ : L2.St) (H : Hp) (Q : VK) : tE Γ W (.mth m ca .nil) σ H Q → tBM0 X.K (mthT m) (rMth Γ (opMth m)) (tE Γ W ca) σ H Q := fun ⟨μ, env, S, rs, re, h⟩ =>
  ⟨μ, env, S, rs, re, h.bind fun d S1 μ1 H1 e1 r1 h1 v rv => by
    split at h1
    next hr => exact ⟨mth_ty hH.hK r1 rv hr, _, μ1, S1, d, [], r1, rv, .nil, h1⟩
    · exact h1.elim⟩
theorem e_mth0 {m : Mth} {apos : Pos} (hH : Hold Γ W md k X) (hbase : attributeBase a (mthN m) X.env (eval a X.env) = eval a X.env) (hline : (apos.endLine == pos.line) = true) (ha : PE X a (tE Γ W ca)) : PE X (.Call (.Attribute a (mthN m) apos) [] [] pos) (tE Γ W (.mth m ca .nil)) := by
  have h := op_mth (Γ := Γ) (X := X) hH.hK m
  cases m with
  | append => exact (pe_bm0 PySem.F.plainAttrs_list PySem.F.slot_list_append PySem.F.type_list_append h ha hbase hline).imp (mth_fin0 hH)
  | pop => exact (pe_bm0 PySem.F.plainAttrs_list PySem.F.slot_list_pop PySem.F.type_list_pop h ha hbase hline).imp (mth_fin0 hH)
  | extend => exact (pe_bm0 PySem.F.plainAttrs_list PySem.F.slot_list_extend PySem.F.type_list_extend h ha hbase hline).imp (mth_fin0 hH)
  | join => exact (pe_bm0 PySem.F.plainAttrs_str PySem.F.slot_str_join PySem.F.type_str_join h ha hbase hline).imp (mth_fin0 hH)
  | split => exact (pe_bm0 PySem.F.plainAttrs_str PySem.F.slot_str_split PySem.F.type_str_split h ha hbase hline).imp (mth_fin0 hH)
  | partition => exact (pe_bm0 PySem.F.plainAttrs_str PySem.F.slot_str_partition PySem.F.type_str_partition h ha hbase hline).imp (mth_fin0 hH)
  | startswith => exact (pe_bm0 PySem.F.plainAttrs_str PySem.F.slot_str_startswith PySem.F.type_str_startswith h ha hbase hline).imp (mth_fin0 hH)
  | update => exact (pe_bm0 PySem.F.plainAttrs_dict PySem.F.slot_dict_update PySem.F.type_dict_update h ha hbase hline).imp (mth_fin0 hH)

/-! subscripts -/
theorem _root_.L2.PE.or {e : PySem.Expr} {t t' : TE} (h : PE X e t) (h' : PE X e t') : PE X e (fun σ H Q => t σ H Q ∨ t' σ H Q) := ⟨fun pins s σ H Q I q => q.elim (h.run pins s σ H Q I) (h'.run pins s σ H Q I)⟩
theorem e_ix (hH : Hold Γ W md k X) (ha : PE X a (tE Γ W ca)) (hb : PE X b (tE Γ W cb)) (hs : PlainIx b) : PE X (.Subscript a b pos) (tE Γ W (.ix ca cb)) :=
  ((pe_ix (op_ix hH.hK) ha hb hs).or (pe_dget (by have := hH.units; omega) ha hb hs)).imp fun σ H Q ⟨μ, env, S, rs, re, h⟩ => by
    cases hE : evE Γ.F env ca S with
    | stuck => simp only [evE, hE] at h; exact h.elim
    | exc x S1 =>
      simp only [evE, hE] at h
      exact .inl ⟨μ, env, S, rs, re, by rw [hE]; exact h⟩
    | ok d S1 =>
      cases hE2 : evE Γ.F env cb S1 with
      | stuck => simp only [evE, hE, hE2, R.bind_ok] at h; exact h.elim
      | exc x S2 =>
        simp only [evE, hE, hE2, R.bind_ok] at h
        refine .inl ⟨μ, env, S, rs, re, ?_⟩
        rw [hE]
        exact fun μ1 H1 e1 r1 v rv => ⟨μ1, env, S1, r1, re.mono e1, by rw [hE2]; exact Aft.mono h e1⟩
      | ok d2 S2 =>
        simp only [evE, hE, hE2, R.bind_ok, opIx] at h
        split at h
        next kvs hd =>
          split at h
          next k hk =>
            split at h
            next dv hv =>
              refine .inr ⟨μ, env, S, rs, re, ?_⟩
              rw [hE]
              refine fun μ1 H1 e1 r1 v rv => ⟨μ1, env, S1, r1, re.mono e1, ?_⟩
              rw [hE2]
              intro μ2 H2 e2 r2 w rw'
              obtain ⟨a, vs, rfl, g2, g3⟩ := dic_of r2 (rv.mono e2) hd
              have ey := key_of rw' hk
              subst ey
              rcases g3.val (k := k) with ⟨q1, q2⟩ | ⟨d3, w3, q1, q2, q3⟩
              · rw [q1] at hv; cases hv
              · rw [q1] at hv; cases hv
                exact ⟨a, w3, rfl, q2 ▸ DGet.k g2, (Aft.mono h (e1.trans e2)).now r2 _ q3⟩
            · exact h.elim
          · exact h.elim
        · refine .inl ⟨μ, env, S, rs, re, ?_⟩
          rw [hE]
          refine fun μ1 H1 e1 r1 v rv => ⟨μ1, env, S1, r1, re.mono e1, ?_⟩
          rw [hE2]
          exact fun μ2 H2 e2 r2 w rw' => ⟨_, μ2, S2, d, d2, r2, rv.mono e2, rw', Aft.mono h (e1.trans e2)⟩
theorem e_dnew : PE X (.Dict [] [] pos) (tE Γ W .dnew) := pe_dnewK.imp fun σ H Q ⟨μ, env, S, rs, re, h⟩ p hp =>
  h (μ ++ [p]) (upd H p (.dK [])) (Ext.newCell hp) (rs.newDic hp) _ (.ref rs.newRef)
theorem _root_.L2.PO.imp {e : Option PySem.Expr} {t t' : TO} (h : PO X e t) (k : ∀ σ H Q, t' σ H Q → t σ H Q) : PO X e t' := ⟨fun pins s σ H Q I q => h.run pins s σ H Q I (k σ H Q q)⟩
theorem o_no : PO X none (tO Γ W .no) := po_none.imp fun σ H Q ⟨μ, env, S, rs, re, h⟩ => h.now rs
theorem o_so (ha : PE X a (tE Γ W ca)) : PO X (some a) (tO Γ W (.so ca)) := (po_some ha).imp fun σ H Q ⟨μ, env, S, rs, re, h⟩ =>
  ⟨μ, env, S, rs, re, h.bind fun d S1 μ1 H1 e1 r1 h1 v rv => by
    split at h1
    · cases rv; exact ⟨_, rfl, h1.now r1⟩
    · exact h1.elim⟩
theorem e_slc (hH : Hold Γ W md k X) {lo hi : Option PySem.Expr} {cl ch : Oe} {p2 : Pos} (ha : PE X a (tE Γ W ca)) (hl : PO X lo (tO Γ W cl)) (hh : PO X hi (tO Γ W ch)) : PE X (.Subscript a (.Slice lo hi none p2) pos) (tE Γ W (.slc ca cl ch)) :=
  (pe_slice (op_sl hH.hK) ha hl hh).imp fun σ H Q ⟨μ, env, S, rs, re, h⟩ =>
    ⟨μ, env, S, rs, re, h.bind fun d S1 μ1 H1 e1 r1 h1 v rv => ⟨μ1, env, S1, r1, re.mono e1, h1.bind fun l S2 μ2 H2 e2 r2 h2 =>
      ⟨μ2, env, S2, r2, re.mono (e1.trans e2), h2.bind fun u S3 μ3 H3 e3 r3 h3 => ⟨_, μ3, S3, d, r3, rv.mono (e2.trans e3), h3⟩⟩⟩⟩
end

/-! ### defs as values, dicts of the module, displays -/
section
variable {Γ : Gd} {W : WX} {md : Md} {k : Nat} {X : Cx} {pos : Pos} {a b c : PySem.Expr} {ca cb cc : E}
/-- a def by its name -/
theorem e_fnv (hH : Hold Γ W md k X) {x : Str} {ad : Addr} (hg : Gl X x) (hm : X.mg x = some (.ref ad)) (hn : PySem.W.nsIn X.K mainGlobals x = some (some (.ref ad))) (hd : (x == ("__debug__" : Str)) = false) : PE X (.Name x pos) (tE Γ W (.cst (.fnv x))) :=
  e_cst (v := .ref ad) (pe_glob hg hm rfl hd) fun μ H => .fnv (by rw [hH.hK]; exact hn)
/-- a local name that holds a def, called -/
theorem e_callv (hH : Hold Γ W md k X) {x : Str} {i : Nat} {fs : List (Str × Nat)} {e : PySem.Expr} {es : List PySem.Expr} {ces : Es} {p : Pos} (hN : X.N[i]? = some x) (hv : Vis X.env.scope x) (hd : (x == ("__debug__" : Str)) = false) (hcd : (x == ("__classdict__" : Str)) = false)
    (hF : ∀ y f, fs.lookup y = some f → ∃ ad fd ps, PySem.W.nsIn X.K mainGlobals y = some (some (.ref ad)) ∧ PySem.W.keepIn X.K (.ref ad) = true ∧ Binds X.K fd ps [] ∧ FnG md.hot X.prog X.w X.K X.mg X.base k ad fd ps (spOf Γ f))
    (hs : ∀ e' ∈ e :: es, nst e' = true) (ha : PA X (e :: es) (tEs Γ W ces)) : PE X (.Call (.Name x p) (e :: es) [] pos) (tE Γ W (.callv i fs ces)) := by
  have hs1 := star_of (env := X.env) (es := es) (hs e List.mem_cons_self)
  have hs2 := stars_of (env := X.env) (pos := pos) fun e' he => hs e' (List.mem_cons_of_mem _ he)
  refine ⟨fun pins s σ H Q I ⟨μ, env, S, rs, re, h⟩ => ?_⟩
  simp only [evE] at h
  split at h
  next y hy =>
    split at h
    next f hf =>
      obtain ⟨v, hσ, rv⟩ := re.slot i _ hy
      obtain ⟨ad, fd, ps, h1, h2, h3, h4⟩ := hF y f hf
      cases rv with
      | @fnv _ a2 q =>
        rw [hH.hK, h1] at q
        cases q
        have ht : tCallS (spOf Γ f) (fun σ => atS W σ) (tEs Γ W ces) σ H Q := call_fin σ H Q ⟨μ, env, S, rs, re, h⟩
        refine wpAny_Call_Name_kw (thn ((pe_var (pos := p) hN hv hd hcd).run pins s σ H (fun v H1 => v = .ref ad ∧ H1 = H) I ⟨.ref ad, hσ, rfl, rfl⟩) fun u s1 ⟨v, H1, I1, r1, q1⟩ => ?_)
        obtain ⟨rfl, rfl⟩ := q1
        cases r1
        refine PySem.W.callWith_K (h₀ := X.base) I.ok.mod.kin h2 (thn (ha.run pos pins s1 σ _ _ I1 ht) fun us s2 ⟨vs, H2, I2, r, q⟩ => ⟨I2.kIn, ?_⟩) hs1 hs2
        cases hh : md.hot with
        | false => exact run_fnS (h4.1 hh) (hH.room hh) h3 (hH.pass σ) I2 r q
        | true => exact L2H.run_fnH (h4.2 hh) hH.roomH (hH.warm hh) h3 (hH.pass σ) I2 r q
    · exact h.elim
  · exact h.elim
/-- a dict of the module with text keys -/
def GdAt (w : World) (K : PySem.W.Frag) (ad : Addr) (kvs : List (Str × D)) : Prop := ∃ es n, KDict K w ad es n ∧ ∀ z, match kvs.lookup z with
  | none => PySem.W.nsIn K ad z = some none
  | some d => ∃ u v, PySem.W.nsIn K ad z = some (some u) ∧ RelV v u ∧ ∀ μ H, RepV K μ H d v
theorem e_gix (hH : Hold Γ W md k X) {x : Str} {ad : Addr} {kvs : List (Str × D)} {p : Pos} (hg : Gl X x) (hm : X.mg x = some (.ref ad)) (hd : (x == ("__debug__" : Str)) = false) (hG : GdAt X.w X.K ad kvs) (hb : PE X b (tE Γ W cb)) (hs : PlainIx b) :
    PE X (.Subscript (.Name x p) b pos) (tE Γ W (.gix kvs cb)) := by
  obtain ⟨es, n, D0, G⟩ := hG
  refine (pe_ix ix_kdict (pe_glob (v := .ref ad) hg hm rfl hd) hb hs).imp fun σ H Q ⟨μ, env, S, rs, re, h⟩ => ⟨μ, env, S, rs, re, ?_⟩
  simp only [evE] at h
  refine h.bind fun d S1 μ1 H1 e1 r1 h1 v rv => ?_
  split at h1
  next z =>
    cases rv
    have g := G z
    split at h1
    next dv hl =>
      rw [hl] at g
      obtain ⟨u, v, g1, g2, g3⟩ := g
      exact ⟨ad, z, v, rfl, rfl, ⟨es, n, u, D0.at_, D0.lit, g1, g2⟩, h1.now r1 v (by rw [hH.hK]; exact g3 _ _)⟩
    · exact h1.elim
  · exact h1.elim
theorem gd_some {w : World} {K : PySem.W.Frag} {ad : Addr} {kvs : List (Str × D)} (G : ∀ z, match kvs.lookup z with
    | none => PySem.W.nsIn K ad z = some none
    | some d => ∃ u v, PySem.W.nsIn K ad z = some (some u) ∧ RelV v u ∧ ∀ μ H, RepV K μ H d v) (z : Str) : ∃ r, PySem.W.nsIn K ad z = some r ∧ r.isSome = (kvs.map (·.1)).contains z := by
  have key : ∀ l : List (Str × D), (l.map (·.1)).contains z = (l.lookup z).isSome := by
    intro l
    induction l with
    | nil => rfl
    | cons q l ih =>
      obtain ⟨y, d⟩ := q
      rw [List.map_cons, List.contains_cons, List.lookup_cons]
      by_cases e : (z == y) = true
      · simp [e]
      · have e' : (z == y) = false := by simpa using e
        simp only [e', Bool.false_or]
        exact ih
  have g := G z
  rw [key]
  cases e : kvs.lookup z with
  | none => rw [e] at g; exact ⟨none, g, rfl⟩
  | some d => rw [e] at g; obtain ⟨u, v, g1, _⟩ := g; exact ⟨some u, g1, rfl⟩
theorem e_gin (hH : Hold Γ W md k X) {x : Str} {ad : Addr} {kvs : List (Str × D)} {p : Pos} (hg : Gl X x) (hm : X.mg x = some (.ref ad)) (hd : (x == ("__debug__" : Str)) = false) (hG : GdAt X.w X.K ad kvs) (ha : PE X a (tE Γ W ca)) (neg : Bool) :
    PE X (.Compare a [if neg then .NotIn else .In] [.Name x p] pos) (tE Γ W (.gin neg (kvs.map (·.1)) ca)) ∧ PT X (.Compare a [if neg then .NotIn else .In] [.Name x p] pos) (tT Γ W (.gin neg (kvs.map (·.1)) ca)) := by
  obtain ⟨es, n, D0, G⟩ := hG
  have hn : PE X (.Name x p) (tC (.ref ad)) := pe_glob hg hm rfl hd
  have hr : OpR X (compareOp (if neg then .NotIn else .In)) (fun x y H Q => ∃ z, x = .str z ∧ y = .ref ad ∧ Q (.bl (neg != (kvs.map (·.1)).contains z)) H) := by
    cases neg with
    | true =>
      intro pins s σ H x y v u Q I rx ry ⟨z, ex, ey, q⟩
      obtain ⟨r, g1, g2⟩ := gd_some (w := X.w) G z
      exact op_notIn_kd D0 pins s σ H x y v u Q I rx ry ⟨z, r, ex, ey, g1, by rw [g2]; simpa using q⟩
    | false =>
      intro pins s σ H x y v u Q I rx ry ⟨z, ex, ey, q⟩
      obtain ⟨r, g1, g2⟩ := gd_some (w := X.w) G z
      exact op_in_kd D0 pins s σ H x y v u Q I rx ry ⟨z, r, ex, ey, g1, by rw [g2]; simpa using q⟩
  have mk : behindInMarks (if neg then .NotIn else .In) (.Name x p) = false := by cases neg <;> rfl
  constructor
  · refine (pe_cmpR hr ha hn mk).imp fun σ H Q ⟨μ, env, S, rs, re, h⟩ => ⟨μ, env, S, rs, re, ?_⟩
    simp only [evE] at h
    refine h.bind fun d S1 μ1 H1 e1 r1 h1 v rv => ?_
    split at h1
    next z =>
      cases rv
      exact ⟨z, rfl, rfl, h1.now r1 _ (.bl _)⟩
    · exact h1.elim
  · refine (pt_cmpR hr ha hn mk).imp fun σ H Q ⟨μ, env, S, rs, re, h⟩ => ⟨μ, env, S, rs, re, ?_⟩
    simp only [evT] at h
    refine h.bind fun d S1 μ1 H1 e1 r1 h1 v rv => ?_
    split at h1
    next z =>
      cases rv
      exact ⟨z, rfl, rfl, _, rfl, h1.now r1⟩
    · exact h1.elim
/-- the constants of a display -/
def litOf : PySem.Expr → Option (D × V)
  | .Constant .none _ _ => some (.non, .non)
  | .Constant (.bool b) _ _ => some (.bl b, .bl b)
  | .Constant (.int i) _ _ => some (.int i, .int i)
  | .Constant (.str s) _ _ => some (.str s, .str s)
  | _ => none
def compDk : List (Option PySem.Expr) → List PySem.Expr → Option (List (Str × D × V))
  | [], [] => some []
  | some (.Constant (.str s) _ _) :: ks, v :: vs => match litOf v, compDk ks vs with
    | some d, some r => some ((s, d) :: r)
    | _, _ => none
  | _, _ => none
theorem lit_ok {e : PySem.Expr} {q : D × V} (h : litOf e = some q) : PE X e (tC q.2) ∧ ∀ K μ H, RepV K μ H q.1 q.2 := by
  unfold litOf at h
  split at h
  · cases h; exact ⟨pe_non, fun _ _ _ => .non⟩
  · cases h; exact ⟨pe_bl, fun _ _ _ => .bl _⟩
  · cases h; exact ⟨pe_int, fun _ _ _ => .int _⟩
  · cases h; exact ⟨pe_str, fun _ _ _ => .str _⟩
  · cases h
theorem compDk_ok : ∀ {ks : List (Option PySem.Expr)} {vs : List PySem.Expr} {r : List (Str × D × V)}, compDk ks vs = some r → PPs X pos ks vs (r.map fun q => (tC (.str q.1), tC q.2.2)) ∧ ks.all (·.isSome) = true ∧ ks.length = vs.length ∧ r.length = ks.length ∧ ∀ q ∈ r, ∀ K μ H, RepV K μ H q.2.1 q.2.2
  | [], [], r, h => by cases h; exact ⟨pps_nil, rfl, rfl, rfl, fun q h => nomatch h⟩
  | [], _ :: _, r, h => by cases h
  | none :: _, _, r, h => by simp [compDk] at h
  | some e :: ks, [], r, h => by simp [compDk] at h
  | some e :: ks, v :: vs, r, h => by
    unfold compDk at h
    split at h
    · rename_i e1 e2; cases e1
    next s _ _ _ _ e1 e2 =>
      cases e1
      cases e2
      split at h
      next d r' h1 h2 =>
        cases h
        obtain ⟨p1, p2, p3, p4, p5⟩ := compDk_ok h2
        obtain ⟨l1, l2⟩ := lit_ok (X := X) h1
        refine ⟨pps_cons pe_str l1 p1, by simpa using p2, by simp [p3], by simp [p4], fun q hq => ?_⟩
        rcases List.mem_cons.mp hq with rfl | hq
        · exact l2
        · exact p5 q hq
      · cases h
    · cases h
theorem pairs_run : ∀ (r : List (Str × D × V)) (σ : L2.St) (H : Hp) (Q : List (V × V) → Hp → Prop), Q (r.map fun q => (.str q.1, q.2.2)) H → tPairs (r.map fun q => (tC (.str q.1), tC q.2.2)) σ H Q
  | [], σ, H, Q, h => h
  | q :: r, σ, H, Q, h => pairs_run r σ H _ h
theorem rep_kv {K : PySem.W.Frag} {μ : List Addr} {H : Hp} : ∀ (r : List (Str × D × V)), (∀ q ∈ r, ∀ K μ H, RepV K μ H q.2.1 q.2.2) → RepVs K μ H (r.map ((fun x => x.2) ∘ fun q => (Sum.inr (α := Int) q.1, q.2.1))) (r.map ((fun x => x.2) ∘ fun q => (Sum.inr (α := Int) q.1, q.2.2)))
  | [], _ => .nil
  | q :: r, h => .cons (h q List.mem_cons_self _ _ _) (rep_kv r fun q' hq' => h q' (List.mem_cons_of_mem _ hq'))
theorem e_dct {ks : List (Option PySem.Expr)} {vs : List PySem.Expr} {r : List (Str × D × V)} (h : compDk ks vs = some r) (h0 : ks ≠ []) (h15 : ks.length ≤ 15) : PE X (.Dict ks vs pos) (tE Γ W (.dct (r.map fun q => (.inr q.1, q.2.1)))) := by
  obtain ⟨p1, p2, p3, p4, p5⟩ := compDk_ok (X := X) (pos := pos) h
  refine (pe_disp p1 p2 p3 h0 h15).imp fun σ H Q ⟨μ, env, S, rs, re, hq⟩ p hp => pairs_run r _ _ _ ⟨upd_same, r.map fun q => (.inr q.1, q.2.2), by simp only [List.map_map]; rfl, by simp; omega, ?_⟩
  have rk : ∀ μ H, RepKV Γ.K μ H (r.map fun q => (.inr q.1, q.2.1)) (r.map fun q => (.inr q.1, q.2.2)) := fun μ H => by
    refine ⟨by simp only [List.map_map]; rfl, ?_⟩
    simp only [List.map_map]
    exact rep_kv r p5
  have up : ∀ o o' : HO, upd (upd H p o) p o' = upd H p o' := fun o o' => by
    funext z
    by_cases e : z = p
    · subst e; rw [upd_same, upd_same]
    · rw [upd_ne e, upd_ne e, upd_ne e]
  rw [up]
  have m0 : RepKV Γ.K (μ ++ [p]) (upd H p (.dK (mergeK [] (r.map fun q => (.inr q.1, q.2.2))))) (mergeD [] (r.map fun q => (.inr q.1, q.2.1))) (mergeK [] (r.map fun q => (.inr q.1, q.2.2))) := RepKV.merge (rk _ _) ⟨rfl, .nil⟩
  exact hq (μ ++ [p]) _ (Ext.newCell hp) (rs.newC hp ⟨_, upd_same, m0⟩) _ (.ref rs.newRef)
end
end PD
end

section
set_option linter.all false
set_option maxRecDepth 100000
set_option maxHeartbeats 1000000
/-! PDenum: enumerate of a tuple. -/
namespace PD
open PySem L2 PyProof.Rows

/-- the cell of a new enumerate -/
def enObj (i : Addr) : Obj := ⟨.type "enumerate", none, .fields #[.none, .bool false, .ref i, rawInt 0, .none, .none], #[]⟩
theorem enumNew1 {v : Value} {ob : Obj} {Hd : Heap → Prop} (B : Begins v ob Hd) :
    Meets (Builtin.«enumerate.__new__» ⟨[.type "enumerate", v], []⟩) (fun _ R s => Hd s.heap ∧ R (.ok (.ret (.ref (s.heap.push ob).objs.size))) { s with heap := (s.heap.push ob).push (enObj s.heap.objs.size) }) :=
  .of_wp fun prog w A R s hh => by
    obtain ⟨hp, gg, dd, tk, oo⟩ := s; obtain ⟨hb, hr⟩ := hh
    have sub := sub_enumerate
    have qi : ∀ {A' : Around} {E' : Value → Shared → Prop} {Q' : Value → Shared → Prop}, Q' (.ref hp.objs.size) ⟨hp.push ob, gg, dd, tk, oo⟩ → wpAny (model prog w) A' (pyIter v) Q' E' ⟨hp, gg, dd, tk, oo⟩ :=
      fun q => B.iter prog w _ _ ⟨hp, gg, dd, tk, oo⟩ _ hb q
    wp_walk using qi
    refine wpAny_stack_any fun _ => wpAny_pure ?_
    split
    · rename_i cc _ _ _ _ _
      cases (cc == Value.type "enumerate")
      · (wp_walk using qi); exact ⟨_, rfl, hr⟩
      · (wp_walk using qi); exact ⟨_, rfl, hr⟩
    · (wp_walk using qi); exact ⟨_, rfl, hr⟩
section
variable {prog : Program} {w : World} {A : Around} {E : Value → Shared → Prop} {s : Shared}
/-- enumerate(t): its two new cells -/
theorem call_enumT {t : Addr} {items : Array Value} {Q : Value → Shared → Prop} (hT : s.heap.IsTuple t items)
    (hq : ∀ h', IsEnum h' (s.heap.objs.size + 1) s.heap.objs.size 0 .none → h'.IsTupleIter s.heap.objs.size t 0 → h'.objs.size = s.heap.objs.size + 2 → (∀ b ob, s.heap.get? b = some ob → h'.get? b = some ob) → Q (.ref (s.heap.objs.size + 1)) { s with heap := h' }) :
    wpAny (model prog w) A (call (.type "enumerate") [.ref t]) Q E s := by
  refine callType_new F.called_enumerate (by decide) (F.typeCall_enumerate_1 _) (F.newCall_enumerate_1 _) (fun ob => F.args_object_init_2 ob _) F.entry_enumerate_new (enumNew1 (begins_tuple t items)) ⟨hT, ?_⟩
  have hz : (s.heap.push { cls := .type "tuple_iterator", data := .fields #[.ref t, .int 0 0] }).objs.size = s.heap.objs.size + 1 := Heap.size_push ..
  show _ ∧ _
  rw [hz]
  have he : IsEnum ((s.heap.push { cls := .type "tuple_iterator", data := .fields #[.ref t, .int 0 0] }).push (enObj s.heap.objs.size)) (s.heap.objs.size + 1) s.heap.objs.size 0 .none := by
    have h0 := Heap.get?_push_size (s.heap.push { cls := .type "tuple_iterator", data := .fields #[.ref t, .int 0 0] }) (o := enObj s.heap.objs.size) rfl
    rw [hz] at h0; exact h0
  exact ⟨⟨_, he, rfl⟩, hq _ he ⟨_, Heap.get?_push_of_some _ (Heap.get?_push_size _ rfl), rfl, rfl⟩ (by rw [Heap.size_push, hz]) fun b ob x => Heap.get?_push_of_some _ (Heap.get?_push_of_some _ x)⟩
end
/-- the tuple at a, each item in a new pair -/
def IteT (K : PySem.W.Frag) (a : Addr) : It :=
  ⟨fun i H => ∃ (us : List V) (x : V), SqT K H a us ∧ us[i]? = some x, fun i H v H' => ∃ T x, v = .ref T ∧ H T = none ∧ H' = upd H T (.tup [.int (i : Nat), x]) ∧ ∀ us, SqT K H a us → us[i]? = some x, fun i H => ∃ us : List V, SqT K H a us ∧ us.length ≤ i⟩
theorem tup_ne_it {h : Heap} {a it t : Addr} {i : Nat} {items : Array Value} (p : h.IsTuple a items) (q : h.IsTupleIter it t i) : a ≠ it := by
  rintro rfl
  obtain ⟨o1, e1, c1, _⟩ := p
  obtain ⟨o2, e2, c2, _⟩ := q
  rw [e1] at e2; cases e2
  rw [c1] at c2
  exact absurd c2 (by decide)
theorem tup_ne_en {h : Heap} {a e it : Addr} {k : Int} {old : Value} {items : Array Value} (p : h.IsTuple a items) (q : IsEnum h e it k old) : e ≠ a := by
  rintro rfl
  obtain ⟨o1, e1, c1, _⟩ := p
  have e2 := e1.symm.trans q
  cases e2
  exact absurd (show Value.type "enumerate" = Value.type "tuple" from c1) (by decide)
theorem drawsEnd {prog : Program} {w : World} {A : Around} (hh : A.handled = none) (it t : Addr) (items : Array Value) (i : Nat) (hn : items[i]? = none) :
    Draws prog w A it [it, t] i (fun _ _ => False) (fun j h => j = i ∧ h.IsTupleIter it t i ∧ h.IsTuple t items) where
  live := fun _ _ st => let ⟨ob, ho, _⟩ := st.2.1; ⟨ob, ho⟩
  frame := fun _ _ _ st hk => ⟨st.1, st.2.1.at fun ob e => hk it (by simp) ob e, st.2.2.at fun ob e => hk t (by simp) ob e⟩
  item := fun j s Q E hj st _ => absurd st.1 (Nat.ne_of_lt hj)
  done := fun s Q E st hE => wpAny_nextOf_tuple_end hh st.2.1 st.2.2 hn hE
theorem turn_enumT {P : Program} {w : World} {K : PySem.W.Frag} {elts : List PySem.Expr} {kk : Nat} {tpos : Pos} (a e it : Addr) :
    Turn P w K (.Tuple elts kk tpos) (IteT K a) [e, it] e (fun i h => (∃ old, IsEnum h e it ((i : Nat) : Int) old) ∧ h.IsTupleIter it a i ∧ e ≠ it) where
  mem := by simp
  obj := fun i h st b hb => by
    obtain ⟨⟨old, he⟩, ⟨ob, ho, _, hd⟩, _⟩ := st
    have hor : b = e ∨ b = it := by simpa using hb
    rcases hor with z | z
    · rw [z]; exact ⟨_, he, fun v q => nomatch q⟩
    · rw [z]; exact ⟨ob, ho, fun v q => by rw [hd] at q; cases q⟩
  keep := fun i h h' ⟨⟨old, he⟩, hi, hne⟩ k => ⟨⟨old, k e (by simp) _ he⟩, hi.at fun ob q => k it (by simp) ob q, hne⟩
  item := by
    rintro X hP hw hK hc i pins s σ H E I hf ⟨⟨old, he⟩, hit, hne⟩ ⟨us, x, hq, hx⟩
    subst hP hw hK
    obtain ⟨its, rv, p, _⟩ := I.tuple hq
    obtain ⟨u, hu, ru⟩ := rv.get hx
    have hel : e < s.heap.objs.size := Heap.lt_size he
    have hil : it < s.heap.objs.size := by obtain ⟨_, q, _⟩ := hit; exact Heap.lt_size q
    have hd : X.A.in1.handled = none := I.ok.hd hc
    have hi : i < its.toArray.size := by
      have := (List.getElem?_eq_some_iff.mp hu).1
      simpa using this
    refine wpAny_pyNext_enum_itemD (Draws.tuple hd it a (tup_ne_it p hit) its.toArray) he ⟨hit, p⟩ hi hne (by simp [hne, tup_ne_en p he]) fun y h' tk hy ho st' hT hsz hk => ?_
    have : y = u := by
      have e2 : its[i]? = some y := by simpa using hy
      rw [hu] at e2; exact (Option.some.inj e2).symm
    subst this
    refine ⟨_, rfl, wpAny_letOwnedTupleGo_enum (s := { s with heap := h', toks := tk + 1 }) ho fun h2 he' sb => ?_⟩
    have hT2 : h2.get? s.heap.objs.size = some ⟨.type "tuple", none, .seq #[.int i tk, y], #[]⟩ := (sb.2 _ (Nat.ne_of_gt hel)).trans hT
    have nw : ObjOk X.prog X.w (upd H s.heap.objs.size (.tup [.int (i : Nat), x])) h2 s.heap.objs.size (.tup [.int (i : Nat), x]) :=
      ⟨by show 2 ≤ sizeLine; decide, [.int i tk, y], .cons ⟨_, rfl⟩ (.cons ru .nil), ⟨_, hT2, rfl, _, rfl⟩⟩
    have I1 := I.turnedNew (t' := tk + 1) (h' := h2) (ch := [e, it]) (fun b ob hb q => (sb.2 b (fun z => hb (by simp [z]))).trans (hk b ob (fun z => hb (by simp [z])) (fun z => hb (by simp [z])) q)) hf (Nat.le_refl _) nw
    refine ⟨.ref s.heap.objs.size, _, I1, rfl, ⟨_, x, rfl, I.hok.fresh (Nat.le_refl _), rfl, fun ys hy => by rw [I.tuple_inj hy hq]; exact hx⟩, ⟨⟨y, ?_⟩, st'.1.at fun ob q => (sb.2 it (Ne.symm hne)).trans q, hne⟩, fun b hb => ?_⟩
    · have e1 : ((i + 1 : Nat) : Int) = (i : Int) + 1 := by omega
      rw [e1]; exact he'
    · have hlt : b < s.heap.objs.size := by
        have hor : b = e ∨ b = it := by simpa using hb
        rcases hor with z | z <;> rw [z] <;> assumption
      rw [upd_ne (Nat.ne_of_lt hlt)]
      exact (hf b hb).1
  done := by
    rintro X hP hw hK hc i pins s σ H E I hf ⟨⟨old, he⟩, hit, hne⟩ ⟨us, hq, hx⟩
    subst hP hw hK
    obtain ⟨its, rv, p, _⟩ := I.tuple hq
    obtain ⟨f0, f1, f2, f3, f4, f5⟩ := hf it (by simp)
    have hlen := rv.length
    have hnone : its.toArray[i]? = none := by simp; omega
    have hd : X.A.in1.handled = none := I.ok.hd hc
    exact wpAny_pyNext_enum_endD (drawsEnd hd it a its.toArray i hnone) he ⟨rfl, hit, p⟩ fun h' eb => ⟨rfl, I.turned (t' := s.toks) (fun b ob hb q => eb b ob hb q) f0 f1 f3 f4 f5⟩
  self := fun A i s Q E ⟨⟨_, he⟩, _⟩ h => wpAny_pyIter_enum he h
def iEnumT (K : PySem.W.Frag) (ta : TA) : TI := fun σ H R => ta σ H fun vs H1 => ∃ a us, vs = [.ref a] ∧ SqT K H1 a us ∧ R (IteT K a) H1
theorem pi_enumT {X : Cx} {e : PySem.Expr} {ta : TA} {p pos tpos : Pos} {elts : List PySem.Expr} {kk : Nat} (hg : Gl X "enumerate") (hm : X.mg "enumerate" = none) (ha : PA X [e] ta) (hs : starEach [e] X.env = [(false, eval e X.env)] := by rfl) :
    PI X (.Tuple elts kk tpos) (.Call (.Name "enumerate" p) [e] [] pos) (iEnumT X.K ta) := by
  refine ⟨fun pins s σ H Rr I hr => ?_⟩
  refine Call_ (ld_blt I hg hm boot_enumerate (PyProof.Rows.callWith_type1 (thn (ha.run pos pins s σ H _ I hr) fun us s1 ⟨vs, H1, I1, r1, a, xs, ex, hq, q⟩ => ?_) hs rfl))
  subst ex
  cases r1 with
  | cons r rr =>
    cases rr
    cases r
    obtain ⟨its, rv, p1, _⟩ := I1.tuple hq
    refine call_enumT p1 fun h' he hit hsz hk => wpAny_pyIter_enum he ?_
    have I2 := I1.kept (h' := h') (t' := s1.toks) hk
    refine ⟨s1.heap.objs.size + 1, [s1.heap.objs.size + 1, s1.heap.objs.size], _, _, H1, rfl, I2, turn_enumT a _ _, ⟨⟨.none, he⟩, hit, Nat.succ_ne_self _⟩, fun b hb => ?_, q⟩
    have hle : s1.heap.objs.size ≤ b := by
      have hor : b = s1.heap.objs.size + 1 ∨ b = s1.heap.objs.size := by simpa using hb
      rcases hor with z | z <;> rw [z]
      · exact Nat.le_succ _
      · exact Nat.le_refl _
    exact I1.fpOk hle (I1.hok.fresh hle)
end PD
end

section
set_option linter.all false
set_option maxRecDepth 100000
set_option maxHeartbeats 1000000
/-! PDenumS: enumerate of a text. -/
namespace PD
open PySem L2 PyProof.Rows
/-- the text x, each sign in a new pair -/
def IteS (x : Str) : It :=
  ⟨fun i H => i < x.cps.size, fun i H v H' => ∃ T c, v = .ref T ∧ H T = none ∧ x.cps[i]? = some c ∧ H' = upd H T (.tup [.int (i : Nat), .str ⟨#[c]⟩]), fun i H => x.cps.size ≤ i⟩
theorem drawsEndS {prog : Program} {w : World} {A : Around} (hh : A.handled = none) (it : Addr) (x : Str) (t : Tok) (ty : String) (hty : ty = "str_ascii_iterator" ∨ ty = "str_iterator") (i : Nat) (hn : x.cps[i]? = none) :
    Draws prog w A it [it] i (fun _ _ => False) (fun j h => j = i ∧ h.IsStrIter it ty x t i) where
  live := fun _ _ st => let ⟨ob, ho, _⟩ := st.2; ⟨ob, ho⟩
  frame := fun _ _ _ st hk => let ⟨o, ho, r⟩ := st.2; ⟨st.1, o, hk it (by simp) o ho, r⟩
  item := fun j s Q E hj st _ => absurd st.1 (Nat.ne_of_lt hj)
  done := fun s Q E st hE => by
    rcases hty with e | e
    · subst e; exact wpAny_nextOf_ascii_end hh st.2 hn hE
    · subst e; exact wpAny_nextOf_wide_end hh st.2 hn hE
theorem turn_enumS {P : Program} {w : World} {K : PySem.W.Frag} {elts : List PySem.Expr} {kk : Nat} {tpos : Pos} (x : Str) (t : Tok) (ty : String) (hty : ty = "str_ascii_iterator" ∨ ty = "str_iterator") (e it : Addr) :
    Turn P w K (.Tuple elts kk tpos) (IteS x) [e, it] e (fun i h => (∃ old, IsEnum h e it ((i : Nat) : Int) old) ∧ h.IsStrIter it ty x t i ∧ e ≠ it) where
  mem := by simp
  obj := fun i h st b hb => by
    obtain ⟨⟨old, he⟩, ⟨ob, ho, _, hd⟩, _⟩ := st
    have hor : b = e ∨ b = it := by simpa using hb
    rcases hor with z | z
    · rw [z]; exact ⟨_, he, fun v q => nomatch q⟩
    · rw [z]; exact ⟨ob, ho, fun v q => by rw [hd] at q; cases q⟩
  keep := fun i h h' ⟨⟨old, he⟩, ⟨o, ho, r⟩, hne⟩ k => ⟨⟨old, k e (by simp) _ he⟩, ⟨o, k it (by simp) o ho, r⟩, hne⟩
  item := by
    rintro X hP hw hK hc i pins s σ H E I hf ⟨⟨old, he⟩, hit, hne⟩ hi
    subst hP hw hK
    have hel : e < s.heap.objs.size := Heap.lt_size he
    have hil : it < s.heap.objs.size := by obtain ⟨_, q, _⟩ := hit; exact Heap.lt_size q
    have hd : X.A.in1.handled = none := I.ok.hd hc
    have D : Draws X.prog X.w X.A.in1 it [it] x.cps.size (fun i v => ∃ c u, x.cps[i]? = some c ∧ v = .str ⟨#[c]⟩ u) (fun i h => h.IsStrIter it ty x t i) := by
      rcases hty with z | z
      · subst z; exact Draws.strAscii hd it x t
      · subst z; exact Draws.strWide hd it x t
    refine wpAny_pyNext_enum_itemD D he hit hi hne (by simp [hne]) fun y h' tk hy ho st' hT hsz hk => ?_
    obtain ⟨c, u, hcx, rfl⟩ := hy
    refine ⟨_, rfl, wpAny_letOwnedTupleGo_enum (s := { s with heap := h', toks := tk + 1 }) ho fun h2 he' sb => ?_⟩
    have hT2 : h2.get? s.heap.objs.size = some ⟨.type "tuple", none, .seq #[.int i tk, .str ⟨#[c]⟩ u], #[]⟩ := (sb.2 _ (Nat.ne_of_gt hel)).trans hT
    have nw : ObjOk X.prog X.w (upd H s.heap.objs.size (.tup [.int (i : Nat), .str ⟨#[c]⟩])) h2 s.heap.objs.size (.tup [.int (i : Nat), .str ⟨#[c]⟩]) :=
      ⟨by show 2 ≤ sizeLine; decide, [.int i tk, .str ⟨#[c]⟩ u], .cons ⟨_, rfl⟩ (.cons ⟨_, rfl⟩ .nil), ⟨_, hT2, rfl, _, rfl⟩⟩
    have I1 := I.turnedNew (t' := tk + 1) (h' := h2) (ch := [e, it]) (fun b ob hb q => (sb.2 b (fun z => hb (by simp [z]))).trans (hk b ob (fun z => hb (by simp [z])) (fun z => hb (by simp [z])) q)) hf (Nat.le_refl _) nw
    refine ⟨.ref s.heap.objs.size, _, I1, rfl, ⟨_, c, rfl, I.hok.fresh (Nat.le_refl _), hcx, rfl⟩, ⟨⟨.str ⟨#[c]⟩ u, ?_⟩, ?_, hne⟩, fun b hb => ?_⟩
    · have e1 : ((i + 1 : Nat) : Int) = (i : Int) + 1 := by omega
      rw [e1]; exact he'
    · obtain ⟨o, ho2, r⟩ := st'
      exact ⟨o, (sb.2 it (Ne.symm hne)).trans ho2, r⟩
    · have hlt : b < s.heap.objs.size := by
        have hor : b = e ∨ b = it := by simpa using hb
        rcases hor with z | z <;> rw [z] <;> assumption
      rw [upd_ne (Nat.ne_of_lt hlt)]
      exact (hf b hb).1
  done := by
    rintro X hP hw hK hc i pins s σ H E I hf ⟨⟨old, he⟩, hit, hne⟩ hx
    subst hP hw hK
    obtain ⟨f0, f1, f2, f3, f4, f5⟩ := hf it (by simp)
    have hnone : x.cps[i]? = none := Array.getElem?_eq_none hx
    have hd : X.A.in1.handled = none := I.ok.hd hc
    exact wpAny_pyNext_enum_endD (drawsEndS hd it x t ty hty i hnone) he ⟨rfl, hit⟩ fun h' eb => ⟨rfl, I.turned (t' := s.toks) (fun b ob hb q => eb b ob hb q) f0 f1 f3 f4 f5⟩
  self := fun A i s Q E ⟨⟨_, he⟩, _⟩ h => wpAny_pyIter_enum he h
def iEnumS (ta : TA) : TI := fun σ H R => ta σ H fun vs H1 => ∃ x, vs = [.str x] ∧ R (IteS x) H1
theorem strIter_or (x : Str) : strIterType x = "str_ascii_iterator" ∨ strIterType x = "str_iterator" := by
  unfold strIterType
  split
  · exact .inl rfl
  · exact .inr rfl
theorem pi_enumS {X : Cx} {e : PySem.Expr} {ta : TA} {p pos tpos : Pos} {elts : List PySem.Expr} {kk : Nat} (hg : Gl X "enumerate") (hm : X.mg "enumerate" = none) (ha : PA X [e] ta) (hs : starEach [e] X.env = [(false, eval e X.env)] := by rfl) :
    PI X (.Tuple elts kk tpos) (.Call (.Name "enumerate" p) [e] [] pos) (iEnumS ta) := by
  refine ⟨fun pins s σ H Rr I hr => ?_⟩
  refine Call_ (ld_blt I hg hm boot_enumerate (PyProof.Rows.callWith_type1 (thn (ha.run pos pins s σ H _ I hr) fun us s1 ⟨vs, H1, I1, r1, x, ex, q⟩ => ?_) hs rfl))
  subst ex
  cases r1 with
  | cons r rr =>
    cases rr
    obtain ⟨t, rfl⟩ := r
    refine call_enumerate_str fun h' he hit hsz hk => wpAny_pyIter_enum he ?_
    have I2 := I1.kept (h' := h') (t' := s1.toks) hk
    refine ⟨s1.heap.objs.size + 1, [s1.heap.objs.size + 1, s1.heap.objs.size], _, _, H1, rfl, I2, turn_enumS x t _ (strIter_or x) _ _, ⟨⟨.none, he⟩, hit, Nat.succ_ne_self _⟩, fun b hb => ?_, q⟩
    have hle : s1.heap.objs.size ≤ b := by
      have hor : b = s1.heap.objs.size + 1 ∨ b = s1.heap.objs.size := by simpa using hb
      rcases hor with z | z <;> rw [z]
      · exact Nat.le_succ _
      · exact Nat.le_refl _
    exact I1.fpOk hle (I1.hok.fresh hle)
end PD
end

section
set_option linter.all false
set_option maxRecDepth 100000
set_option maxHeartbeats 1000000
/-! PDloop: targets, what is walked, comprehensions. -/
namespace PD
open PySem L2

/-! ### targets -/
mutual
def slT : Tg → List Nat
  | .nm i => [i]
  | .tp ts => slTs ts
def slTs : Tgs → List Nat
  | .nil => []
  | .cons t ts => slT t ++ slTs ts
end
/-- the same but for some slots -/
def Sm (l : List Nat) (σ σ' : L2.St) : Prop := σ'.length = σ.length ∧ ∀ i, i ∉ l → σ'[i]? = σ[i]?
theorem Sm.trans {l m : List Nat} {σ σ1 σ2 : L2.St} (a : Sm l σ σ1) (b : Sm m σ1 σ2) : Sm (l ++ m) σ σ2 :=
  ⟨b.1.trans a.1, fun i h => by
    simp only [List.mem_append, not_or] at h
    rw [b.2 i h.2, a.2 i h.1]⟩
def tG (Γ : Gd) (t : Tg) : TG := fun v σ H Q => ∃ μ env S d env', RepS Γ.K μ H S ∧ RepE Γ μ H σ env ∧ RepV Γ.K μ H d v ∧ asgT S t d env = some env' ∧ ∀ σ', RepE Γ μ H σ' env' → Sm (slT t) σ σ' → Q σ' H
def tGs (Γ : Gd) (ts : Tgs) : TGs := fun vs σ H Q => ∃ μ env S ds env', RepS Γ.K μ H S ∧ RepE Γ μ H σ env ∧ RepVs Γ.K μ H ds vs ∧ asgTs S ts ds env = some env' ∧ ∀ σ', RepE Γ μ H σ' env' → Sm (slTs ts) σ σ' → Q σ' H
def lenTs : Tgs → Nat
  | .nil => 0
  | .cons _ ts => lenTs ts + 1
theorem asgTs_len {S : Store} : ∀ {ts : Tgs} {ds : List D} {env env' : Env}, asgTs S ts ds env = some env' → ds.length = lenTs ts
  | .nil, [], _, _, _ => rfl
  | .nil, _ :: _, _, _, h => by simp [asgTs] at h
  | .cons _ _, [], _, _, h => by simp [asgTs] at h
  | .cons t ts, d :: ds, env, env', h => by
    simp only [asgTs] at h
    split at h
    · simp [lenTs, asgTs_len h]
    · cases h
section
variable {X : Cx} {Γ : Gd} {pos : Pos}
theorem _root_.L2.PG.imp {e : PySem.Expr} {t t' : TG} (h : PG X e t) (k : ∀ v σ H Q, t' v σ H Q → t v σ H Q) : PG X e t' := ⟨fun pins s σ H v u Q I r q => h.run pins s σ H v u Q I r (k v σ H Q q)⟩
theorem _root_.L2.PGs.imp {e : List PySem.Expr} {t t' : TGs} (h : PGs X e t) (k : ∀ v σ H Q, t' v σ H Q → t v σ H Q) : PGs X e t' := ⟨fun pins s σ H v u Q I r q => h.run pins s σ H v u Q I r (k v σ H Q q)⟩
theorem _root_.L2.PG.or {e : PySem.Expr} {t t' : TG} (h : PG X e t) (h' : PG X e t') : PG X e (fun v σ H Q => t v σ H Q ∨ t' v σ H Q) := ⟨fun pins s σ H v u Q I r q => q.elim (h.run pins s σ H v u Q I r) (h'.run pins s σ H v u Q I r)⟩
theorem g_nm {i : Nat} {x : Str} (hN : X.N.Nodup) (hi : X.N[i]? = some x) (hx : Loc X.env.scope x) (hf : X.fn x = true ∨ X.env.scope.names.lookup x = some .local) : PG X (.Name x pos) (tG Γ (.nm i)) :=
  (pg_name hN hi hx hf).imp fun v σ H Q ⟨μ, env, S, d, env', rs, re, r, e, q⟩ => by
    simp only [asgT] at e; cases e
    exact q _ (re.set r) ⟨by simp, fun j hj => List.getElem?_set_ne (fun z => hj (by simp [slT, z]))⟩
theorem g_nil : PGs X [] (tGs Γ .nil) := pgs_nil.imp fun vs σ H Q ⟨μ, env, S, ds, env', rs, re, r, e, q⟩ => by
  cases r with
  | nil => simp only [asgTs] at e; cases e; exact ⟨rfl, q _ re ⟨rfl, fun _ _ => rfl⟩⟩
  | cons _ _ => simp [asgTs] at e
theorem asgEach_cons {e : PySem.Expr} {es : List PySem.Expr} {env : PySem.Env} (h : nst e = true) : assignEach (e :: es) env = (false, assign e env) :: assignEach es env := by
  cases e <;> first | rfl | cases h
theorem g_cons {e : PySem.Expr} {es : List PySem.Expr} {t : Tg} {ts : Tgs} (hs : nst e = true) (h1 : PG X e (tG Γ t)) (h2 : PGs X es (tGs Γ ts)) : PGs X (e :: es) (tGs Γ (.cons t ts)) :=
  (pgs_cons h1 h2 (by rw [asgEach_cons hs]; rfl)).imp fun vs σ H Q ⟨μ, env, S, ds, env', rs, re, r, e, q⟩ => by
    cases r with
    | nil => simp [asgTs] at e
    | cons r rr =>
      simp only [asgTs] at e
      split at e
      next env1 he => exact ⟨_, _, rfl, μ, env, S, _, env1, rs, re, r, he, fun σ' re' sm => ⟨μ, env1, S, _, env', rs, re', rr, e, fun σ2 re2 sm2 => q σ2 re2 (sm.trans sm2)⟩⟩
      · cases e
theorem asgEach_ok {env : PySem.Env} : ∀ {es : List PySem.Expr}, (∀ e ∈ es, nst e = true) → (assignEach es env).length = es.length ∧ (assignEach es env).findIdx? (·.1) = none
  | [], _ => ⟨rfl, rfl⟩
  | e :: es, h => by
    obtain ⟨h1, h2⟩ := asgEach_ok (env := env) fun e' he => h e' (List.mem_cons_of_mem _ he)
    rw [asgEach_cons (h e List.mem_cons_self)]
    refine ⟨by simp [h1], ?_⟩
    rw [List.findIdx?_cons]
    simp [h2]
theorem g_tp {es : List PySem.Expr} {ts : Tgs} {j : Nat} (hK : Γ.K = X.K) (hc : X.calm = true) (hs : ∀ e ∈ es, nst e = true) (hl : es.length = lenTs ts) (h : PGs X es (tGs Γ ts)) : PG X (.Tuple es j pos) (tG Γ (.tp ts)) :=
  ((pg_tup hc h (n := es.length) (asgEach_ok hs).1 (asgEach_ok hs).2).or (pg_unl hc h (n := es.length) (asgEach_ok hs).1 (asgEach_ok hs).2)).imp fun v σ H Q ⟨μ, env, S, d, env', rs, re, r, e, q⟩ => by
    simp only [asgT] at e
    split at e
    next ds hd =>
      obtain ⟨p, vs, rfl, hq, rv, _⟩ := items_of rs r hd
      rw [hK] at hq
      rcases hq with hq | hq
      · exact .inr ⟨_, _, rfl, hq, by rw [hl, ← rv.length, asgTs_len e], μ, env, S, _, env', rs, re, rv, e, fun σ' re' sm => q σ' re' sm⟩
      · exact .inl ⟨_, _, rfl, hq, by rw [hl, ← rv.length, asgTs_len e], μ, env, S, _, env', rs, re, rv, e, fun σ' re' sm => q σ' re' sm⟩
    · cases e
end

/-! ### what is walked -/
structure SrcOk (Γ : Gd) (src : Src) (J : It) (μ0 : List Addr) (H0 : Hp) : Prop where
  stop : ∀ i μ H S S', Ext μ0 H0 μ H → RepS Γ.K μ H S → src.nx i S = .ok none S' → J.stop i H
  go : ∀ i μ H S S' d, Ext μ0 H0 μ H → RepS Γ.K μ H S → src.nx i S = .ok (some d) S' → J.go i H ∧ ∀ x H', J.yld i H x H' → Ext μ H μ H' ∧ RepS Γ.K μ H' S ∧ RepV Γ.K μ H' d x ∧ ∀ a, H a ≠ none → H' a = H a
theorem nx_same {src : Src} {i : Nat} {S S' : Store} {o : Option D} (h : src.nx i S = .ok o S') : S' = S := by
  unfold Src.nx at h
  split at h
  · cases h; rfl
  · split at h
    · cases h; rfl
    · cases h
  · split at h
    · cases h; rfl
    · cases h
theorem nx_noexc {src : Src} {i : Nat} {S S' : Store} {x : Exn} : src.nx i S ≠ .exc x S' := by
  intro h
  unfold Src.nx at h
  split at h
  · cases h
  · split at h <;> cases h
  · split at h <;> cases h
section
variable {Γ : Gd} {μ : List Addr} {H : Hp} {a : Addr} {ds : List D} {vs : List V}
theorem src_tup (q : SqT Γ.K H a vs) (r : RepVs Γ.K μ H ds vs) : SrcOk Γ (.st ds) (Itt Γ.K a) μ H where
  stop := fun i μ' H' S S' e rs h => by
    simp only [Src.nx, R.ok.injEq] at h
    exact ⟨vs, e.sqT q, by rw [← r.length]; exact List.getElem?_eq_none_iff.mp h.1⟩
  go := fun i μ' H' S S' d e rs h => by
    simp only [Src.nx, R.ok.injEq] at h
    obtain ⟨v, hv, rv⟩ := r.get h.1
    refine ⟨⟨vs, v, e.sqT q, hv⟩, fun x H2 y => ?_⟩
    obtain ⟨rfl, y⟩ := y
    have := y vs (e.sqT q)
    rw [hv] at this; cases this
    exact ⟨Ext.refl _ _, rs, rv.mono e, fun _ _ => rfl⟩
theorem src_rol (q : SqF Γ.K H a vs) (r : RepVs Γ.K μ H ds vs) : SrcOk Γ (.st ds) (Itl Γ.K a) μ H where
  stop := fun i μ' H' S S' e rs h => by
    simp only [Src.nx, R.ok.injEq] at h
    exact ⟨vs, (e.sqF q).sq, by rw [← r.length]; exact List.getElem?_eq_none_iff.mp h.1⟩
  go := fun i μ' H' S S' d e rs h => by
    simp only [Src.nx, R.ok.injEq] at h
    obtain ⟨v, hv, rv⟩ := r.get h.1
    refine ⟨⟨vs, v, (e.sqF q).sq, hv⟩, fun x H2 y => ?_⟩
    obtain ⟨rfl, y⟩ := y
    have := y vs (e.sqF q).sq
    rw [hv] at this; cases this
    exact ⟨Ext.refl _ _, rs, rv.mono e, fun _ _ => rfl⟩
theorem src_str (z : Str) : SrcOk Γ (.st (strItems z)) (Its z) μ H where
  stop := fun i μ' H' S S' e rs h => by
    simp only [Src.nx, R.ok.injEq, strItems] at h
    have := List.getElem?_eq_none_iff.mp h.1
    show z.cps.size ≤ i
    simpa using this
  go := fun i μ' H' S S' d e rs h => by
    simp only [Src.nx, R.ok.injEq, strItems, List.getElem?_map, Option.map_eq_some_iff] at h
    obtain ⟨⟨c, hc, rfl⟩, _⟩ := h
    have hi := (List.getElem?_eq_some_iff.mp hc).1
    refine ⟨by show i < z.cps.size; simpa using hi, fun x H2 y => ?_⟩
    obtain ⟨rfl, c', hc', rfl⟩ := y
    have : c' = c := by
      have e2 : z.cps.toList[i]? = some c' := by simpa using hc'
      rw [hc] at e2; exact (Option.some.inj e2).symm
    subst this
    exact ⟨Ext.refl _ _, rs, .str _, fun _ _ => rfl⟩
theorem range_none {lo c : Int} {n i : Nat} (h : (rangeD lo c n)[i]? = none) : n ≤ i := by
  have := List.getElem?_eq_none_iff.mp h
  simpa [rangeD] using this
theorem range_some {lo c : Int} {n i : Nat} {d : D} (h : (rangeD lo c n)[i]? = some d) : i < n ∧ d = .int (lo + (i : Int) * c) := by
  simp only [rangeD, List.getElem?_map, Option.map_eq_some_iff] at h
  obtain ⟨j, hj, rfl⟩ := h
  have hi := (List.getElem?_eq_some_iff.mp hj).1
  simp at hi
  rw [List.getElem?_range hi] at hj
  cases hj
  exact ⟨hi, rfl⟩
theorem src_rng (lo : Int) (n : Nat) : SrcOk Γ (.st (rangeD lo 1 n)) (Itr lo n) μ H where
  stop := fun i μ' H' S S' e rs h => by
    simp only [Src.nx, R.ok.injEq] at h
    exact range_none h.1
  go := fun i μ' H' S S' d e rs h => by
    simp only [Src.nx, R.ok.injEq] at h
    obtain ⟨hi, rfl⟩ := range_some h.1
    refine ⟨hi, fun x H2 y => ?_⟩
    obtain ⟨rfl, rfl⟩ := y
    rw [Int.mul_one]
    exact ⟨Ext.refl _ _, rs, .int _, fun _ _ => rfl⟩
theorem src_rngC (lo c : Int) (n : Nat) : SrcOk Γ (.st (rangeD lo c n)) (Itc lo c n) μ H where
  stop := fun i μ' H' S S' e rs h => by
    simp only [Src.nx, R.ok.injEq] at h
    exact range_none h.1
  go := fun i μ' H' S S' d e rs h => by
    simp only [Src.nx, R.ok.injEq] at h
    obtain ⟨hi, rfl⟩ := range_some h.1
    refine ⟨hi, fun x H2 y => ?_⟩
    obtain ⟨rfl, rfl⟩ := y
    exact ⟨Ext.refl _ _, rs, .int _, fun _ _ => rfl⟩
theorem src_ls {n : Nat} (q : μ[n]? = some a) : SrcOk Γ (.ls n) (Itl Γ.K a) μ H where
  stop := fun i μ' H' S S' e rs h => by
    simp only [Src.nx] at h
    split at h
    next es hd =>
      simp only [R.ok.injEq] at h
      obtain ⟨b, ws, e1, e2, e3⟩ := rs.lst hd
      rw [e.get q] at e1; cases e1
      exact ⟨ws, SqL.of e2, by rw [← e3.length]; exact List.getElem?_eq_none_iff.mp h.1⟩
    · cases h
  go := fun i μ' H' S S' d e rs h => by
    simp only [Src.nx] at h
    split at h
    next es hd =>
      simp only [R.ok.injEq] at h
      obtain ⟨b, ws, e1, e2, e3⟩ := rs.lst hd
      rw [e.get q] at e1; cases e1
      obtain ⟨v, hv, rv⟩ := e3.get h.1
      refine ⟨⟨ws, v, SqL.of e2, hv⟩, fun x H2 y => ?_⟩
      obtain ⟨rfl, y⟩ := y
      have := y ws (SqL.of e2)
      rw [hv] at this; cases this
      exact ⟨Ext.refl _ _, rs, rv, fun _ _ => rfl⟩
    · cases h
/-- a new pair -/
theorem pair_new {S : Store} {T : Addr} {d1 d2 : D} {v1 v2 : V} {K : PySem.W.Frag} (rs : RepS K μ H S) (h : H T = none) (r1 : RepV K μ H d1 v1) (r2 : RepV K μ H d2 v2) :
    Ext μ H μ (upd H T (.tup [v1, v2])) ∧ RepS K μ (upd H T (.tup [v1, v2])) S ∧ RepV K μ (upd H T (.tup [v1, v2])) (.tup [d1, d2]) (.ref T) ∧ ∀ a, H a ≠ none → upd H T (.tup [v1, v2]) a = H a :=
  ⟨Ext.new h, rs.new h, .tup (SqT.of upd_same) (.cons (r1.mono (Ext.new h)) (.cons (r2.mono (Ext.new h)) .nil)), fun a ha => upd_ne fun z => ha (by rw [z]; exact h)⟩
theorem src_en {n : Nat} (q : μ[n]? = some a) : SrcOk Γ (.en n) (Ite Γ.K a) μ H where
  stop := fun i μ' H' S S' e rs h => by
    simp only [Src.nx] at h
    split at h
    next es hd =>
      simp only [R.ok.injEq, Option.map_eq_none_iff] at h
      obtain ⟨b, ws, e1, e2, e3⟩ := rs.lst hd
      rw [e.get q] at e1; cases e1
      exact ⟨ws, SqL.of e2, by rw [← e3.length]; exact List.getElem?_eq_none_iff.mp h.1⟩
    · cases h
  go := fun i μ' H' S S' d e rs h => by
    simp only [Src.nx] at h
    split at h
    next es hd =>
      simp only [R.ok.injEq, Option.map_eq_some_iff] at h
      obtain ⟨⟨d', h1, rfl⟩, _⟩ := h
      obtain ⟨b, ws, e1, e2, e3⟩ := rs.lst hd
      rw [e.get q] at e1; cases e1
      obtain ⟨v, hv, rv⟩ := e3.get h1
      refine ⟨⟨ws, v, SqL.of e2, hv⟩, fun x H2 y => ?_⟩
      obtain ⟨T, x', rfl, hT, rfl, y⟩ := y
      have := y ws (SqL.of e2)
      rw [hv] at this; cases this
      exact pair_new rs hT (.int _) rv
    · cases h
theorem src_zipT {b : Addr} {es : List D} {us : List V} (q : SqT Γ.K H a vs) (r : RepVs Γ.K μ H ds vs) (q2 : SqT Γ.K H b us) (r2 : RepVs Γ.K μ H es us) : SrcOk Γ (.st (zipD ds es)) (RZ.ItzT Γ.K a b) μ H where
  stop := fun i μ' H' S S' e rs h => by
    simp only [Src.nx, R.ok.injEq] at h
    have := List.getElem?_eq_none_iff.mp h.1
    simp only [zipD, List.length_map, List.length_zip] at this
    refine ⟨vs, us, e.sqT q, e.sqT q2, ?_⟩
    rw [← r.length, ← r2.length]
    omega
  go := fun i μ' H' S S' d e rs h => by
    simp only [Src.nx, R.ok.injEq, zipD, List.getElem?_map, Option.map_eq_some_iff] at h
    obtain ⟨⟨⟨d1, d2⟩, h1, rfl⟩, _⟩ := h
    rw [List.getElem?_zip_eq_some] at h1
    obtain ⟨v, hv, rv⟩ := r.get h1.1
    obtain ⟨u, hu, ru⟩ := r2.get h1.2
    refine ⟨⟨vs, us, v, u, e.sqT q, e.sqT q2, hv, hu⟩, fun x H2 y => ?_⟩
    obtain ⟨T, x', y', rfl, hT, rfl, y1, y2⟩ := y
    have a1 := y1 vs (e.sqT q)
    have a2 := y2 us (e.sqT q2)
    rw [hv] at a1; cases a1
    rw [hu] at a2; cases a2
    exact pair_new rs hT (rv.mono e) (ru.mono e)
end

def tI (Γ : Gd) (W : WX) (s : I) : TI := fun σ H Rr => ∃ μ env S, RepS Γ.K μ H S ∧ RepE Γ μ H σ env ∧ Aft Γ (atS W σ) μ H (fun src S' μ' H' => ∀ J, SrcOk Γ src J μ' H' → Rr J H') (evI Γ.F env s S)
section
variable {Γ : Gd} {W : WX} {md : Md} {k : Nat} {X : Cx} {pos : Pos} {tg a b c : PySem.Expr} {ca cb cc : E}
/-- what evaluates to one thing, then what is made of it -/
theorem aft_at {α : Type} {E : XK} {μ : List Addr} {H : Hp} {P : α → Store → List Addr → Hp → Prop} {r : R D} {f : D → Store → R α} {P' : D → Store → List Addr → Hp → Prop} (h : Aft Γ E μ H P (r.bind f))
    (k : ∀ d S' μ' H', r = .ok d S' → Ext μ H μ' H' → RepS Γ.K μ' H' S' → Aft Γ E μ' H' P (f d S') → P' d S' μ' H') : Aft Γ E μ H P' r := by
  cases r with
  | ok a S' => exact fun μ' H' e r => k a S' μ' H' rfl e r (Aft.mono h e)
  | exc x S' => exact h
  | stuck => exact h
theorem aft_pair {α : Type} {E : XK} {F : Fn} {env : Env} {S : Store} {μ : List Addr} {H : Hp} {P : α → Store → List Addr → Hp → Prop} {f : D → D → Store → R α} {Q : List V → Hp → Prop}
    (h : Aft Γ E μ H P ((evE F env ca S).bind fun x S => (evE F env cb S).bind fun y S => f x y S))
    (k : ∀ d d2 S2 μ2 H2, RepS Γ.K μ2 H2 S2 → Aft Γ E μ2 H2 P (f d d2 S2) → ∀ vs, RepVs Γ.K μ2 H2 [d, d2] vs → Q vs H2) :
    Aft Γ E μ H (fun ds _ μ' H' => ∀ vs, RepVs Γ.K μ' H' ds vs → Q vs H') ((evE F env ca S).bind fun x S => ((evE F env cb S).bind fun y S => (R.ok [] S : R (List D)).bind fun xs S => .ok (y :: xs) S).bind fun xs S => .ok (x :: xs) S) := by
  cases hE : evE F env ca S with
  | stuck => rw [hE] at h; exact h.elim
  | exc x S1 => rw [hE] at h; exact h
  | ok d S1 =>
    rw [hE] at h
    simp only [R.bind_ok] at h ⊢
    cases hE2 : evE F env cb S1 with
    | stuck => rw [hE2] at h; exact h.elim
    | exc x S2 => rw [hE2] at h; exact h
    | ok d2 S2 =>
      rw [hE2] at h
      simp only [R.bind_ok] at h ⊢
      intro μ2 H2 e2 r2 vs rvs
      exact k d d2 S2 μ2 H2 r2 (Aft.mono h e2) vs rvs
theorem i_any (hH : Hold Γ W md k X) (ha : PE X a (tE Γ W ca)) : PI X tg a (tI Γ W (.any ca)) :=
  ((pi_list ha).or ((pi_tup ha).or (pi_str ha))).imp fun σ H Rr ⟨μ, env, S, rs, re, h⟩ => by
    simp only [evI] at h
    cases hE : evE Γ.F env ca S with
    | stuck => rw [hE] at h; exact h.elim
    | exc x S1 =>
      rw [hE] at h
      exact .inl ⟨μ, env, S, rs, re, by rw [hE]; exact h⟩
    | ok d S1 =>
      rw [hE] at h
      cases d with
      | tup ds =>
        refine .inr (.inl ⟨μ, env, S, rs, re, ?_⟩)
        rw [hE]
        refine aft_at h fun d' S' μ1 H1 eq e1 r1 h1 v rv => ?_
        cases eq
        cases rv with
        | tup q r => exact ⟨_, rfl, ⟨_, hH.hK ▸ q⟩, hH.hK ▸ h1.now r1 _ (src_tup q r)⟩
      | rol ds =>
        refine .inl ⟨μ, env, S, rs, re, ?_⟩
        rw [hE]
        refine aft_at h fun d' S' μ1 H1 eq e1 r1 h1 v rv => ?_
        cases eq
        cases rv with
        | rol q r => exact ⟨_, rfl, ⟨_, hH.hK ▸ q.sq⟩, hH.hK ▸ h1.now r1 _ (src_rol q r)⟩
      | str z =>
        refine .inr (.inr ⟨μ, env, S, rs, re, ?_⟩)
        rw [hE]
        refine aft_at h fun d' S' μ1 H1 eq e1 r1 h1 v rv => ?_
        cases eq
        cases rv
        exact ⟨_, rfl, h1.now r1 _ (src_str z)⟩
      | ref n =>
        refine .inl ⟨μ, env, S, rs, re, ?_⟩
        rw [hE]
        refine aft_at h fun d' S' μ1 H1 eq e1 r1 h1 v rv => ?_
        cases eq
        simp only at h1
        split at h1
        next es hd =>
          cases rv with
          | ref q =>
            obtain ⟨b, ws, g1, g2, g3⟩ := r1.lst hd
            rw [q] at g1; cases g1
            exact ⟨_, rfl, ⟨_, SqL.of g2⟩, hH.hK ▸ h1.now r1 _ (src_ls q)⟩
        · exact h1.elim
      | _ => exact h.elim
theorem i_rng1 {p : Pos} (hg : Gl X "range") (hm : X.mg "range" = none) (hs : nst a = true) (ha : PE X a (tE Γ W ca)) : PI X tg (.Call (.Name "range" p) [a] [] pos) (tI Γ W (.rng1 ca)) :=
  (pi_range1 hg hm (a_cons hs ha a_nil) (by rw [star_of hs]; rfl)).imp fun σ H Rr ⟨μ, env, S, rs, re, h⟩ => by
    refine ⟨μ, env, S, rs, re, ?_⟩
    simp only [evI] at h
    simp only [evEs]
    cases hE : evE Γ.F env ca S with
    | stuck => rw [hE] at h; exact h.elim
    | exc x S1 => rw [hE] at h; exact h
    | ok d S1 =>
      rw [hE] at h
      simp only [R.bind_ok] at h ⊢
      intro μ1 H1 e1 r1 vs rvs
      have h1 := Aft.mono h e1
      split at h1
      next j =>
        split at h1
        next hj =>
          simp only [rngOk, Bool.and_eq_true, decide_eq_true_eq] at hj
          cases rvs with
          | cons rv rn =>
            cases rv; cases rn
            exact ⟨j, rfl, by omega, by omega, h1.now r1 _ (src_rng 0 _)⟩
        · exact h1.elim
      · exact h1.elim
theorem i_rng2 {p : Pos} (hg : Gl X "range") (hm : X.mg "range" = none) (hs : nst a = true) (hs2 : nst b = true) (ha : PE X a (tE Γ W ca)) (hb : PE X b (tE Γ W cb)) : PI X tg (.Call (.Name "range" p) [a, b] [] pos) (tI Γ W (.rng2 ca cb)) :=
  (pi_range2 hg hm (a_cons hs ha (a_cons hs2 hb a_nil)) (by rw [star_of hs, star_of hs2]; rfl) (by rw [star_of hs2]; rfl)).imp fun σ H Rr ⟨μ, env, S, rs, re, h⟩ => by
    refine ⟨μ, env, S, rs, re, ?_⟩
    simp only [evI] at h
    simp only [evEs]
    refine aft_pair h fun d d2 S2 μ2 H2 r2 h2 vs rvs => ?_
    split at h2
    next i j =>
      split at h2
      next hj =>
        simp only [rngOk, Bool.and_eq_true, decide_eq_true_eq] at hj
        cases rvs with
        | cons rv rn =>
          cases rn with
          | cons rv2 rn =>
            cases rv; cases rv2; cases rn
            exact ⟨i, j, rfl, ⟨by omega, by omega, by omega, by omega⟩, h2.now r2 _ (src_rng i _)⟩
      · exact h2.elim
    · exact h2.elim
theorem i_rng3 {p : Pos} {c : PySem.Expr} (hg : Gl X "range") (hm : X.mg "range" = none) (hs : nst a = true) (hs2 : nst b = true) (hs3 : nst c = true) (hc : PE X c (tC (.int (-1)))) (ha : PE X a (tE Γ W ca)) (hb : PE X b (tE Γ W cb)) :
    PI X tg (.Call (.Name "range" p) [a, b, c] [] pos) (tI Γ W (.rng3 ca cb (-1))) :=
  (pi_range3 hg hm (pa_cons ha (pa_cons hb (pa_cons hc pa_nil (star_of hs3)) (star_of hs2)) (star_of hs)) (star_of hs) (stars_of fun e he => by simp at he; rcases he with rfl | rfl <;> assumption)).imp fun σ H Rr ⟨μ, env, S, rs, re, h⟩ => by
    refine ⟨μ, env, S, rs, re, ?_⟩
    simp only [evI] at h
    refine h.bind fun d S1 μ1 H1 e1 r1 h1 v rv => ⟨μ1, env, S1, r1, re.mono e1, h1.bind fun d2 S2 μ2 H2 e2 r2 h2 v2 rv2 => ?_⟩
    split at h2
    next i j =>
      split at h2
      next hj =>
        simp only [rngOk, Bool.and_eq_true, decide_eq_true_eq] at hj
        cases rv; cases rv2
        exact ⟨i, j, -1, _, rfl, RgC.neg (by omega) (by omega) (by omega) (by omega), h2.now r2 _ (src_rngC i (-1) _)⟩
      · exact h2.elim
    · exact h2.elim
theorem src_enT {a : Addr} {ds : List D} {vs : List V} {μ : List Addr} {H : Hp} (q : SqT Γ.K H a vs) (r : RepVs Γ.K μ H ds vs) : SrcOk Γ (.st (enumD ds)) (IteT Γ.K a) μ H where
  stop := fun i μ' H' S S' e rs h => by
    simp only [Src.nx, R.ok.injEq, enumD] at h
    have := List.getElem?_eq_none_iff.mp h.1
    simp only [List.length_map, List.length_zipIdx] at this
    exact ⟨vs, e.sqT q, by rw [← r.length]; exact this⟩
  go := fun i μ' H' S S' d e rs h => by
    simp only [Src.nx, R.ok.injEq, enumD, List.getElem?_map, List.getElem?_zipIdx, Option.map_map, Option.map_eq_some_iff, Function.comp_def, Nat.zero_add] at h
    obtain ⟨⟨d', h1, rfl⟩, _⟩ := h
    obtain ⟨v, hv, rv⟩ := r.get h1
    refine ⟨⟨vs, v, e.sqT q, hv⟩, fun x H2 y => ?_⟩
    obtain ⟨T, x', rfl, hT, rfl, y⟩ := y
    have := y vs (e.sqT q)
    rw [hv] at this; cases this
    exact pair_new rs hT (.int _) (rv.mono e)
theorem src_enS {x : Str} {μ : List Addr} {H : Hp} : SrcOk Γ (.st (enumD (strItems x))) (IteS x) μ H where
  stop := fun i μ' H' S S' e rs h => by
    simp only [Src.nx, R.ok.injEq, enumD, strItems] at h
    have := List.getElem?_eq_none_iff.mp h.1
    simp only [List.length_map, List.length_zipIdx, Array.length_toList] at this
    exact this
  go := fun i μ' H' S S' d e rs h => by
    simp only [Src.nx, R.ok.injEq, enumD, strItems, List.getElem?_map, List.getElem?_zipIdx, Option.map_map, Option.map_eq_some_iff, Function.comp_def, Nat.zero_add, Array.getElem?_toList] at h
    obtain ⟨⟨d', h1, rfl⟩, _⟩ := h
    refine ⟨(Array.getElem?_eq_some_iff.mp h1).1, fun v H2 y => ?_⟩
    obtain ⟨T, c, rfl, hT, hc, rfl⟩ := y
    rw [h1] at hc; cases hc
    exact pair_new rs hT (.int _) (.str _)
/-- enumerate of a list, of a tuple, of a text -/
theorem i_enu {p tpos : Pos} {elts : List PySem.Expr} {kk : Nat} (hH : Hold Γ W md k X) (hg : Gl X "enumerate") (hm : X.mg "enumerate" = none) (hs : nst a = true) (ha : PE X a (tE Γ W ca)) :
    PI X (.Tuple elts kk tpos) (.Call (.Name "enumerate" p) [a] [] pos) (tI Γ W (.enu ca)) :=
  ((pi_enum hg hm (a_cons hs ha a_nil) (by rw [star_of hs]; rfl)).or ((pi_enumT hg hm (a_cons hs ha a_nil) (by rw [star_of hs]; rfl)).or (pi_enumS hg hm (a_cons hs ha a_nil) (by rw [star_of hs]; rfl)))).imp fun σ H Rr ⟨μ, env, S, rs, re, h⟩ => by
    simp only [evI] at h
    cases hE : evE Γ.F env ca S with
    | stuck => rw [hE] at h; exact h.elim
    | exc x S1 =>
      rw [hE] at h
      exact .inl ⟨μ, env, S, rs, re, by simp only [evEs]; rw [hE]; exact h⟩
    | ok d S1 =>
      rw [hE] at h
      simp only [R.bind_ok] at h
      cases d with
      | str z =>
        refine .inr (.inr ⟨μ, env, S, rs, re, ?_⟩)
        simp only [evEs]
        rw [hE]
        simp only [R.bind_ok]
        intro μ1 H1 e1 r1 vs rvs
        have h1 := Aft.mono h e1
        cases rvs with
        | cons rv rn =>
          cases rn
          cases rv
          exact ⟨_, rfl, h1.now r1 _ src_enS⟩
      | tup ds =>
        refine .inr (.inl ⟨μ, env, S, rs, re, ?_⟩)
        simp only [evEs]
        rw [hE]
        simp only [R.bind_ok]
        intro μ1 H1 e1 r1 vs rvs
        have h1 := Aft.mono h e1
        cases rvs with
        | cons rv rn =>
          cases rn
          cases rv with
          | tup q r => exact ⟨_, _, rfl, hH.hK ▸ q, hH.hK ▸ h1.now r1 _ (src_enT q r)⟩
      | ref n =>
        refine .inl ⟨μ, env, S, rs, re, ?_⟩
        simp only [evEs]
        rw [hE]
        simp only [R.bind_ok]
        intro μ1 H1 e1 r1 vs rvs
        have h1 := Aft.mono h e1
        simp only at h1
        split at h1
        next es hd =>
          cases rvs with
          | cons rv rn =>
            cases rn
            cases rv with
            | ref q =>
              obtain ⟨b, ws, g1, g2, g3⟩ := r1.lst hd
              rw [q] at g1; cases g1
              exact ⟨_, _, rfl, SqL.of g2, hH.hK ▸ h1.now r1 _ (src_en q)⟩
        · exact h1.elim
      | _ => exact h.elim
/-- zip of two tuples -/
theorem i_zip {p tpos : Pos} {elts : List PySem.Expr} {kk : Nat} (hH : Hold Γ W md k X) (hg : Gl X "zip") (hm : X.mg "zip" = none) (hs : nst a = true) (hs2 : nst b = true) (ha : PE X a (tE Γ W ca)) (hb : PE X b (tE Γ W cb)) :
    PI X (.Tuple elts kk tpos) (.Call (.Name "zip" p) [a, b] [] pos) (tI Γ W (.zip ca cb)) :=
  (RZ.pi_zipA hg hm (a_cons hs ha (a_cons hs2 hb a_nil)) (by rw [star_of hs, star_of hs2]; try rfl) (by rw [star_of hs2]; try rfl)).imp fun σ H Rr ⟨μ, env, S, rs, re, h⟩ => by
    refine ⟨μ, env, S, rs, re, ?_⟩
    simp only [evI] at h
    simp only [evEs]
    refine aft_pair h fun d d2 S2 μ2 H2 r2 h2 vs rvs => ?_
    split at h2
    next us ws =>
      cases rvs with
      | cons rv rn =>
        cases rn with
        | cons rv2 rn =>
          cases rn
          cases rv with
          | tup q r =>
            cases rv2 with
            | tup q2 r2' => exact ⟨_, _, _, _, rfl, .inr ⟨hH.hK ▸ q, hH.hK ▸ q2, hH.hK ▸ h2.now r2 _ (src_zipT q r q2 r2')⟩⟩
    · exact h2.elim

/-! ### comprehensions -/
theorem wipe_len (env : Env) : ∀ vs, (wipeE env vs).length = env.length
  | [] => rfl
  | v :: vs => by unfold wipeE; rw [List.length_set, wipe_len env vs]
theorem noexc_bind {α β γ : Type} (r : R α) (f : α → Store → R β) (g : β → Store → R γ) : (r.bind f).noexc.bind g = r.noexc.bind fun a S => (f a S).noexc.bind g := by
  cases r <;> rfl
/-- no exception comes of a comprehension's block -/
theorem aft_blk {α β : Type} {E E' : XK} {μ μ1 : List Addr} {H H1 : Hp} {P : β → Store → List Addr → Hp → Prop} {P' : α → Store → List Addr → Hp → Prop} {r : R α} {f : α → Store → R β} (h : Aft Γ E μ H P (r.noexc.bind f)) (e : Ext μ H μ1 H1)
    (k : ∀ a S' μ' H', Ext μ1 H1 μ' H' → RepS Γ.K μ' H' S' → Aft Γ E μ H P (f a S') → P' a S' μ' H') : Aft Γ E' μ1 H1 P' r := by
  cases r with
  | ok a S' => exact fun μ' H' e' r => k a S' μ' H' e' r h
  | exc x S' => exact h.elim
  | stuck => exact h.elim
abbrev W0 : WX := fun _ _ _ _ => False
theorem wipe_get (σ : L2.St) : ∀ (vs : List Nat) (i : Nat), (L2.wipe σ vs)[i]? = if i ∈ vs then (if i < σ.length then some none else none) else σ[i]?
  | [], i => by simp [L2.wipe]
  | v :: vs, i => by
    unfold L2.wipe
    by_cases h : v = i
    · subst h
      by_cases hl : v < σ.length
      · rw [List.getElem?_set_self (by rw [wipe_length]; exact hl)]; simp [hl]
      · rw [List.getElem?_eq_none (by simp [wipe_length]; omega)]; simp [hl]
    · rw [List.getElem?_set_ne h, wipe_get σ vs i]
      have : (i ∈ v :: vs) ↔ i ∈ vs := by simp [Ne.symm h]
      simp only [this]
theorem wipe_sm {l vs : List Nat} {σ σ' : L2.St} (h : Sm l (L2.wipe σ vs) σ') (hl : ∀ i ∈ l, i ∈ vs) : L2.wipe σ' vs = L2.wipe σ vs := by
  apply List.ext_getElem?
  intro i
  have hlen := h.1
  rw [wipe_length] at hlen
  rw [wipe_get, wipe_get, hlen]
  by_cases hi : i ∈ vs
  · simp [hi]
  · simp only [hi, if_false]
    rw [h.2 i fun z => hi (hl i z), wipe_get]
    simp [hi]

theorem e_lc (hH : Hold Γ W md k X) (hcx : Γ.cx = none) {elt tgt iter : PySem.Expr} {ifs : List PySem.Expr} {scope : Scope} {own : List (Str × Nat)} {ce : E} {ct : Tg} {cs : I} {cc : Oe} (hi : PI X tgt iter (tI Γ W cs)) (ok : BlkOk X.N X.env.scope scope own) (hsl : ∀ i ∈ slT ct, i ∈ own.map (·.2))
    (hg : ∀ (s : Shared) (H : Hp) (C : Addr) (cl : List (Str × Addr)) (fp : List Addr), PG (X.blk s H scope (compEnvC scope cl C X.env) fp) tgt (tG Γ ct))
    (ht : ∀ (s : Shared) (H : Hp) (C : Addr) (cl : List (Str × Addr)) (fp : List Addr), PTs (X.blk s H scope (compEnvC scope cl C X.env) fp) ifs (tOT Γ W0 cc))
    (he : ∀ (s : Shared) (H : Hp) (C : Addr) (cl : List (Str × Addr)) (fp : List Addr), PE (X.blk s H scope (compEnvC scope cl C X.env) fp) elt (tE Γ W0 ce)) (hs : ∀ x, foldedSetIterable iter X.env x = pure x) :
    (∀ σ H Q, tE Γ W (.lc ce ct cs cc (own.map (·.2))) σ H Q → tLc (tI Γ W cs) (tG Γ ct) (tOT Γ W0 cc) (tE Γ W0 ce) (own.map (·.2)) σ H Q) := by
  rintro σ H Q ⟨μ, env, S, rs, re, h⟩
  refine ⟨μ, env, S, rs, re, h.bind fun src S1 μ1 H1 e1 r1 h1 J hJ Dl hD => ?_⟩
  -- the block's turns: n left, i gone, acc told so far
  refine ⟨fun i m Hc => ∃ acc vs μc Sc, RepS Γ.K μc Hc Sc ∧ Ext μ1 H1 μc Hc ∧ Hc Dl = some (.lst vs) ∧ RepVs Γ.K μc Hc acc vs ∧ Dl ∉ μc ∧
    Aft Γ (atS W σ) μ1 H1 (QV Γ Q) ((lcGo src.nx (fun d S => asgT S ct d (wipeE env (own.map (·.2)))) (fun env S => evOT Γ.F env cc S) (fun env S => evE Γ.F env ce S) m i acc Sc).noexc.bind fun ds S => newL ds S), ?_, ?_⟩
  · refine ⟨wmax, [], [], μ1, S1, r1.new hD, Ext.new hD, upd_same, .nil, r1.fresh hD, h1⟩
  · rintro i m Hc ⟨acc, vs, μc, Sc, rc, ec, hDl, ra, nD, hA⟩
    cases m with
    | zero => exact hA.elim
    | succ m =>
      have rE : RepE Γ μc Hc (L2.wipe σ (own.map (·.2))) (wipeE env (own.map (·.2))) := RepE.wipe hcx ((re.mono e1).mono ec) _
      simp only [lcGo] at hA
      cases hn : src.nx i Sc with
      | stuck => rw [hn] at hA; exact hA.elim
      | exc x S' => exact absurd hn nx_noexc
      | ok o S' =>
        have := nx_same hn
        subst this
        rw [hn] at hA
        simp only [R.bind_ok] at hA
        cases o with
        | none =>
          refine .inl ⟨hJ.stop i μc Hc _ _ ec rc hn, ?_⟩
          simp only [R.noexc_ok, R.bind_ok] at hA
          -- the list at Dl becomes a cell
          have e3 : Ext μ1 H1 (μc ++ [Dl]) Hc := by
            obtain ⟨t, rfl, ft⟩ := ec.pre
            exact ⟨⟨t ++ [Dl], by simp, fun b hb => by
              rcases List.mem_append.mp hb with hb | hb
              · exact ft b hb
              · simp at hb; subst hb; exact hD⟩, ec.keep, ec.live, ec.tups, ec.frzs⟩
          have w3 : Wk μc Hc (μc ++ [Dl]) Hc := ⟨fun n a q => List.getElem?_append_left (List.getElem?_eq_some_iff.mp q).1 ▸ q, fun _ _ q => q, fun _ _ _ q => q⟩
          have r3 : RepS Γ.K (μc ++ [Dl]) Hc (S' ++ [.lst acc]) := by
            refine ⟨by simp [rc.len], ?_, fun n c q => ?_⟩
            · rw [List.nodup_append]
              refine ⟨rc.nd, by simp, fun a ha b hb z => ?_⟩
              simp at hb; subst hb; subst z
              exact nD ha
            · by_cases hl : n < S'.length
              · rw [List.getElem?_append_left hl] at q
                obtain ⟨a, g1, g2⟩ := rc.cell n c q
                refine ⟨a, w3.get n a g1, ?_⟩
                cases c with
                | lst ds => obtain ⟨ws, g3, g4⟩ := g2; exact ⟨ws, g3, g4.wk w3⟩
                | dic kvs => obtain ⟨ws, g3, g4, g5⟩ := g2; exact ⟨ws, g3, g4, g5.wk w3⟩
                | oth => exact g2
              · have hn' : n = S'.length := by
                  have := (List.getElem?_eq_some_iff.mp q).1
                  simp at this; omega
                subst hn'
                rw [List.getElem?_append_right (Nat.le_refl _)] at q
                simp at q; subst q
                exact ⟨Dl, by rw [← rc.len]; simp, vs, hDl, ra.wk w3⟩
          exact hA (μc ++ [Dl]) Hc e3 r3 _ (.ref (by rw [← rc.len]; simp))
        | some d =>
          obtain ⟨hgo, hyld⟩ := hJ.go i μc Hc _ _ d ec rc hn
          refine .inr ⟨hgo, fun H' => ∃ acc vs μc Sc, RepS Γ.K μc H' Sc ∧ Ext μ1 H1 μc H' ∧ H' Dl = some (.lst vs) ∧ RepVs Γ.K μc H' acc vs ∧ Dl ∉ μc ∧
            Aft Γ (atS W σ) μ1 H1 (QV Γ Q) ((lcGo src.nx (fun d S => asgT S ct d (wipeE env (own.map (·.2)))) (fun env S => evOT Γ.F env cc S) (fun env S => evE Γ.F env ce S) m (i + 1) acc Sc).noexc.bind fun ds S => newL ds S), fun H' w => ⟨m, Nat.lt_succ_self m, w⟩, fun x H' y => ?_⟩
          obtain ⟨e4, r4, rd, same⟩ := hyld x H' y
          have hD4 : H' Dl = some (.lst vs) := by rw [same Dl (by rw [hDl]; simp)]; exact hDl
          simp only at hA
          split at hA
          · exact hA.elim
          next env1 hasg =>
            refine ⟨μc, _, _, d, env1, r4, rE.mono e4, rd, hasg, fun σ2 re2 sm2 => ⟨wipe_sm sm2 hsl, μc, env1, _, r4, re2, ?_⟩⟩
            rw [noexc_bind] at hA
            refine aft_blk hA (ec.trans e4) fun b S5 μ5 H5 e5 r5 hA5 => ?_
            have hD5 : H5 Dl = some (.lst vs) := e5.keep Dl _ hD4 nD
            have nD5 : Dl ∉ μ5 := by
              obtain ⟨t, rfl, ft⟩ := e5.pre
              intro z
              rcases List.mem_append.mp z with z | z
              · exact nD z
              · rw [ft Dl z] at hD4; cases hD4
            cases b with
            | false =>
              simp only [Bool.false_eq_true, if_false] at hA5 ⊢
              exact ⟨acc, vs, μ5, S5, r5, (ec.trans e4).trans e5, hD5, ra.mono (e4.trans e5), nD5, hA5⟩
            | true =>
              simp only [if_true] at hA5 ⊢
              rw [noexc_bind] at hA5
              refine ⟨μ5, env1, S5, r5, re2.mono e5, ?_⟩
              refine aft_blk hA5 ((ec.trans e4).trans e5) fun dx S6 μ6 H6 e6 r6 hA6 y6 ry => ?_
              have hD6 : H6 Dl = some (.lst vs) := e6.keep Dl _ hD5 nD5
              have nD6 : Dl ∉ μ6 := by
                obtain ⟨t, rfl, ft⟩ := e6.pre
                intro z
                rcases List.mem_append.mp z with z | z
                · exact nD5 z
                · rw [ft Dl z] at hD5; cases hD5
              split at hA6
              next hlen =>
                have ra6 := ra.mono ((e4.trans e5).trans e6)
                refine ⟨vs, hD6, by rw [← ra6.length]; exact hlen, acc ++ [dx], vs ++ [y6], μ6, S6, r6.other hD6 nD6, ?_, upd_same, ?_, nD6, hA6⟩
                · have e7 := ((ec.trans e4).trans e5).trans e6
                  refine ⟨e7.pre, fun b o q n => ?_, fun b q => ?_, fun b xs q => ?_, fun b o u q => ?_⟩
                  · rw [upd_ne (fun z => by rw [z, hD] at q; cases q)]; exact e7.keep b o q n
                  · by_cases z : b = Dl
                    · subst z; rw [upd_same]; simp
                    · rw [upd_ne z]; exact e7.live b q
                  · rw [upd_ne (fun z => by rw [z, hD] at q; cases q)]; exact e7.tups b xs q
                  · rw [upd_ne (fun z => by rw [z, hD] at q; cases q)]; exact e7.frzs b o u q
                · exact (ra6.append (.cons ry .nil)).wk (Wk.other hD6)
              · exact hA6.elim
end
end PD
end

section
set_option linter.all false
set_option maxRecDepth 100000
set_option maxHeartbeats 1000000
/-! PDstm: a rule for each form of statement. -/
namespace PD
open PySem L2

def AftS (Γ : Gd) (W : WX) (μ : List Addr) (H : Hp) (D : Ends) (o : Out) : Prop :=
  match o with
  | .nx env S' => ∀ μ' H' σ', Ext μ H μ' H' → RepS Γ.K μ' H' S' → RepE Γ μ' H' σ' env → D.nx σ' H'
  | .bk env S' => ∀ μ' H' σ', Ext μ H μ' H' → RepS Γ.K μ' H' S' → RepE Γ μ' H' σ' env → D.bk σ' H'
  | .ct env S' => ∀ μ' H' σ', Ext μ H μ' H' → RepS Γ.K μ' H' S' → RepE Γ μ' H' σ' env → D.ct σ' H'
  | .rt d S' => ∀ μ' H' v, Ext μ H μ' H' → RepS Γ.K μ' H' S' → RepV Γ.K μ' H' d v → D.rt v H'
  | .ex x env S' => ∀ μ' H' σ' cls dd, Ext μ H μ' H' → RepS Γ.K μ' H' S' → RepE Γ μ' H' σ' env → RepX Γ μ' H' x cls dd → W cls dd σ' H'
  | .stuck => False
def tS (Γ : Gd) (W : WX) (st : T) : TS := fun D σ H => ∃ μ env S, RepS Γ.K μ H S ∧ RepE Γ μ H σ env ∧ AftS Γ W μ H D (exT Γ.F st env S)
def tSs (Γ : Gd) (W : WX) (st : Ts) : TS := fun D σ H => ∃ μ env S, RepS Γ.K μ H S ∧ RepE Γ μ H σ env ∧ AftS Γ W μ H D (exTs Γ.F st env S)

section
variable {Γ : Gd} {W : WX} {μ μ1 : List Addr} {H H1 : Hp} {D : Ends}
theorem AftS.mono {o : Out} (h : AftS Γ W μ H D o) (e : Ext μ H μ1 H1) : AftS Γ W μ1 H1 D o := by
  cases o with
  | nx env S' => exact fun μ' H' σ' e' => h μ' H' σ' (e.trans e')
  | bk env S' => exact fun μ' H' σ' e' => h μ' H' σ' (e.trans e')
  | ct env S' => exact fun μ' H' σ' e' => h μ' H' σ' (e.trans e')
  | rt d S' => exact fun μ' H' v e' => h μ' H' v (e.trans e')
  | ex x env S' => exact fun μ' H' σ' cls dd e' => h μ' H' σ' cls dd (e.trans e')
  | stuck => exact h
/-- a value ahead of a statement's end -/
theorem AftS.out {α : Type} {r : R α} {env : Env} {σ : L2.St} {f : α → Store → Out} {P : α → Store → List Addr → Hp → Prop} (re : RepE Γ μ H σ env) (h : AftS Γ W μ H D (r.out env f))
    (k : ∀ a S' μ' H', Ext μ H μ' H' → RepS Γ.K μ' H' S' → AftS Γ W μ' H' D (f a S') → P a S' μ' H') : Aft Γ (atS W σ) μ H P r := by
  cases r with
  | ok a S' => exact fun μ' H' e r => k a S' μ' H' e r (AftS.mono h e)
  | exc x S' => exact fun μ' H' cls dd e r rx => h μ' H' σ cls dd e r (re.mono e) rx
  | stuck => exact h
theorem AftS.nxt {env : Env} {S : Store} {σ : L2.St} (h : AftS Γ W μ H D (.nx env S)) (rs : RepS Γ.K μ H S) (re : RepE Γ μ H σ env) : D.nx σ H := h μ H σ (Ext.refl _ _) rs re
end

section
variable {Γ : Gd} {W : WX} {md : Md} {k : Nat} {X : Cx} {pos : Pos} {a b c tg : PySem.Expr} {ca cb cc : E} {st : PySem.Stmt} {ct : T} {cs : Ts}
/-! blocks -/
theorem ss_nil : PSs X [] (tSs Γ W .nil) := ⟨fun pins s σ H D I ⟨μ, env, S, rs, re, h⟩ => pss_nil.run pins s σ H D I (AftS.nxt h rs re)⟩
theorem _root_.L2.PSs.imp {st : List PySem.Stmt} {t t' : TS} (h : PSs X st t) (k : ∀ D σ H, t' D σ H → t D σ H) : PSs X st t' := ⟨fun pins s σ H D I q => h.run pins s σ H D I (k D σ H q)⟩
theorem ss_cons {rest : List PySem.Stmt} (h1 : PS X st (tS Γ W ct)) (h2 : PSs X rest (tSs Γ W cs)) : PSs X (st :: rest) (tSs Γ W (.cons ct cs)) :=
  (pss_cons h1 h2).imp fun D σ H ⟨μ, env, S, rs, re, h⟩ => ⟨μ, env, S, rs, re, by
    simp only [exTs] at h
    cases hO : exT Γ.F ct env S with
    | nx env' S' => rw [hO] at h; exact fun μ' H' σ' e r re' => ⟨μ', env', S', r, re', AftS.mono h e⟩
    | rt d S' => rw [hO] at h; exact h
    | bk env' S' => rw [hO] at h; exact h
    | ct env' S' => rw [hO] at h; exact h
    | ex x env' S' => rw [hO] at h; exact h
    | stuck => rw [hO] at h; exact h.elim⟩

/-! small statements -/
theorem s_pas : PS X (.Pass pos) (tS Γ W .pas) := ps_pass.imp fun D σ H ⟨μ, env, S, rs, re, h⟩ => AftS.nxt h rs re
theorem s_brk : PS X (.Break pos) (tS Γ W .brk) := ps_break.imp fun D σ H ⟨μ, env, S, rs, re, h⟩ => h μ H σ (Ext.refl _ _) rs re
theorem s_cnt : PS X (.Continue pos) (tS Γ W .cnt) := ps_continue.imp fun D σ H ⟨μ, env, S, rs, re, h⟩ => h μ H σ (Ext.refl _ _) rs re
theorem s_nev : PS X st (tS Γ W .nev) := ps_never.imp fun D σ H ⟨μ, env, S, rs, re, h⟩ => h
theorem s_exp (ha : PE X a (tE Γ W ca)) (hs : swapsWith a none pos.line X.env = pure false) : PS X (.Expr a pos) (tS Γ W (.exp ca)) :=
  (ps_expr ha hs).imp fun D σ H ⟨μ, env, S, rs, re, h⟩ => ⟨μ, env, S, rs, re, AftS.out re h fun d S1 μ1 H1 e1 r1 h1 v rv => AftS.nxt h1 r1 (re.mono e1)⟩
theorem s_ret (ha : PE X a (tE Γ W ca)) : PS X (.Return (some a) pos) (tS Γ W (.ret ca)) :=
  (ps_ret ha).imp fun D σ H ⟨μ, env, S, rs, re, h⟩ => ⟨μ, env, S, rs, re, AftS.out re h fun d S1 μ1 H1 e1 r1 h1 v rv => h1 μ1 H1 v (Ext.refl _ _) r1 rv⟩
theorem s_retN : PS X (.Return none pos) (tS Γ W .retN) := ps_retN.imp fun D σ H ⟨μ, env, S, rs, re, h⟩ => h μ H _ (Ext.refl _ _) rs .non
theorem s_if {sa sb : List PySem.Stmt} {csa csb : Ts} (hc : PT X c (tT Γ W cc)) (ha : PSs X sa (tSs Γ W csa)) (hb : PSs X sb (tSs Γ W csb)) : PS X (.If c sa sb pos) (tS Γ W (.iff cc csa csb)) :=
  (ps_if hc ha hb).imp fun D σ H ⟨μ, env, S, rs, re, h⟩ => ⟨μ, env, S, rs, re, AftS.out re h fun b S1 μ1 H1 e1 r1 h1 => by
    cases b with
    | true => exact ⟨μ1, env, S1, r1, re.mono e1, h1⟩
    | false => exact ⟨μ1, env, S1, r1, re.mono e1, h1⟩⟩

/-! stores -/
theorem asg_of {t : Tg} {D : Ends} {σ : L2.St} {H : Hp} {μ : List Addr} {env : Env} {S : Store} (rs : RepS Γ.K μ H S) (re : RepE Γ μ H σ env) (h : AftS Γ W μ H D (exT Γ.F (.asg t ca) env S)) : tAsg (tE Γ W ca) (tG Γ t) D σ H :=
  ⟨μ, env, S, rs, re, AftS.out re h fun d S1 μ1 H1 e1 r1 h1 v rv => by
    split at h1
    next env' he => exact ⟨μ1, env, S1, d, env', r1, re.mono e1, rv, he, fun σ' re' _ => AftS.nxt h1 r1 re'⟩
    · exact h1.elim⟩
theorem s_asg {t : Tg} (ha : PE X a (tE Γ W ca)) (hg : PG X tg (tG Γ t)) (hn : nst tg = true) (hs : swapsWithSole [tg] a pos.line X.env = pure false) (hw : swappedStores [tg] a X.env = pure none) : PS X (.Assign [tg] a pos) (tS Γ W (.asg t ca)) :=
  (ps_asg ha hg hs hw (by rw [asgEach_cons hn]; rfl)).imp fun D σ H ⟨μ, env, S, rs, re, h⟩ => asg_of rs re h
theorem s_seti (hH : Hold Γ W md k X) (ho : PE X a (tE Γ W ca)) (hi : PE X b (tE Γ W cb)) (he : PE X c (tE Γ W cc)) {ipos : Pos} (hs : swapsWithSole [.Subscript a b ipos] c pos.line X.env = pure false) (hw : swappedStores [.Subscript a b ipos] c X.env = pure none)
    (hx : ∀ v, assign (.Subscript a b ipos) X.env v = (do
      let ov ← holding [v] (eval a X.env)
      let iv ← holding [v, ov] (eval b X.env)
      standAt ipos
      holding [v, ov, iv] (setItem ov iv v)
      release [v, ov, iv] [])) : PS X (.Assign [.Subscript a b ipos] c pos) (tS Γ W (.seti ca cb cc)) :=
  (ps_asg he (pg_sub ho hi (op_set (Γ := Γ) (by have := hH.units; omega)) hx) hs hw rfl).imp fun D σ H ⟨μ, env, S, rs, re, h⟩ =>
    ⟨μ, env, S, rs, re, AftS.out re h fun d S1 μ1 H1 e1 r1 h1 v rv => ⟨μ1, env, S1, r1, re.mono e1, AftS.out (re.mono e1) h1 fun d2 S2 μ2 H2 e2 r2 h2 o ro =>
      ⟨μ2, env, S2, r2, re.mono (e1.trans e2), AftS.out (re.mono (e1.trans e2)) h2 fun d3 S3 μ3 H3 e3 r3 h3 i ri =>
        ⟨_, μ3, S3, d2, d3, d, r3, ro.mono e3, ri, rv.mono (e2.trans e3), AftS.out (σ := σ) (re.mono ((e1.trans e2).trans e3)) h3 fun _ S4 μ4 H4 e4 r4 h4 => AftS.nxt h4 r4 (re.mono (((e1.trans e2).trans e3).trans e4))⟩⟩⟩⟩
theorem s_aug (hH : Hold Γ W md k X) {i : Nat} {x : Str} {o : Operator} {p : Pos} (hi : X.N[i]? = some x) (hx : Loc X.env.scope x) (hf : X.fn x = true ∨ X.env.scope.names.lookup x = some .local) (ha : PE X a (tE Γ W ca)) : PS X (.AugAssign (.Name x p) o a pos) (tS Γ W (.aug i o ca)) :=
  (ps_aug hH.nd hi hx ha (op_aug (Γ := Γ) o) hf).imp fun D σ H ⟨μ, env, S, rs, re, h⟩ => by
    simp only [exT] at h
    split at h
    next d hd =>
      obtain ⟨v, hv, rv⟩ := re.slot i d hd
      exact ⟨v, hv, μ, env, S, rs, re, AftS.out re h fun d2 S1 μ1 H1 e1 r1 h1 w rw => ⟨_, μ1, S1, d, d2, r1, rv.mono e1, rw, AftS.out (σ := σ) (re.mono e1) h1 fun z S2 μ2 H2 e2 r2 h2 u ru =>
        AftS.nxt h2 r2 ((re.mono (e1.trans e2)).set ru)⟩⟩
    · exact h.elim
/-- name = [comprehension] on one line -/
theorem s_lc (hH : Hold Γ W md k X) (hh : md.hot = false) {i : Nat} {y : Str} {py pc : Pos} {elt tgt iter : PySem.Expr} {ifs : List PySem.Expr} {scope : Scope} {own : List (Str × Nat)} {ce : E} {ctg : Tg} {csr : I} {cif : Oe} (hy : X.N[i]? = some y) (hyl : X.env.scope.names.lookup y = some .local)
    (hsw : swapsWith (.ListComp elt [⟨tgt, iter, ifs, 0⟩] scope pc) (some (.Name y py)) pos.line X.env = pure true)
    (hi : PI X tgt iter (tI Γ W csr)) (ok : BlkOk X.N X.env.scope scope own) (hsl : ∀ i ∈ slT ctg, i ∈ own.map (·.2))
    (hg : ∀ (s : Shared) (H : Hp) (C : Addr) (cl : List (Str × Addr)) (fp : List Addr), PG (X.blk s H scope (compEnvC scope cl C X.env) fp) tgt (tG Γ ctg))
    (ht : ∀ (s : Shared) (H : Hp) (C : Addr) (cl : List (Str × Addr)) (fp : List Addr), PTs (X.blk s H scope (compEnvC scope cl C X.env) fp) ifs (tOT Γ W0 cif))
    (he : ∀ (s : Shared) (H : Hp) (C : Addr) (cl : List (Str × Addr)) (fp : List Addr), PE (X.blk s H scope (compEnvC scope cl C X.env) fp) elt (tE Γ W0 ce)) (hs : ∀ x, foldedSetIterable iter X.env x = pure x) :
    PS X (.Assign [.Name y py] (.ListComp elt [⟨tgt, iter, ifs, 0⟩] scope pc) pos) (tS Γ W (.asg (.nm i) (.lc ce ctg csr cif (own.map (·.2))))) :=
  (ps_setLc (hH.calm hh) hH.nd hy hyl hsw hi ok hg ht he hs).imp fun D σ H ⟨μ, env, S, rs, re, h⟩ =>
    e_lc hH (hH.cx hh) hi ok hsl hg ht he hs σ H _ ⟨μ, env, S, rs, re, AftS.out re h fun d S1 μ1 H1 e1 r1 h1 v rv => by
      simp only [asgT] at h1
      exact AftS.nxt h1 r1 ((re.mono e1).set rv)⟩
theorem e_lcv (hH : Hold Γ W md k X) (hh : md.hot = false) {elt tgt iter : PySem.Expr} {ifs : List PySem.Expr} {scope : Scope} {own : List (Str × Nat)} {ce : E} {ctg : Tg} {csr : I} {cif : Oe}
    (hi : PI X tgt iter (tI Γ W csr)) (ok : BlkOk X.N X.env.scope scope own) (hsl : ∀ i ∈ slT ctg, i ∈ own.map (·.2))
    (hg : ∀ (s : Shared) (H : Hp) (C : Addr) (cl : List (Str × Addr)) (fp : List Addr), PG (X.blk s H scope (compEnvC scope cl C X.env) fp) tgt (tG Γ ctg))
    (ht : ∀ (s : Shared) (H : Hp) (C : Addr) (cl : List (Str × Addr)) (fp : List Addr), PTs (X.blk s H scope (compEnvC scope cl C X.env) fp) ifs (tOT Γ W0 cif))
    (he : ∀ (s : Shared) (H : Hp) (C : Addr) (cl : List (Str × Addr)) (fp : List Addr), PE (X.blk s H scope (compEnvC scope cl C X.env) fp) elt (tE Γ W0 ce)) (hs : ∀ x, foldedSetIterable iter X.env x = pure x) :
    PE X (.ListComp elt [⟨tgt, iter, ifs, 0⟩] scope pos) (tE Γ W (.lc ce ctg csr cif (own.map (·.2)))) :=
  (pe_lc (hH.calm hh) hH.nd hi ok hg ht he hs).imp fun σ H Q q => e_lc hH (hH.cx hh) hi ok hsl hg ht he hs σ H Q q

/-! a, b = x, y -/
theorem s_par {i j : Nat} {x y : Str} {px py pt : Pos} {kt k2 : Nat} {pt2 : Pos} {ces : Es} (hH : Hold Γ W md k X) (hh : md.hot = false) (hi : X.N[i]? = some x) (hj : X.N[j]? = some y) (hij : i ≠ j)
    (hx : X.env.scope.names.lookup x = some .local) (hy : X.env.scope.names.lookup y = some .local) (ha : PA X [a, b] (tEs Γ W ces))
    (hw : swappedStores [.Tuple [.Name x px, .Name y py] kt pt] (.Tuple [a, b] k2 pt2) X.env = pure (some [x, y])) :
    PS X (.Assign [.Tuple [.Name x px, .Name y py] kt pt] (.Tuple [a, b] k2 pt2) pos) (tS Γ W (.asg (.tp (.cons (.nm i) (.cons (.nm j) .nil))) (.tup ces))) :=
  (ps_par (hH.calm hh) hH.nd hi hj hij hx hy ha hw).imp fun D σ H ⟨μ, env, S, rs, re, h⟩ => ⟨μ, env, S, rs, re, by
    simp only [exT, evE] at h
    cases hE : evEs Γ.F env ces S with
    | stuck => rw [hE] at h; exact h.elim
    | exc x S1 => rw [hE] at h; exact fun μ' H' cls dd e r rx => h μ' H' σ cls dd e r (re.mono e) rx
    | ok ds S1 =>
      rw [hE] at h
      intro μ1 H1 e1 r1 vs rvs
      replace h := AftS.mono h e1
      simp only [R.bind_ok] at h
      split at h
      next hl =>
        simp only [R.out_ok] at h
        split at h
        next env' he =>
          simp only [asgT, itemsOf] at he
          match ds, rvs with
          | [], _ => simp [asgTs] at he
          | [_], _ => simp [asgTs, asgT] at he
          | _ :: _ :: _ :: _, _ => simp [asgTs, asgT] at he
          | [d1, d2], .cons rv1 (.cons rv2 .nil) =>
            simp only [asgTs, asgT, Option.some.injEq] at he
            subst he
            exact ⟨_, _, rfl, AftS.nxt h r1 (((re.mono e1).set rv1).set rv2)⟩
        · exact h.elim
      · exact h.elim⟩

/-! loops -/
theorem whl_of {cb' : Ts} {D : Ends} {σ : L2.St} {H : Hp} {μ : List Addr} {env : Env} {S : Store} (rs : RepS Γ.K μ H S) (re : RepE Γ μ H σ env)
    (h : AftS Γ W μ H D (whlGo (fun env S => evT Γ.F env cc S) (fun env S => exTs Γ.F cb' env S) wmax env S)) : tWhile (tT Γ W cc) (tSs Γ W cb') D σ H := by
  refine ⟨fun m σ H => ∃ μ env S, RepS Γ.K μ H S ∧ RepE Γ μ H σ env ∧ AftS Γ W μ H D (whlGo (fun env S => evT Γ.F env cc S) (fun env S => exTs Γ.F cb' env S) m env S), ⟨_, μ, env, S, rs, re, h⟩, ?_⟩
  rintro m σ H ⟨μ, env, S, rs, re, h⟩
  cases m with
  | zero => exact h.elim
  | succ m =>
    simp only [whlGo] at h
    refine ⟨μ, env, S, rs, re, AftS.out re h fun b S1 μ1 H1 e1 r1 h1 => ?_⟩
    cases b with
    | false =>
      simp only [Bool.false_eq_true, if_false] at h1 ⊢
      exact AftS.nxt h1 r1 (re.mono e1)
    | true =>
      simp only [if_true] at h1 ⊢
      refine ⟨fun σ H => ∃ μ env S, RepS Γ.K μ H S ∧ RepE Γ μ H σ env ∧ AftS Γ W μ H D (whlGo (fun env S => evT Γ.F env cc S) (fun env S => exTs Γ.F cb' env S) m env S), fun σ' H' w => ⟨m, Nat.lt_succ_self m, w⟩, μ1, env, S1, r1, re.mono e1, ?_⟩
      cases hO : exTs Γ.F cb' env S1 with
      | nx env' S' => rw [hO] at h1; exact fun μ' H' σ' e r re' => ⟨μ', env', S', r, re', AftS.mono h1 e⟩
      | ct env' S' => rw [hO] at h1; exact fun μ' H' σ' e r re' => ⟨μ', env', S', r, re', AftS.mono h1 e⟩
      | bk env' S' => rw [hO] at h1; exact h1
      | rt d S' => rw [hO] at h1; exact h1
      | ex x env' S' => rw [hO] at h1; exact h1
      | stuck => rw [hO] at h1; exact h1.elim
theorem s_whl {sb : List PySem.Stmt} {cb' : Ts} (hp : PassesOwn (model X.prog X.w) X.A X.env X.xe) (hc : PT X c (tT Γ W cc)) (hb : PSs X sb (tSs Γ W cb')) : PS X (.While c sb [] pos) (tS Γ W (.whl cc cb')) :=
  (ps_while hp hc hb).imp fun D σ H ⟨μ, env, S, rs, re, h⟩ => whl_of rs re h
theorem for_of {t : Tg} {cs : I} {cb' : Ts} {D : Ends} {σ : L2.St} {H : Hp} {μ : List Addr} {env : Env} {S : Store} (rs : RepS Γ.K μ H S) (re : RepE Γ μ H σ env)
    (h : AftS Γ W μ H D (exT Γ.F (.for_ t cs cb') env S)) : tFor (tI Γ W cs) (tG Γ t) (tSs Γ W cb') D σ H := by
  refine ⟨μ, env, S, rs, re, AftS.out re h fun src S1 μ1 H1 e1 r1 h1 J hJ => ?_⟩
  refine ⟨fun i m σ H => ∃ μ env S, RepS Γ.K μ H S ∧ RepE Γ μ H σ env ∧ Ext μ1 H1 μ H ∧ AftS Γ W μ H D (forGo src.nx t (fun env S => exTs Γ.F cb' env S) m i env S), ⟨_, μ1, env, S1, r1, re.mono e1, Ext.refl _ _, h1⟩, ?_⟩
  rintro i m σ H ⟨μ, env, S, rs, re, ex, h⟩
  cases m with
  | zero => exact h.elim
  | succ m =>
    simp only [forGo] at h
    cases hn : src.nx i S with
    | stuck => rw [hn] at h; exact h.elim
    | exc x S' => exact absurd hn nx_noexc
    | ok o S' =>
      have := nx_same hn
      subst this
      rw [hn] at h
      simp only [R.out_ok] at h
      cases o with
      | none => exact .inl ⟨hJ.stop i μ H _ _ ex rs hn, AftS.nxt h rs re⟩
      | some d =>
        obtain ⟨hgo, hyld⟩ := hJ.go i μ H _ _ d ex rs hn
        refine .inr ⟨hgo, fun σ H => ∃ μ env S, RepS Γ.K μ H S ∧ RepE Γ μ H σ env ∧ Ext μ1 H1 μ H ∧ AftS Γ W μ H D (forGo src.nx t (fun env S => exTs Γ.F cb' env S) m (i + 1) env S), fun σ' H' w => ⟨m, Nat.lt_succ_self m, w⟩, fun x H' y => ?_⟩
        obtain ⟨e4, r4, rd, _⟩ := hyld x H' y
        simp only at h
        split at h
        · exact h.elim
        next env1 hasg =>
          refine ⟨μ, env, S', d, env1, r4, re.mono e4, rd, hasg, fun σ2 re2 _ => ⟨μ, env1, S', r4, re2, ?_⟩⟩
          replace h := AftS.mono h e4
          cases hO : exTs Γ.F cb' env1 S' with
          | nx env' S' => rw [hO] at h; exact fun μ' H' σ' e r re' => ⟨μ', env', S', r, re', (ex.trans e4).trans e, AftS.mono h e⟩
          | ct env' S' => rw [hO] at h; exact fun μ' H' σ' e r re' => ⟨μ', env', S', r, re', (ex.trans e4).trans e, AftS.mono h e⟩
          | bk env' S' => rw [hO] at h; exact h
          | rt d S' => rw [hO] at h; exact h
          | ex x env' S' => rw [hO] at h; exact h
          | stuck => rw [hO] at h; exact h.elim
theorem s_for {t : Tg} {cs : I} {iter : PySem.Expr} {sb : List PySem.Stmt} {cb' : Ts} (hH : Hold Γ W md k X) (hh : md.hot = false) (hp : PassesOwn (model X.prog X.w) X.A X.env X.xe) (hi : PI X tg iter (tI Γ W cs)) (hg : PG X tg (tG Γ t)) (hb : PSs X sb (tSs Γ W cb')) (hs : ∀ x, foldedSetIterable iter X.env x = pure x) :
    PS X (.For tg iter sb [] pos) (tS Γ W (.for_ t cs cb')) :=
  (ps_for hp (hH.calm hh) hi hg hb hs).imp fun D σ H ⟨μ, env, S, rs, re, h⟩ => for_of rs re h
end
end PD
end

section
set_option linter.all false
set_option maxRecDepth 100000
set_option maxHeartbeats 1000000
/-! PDtry: raise, try with except clauses. -/
namespace PD
open PySem L2

section
variable {Γ : Gd} {W : WX} {md : Md} {k : Nat} {X : Cx} {pos : Pos}
/-! ### raise -/
theorem s_rai0 (hc : X.calm = true) (tk : L2N.Takes X W) {x : Str} {c : Nat} {C : Addr} {p q : Pos} (xc : XcC X.K C) (xi : PySem.W.excIn X.K C veL "ValueError.__new__" = true) (hm : X.mg x = some (.ref C)) (hg : Gl X x) (hd : (x == ("__debug__" : Str)) = false) (hx : Γ.xt c = some (C, none)) :
    PS X (.Raise (some (.Call (.Name x p) [] [] q)) none pos) (tS Γ W (.rai c .nil)) :=
  (L2N.ps_raise hc tk (pmk0 xc xi hm hg hd)).imp fun D σ H ⟨μ, env, S, rs, re, h⟩ => by
    simp only [exT, evEs, R.out_ok] at h
    exact h μ H σ _ _ (Ext.refl _ _) rs re ⟨C, none, hx, rfl, .inl ⟨rfl, rfl, rfl⟩⟩
theorem s_rai1 (hc : X.calm = true) (tk : L2N.Takes X W) {x f n1 n2 : Str} {c : Nat} {C fI : Addr} {fd : FuncData} {p q : Pos} {e : PySem.Expr} {ce : E} {j : Nat} (xc : XcC X.K C) (T : OexC X.K C) (iC : PySem.W.findIn X.K (.ref C) "__init__" = some (some (.ref fI))) (tI : PySem.W.typeIn X.K (.ref fI) = some (.type "function"))
    (F1 : FnOk X.prog X.w X.K X.mg X.base (L2N.CX X.prog X.w) j fI fd [n1, n2] (spI C f)) (hr : Room (j + 1) X.A) (hb : Binds X.K fd [n1, n2] []) (hm : X.mg x = some (.ref C)) (hg : Gl X x) (hd : (x == ("__debug__" : Str)) = false) (hx : Γ.xt c = some (C, some f)) (hs : nst e = true) (he : PE X e (tE Γ W ce)) :
    PS X (.Raise (some (.Call (.Name x p) [e] [] q)) none pos) (tS Γ W (.rai c (.cons ce .nil))) :=
  (L2N.ps_raise hc tk (pmk1 xc T iC tI F1 hr hb (fun pins σ H s e s' I w => by
    obtain ⟨_, _, _, _, _, _, _, _, _, _, _, _, z⟩ := w
    exact z.elim) hg hm (a_cons hs he a_nil) hd (star_of hs))).imp fun D σ H ⟨μ, env, S, rs, re, h⟩ => ⟨μ, env, S, rs, re, by
    simp only [exT, evEs] at h
    simp only [evEs]
    cases hE : evE Γ.F env ce S with
    | stuck => rw [hE] at h; exact h.elim
    | exc y S1 => rw [hE] at h; exact fun μ' H' cls dd e r rx => h μ' H' σ cls dd e r (re.mono e) rx
    | ok d S1 =>
      rw [hE] at h
      intro μ1 H1 e1 r1 vs rvs
      cases rvs with
      | cons rv rr =>
        cases rr
        refine ⟨_, rfl, fun dd hd => ?_⟩
        exact h μ1 _ σ _ _ (e1.trans (Ext.new hd)) (r1.new hd) ((re.mono e1).mono (Ext.new hd)) ⟨C, some f, hx, rfl, .inr ⟨d, f, dd, _, rfl, rfl, rfl, upd_same, rv.mono (Ext.new hd)⟩⟩⟩

/-! ### try -/
/-- within a suite: the caught exception -/
def Gd.su (Γ : Gd) (x : Exn) (i : Option Nat) (a : Addr) (o : Option (Addr × Str × D)) : Gd := { Γ with F := xF Γ.F x, cx := i.map fun i => (i, a, o) }
/-- how an exception's parts stand to its dict -/
def SuRel (x : Exn) (fx : Option Str) (d : Option Addr) (o : Option (Addr × Str × D)) : Prop :=
  (x.fs = [] ∧ fx = none ∧ d = none ∧ o = none) ∨ ∃ f dd dv, x.fs = [dv] ∧ fx = some f ∧ d = some dd ∧ o = some (dd, f, dv)
def tsX (Γ : Gd) (cs : List Nat) (i : Option Nat) (s : Ts) : Addr → Value → Option Addr → TS := fun a cls d D σ H => ∃ x C fx o, cs.contains x.cls = true ∧ cls = .ref C ∧ Γ.xt x.cls = some (C, fx) ∧ SuRel x fx d o ∧ tSs (Γ.su x i a o) W0 s D σ H
inductive HsOk (Γ : Gd) (X : Cx) : List ExceptHandler → Hs → List Cl → Prop
  | nil : HsOk Γ X [] .nil []
  | bare {x : Str} {C : Addr} {cs : List Nat} {s : Ts} {b0 : PySem.Stmt} {bs : List PySem.Stmt} {p1 p2 : Pos} {g : List ExceptHandler} {r : Hs} {l : List Cl} (hc : Names X x (.ref C)) (hk : ∀ c' C' fo', Γ.xt c' = some (C', fo') → PySem.W.exmOne X.K (.ref C') (.ref C) = some (cs.contains c'))
      (hs : SuOk X (b0 :: bs) (tsX Γ cs none s)) (hr : HsOk Γ X g r l) : HsOk Γ X (.ExceptHandler (some (.Name x p1)) none (b0 :: bs) p2 :: g) (.cons cs none s r) (⟨.ref C, none, tsX Γ cs none s⟩ :: l)
  | named {x n : Str} {i : Nat} {C : Addr} {cs : List Nat} {s : Ts} {b0 : PySem.Stmt} {bs : List PySem.Stmt} {p1 p2 : Pos} {g : List ExceptHandler} {r : Hs} {l : List Cl} (hc : Names X x (.ref C)) (hk : ∀ c' C' fo', Γ.xt c' = some (C', fo') → PySem.W.exmOne X.K (.ref C') (.ref C) = some (cs.contains c'))
      (hi : X.N[i]? = some n) (hl : X.env.kindOf n = some .local) (hs : SuOk X (b0 :: bs) (tsX Γ cs (some i) s)) (hr : HsOk Γ X g r l) : HsOk Γ X (.ExceptHandler (some (.Name x p1)) (some n) (b0 :: bs) p2 :: g) (.cons cs (some i) s r) (⟨.ref C, some i, tsX Γ cs (some i) s⟩ :: l)
theorem HsOk.cls {g : List ExceptHandler} {h : Hs} {l : List Cl} (w : HsOk Γ X g h l) : ClsOk X g l := by
  induction w with
  | nil => exact .nil
  | bare hc hk hs hr ih => exact .bare hc hs ih
  | named hc hk hi hl hs hr ih => exact .named hc hi hl hs ih
theorem RepX.rel {μ : List Addr} {H : Hp} {S : Store} {x : Exn} {cls : Value} {d : Option Addr} (rs : RepS Γ.K μ H S) (r : RepX Γ μ H x cls d) : ∃ C fx o, cls = .ref C ∧ Γ.xt x.cls = some (C, fx) ∧ SuRel x fx d o ∧
    ∀ b f dv, o = some (b, f, dv) → ∃ v, H b = some (.xd [(f, v)]) ∧ b ∉ μ ∧ RepV Γ.K μ H dv v := by
  obtain ⟨C, fx, e1, e2, ⟨e3, e4, e5⟩ | ⟨dv, f, a, v, e3, e4, e5, e6, e7⟩⟩ := r
  · exact ⟨C, fx, none, e2, e1, .inl ⟨e3, e4, e5, rfl⟩, fun _ _ _ z => nomatch z⟩
  · refine ⟨C, fx, some (a, f, dv), e2, e1, .inr ⟨f, a, dv, e3, e4, e5, rfl⟩, fun _ _ _ z => ?_⟩
    cases z
    refine ⟨v, e6, fun m => ?_, e7⟩
    obtain ⟨o, z1, z2⟩ := rs.there m
    rw [e6] at z1
    cases z1
    exact z2
/-- what stands around a suite -/
theorem RepE.su {μ : List Addr} {H : Hp} {σ : L2.St} {env : Env} {x : Exn} {i : Option Nat} {a : Addr} {o : Option (Addr × Str × D)} (re : RepE Γ μ H σ env) (ho : ∀ b f dv, o = some (b, f, dv) → ∃ v, H b = some (.xd [(f, v)]) ∧ b ∉ μ ∧ RepV Γ.K μ H dv v) :
    RepE (Γ.su x i a o) μ H (atO σ a i) (wipeO env i) := by
  cases i with
  | none => exact ⟨re.len, re.slot, .no rfl⟩
  | some i =>
    refine ⟨by simp [atO, wipeO, re.len], fun j dj q => ?_, ?_⟩
    · simp only [wipeO] at q
      by_cases z : i = j
      · subst z
        by_cases hl : i < env.length
        · rw [List.getElem?_set_self hl] at q; cases q
        · rw [List.getElem?_eq_none (by simp; omega)] at q; cases q
      · rw [List.getElem?_set_ne z] at q
        simp only [atO]
        rw [List.getElem?_set_ne z]
        exact re.slot j dj q
    · show (_ ∧ _)
      refine ⟨fun q => ?_, ?_⟩
      · simp only [wipeO] at q
        have hl : i < env.length := by
          have := (List.getElem?_eq_some_iff.mp q).1
          simpa using this
        simp only [atO]
        rw [List.getElem?_set_self (by rw [← re.len]; exact hl)]
      · cases o with
        | none => trivial
        | some b => exact ho _ _ _ rfl
theorem RepE.unsu {μ : List Addr} {H : Hp} {σ : L2.St} {env : Env} {x : Exn} {i : Option Nat} {a : Addr} {o : Option (Addr × Str × D)} (hc : Γ.cx = none) (re : RepE (Γ.su x i a o) μ H σ env) :
    RepE Γ μ H (match i with | none => σ | some i => σ.set i none) (wipeO env i) := by
  have re' : RepE Γ μ H σ env := ⟨re.len, re.slot, .no hc⟩
  cases i with
  | none => exact re'
  | some i => exact re'.setN hc
theorem AftS.su {μ : List Addr} {H : Hp} {Z : Ends} {o : Out} {x : Exn} {i : Option Nat} {a : Addr} {b : Option (Addr × Str × D)} (hc : Γ.cx = none) (h : AftS Γ W μ H Z (o.aftX i)) : AftS (Γ.su x i a b) W0 μ H (endsO Z i) o := by
  cases o with
  | nx env S => intro μ' H' σ' e r re; have z := h μ' H' _ e r (re.unsu hc); cases i <;> exact z
  | bk env S => intro μ' H' σ' e r re; have z := h μ' H' _ e r (re.unsu hc); cases i <;> exact z
  | ct env S => intro μ' H' σ' e r re; have z := h μ' H' _ e r (re.unsu hc); cases i <;> exact z
  | rt d S => intro μ' H' v e r rv; have z := h μ' H' v e r rv; cases i <;> exact z
  | ex x env S => exact h.elim
  | stuck => exact h.elim
theorem HsOk.asks {μ : List Addr} {H : Hp} {D : Ends} {S : Store} {σ : L2.St} {env : Env} {x : Exn} {cls : Value} {d : Option Addr} (hc : Γ.cx = none) (rs : RepS Γ.K μ H S) (re : RepE Γ μ H σ env) (rx : RepX Γ μ H x cls d) {g : List ExceptHandler} {hs : Hs} {l : List Cl} (w : HsOk Γ X g hs l) :
    AftS Γ W μ H D (exH Γ.F hs x env S) → wCls X.K W D l cls d σ H := by
  obtain ⟨C, fx, o, e1, e2, e3, e4⟩ := rx.rel rs
  induction w with
  | nil => exact fun h => h μ H σ cls d (Ext.refl _ _) rs re rx
  | @bare y C' cs s b0 bs p1 p2 g r l hc' hk hs hr ih =>
    intro h
    simp only [exH] at h
    refine ⟨_, by rw [e1]; exact hk _ _ _ e2, fun t a na => ?_, fun t => ?_⟩
    · rw [if_pos t] at h
      exact ⟨x, C, fx, o, t, e1, e2, e3, μ, _, S, rs, re.su e4, h.su hc⟩
    · rw [if_neg (by rw [t]; simp)] at h
      exact ih h
  | @named y n i C' cs s b0 bs p1 p2 g r l hc' hk hi hl hs hr ih =>
    intro h
    simp only [exH] at h
    refine ⟨_, by rw [e1]; exact hk _ _ _ e2, fun t a na => ?_, fun t => ?_⟩
    · rw [if_pos t] at h
      exact ⟨x, C, fx, o, t, e1, e2, e3, μ, _, S, rs, re.su e4, h.su hc⟩
    · rw [if_neg (by rw [t]; simp)] at h
      exact ih h
theorem s_try {g0 : ExceptHandler} {gs : List ExceptHandler} {body : List PySem.Stmt} {cb : Ts} {ch : Hs} {l : List Cl} (hc : Γ.cx = none) (hst : X.stack = X.env :: X.outer) (hfr : X.env.frame = some X.env.locals) (hN : X.N.Nodup) (tk : L2N.Takes X W)
    (hb : ∀ (W' : WX) (pn : List (Addr × Obj)) (xe : Value → Shared → Prop), L2N.Takes (X.tr pn xe) W' → PassesOwn (model X.prog X.w) X.A X.env xe → PSs (X.tr pn xe) body (tSs Γ W' cb)) (w : HsOk Γ X (g0 :: gs) ch l) :
    PS X (.Try body (g0 :: gs) [] [] pos) (tS Γ W (.try_ cb ch)) :=
  (ps_try_cls hst hfr hN tk hb w.cls).imp fun D σ H ⟨μ, env, S, rs, re, h⟩ => ⟨μ, env, S, rs, re, by
    simp only [exT] at h
    cases hO : exTs Γ.F cb env S with
    | ex x env' S' =>
      rw [hO] at h
      exact fun μ' H' σ' cls dd e r re' rx => w.asks hc r re' rx (AftS.mono h e)
    | nx env' S' => rw [hO] at h; exact h
    | rt d S' => rw [hO] at h; exact h
    | bk env' S' => rw [hO] at h; exact h
    | ct env' S' => rw [hO] at h; exact h
    | stuck => rw [hO] at h; exact h⟩
end
end PD
end

section
set_option linter.all false
set_option maxRecDepth 100000
set_option maxHeartbeats 2000000
/-! PDcomp: from the model's syntax to ours, and that this is sound. -/
namespace PD
open PySem L2

/-- what a name of the module stands for -/
inductive Gl' where
  | fn (f np : Nat) | cst (d : D) | gcd
  | exc (c : Nat) (fo : Option Str) (subs : List Nat)
  | dct (kvs : List (Str × D))
abbrev GTab := List (Str × Gl')
def bltTab : List (Str × Blt) := [("len", .len), ("abs", .abs), ("int", .int), ("str", .str), ("tuple", .tuple), ("list", .list), ("all", .all), ("any", .any), ("sum", .sum), ("max", .max), ("min", .min), ("sorted", .sorted)]
def tyTab : List (Str × Ty) := [("int", .int), ("bool", .bool), ("str", .str), ("tuple", .tuple), ("list", .list)]
def mthTab : List (Str × Mth) := [("append", .append), ("pop", .pop), ("extend", .extend), ("join", .join), ("split", .split), ("partition", .partition), ("startswith", .startswith), ("update", .update)]
def bltNames : List Str := ["len", "abs", "int", "str", "tuple", "list", "all", "any", "sum", "bool", "isinstance", "range", "enumerate", "zip", "max", "min", "sorted"]

def slotOf (N : List Str) (sc : Scope) (x : Str) : Option Nat :=
  match sc.names.lookup x with
  | some .local | some .cell | some .free =>
    if N[N.findIdx (· == x)]? = some x ∧ (x == ("__debug__" : Str)) = false ∧ (x == ("__classdict__" : Str)) = false then some (N.findIdx (· == x)) else none
  | _ => none
def isGl (sc : Scope) (x : Str) : Bool := decide (sc.names.lookup x = some .globalImplicit) && !(x == ("__debug__" : Str))
/-- a name that is stored -/
def stoOf (N : List Str) (sto : Str → Bool) (x : Str) : Option Nat :=
  if N[N.findIdx (· == x)]? = some x ∧ sto x = true then some (N.findIdx (· == x)) else none
def compL (f : PySem.Expr → Option E) : List PySem.Expr → Option Es
  | [] => some .nil
  | e :: es => match nst e, f e, compL f es with
    | true, some c, some cs => some (.cons c cs)
    | _, _, _ => none
def compLS (f : PySem.Expr → Option E) : List PySem.Expr → Option Es
  | [] => some .nil
  | e :: es => match e with
    | .Starred a _ => match f a, compLS f es with
      | some c, some cs => some (.star c cs)
      | _, _ => none
    | _ => match nst e, f e, compLS f es with
      | true, some c, some cs => some (.cons c cs)
      | _, _, _ => none
def compB (op : BoolOp) (f : PySem.Expr → Option E) : List PySem.Expr → Option E
  | [] => none
  | [e] => f e
  | e :: e2 :: r => match f e, compB op f (e2 :: r) with
    | some a, some b => some (match op with | .And => .and a b | .Or => .or a b)
    | _, _ => none
def compO (f : PySem.Expr → Option E) : Option PySem.Expr → Option Oe
  | none => some .no
  | some e => (f e).map .so
def compTg (N : List Str) (sto : Str → Bool) : Nat → PySem.Expr → Option Tg
  | 0, _ => none
  | n + 1, e => match e with
    | .Name x _ => (stoOf N sto x).map .nm
    | .Tuple es _ _ => (go (compTg N sto n) es).map .tp
    | _ => none
where go (f : PySem.Expr → Option Tg) : List PySem.Expr → Option Tgs
  | [] => some .nil
  | e :: es => match nst e, f e, go f es with
    | true, some t, some ts => some (.cons t ts)
    | _, _, _ => none
def notSet : PySem.Expr → Bool
  | .Set .. => false
  | _ => true
def isM1 : PySem.Expr → Bool
  | .UnaryOp .USub (.Constant (.int 1) _ _) _ => true
  | _ => false
def tupTg : PySem.Expr → Bool
  | .Tuple .. => true
  | _ => false
theorem tupTg_ok {e : PySem.Expr} (h : tupTg e = true) : ∃ es k p, e = .Tuple es k p := by
  cases e <;> first | exact ⟨_, _, _, rfl⟩ | cases h
def compI (tab : GTab) (sc : Scope) (f : PySem.Expr → Option E) (tg : PySem.Expr) (e : PySem.Expr) : Option I :=
  match e with
  | .Call (.Name x _) args [] _ =>
    if isGl sc x = true ∧ (tab.lookup x).isNone = true ∧ x = ("range" : Str) then
      match args with
      | [a] => match nst a, f a with
        | true, some ca => some (.rng1 ca)
        | _, _ => none
      | [a, b] => match nst a, nst b, f a, f b with
        | true, true, some ca, some cb => some (.rng2 ca cb)
        | _, _, _, _ => none
      | [a, b, c] => match nst a, nst b, isM1 c, f a, f b with
        | true, true, true, some ca, some cb => some (.rng3 ca cb (-1))
        | _, _, _, _, _ => none
      | _ => none
    else if isGl sc x = true ∧ (tab.lookup x).isNone = true ∧ tupTg tg = true ∧ x = ("enumerate" : Str) then
      match args with
      | [a] => match nst a, f a with
        | true, some ca => some (.enu ca)
        | _, _ => none
      | _ => none
    else if isGl sc x = true ∧ (tab.lookup x).isNone = true ∧ tupTg tg = true ∧ x = ("zip" : Str) then
      match args with
      | [a, b] => match nst a, nst b, f a, f b with
        | true, true, some ca, some cb => some (.zip ca cb)
        | _, _, _, _ => none
      | _ => none
    else (f e).map .any
  | .Set .. => none
  | e => (f e).map .any
def ownOf (N : List Str) (scope : Scope) : List (Str × Nat) := scope.names.filterMap fun y => match y.2 with
  | .local | .cell => if y.1 ∈ N then some (y.1, N.findIdx (· == y.1)) else none
  | _ => none
def stoIn (scope : Scope) (x : Str) : Bool := decide (scope.names.lookup x = some .local) || decide (scope.names.lookup x = some .cell)
def notSl : PySem.Expr → Bool
  | .Slice .. => false
  | _ => true
def notCall : PySem.Expr → Bool
  | .Call .. => false
  | _ => true
/-- what the evaluator does not know -/
def stuckE : E := .un .Not (.cst .non)
/-- isinstance of the caught exception -/
def compXi (tab : GTab) (sc : Scope) (md : Md) (a : PySem.Expr) (y : Str) : Option E :=
  match a, md.en with
  | .Name n _, some (m, i, _) => if n = m then (match isGl sc y, tab.lookup y with
    | true, some (.exc _ _ subs) => some (.xi i subs)
    | _, _ => none) else none
  | _, _ => none
/-- a dict of the module -/
def gdOf (tab : GTab) (sc : Scope) : PySem.Expr → Option (List (Str × D))
  | .Name x _ => match isGl sc x, tab.lookup x with
    | true, some (.dct kvs) => some kvs
    | _, _ => none
  | _ => none
def negOf : CmpOp → Option Bool
  | .In => some false
  | .NotIn => some true
  | _ => none
theorem negOf_ok {o : CmpOp} {b : Bool} (h : negOf o = some b) : o = if b then .NotIn else .In := by
  cases o <;> simp only [negOf, Option.some.injEq] at h <;> first | (subst h; rfl) | cases h
/-- the defs with so many parameters -/
def fnsOf (tab : GTab) (n : Nat) (md : Md) : List (Str × Nat) := (tab.map (·.1)).filterMap fun y => match tab.lookup y with
  | some (.fn f np) => if np = n then some (y, fid md f) else none
  | _ => none
theorem fnsOf_ok {tab : GTab} {n : Nat} {md : Md} {y : Str} {f : Nat} (h : (fnsOf tab n md).lookup y = some f) : ∃ f0 np, tab.lookup y = some (.fn f0 np) ∧ f = fid md f0 := by
  have hm := PySem.mem_of_lookup h
  unfold fnsOf at hm
  rw [List.mem_filterMap] at hm
  obtain ⟨z, _, hz⟩ := hm
  split at hz
  next f0 np q =>
    split at hz
    · simp only [Option.some.injEq, Prod.mk.injEq] at hz
      obtain ⟨rfl, rfl⟩ := hz
      exact ⟨f0, np, q, rfl⟩
    · cases hz
  · cases hz
def compE (tab : GTab) (N : List Str) (md : Md) : Nat → Scope → PySem.Expr → Option E
  | 0, _, _ => none
  | n + 1, sc, e => match e with
    | .Constant .none _ _ => some (.cst .non)
    | .Constant (.bool b) _ _ => some (.cst (.bl b))
    | .Constant (.int i) _ _ => some (.cst (.int i))
    | .Constant (.str s) _ _ => some (.cst (.str s))
    | .Name x _ => match slotOf N sc x with
      | some i => some (.slot i)
      | none => match isGl sc x, tab.lookup x with
        | true, some (.cst d) => some (.cst d)
        | true, some (.fn _ _) => some (.cst (.fnv x))
        | _, _ => none
    | .BinOp a o b _ => match compE tab N md n sc a, compE tab N md n sc b with
      | some x, some y => some (.bin o x y)
      | _, _ => none
    | .UnaryOp .Not a _ => (compE tab N md n sc a).map .not
    | .UnaryOp o a _ => (compE tab N md n sc a).map (.un o)
    | .Compare a [o] [b] _ => match gdOf tab sc b, negOf o with
      | some kvs, some neg => (compE tab N md n sc a).map (.gin neg (kvs.map (·.1)))
      | _, _ => match behindInMarks o b, compE tab N md n sc a, compE tab N md n sc b with
        | false, some x, some y => some (.cmp o x y)
        | _, _, _ => none
    | .Compare a [o, p] [b, c] _ => match lastMarks [o, p] [b, c], compE tab N md n sc a, compE tab N md n sc b, compE tab N md n sc c with
      | false, some x, some y, some z => some (.chn o p x y z)
      | _, _, _, _ => none
    | .BoolOp op vs _ => compB op (compE tab N md n sc) vs
    | .IfExp c a b _ => match compE tab N md n sc c, compE tab N md n sc a, compE tab N md n sc b with
      | some z, some x, some y => some (.ife z x y)
      | _, _, _ => none
    | .Call (.Name x _) args [] _ => match slotOf N sc x with
     | some i => match args with
      | a :: as => (compL (compE tab N md n sc) (a :: as)).map (.callv i (fnsOf tab (as.length + 1) md))
      | [] => none
     | none => match isGl sc x, tab.lookup x with
      | true, some (.fn f np) => match compL (compE tab N md n sc) args, decide (args.length = np) with
        | some cs, true => some (.call (fid md f) cs)
        | _, _ => none
      | true, some .gcd => match args with
        | a :: as => (compL (compE tab N md n sc) (a :: as)).map (.blt .gcd)
        | [] => none
      | true, none => match decide (x = ("isinstance" : Str)), args with
        | true, [a, .Name y _] => match compXi tab sc md a y with
          | some c => some c
          | none => match isGl sc y, tab.lookup y, tyTab.lookup y, nst a, compE tab N md n sc a with
            | true, none, some t, true, some ca => some (.isi ca t)
            | _, _, _, _, _ => none
        | _, a :: as => match bltTab.lookup x, compL (compE tab N md n sc) (a :: as) with
          | some b, some cs => if md.hot = true ∧ bltC b = true then some stuckE else some (.blt b cs)
          | _, _ => none
        | _, [] => none
      | _, _ => none
    | .Call (.Attribute o m apos) args [] pos => match mthTab.lookup m, notCall o, apos.endLine == pos.line, decide (args.length < 29), compE tab N md n sc o, compL (compE tab N md n sc) args with
      | some mm, true, true, true, some co, some cs => some (.mth mm co cs)
      | _, _, _, _, _, _ => none
    | .Subscript a (.Slice lo hi none _) _ => match compE tab N md n sc a, compO (compE tab N md n sc) lo, compO (compE tab N md n sc) hi with
      | some x, some l, some h => some (.slc x l h)
      | _, _, _ => none
    | .Subscript a i _ => match gdOf tab sc a with
      | some kvs => match notSl i, compE tab N md n sc i with
        | true, some y => some (.gix kvs y)
        | _, _ => none
      | none => match notSl i, compE tab N md n sc a, compE tab N md n sc i with
        | true, some x, some y => some (.ix x y)
        | _, _, _ => none
    | .Tuple es _ _ => (compL (compE tab N md n sc) es).map .tup
    | .Dict [] [] _ => some .dnew
    | .Dict (k :: ks) vs _ => match compDk (k :: ks) vs, decide ((k :: ks).length ≤ 15) with
      | some r, true => some (.dct (r.map fun q => (.inr q.1, q.2.1)))
      | _, _ => none
    | .List es _ => (compLS (compE tab N md n sc) es).map .lst
    | .Attribute (.Name x _) f _ => match md.en with
      | some (m, i, some g) => if x = m ∧ f = g then some (.xf i) else none
      | _ => none
    | .ListComp elt [⟨tg, iter, ifs, 0⟩] scope _ =>
      if md.hot = true then some stuckE else
      let own := ownOf N scope
      match blkC N sc scope own, notSet iter, compI tab sc (compE tab N md n sc) tg iter, compTg N (stoIn scope) 4 tg, compE tab N md n (relS scope sc) elt with
      | true, true, some ci, some ct, some ce =>
        if (slT ct).all (fun i => (own.map (·.2)).contains i) then
          match ifs with
          | [] => some (.lc ce ct ci .no (own.map (·.2)))
          | [c] => match compE tab N md n (relS scope sc) c with
            | some cc => some (.lc ce ct ci (.so cc) (own.map (·.2)))
            | none => none
          | _ => none
        else none
      | _, _, _, _, _ => none
    | _ => none

/-! ### soundness -/
/-- how an error of this class is made -/
def MkAt (P : Program) (w : World) (K : PySem.W.Frag) (mg : Str → Option Value) (base : Heap) (C : Addr) : Option Str → Prop
  | none => PySem.W.excIn K C veL "ValueError.__new__" = true
  | some f => OexC K C ∧ ∃ fI fd n1 n2, PySem.W.findIn K (.ref C) "__init__" = some (some (.ref fI)) ∧ PySem.W.typeIn K (.ref fI) = some (.type "function") ∧ FnOk P w K mg base (L2N.CX P w) 1 fI fd [n1, n2] (spI C f) ∧ Binds K fd [n1, n2] []
structure Tabs (tab : GTab) (Γ : Gd) (k : Nat) (P : Program) (w : World) (K : PySem.W.Frag) (mg : Str → Option Value) (base : Heap) : Prop where
  fn : ∀ x f np, tab.lookup x = some (.fn f np) → f < 1000 ∧ ∃ a fd ps, mg x = some (.ref a) ∧ PySem.W.nsIn K mainGlobals x = some (some (.ref a)) ∧ PySem.W.keepIn K (.ref a) = true ∧ Binds K fd ps [] ∧ FnOk P w K mg base (L2N.CX P w) k a fd ps (spOf Γ f) ∧ L2H.FnH P w K mg base (L2N.CX P w) k a fd ps (spOf Γ (f + hotOff))
  cst : ∀ x d, tab.lookup x = some (.cst d) → ∃ u v, mg x = some u ∧ RelV v u ∧ ∀ μ H, RepV K μ H d v
  gcd : ∀ x, tab.lookup x = some .gcd → mg x = some (.builtin "math.gcd")
  dct : ∀ x kvs, tab.lookup x = some (.dct kvs) → ∃ a, mg x = some (.ref a) ∧ GdAt w K a kvs
  blt : ∀ x ∈ bltNames, mg x = none
  exc : ∀ x c fo subs, tab.lookup x = some (.exc c fo subs) → ∃ C, mg x = some (.ref C) ∧ Γ.xt c = some (C, fo) ∧ MkAt P w K mg base C fo ∧ XcC K C ∧
    ∀ c' C' fo', Γ.xt c' = some (C', fo') → PySem.W.subIn K (.ref C') (.ref C) = some (subs.contains c') ∧ (C' = C → subs.contains c' = true)
  xts : ∀ c C fo, Γ.xt c = some (C, fo) → XcC K C ∧ ∀ f, fo = some f → PySem.W.findIn K (.ref C) f = some none
theorem Tabs.su {tab : GTab} {Γ : Gd} {k : Nat} {P : Program} {w : World} {K : PySem.W.Frag} {mg : Str → Option Value} {base : Heap} {x : Exn} {i : Option Nat} {a : Addr} {o : Option (Addr × Str × D)} (h : Tabs tab Γ k P w K mg base) : Tabs tab (Γ.su x i a o) k P w K mg base where
  fn := fun y f np e => by
    obtain ⟨hl, ad, fd, ps, h1, h0, h2, h3, h4, h5⟩ := h.fn y f np e
    have e1 : ∀ j, j ≠ xfId → j ≠ xiId → spOf (Γ.su x i a o) j = spOf Γ j := fun j n1 n2 => by
      have : xF Γ.F x j = Γ.F j := by
        funext xs S
        simp only [xF, if_neg n1, if_neg n2]
      show (fun vs H Q E => ∃ μ S ds, RepS Γ.K μ H S ∧ RepVs Γ.K μ H ds vs ∧ Aft (Γ.su x i a o) E μ H (QV (Γ.su x i a o) Q) (xF Γ.F x j ds S)) = _
      rw [this]
      rfl
    refine ⟨hl, ad, fd, ps, h1, h0, h2, h3, ?_, ?_⟩
    · rw [e1 f (by unfold xfId; omega) (by unfold xiId; omega)]; exact h4
    · rw [e1 (f + hotOff) (by unfold xfId hotOff; omega) (by unfold xiId hotOff; omega)]; exact h5
  cst := h.cst
  gcd := h.gcd
  dct := h.dct
  blt := h.blt
  exc := h.exc
  xts := h.xts
theorem Tabs.fnG {tab : GTab} {Γ : Gd} {k : Nat} {P : Program} {w : World} {K : PySem.W.Frag} {mg : Str → Option Value} {base : Heap} (h : Tabs tab Γ k P w K mg base) (md : Md) {x : Str} {f np : Nat} (e : tab.lookup x = some (.fn f np)) :
    ∃ a fd ps, mg x = some (.ref a) ∧ PySem.W.nsIn K mainGlobals x = some (some (.ref a)) ∧ PySem.W.keepIn K (.ref a) = true ∧ Binds K fd ps [] ∧ FnG md.hot P w K mg base k a fd ps (spOf Γ (fid md f)) := by
  obtain ⟨_, ad, fd, ps, h1, h0, h2, h3, h4, h5⟩ := h.fn x f np e
  refine ⟨ad, fd, ps, h1, h0, h2, h3, fun q => ?_, fun q => ?_⟩
  · unfold fid; rw [q]; exact h4
  · unfold fid; rw [q]; exact h5
theorem blt_boot : ∀ p ∈ bltTab, bootBuiltins p.1 = some (bltV p.2) ∧ p.1 ≠ "__name__" ∧ (p.1 == ("__debug__" : Str)) = false ∧ p.1 ∈ bltNames := by decide +kernel
theorem ty_boot : ∀ p ∈ tyTab, bootBuiltins p.1 = some (.type (tyN p.2)) ∧ p.1 ≠ "__name__" ∧ (p.1 == ("__debug__" : Str)) = false ∧ p.1 ∈ bltNames := by decide +kernel
theorem mth_name : ∀ p ∈ mthTab, p.1 = (mthN p.2 : Str) := by decide +kernel

section
variable {X : Cx}
theorem slotOf_ok {sc : Scope} {x : Str} {i : Nat} (h : slotOf X.N sc x = some i) (hs : X.env.scope = sc) : X.N[i]? = some x ∧ Vis X.env.scope x ∧ (x == ("__debug__" : Str)) = false ∧ (x == ("__classdict__" : Str)) = false := by
  unfold slotOf at h
  subst hs
  split at h
  · split at h
    next q => cases h; exact ⟨q.1, .inl (by assumption), q.2.1, q.2.2⟩
    · cases h
  · split at h
    next q => cases h; exact ⟨q.1, .inr (.inl (by assumption)), q.2.1, q.2.2⟩
    · cases h
  · split at h
    next q => cases h; exact ⟨q.1, .inr (.inr (by assumption)), q.2.1, q.2.2⟩
    · cases h
  · cases h
theorem isGl_ok {sc : Scope} {x : Str} (h : isGl sc x = true) (hs : X.env.scope = sc) : L2.Gl X x ∧ (x == ("__debug__" : Str)) = false := by
  subst hs
  unfold isGl at h
  simp only [Bool.and_eq_true, decide_eq_true_eq, Bool.not_eq_true'] at h
  exact ⟨h.1, h.2⟩
end
theorem base_ok {o : PySem.Expr} {m : Str} {env : PySem.Env} (h : notCall o = true) : attributeBase o m env (eval o env) = eval o env := by
  cases o <;> first | rfl | cases h
theorem set_ok {e : PySem.Expr} {env : PySem.Env} (h : notSet e = true) : ∀ x, foldedSetIterable e env x = pure x := by
  cases e <;> first | (intro _; rfl) | cases h
theorem plain_ok {i : PySem.Expr} (h : notSl i = true) : PlainIx i := by
  cases i <;> first | (intro _ _; rfl) | cases h

section
variable {Γ : Gd} {W : WX} {md : Md} {k : Nat} {X : Cx} {pos : Pos}
theorem compL_nst {f : PySem.Expr → Option E} : ∀ {es : List PySem.Expr} {cs : Es}, compL f es = some cs → ∀ e ∈ es, nst e = true
  | [], _, _, _, he => nomatch he
  | e :: es, cs, h, e', he => by
    simp only [compL] at h
    split at h
    next h1 h2 h3 =>
      rcases List.mem_cons.mp he with rfl | he
      · exact h1
      · exact compL_nst h3 e' he
    · cases h
theorem compL_ok {f : PySem.Expr → Option E} (hf : ∀ e c, f e = some c → PE X e (tE Γ W c)) : ∀ {es : List PySem.Expr} {cs : Es}, compL f es = some cs → PA X es (tEs Γ W cs)
  | [], cs, h => by simp only [compL] at h; cases h; exact a_nil
  | e :: es, cs, h => by
    simp only [compL] at h
    split at h
    next h1 h2 h3 => cases h; exact a_cons h1 (hf _ _ h2) (compL_ok hf h3)
    · cases h
theorem compLS_ok (hH : Hold Γ W md k X) {f : PySem.Expr → Option E} (hf : ∀ e c, f e = some c → PE X e (tE Γ W c)) : ∀ {es : List PySem.Expr} {cs : Es}, compLS f es = some cs → PA X es (tEs Γ W cs)
  | [], cs, h => by simp only [compLS] at h; cases h; exact a_nil
  | e :: es, cs, h => by
    unfold compLS at h
    split at h
    · split at h
      next h2 h3 => cases h; exact a_star hH (hf _ _ h2) (compLS_ok hH hf h3)
      · cases h
    · split at h
      next h1 h2 h3 => cases h; exact a_cons h1 (hf _ _ h2) (compLS_ok hH hf h3)
      · cases h
theorem compB_e {op : BoolOp} {f : PySem.Expr → Option E} (hf : ∀ e c, f e = some c → PE X e (tE Γ W c)) : ∀ {es : List PySem.Expr} {c : E}, compB op f es = some c → PE X (.BoolOp op es pos) (tE Γ W c)
  | [], c, h => by simp [compB] at h
  | [e], c, h => by simp only [compB] at h; exact pe_one (hf _ _ h)
  | e :: e2 :: r, c, h => by
    simp only [compB] at h
    split at h
    next h1 h2 =>
      cases h
      cases op with
      | And => exact e_and1 (hf _ _ h1) (compB_e hf h2)
      | Or => exact e_or1 (hf _ _ h1) (compB_e hf h2)
    · cases h
theorem compB_t {op : BoolOp} {f : PySem.Expr → Option E} (hf : ∀ e c, f e = some c → PT X e (tT Γ W c)) : ∀ {es : List PySem.Expr} {c : E}, compB op f es = some c → PW X (.BoolOp op es pos) (tT Γ W c)
  | [], c, h => by simp [compB] at h
  | [e], c, h => by
    simp only [compB] at h
    cases op with
    | And => exact pw_and1 (hf _ _ h)
    | Or => exact pw_or1 (hf _ _ h)
  | e :: e2 :: r, c, h => by
    simp only [compB] at h
    split at h
    next h1 h2 =>
      cases h
      cases op with
      | And => exact w_and1 (hf _ _ h1) (compB_t hf h2)
      | Or => exact w_or1 (hf _ _ h1) (compB_t hf h2)
    · cases h
theorem compO_ok {f : PySem.Expr → Option E} (hf : ∀ e c, f e = some c → PE X e (tE Γ W c)) : ∀ {o : Option PySem.Expr} {c : Oe}, compO f o = some c → PO X o (tO Γ W c)
  | none, c, h => by simp only [compO] at h; cases h; exact o_no
  | some e, c, h => by
    simp only [compO, Option.map_eq_some_iff] at h
    obtain ⟨a, h1, rfl⟩ := h
    exact o_so (hf _ _ h1)
theorem compTg_ok {sto : Str → Bool} (hK : Γ.K = X.K) (hN : X.N.Nodup) (hs : ∀ x, sto x = true → Loc X.env.scope x ∧ (X.fn x = true ∨ X.env.scope.names.lookup x = some .local)) :
    ∀ (n : Nat) (e : PySem.Expr) (t : Tg), compTg X.N sto n e = some t → (tupTg e = true → X.calm = true) → PG X e (tG Γ t)
  | 0, _, _, h, _ => by simp [compTg] at h
  | n + 1, e, t, h, hc => by
    unfold compTg at h
    split at h
    · simp only [Option.map_eq_some_iff, stoOf] at h
      obtain ⟨i, h1, rfl⟩ := h
      split at h1
      next q => cases h1; exact g_nm hN q.1 (hs _ q.2).1 (hs _ q.2).2
      · cases h1
    next es _ _ =>
      simp only [Option.map_eq_some_iff] at h
      obtain ⟨ts, h1, rfl⟩ := h
      have go : ∀ (es : List PySem.Expr) (ts : Tgs), compTg.go (compTg X.N sto n) es = some ts → PGs X es (tGs Γ ts) ∧ (∀ e ∈ es, nst e = true) ∧ es.length = lenTs ts := by
        intro es
        induction es with
        | nil => intro ts h; simp only [compTg.go] at h; cases h; exact ⟨g_nil, (fun _ h => nomatch h), rfl⟩
        | cons e es ih =>
          intro ts h
          simp only [compTg.go] at h
          split at h
          next h1 h2 h3 =>
            cases h
            obtain ⟨i1, i2, i3⟩ := ih _ h3
            refine ⟨g_cons h1 (compTg_ok hK hN hs n e _ h2 fun _ => hc rfl) i1, fun e' he => ?_, by simp [lenTs, i3]⟩
            rcases List.mem_cons.mp he with rfl | he
            · exact h1
            · exact i2 e' he
          · cases h
      obtain ⟨i1, i2, i3⟩ := go es ts h1
      exact g_tp hK (hc rfl) i2 i3 i1
    · cases h
/-- a test that the evaluator does not know -/
theorem t_stuck {e : PySem.Expr} {c : E} (h : ∀ F env S, evT F env c S = .stuck) : PT X e (tT Γ W c) := ⟨fun pins s σ H Q I ⟨μ, env, S, rs, re, q⟩ => by
  rw [h] at q; exact q.elim⟩
theorem pts_of_no : PTs X [] (tOT Γ W .no) := ⟨fun pins s σ H Q I ⟨μ, env, S, rs, re, h⟩ => pts_nil.run pins s σ H Q I (h.now rs)⟩
theorem pts_of_so {c : PySem.Expr} {cc : E} (h : PT X c (tT Γ W cc)) : PTs X [c] (tOT Γ W (.so cc)) := pts_one h
theorem blk_pass {s : Shared} {H : Hp} {scope : Scope} {ce : PySem.Env} {fp : List Addr} (σ : L2.St) : PassesAt (L2N.CX (X.blk s H scope ce fp).prog (X.blk s H scope ce fp).w) (X.blk s H scope ce fp) σ (atS W0 σ) :=
  fun _ _ _ _ _ _ ⟨_, _, _, _, _, _, _, _, _, _, _, _, z⟩ => z
theorem Hold.blk {s : Shared} {H : Hp} {scope : Scope} {ce : PySem.Env} {fp : List Addr} (h : Hold Γ W md k X) (hh : md.hot = false) : Hold Γ W0 md k (X.blk s H scope ce fp) :=
  ⟨h.hK, h.nd, h.calm, h.room, h.roomH, (fun q => by rw [hh] at q; cases q), h.k2, blk_pass, h.cx, h.en0, fun n i fo q => by rw [h.en0 hh] at q; cases q⟩
theorem stoIn_ok {scope : Scope} {s : Shared} {H : Hp} {C : Addr} {cl : List (Str × Addr)} {fp : List Addr} {x : Str} (h : stoIn scope x = true) :
    Loc (X.blk s H scope (compEnvC scope cl C X.env) fp).env.scope x ∧ ((X.blk s H scope (compEnvC scope cl C X.env) fp).fn x = true ∨ (X.blk s H scope (compEnvC scope cl C X.env) fp).env.scope.names.lookup x = some .local) := by
  have e : (X.blk s H scope (compEnvC scope cl C X.env) fp).env.scope = relS scope X.env.scope := rfl
  simp only [stoIn, Bool.or_eq_true, decide_eq_true_eq] at h
  rcases h with h | h
  · have q : (relS scope X.env.scope).names.lookup x = some .local := lookup_relS_keep (by decide) h
    exact ⟨.inl q, .inr q⟩
  · have q : (relS scope X.env.scope).names.lookup x = some .cell := lookup_relS_keep (by decide) h
    exact ⟨.inr q, .inl (by show (scope.names.lookup x == some .cell) = true; rw [h]; rfl)⟩
end

theorem isM1_ok {X : Cx} {c : PySem.Expr} (h : isM1 c = true) : nst c = true ∧ PE X c (tC (.int (-1))) := by
  unfold isM1 at h
  split at h
  · exact ⟨rfl, (pe_un un_neg pe_int).imp fun σ H Q q => ⟨1, rfl, q⟩⟩
  · cases h

section
variable {Γ : Gd} {md : Md} {k : Nat} {tab : GTab} {N : List Str} {P : Program} {w : World} {K : PySem.W.Frag} {mg : Str → Option Value} {base : Heap}
theorem compI_ok {X : Cx} {W : WX} {sc : Scope} {f : PySem.Expr → Option E} {tg e : PySem.Expr} {ci : I} (h : compI tab sc f tg e = some ci) (hs : X.env.scope = sc) (hH : Hold Γ W md k X) (hT : Tabs tab Γ k X.prog X.w X.K X.mg X.base)
    (hf : ∀ e c, f e = some c → PE X e (tE Γ W c)) : PI X tg e (tI Γ W ci) := by
  unfold compI at h
  have any : ∀ {e' : PySem.Expr}, (f e').map I.any = some ci → PI X tg e' (tI Γ W ci) := fun {e'} q => by
    simp only [Option.map_eq_some_iff] at q
    obtain ⟨c, q1, rfl⟩ := q
    exact i_any hH (hf _ _ q1)
  split at h
  next x p args pos =>
    split at h
    next hx =>
      obtain ⟨h1, h2, rfl⟩ := hx
      obtain ⟨g1, g2⟩ := isGl_ok h1 hs
      have m1 : X.mg "range" = none := hT.blt _ (by decide)
      split at h
      · split at h
        next a1 a2 => cases h; exact i_rng1 g1 m1 a1 (hf _ _ a2)
        · cases h
      · split at h
        next a1 a2 a3 a4 => cases h; exact i_rng2 g1 m1 a1 a2 (hf _ _ a3) (hf _ _ a4)
        · cases h
      · split at h
        next a1 a2 a3 a4 a5 => cases h; exact i_rng3 g1 m1 a1 a2 (isM1_ok (X := X) a3).1 (isM1_ok (X := X) a3).2 (hf _ _ a4) (hf _ _ a5)
        · cases h
      · cases h
    · split at h
      next hx =>
        obtain ⟨h1, h2, h3, rfl⟩ := hx
        obtain ⟨es, ek, ep, rfl⟩ := tupTg_ok h3
        obtain ⟨g1, g2⟩ := isGl_ok h1 hs
        have m1 : X.mg "enumerate" = none := hT.blt _ (by decide)
        split at h
        · split at h
          next a1 a2 => cases h; exact i_enu hH g1 m1 a1 (hf _ _ a2)
          · cases h
        · cases h
      · split at h
        next hx =>
          obtain ⟨h1, h2, h3, rfl⟩ := hx
          obtain ⟨es, ek, ep, rfl⟩ := tupTg_ok h3
          obtain ⟨g1, g2⟩ := isGl_ok h1 hs
          have m1 : X.mg "zip" = none := hT.blt _ (by decide)
          split at h
          · split at h
            next a1 a2 a3 a4 => cases h; exact i_zip hH g1 m1 a1 a2 (hf _ _ a3) (hf _ _ a4)
            · cases h
          · cases h
        · exact any h
  · cases h
  · exact any h

theorem gdOf_ok {X : Cx} {sc : Scope} {e : PySem.Expr} {kvs : List (Str × D)} (h : gdOf tab sc e = some kvs) (hs : X.env.scope = sc) (hT : Tabs tab Γ k X.prog X.w X.K X.mg X.base) : ∃ y p, e = .Name y p ∧ L2.Gl X y ∧ (y == ("__debug__" : Str)) = false ∧ ∃ ad, X.mg y = some (.ref ad) ∧ GdAt X.w X.K ad kvs := by
  unfold gdOf at h
  split at h
  next y p =>
    split at h
    next h1 h2 =>
      cases h
      obtain ⟨g1, g2⟩ := isGl_ok h1 hs
      obtain ⟨ad, m1, m2⟩ := hT.dct _ _ h2
      exact ⟨y, p, rfl, g1, g2, ad, m1, m2⟩
    · cases h
  · cases h
theorem with_t {X : Cx} {W : WX} {e : PySem.Expr} {c : E} (hH : Hold Γ W md k X) (q : PE X e (tE Γ W c)) (he : ∀ whole, isTrue e X.env whole = (do let v ← whole; standAt e.pos; holding [v] (truthy v)))
    (hev : ∀ env S, evT Γ.F env c S = (evE Γ.F env c S).bind fun x S => opTru x S) : PE X e (tE Γ W c) ∧ PT X e (tT Γ W c) := ⟨q, t_val hH q he hev⟩
theorem stuckE_ok {X : Cx} {W : WX} {e : PySem.Expr} : PE X e (tE Γ W stuckE) ∧ PT X e (tT Γ W stuckE) :=
  ⟨⟨fun pins s σ H Q I ⟨μ, env, S, rs, re, h⟩ => h.elim⟩, t_stuck fun _ _ _ => rfl⟩
theorem compXi_ok {X : Cx} {W : WX} {sc : Scope} {a : PySem.Expr} {y : Str} {c : E} {p q pos : Pos} (h : compXi tab sc md a y = some c) (hs : X.env.scope = sc) (hH : Hold Γ W md k X) (hT : Tabs tab Γ k X.prog X.w X.K X.mg X.base) (g1 : L2.Gl X "isinstance") :
    PE X (.Call (.Name "isinstance" p) [a, .Name y q] [] pos) (tE Γ W c) ∧ PT X (.Call (.Name "isinstance" p) [a, .Name y q] [] pos) (tT Γ W c) := by
  unfold compXi at h
  split at h
  next n pn m i fo hen =>
    split at h
    next hn =>
      subst hn
      split at h
      next hg htab =>
        cases h
        obtain ⟨b1, b2⟩ := isGl_ok hg hs
        obtain ⟨C, m1, m2, m3, m4, m5⟩ := hT.exc _ _ _ _ htab
        exact with_t hH (e_xi hH (hH.en _ _ _ hen) g1 (hT.blt _ (by decide)) b1 m1 b2 fun c' C' fo' q => m4.kit (m5 c' C' fo' q).1 (m5 c' C' fo' q).2) (fun _ => rfl) fun env S => by
          simp only [evT, evE]
      · cases h
    · cases h
  · cases h
theorem e_callL {X : Cx} {W : WX} {x : Str} {fi : Nat} {ad : Addr} {fd : FuncData} {ps : List Str} {p pos : Pos} {f : PySem.Expr → Option E} (hH : Hold Γ W md k X) (G : FnG md.hot X.prog X.w X.K X.mg X.base k ad fd ps (spOf Γ fi)) (hg : L2.Gl X x)
    (hm : X.mg x = some (.ref ad)) (hk : PySem.W.keepIn X.K (.ref ad) = true) (hb : Binds X.K fd ps []) (hd : (x == ("__debug__" : Str)) = false) (hf : ∀ e c, f e = some c → PE X e (tE Γ W c)) :
    ∀ {args : List PySem.Expr} {cs : Es}, compL f args = some cs → PE X (.Call (.Name x p) args [] pos) (tE Γ W (.call fi cs))
  | [], cs, h => by simp only [compL] at h; cases h; exact e_call0 hH G hg hm hk hb hd
  | a :: as, cs, h => e_call hH G hg hm hk hb hd (compL_nst h) (compL_ok hf h)
theorem e_mthL {X : Cx} {W : WX} {m : Mth} {a : PySem.Expr} {ca : E} {apos pos : Pos} {f : PySem.Expr → Option E} (hH : Hold Γ W md k X) (hbase : attributeBase a (mthN m) X.env (eval a X.env) = eval a X.env) (hline : (apos.endLine == pos.line) = true) (ha : PE X a (tE Γ W ca))
    (hf : ∀ e c, f e = some c → PE X e (tE Γ W c)) : ∀ {args : List PySem.Expr} {cs : Es}, args.length < 29 → compL f args = some cs → PE X (.Call (.Attribute a (mthN m) apos) args [] pos) (tE Γ W (.mth m ca cs))
  | [], cs, _, h => by simp only [compL] at h; cases h; exact e_mth0 hH hbase hline ha
  | b :: bs, cs, hl, h => e_mth hH hbase hline (compL_nst h) hl ha (compL_ok hf h)
theorem compE_ok (md : Md) : ∀ (n : Nat) (X : Cx) (W : WX) (sc : Scope) (e : PySem.Expr) (c : E), compE tab X.N md n sc e = some c → X.env.scope = sc → Hold Γ W md k X → Tabs tab Γ k X.prog X.w X.K X.mg X.base → PE X e (tE Γ W c) ∧ PT X e (tT Γ W c)
  | 0, _, _, _, _, _, h, _, _, _ => by simp [compE] at h
  | n + 1, X, W, sc, e, c, h, hs, hH, hT => by
    have ih : ∀ e c, compE tab X.N md n sc e = some c → PE X e (tE Γ W c) := fun e c q => (compE_ok md n X W sc e c q hs hH hT).1
    have iht : ∀ e c, compE tab X.N md n sc e = some c → PT X e (tT Γ W c) := fun e c q => (compE_ok md n X W sc e c q hs hH hT).2
    unfold compE at h
    split at h
    · cases h; exact ⟨e_cst pe_non fun _ _ => .non, t_stuck fun _ _ _ => rfl⟩
    · cases h; exact ⟨e_cst pe_bl fun _ _ => .bl _, t_stuck fun _ _ _ => rfl⟩
    · cases h; exact ⟨e_cst pe_int fun _ _ => .int _, t_stuck fun _ _ _ => rfl⟩
    · cases h; exact ⟨e_cst pe_str fun _ _ => .str _, t_stuck fun _ _ _ => rfl⟩
    · split at h
      next hsl =>
        cases h
        obtain ⟨h1, h2, h3, h4⟩ := slotOf_ok hsl hs
        exact with_t hH (e_slot h1 h2 h3 h4) (fun _ => rfl) fun _ _ => rfl
      · split at h
        next h1 h2 =>
          cases h
          obtain ⟨g1, g2⟩ := isGl_ok h1 hs
          obtain ⟨u, v, m1, r1, r2⟩ := hT.cst _ _ h2
          exact ⟨e_cst (pe_glob g1 m1 r1 g2) fun μ H => hH.hK ▸ r2 μ H, t_stuck fun _ _ _ => rfl⟩
        next h1 h2 =>
          cases h
          obtain ⟨g1, g2⟩ := isGl_ok h1 hs
          obtain ⟨ad, fd, ps, m1, m0, _⟩ := hT.fnG md h2
          exact ⟨e_fnv hH g1 m1 m0 g2, t_stuck fun _ _ _ => rfl⟩
        · cases h
    · split at h
      next h1 h2 => cases h; exact ⟨e_bin hH (ih _ _ h1) (ih _ _ h2), t_stuck fun _ _ _ => rfl⟩
      · cases h
    · simp only [Option.map_eq_some_iff] at h
      obtain ⟨a, h1, rfl⟩ := h
      exact ⟨e_not (ih _ _ h1), t_not (iht _ _ h1)⟩
    · simp only [Option.map_eq_some_iff] at h
      obtain ⟨a, h1, rfl⟩ := h
      exact ⟨e_un hH (ih _ _ h1), t_stuck fun _ _ _ => rfl⟩
    · split at h
      next kvs neg q1 q2 =>
        simp only [Option.map_eq_some_iff] at h
        obtain ⟨a, h1, rfl⟩ := h
        obtain ⟨y, py, rfl, g1, g2, ad, m1, m2⟩ := gdOf_ok q1 hs hT
        rw [negOf_ok q2]
        exact e_gin hH g1 m1 g2 m2 (ih _ _ h1) neg
      · split at h
        next h1 h2 h3 => cases h; exact ⟨e_cmp hH (ih _ _ h2) (ih _ _ h3) h1, t_cmp hH (ih _ _ h2) (ih _ _ h3) h1⟩
        · cases h
    · split at h
      next h1 h2 h3 h4 => cases h; exact ⟨e_chn hH (ih _ _ h2) (ih _ _ h3) (ih _ _ h4) h1, t_chn hH (ih _ _ h2) (ih _ _ h3) (ih _ _ h4) h1⟩
      · cases h
    · exact ⟨compB_e ih h, (compB_t iht h).pt⟩
    · split at h
      next h1 h2 h3 => cases h; exact ⟨e_ife (iht _ _ h1) (ih _ _ h2) (ih _ _ h3), t_stuck fun _ _ _ => rfl⟩
      · cases h
    · split at h
      next i hsl =>
       obtain ⟨v1, v2, v3, v4⟩ := slotOf_ok hsl hs
       split at h
       next a as =>
        simp only [Option.map_eq_some_iff] at h
        obtain ⟨cs, hcs, rfl⟩ := h
        refine with_t hH (e_callv hH v1 v2 v3 v4 (fun y f q => ?_) (compL_nst hcs) (compL_ok ih hcs)) (fun _ => rfl) fun env S => by simp only [evT, evE]
        obtain ⟨f0, np, q1, rfl⟩ := fnsOf_ok q
        obtain ⟨ad, fd, ps, m1, m0, m2, m3, m4⟩ := hT.fnG md q1
        exact ⟨ad, fd, ps, m0, m2, m3, m4⟩
       · cases h
      split at h
      next hg htab =>
        obtain ⟨g1, g2⟩ := isGl_ok hg hs
        split at h
        next cs hcs hnp =>
          cases h
          obtain ⟨ad, fd, ps, m1, m0, m2, m3, m4⟩ := hT.fnG md htab
          exact with_t hH (e_callL hH m4 g1 m1 m2 m3 g2 ih hcs) (fun _ => rfl) fun _ _ => rfl
        · cases h
      next hg htab =>
        obtain ⟨g1, g2⟩ := isGl_ok hg hs
        split at h
        next a as =>
          simp only [Option.map_eq_some_iff] at h
          obtain ⟨cs, hcs, rfl⟩ := h
          exact with_t hH (e_bfn hH g1 (hT.gcd _ htab) g2 (compL_nst hcs) (compL_ok ih hcs)) (fun _ => rfl) fun _ _ => rfl
        · cases h
      next hg htab =>
        obtain ⟨g1, g2⟩ := isGl_ok hg hs
        split at h
        next hx =>
          simp only [decide_eq_true_eq] at hx
          subst hx
          split at h
          next c0 hxi =>
            cases h
            exact compXi_ok hxi hs hH hT g1
          · split at h
            next t ca a1 a2 a3 a4 a5 =>
              cases h
              obtain ⟨b1, b2⟩ := isGl_ok a1 hs
              obtain ⟨t1, t2, t3, t4⟩ := ty_boot _ (PySem.mem_of_lookup a3)
              exact with_t hH (e_isi hH g1 (hT.blt _ (by decide)) b1 (hT.blt _ t4) t1 t2 t3 a4 (ih _ _ a5)) (fun _ => rfl) fun env S => by
                simp only [evT, evE]
                cases evE Γ.F env ca S with
                | ok x S1 => simp only [R.bind_ok]; split <;> rfl
                | exc x S1 => rfl
                | stuck => rfl
            · cases h
        · split at h
          next b cs hb hcs =>
            split at h
            · cases h; exact stuckE_ok
            next hbc =>
            cases h
            obtain ⟨t1, t2, t3, t4⟩ := blt_boot _ (PySem.mem_of_lookup hb)
            exact with_t hH (e_blt hH (fun q => by
              cases z : bltC b with
              | false => rfl
              | true => exact (hbc ⟨q, z⟩).elim) g1 (hT.blt _ t4) t1 t2 t3 (compL_nst hcs) (compL_ok ih hcs)) (fun _ => rfl) fun _ _ => rfl
          · cases h
        · cases h
      · cases h
    · split at h
      next mm co cs h1 h2 h3 h4 h5 h6 =>
        cases h
        have e1 := mth_name _ (PySem.mem_of_lookup h1)
        simp only at e1
        subst e1
        exact with_t hH (e_mthL hH (base_ok h2) h3 (ih _ _ h5) ih (by simpa using h4) h6) (fun _ => rfl) fun _ _ => rfl
      · cases h
    · split at h
      next h1 h2 h3 => cases h; exact ⟨e_slc hH (ih _ _ h1) (compO_ok ih h2) (compO_ok ih h3), t_stuck fun _ _ _ => rfl⟩
      · cases h
    · split at h
      next kvs q1 =>
        split at h
        next h1 h2 =>
          cases h
          obtain ⟨y, py, rfl, g1, g2, ad, m1, m2⟩ := gdOf_ok q1 hs hT
          exact ⟨e_gix hH g1 m1 g2 m2 (ih _ _ h2) (plain_ok h1), t_stuck fun _ _ _ => rfl⟩
        · cases h
      split at h
      next h1 h2 h3 =>
        cases h
        exact with_t hH (e_ix hH (ih _ _ h2) (ih _ _ h3) (plain_ok h1)) (fun _ => rfl) fun _ _ => rfl
      · cases h
    · simp only [Option.map_eq_some_iff] at h
      obtain ⟨a, h1, rfl⟩ := h
      exact ⟨e_tup (compL_ok ih h1), t_stuck fun _ _ _ => rfl⟩
    · cases h; exact ⟨e_dnew, t_stuck fun _ _ _ => rfl⟩
    · split at h
      next r hr hl =>
        cases h
        exact ⟨e_dct hr (by simp) (by simpa using hl), t_stuck fun _ _ _ => rfl⟩
      · cases h
    · simp only [Option.map_eq_some_iff] at h
      obtain ⟨a, h1, rfl⟩ := h
      exact ⟨e_lst (compLS_ok hH ih h1), t_stuck fun _ _ _ => rfl⟩
    · split at h
      next hen =>
        split at h
        next hxf =>
          obtain ⟨rfl, rfl⟩ := hxf
          cases h
          exact ⟨e_xf hH (hH.en _ _ _ hen) rfl, t_stuck fun _ _ _ => rfl⟩
        · cases h
      · cases h
    next elt tg iter ifs scope _ =>
      split at h
      · cases h; exact stuckE_ok
      next hhot =>
      have hh : md.hot = false := by simpa using hhot
      simp only at h
      split at h
      next ci ct ce h1 h2 h3 h4 h5 =>
        split at h
        next hsl =>
          have sl : ∀ i ∈ slT ct, i ∈ (ownOf X.N _).map (·.2) := fun i hi => by
            have := List.all_eq_true.mp hsl i hi
            simpa using this
          have ok : BlkOk X.N X.env.scope _ _ := blkOk_by (by rw [hs]; exact h1)
          have hi := compI_ok h3 hs hH hT ih
          have hg : ∀ (s : Shared) (H : Hp) (C : Addr) (cl : List (Str × Addr)) (fp : List Addr), PG (X.blk s H scope (compEnvC scope cl C X.env) fp) _ (tG Γ ct) := fun s H C cl fp => by
            exact compTg_ok (X := X.blk s H _ (compEnvC _ cl C X.env) fp) hH.hK hH.nd (fun x hx => stoIn_ok hx) 4 _ _ h4 fun _ => hH.calm hh
          have he : ∀ (s : Shared) (H : Hp) (C : Addr) (cl : List (Str × Addr)) (fp : List Addr), PE (X.blk s H scope (compEnvC scope cl C X.env) fp) _ (tE Γ W0 ce) := fun s H C cl fp =>
            (compE_ok md n (X.blk s H scope (compEnvC scope cl C X.env) fp) W0 _ _ _ h5 (by rw [← hs]; rfl) (hH.blk hh) hT).1
          split at h
          · cases h
            exact ⟨e_lcv hH hh hi ok sl hg (fun _ _ _ _ _ => pts_of_no) he (set_ok h2), t_stuck fun _ _ _ => rfl⟩
          · split at h
            next hc =>
              cases h
              exact ⟨e_lcv hH hh hi ok sl hg (fun s H C cl fp => pts_of_so (compE_ok md n (X.blk s H scope (compEnvC scope cl C X.env) fp) W0 _ _ _ hc (by rw [← hs]; rfl) (hH.blk hh) hT).2) he (set_ok h2), t_stuck fun _ _ _ => rfl⟩
            · cases h
          · cases h
        · cases h
      · cases h
    · cases h
end
end PD
end

section
set_option linter.all false
set_option maxRecDepth 100000
set_option maxHeartbeats 2000000
/-! PDdef: statements compiled, defs, the whole table. -/
namespace PD
open PySem L2

def notComp : PySem.Expr → Bool
  | .ListComp .. => false
  | .SetComp .. => false
  | .DictComp .. => false
  | _ => true
theorem swaps_ok {e : PySem.Expr} {t : Option PySem.Expr} {l : Nat} {env : PySem.Env} (h : notComp e = true) : swapsWith e t l env = pure false := by
  cases e <;> first | rfl | cases h
theorem sole_ok {e t : PySem.Expr} {l : Nat} {env : PySem.Env} (h : notComp e = true) : swapsWithSole [t] e l env = pure false := swaps_ok (t := some t) (l := l) (env := env) h
def notTup : PySem.Expr → Bool
  | .Tuple .. => false
  | .List .. => false
  | _ => true
theorem stores_ok {t e : PySem.Expr} {env : PySem.Env} (h : notTup t = true ∨ notTup e = true) : swappedStores [t] e env = pure none := by
  rcases h with h | h
  · cases t <;> first | rfl | cases h
  · cases e <;> first | (cases t <;> rfl) | cases h
theorem sole_any {e tg : PySem.Expr} {l : Nat} {env : PySem.Env} (h3 : (notComp e || !notTup tg) = true) : swapsWithSole [tg] e l env = pure false := by
  rw [Bool.or_eq_true] at h3
  rcases h3 with h3 | h3
  · exact sole_ok h3
  · cases tg with
    | Tuple ts k p => cases e <;> rfl
    | List ts p => cases e <;> rfl
    | _ => simp [notTup] at h3
theorem stores_folded {ts vs : List PySem.Expr} {env : PySem.Env} {k k2 : Nat} {p p2 : Pos} (h : vs.all (foldedForSure 8) = true) : swappedStores [.Tuple ts k p] (.Tuple vs k2 p2) env = pure none := by
  unfold swappedStores
  simp only [h, if_true]
  repeat' split
  all_goals first | rfl | (simp_all; done)
theorem stores_long {ts vs : List PySem.Expr} {env : PySem.Env} {k k2 : Nat} {p p2 : Pos} (h : (!(ts.length == 2 || ts.length == 3) || vs.length != ts.length) = true) : swappedStores [.Tuple ts k p] (.Tuple vs k2 p2) env = pure none := by
  unfold swappedStores
  simp only [h, Bool.true_or, if_true]
theorem stores_cell2 {x y : Str} {px py pt pt2 : Pos} {kt k2 : Nat} {vs : List PySem.Expr} {env : PySem.Env} (h : env.scope.names.lookup x = some .cell ∨ env.scope.names.lookup y = some .cell) :
    swappedStores [.Tuple [.Name x px, .Name y py] kt pt] (.Tuple vs k2 pt2) env = pure none := by
  have key : ∀ l, ([PySem.Expr.Name x px, .Name y py].filterMap fun | .Name id pos => if env.kindOf id == some .local && pos.line == l then some id else none | _ => none).length ≠ 2 := by
    intro l
    rcases h with h | h
    · have k : env.kindOf x = some .cell := h
      simp only [List.filterMap_cons, List.filterMap_nil, k]
      have : (some NameKind.cell == some NameKind.local) = false := rfl
      simp only [this, Bool.false_and, Bool.false_eq_true, if_false]
      split <;> simp
    · have k : env.kindOf y = some .cell := h
      simp only [List.filterMap_cons, List.filterMap_nil, k]
      have : (some NameKind.cell == some NameKind.local) = false := rfl
      simp only [this, Bool.false_and, Bool.false_eq_true, if_false]
      split <;> simp
  unfold swappedStores
  simp only [pure_bind]
  split
  · rfl
  · split
    · rfl
    · have k2 := key px.line
      rw [if_pos]
      simp only [Bool.or_eq_true, bne_iff_ne, ne_eq, List.length_cons, List.length_nil]
      exact .inl k2
theorem stores_cell3 {x y z : Str} {px py pz pt pt2 : Pos} {kt k2 : Nat} {vs : List PySem.Expr} {env : PySem.Env} (h : env.scope.names.lookup x = some .cell ∨ env.scope.names.lookup y = some .cell ∨ env.scope.names.lookup z = some .cell) :
    swappedStores [.Tuple [.Name x px, .Name y py, .Name z pz] kt pt] (.Tuple vs k2 pt2) env = pure none := by
  have key : ∀ l, ([PySem.Expr.Name x px, .Name y py, .Name z pz].filterMap fun | .Name id pos => if env.kindOf id == some .local && pos.line == l then some id else none | _ => none).length ≠ 3 := by
    intro l
    have f : (some NameKind.cell == some NameKind.local) = false := rfl
    rcases h with h | h | h
    · have k : env.kindOf x = some .cell := h
      simp only [List.filterMap_cons, List.filterMap_nil, k, f, Bool.false_and, Bool.false_eq_true, if_false]
      split <;> split <;> simp
    · have k : env.kindOf y = some .cell := h
      simp only [List.filterMap_cons, List.filterMap_nil, k, f, Bool.false_and, Bool.false_eq_true, if_false]
      split <;> split <;> simp
    · have k : env.kindOf z = some .cell := h
      simp only [List.filterMap_cons, List.filterMap_nil, k, f, Bool.false_and, Bool.false_eq_true, if_false]
      split <;> split <;> simp
  unfold swappedStores
  simp only [pure_bind]
  split
  · rfl
  · split
    · rfl
    · have k2 := key px.line
      rw [if_pos]
      simp only [Bool.or_eq_true, bne_iff_ne, ne_eq, List.length_cons, List.length_nil]
      exact .inl k2
theorem stores_par2 {x y : Str} {px py pt pt2 : Pos} {kt k2 : Nat} {a b : PySem.Expr} {env : PySem.Env} (hk : env.scope.kind = .function) (hx : env.scope.names.lookup x = some .local) (hy : env.scope.names.lookup y = some .local) (hl : (py.line == px.line) = true) (hne : (x == y) = false)
    (ha : nst a = true) (hb : nst b = true) (h1 : [a, b].all (foldedForSure 8) = false) (h2 : [a, b].all (constantsAlone 8) = false) :
    swappedStores [.Tuple [.Name x px, .Name y py] kt pt] (.Tuple [a, b] k2 pt2) env = pure (some [x, y]) := by
  have hb' : env.blockKind = .function := by unfold Env.blockKind; rw [hk]; rfl
  have kx : env.kindOf x = some .local := hx
  have ky : env.kindOf y = some .local := hy
  have ne2 : (y == x) = false := by
    cases q : (y == x) with
    | false => rfl
    | true => rw [beq_iff_eq] at q; subst q; simp at hne
  unfold swappedStores
  simp only [h1, h2, hb', List.any_cons, List.any_nil, List.filterMap_cons, List.filterMap_nil, kx, ky, Expr.pos, List.head?_cons, Option.map_some, Option.getD_some, hl]
  simp [List.eraseDups, List.eraseDupsBy, List.eraseDupsBy.loop, hne, ne2]
  intro z
  exfalso
  clear h1 h2
  rcases z with z | z
  · cases a <;> first | (cases z; done) | (cases ha; done)
  · cases b <;> first | (cases z; done) | (cases hb; done)
theorem stores_par3 {x y z : Str} {px py pz pt pt2 : Pos} {kt k2 : Nat} {a b c : PySem.Expr} {env : PySem.Env} (hk : env.scope.kind = .function) (hx : env.scope.names.lookup x = some .local) (hy : env.scope.names.lookup y = some .local) (hz : env.scope.names.lookup z = some .local)
    (hl : (py.line == px.line) = true) (hl2 : (pz.line == px.line) = true) (hne : (x == y) = false) (hne2 : (x == z) = false) (hne3 : (y == z) = false)
    (ha : nst a = true) (hb : nst b = true) (hc : nst c = true) (h1 : [a, b, c].all (foldedForSure 8) = false) (h2 : [a, b, c].all (constantsAlone 8) = false) :
    swappedStores [.Tuple [.Name x px, .Name y py, .Name z pz] kt pt] (.Tuple [a, b, c] k2 pt2) env = pure (some [x, y, z]) := by
  have hb' : env.blockKind = .function := by unfold Env.blockKind; rw [hk]; rfl
  have kx : env.kindOf x = some .local := hx
  have ky : env.kindOf y = some .local := hy
  have kz : env.kindOf z = some .local := hz
  have sw : ∀ {u v : Str}, (u == v) = false → (v == u) = false := fun {u v} h => by
    cases q : (v == u) with
    | false => rfl
    | true => rw [beq_iff_eq] at q; subst q; simp at h
  unfold swappedStores
  simp only [h1, h2, hb', List.any_cons, List.any_nil, List.filterMap_cons, List.filterMap_nil, kx, ky, kz, Expr.pos, List.head?_cons, Option.map_some, Option.getD_some, hl, hl2]
  simp [List.eraseDups, List.eraseDupsBy, List.eraseDupsBy.loop, hne, hne2, hne3, sw hne, sw hne2, sw hne3]
  intro q
  exfalso
  clear h1 h2
  rcases q with q | q | q
  · cases a <;> first | (cases q; done) | (cases ha; done)
  · cases b <;> first | (cases q; done) | (cases hb; done)
  · cases c <;> first | (cases q; done) | (cases hc; done)
theorem s_par3 {Γ : Gd} {W : WX} {md : Md} {k : Nat} {X : Cx} {pos : Pos} {a b c : PySem.Expr} {i j l : Nat} {x y z : Str} {px py pz pt : Pos} {kt k2 : Nat} {pt2 : Pos} {ces : Es} (hH : Hold Γ W md k X) (hh : md.hot = false) (hi : X.N[i]? = some x) (hj : X.N[j]? = some y) (hl : X.N[l]? = some z) (hij : i ≠ j) (hil : i ≠ l) (hjl : j ≠ l)
    (hx : X.env.scope.names.lookup x = some .local) (hy : X.env.scope.names.lookup y = some .local) (hz : X.env.scope.names.lookup z = some .local) (ha : PA X [a, b, c] (tEs Γ W ces))
    (hw : swappedStores [.Tuple [.Name x px, .Name y py, .Name z pz] kt pt] (.Tuple [a, b, c] k2 pt2) X.env = pure (some [x, y, z])) :
    PS X (.Assign [.Tuple [.Name x px, .Name y py, .Name z pz] kt pt] (.Tuple [a, b, c] k2 pt2) pos) (tS Γ W (.asg (.tp (.cons (.nm i) (.cons (.nm j) (.cons (.nm l) .nil)))) (.tup ces))) :=
  (ps_par3 (hH.calm hh) hH.nd hi hj hl hij hil hjl hx hy hz ha hw).imp fun D σ H ⟨μ, env, S, rs, re, h⟩ => ⟨μ, env, S, rs, re, by
    simp only [exT, evE] at h
    cases hE : evEs Γ.F env ces S with
    | stuck => rw [hE] at h; exact h.elim
    | exc x S1 => rw [hE] at h; exact fun μ' H' cls dd e r rx => h μ' H' σ cls dd e r (re.mono e) rx
    | ok ds S1 =>
      rw [hE] at h
      intro μ1 H1 e1 r1 vs rvs
      replace h := AftS.mono h e1
      simp only [R.bind_ok] at h
      split at h
      next hl =>
        simp only [R.out_ok] at h
        split at h
        next env' he =>
          simp only [asgT, itemsOf] at he
          match ds, rvs with
          | [], _ => simp [asgTs] at he
          | [_], _ => simp [asgTs, asgT] at he
          | [_, _], _ => simp [asgTs, asgT] at he
          | _ :: _ :: _ :: _ :: _, _ => simp [asgTs, asgT] at he
          | [d1, d2, d3], .cons rv1 (.cons rv2 (.cons rv3 .nil)) =>
            simp only [asgTs, asgT, Option.some.injEq] at he
            subst he
            exact ⟨_, _, _, rfl, AftS.nxt h r1 ((((re.mono e1).set rv1).set rv2).set rv3)⟩
        · exact h.elim
      · exact h.elim⟩

/-! ### statements compiled -/
theorem seti_ok {a i : PySem.Expr} {p : Pos} {env : PySem.Env} (h : notSl i = true) : ∀ v, assign (.Subscript a i p) env v = (do
      let ov ← holding [v] (eval a env)
      let iv ← holding [v, ov] (eval i env)
      standAt p
      holding [v, ov, iv] (setItem ov iv v)
      release [v, ov, iv] []) := by
  cases i <;> first | (intro _; rfl) | cases h
def stoFn (sc : Scope) (x : Str) : Bool := stoIn sc x
def compSs (f : PySem.Stmt → Option T) : List PySem.Stmt → Option Ts
  | [] => some .nil
  | s :: r => match f s, compSs f r with
    | some a, some b => some (.cons a b)
    | _, _ => none
/-- the target and value of an assignment that goes the plain way -/
def plainAsg (tg e : PySem.Expr) : Bool :=
  match tg, e with
  | .Tuple ts _ _, .Tuple vs _ _ => vs.all (foldedForSure 8) || (!(ts.length == 2 || ts.length == 3) || vs.length != ts.length)
  | .List .., .Tuple .. => false
  | _, _ => true
theorem plainAsg_ok {tg e : PySem.Expr} {env : PySem.Env} (h : plainAsg tg e = true) : swappedStores [tg] e env = pure none := by
  unfold plainAsg at h
  split at h
  · rw [Bool.or_eq_true] at h
    rcases h with h | h
    · exact stores_folded h
    · exact stores_long h
  · cases h
  next h1 h2 =>
    by_cases q : notTup tg = true ∨ notTup e = true
    · exact stores_ok q
    · simp only [not_or, Bool.not_eq_true] at q
      cases tg with
      | Tuple ts k p =>
        cases e with
        | Tuple vs k2 p2 => exact (h1 _ _ _ _ _ _ rfl rfl).elim
        | List es p2 => rfl
        | _ => simp [notTup] at q
      | List ts p =>
        cases e with
        | Tuple vs k2 p2 => exact (h2 _ _ _ _ _ rfl rfl).elim
        | List es p2 => rfl
        | _ => simp [notTup] at q
      | _ => simp [notTup] at q
/-- a comprehension given to a name: stored within its own frame (true), as any value (false) -/
def lcWay (sc : Scope) (y : Str) (py pc : Pos) (scope : Scope) : Option Bool :=
  if sc.names.lookup y = some .local then
    if (py.line == pc.line) = true ∧ (scope.names.any fun (n, k) => n == y && (k == .local || k == .cell)) = false then some true else none
  else if sc.names.lookup y = some .cell then some false else none
/-- what is not told within an except suite -/
def hotBad : PySem.Stmt → Bool
  | .For .. => true
  | .Raise .. => true
  | .Try .. => true
  | .Assign [.Tuple ..] _ _ => true
  | .Assign [.List ..] _ _ => true
  | .Assign [.Name ..] (.ListComp ..) _ => true
  | _ => false
/-- the name of an except clause -/
def enOf (N : List Str) (sc : Scope) (c : Nat) (fo : Option Str) (subs : List Nat) (n : Str) : Option (Str × Nat × Option Str) :=
  if sc.names.lookup n = some .local ∧ N[N.findIdx (· == n)]? = some n ∧ (n == ("__debug__" : Str)) = false ∧ (n == ("__classdict__" : Str)) = false then some (n, N.findIdx (· == n), if subs = [c] then fo else none) else none
def compH (tab : GTab) (N : List Str) (sc : Scope) (f : Md → PySem.Stmt → Option T) : List ExceptHandler → Option Hs
  | [] => some .nil
  | g :: gs => match g with
    | .ExceptHandler (some (.Name x _)) no (b0 :: bs) _ => match isGl sc x, tab.lookup x with
      | true, some (.exc c fo subs) => match no with
        | none => match compSs (f ⟨true, none⟩) (b0 :: bs), compH tab N sc f gs with
          | some s, some r => some (.cons subs none s r)
          | _, _ => none
        | some n => match enOf N sc c fo subs n with
          | some e => match compSs (f ⟨true, some e⟩) (b0 :: bs), compH tab N sc f gs with
            | some s, some r => some (.cons subs (some e.2.1) s r)
            | _, _ => none
          | none => none
      | _, _ => none
    | _ => none
def compS (tab : GTab) (N : List Str) (sc : Scope) : Nat → Md → PySem.Stmt → Option T
  | 0, _, _ => none
  | n + 1, md, st => if md.hot = true ∧ hotBad st = true then some .nev else match st with
    | .Pass _ => some .pas
    | .Break _ => some .brk
    | .Continue _ => some .cnt
    | .Raise (some (.Call (.Name x _) args [] _)) none _ => match isGl sc x, tab.lookup x, args with
      | true, some (.exc c none _), [] => some (.rai c .nil)
      | true, some (.exc c (some _) _), [a] => match nst a, compE tab N md n sc a with
        | true, some ca => some (.rai c (.cons ca .nil))
        | _, _ => some .nev
      | _, _, _ => some .nev
    | .Raise .. => some .nev
    | .Try b (g :: gs) [] [] _ => match compSs (compS tab N sc n md) b, compH tab N sc (fun m => compS tab N sc n m) (g :: gs) with
      | some cb, some ch => some (.try_ cb ch)
      | _, _ => none
    | .Return none _ => some .retN
    | .Return (some e) _ => (compE tab N md n sc e).map .ret
    | .Expr e _ => if notComp e then (compE tab N md n sc e).map .exp else none
    | .If c a b _ => match compE tab N md n sc c, compSs (compS tab N sc n md) a, compSs (compS tab N sc n md) b with
      | some cc, some ca, some cb => some (.iff cc ca cb)
      | _, _, _ => none
    | .While c b [] _ => match compE tab N md n sc c, compSs (compS tab N sc n md) b with
      | some cc, some cb => some (.whl cc cb)
      | _, _ => none
    | .For tg it b [] _ => match compTg N (stoIn sc) 4 tg, notSet it, compI tab sc (compE tab N md n sc) tg it, compSs (compS tab N sc n md) b with
      | some ct, true, some ci, some cb => some (.for_ ct ci cb)
      | _, _, _, _ => none
    | .AugAssign (.Name x _) o e _ => match stoOf N (stoIn sc) x, compE tab N md n sc e with
      | some i, some ce => some (.aug i o ce)
      | _, _ => none
    | .Assign [.Subscript a i _] e _ => match notSl i, notComp e, compE tab N md n sc a, compE tab N md n sc i, compE tab N md n sc e with
      | true, true, some ca, some ci, some ce => some (.seti ca ci ce)
      | _, _, _, _, _ => none
    | .Assign [.Name y py] (.ListComp elt gens scope pc) _ => match lcWay sc y py pc scope, stoOf N (stoIn sc) y, compE tab N md n sc (.ListComp elt gens scope pc) with
      | some _, some i, some ce => some (.asg (.nm i) ce)
      | _, _, _ => none
    | .Assign [.Tuple [.Name x px, .Name y py] kt pt] (.Tuple [a, b] k2 pt2) _ =>
      match decide ([a, b].all (foldedForSure 8) = true), stoOf N (stoIn sc) x, stoOf N (stoIn sc) y, compE tab N md n sc (.Tuple [a, b] k2 pt2) with
      | true, some i, some j, some ce => some (.asg (.tp (.cons (.nm i) (.cons (.nm j) .nil))) ce)
      | false, some i, some j, some ce =>
        if sc.names.lookup x = some .local ∧ sc.names.lookup y = some .local ∧ (py.line == px.line) = true ∧ (x == y) = false ∧ nst a = true ∧ nst b = true ∧ [a, b].all (constantsAlone 8) = false ∧ i ≠ j then
          some (.asg (.tp (.cons (.nm i) (.cons (.nm j) .nil))) ce)
        else if sc.names.lookup x = some .cell ∨ sc.names.lookup y = some .cell then some (.asg (.tp (.cons (.nm i) (.cons (.nm j) .nil))) ce) else none
      | _, _, _, _ => none
    | .Assign [.Tuple [.Name x px, .Name y py, .Name z pz] kt pt] (.Tuple [a, b, c] k2 pt2) _ =>
      match decide ([a, b, c].all (foldedForSure 8) = true), stoOf N (stoIn sc) x, stoOf N (stoIn sc) y, stoOf N (stoIn sc) z, compE tab N md n sc (.Tuple [a, b, c] k2 pt2) with
      | true, some i, some j, some l, some ce => some (.asg (.tp (.cons (.nm i) (.cons (.nm j) (.cons (.nm l) .nil)))) ce)
      | false, some i, some j, some l, some ce =>
        if sc.names.lookup x = some .local ∧ sc.names.lookup y = some .local ∧ sc.names.lookup z = some .local ∧ (py.line == px.line) = true ∧ (pz.line == px.line) = true ∧ (x == y) = false ∧ (x == z) = false ∧ (y == z) = false ∧ nst a = true ∧ nst b = true ∧ nst c = true ∧
            [a, b, c].all (constantsAlone 8) = false ∧ i ≠ j ∧ i ≠ l ∧ j ≠ l then
          some (.asg (.tp (.cons (.nm i) (.cons (.nm j) (.cons (.nm l) .nil)))) ce)
        else if sc.names.lookup x = some .cell ∨ sc.names.lookup y = some .cell ∨ sc.names.lookup z = some .cell then some (.asg (.tp (.cons (.nm i) (.cons (.nm j) (.cons (.nm l) .nil)))) ce) else none
      | _, _, _, _, _ => none
    | .Assign [tg] e _ => match plainAsg tg e, nst tg, notComp e || !notTup tg, compTg N (stoIn sc) 4 tg, compE tab N md n sc e with
      | true, true, true, some ct, some ce => some (.asg ct ce)
      | _, _, _, _, _ => none
    | _ => none

section
variable {Γ : Gd} {W : WX} {md : Md} {k : Nat} {X : Cx} {tab : GTab}
/-- a def's own frame -/
structure Own (X : Cx) (W : WX) (md : Md) : Prop where
  kind : X.env.scope.kind = .function
  fn : ∀ x, X.fn x = true
  own : PassesOwn (model X.prog X.w) X.A X.env X.xe
  takes : md.hot = false → L2N.Takes X W
  st : md.hot = false → X.stack = X.env :: X.outer
  fr : md.hot = false → X.env.frame = some X.env.locals
theorem stoOf_ok {sto : Str → Bool} {x : Str} {i : Nat} (h : stoOf X.N sto x = some i) : X.N[i]? = some x ∧ sto x = true := by
  unfold stoOf at h
  split at h
  next q => cases h; exact q
  · cases h
theorem stoIn_loc {sc : Scope} {x : Str} (h : stoIn sc x = true) : Loc sc x := by
  simp only [stoIn, Bool.or_eq_true, decide_eq_true_eq] at h
  exact h
theorem swaps_cell {elt : PySem.Expr} {gs : List Comprehension} {scope : Scope} {pos py : Pos} {y : Str} {l : Nat} {env : PySem.Env} (hy : env.scope.names.lookup y = some .cell) : swapsWith (.ListComp elt gs scope pos) (some (.Name y py)) l env = pure false := by
  have ky : env.kindOf y = some .cell := hy
  unfold swapsWith
  simp only [ky]
  have : (some NameKind.cell == some NameKind.local) = false := rfl
  simp [this]
theorem sole_cell {elt : PySem.Expr} {gs : List Comprehension} {scope : Scope} {pos py : Pos} {y : Str} {l : Nat} {env : PySem.Env} (hy : env.scope.names.lookup y = some .cell) : swapsWithSole [.Name y py] (.ListComp elt gs scope pos) l env = pure false := swaps_cell (l := l) hy
theorem compSs_ok {f : PySem.Stmt → Option T} (hf : ∀ s c, f s = some c → PS X s (tS Γ W c)) : ∀ {l : List PySem.Stmt} {c : Ts}, compSs f l = some c → PSs X l (tSs Γ W c)
  | [], c, h => by simp only [compSs] at h; cases h; exact ss_nil
  | s :: r, c, h => by
    simp only [compSs] at h
    split at h
    next h1 h2 => cases h; exact ss_cons (hf _ _ h1) (compSs_ok hf h2)
    · cases h
/-- a comprehension's parts -/
theorem lc_parts (hh : md.hot = false) {n : Nat} {sc : Scope} {elt : PySem.Expr} {gens : List Comprehension} {scope : Scope} {pc : Pos} {c : E} (h : compE tab X.N md n sc (.ListComp elt gens scope pc) = some c) (hs : X.env.scope = sc) (hH : Hold Γ W md k X) (hT : Tabs tab Γ k X.prog X.w X.K X.mg X.base)
    {y : Str} {py pos : Pos} {i : Nat} (hy : X.N[i]? = some y) (hyl : X.env.scope.names.lookup y = some .local) (hsw : swapsWith (.ListComp elt gens scope pc) (some (.Name y py)) pos.line X.env = pure true) : PS X (.Assign [.Name y py] (.ListComp elt gens scope pc) pos) (tS Γ W (.asg (.nm i) c)) := by
  cases n with
  | zero => simp [compE] at h
  | succ n =>
    have ih : ∀ e c, compE tab X.N md n sc e = some c → PE X e (tE Γ W c) := fun e c q => (compE_ok md n X W sc e c q hs hH hT).1
    have hg0 : ∃ tg iter ifs, gens = [⟨tg, iter, ifs, 0⟩] := by
      unfold compE at h
      split at h
      all_goals first
        | cases h; done
        | (rename_i heq; cases heq; done)
        | skip
      rename_i heq
      cases heq
      exact ⟨_, _, _, rfl⟩
    obtain ⟨tg, iter, ifs, rfl⟩ := hg0
    · simp only [compE, hh, Bool.false_eq_true, if_false] at h
      split at h
      next ci ct ce h1 h2 h3 h4 h5 =>
        split at h
        next hsl =>
          have sl : ∀ i ∈ slT ct, i ∈ (ownOf X.N scope).map (·.2) := fun i hi => by
            have := List.all_eq_true.mp hsl i hi
            simpa using this
          have ok : BlkOk X.N X.env.scope scope (ownOf X.N scope) := blkOk_by (by rw [hs]; exact h1)
          have hi := compI_ok h3 hs hH hT ih
          have hg : ∀ (s : Shared) (H : Hp) (C : Addr) (cl : List (Str × Addr)) (fp : List Addr), PG (X.blk s H scope (compEnvC scope cl C X.env) fp) tg (tG Γ ct) := fun s H C cl fp => by
            exact compTg_ok (X := X.blk s H scope (compEnvC scope cl C X.env) fp) hH.hK hH.nd (fun x hx => stoIn_ok hx) 4 _ _ h4 fun _ => hH.calm hh
          have he : ∀ (s : Shared) (H : Hp) (C : Addr) (cl : List (Str × Addr)) (fp : List Addr), PE (X.blk s H scope (compEnvC scope cl C X.env) fp) elt (tE Γ W0 ce) := fun s H C cl fp =>
            (compE_ok md n (X.blk s H scope (compEnvC scope cl C X.env) fp) W0 _ _ _ h5 (by rw [← hs]; rfl) (hH.blk hh) hT).1
          split at h
          · cases h
            exact s_lc hH hh hy hyl hsw hi ok sl hg (fun _ _ _ _ _ => pts_of_no) he (set_ok h2)
          · split at h
            next hc =>
              cases h
              exact s_lc hH hh hy hyl hsw hi ok sl hg (fun s H C cl fp => pts_of_so (compE_ok md n (X.blk s H scope (compEnvC scope cl C X.env) fp) W0 _ _ _ hc (by rw [← hs]; rfl) (hH.blk hh) hT).2) he (set_ok h2)
            · cases h
          · cases h
        · cases h
      · cases h
theorem tup_args {n : Nat} {sc : Scope} {es : List PySem.Expr} {k2 : Nat} {p : Pos} {c : E} (h : compE tab X.N md n sc (.Tuple es k2 p) = some c) (hs : X.env.scope = sc) (hH : Hold Γ W md k X) (hT : Tabs tab Γ k X.prog X.w X.K X.mg X.base) : ∃ cs, c = .tup cs ∧ PA X es (tEs Γ W cs) := by
  cases n with
  | zero => simp [compE] at h
  | succ n =>
    unfold compE at h
    simp only [Option.map_eq_some_iff] at h
    obtain ⟨cs, h1, rfl⟩ := h
    exact ⟨cs, rfl, compL_ok (fun e c q => (compE_ok md n X W sc e c q hs hH hT).1) h1⟩
/-- the frame within an except suite -/
theorem Hold.suite {x : Exn} {i : Option Nat} {a : Addr} {o : Option (Addr × Str × D)} {oe : Obj} {pn : List (Addr × Obj)} {C : Addr} {d : Option Addr} {en : Option (Str × Nat × Option Str)} (hH : Hold Γ W md k X) (hh : md.hot = false) (zn : L2N.Zn (.ref C) d oe) (hf : ∃ fv, oe.data = .fields fv)
    (he : ∀ n j fo, en = some (n, j, fo) → SuCx (Γ.su x i a o) (X.suite a ((a, oe) :: pn)) n j fo) : Hold (Γ.su x i a o) W0 ⟨true, en⟩ k (X.suite a ((a, oe) :: pn)) where
  hK := hH.hK
  nd := hH.nd
  calm := fun q => nomatch q
  room := fun q => nomatch q
  roomH := L2H.roomH_mark (hH.room hh) _
  warm := fun _ => by
    obtain ⟨fv, e⟩ := hf
    exact ⟨(a, oe), ⟨rfl, fv, e, zn.2.2 fv e⟩, .head _⟩
  k2 := hH.k2
  pass := fun _ _ _ _ _ _ _ ⟨_, _, _, _, _, _, _, _, _, _, _, _, z⟩ => z
  cx := fun q => nomatch q
  en0 := fun q => nomatch q
  en := he
theorem Own.suite {a : Addr} {pn : List (Addr × Obj)} {en : Option (Str × Nat × Option Str)} (hO : Own X W md) : Own (X.suite a pn) W0 ⟨true, en⟩ := ⟨hO.kind, hO.fn, PassesOwn.never, (fun q => nomatch q), (fun q => nomatch q), fun q => nomatch q⟩
theorem Hold.tr {W' : WX} {pn : List (Addr × Obj)} {xe : Value → Shared → Prop} (hH : Hold Γ W md k X) (hh : md.hot = false) (tk : L2N.Takes (X.tr pn xe) W') : Hold Γ W' md k (X.tr pn xe) :=
  ⟨hH.hK, hH.nd, hH.calm, hH.room, hH.roomH, (fun q => by rw [hh] at q; cases q), hH.k2, fun σ => L2N.passAt tk σ, hH.cx, hH.en0, fun n i fo q => by rw [hH.en0 hh] at q; cases q⟩
theorem Own.tr {W' : WX} {pn : List (Addr × Obj)} {xe : Value → Shared → Prop} (hO : Own X W md) (tk : L2N.Takes (X.tr pn xe) W') (hp : PassesOwn (model X.prog X.w) X.A X.env xe) : Own (X.tr pn xe) W' md := ⟨hO.kind, hO.fn, hp, fun _ => tk, hO.st, hO.fr⟩
theorem compH_ok {f : Md → PySem.Stmt → Option T} (hO : Own X W md) (hH : Hold Γ W md k X) (hh : md.hot = false) (hT : Tabs tab Γ k X.prog X.w X.K X.mg X.base)
    (hf : ∀ (Γ' : Gd) (m : Md) (X' : Cx) (s : PySem.Stmt) (c : T), f m s = some c → X'.N = X.N → X'.env = X.env → Own X' W0 m → Hold Γ' W0 m k X' → Tabs tab Γ' k X'.prog X'.w X'.K X'.mg X'.base → PS X' s (tS Γ' W0 c)) :
    ∀ {gs : List ExceptHandler} {h : Hs}, compH tab X.N X.env.scope f gs = some h → ∃ l, HsOk Γ X gs h l
  | [], h, e => by simp only [compH] at e; cases e; exact ⟨_, .nil⟩
  | g :: gs, h, e => by
    unfold compH at e
    split at e
    next x p1 no b0 bs p2 =>
      split at e
      next c fo subs hg htab =>
        obtain ⟨g1, g2⟩ := isGl_ok (X := X) hg rfl
        obtain ⟨C, m1, m2, m3, m4, m5⟩ := hT.exc _ _ _ _ htab
        have nm : Names X x (.ref C) := ⟨g1, g2, .inl m1⟩
        have hk : ∀ c' C' fo', Γ.xt c' = some (C', fo') → PySem.W.exmOne X.K (.ref C') (.ref C) = some (subs.contains c') := fun c' C' fo' q => m4.exm (m5 c' C' fo' q).1
        have su : ∀ {en : Option (Str × Nat × Option Str)} {i : Option Nat} {s : Ts}, compSs (f ⟨true, en⟩) (b0 :: bs) = some s →
            (∀ (x : Exn) (a : Addr) (oe : Obj) (C : Addr) (d : Option Addr) (fx : Option Str) (o : Option (Addr × Str × D)) (pn : List (Addr × Obj)), L2N.Zn (.ref C) d oe → (∃ fv, oe.data = .fields fv) → Γ.xt x.cls = some (C, fx) → subs.contains x.cls = true → SuRel x fx d o →
              ∀ n j fo, en = some (n, j, fo) → SuCx (Γ.su x i a o) (X.suite a ((a, oe) :: pn)) n j fo) → SuOk X (b0 :: bs) (tsX Γ subs i s) := fun {en i s} e1 e2 a oe cls d pn zn hfv =>
          ⟨fun pins s0 σ H D I ⟨x, C', fx, o, q0, q1, q2, q3, q4⟩ => by
            subst q1
            exact (compSs_ok (fun st c q => hf (Γ.su x i a o) ⟨true, en⟩ (X.suite a ((a, oe) :: pn)) st c q rfl rfl hO.suite (hH.suite hh zn hfv (e2 x a oe C' d fx o pn zn hfv q2 q0 q3)) hT.su) e1).run pins s0 σ H D I q4⟩
        split at e
        · split at e
          next s r e1 e2 =>
            cases e
            obtain ⟨l, ih⟩ := compH_ok hO hH hh hT hf e2
            exact ⟨_, .bare nm hk (su e1 fun _ _ _ _ _ _ _ _ _ _ _ _ _ _ _ _ q => nomatch q) ih⟩
          · cases e
        next n =>
          split at e
          next en hen =>
            split at e
            next s r e1 e2 =>
              cases e
              obtain ⟨l, ih⟩ := compH_ok hO hH hh hT hf e2
              unfold enOf at hen
              split at hen
              next hc =>
                obtain ⟨c1, c2, c3, c4⟩ := hc
                cases hen
                refine ⟨_, .named nm hk c2 c1 (su e1 fun x a oe C' d fx o pn zn hfv q2 q0 q3 n' j fo' q => ?_) ih⟩
                cases q
                refine ⟨X, a, oe, C', d, pn, Γ.F, x, fx, rfl, zn.zc, hfv, (hT.xts _ _ _ q2).1, c2, c1, c3, c4, rfl, q2, fun f hfo => ?_, (hT.xts _ _ _ q2).2, ?_⟩
                · split at hfo
                  next hs =>
                    rw [hs] at q0
                    have e3 : x.cls = c := by simpa using q0
                    rw [e3, m2] at q2
                    cases q2
                    exact hfo
                  · cases hfo
                · rcases q3 with ⟨a1, a2, a3, a4⟩ | ⟨f, dd, dv, a1, a2, a3, a4⟩
                  · exact .inl ⟨a1, a2, a3, by rw [a4]; rfl⟩
                  · exact .inr ⟨f, dd, dv, a1, a2, a3, by rw [a4]; rfl⟩
              · cases hen
            · cases e
          · cases e
      · cases e
    · cases e
theorem compS_ok : ∀ (n : Nat) (Γ : Gd) (W : WX) (md : Md) (X : Cx) (st : PySem.Stmt) (c : T), compS tab X.N X.env.scope n md st = some c → Own X W md → Hold Γ W md k X → Tabs tab Γ k X.prog X.w X.K X.mg X.base → PS X st (tS Γ W c)
  | 0, _, _, _, _, _, _, h, _, _, _ => by simp [compS] at h
  | n + 1, Γ, W, md, X, st, c, h, hO, hH, hT => by
    have ih : ∀ st c, compS tab X.N X.env.scope n md st = some c → PS X st (tS Γ W c) := fun st c q => compS_ok n Γ W md X st c q hO hH hT
    have ihs : ∀ {l : List PySem.Stmt} {c : Ts}, compSs (compS tab X.N X.env.scope n md) l = some c → PSs X l (tSs Γ W c) := compSs_ok ih
    have ie : ∀ e c, compE tab X.N md n X.env.scope e = some c → PE X e (tE Γ W c) := fun e c q => (compE_ok md n X W _ e c q rfl hH hT).1
    have it : ∀ e c, compE tab X.N md n X.env.scope e = some c → PT X e (tT Γ W c) := fun e c q => (compE_ok md n X W _ e c q rfl hH hT).2
    have sto : ∀ x, stoIn X.env.scope x = true → Loc X.env.scope x ∧ (X.fn x = true ∨ X.env.scope.names.lookup x = some .local) := fun x hx => ⟨stoIn_loc hx, .inl (hO.fn x)⟩
    have tgt : ∀ {tg : PySem.Expr} {t : Tg}, compTg X.N (stoIn X.env.scope) 4 tg = some t → (tupTg tg = true → md.hot = false) → PG X tg (tG Γ t) := fun q hq => compTg_ok hH.hK hH.nd sto 4 _ _ q fun z => hH.calm (hq z)
    unfold compS at h
    split at h
    · cases h; exact s_nev
    next hhb =>
    have cold : hotBad st = true → md.hot = false := fun q => by
      cases z : md.hot with
      | false => rfl
      | true => exact (hhb ⟨z, q⟩).elim
    split at h
    · cases h; exact s_pas
    · cases h; exact s_brk
    · cases h; exact s_cnt
    · split at h
      next hg htab =>
        cases h
        obtain ⟨g1, g2⟩ := isGl_ok (X := X) hg rfl
        obtain ⟨C, m1, m2, m3, m4, m5⟩ := hT.exc _ _ _ _ htab
        exact s_rai0 (hH.calm (cold rfl)) (hO.takes (cold rfl)) m4 m3 m1 g1 g2 m2
      next hg htab =>
        obtain ⟨g1, g2⟩ := isGl_ok (X := X) hg rfl
        obtain ⟨C, m1, m2, ⟨m6, fI, fd, n1, n2, m7, m8, m9, m10⟩, m4, m5⟩ := hT.exc _ _ _ _ htab
        split at h
        next h1 h2 =>
          cases h
          exact s_rai1 (hH.calm (cold rfl)) (hO.takes (cold rfl)) m4 m6 m7 m8 m9 ((hH.room (cold rfl)).mono hH.k2) m10 m1 g1 g2 m2 h1 (ie _ _ h2)
        · cases h; exact s_nev
      · cases h; exact s_nev
    · cases h; exact s_nev
    · split at h
      next cb ch h1 h2 =>
        cases h
        have hh := cold rfl
        obtain ⟨l, hl⟩ := compH_ok hO hH hh hT (fun Γ' m X' s c q e1 e2 hO' hH' hT' => compS_ok n Γ' W0 m X' s c (by rw [e1, e2]; exact q) hO' hH' hT') h2
        exact s_try (hH.cx hh) (hO.st hh) (hO.fr hh) hH.nd (hO.takes hh) (fun W' pn xe tk hp => compSs_ok (fun s c q => compS_ok n Γ W' md (X.tr pn xe) s c q (hO.tr tk hp) (hH.tr hh tk) hT) h1) hl
      · cases h
    · cases h; exact s_retN
    · simp only [Option.map_eq_some_iff] at h
      obtain ⟨a, h1, rfl⟩ := h
      exact s_ret (ie _ _ h1)
    · split at h
      next hc =>
        simp only [Option.map_eq_some_iff] at h
        obtain ⟨a, h1, rfl⟩ := h
        exact s_exp (ie _ _ h1) (swaps_ok hc)
      · cases h
    · split at h
      next h1 h2 h3 => cases h; exact s_if (it _ _ h1) (ihs h2) (ihs h3)
      · cases h
    · split at h
      next h1 h2 => cases h; exact s_whl hO.own (it _ _ h1) (ihs h2)
      · cases h
    · split at h
      next h1 h2 h3 h4 => cases h; exact s_for hH (cold rfl) hO.own (compI_ok h3 rfl hH hT ie) (tgt h1 fun _ => cold rfl) (ihs h4) (set_ok h2)
      · cases h
    · split at h
      next h1 h2 =>
        cases h
        obtain ⟨q1, q2⟩ := stoOf_ok h1
        exact s_aug hH q1 (sto _ q2).1 (sto _ q2).2 (ie _ _ h2)
      · cases h
    · split at h
      next h1 h2 h3 h4 h5 =>
        cases h
        exact s_seti hH (ie _ _ h3) (ie _ _ h4) (ie _ _ h5) (sole_ok h2) (stores_ok (.inl rfl)) (seti_ok h1)
      · cases h
    · split at h
      next w i ce h1 h2 h3 =>
        cases h
        obtain ⟨q1, q2⟩ := stoOf_ok h2
        unfold lcWay at h1
        split at h1
        next hl =>
          split at h1
          next hc => exact lc_parts (cold rfl) h3 rfl hH hT q1 hl (sw_true hO.kind hl hc.1 hc.2)
          · cases h1
        · split at h1
          next hl => exact s_asg (ie _ _ h3) (g_nm hH.nd q1 (sto _ q2).1 (sto _ q2).2) rfl (sole_cell hl) (stores_ok (.inl rfl))
          · cases h1
      · cases h
    · split at h
      next i j ce h0 h1 h2 h3 =>
        cases h
        obtain ⟨q1, q2⟩ := stoOf_ok h1
        obtain ⟨r1, r2⟩ := stoOf_ok h2
        simp only [decide_eq_true_eq] at h0
        exact s_asg (ie _ _ h3) (g_tp hH.hK (hH.calm (cold rfl)) (by simp [nst]) rfl (g_cons rfl (g_nm hH.nd q1 (sto _ q2).1 (sto _ q2).2) (g_cons rfl (g_nm hH.nd r1 (sto _ r2).1 (sto _ r2).2) g_nil))) rfl (sole_ok rfl) (stores_folded h0)
      next i j ce h0 h1 h2 h3 =>
        split at h
        next hc =>
          cases h
          obtain ⟨c1, c2, c3, c4, c5, c6, c7, c8⟩ := hc
          obtain ⟨q1, q2⟩ := stoOf_ok h1
          obtain ⟨r1, r2⟩ := stoOf_ok h2
          obtain ⟨cs, rfl, hA⟩ := tup_args h3 rfl hH hT
          exact s_par hH (cold rfl) q1 r1 c8 c1 c2 hA (stores_par2 hO.kind c1 c2 c3 c4 c5 c6 (by simpa using h0) c7)
        · split at h
          next hc =>
            cases h
            obtain ⟨q1, q2⟩ := stoOf_ok h1
            obtain ⟨r1, r2⟩ := stoOf_ok h2
            exact s_asg (ie _ _ h3) (g_tp hH.hK (hH.calm (cold rfl)) (by simp [nst]) rfl (g_cons rfl (g_nm hH.nd q1 (sto _ q2).1 (sto _ q2).2) (g_cons rfl (g_nm hH.nd r1 (sto _ r2).1 (sto _ r2).2) g_nil))) rfl (sole_ok rfl) (stores_cell2 hc)
          · cases h
      · cases h
    · split at h
      next i j l ce h0 h1 h2 h3 h4 =>
        cases h
        obtain ⟨q1, q2⟩ := stoOf_ok h1
        obtain ⟨r1, r2⟩ := stoOf_ok h2
        obtain ⟨u1, u2⟩ := stoOf_ok h3
        simp only [decide_eq_true_eq] at h0
        exact s_asg (ie _ _ h4) (g_tp hH.hK (hH.calm (cold rfl)) (by simp [nst]) rfl (g_cons rfl (g_nm hH.nd q1 (sto _ q2).1 (sto _ q2).2) (g_cons rfl (g_nm hH.nd r1 (sto _ r2).1 (sto _ r2).2) (g_cons rfl (g_nm hH.nd u1 (sto _ u2).1 (sto _ u2).2) g_nil)))) rfl (sole_ok rfl) (stores_folded h0)
      next i j l ce h0 h1 h2 h3 h4 =>
        split at h
        next hc =>
          cases h
          obtain ⟨c1, c2, c3, c4, c5, c6, c7, c8, c9, c10, c11, c12, c13, c14, c15⟩ := hc
          obtain ⟨q1, q2⟩ := stoOf_ok h1
          obtain ⟨r1, r2⟩ := stoOf_ok h2
          obtain ⟨u1, u2⟩ := stoOf_ok h3
          obtain ⟨cs, rfl, hA⟩ := tup_args h4 rfl hH hT
          exact s_par3 hH (cold rfl) q1 r1 u1 c13 c14 c15 c1 c2 c3 hA (stores_par3 hO.kind c1 c2 c3 c4 c5 c6 c7 c8 c9 c10 c11 (by simpa using h0) c12)
        · split at h
          next hc =>
            cases h
            obtain ⟨q1, q2⟩ := stoOf_ok h1
            obtain ⟨r1, r2⟩ := stoOf_ok h2
            obtain ⟨u1, u2⟩ := stoOf_ok h3
            exact s_asg (ie _ _ h4) (g_tp hH.hK (hH.calm (cold rfl)) (by simp [nst]) rfl (g_cons rfl (g_nm hH.nd q1 (sto _ q2).1 (sto _ q2).2) (g_cons rfl (g_nm hH.nd r1 (sto _ r2).1 (sto _ r2).2) (g_cons rfl (g_nm hH.nd u1 (sto _ u2).1 (sto _ u2).2) g_nil)))) rfl (sole_ok rfl) (stores_cell3 hc)
          · cases h
      · cases h
    · split at h
      next h1 h2 h3 h4 h5 =>
        cases h
        exact s_asg (ie _ _ h5) (tgt h4 fun z => by
          obtain ⟨es, kk, pp, rfl⟩ := tupTg_ok z
          exact cold rfl) h2 (sole_any h3) (plainAsg_ok h1)
      · cases h
    · cases h
end
end PD
end

section
set_option linter.all false
set_option maxRecDepth 100000
set_option maxHeartbeats 2000000
/-! PDtop: all defs of a table at once; the law. -/
namespace PD
open PySem L2

section
variable {K : PySem.W.Frag} {μ t : List Addr} {H : Hp}
mutual
theorem RepV.lt : ∀ {d : D} {v : V}, RepV K μ H d v → D.lt μ.length d = true
  | _, _, .non => rfl
  | _, _, .bl _ => rfl
  | _, _, .int _ => rfl
  | _, _, .str _ => rfl
  | _, _, .tup _ r => by simp only [D.lt]; exact RepVs.lt r
  | _, _, .rol _ r => by simp only [D.lt]; exact RepVs.lt r
  | _, _, .ref h => by simp only [D.lt]; exact decide_eq_true (List.getElem?_eq_some_iff.mp h).1
  | _, _, .fnv _ => rfl
theorem RepVs.lt : ∀ {ds : List D} {vs : List V}, RepVs K μ H ds vs → D.lts μ.length ds = true
  | _, _, .nil => rfl
  | _, _, .cons h r => by simp only [D.lts, RepV.lt h, RepVs.lt r, Bool.and_self]
end
mutual
theorem RepV.cutN : ∀ {d : D} {v : V}, RepV K (μ ++ t) H d v → D.lt μ.length d = true → RepV K μ H d v
  | _, _, .non, _ => .non
  | _, _, .bl b, _ => .bl b
  | _, _, .int i, _ => .int i
  | _, _, .str s, _ => .str s
  | _, _, .tup q r, h => .tup q (RepVs.cutN r (by simpa only [D.lt] using h))
  | _, _, .rol q r, h => .rol q (RepVs.cutN r (by simpa only [D.lt] using h))
  | _, _, .ref q, h => .ref (by
    simp only [D.lt, decide_eq_true_eq] at h
    rw [List.getElem?_append_left h] at q
    exact q)
  | _, _, .fnv q, _ => .fnv q
theorem RepVs.cutN : ∀ {ds : List D} {vs : List V}, RepVs K (μ ++ t) H ds vs → D.lts μ.length ds = true → RepVs K μ H ds vs
  | _, _, .nil, _ => .nil
  | _, _, .cons q r, h => by
    simp only [D.lts, Bool.and_eq_true] at h
    exact .cons (RepV.cutN q h.1) (RepVs.cutN r h.2)
end
/-- what a call made and nobody holds is dropped -/
theorem gc_ok {μ' : List Addr} {H' : Hp} {S S' : Store} {d : D} (rs : RepS K μ H S) (e : Ext μ H μ' H') (r : RepS K μ' H' S') : ∃ μ2, Ext μ H μ2 H' ∧ RepS K μ2 H' (gcS S d S') ∧ ∀ v, RepV K μ' H' d v → RepV K μ2 H' d v := by
  unfold gcS
  split
  next h =>
    simp only [Bool.and_eq_true, Bool.or_eq_true] at h
    obtain ⟨t, rfl, ft⟩ := e.pre
    have hl := rs.len
    refine ⟨μ, ⟨⟨[], by simp, by simp⟩, e.keep, e.live, e.tups, e.frzs⟩, ?_, fun v rv => rv.cutN (by rw [hl]; exact h.1)⟩
    have hlen : μ.length ≤ S'.length := by rw [← r.len]; simp
    refine ⟨by rw [List.length_take, ← hl]; omega, rs.nd, fun m c q => ?_⟩
    rw [List.getElem?_take] at q
    split at q
    next hm =>
      obtain ⟨a, e1, e2⟩ := r.cell m c q
      have e1' : μ[m]? = some a := by rw [List.getElem?_append_left (by omega)] at e1; exact e1
      refine ⟨a, e1', ?_⟩
      cases c with
      | oth => exact e2
      | lst ds =>
        obtain ⟨vs, g1, g2⟩ := e2
        refine ⟨vs, g1, g2.cutN ?_⟩
        rcases h.2 with z | z
        · have z2 := eqStore_eq z
          have q2 : S[m]? = some (.lst ds) := by rw [← z2, List.getElem?_take]; simp [hm, q]
          obtain ⟨b, ws, f1, f2, f3⟩ := rs.lst q2
          exact f3.lt
        · have q3 : (S'.take S.length)[m]? = some (.lst ds) := by rw [List.getElem?_take]; simp only [hm, if_true]; exact q
          have z2 := List.all_eq_true.mp z (.lst ds) (List.mem_of_getElem? q3)
          rw [hl]; exact z2
      | dic kvs =>
        obtain ⟨vs, g1, g2, g3⟩ := e2
        refine ⟨vs, g1, g2, g3.cutN ?_⟩
        rcases h.2 with z | z
        · have z2 := eqStore_eq z
          have q2 : S[m]? = some (.dic kvs) := by rw [← z2, List.getElem?_take]; simp [hm, q]
          obtain ⟨b, ws, f1, f2, f3, f4⟩ := rs.dic q2
          exact f4.lt
        · have q3 : (S'.take S.length)[m]? = some (.dic kvs) := by rw [List.getElem?_take]; simp only [hm, if_true]; exact q
          have z2 := List.all_eq_true.mp z (.dic kvs) (List.mem_of_getElem? q3)
          rw [hl]; exact z2
    · cases q
  · exact ⟨μ', e, r, fun _ h => h⟩
end

/-- a def of the text; dh: how it goes within an except suite, if it is called there -/
structure Row where
  id : Nat
  name : Str
  st : PySem.Stmt
  N : List Str
  ps : List Str
  d : Def
  dh : Option Def := none
structure DefOk (tab : GTab) (r : Row) (md : Md) (d : Def) : Prop where
  comp : compSs (compS tab r.N (defScope r.st) 60 md) (defBody r.st) = some d.body
  np : d.np = r.ps.length
  ns : d.ns = r.N.length
structure RowOk (tab : GTab) (r : Row) : Prop where
  d : DefOk tab r {} r.d
  sc : FnScope r.N r.ps (defScope r.st)
  dh : ∀ d, r.dh = some d → DefOk tab r ⟨true, none⟩ d
/-- where the defs stand -/
structure Stand (w : World) (rows : List Row) (tab : GTab) (T : Tab) (K : PySem.W.Frag) (mg : Str → Option Value) (xt : Nat → Option (Addr × Option Str)) : Prop where
  row : ∀ r ∈ rows, RowOk tab r
  tb : ∀ r ∈ rows, T r.id = some r.d
  tbh : ∀ r ∈ rows, T (r.id + hotOff) = r.dh
  at_ : ∀ r ∈ rows, ∃ a fd, Fun K r.name r.name r.st a fd ∧ mg r.name = some (.ref a) ∧ PySem.W.nsIn K mainGlobals r.name = some (some (.ref a)) ∧ Binds K fd r.ps []
  fn : ∀ x f np, tab.lookup x = some (.fn f np) → f < 1000 ∧ ∃ r ∈ rows, r.name = x ∧ r.id = f
  cst : ∀ x d, tab.lookup x = some (.cst d) → ∃ u v, mg x = some u ∧ RelV v u ∧ ∀ μ H, RepV K μ H d v
  gcd : ∀ x, tab.lookup x = some .gcd → mg x = some (.builtin "math.gcd")
  dct : ∀ x kvs, tab.lookup x = some (.dct kvs) → ∃ a, mg x = some (.ref a) ∧ GdAt w K a kvs
  blt : ∀ x ∈ bltNames, mg x = none
  exc : ∀ x c fo subs, tab.lookup x = some (.exc c fo subs) → ∃ C, mg x = some (.ref C) ∧ xt c = some (C, fo) ∧ (∀ P w base, MkAt P w K mg base C fo) ∧ XcC K C ∧
    ∀ c' C' fo', xt c' = some (C', fo') → PySem.W.subIn K (.ref C') (.ref C) = some (subs.contains c') ∧ (C' = C → subs.contains c' = true)
  xts : ∀ c C fo, xt c = some (C, fo) → XcC K C ∧ ∀ f, fo = some f → PySem.W.findIn K (.ref C) f = some none

section
variable {rows : List Row} {tab : GTab} {T : Tab} {P : Program} {w : World} {K : PySem.W.Frag} {mg : Str → Option Value} {base : Heap} {xt : Nat → Option (Addr × Option Str)}
theorem fn_zero {f : Addr} {fd : FuncData} {ps : List Str} {CX : CXT} {k : Nat} {sp : Sp} (no : ∀ vs H Q E, ¬ sp vs H Q E) : FnOk P w K mg base CX k f fd ps sp :=
  ⟨fun vs H Q E h => absurd h (no vs H Q E), fun A outer s H args us vs Q E _ _ _ _ h => absurd h (no vs H Q E)⟩
theorem fn_zeroH {f : Addr} {fd : FuncData} {ps : List Str} {CX : CXT} {k : Nat} {sp : Sp} (no : ∀ vs H Q E, ¬ sp vs H Q E) : L2H.FnH P w K mg base CX k f fd ps sp :=
  ⟨fun vs H Q E h => absurd h (no vs H Q E), fun A outer s H args us vs Q E p _ _ _ _ _ _ h => absurd h (no vs H Q E)⟩
/-- a def's run, as a body's reading -/
theorem run_body {F : Fn} {d : Def} {N : List Str} {μ : List Addr} {S : Store} {ds : List D} {vs : List V} {H : Hp} {Q : VK} {E : XK} {F' : Fn} (hn : d.ns = N.length) (rs : RepS K μ H S) (rv : RepVs K μ H ds vs) (h : Aft ⟨K, xt, F', none⟩ E μ H (QV ⟨K, xt, F', none⟩ Q) (runDef F d ds S)) :
    vs.length = d.np ∧ tSs ⟨K, xt, F, none⟩ (fun cls d _ H => E cls d H) d.body { nx := fun _ H' => Q .non H', rt := Q } (L2.start N vs) H := by
  unfold runDef at h
  split at h
  next hl =>
    refine ⟨rv.length ▸ hl, μ, ds.map some ++ List.replicate (d.ns - ds.length) none, S, rs, ⟨?_, fun i d' q => ?_, trivial⟩, ?_⟩
    · unfold L2.start
      rw [List.length_append, List.length_append, List.length_map, List.length_map, List.length_replicate, List.length_replicate, rv.length, hn]
    · unfold L2.start
      by_cases hi : i < ds.length
      · rw [List.getElem?_append_left (by simpa using hi), List.getElem?_map] at q
        cases e : ds[i]? with
        | none => rw [e] at q; cases q
        | some d2 =>
          rw [e] at q; cases q
          obtain ⟨v, hv, r1⟩ := rv.get e
          refine ⟨v, ?_, r1⟩
          rw [List.getElem?_append_left (by simp; rw [← rv.length]; exact hi), List.getElem?_map, hv]; rfl
      · rw [List.getElem?_append_right (by simpa using hi), List.getElem?_replicate] at q
        split at q <;> cases q
    · show AftS _ _ _ _ _ (exTs F d.body _ S)
      cases hO : exTs F d.body (ds.map some ++ List.replicate (d.ns - ds.length) none) S with
      | nx env S' =>
        rw [hO] at h
        intro μ' H' σ' e r' _
        obtain ⟨μ2, e2, r2, rv2⟩ := gc_ok (d := .non) rs e r'
        exact h μ2 H' e2 r2 _ .non
      | rt v S' =>
        rw [hO] at h
        intro μ' H' u e r' ru
        obtain ⟨μ2, e2, r2, rv2⟩ := gc_ok (d := v) rs e r'
        exact h μ2 H' e2 r2 _ (rv2 _ ru)
      | ex x env S' => rw [hO] at h; exact fun μ' H' σ' cls dd e r' _ rx => h μ' H' cls dd e r' rx
      | bk env S' => rw [hO] at h; exact h.elim
      | ct env S' => rw [hO] at h; exact h.elim
      | stuck => rw [hO] at h; exact h.elim
  · exact h.elim
theorem body_go {Γ : Gd} {W : WX} {md : Md} {k : Nat} {X : Cx} {r : Row} {d : Def} (hN : X.N = r.N) (hs : X.env.scope = defScope r.st) (hO : Own X W md) (hH : Hold Γ W md k X) (hT : Tabs tab Γ k X.prog X.w X.K X.mg X.base) (h : DefOk tab r md d) : PSs X (defBody r.st) (tSs Γ W d.body) :=
  compSs_ok (f := compS tab X.N X.env.scope 60 md) (fun st c q => compS_ok 60 Γ W md X st c q hO hH hT) (by rw [hN, hs]; exact h.comp)
theorem step_ok {k : Nat} {r : Row} {a : Addr} {fd : FuncData} {F : Fn} {F' : Fn} {id' : Nat} (ro : RowOk tab r) (hT : Tabs tab ⟨K, xt, F, none⟩ (k + 2) P w K mg base) (F1 : Fun K r.name r.name r.st a fd) (hF : ∀ ds S, F' id' ds S = runDef F r.d ds S) :
    FnOk P w K mg base (L2N.CX P w) (k + 1 + 2) a fd r.ps (spOf ⟨K, xt, F', none⟩ id') := by
  obtain ⟨oc, od, kV, doc, pm, an, cdv, ct, osl, rfl, lk, hcd⟩ := F1.ex
  refine fn_of lk hcd ro.sc (fun vs H Q E ⟨μ, S, ds, rs, rv, h⟩ => ?_) fun A outer s H vs Q E room ⟨μ, S, ds, rs, rv, h⟩ => ?_
  · rw [show Gd.F ⟨K, xt, F', none⟩ = F' from rfl, hF] at h
    rw [(run_body ro.d.ns rs rv h).1, ro.d.np]
  · rw [show Gd.F ⟨K, xt, F', none⟩ = F' from rfl, hF] at h
    refine ⟨tSs ⟨K, xt, F, none⟩ (fun cls d _ H => E cls d H) r.d.body, ?_, (run_body ro.d.ns rs rv h).2⟩
    have tk : L2N.Takes (cxOf (L2N.CX P w) P w K mg base r.N r.name (defScope r.st) a cdv A outer s H E) (fun cls d _ H => E cls d H) := L2N.takes_of rfl rfl rfl rfl
    have hH : Hold ⟨K, xt, F, none⟩ (fun cls d _ H => E cls d H) {} (k + 2) (cxOf (L2N.CX P w) P w K mg base r.N r.name (defScope r.st) a cdv A outer s H E) :=
      ⟨rfl, ro.sc.nd, fun _ => rfl, fun _ => room, L2H.roomH_of room, (fun q => nomatch q), by omega, fun σ => L2N.passAt tk σ, fun _ => rfl, fun _ => rfl, fun _ _ _ q => nomatch q⟩
    have hO : Own (cxOf (L2N.CX P w) P w K mg base r.N r.name (defScope r.st) a cdv A outer s H E) (fun cls d _ H => E cls d H) {} := ⟨ro.sc.kind, fun _ => rfl, passes_of rfl, fun _ => tk, fun _ => rfl, fun _ => rfl⟩
    exact body_go rfl rfl hO hH hT ro.d
theorem step_okH {k : Nat} {r : Row} {a : Addr} {fd : FuncData} {F : Fn} {F' : Fn} {id' : Nat} {dh : Def} (ro : RowOk tab r) (rh : DefOk tab r ⟨true, none⟩ dh) (hT : Tabs tab ⟨K, xt, F, none⟩ (k + 2) P w K mg base) (F1 : Fun K r.name r.name r.st a fd) (hF : ∀ ds S, F' id' ds S = runDef F dh ds S) :
    L2H.FnH P w K mg base (L2N.CX P w) (k + 1 + 2) a fd r.ps (spOf ⟨K, xt, F', none⟩ id') := by
  obtain ⟨oc, od, kV, doc, pm, an, cdv, ct, osl, rfl, lk, hcd⟩ := F1.ex
  refine L2H.fn_ofH lk hcd ro.sc (fun vs H Q E ⟨μ, S, ds, rs, rv, h⟩ => ?_) fun A outer s H vs Q E p hot room ⟨μ, S, ds, rs, rv, h⟩ => ?_
  · rw [show Gd.F ⟨K, xt, F', none⟩ = F' from rfl, hF] at h
    rw [(run_body rh.ns rs rv h).1, rh.np]
  · rw [show Gd.F ⟨K, xt, F', none⟩ = F' from rfl, hF] at h
    refine ⟨tSs ⟨K, xt, F, none⟩ (fun cls d _ H => E cls d H) dh.body, ?_, (run_body rh.ns rs rv h).2⟩
    have tk : L2N.Takes (L2H.cxH (L2N.CX P w) P w K mg base r.N r.name (defScope r.st) a cdv A outer s H E p) (fun cls d _ H => E cls d H) := L2N.takes_of rfl rfl rfl rfl
    have hH : Hold ⟨K, xt, F, none⟩ (fun cls d _ H => E cls d H) ⟨true, none⟩ (k + 2) (L2H.cxH (L2N.CX P w) P w K mg base r.N r.name (defScope r.st) a cdv A outer s H E p) :=
      ⟨rfl, ro.sc.nd, (fun q => nomatch q), (fun q => nomatch q), room, (fun _ => ⟨p, hot, .head _⟩), by omega, fun σ => L2N.passAt tk σ, (fun q => nomatch q), (fun q => nomatch q), fun _ _ _ q => nomatch q⟩
    have hO : Own (L2H.cxH (L2N.CX P w) P w K mg base r.N r.name (defScope r.st) a cdv A outer s H E p) (fun cls d _ H => E cls d H) ⟨true, none⟩ := ⟨ro.sc.kind, fun _ => rfl, passes_of rfl, (fun q => nomatch q), (fun q => nomatch q), fun q => nomatch q⟩
    exact body_go rfl rfl hO hH hT rh
theorem callN_some {T : Tab} {k j : Nat} {d : Def} (h : T j = some d) (ds : List D) (S : Store) : callN T (k + 1) j ds S = runDef (callN T k) d ds S := by
  simp only [callN, h]
theorem callN_none {T : Tab} {k j : Nat} (h : T j = none) (ds : List D) (S : Store) : callN T k j ds S = .stuck := by
  cases k with
  | zero => rfl
  | succ k => simp only [callN, h]
theorem all_ok (St : Stand w rows tab T K mg xt) : ∀ (k : Nat) (r : Row), r ∈ rows → ∀ (a : Addr) (fd : FuncData), Fun K r.name r.name r.st a fd →
    FnOk P w K mg base (L2N.CX P w) (k + 2) a fd r.ps (spOf ⟨K, xt, callN T k, none⟩ r.id) ∧ L2H.FnH P w K mg base (L2N.CX P w) (k + 2) a fd r.ps (spOf ⟨K, xt, callN T k, none⟩ (r.id + hotOff))
  | 0, r, hr, a, fd, F => ⟨fn_zero fun vs H Q E ⟨μ, S, ds, rs, rv, h⟩ => h, fn_zeroH fun vs H Q E ⟨μ, S, ds, rs, rv, h⟩ => h⟩
  | k + 1, r, hr, a, fd, F => by
    have ro := St.row r hr
    have hT : Tabs tab ⟨K, xt, callN T k, none⟩ (k + 2) P w K mg base := ⟨fun x f np hx => by
      obtain ⟨hl, r2, h2, rfl, rfl⟩ := St.fn x f np hx
      obtain ⟨b, fd2, F2, m2, m3, b2⟩ := St.at_ r2 h2
      obtain ⟨i1, i2⟩ := all_ok St k r2 h2 b fd2 F2
      exact ⟨hl, b, fd2, r2.ps, m2, m3, F2.kp, b2, i1, i2⟩, St.cst, St.gcd, St.dct, St.blt, fun x c fo subs q => by
      obtain ⟨C, h1, h2, h3, h4, h5⟩ := St.exc x c fo subs q
      exact ⟨C, h1, h2, h3 P w base, h4, h5⟩, St.xts⟩
    refine ⟨step_ok ro hT F (callN_some (St.tb r hr)), ?_⟩
    have htb := St.tbh r hr
    generalize r.id + hotOff = j at htb ⊢
    cases hd : r.dh with
    | none =>
      rw [hd] at htb
      refine fn_zeroH fun vs H Q E ⟨μ, S, ds, rs, rv, h⟩ => ?_
      rw [show Gd.F ⟨K, xt, callN T (k + 1), none⟩ = callN T (k + 1) from rfl, callN_none htb] at h
      exact h
    | some dh => exact step_okH ro (ro.dh dh hd) hT F (callN_some (htb.trans hd))

/-- the law's promise -/
def spLaw (K : PySem.W.Frag) : Sp := fun vs H Q _ => ∃ (a : Addr) (ns : List Int), vs = [.ref a] ∧ Only H ∧ SqL K H a (ns.map V.int) ∧ ns.length ≤ 63 ∧ ∀ H', Q (.bl true) H'
theorem sqF_only {H : Hp} {a : Addr} {xs : List V} (o : Only H) (h : SqL K H a xs) : SqF K H a xs := by
  rcases h with (h | ⟨ob, h⟩) | h
  · rcases o a with z | ⟨ob, ys, z⟩
    · rw [z] at h; cases h
    · rw [z] at h; cases h
  · exact .inl ⟨ob, h⟩
  · exact .inr h
/-- the law, when the evaluator says True -/
theorem law_ok (St : Stand w rows tab T K mg xt) {k : Nat} {r : Row} (hr : r ∈ rows) {a : Addr} {fd : FuncData} (F : Fun K r.name r.name r.st a fd)
    (run : ∀ ns : List Int, ns.length ≤ 63 → ∃ S', callN T k r.id [.rol (ns.map .int)] [] = .ok (.bl true) S') : FnOk P w K mg base (L2N.CX P w) (k + 2) a fd r.ps (spLaw K) :=
  (all_ok St k r hr a fd F).1.imp fun vs H Q E ⟨b, ns, e, o, q, hl, hq⟩ => by
    subst e
    obtain ⟨S', hS⟩ := run ns hl
    refine ⟨[], [], [.rol (ns.map .int)], ⟨rfl, List.nodup_nil, fun n c h => by simp at h⟩, .cons (.rol (sqF_only o q) (.ofInts ns)) .nil, ?_⟩
    show Aft _ E [] H (QV _ Q) (callN T k r.id [.rol (ns.map .int)] [])
    rw [hS]
    intro μ' H' e r' v rv
    cases rv
    exact hq H'
end

/-! ### the end of a law's text -/
/-- a def as it stands behind the top -/
def DefAt (K : PySem.W.Frag) (x : Str) (st : PySem.Stmt) : Prop := ∃ (f : Addr) (oc : Value) (od : Option Addr) (kV doc pm : Value) (an : Option Addr) (cdv ct : Value) (osl : Array (Option Value)),
  PySem.W.nsIn K mainGlobals x = some (some (.ref f)) ∧ K.lookup f = some ⟨oc, od, .func (PySem.W.fnOf x x (defArgs st) (defBody st) (defScope st) .none kV doc pm an cdv ct), osl⟩ ∧ PySem.W.codeIn K cdv x = true ∧ PySem.W.keepIn K (.ref f) = true
theorem def_mk {K : PySem.W.Frag} {x : Str} {st : PySem.Stmt} {f : Addr} {oc : Value} {od : Option Addr} {kV doc pm : Value} {an : Option Addr} {cdv ct : Value} {osl : Array (Option Value)} (a : PySem.W.nsIn K mainGlobals x = some (some (.ref f)))
    (l : K.lookup f = some ⟨oc, od, .func (PySem.W.fnOf x x (defArgs st) (defBody st) (defScope st) .none kV doc pm an cdv ct), osl⟩) (c : PySem.W.codeIn K cdv x = true) (k : PySem.W.keepIn K (.ref f) = true) : DefAt K x st := ⟨f, oc, od, kV, doc, pm, an, cdv, ct, osl, a, l, c, k⟩
theorem int_mk {K : PySem.W.Frag} {x : Str} {i : Int} {t : Tok} (a : PySem.W.nsIn K mainGlobals x = some (some (.int i t))) : ∃ t, PySem.W.nsIn K mainGlobals x = some (some (.int i t)) := ⟨t, a⟩
theorem str_mk {K : PySem.W.Frag} {x : Str} {i : Str} {t : Tok} (a : PySem.W.nsIn K mainGlobals x = some (some (.str i t))) : ∃ t, PySem.W.nsIn K mainGlobals x = some (some (.str i t)) := ⟨t, a⟩
/-- how a def binds its parameters, all of them given -/
def BindAt (st : PySem.Stmt) (ps : List Str) : Prop := ∀ (x : Str) (kV doc pm : Value) (an : Option Addr) (cdv ct : Value) (us : List Value), us.length = ps.length → bindArgs (PySem.W.fnOf x x (defArgs st) (defBody st) (defScope st) .none kV doc pm an cdv ct) ⟨us, []⟩ = pure (ps.zip us)
theorem def_at {K : PySem.W.Frag} {h : Heap} {mg : Str → Option Value} (X : K.In h) (G : h.Ns mainGlobals mg) {x : Str} {st : PySem.Stmt} {ps : List Str} (d : DefAt K x st) (b : BindAt st ps) : ∃ a fd, Fun K x x st a fd ∧ mg x = some (.ref a) ∧ PySem.W.nsIn K mainGlobals x = some (some (.ref a)) ∧ Binds K fd ps [] := by
  obtain ⟨f, oc, od, kV, doc, pm, an, cdv, ct, osl, a, l, c, k⟩ := d
  have F := fun_mk (st := st) l c k
  exact ⟨f, _, F, PySem.W.mg_of X G a, a, F.binds fun kV doc pm an cdv ct us hl => b x kV doc pm an cdv ct us hl⟩
/-- an own error class: its number, its address, its field with its __init__ -/
structure XRow where
  c : Nat
  name : Str
  C : Addr
  fo : Option Str
  subs : List Nat
def xtOf (xs : List XRow) : Nat → Option (Addr × Option Str) := fun n => (xs.find? fun r => r.c == n).map fun r => (r.C, r.fo)
structure XRowOk (K : PySem.W.Frag) (mg : Str → Option Value) (r : XRow) : Prop where
  at_ : mg r.name = some (.ref r.C)
  made : ∀ P w base, MkAt P w K mg base r.C r.fo
  xc : XcC K r.C
  hf : ∀ f, r.fo = some f → PySem.W.findIn K (.ref r.C) f = some none
/-- which class is of which -/
def SubsOk (K : PySem.W.Frag) (xs : List XRow) : Prop := ∀ r ∈ xs, ∀ q ∈ xs, PySem.W.subIn K (.ref r.C) (.ref q.C) = some (q.subs.contains r.c)
theorem subs_ok {K : PySem.W.Frag} {xs : List XRow} (h : SubsOk K xs) (hs : ∀ r ∈ xs, r.subs.contains r.c = true) {r q : XRow} (hr : r ∈ xs) (hq : q ∈ xs) : PySem.W.subIn K (.ref r.C) (.ref q.C) = some (q.subs.contains r.c) ∧ (r.C = q.C → q.subs.contains r.c = true) := by
  refine ⟨h r hr q hq, fun e => ?_⟩
  have h1 := h r hr q hq
  rw [← e, h r hr r hr, hs r hr] at h1
  exact (Option.some.inj h1).symm
def GlOk (w : World) (mg : Str → Option Value) (K : PySem.W.Frag) (xs : List XRow) (p : Str × Gl') : Prop :=
  match p.2 with
  | .fn _ _ => True
  | .cst d => ∃ u v, mg p.1 = some u ∧ RelV v u ∧ ∀ μ H, RepV K μ H d v
  | .gcd => mg p.1 = some (.builtin "math.gcd")
  | .dct kvs => ∃ a, mg p.1 = some (.ref a) ∧ GdAt w K a kvs
  | .exc c fo subs => ∃ r ∈ xs, r.name = p.1 ∧ r.c = c ∧ r.fo = fo ∧ r.subs = subs ∧ xs.find? (fun r => r.c == c) = some r
theorem gl_gcd {w : World} {xs : List XRow} {K : PySem.W.Frag} {h : Heap} {mg : Str → Option Value} (X : K.In h) (G : h.Ns mainGlobals mg) {x : Str} (e : PySem.W.nsIn K mainGlobals x = some (some (.builtin "math.gcd"))) : GlOk w mg K xs (x, .gcd) := PySem.W.mg_of X G e
theorem gl_int {w : World} {xs : List XRow} {K : PySem.W.Frag} {h : Heap} {mg : Str → Option Value} (X : K.In h) (G : h.Ns mainGlobals mg) {x : Str} {i : Int} (e : ∃ t, PySem.W.nsIn K mainGlobals x = some (some (.int i t))) : GlOk w mg K xs (x, .cst (.int i)) := by
  obtain ⟨t, e⟩ := e
  exact ⟨_, .int i, PySem.W.mg_of X G e, ⟨t, rfl⟩, fun _ _ => .int i⟩
theorem gl_str {w : World} {xs : List XRow} {K : PySem.W.Frag} {h : Heap} {mg : Str → Option Value} (X : K.In h) (G : h.Ns mainGlobals mg) {x : Str} {i : Str} (e : ∃ t, PySem.W.nsIn K mainGlobals x = some (some (.str i t))) : GlOk w mg K xs (x, .cst (.str i)) := by
  obtain ⟨t, e⟩ := e
  exact ⟨_, .str i, PySem.W.mg_of X G e, ⟨t, rfl⟩, fun _ _ => .str i⟩
/-- a dict of the module, behind the top -/
def DctAt (w : World) (K : PySem.W.Frag) (x : Str) (kvs : List (Str × D)) : Prop := ∃ a, PySem.W.nsIn K mainGlobals x = some (some (.ref a)) ∧ GdAt w K a kvs
theorem gl_dct {w : World} {xs : List XRow} {K : PySem.W.Frag} {h : Heap} {mg : Str → Option Value} (X : K.In h) (G : h.Ns mainGlobals mg) {x : Str} {kvs : List (Str × D)} (d : DctAt w K x kvs) : GlOk w mg K xs (x, .dct kvs) := by
  obtain ⟨a, e, g⟩ := d
  exact ⟨a, PySem.W.mg_of X G e, g⟩
def EsOk (K : PySem.W.Frag) : List DictEntry → List (Str × D) → Prop
  | [], [] => True
  | e :: es, q :: kvs => (∃ t, e.key = .str q.1 t) ∧ (∃ v, RelV v e.val ∧ ∀ μ H, RepV K μ H q.2 v) ∧ EsOk K es kvs
  | _, _ => False
theorem es_nil {K : PySem.W.Frag} : EsOk K [] [] := trivial
theorem es_str {K : PySem.W.Frag} {h : Int} {k s : Str} {t t' : Tok} {es : List DictEntry} {kvs : List (Str × D)} (r : EsOk K es kvs) : EsOk K (⟨h, .str k t, .str s t'⟩ :: es) ((k, .str s) :: kvs) := ⟨⟨t, rfl⟩, ⟨.str s, ⟨t', rfl⟩, fun _ _ => .str s⟩, r⟩
theorem es_int {K : PySem.W.Frag} {h : Int} {k : Str} {i : Int} {t t' : Tok} {es : List DictEntry} {kvs : List (Str × D)} (r : EsOk K es kvs) : EsOk K (⟨h, .str k t, .int i t'⟩ :: es) ((k, .int i) :: kvs) := ⟨⟨t, rfl⟩, ⟨.int i, ⟨t', rfl⟩, fun _ _ => .int i⟩, r⟩
theorem es_fn {K : PySem.W.Frag} {h : Int} {k x : Str} {t : Tok} {a : Addr} {es : List DictEntry} {kvs : List (Str × D)} (q : PySem.W.nsIn K mainGlobals x = some (some (.ref a))) (r : EsOk K es kvs) : EsOk K (⟨h, .str k t, .ref a⟩ :: es) ((k, .fnv x) :: kvs) :=
  ⟨⟨t, rfl⟩, ⟨.ref a, rfl, fun _ _ => .fnv q⟩, r⟩
theorem es_find {K : PySem.W.Frag} (z : Str) : ∀ {es : List DictEntry} {kvs : List (Str × D)}, EsOk K es kvs → es.any (·.refKey) = false ∧ match kvs.lookup z with
    | none => es.find? (·.key.isStr z) = none
    | some d => ∃ e v, es.find? (·.key.isStr z) = some e ∧ RelV v e.val ∧ ∀ μ H, RepV K μ H d v
  | [], [], _ => ⟨rfl, rfl⟩
  | e :: es, q :: kvs, ⟨⟨t, h1⟩, ⟨v, h2, h3⟩, h4⟩ => by
    obtain ⟨i1, i2⟩ := es_find z h4
    have hk : e.key.isStr z = (z == q.1) := by
      rw [h1]
      show (q.1 == z) = (z == q.1)
      exact Bool.eq_iff_iff.2 ⟨fun h => by simpa using (eq_of_beq h).symm, fun h => by simpa using (eq_of_beq h).symm⟩
    have r1 : e.refKey = false := by unfold DictEntry.refKey; rw [h1]
    refine ⟨by rw [List.any_cons, r1, i1]; rfl, ?_⟩
    rw [List.lookup_cons, List.find?_cons, hk]
    by_cases w : (z == q.1) = true
    · rw [w]; exact ⟨e, v, rfl, h2, h3⟩
    · have w' : (z == q.1) = false := by simpa using w
      rw [w']; exact i2
  | [], _ :: _, h => h.elim
  | _ :: _, [], h => h.elim
theorem dct_mk {w : World} {K : PySem.W.Frag} {x : Str} {ad : Addr} {es : Array DictEntry} {n : Nat} {kvs : List (Str × D)} (a : PySem.W.nsIn K mainGlobals x = some (some (.ref ad))) (l : K.lookup ad = some ⟨.type "dict", none, .dict es n, #[]⟩) (k : PySem.W.KeysLit w.params es.toList)
    (o : (ad == sysModules) = false) (m : EsOk K es.toList kvs) : DctAt w K x kvs := by
  refine ⟨ad, a, es, n, ⟨l, k, o⟩, fun z => ?_⟩
  obtain ⟨h1, h2⟩ := es_find z m
  split
  next e =>
    rw [e] at h2
    simp only at h2
    unfold PySem.W.nsIn
    rw [l]
    simp only [h2, h1, Bool.false_eq_true, if_false]
  next d e =>
    rw [e] at h2
    simp only at h2
    obtain ⟨en, v, q1, q2, q3⟩ := h2
    refine ⟨en.val, v, ?_, q2, q3⟩
    unfold PySem.W.nsIn
    rw [l]
    simp only [q1]
def fnCheck (tab : GTab) (rows : List Row) : Bool := tab.all fun p => match p.2 with
  | .fn f _ => decide (f < 1000) && rows.any fun r => decide (r.name = p.1) && decide (r.id = f)
  | _ => true
theorem xt_mem {xs : List XRow} {c : Nat} {C : Addr} {fo : Option Str} (h : xtOf xs c = some (C, fo)) : ∃ r ∈ xs, r.c = c ∧ r.C = C ∧ r.fo = fo := by
  unfold xtOf at h
  simp only [Option.map_eq_some_iff, Prod.mk.injEq] at h
  obtain ⟨r, h1, h2, h3⟩ := h
  exact ⟨r, List.mem_of_find?_eq_some h1, by simpa using List.find?_some h1, h2, h3⟩
theorem stand_of {w : World} {rows : List Row} {tab : GTab} {T : Tab} {K : PySem.W.Frag} {mg : Str → Option Value} {xs : List XRow} (h1 : ∀ r ∈ rows, RowOk tab r) (h2 : ∀ r ∈ rows, T r.id = some r.d) (h2' : ∀ r ∈ rows, T (r.id + hotOff) = r.dh)
    (h3 : ∀ r ∈ rows, ∃ a fd, Fun K r.name r.name r.st a fd ∧ mg r.name = some (.ref a) ∧ PySem.W.nsIn K mainGlobals r.name = some (some (.ref a)) ∧ Binds K fd r.ps [])
    (h4 : fnCheck tab rows = true) (h5 : ∀ p ∈ tab, GlOk w mg K xs p) (h6 : ∀ x ∈ bltNames, mg x = none) (h7 : ∀ r ∈ xs, XRowOk K mg r) (h8 : SubsOk K xs) (h9 : ∀ r ∈ xs, r.subs.contains r.c = true) : Stand w rows tab T K mg (xtOf xs) where
  row := h1
  tb := h2
  tbh := h2'
  at_ := h3
  fn := fun x f np h => by
    have q := List.all_eq_true.mp h4 _ (PySem.mem_of_lookup h)
    simp only [List.any_eq_true, Bool.and_eq_true, decide_eq_true_eq] at q
    obtain ⟨h0, r, h1, h2, h3⟩ := q
    exact ⟨h0, r, h1, h2, h3⟩
  cst := fun x d h => h5 _ (PySem.mem_of_lookup h)
  gcd := fun x h => h5 _ (PySem.mem_of_lookup h)
  dct := fun x kvs h => h5 _ (PySem.mem_of_lookup h)
  blt := h6
  exc := fun x c fo subs h => by
    obtain ⟨r, hr, rfl, rfl, rfl, rfl, hf⟩ := h5 _ (PySem.mem_of_lookup h)
    have o := h7 r hr
    refine ⟨r.C, o.at_, by unfold xtOf; rw [hf]; rfl, o.made, o.xc, fun c' C' fo' q => ?_⟩
    obtain ⟨r', hr', rfl, rfl, rfl⟩ := xt_mem q
    exact subs_ok h8 h9 hr' hr
  xts := fun c C fo h => by
    obtain ⟨r, hr, rfl, rfl, rfl⟩ := xt_mem h
    exact ⟨(h7 r hr).xc, (h7 r hr).hf⟩
/-- the n-th statement of a class's text -/
def clsAt (n : Nat) (s : PySem.Stmt) : PySem.Stmt := match s with
  | .ClassDef _ _ _ body _ _ _ _ _ _ _ => body.getD n (.Pass ⟨0, 0, 0, 0⟩)
  | _ => .Pass ⟨0, 0, 0, 0⟩
theorem init_txt {st : PySem.Stmt} {f n1 n2 : Str} (b : ∃ q1 q2 q3 q4, defBody st = [.Assign [.Attribute (.Name n1 q1) f q2] (.Name n2 q3) q4]) (s : FnScope [n1, n2] [n1, n2] (defScope st)) (h : ((defScope st).names.lookup n1 == some .local && (defScope st).names.lookup n2 == some .local &&
    !(n1 == ("__debug__" : Str)) && !(n1 == ("__classdict__" : Str)) && !(n2 == ("__debug__" : Str)) && !(n2 == ("__classdict__" : Str))) = true) : InitTxt st f n1 n2 := by
  simp only [Bool.and_eq_true, beq_iff_eq, Bool.not_eq_true'] at h
  obtain ⟨⟨⟨⟨⟨h1, h2⟩, h3⟩, h4⟩, h5⟩, h6⟩ := h
  exact ⟨b, s, h1, h2, ⟨h3, h4⟩, ⟨h5, h6⟩⟩
/-! an own error class, behind the top -/
def X0At (K : PySem.W.Frag) (x : Str) (C : Addr) : Prop := PySem.W.nsIn K mainGlobals x = some (some (.ref C)) ∧ XcC K C ∧ PySem.W.excIn K C veL "ValueError.__new__" = true
theorem xc_mk {K : PySem.W.Frag} {C : Addr} (k : PySem.W.keepIn K (.ref C) = true) (t : PySem.W.typeIn K (.ref C) = some (.type "type")) (g1 : PySem.W.findIn K (.ref C) "__getattribute__" = some (some (.builtin "BaseException.__getattribute__"))) (g2 : PySem.W.findIn K (.ref C) "__getattr__" = some none)
    (e : PySem.W.subIn K (.ref C) (.type "BaseException") = some true) (d : PySem.W.hasDictIn K C = true) (c : PySem.W.findIn K (.ref C) "__class__" = some (some (.builtin "object.__class__"))) (m : PySem.W.mroIn K C (.type "object") = some true)
    (n : PySem.W.specialIn K (.builtin "object.__class__") "__get__" = some (some (.builtin "getset_descriptor.__get__"))) (u : PySem.W.takesIn K (.builtin "object.__class__") = some true) : XcC K C := ⟨k, t, ⟨g1, g2, e, d⟩, c, m, n, u⟩
theorem x0_mk {K : PySem.W.Frag} {x : Str} {C : Addr} (a : PySem.W.nsIn K mainGlobals x = some (some (.ref C))) (b : XcC K C) (c : PySem.W.excIn K C veL "ValueError.__new__" = true) : X0At K x C := ⟨a, b, c⟩
theorem x0_ok {K : PySem.W.Frag} {h : Heap} {mg : Str → Option Value} (X : K.In h) (G : h.Ns mainGlobals mg) {x : Str} {C : Addr} {c : Nat} {subs : List Nat} (d : X0At K x C) : XRowOk K mg ⟨c, x, C, none, subs⟩ :=
  ⟨PySem.W.mg_of X G d.1, fun _ _ _ => d.2.2, d.2.1, fun f q => nomatch q⟩
/-- with a field that its __init__ keeps; st the class's text -/
def X1At (K : PySem.W.Frag) (x qual f : Str) (st : PySem.Stmt) (C : Addr) : Prop := PySem.W.nsIn K mainGlobals x = some (some (.ref C)) ∧ XcC K C ∧
  (∃ nm q N bs bm sn sub ab col dd k0 k1 k2 k3 k5, K.lookup C = some (excClassObj nm q C N bs bm true sn sub ab col dd k0 k1 k2 k3 k5 "ValueError.__new__") ∧ PySem.HandSPX.refsVE bm = true) ∧
  PySem.W.findIn K (.ref C) "__setattr__" = some (some (.builtin "object.__setattr__")) ∧ PySem.W.findIn K (.ref C) f = some none ∧
  ∃ (fI : Addr) (oc : Value) (od : Option Addr) (kV doc pm : Value) (an : Option Addr) (cdv ct : Value) (osl : Array (Option Value)),
    PySem.W.findIn K (.ref C) "__init__" = some (some (.ref fI)) ∧ PySem.W.typeIn K (.ref fI) = some (.type "function") ∧
    K.lookup fI = some ⟨oc, od, .func (PySem.W.fnOf "__init__" qual (defArgs st) (defBody st) (defScope st) .none kV doc pm an cdv ct), osl⟩ ∧ PySem.W.codeIn K cdv qual = true ∧ PySem.W.keepIn K (.ref fI) = true
theorem x1_mk {K : PySem.W.Frag} {x qual f : Str} {st : PySem.Stmt} {C : Addr} {nm q : Str} {N : Addr} {bs bm sn sub ab col dd k0 k1 k2 k3 k5} {fI : Addr} {oc : Value} {od : Option Addr} {kV doc pm : Value} {an : Option Addr} {cdv ct : Value} {osl : Array (Option Value)}
    (a : PySem.W.nsIn K mainGlobals x = some (some (.ref C))) (b : XcC K C) (l : K.lookup C = some (excClassObj nm q C N bs bm true sn sub ab col dd k0 k1 k2 k3 k5 "ValueError.__new__")) (m : PySem.HandSPX.refsVE bm = true)
    (s : PySem.W.findIn K (.ref C) "__setattr__" = some (some (.builtin "object.__setattr__"))) (n : PySem.W.findIn K (.ref C) f = some none) (i : PySem.W.findIn K (.ref C) "__init__" = some (some (.ref fI))) (t : PySem.W.typeIn K (.ref fI) = some (.type "function"))
    (g : K.lookup fI = some ⟨oc, od, .func (PySem.W.fnOf "__init__" qual (defArgs st) (defBody st) (defScope st) .none kV doc pm an cdv ct), osl⟩) (c : PySem.W.codeIn K cdv qual = true) (k : PySem.W.keepIn K (.ref fI) = true) : X1At K x qual f st C :=
  ⟨a, b, ⟨_, _, _, _, _, _, _, _, _, _, _, _, _, _, _, l, m⟩, s, n, fI, oc, od, kV, doc, pm, an, cdv, ct, osl, i, t, g, c, k⟩
theorem x1_ok {K : PySem.W.Frag} {h : Heap} {mg : Str → Option Value} (X : K.In h) (G : h.Ns mainGlobals mg) {x qual f n1 n2 : Str} {st : PySem.Stmt} {C : Addr} {c : Nat} {subs : List Nat} (t : InitTxt st f n1 n2)
    (hb : ∀ (y z : Str) (kV doc pm : Value) (an : Option Addr) (cdv ct : Value) (us : List Value), us.length = 2 → bindArgs (PySem.W.fnOf y z (defArgs st) (defBody st) (defScope st) .none kV doc pm an cdv ct) ⟨us, []⟩ = pure ([n1, n2].zip us)) (d : X1At K x qual f st C) :
    XRowOk K mg ⟨c, x, C, some f, subs⟩ := by
  obtain ⟨a, b, l, s, n, fI, oc, od, kV, doc, pm, an, cdv, ct, osl, i, ty, g, cd, k⟩ := d
  have xc := b
  refine ⟨PySem.W.mg_of X G a, fun P w base => ?_, xc, fun f' q => by cases q; exact n⟩
  have T : OexC K C := ⟨l, s, xc.xf.exC, xc.tyC, xc.kC⟩
  have F := fun_mk (x := "__init__") (st := st) g cd k
  exact ⟨T, fI, _, n1, n2, i, ty, init_ok F t T n, F.binds fun kV doc pm an cdv ct us hl => hb _ _ kV doc pm an cdv ct us hl⟩
theorem none_of {K : PySem.W.Frag} {h : Heap} {mg : Str → Option Value} (X : K.In h) (G : h.Ns mainGlobals mg) (e : ∀ x ∈ bltNames, PySem.W.nsIn K mainGlobals x = some none) : ∀ x ∈ bltNames, mg x = none := fun x hx => PySem.W.mg_none_of X G (e x hx)
theorem walk_law {l : PySem.W.OpenLaw} {q : Program} {loose : List Str} {XP : (Str → Option Value) → Heap → Prop} {YP : World → Heap → Prop} {d : DefRec} {K : Params → PySem.W.Frag} (hn : l.most = some 63) (hdf : d.params.defaults = [])
    (hY : ∀ (w : World) (h : Heap), YP w h → (K w.params).In h) (k : Nat) (hr : Room k callerA)
    (F : ∀ (w : World) (mg : Str → Option Value) (fa : Addr) (h : Heap), (K w.params).In h → h.Ns mainGlobals mg → mg d.name = some (.ref fa) →
      ∃ fd : FuncData, (∀ (s : Shared) (u : Value), BindsTo s fd ⟨[u], []⟩ [("script", u)]) ∧ ∀ base : Heap, (K w.params).In base → base.Ns mainGlobals mg → FnOk l.prog w (K w.params) mg base (L2N.CX l.prog w) k fa fd ["script"] (spLaw (K w.params))) :
    PySem.W.WalkO q loose XP YP l.row.toRowW d [] (fun f vs => PySem.call f vs) :=
  L2.walk_of (n := 63) (k := k) (x := "script") (CX := fun w => L2N.CX l.prog w) (sp := fun w => spLaw (K w.params)) hn (by decide) hdf hr hY F (fun _ _ a ns hl ho hS => ⟨a, ns, rfl, ho, hS, hl, fun _ => rfl⟩)
    fun _ _ _ _ _ ⟨_, _, _, _, _, _, _, _, _, _, _, _, z⟩ => z
end PD
end

section
set_option linter.all false
set_option Elab.async false
set_option maxRecDepth 100000
set_option maxHeartbeats 4000000
namespace K30
open PySem L2 PD
def d_is_integer : Def := ⟨1, 1, (.cons (.ret (.and (.isi (.slot 0) .int) (.not (.isi (.slot 0) .bool)))) .nil)⟩
def d_is_between : Def := ⟨3, 3, (.cons (.ret (.and (.call 2 (.cons (.slot 0) .nil)) (.chn .LtE .LtE (.slot 1) (.slot 0) (.slot 2)))) .nil)⟩
def d_is_sign : Def := ⟨1, 1, (.cons (.ret (.and (.isi (.slot 0) .str) (.and (.cmp .Eq (.blt .len (.cons (.slot 0) .nil)) (.cst (.int 1))) (.cmp .In (.slot 0) (.cst (.str ("abcdefghijklmnopqrstuvwxyz" : PySem.Str))))))) .nil)⟩
def d_signs_below : Def := ⟨3, 6, (.cons (.iff (.not (.isi (.slot 0) .tuple)) (.cons (.ret (.cst .non)) .nil) .nil) (.cons (.asg (.nm 3) (.cst (.int 0))) (.cons (.for_ (.nm 4) (.any (.slot 0)) (.cons (.iff (.isi (.slot 4) .str) (.cons (.iff (.not (.call 33 (.cons (.slot 4) .nil))) (.cons (.ret (.cst .non)) .nil) .nil) (.cons (.aug 3 .Add (.cst (.int 1))) .nil)) (.cons (.asg (.nm 5) (.ife (.and (.cmp .Gt (.slot 1) (.cst (.int 0))) (.cmp .NotEq (.slot 4) (.tup .nil))) (.call 34 (.cons (.slot 4) (.cons (.bin .Sub (.slot 1) (.cst (.int 1))) (.cons (.bin .Sub (.slot 2) (.slot 3)) .nil)))) (.cst .non))) (.cons (.iff (.cmp .Is (.slot 5) (.cst .non)) (.cons (.ret (.cst .non)) .nil) .nil) (.cons (.aug 3 .Add (.slot 5)) .nil)))) (.cons (.iff (.cmp .Gt (.slot 3) (.slot 2)) (.cons (.ret (.cst .non)) .nil) .nil) .nil))) (.cons (.ret (.slot 3)) .nil))))⟩
def d_is_long_term : Def := ⟨2, 2, (.cons (.ret (.cmp .IsNot (.call 34 (.cons (.slot 0) (.cons (.cst (.int 6)) (.cons (.slot 1) .nil)))) (.cst .non))) .nil)⟩
def d_need_long_terms : Def := ⟨1, 2, (.cons (.for_ (.nm 1) (.any (.slot 0)) (.cons (.iff (.not (.call 35 (.cons (.slot 1) (.cons (.cst (.int 100000)) .nil)))) (.cons .nev .nil) .nil) .nil)) .nil)⟩
def d_turned_row : Def := ⟨3, 4, (.cons (.asg (.nm 3) (.ix (.slot 0) (.slot 1))) (.cons (.iff (.or (.isi (.slot 3) .str) (.not (.chn .LtE .LtE (.cst (.int 1)) (.slot 2) (.blt .len (.cons (.slot 3) .nil))))) (.cons (.ret (.cst .non)) .nil) .nil) (.cons (.ret (.bin .Add (.bin .Add (.bin .Add (.slc (.slot 0) .no (.so (.slot 1))) (.slc (.slot 3) .no (.so (.slot 2)))) (.tup (.cons (.bin .Add (.slc (.slot 3) (.so (.slot 2)) .no) (.slc (.slot 3) .no (.so (.slot 2)))) .nil))) (.slc (.slot 0) (.so (.bin .Add (.slot 1) (.cst (.int 1)))) .no))) .nil)))⟩
def d_turned_back_row : Def := ⟨3, 5, (.cons (.asg (.nm 3) (.bin .Add (.slot 1) (.slot 2))) (.cons (.iff (.or (.cmp .Lt (.slot 2) (.cst (.int 1))) (.or (.cmp .GtE (.slot 3) (.blt .len (.cons (.slot 0) .nil))) (.isi (.ix (.slot 0) (.slot 3)) .str))) (.cons (.ret (.cst .non)) .nil) .nil) (.cons (.asg (.nm 4) (.ix (.slot 0) (.slot 3))) (.cons (.iff (.or (.cmp .Lt (.blt .len (.cons (.slot 4) .nil)) (.slot 2)) (.cmp .NotEq (.slc (.slot 4) (.so (.bin .Sub (.blt .len (.cons (.slot 4) .nil)) (.slot 2))) .no) (.slc (.slot 0) (.so (.slot 1)) (.so (.slot 3))))) (.cons (.ret (.cst .non)) .nil) .nil) (.cons (.ret (.bin .Add (.bin .Add (.slc (.slot 0) .no (.so (.slot 1))) (.tup (.cons (.bin .Add (.slc (.slot 0) (.so (.slot 1)) (.so (.slot 3))) (.slc (.slot 4) .no (.so (.bin .Sub (.blt .len (.cons (.slot 4) .nil)) (.slot 2))))) .nil))) (.slc (.slot 0) (.so (.bin .Add (.slot 3) (.cst (.int 1)))) .no))) .nil)))))⟩
def d_folded_row : Def := ⟨3, 5, (.cons (.asg (.nm 3) (.ix (.slot 0) (.slot 1))) (.cons (.iff (.or (.isi (.slot 3) .str) (.or (.cmp .Lt (.slot 2) (.cst (.int 2))) (.cmp .NotEq (.bin .Mod (.blt .len (.cons (.slot 3) .nil)) (.slot 2)) (.cst (.int 0))))) (.cons (.ret (.cst .non)) .nil) .nil) (.cons (.asg (.nm 4) (.slc (.slot 3) .no (.so (.bin .FloorDiv (.blt .len (.cons (.slot 3) .nil)) (.slot 2))))) (.cons (.ret (.ife (.cmp .Eq (.bin .Mult (.slot 4) (.slot 2)) (.slot 3)) (.bin .Add (.bin .Add (.slc (.slot 0) .no (.so (.slot 1))) (.tup (.cons (.slot 4) .nil))) (.slc (.slot 0) (.so (.bin .Add (.slot 1) (.cst (.int 1)))) .no)) (.cst .non))) .nil))))⟩
def d_timed_row : Def := ⟨3, 4, (.cons (.asg (.nm 3) (.ix (.slot 0) (.slot 1))) (.cons (.iff (.or (.isi (.slot 3) .str) (.not (.chn .LtE .LtE (.cst (.int 2)) (.slot 2) (.bin .FloorDiv (.cst (.int 100000)) (.blt .len (.cons (.slot 3) .nil)))))) (.cons (.ret (.cst .non)) .nil) .nil) (.cons (.ret (.bin .Add (.bin .Add (.slc (.slot 0) .no (.so (.slot 1))) (.tup (.cons (.bin .Mult (.slot 3) (.slot 2)) .nil))) (.slc (.slot 0) (.so (.bin .Add (.slot 1) (.cst (.int 1)))) .no))) .nil)))⟩
def d_stepped_row : Def := ⟨3, 8, (.cons (.iff (.cmp .Gt (.blt .len (.cons (.slot 1) .nil)) (.cst (.int 0))) (.cons (.asg (.nm 4) (.ix (.slot 1) (.cst (.int 0)))) (.cons (.iff (.or (.cmp .GtE (.slot 4) (.blt .len (.cons (.slot 0) .nil))) (.isi (.ix (.slot 0) (.slot 4)) .str)) (.cons (.ret (.cst .non)) .nil) .nil) (.cons (.asg (.nm 5) (.call 75 (.cons (.ix (.slot 0) (.slot 4)) (.cons (.slc (.slot 1) (.so (.cst (.int 1))) .no) (.cons (.slot 2) .nil))))) (.cons (.ret (.ife (.cmp .Is (.slot 5) (.cst .non)) (.cst .non) (.bin .Add (.bin .Add (.slc (.slot 0) .no (.so (.slot 4))) (.tup (.cons (.slot 5) .nil))) (.slc (.slot 0) (.so (.bin .Add (.slot 4) (.cst (.int 1)))) .no)))) .nil)))) .nil) (.cons (.asg (.tp (.cons (.nm 4) (.cons (.nm 6) (.cons (.nm 7) .nil)))) (.slot 2)) (.cons (.iff (.cmp .GtE (.slot 4) (.blt .len (.cons (.slot 0) .nil))) (.cons (.ret (.cst .non)) .nil) .nil) (.cons (.asg (.nm 3) (.gix [(("turn" : PySem.Str), .fnv "turned_row"), (("back" : PySem.Str), .fnv "turned_back_row"), (("fold" : PySem.Str), .fnv "folded_row"), (("times" : PySem.Str), .fnv "timed_row")] (.slot 6))) (.cons (.ret (.callv 3 [(("is_between" : PySem.Str), 3), (("signs_below" : PySem.Str), 34), (("turned_row" : PySem.Str), 104), (("turned_back_row" : PySem.Str), 105), (("folded_row" : PySem.Str), 106), (("timed_row" : PySem.Str), 107), (("stepped_row" : PySem.Str), 75), (("_law_put" : PySem.Str), 57), (("_law_outcome" : PySem.Str), 108)] (.cons (.slot 0) (.cons (.slot 4) (.cons (.slot 7) .nil))))) .nil)))))⟩
def d_is_step_form : Def := ⟨1, 2, (.cons (.iff (.or (.not (.isi (.slot 0) .tuple)) (.or (.cmp .NotEq (.blt .len (.cons (.slot 0) .nil)) (.cst (.int 4))) (.not (.isi (.ix (.slot 0) (.cst (.int 0))) .tuple)))) (.cons (.ret (.cst (.bl false))) .nil) .nil) (.cons (.iff (.or (.not (.isi (.ix (.slot 0) (.cst (.int 2))) .str)) (.gin true [("turn" : PySem.Str), ("back" : PySem.Str), ("fold" : PySem.Str), ("times" : PySem.Str)] (.ix (.slot 0) (.cst (.int 2))))) (.cons (.ret (.cst (.bl false))) .nil) .nil) (.cons (.ret (.blt .all (.cons (.lc (.call 3 (.cons (.slot 1) (.cons (.cst (.int 0)) (.cons (.cst (.int 100000)) .nil)))) (.nm 1) (.any (.lst (.star (.ix (.slot 0) (.cst (.int 0))) (.cons (.ix (.slot 0) (.cst (.int 1))) (.cons (.ix (.slot 0) (.cst (.int 3))) .nil))))) .no [1]) .nil))) .nil)))⟩
def d_behind_step : Def := ⟨2, 7, (.cons (.iff (.not (.call 76 (.cons (.slot 1) .nil))) (.cons (.ret (.cst .non)) .nil) .nil) (.cons (.asg (.tp (.cons (.nm 3) (.cons (.nm 4) (.cons (.nm 5) (.cons (.nm 6) .nil))))) (.slot 1)) (.cons (.asg (.nm 2) (.call 75 (.cons (.slot 0) (.cons (.slot 3) (.cons (.tup (.cons (.slot 4) (.cons (.slot 5) (.cons (.slot 6) .nil)))) .nil))))) (.cons (.ret (.ife (.and (.cmp .IsNot (.slot 2) (.cst .non)) (.call 35 (.cons (.slot 2) (.cons (.cst (.int 100000)) .nil)))) (.slot 2) (.cst .non))) .nil))))⟩
def d_stepped : Def := ⟨2, 3, (.cons (.exp (.call 77 (.cons (.lst (.cons (.slot 0) .nil)) .nil))) (.cons (.asg (.nm 2) (.call 78 (.cons (.slot 0) (.cons (.slot 1) .nil)))) (.cons (.iff (.cmp .Is (.slot 2) (.cst .non)) (.cons (.rai 8 .nil) .nil) .nil) (.cons (.ret (.slot 2)) .nil))))⟩
def d_undone_step : Def := ⟨1, 5, (.cons (.asg (.tp (.cons (.nm 1) (.cons (.nm 2) (.cons (.nm 3) (.cons (.nm 4) .nil))))) (.slot 0)) (.cons (.ret (.tup (.cons (.slot 1) (.cons (.slot 2) (.cons (.gix [(("turn" : PySem.Str), .str ("back" : PySem.Str)), (("back" : PySem.Str), .str ("turn" : PySem.Str)), (("fold" : PySem.Str), .str ("times" : PySem.Str)), (("times" : PySem.Str), .str ("fold" : PySem.Str))] (.slot 3)) (.cons (.slot 4) .nil)))))) .nil))⟩
def d_undone : Def := ⟨2, 2, (.cons (.exp (.call 77 (.cons (.lst (.cons (.slot 0) .nil)) .nil))) (.cons (.iff (.cmp .Is (.call 78 (.cons (.slot 0) (.cons (.slot 1) .nil))) (.cst .non)) (.cons (.rai 8 .nil) .nil) .nil) (.cons (.ret (.call 79 (.cons (.slot 1) .nil))) .nil)))⟩
def d__law_hand : Def := ⟨1, 3, (.cons (.asg (.nm 1) (.lc (.blt .abs (.cons (.blt .int (.cons (.slot 2) .nil)) .nil)) (.nm 2) (.any (.slc (.slot 0) .no (.so (.cst (.int 63))))) .no [2])) (.cons (.ret (.lst (.cons (.slot 1) (.cons (.cst (.int 0)) (.cons (.cst (.int 0)) (.cons (.bin .Add (.cst (.int 31)) (.bin .Mult (.cst (.int 7)) (.blt .len (.cons (.slot 1) .nil)))) (.cons (.cst (.int 0)) .nil))))))) .nil))⟩
def d__law_draw : Def := ⟨2, 5, (.cons (.iff (.and (.cmp .Eq (.ix (.slot 0) (.cst (.int 2))) (.cst (.int 0))) (.cmp .Lt (.ix (.slot 0) (.cst (.int 1))) (.blt .len (.cons (.ix (.slot 0) (.cst (.int 0))) .nil)))) (.cons (.asg (.nm 3) (.ix (.ix (.slot 0) (.cst (.int 0))) (.ix (.slot 0) (.cst (.int 1))))) (.cons (.seti (.slot 0) (.cst (.int 1)) (.bin .Add (.ix (.slot 0) (.cst (.int 1))) (.cst (.int 1)))) (.cons (.seti (.slot 0) (.cst (.int 3)) (.bin .Mod (.blt .int (.cons (.bin .Add (.bin .Add (.bin .Mult (.ix (.slot 0) (.cst (.int 3))) (.cst (.int 48271))) (.slot 3)) (.cst (.int 11))) .nil)) (.cst (.int 2147483647)))) (.cons (.iff (.cmp .GtE (.slot 3) (.bin .Pow (.cst (.int 10)) (.cst (.int 18)))) (.cons (.seti (.slot 0) (.cst (.int 2)) (.slot 3)) .nil) .nil) .nil)))) .nil) (.cons (.iff (.cmp .Gt (.ix (.slot 0) (.cst (.int 2))) (.cst (.int 0))) (.cons (.asg (.nm 4) (.bin .Mod (.blt .int (.cons (.ix (.slot 0) (.cst (.int 2))) .nil)) (.slot 1))) (.cons (.seti (.slot 0) (.cst (.int 2)) (.bin .FloorDiv (.ix (.slot 0) (.cst (.int 2))) (.slot 1))) (.cons (.ret (.slot 4)) .nil))) .nil) (.cons (.seti (.slot 0) (.cst (.int 4)) (.bin .Add (.ix (.slot 0) (.cst (.int 4))) (.cst (.int 1)))) (.cons (.asg (.nm 2) (.bin .Mod (.blt .int (.cons (.bin .Mult (.blt .int (.cons (.bin .Add (.ix (.slot 0) (.cst (.int 3))) (.bin .Mult (.cst (.int 6007)) (.ix (.slot 0) (.cst (.int 4))))) .nil)) (.cst (.int 69621))) .nil)) (.cst (.int 2147483629)))) (.cons (.asg (.nm 2) (.bin .Mod (.blt .int (.cons (.bin .Mult (.slot 2) (.bin .Add (.bin .FloorDiv (.slot 2) (.cst (.int 1013))) (.cst (.int 48271)))) .nil)) (.cst (.int 2147483647)))) (.cons (.asg (.nm 2) (.bin .Mod (.blt .int (.cons (.bin .Mult (.slot 2) (.bin .Add (.bin .FloorDiv (.slot 2) (.cst (.int 2011))) (.cst (.int 16807)))) .nil)) (.cst (.int 2147483587)))) (.cons (.ret (.bin .Mod (.blt .int (.cons (.bin .FloorDiv (.slot 2) (.cst (.int 32))) .nil)) (.slot 1))) .nil)))))))⟩
def d__law_some : Def := ⟨2, 2, (.cons (.ret (.ix (.slot 1) (.call 9 (.cons (.slot 0) (.cons (.blt .len (.cons (.slot 1) .nil)) .nil))))) .nil)⟩
def d__law_count : Def := ⟨1, 2, (.cons (.ret (.blt .sum (.cons (.lc (.ife (.isi (.slot 1) .str) (.cst (.int 1)) (.call 41 (.cons (.slot 1) .nil))) (.nm 1) (.any (.slot 0)) .no [1]) .nil))) .nil)⟩
def d__law_deep : Def := ⟨1, 2, (.cons (.ret (.blt .max (.cons (.bin .Add (.lst (.cons (.cst (.int 0)) .nil)) (.lc (.bin .Add (.cst (.int 1)) (.call 42 (.cons (.slot 1) .nil))) (.nm 1) (.any (.slot 0)) (.so (.not (.isi (.slot 1) .str))) [1])) .nil))) .nil)⟩
def d__law_row : Def := ⟨4, 8, (.cons (.asg (.tp (.cons (.nm 5) (.cons (.nm 6) .nil))) (.tup (.cons (.lst .nil) (.cons (.slot 3) .nil)))) (.cons (.for_ (.nm 4) (.rng1 (.bin .Add (.cst (.int 1)) (.call 9 (.cons (.slot 0) (.cons (.cst (.int 4)) .nil))))) (.cons (.iff (.and (.cmp .Gt (.slot 6) (.cst (.int 0))) (.and (.cmp .Gt (.slot 2) (.cst (.int 0))) (.cmp .Lt (.call 9 (.cons (.slot 0) (.cons (.cst (.int 5)) .nil))) (.cst (.int 2))))) (.cons (.asg (.nm 7) (.call 43 (.cons (.slot 0) (.cons (.slot 1) (.cons (.bin .Sub (.slot 2) (.cst (.int 1))) (.cons (.bin .Add (.cst (.int 1)) (.call 9 (.cons (.slot 0) (.cons (.slot 6) .nil)))) .nil)))))) (.cons (.exp (.mth .append (.slot 5) (.cons (.slot 7) .nil))) (.cons (.asg (.nm 6) (.bin .Sub (.slot 6) (.call 41 (.cons (.slot 7) .nil)))) .nil))) (.cons (.iff (.cmp .Gt (.slot 6) (.cst (.int 0))) (.cons (.exp (.mth .append (.slot 5) (.cons (.call 24 (.cons (.slot 0) (.cons (.slot 1) .nil))) .nil))) (.cons (.asg (.nm 6) (.bin .Sub (.slot 6) (.cst (.int 1)))) .nil)) .nil) .nil)) .nil)) (.cons (.ret (.blt .tuple (.cons (.slot 5) .nil))) .nil)))⟩
def d__law_signs : Def := ⟨2, 6, (.cons (.asg (.tp (.cons (.nm 3) (.cons (.nm 4) .nil))) (.tup (.cons (.cst (.str ("abcdefghijklmnopqrstuvwxyz" : PySem.Str))) (.cons (.lst .nil) .nil)))) (.cons (.for_ (.nm 2) (.rng1 (.bin .Add (.cst (.int 1)) (.call 9 (.cons (.slot 0) (.cons (.slot 1) .nil))))) (.cons (.asg (.nm 5) (.ix (.slot 3) (.call 9 (.cons (.slot 0) (.cons (.cst (.int 26)) .nil))))) (.cons (.iff (.cmp .NotIn (.slot 5) (.slot 4)) (.cons (.exp (.mth .append (.slot 4) (.cons (.slot 5) .nil))) .nil) .nil) .nil))) (.cons (.ret (.blt .sorted (.cons (.slot 4) .nil))) .nil)))⟩
def d__law_term : Def := ⟨4, 7, (.cons (.asg (.nm 4) (.call 9 (.cons (.slot 0) (.cons (.cst (.int 12)) .nil)))) (.cons (.iff (.cmp .Eq (.slot 4) (.cst (.int 0))) (.cons (.ret (.tup .nil)) .nil) .nil) (.cons (.iff (.cmp .Lt (.slot 4) (.cst (.int 3))) (.cons (.ret (.blt .tuple (.cons (.lc (.call 24 (.cons (.slot 0) (.cons (.slot 1) .nil))) (.nm 6) (.rng1 (.bin .Add (.cst (.int 1)) (.call 9 (.cons (.slot 0) (.cons (.blt .min (.cons (.cst (.int 5)) (.cons (.slot 3) .nil))) .nil))))) .no [6]) .nil))) .nil) .nil) (.cons (.asg (.nm 5) (.call 43 (.cons (.slot 0) (.cons (.slot 1) (.cons (.slot 2) (.cons (.ife (.cmp .Lt (.slot 4) (.cst (.int 6))) (.blt .max (.cons (.cst (.int 1)) (.cons (.bin .FloorDiv (.slot 3) (.cst (.int 2))) .nil))) (.slot 3)) .nil)))))) (.cons (.iff (.cmp .Eq (.slot 4) (.cst (.int 3))) (.cons (.ret (.bin .Add (.slot 5) (.slot 5))) .nil) .nil) (.cons (.ret (.ife (.and (.cmp .Lt (.slot 4) (.cst (.int 6))) (.cmp .Gt (.slot 2) (.call 42 (.cons (.slot 5) .nil)))) (.tup (.cons (.slot 5) .nil)) (.slot 5))) .nil))))))⟩
def d__law_put : Def := ⟨3, 3, (.cons (.iff (.cmp .Eq (.blt .len (.cons (.slot 1) .nil)) (.cst (.int 0))) (.cons (.ret (.slot 2)) .nil) .nil) (.cons (.ret (.bin .Add (.bin .Add (.slc (.slot 0) .no (.so (.ix (.slot 1) (.cst (.int 0))))) (.tup (.cons (.call 57 (.cons (.ix (.slot 0) (.ix (.slot 1) (.cst (.int 0)))) (.cons (.slc (.slot 1) (.so (.cst (.int 1))) .no) (.cons (.slot 2) .nil)))) .nil))) (.slc (.slot 0) (.so (.bin .Add (.ix (.slot 1) (.cst (.int 0))) (.cst (.int 1)))) .no))) .nil))⟩
def d__law_get : Def := ⟨2, 3, (.cons (.for_ (.nm 2) (.any (.slot 1)) (.cons (.asg (.nm 0) (.ix (.slot 0) (.slot 2))) .nil)) (.cons (.ret (.slot 0)) .nil))⟩
def d__law_paths : Def := ⟨2, 4, (.cons (.asg (.nm 2) (.lst (.cons (.slot 1) .nil))) (.cons (.for_ (.nm 3) (.rng1 (.blt .len (.cons (.slot 0) .nil))) (.cons (.iff (.not (.isi (.ix (.slot 0) (.slot 3)) .str)) (.cons (.exp (.mth .extend (.slot 2) (.cons (.call 58 (.cons (.ix (.slot 0) (.slot 3)) (.cons (.bin .Add (.slot 1) (.tup (.cons (.slot 3) .nil))) .nil))) .nil))) .nil) .nil) .nil)) (.cons (.ret (.slot 2)) .nil)))⟩
def d__law_deed : Def := ⟨4, 8, (.cons (.iff (.cmp .Eq (.slot 2) (.cst (.str ("back" : PySem.Str)))) (.cons (.asg (.nm 6) (.bin .Add (.slot 1) (.slot 3))) (.cons (.iff (.or (.cmp .Lt (.slot 3) (.cst (.int 1))) (.or (.cmp .GtE (.slot 6) (.blt .len (.cons (.slot 0) .nil))) (.or (.isi (.ix (.slot 0) (.slot 6)) .str) (.cmp .Lt (.blt .len (.cons (.ix (.slot 0) (.slot 6)) .nil)) (.slot 3))))) (.cons (.ret (.cst .non)) .nil) .nil) (.cons (.asg (.nm 4) (.ix (.slot 0) (.slot 6))) (.cons (.asg (.nm 7) (.bin .Sub (.blt .len (.cons (.slot 4) .nil)) (.slot 3))) (.cons (.ret (.ife (.cmp .Eq (.slc (.slot 4) (.so (.slot 7)) .no) (.slc (.slot 0) (.so (.slot 1)) (.so (.slot 6)))) (.bin .Add (.bin .Add (.slc (.slot 0) .no (.so (.slot 1))) (.tup (.cons (.bin .Add (.slc (.slot 0) (.so (.slot 1)) (.so (.slot 6))) (.slc (.slot 4) .no (.so (.slot 7)))) .nil))) (.slc (.slot 0) (.so (.bin .Add (.slot 6) (.cst (.int 1)))) .no)) (.cst .non))) .nil))))) .nil) (.cons (.iff (.or (.cmp .GtE (.slot 1) (.blt .len (.cons (.slot 0) .nil))) (.isi (.ix (.slot 0) (.slot 1)) .str)) (.cons (.ret (.cst .non)) .nil) .nil) (.cons (.asg (.nm 4) (.ix (.slot 0) (.slot 1))) (.cons (.iff (.cmp .Eq (.slot 2) (.cst (.str ("turn" : PySem.Str)))) (.cons (.iff (.or (.cmp .Lt (.slot 3) (.cst (.int 1))) (.cmp .Gt (.slot 3) (.blt .len (.cons (.slot 4) .nil)))) (.cons (.ret (.cst .non)) .nil) .nil) (.cons (.ret (.bin .Add (.bin .Add (.bin .Add (.slc (.slot 0) .no (.so (.slot 1))) (.slc (.slot 4) .no (.so (.slot 3)))) (.tup (.cons (.bin .Add (.slc (.slot 4) (.so (.slot 3)) .no) (.slc (.slot 4) .no (.so (.slot 3)))) .nil))) (.slc (.slot 0) (.so (.bin .Add (.slot 1) (.cst (.int 1)))) .no))) .nil)) .nil) (.cons (.iff (.or (.cmp .Lt (.slot 3) (.cst (.int 2))) (.cmp .Gt (.bin .Mult (.slot 3) (.call 41 (.cons (.slot 4) .nil))) (.cst (.int 100000)))) (.cons (.ret (.cst .non)) .nil) .nil) (.cons (.iff (.cmp .Eq (.slot 2) (.cst (.str ("times" : PySem.Str)))) (.cons (.ret (.bin .Add (.bin .Add (.slc (.slot 0) .no (.so (.slot 1))) (.tup (.cons (.bin .Mult (.slot 4) (.slot 3)) .nil))) (.slc (.slot 0) (.so (.bin .Add (.slot 1) (.cst (.int 1)))) .no))) .nil) .nil) (.cons (.asg (.nm 5) (.bin .FloorDiv (.blt .len (.cons (.slot 4) .nil)) (.slot 3))) (.cons (.ret (.ife (.cmp .Eq (.bin .Mult (.slc (.slot 4) .no (.so (.slot 5))) (.slot 3)) (.slot 4)) (.bin .Add (.bin .Add (.slc (.slot 0) .no (.so (.slot 1))) (.tup (.cons (.slc (.slot 4) .no (.so (.slot 5))) .nil))) (.slc (.slot 0) (.so (.bin .Add (.slot 1) (.cst (.int 1)))) .no)) (.cst .non))) .nil))))))))⟩
def d__law_step : Def := ⟨2, 9, (.cons (.asg (.tp (.cons (.nm 4) (.cons (.nm 5) (.cons (.nm 6) (.cons (.nm 7) .nil))))) (.slot 1)) (.cons (.for_ (.nm 2) (.rng1 (.blt .len (.cons (.slot 4) .nil))) (.cons (.asg (.nm 8) (.call 60 (.cons (.slot 0) (.cons (.slc (.slot 4) .no (.so (.slot 2))) .nil)))) (.cons (.iff (.or (.cmp .GtE (.ix (.slot 4) (.slot 2)) (.blt .len (.cons (.slot 8) .nil))) (.isi (.ix (.slot 8) (.ix (.slot 4) (.slot 2))) .str)) (.cons (.ret (.cst .non)) .nil) .nil) .nil))) (.cons (.asg (.nm 3) (.call 80 (.cons (.call 60 (.cons (.slot 0) (.cons (.slot 4) .nil))) (.cons (.slot 5) (.cons (.slot 6) (.cons (.slot 7) .nil)))))) (.cons (.ret (.ife (.cmp .Is (.slot 3) (.cst .non)) (.cst .non) (.call 57 (.cons (.slot 0) (.cons (.slot 4) (.cons (.slot 3) .nil)))))) .nil))))⟩
def d__law_steps : Def := ⟨4, 16, (.cons (.asg (.tp (.cons (.nm 5) (.cons (.nm 6) .nil))) (.tup (.cons (.lst .nil) (.cons (.lst (.cons (.slot 1) .nil)) .nil)))) (.cons (.for_ (.nm 4) (.rng1 (.slot 2)) (.cons (.asg (.tp (.cons (.nm 11) (.cons (.nm 12) .nil))) (.tup (.cons (.call 58 (.cons (.ix (.slot 6) (.bin .Sub (.blt .len (.cons (.slot 6) .nil)) (.cst (.int 1)))) (.cons (.tup .nil) .nil))) (.cons (.ix (.slot 6) (.bin .Sub (.blt .len (.cons (.slot 6) .nil)) (.cst (.int 1)))) .nil)))) (.cons (.asg (.nm 7) (.call 24 (.cons (.slot 0) (.cons (.slot 11) .nil)))) (.cons (.asg (.nm 8) (.call 60 (.cons (.slot 12) (.cons (.slot 7) .nil)))) (.cons (.asg (.nm 9) (.call 24 (.cons (.slot 0) (.cons (.lst (.cons (.cst (.str ("turn" : PySem.Str))) (.cons (.cst (.str ("back" : PySem.Str))) (.cons (.cst (.str ("times" : PySem.Str))) (.cons (.cst (.str ("fold" : PySem.Str))) (.cons (.cst (.str ("turn" : PySem.Str))) (.cons (.cst (.str ("back" : PySem.Str))) .nil))))))) .nil)))) (.cons (.for_ (.nm 10) (.rng1 (.cst (.int 6))) (.cons (.asg (.nm 13) (.ife (.cmp .Gt (.blt .len (.cons (.slot 8) .nil)) (.cst (.int 0))) (.call 9 (.cons (.slot 0) (.cons (.blt .len (.cons (.slot 8) .nil)) .nil))) (.cst (.int 0)))) (.cons (.asg (.nm 14) (.tup (.cons (.slot 7) (.cons (.slot 13) (.cons (.slot 9) (.cons (.ife (.cmp .NotEq (.slot 9) (.cst (.str ("back" : PySem.Str)))) (.bin .Add (.cst (.int 1)) (.call 9 (.cons (.slot 0) (.cons (.cst (.int 4)) .nil)))) (.bin .Add (.cst (.int 1)) (.call 9 (.cons (.slot 0) (.cons (.cst (.int 2)) .nil))))) .nil)))))) (.cons (.asg (.nm 15) (.call 81 (.cons (.slot 12) (.cons (.slot 14) .nil)))) (.cons (.iff (.and (.cmp .IsNot (.slot 15) (.cst .non)) (.and (.cmp .LtE (.call 41 (.cons (.slot 15) .nil)) (.slot 3)) (.cmp .NotIn (.slot 15) (.slc (.slot 6) (.so (.bin .Sub (.blt .len (.cons (.slot 6) .nil)) (.cst (.int 1)))) .no)))) (.cons (.exp (.mth .append (.slot 5) (.cons (.slot 14) .nil))) (.cons (.exp (.mth .append (.slot 6) (.cons (.slot 15) .nil))) (.cons .brk .nil))) .nil) .nil))))) .nil)))))) (.cons (.ret (.tup (.cons (.slot 5) (.cons (.slot 6) .nil)))) .nil)))⟩
def d__law_kept : Def := ⟨2, 3, (.cons (.iff (.or (.isi (.slot 1) .tuple) (.isi (.slot 1) .list)) (.cons (.iff (.or (.cmp .NotEq (.isi (.slot 0) .tuple) (.isi (.slot 1) .tuple)) (.cmp .NotEq (.isi (.slot 0) .list) (.isi (.slot 1) .list))) (.cons (.ret (.cst (.bl false))) .nil) .nil) (.cons (.ret (.and (.cmp .Eq (.blt .len (.cons (.slot 0) .nil)) (.blt .len (.cons (.slot 1) .nil))) (.blt .all (.cons (.lc (.call 15 (.cons (.ix (.slot 0) (.slot 2)) (.cons (.ix (.slot 1) (.slot 2)) .nil))) (.nm 2) (.rng1 (.blt .len (.cons (.slot 1) .nil))) .no [2]) .nil)))) .nil)) .nil) (.cons (.iff (.cmp .Is (.slot 1) (.cst .non)) (.cons (.ret (.cmp .Is (.slot 0) (.cst .non))) .nil) .nil) (.cons (.iff (.isi (.slot 1) .bool) (.cons (.ret (.ife (.slot 1) (.cmp .Is (.slot 0) (.cst (.bl true))) (.cmp .Is (.slot 0) (.cst (.bl false))))) .nil) .nil) (.cons (.iff (.isi (.slot 1) .int) (.cons (.ret (.and (.isi (.slot 0) .int) (.and (.not (.isi (.slot 0) .bool)) (.cmp .Eq (.slot 0) (.slot 1))))) .nil) .nil) (.cons (.ret (.and (.isi (.slot 0) .str) (.cmp .Eq (.slot 0) (.slot 1)))) .nil)))))⟩
def d__law_outcome : Def := ⟨3, 3, (.cons (.try_ (.cons (.ret (.callv 0 [(("is_long_term" : PySem.Str), 35), (("behind_step" : PySem.Str), 78), (("stepped" : PySem.Str), 109), (("undone" : PySem.Str), 110), (("_law_draw" : PySem.Str), 9), (("_law_some" : PySem.Str), 24), (("_law_signs" : PySem.Str), 44), (("_law_get" : PySem.Str), 60), (("_law_paths" : PySem.Str), 58), (("_law_step" : PySem.Str), 81), (("_law_kept" : PySem.Str), 15)] (.cons (.slot 1) (.cons (.slot 2) .nil)))) .nil) (.cons [8] none (.cons (.ret (.cst .non)) .nil) .nil)) .nil)⟩
def d_law : Def := ⟨1, 18, (.cons (.asg (.nm 1) (.call 16 (.cons (.slot 0) .nil))) (.cons (.asg (.nm 2) (.dct [(.inr ("turn" : PySem.Str), (.str ("back" : PySem.Str))), (.inr ("back" : PySem.Str), (.str ("turn" : PySem.Str))), (.inr ("fold" : PySem.Str), (.str ("times" : PySem.Str))), (.inr ("times" : PySem.Str), (.str ("fold" : PySem.Str)))])) (.cons (.for_ (.nm 3) (.rng1 (.cst (.int 16))) (.cons (.asg (.nm 4) (.call 44 (.cons (.slot 1) (.cons (.cst (.int 2)) .nil)))) (.cons (.asg (.nm 5) (.call 45 (.cons (.slot 1) (.cons (.slot 4) (.cons (.cst (.int 4)) (.cons (.bin .Add (.cst (.int 1)) (.call 9 (.cons (.slot 1) (.cons (.cst (.int 10)) .nil)))) .nil)))))) (.cons (.asg (.tp (.cons (.nm 11) (.cons (.nm 12) .nil))) (.call 111 (.cons (.slot 1) (.cons (.slot 5) (.cons (.cst (.int 3)) (.cons (.cst (.int 60)) .nil)))))) (.cons (.asg (.nm 6) (.ix (.slot 12) (.bin .Sub (.blt .len (.cons (.slot 12) .nil)) (.cst (.int 1))))) (.cons (.asg (.nm 7) (.lst .nil)) (.cons (.for_ (.nm 8) (.any (.slc (.slot 11) (.so (.bin .Sub (.blt .len (.cons (.slot 11) .nil)) (.cst (.int 1)))) .no)) (.cons (.exp (.mth .append (.slot 7) (.cons (.tup (.cons (.ix (.slot 8) (.cst (.int 0))) (.cons (.ix (.slot 8) (.cst (.int 1))) (.cons (.ix (.slot 2) (.ix (.slot 8) (.cst (.int 2)))) (.cons (.ix (.slot 8) (.cst (.int 3))) .nil))))) .nil))) .nil)) (.cons (.for_ (.nm 9) (.rng1 (.cst (.int 12))) (.cons (.asg (.nm 13) (.call 24 (.cons (.slot 1) (.cons (.call 58 (.cons (.slot 6) (.cons (.tup .nil) .nil))) .nil)))) (.cons (.iff (.cmp .Eq (.call 9 (.cons (.slot 1) (.cons (.cst (.int 6)) .nil))) (.cst (.int 0))) (.cons (.asg (.nm 13) (.bin .Add (.slot 13) (.tup (.cons (.call 9 (.cons (.slot 1) (.cons (.cst (.int 3)) .nil))) .nil)))) .nil) .nil) (.cons (.asg (.nm 14) (.call 24 (.cons (.slot 1) (.cons (.lst (.cons (.cst (.str ("turn" : PySem.Str))) (.cons (.cst (.str ("back" : PySem.Str))) (.cons (.cst (.str ("fold" : PySem.Str))) (.cons (.cst (.str ("times" : PySem.Str))) .nil))))) .nil)))) (.cons (.exp (.mth .append (.slot 7) (.cons (.tup (.cons (.slot 13) (.cons (.call 9 (.cons (.slot 1) (.cons (.cst (.int 5)) .nil))) (.cons (.slot 14) (.cons (.call 9 (.cons (.slot 1) (.cons (.cst (.int 5)) .nil))) .nil))))) .nil))) .nil))))) (.cons (.for_ (.nm 8) (.any (.slot 7)) (.cons (.asg (.nm 15) (.call 81 (.cons (.slot 6) (.cons (.slot 8) .nil)))) (.cons (.asg (.nm 16) (.call 108 (.cons (.cst (.fnv "stepped")) (.cons (.slot 6) (.cons (.slot 8) .nil))))) (.cons (.iff (.or (.cmp .NotEq (.cmp .Is (.slot 15) (.cst .non)) (.cmp .Is (.slot 16) (.cst .non))) (.and (.cmp .IsNot (.slot 15) (.cst .non)) (.not (.call 15 (.cons (.slot 16) (.cons (.slot 15) .nil)))))) (.cons (.ret (.cst (.bl false))) .nil) .nil) (.cons (.asg (.nm 17) (.call 108 (.cons (.cst (.fnv "undone")) (.cons (.slot 6) (.cons (.slot 8) .nil))))) (.cons (.iff (.cmp .Is (.slot 15) (.cst .non)) (.cons (.iff (.cmp .IsNot (.slot 17) (.cst .non)) (.cons (.ret (.cst (.bl false))) .nil) .nil) (.cons .cnt .nil)) .nil) (.cons (.iff (.or (.not (.call 15 (.cons (.slot 17) (.cons (.tup (.cons (.ix (.slot 8) (.cst (.int 0))) (.cons (.ix (.slot 8) (.cst (.int 1))) (.cons (.ix (.slot 2) (.ix (.slot 8) (.cst (.int 2)))) (.cons (.ix (.slot 8) (.cst (.int 3))) .nil))))) .nil)))) (.not (.call 15 (.cons (.call 109 (.cons (.slot 15) (.cons (.slot 17) .nil))) (.cons (.slot 6) .nil))))) (.cons (.ret (.cst (.bl false))) .nil) .nil) .nil))))))) (.cons (.for_ (.nm 10) (.any (.lst (.cons (.cst .non) (.cons (.tup .nil) (.cons (.tup (.cons (.tup .nil) (.cons (.cst (.int 0)) (.cons (.cst (.str ("turn" : PySem.Str))) .nil)))) (.cons (.lst (.cons (.tup .nil) (.cons (.cst (.int 0)) (.cons (.cst (.str ("turn" : PySem.Str))) (.cons (.cst (.int 1)) .nil))))) (.cons (.tup (.cons (.tup .nil) (.cons (.cst (.int 0)) (.cons (.cst (.str ("turn" : PySem.Str))) (.cons (.cst (.bl true)) .nil))))) (.cons (.tup (.cons (.tup (.cons (.cst (.int 0)) .nil)) (.cons (.cst (.int 0)) (.cons (.cst (.str ("Turn" : PySem.Str))) (.cons (.cst (.int 1)) .nil))))) (.cons (.tup (.cons (.cst (.str ("" : PySem.Str))) (.cons (.cst (.int 0)) (.cons (.cst (.str ("fold" : PySem.Str))) (.cons (.cst (.int 2)) .nil))))) .nil))))))))) (.cons (.iff (.or (.cmp .IsNot (.call 108 (.cons (.cst (.fnv "stepped")) (.cons (.slot 6) (.cons (.slot 10) .nil)))) (.cst .non)) (.cmp .IsNot (.call 108 (.cons (.cst (.fnv "undone")) (.cons (.slot 6) (.cons (.slot 10) .nil)))) (.cst .non))) (.cons (.ret (.cst (.bl false))) .nil) .nil) .nil)) .nil)))))))))) (.cons (.ret (.cst (.bl true))) .nil))))⟩
def top (i : Nat) : PySem.Stmt := PySem.Challenge.pw_pastever_k30_steps_one_by_one.main.body.getD i (.Pass ⟨0, 0, 0, 0⟩)
def gtab : GTab := [(("is_integer", .fn 2 1) : PySem.Str × PD.Gl'),
  (("is_between", .fn 3 3) : PySem.Str × PD.Gl'),
  (("is_sign", .fn 33 1) : PySem.Str × PD.Gl'),
  (("signs_below", .fn 34 3) : PySem.Str × PD.Gl'),
  (("is_long_term", .fn 35 2) : PySem.Str × PD.Gl'),
  (("need_long_terms", .fn 77 1) : PySem.Str × PD.Gl'),
  (("turned_row", .fn 104 3) : PySem.Str × PD.Gl'),
  (("turned_back_row", .fn 105 3) : PySem.Str × PD.Gl'),
  (("folded_row", .fn 106 3) : PySem.Str × PD.Gl'),
  (("timed_row", .fn 107 3) : PySem.Str × PD.Gl'),
  (("stepped_row", .fn 75 3) : PySem.Str × PD.Gl'),
  (("is_step_form", .fn 76 1) : PySem.Str × PD.Gl'),
  (("behind_step", .fn 78 2) : PySem.Str × PD.Gl'),
  (("stepped", .fn 109 2) : PySem.Str × PD.Gl'),
  (("undone_step", .fn 79 1) : PySem.Str × PD.Gl'),
  (("undone", .fn 110 2) : PySem.Str × PD.Gl'),
  (("_law_hand", .fn 16 1) : PySem.Str × PD.Gl'),
  (("_law_draw", .fn 9 2) : PySem.Str × PD.Gl'),
  (("_law_some", .fn 24 2) : PySem.Str × PD.Gl'),
  (("_law_count", .fn 41 1) : PySem.Str × PD.Gl'),
  (("_law_deep", .fn 42 1) : PySem.Str × PD.Gl'),
  (("_law_row", .fn 43 4) : PySem.Str × PD.Gl'),
  (("_law_signs", .fn 44 2) : PySem.Str × PD.Gl'),
  (("_law_term", .fn 45 4) : PySem.Str × PD.Gl'),
  (("_law_put", .fn 57 3) : PySem.Str × PD.Gl'),
  (("_law_get", .fn 60 2) : PySem.Str × PD.Gl'),
  (("_law_paths", .fn 58 2) : PySem.Str × PD.Gl'),
  (("_law_deed", .fn 80 4) : PySem.Str × PD.Gl'),
  (("_law_step", .fn 81 2) : PySem.Str × PD.Gl'),
  (("_law_steps", .fn 111 4) : PySem.Str × PD.Gl'),
  (("_law_kept", .fn 15 2) : PySem.Str × PD.Gl'),
  (("_law_outcome", .fn 108 3) : PySem.Str × PD.Gl'),
  (("law", .fn 22 1) : PySem.Str × PD.Gl'),
  (("MOST_DEEP", .cst (.int 6)) : PySem.Str × PD.Gl'),
  (("LETTERS", .cst (.str ("abcdefghijklmnopqrstuvwxyz" : PySem.Str))) : PySem.Str × PD.Gl'),
  (("MOST_SIGNS", .cst (.int 100000)) : PySem.Str × PD.Gl'),
  (("BACKWARDS", .dct [(("turn" : PySem.Str), .str ("back" : PySem.Str)), (("back" : PySem.Str), .str ("turn" : PySem.Str)), (("fold" : PySem.Str), .str ("times" : PySem.Str)), (("times" : PySem.Str), .str ("fold" : PySem.Str))]) : PySem.Str × PD.Gl'),
  (("DEEDS", .dct [(("turn" : PySem.Str), .fnv "turned_row"), (("back" : PySem.Str), .fnv "turned_back_row"), (("fold" : PySem.Str), .fnv "folded_row"), (("times" : PySem.Str), .fnv "timed_row")]) : PySem.Str × PD.Gl'),
  (("NoStep", .exc 8 none [8]) : PySem.Str × PD.Gl')]
def r_is_integer : Row := ⟨2, "is_integer", top 5, ["thing"], ["thing"], d_is_integer, none⟩
theorem ok_is_integer : RowOk gtab r_is_integer := ⟨⟨by kernel_rfl, rfl, rfl⟩, ⟨rfl, rfl, rfl, by decide +kernel, rfl, by decide +kernel, by decide +kernel⟩, fun d h => by cases h⟩
def r_is_between : Row := ⟨3, "is_between", top 6, ["thing", "least", "most"], ["thing", "least", "most"], d_is_between, none⟩
theorem ok_is_between : RowOk gtab r_is_between := ⟨⟨by kernel_rfl, rfl, rfl⟩, ⟨rfl, rfl, rfl, by decide +kernel, rfl, by decide +kernel, by decide +kernel⟩, fun d h => by cases h⟩
def r_is_sign : Row := ⟨33, "is_sign", top 10, ["thing"], ["thing"], d_is_sign, none⟩
theorem ok_is_sign : RowOk gtab r_is_sign := ⟨⟨by kernel_rfl, rfl, rfl⟩, ⟨rfl, rfl, rfl, by decide +kernel, rfl, by decide +kernel, by decide +kernel⟩, fun d h => by cases h⟩
def r_signs_below : Row := ⟨34, "signs_below", top 11, ["thing", "deep", "most", "many", "item", "inner"], ["thing", "deep", "most"], d_signs_below, none⟩
theorem ok_signs_below : RowOk gtab r_signs_below := ⟨⟨by kernel_rfl, rfl, rfl⟩, ⟨rfl, rfl, rfl, by decide +kernel, rfl, by decide +kernel, by decide +kernel⟩, fun d h => by cases h⟩
def r_is_long_term : Row := ⟨35, "is_long_term", top 12, ["thing", "most"], ["thing", "most"], d_is_long_term, none⟩
theorem ok_is_long_term : RowOk gtab r_is_long_term := ⟨⟨by kernel_rfl, rfl, rfl⟩, ⟨rfl, rfl, rfl, by decide +kernel, rfl, by decide +kernel, by decide +kernel⟩, fun d h => by cases h⟩
def r_need_long_terms : Row := ⟨77, "need_long_terms", top 16, ["things", "thing"], ["things"], d_need_long_terms, none⟩
theorem ok_need_long_terms : RowOk gtab r_need_long_terms := ⟨⟨by kernel_rfl, rfl, rfl⟩, ⟨rfl, rfl, rfl, by decide +kernel, rfl, by decide +kernel, by decide +kernel⟩, fun d h => by cases h⟩
def r_turned_row : Row := ⟨104, "turned_row", top 17, ["row", "at", "number", "item"], ["row", "at", "number"], d_turned_row, none⟩
theorem ok_turned_row : RowOk gtab r_turned_row := ⟨⟨by kernel_rfl, rfl, rfl⟩, ⟨rfl, rfl, rfl, by decide +kernel, rfl, by decide +kernel, by decide +kernel⟩, fun d h => by cases h⟩
def r_turned_back_row : Row := ⟨105, "turned_back_row", top 18, ["row", "at", "number", "end", "item"], ["row", "at", "number"], d_turned_back_row, none⟩
theorem ok_turned_back_row : RowOk gtab r_turned_back_row := ⟨⟨by kernel_rfl, rfl, rfl⟩, ⟨rfl, rfl, rfl, by decide +kernel, rfl, by decide +kernel, by decide +kernel⟩, fun d h => by cases h⟩
def r_folded_row : Row := ⟨106, "folded_row", top 19, ["row", "at", "number", "item", "unit"], ["row", "at", "number"], d_folded_row, none⟩
theorem ok_folded_row : RowOk gtab r_folded_row := ⟨⟨by kernel_rfl, rfl, rfl⟩, ⟨rfl, rfl, rfl, by decide +kernel, rfl, by decide +kernel, by decide +kernel⟩, fun d h => by cases h⟩
def r_timed_row : Row := ⟨107, "timed_row", top 20, ["row", "at", "number", "item"], ["row", "at", "number"], d_timed_row, none⟩
theorem ok_timed_row : RowOk gtab r_timed_row := ⟨⟨by kernel_rfl, rfl, rfl⟩, ⟨rfl, rfl, rfl, by decide +kernel, rfl, by decide +kernel, by decide +kernel⟩, fun d h => by cases h⟩
def r_stepped_row : Row := ⟨75, "stepped_row", top 22, ["row", "path", "rest", "act", "at", "inner", "deed", "number"], ["row", "path", "rest"], d_stepped_row, none⟩
theorem ok_stepped_row : RowOk gtab r_stepped_row := ⟨⟨by kernel_rfl, rfl, rfl⟩, ⟨rfl, rfl, rfl, by decide +kernel, rfl, by decide +kernel, by decide +kernel⟩, fun d h => by cases h⟩
def r_is_step_form : Row := ⟨76, "is_step_form", top 23, ["thing", "number"], ["thing"], d_is_step_form, none⟩
theorem ok_is_step_form : RowOk gtab r_is_step_form := ⟨⟨by kernel_rfl, rfl, rfl⟩, ⟨rfl, rfl, rfl, by decide +kernel, rfl, by decide +kernel, by decide +kernel⟩, fun d h => by cases h⟩
def r_behind_step : Row := ⟨78, "behind_step", top 24, ["term", "thing", "found", "path", "at", "deed", "number"], ["term", "thing"], d_behind_step, none⟩
theorem ok_behind_step : RowOk gtab r_behind_step := ⟨⟨by kernel_rfl, rfl, rfl⟩, ⟨rfl, rfl, rfl, by decide +kernel, rfl, by decide +kernel, by decide +kernel⟩, fun d h => by cases h⟩
def r_stepped : Row := ⟨109, "stepped", top 25, ["term", "step", "found"], ["term", "step"], d_stepped, none⟩
theorem ok_stepped : RowOk gtab r_stepped := ⟨⟨by kernel_rfl, rfl, rfl⟩, ⟨rfl, rfl, rfl, by decide +kernel, rfl, by decide +kernel, by decide +kernel⟩, fun d h => by cases h⟩
def r_undone_step : Row := ⟨79, "undone_step", top 26, ["step", "path", "at", "deed", "number"], ["step"], d_undone_step, none⟩
theorem ok_undone_step : RowOk gtab r_undone_step := ⟨⟨by kernel_rfl, rfl, rfl⟩, ⟨rfl, rfl, rfl, by decide +kernel, rfl, by decide +kernel, by decide +kernel⟩, fun d h => by cases h⟩
def r_undone : Row := ⟨110, "undone", top 27, ["term", "step"], ["term", "step"], d_undone, none⟩
theorem ok_undone : RowOk gtab r_undone := ⟨⟨by kernel_rfl, rfl, rfl⟩, ⟨rfl, rfl, rfl, by decide +kernel, rfl, by decide +kernel, by decide +kernel⟩, fun d h => by cases h⟩
def r__law_hand : Row := ⟨16, "_law_hand", top 29, ["script", "cells", "cell"], ["script"], d__law_hand, none⟩
theorem ok__law_hand : RowOk gtab r__law_hand := ⟨⟨by kernel_rfl, rfl, rfl⟩, ⟨rfl, rfl, rfl, by decide +kernel, rfl, by decide +kernel, by decide +kernel⟩, fun d h => by cases h⟩
def r__law_draw : Row := ⟨9, "_law_draw", top 30, ["hand", "many", "number", "cell", "digit"], ["hand", "many"], d__law_draw, none⟩
theorem ok__law_draw : RowOk gtab r__law_draw := ⟨⟨by kernel_rfl, rfl, rfl⟩, ⟨rfl, rfl, rfl, by decide +kernel, rfl, by decide +kernel, by decide +kernel⟩, fun d h => by cases h⟩
def r__law_some : Row := ⟨24, "_law_some", top 31, ["hand", "things"], ["hand", "things"], d__law_some, none⟩
theorem ok__law_some : RowOk gtab r__law_some := ⟨⟨by kernel_rfl, rfl, rfl⟩, ⟨rfl, rfl, rfl, by decide +kernel, rfl, by decide +kernel, by decide +kernel⟩, fun d h => by cases h⟩
def r__law_count : Row := ⟨41, "_law_count", top 32, ["row", "item"], ["row"], d__law_count, none⟩
theorem ok__law_count : RowOk gtab r__law_count := ⟨⟨by kernel_rfl, rfl, rfl⟩, ⟨rfl, rfl, rfl, by decide +kernel, rfl, by decide +kernel, by decide +kernel⟩, fun d h => by cases h⟩
def r__law_deep : Row := ⟨42, "_law_deep", top 33, ["row", "item"], ["row"], d__law_deep, none⟩
theorem ok__law_deep : RowOk gtab r__law_deep := ⟨⟨by kernel_rfl, rfl, rfl⟩, ⟨rfl, rfl, rfl, by decide +kernel, rfl, by decide +kernel, by decide +kernel⟩, fun d h => by cases h⟩
def r__law_row : Row := ⟨43, "_law_row", top 34, ["hand", "signs", "nested", "most", "turn", "found", "left", "inner"], ["hand", "signs", "nested", "most"], d__law_row, none⟩
theorem ok__law_row : RowOk gtab r__law_row := ⟨⟨by kernel_rfl, rfl, rfl⟩, ⟨rfl, rfl, rfl, by decide +kernel, rfl, by decide +kernel, by decide +kernel⟩, fun d h => by cases h⟩
def r__law_signs : Row := ⟨44, "_law_signs", top 35, ["hand", "many", "turn", "letters", "found", "sign"], ["hand", "many"], d__law_signs, none⟩
theorem ok__law_signs : RowOk gtab r__law_signs := ⟨⟨by kernel_rfl, rfl, rfl⟩, ⟨rfl, rfl, rfl, by decide +kernel, rfl, by decide +kernel, by decide +kernel⟩, fun d h => by cases h⟩
def r__law_term : Row := ⟨45, "_law_term", top 36, ["hand", "signs", "nested", "most", "kind", "row", "turn"], ["hand", "signs", "nested", "most"], d__law_term, none⟩
theorem ok__law_term : RowOk gtab r__law_term := ⟨⟨by kernel_rfl, rfl, rfl⟩, ⟨rfl, rfl, rfl, by decide +kernel, rfl, by decide +kernel, by decide +kernel⟩, fun d h => by cases h⟩
def r__law_put : Row := ⟨57, "_law_put", top 37, ["row", "path", "inner"], ["row", "path", "inner"], d__law_put, none⟩
theorem ok__law_put : RowOk gtab r__law_put := ⟨⟨by kernel_rfl, rfl, rfl⟩, ⟨rfl, rfl, rfl, by decide +kernel, rfl, by decide +kernel, by decide +kernel⟩, fun d h => by cases h⟩
def r__law_get : Row := ⟨60, "_law_get", top 38, ["row", "path", "at"], ["row", "path"], d__law_get, none⟩
theorem ok__law_get : RowOk gtab r__law_get := ⟨⟨by kernel_rfl, rfl, rfl⟩, ⟨rfl, rfl, rfl, by decide +kernel, rfl, by decide +kernel, by decide +kernel⟩, fun d h => by cases h⟩
def r__law_paths : Row := ⟨58, "_law_paths", top 39, ["row", "path", "found", "at"], ["row", "path"], d__law_paths, none⟩
theorem ok__law_paths : RowOk gtab r__law_paths := ⟨⟨by kernel_rfl, rfl, rfl⟩, ⟨rfl, rfl, rfl, by decide +kernel, rfl, by decide +kernel, by decide +kernel⟩, fun d h => by cases h⟩
def r__law_deed : Row := ⟨80, "_law_deed", top 40, ["row", "at", "deed", "number", "again", "size", "end", "kept"], ["row", "at", "deed", "number"], d__law_deed, none⟩
theorem ok__law_deed : RowOk gtab r__law_deed := ⟨⟨by kernel_rfl, rfl, rfl⟩, ⟨rfl, rfl, rfl, by decide +kernel, rfl, by decide +kernel, by decide +kernel⟩, fun d h => by cases h⟩
def r__law_step : Row := ⟨81, "_law_step", top 41, ["row", "step", "place", "found", "path", "at", "deed", "number", "here"], ["row", "step"], d__law_step, none⟩
theorem ok__law_step : RowOk gtab r__law_step := ⟨⟨by kernel_rfl, rfl, rfl⟩, ⟨rfl, rfl, rfl, by decide +kernel, rfl, by decide +kernel, by decide +kernel⟩, fun d h => by cases h⟩
def r__law_steps : Row := ⟨111, "_law_steps", top 42, ["hand", "row", "many", "most", "turn", "steps", "rows", "path", "inner", "deed", "again", "paths", "here", "at", "step", "found"], ["hand", "row", "many", "most"], d__law_steps, none⟩
theorem ok__law_steps : RowOk gtab r__law_steps := ⟨⟨by kernel_rfl, rfl, rfl⟩, ⟨rfl, rfl, rfl, by decide +kernel, rfl, by decide +kernel, by decide +kernel⟩, fun d h => by cases h⟩
def r__law_kept : Row := ⟨15, "_law_kept", top 43, ["told", "due", "at"], ["told", "due"], d__law_kept, none⟩
theorem ok__law_kept : RowOk gtab r__law_kept := ⟨⟨by kernel_rfl, rfl, rfl⟩, ⟨rfl, rfl, rfl, by decide +kernel, rfl, by decide +kernel, by decide +kernel⟩, fun d h => by cases h⟩
def r__law_outcome : Row := ⟨108, "_law_outcome", top 44, ["call", "term", "step"], ["call", "term", "step"], d__law_outcome, none⟩
theorem ok__law_outcome : RowOk gtab r__law_outcome := ⟨⟨by kernel_rfl, rfl, rfl⟩, ⟨rfl, rfl, rfl, by decide +kernel, rfl, by decide +kernel, by decide +kernel⟩, fun d h => by cases h⟩
def r_law : Row := ⟨22, "law", top 45, ["script", "hand", "other", "turn", "signs", "term", "row", "tried", "step", "again", "thing", "steps", "rows", "path", "deed", "due", "told", "home"], ["script"], d_law, none⟩
theorem ok_law : RowOk gtab r_law := ⟨⟨by kernel_rfl, rfl, rfl⟩, ⟨rfl, rfl, rfl, by decide +kernel, rfl, by decide +kernel, by decide +kernel⟩, fun d h => by cases h⟩
def rows : List Row := [r_is_integer, r_is_between, r_is_sign, r_signs_below, r_is_long_term, r_need_long_terms, r_turned_row, r_turned_back_row, r_folded_row, r_timed_row, r_stepped_row, r_is_step_form, r_behind_step, r_stepped, r_undone_step, r_undone, r__law_hand, r__law_draw, r__law_some, r__law_count, r__law_deep, r__law_row, r__law_signs, r__law_term, r__law_put, r__law_get, r__law_paths, r__law_deed, r__law_step, r__law_steps, r__law_kept, r__law_outcome, r_law]
def tb : Tab := fun n => match n with
  | 2 => some d_is_integer
  | 3 => some d_is_between
  | 33 => some d_is_sign
  | 34 => some d_signs_below
  | 35 => some d_is_long_term
  | 77 => some d_need_long_terms
  | 104 => some d_turned_row
  | 105 => some d_turned_back_row
  | 106 => some d_folded_row
  | 107 => some d_timed_row
  | 75 => some d_stepped_row
  | 76 => some d_is_step_form
  | 78 => some d_behind_step
  | 109 => some d_stepped
  | 79 => some d_undone_step
  | 110 => some d_undone
  | 16 => some d__law_hand
  | 9 => some d__law_draw
  | 24 => some d__law_some
  | 41 => some d__law_count
  | 42 => some d__law_deep
  | 43 => some d__law_row
  | 44 => some d__law_signs
  | 45 => some d__law_term
  | 57 => some d__law_put
  | 60 => some d__law_get
  | 58 => some d__law_paths
  | 80 => some d__law_deed
  | 81 => some d__law_step
  | 111 => some d__law_steps
  | 15 => some d__law_kept
  | 108 => some d__law_outcome
  | 22 => some d_law
  | _ => none
theorem rows_ok : ∀ r ∈ rows, RowOk gtab r := List.forall_mem_cons.2 ⟨ok_is_integer, List.forall_mem_cons.2 ⟨ok_is_between, List.forall_mem_cons.2 ⟨ok_is_sign, List.forall_mem_cons.2 ⟨ok_signs_below, List.forall_mem_cons.2 ⟨ok_is_long_term, List.forall_mem_cons.2 ⟨ok_need_long_terms, List.forall_mem_cons.2 ⟨ok_turned_row, List.forall_mem_cons.2 ⟨ok_turned_back_row, List.forall_mem_cons.2 ⟨ok_folded_row, List.forall_mem_cons.2 ⟨ok_timed_row, List.forall_mem_cons.2 ⟨ok_stepped_row, List.forall_mem_cons.2 ⟨ok_is_step_form, List.forall_mem_cons.2 ⟨ok_behind_step, List.forall_mem_cons.2 ⟨ok_stepped, List.forall_mem_cons.2 ⟨ok_undone_step, List.forall_mem_cons.2 ⟨ok_undone, List.forall_mem_cons.2 ⟨ok__law_hand, List.forall_mem_cons.2 ⟨ok__law_draw, List.forall_mem_cons.2 ⟨ok__law_some, List.forall_mem_cons.2 ⟨ok__law_count, List.forall_mem_cons.2 ⟨ok__law_deep, List.forall_mem_cons.2 ⟨ok__law_row, List.forall_mem_cons.2 ⟨ok__law_signs, List.forall_mem_cons.2 ⟨ok__law_term, List.forall_mem_cons.2 ⟨ok__law_put, List.forall_mem_cons.2 ⟨ok__law_get, List.forall_mem_cons.2 ⟨ok__law_paths, List.forall_mem_cons.2 ⟨ok__law_deed, List.forall_mem_cons.2 ⟨ok__law_step, List.forall_mem_cons.2 ⟨ok__law_steps, List.forall_mem_cons.2 ⟨ok__law_kept, List.forall_mem_cons.2 ⟨ok__law_outcome, List.forall_mem_cons.2 ⟨ok_law, List.forall_mem_nil _⟩⟩⟩⟩⟩⟩⟩⟩⟩⟩⟩⟩⟩⟩⟩⟩⟩⟩⟩⟩⟩⟩⟩⟩⟩⟩⟩⟩⟩⟩⟩⟩⟩
theorem rows_tb : ∀ r ∈ rows, tb r.id = some r.d := List.forall_mem_cons.2 ⟨rfl, List.forall_mem_cons.2 ⟨rfl, List.forall_mem_cons.2 ⟨rfl, List.forall_mem_cons.2 ⟨rfl, List.forall_mem_cons.2 ⟨rfl, List.forall_mem_cons.2 ⟨rfl, List.forall_mem_cons.2 ⟨rfl, List.forall_mem_cons.2 ⟨rfl, List.forall_mem_cons.2 ⟨rfl, List.forall_mem_cons.2 ⟨rfl, List.forall_mem_cons.2 ⟨rfl, List.forall_mem_cons.2 ⟨rfl, List.forall_mem_cons.2 ⟨rfl, List.forall_mem_cons.2 ⟨rfl, List.forall_mem_cons.2 ⟨rfl, List.forall_mem_cons.2 ⟨rfl, List.forall_mem_cons.2 ⟨rfl, List.forall_mem_cons.2 ⟨rfl, List.forall_mem_cons.2 ⟨rfl, List.forall_mem_cons.2 ⟨rfl, List.forall_mem_cons.2 ⟨rfl, List.forall_mem_cons.2 ⟨rfl, List.forall_mem_cons.2 ⟨rfl, List.forall_mem_cons.2 ⟨rfl, List.forall_mem_cons.2 ⟨rfl, List.forall_mem_cons.2 ⟨rfl, List.forall_mem_cons.2 ⟨rfl, List.forall_mem_cons.2 ⟨rfl, List.forall_mem_cons.2 ⟨rfl, List.forall_mem_cons.2 ⟨rfl, List.forall_mem_cons.2 ⟨rfl, List.forall_mem_cons.2 ⟨rfl, List.forall_mem_cons.2 ⟨rfl, List.forall_mem_nil _⟩⟩⟩⟩⟩⟩⟩⟩⟩⟩⟩⟩⟩⟩⟩⟩⟩⟩⟩⟩⟩⟩⟩⟩⟩⟩⟩⟩⟩⟩⟩⟩⟩
theorem rows_tbh : ∀ r ∈ rows, tb (r.id + hotOff) = r.dh := List.forall_mem_cons.2 ⟨(by kernel_rfl), List.forall_mem_cons.2 ⟨(by kernel_rfl), List.forall_mem_cons.2 ⟨(by kernel_rfl), List.forall_mem_cons.2 ⟨(by kernel_rfl), List.forall_mem_cons.2 ⟨(by kernel_rfl), List.forall_mem_cons.2 ⟨(by kernel_rfl), List.forall_mem_cons.2 ⟨(by kernel_rfl), List.forall_mem_cons.2 ⟨(by kernel_rfl), List.forall_mem_cons.2 ⟨(by kernel_rfl), List.forall_mem_cons.2 ⟨(by kernel_rfl), List.forall_mem_cons.2 ⟨(by kernel_rfl), List.forall_mem_cons.2 ⟨(by kernel_rfl), List.forall_mem_cons.2 ⟨(by kernel_rfl), List.forall_mem_cons.2 ⟨(by kernel_rfl), List.forall_mem_cons.2 ⟨(by kernel_rfl), List.forall_mem_cons.2 ⟨(by kernel_rfl), List.forall_mem_cons.2 ⟨(by kernel_rfl), List.forall_mem_cons.2 ⟨(by kernel_rfl), List.forall_mem_cons.2 ⟨(by kernel_rfl), List.forall_mem_cons.2 ⟨(by kernel_rfl), List.forall_mem_cons.2 ⟨(by kernel_rfl), List.forall_mem_cons.2 ⟨(by kernel_rfl), List.forall_mem_cons.2 ⟨(by kernel_rfl), List.forall_mem_cons.2 ⟨(by kernel_rfl), List.forall_mem_cons.2 ⟨(by kernel_rfl), List.forall_mem_cons.2 ⟨(by kernel_rfl), List.forall_mem_cons.2 ⟨(by kernel_rfl), List.forall_mem_cons.2 ⟨(by kernel_rfl), List.forall_mem_cons.2 ⟨(by kernel_rfl), List.forall_mem_cons.2 ⟨(by kernel_rfl), List.forall_mem_cons.2 ⟨(by kernel_rfl), List.forall_mem_cons.2 ⟨(by kernel_rfl), List.forall_mem_cons.2 ⟨(by kernel_rfl), List.forall_mem_nil _⟩⟩⟩⟩⟩⟩⟩⟩⟩⟩⟩⟩⟩⟩⟩⟩⟩⟩⟩⟩⟩⟩⟩⟩⟩⟩⟩⟩⟩⟩⟩⟩⟩
theorem fns_ok : fnCheck gtab rows = true := by decide +kernel
theorem stand {w : World} {K : PySem.W.Frag} {h : Heap} {mg : Str → Option Value} (X : K.In h) (G : h.Ns mainGlobals mg) (h_is_integer : DefAt K "is_integer" (top 5))
    (h_is_between : DefAt K "is_between" (top 6))
    (h_is_sign : DefAt K "is_sign" (top 10))
    (h_signs_below : DefAt K "signs_below" (top 11))
    (h_is_long_term : DefAt K "is_long_term" (top 12))
    (h_need_long_terms : DefAt K "need_long_terms" (top 16))
    (h_turned_row : DefAt K "turned_row" (top 17))
    (h_turned_back_row : DefAt K "turned_back_row" (top 18))
    (h_folded_row : DefAt K "folded_row" (top 19))
    (h_timed_row : DefAt K "timed_row" (top 20))
    (h_stepped_row : DefAt K "stepped_row" (top 22))
    (h_is_step_form : DefAt K "is_step_form" (top 23))
    (h_behind_step : DefAt K "behind_step" (top 24))
    (h_stepped : DefAt K "stepped" (top 25))
    (h_undone_step : DefAt K "undone_step" (top 26))
    (h_undone : DefAt K "undone" (top 27))
    (h__law_hand : DefAt K "_law_hand" (top 29))
    (h__law_draw : DefAt K "_law_draw" (top 30))
    (h__law_some : DefAt K "_law_some" (top 31))
    (h__law_count : DefAt K "_law_count" (top 32))
    (h__law_deep : DefAt K "_law_deep" (top 33))
    (h__law_row : DefAt K "_law_row" (top 34))
    (h__law_signs : DefAt K "_law_signs" (top 35))
    (h__law_term : DefAt K "_law_term" (top 36))
    (h__law_put : DefAt K "_law_put" (top 37))
    (h__law_get : DefAt K "_law_get" (top 38))
    (h__law_paths : DefAt K "_law_paths" (top 39))
    (h__law_deed : DefAt K "_law_deed" (top 40))
    (h__law_step : DefAt K "_law_step" (top 41))
    (h__law_steps : DefAt K "_law_steps" (top 42))
    (h__law_kept : DefAt K "_law_kept" (top 43))
    (h__law_outcome : DefAt K "_law_outcome" (top 44))
    (h_law : DefAt K "law" (top 45))
    (c_MOST_DEEP : ∃ t, PySem.W.nsIn K mainGlobals "MOST_DEEP" = some (some (.int 6 t)))
    (c_LETTERS : ∃ t, PySem.W.nsIn K mainGlobals "LETTERS" = some (some (.str ("abcdefghijklmnopqrstuvwxyz" : PySem.Str) t)))
    (c_MOST_SIGNS : ∃ t, PySem.W.nsIn K mainGlobals "MOST_SIGNS" = some (some (.int 100000 t)))
    (k_BACKWARDS : DctAt w K "BACKWARDS" [(("turn" : PySem.Str), .str ("back" : PySem.Str)), (("back" : PySem.Str), .str ("turn" : PySem.Str)), (("fold" : PySem.Str), .str ("times" : PySem.Str)), (("times" : PySem.Str), .str ("fold" : PySem.Str))])
    (k_DEEDS : DctAt w K "DEEDS" [(("turn" : PySem.Str), .fnv "turned_row"), (("back" : PySem.Str), .fnv "turned_back_row"), (("fold" : PySem.Str), .fnv "folded_row"), (("times" : PySem.Str), .fnv "timed_row")])
    (z_len : PySem.W.nsIn K mainGlobals "len" = some none)
    (z_abs : PySem.W.nsIn K mainGlobals "abs" = some none)
    (z_int : PySem.W.nsIn K mainGlobals "int" = some none)
    (z_str : PySem.W.nsIn K mainGlobals "str" = some none)
    (z_tuple : PySem.W.nsIn K mainGlobals "tuple" = some none)
    (z_list : PySem.W.nsIn K mainGlobals "list" = some none)
    (z_all : PySem.W.nsIn K mainGlobals "all" = some none)
    (z_any : PySem.W.nsIn K mainGlobals "any" = some none)
    (z_sum : PySem.W.nsIn K mainGlobals "sum" = some none)
    (z_bool : PySem.W.nsIn K mainGlobals "bool" = some none)
    (z_isinstance : PySem.W.nsIn K mainGlobals "isinstance" = some none)
    (z_range : PySem.W.nsIn K mainGlobals "range" = some none)
    (z_enumerate : PySem.W.nsIn K mainGlobals "enumerate" = some none)
    (z_zip : PySem.W.nsIn K mainGlobals "zip" = some none)
    (z_max : PySem.W.nsIn K mainGlobals "max" = some none)
    (z_min : PySem.W.nsIn K mainGlobals "min" = some none)
    (z_sorted : PySem.W.nsIn K mainGlobals "sorted" = some none)
    {C_NoStep : Addr}
    (e_NoStep : X0At K "NoStep" C_NoStep)
    (s_NoStep_NoStep : PySem.W.subIn K (.ref C_NoStep) (.ref C_NoStep) = some true) : Stand w rows gtab tb K mg (xtOf [⟨8, "NoStep", C_NoStep, none, [8]⟩]) :=
  stand_of rows_ok rows_tb rows_tbh (List.forall_mem_cons.2 ⟨def_at X G h_is_integer (fun _ _ _ _ _ _ _ us hl => match us, hl with | [_], _ => rfl), List.forall_mem_cons.2 ⟨def_at X G h_is_between (fun _ _ _ _ _ _ _ us hl => match us, hl with | [_, _, _], _ => rfl), List.forall_mem_cons.2 ⟨def_at X G h_is_sign (fun _ _ _ _ _ _ _ us hl => match us, hl with | [_], _ => rfl), List.forall_mem_cons.2 ⟨def_at X G h_signs_below (fun _ _ _ _ _ _ _ us hl => match us, hl with | [_, _, _], _ => rfl), List.forall_mem_cons.2 ⟨def_at X G h_is_long_term (fun _ _ _ _ _ _ _ us hl => match us, hl with | [_, _], _ => rfl), List.forall_mem_cons.2 ⟨def_at X G h_need_long_terms (fun _ _ _ _ _ _ _ us hl => match us, hl with | [_], _ => rfl), List.forall_mem_cons.2 ⟨def_at X G h_turned_row (fun _ _ _ _ _ _ _ us hl => match us, hl with | [_, _, _], _ => rfl), List.forall_mem_cons.2 ⟨def_at X G h_turned_back_row (fun _ _ _ _ _ _ _ us hl => match us, hl with | [_, _, _], _ => rfl), List.forall_mem_cons.2 ⟨def_at X G h_folded_row (fun _ _ _ _ _ _ _ us hl => match us, hl with | [_, _, _], _ => rfl), List.forall_mem_cons.2 ⟨def_at X G h_timed_row (fun _ _ _ _ _ _ _ us hl => match us, hl with | [_, _, _], _ => rfl), List.forall_mem_cons.2 ⟨def_at X G h_stepped_row (fun _ _ _ _ _ _ _ us hl => match us, hl with | [_, _, _], _ => rfl), List.forall_mem_cons.2 ⟨def_at X G h_is_step_form (fun _ _ _ _ _ _ _ us hl => match us, hl with | [_], _ => rfl), List.forall_mem_cons.2 ⟨def_at X G h_behind_step (fun _ _ _ _ _ _ _ us hl => match us, hl with | [_, _], _ => rfl), List.forall_mem_cons.2 ⟨def_at X G h_stepped (fun _ _ _ _ _ _ _ us hl => match us, hl with | [_, _], _ => rfl), List.forall_mem_cons.2 ⟨def_at X G h_undone_step (fun _ _ _ _ _ _ _ us hl => match us, hl with | [_], _ => rfl), List.forall_mem_cons.2 ⟨def_at X G h_undone (fun _ _ _ _ _ _ _ us hl => match us, hl with | [_, _], _ => rfl), List.forall_mem_cons.2 ⟨def_at X G h__law_hand (fun _ _ _ _ _ _ _ us hl => match us, hl with | [_], _ => rfl), List.forall_mem_cons.2 ⟨def_at X G h__law_draw (fun _ _ _ _ _ _ _ us hl => match us, hl with | [_, _], _ => rfl), List.forall_mem_cons.2 ⟨def_at X G h__law_some (fun _ _ _ _ _ _ _ us hl => match us, hl with | [_, _], _ => rfl), List.forall_mem_cons.2 ⟨def_at X G h__law_count (fun _ _ _ _ _ _ _ us hl => match us, hl with | [_], _ => rfl), List.forall_mem_cons.2 ⟨def_at X G h__law_deep (fun _ _ _ _ _ _ _ us hl => match us, hl with | [_], _ => rfl), List.forall_mem_cons.2 ⟨def_at X G h__law_row (fun _ _ _ _ _ _ _ us hl => match us, hl with | [_, _, _, _], _ => rfl), List.forall_mem_cons.2 ⟨def_at X G h__law_signs (fun _ _ _ _ _ _ _ us hl => match us, hl with | [_, _], _ => rfl), List.forall_mem_cons.2 ⟨def_at X G h__law_term (fun _ _ _ _ _ _ _ us hl => match us, hl with | [_, _, _, _], _ => rfl), List.forall_mem_cons.2 ⟨def_at X G h__law_put (fun _ _ _ _ _ _ _ us hl => match us, hl with | [_, _, _], _ => rfl), List.forall_mem_cons.2 ⟨def_at X G h__law_get (fun _ _ _ _ _ _ _ us hl => match us, hl with | [_, _], _ => rfl), List.forall_mem_cons.2 ⟨def_at X G h__law_paths (fun _ _ _ _ _ _ _ us hl => match us, hl with | [_, _], _ => rfl), List.forall_mem_cons.2 ⟨def_at X G h__law_deed (fun _ _ _ _ _ _ _ us hl => match us, hl with | [_, _, _, _], _ => rfl), List.forall_mem_cons.2 ⟨def_at X G h__law_step (fun _ _ _ _ _ _ _ us hl => match us, hl with | [_, _], _ => rfl), List.forall_mem_cons.2 ⟨def_at X G h__law_steps (fun _ _ _ _ _ _ _ us hl => match us, hl with | [_, _, _, _], _ => rfl), List.forall_mem_cons.2 ⟨def_at X G h__law_kept (fun _ _ _ _ _ _ _ us hl => match us, hl with | [_, _], _ => rfl), List.forall_mem_cons.2 ⟨def_at X G h__law_outcome (fun _ _ _ _ _ _ _ us hl => match us, hl with | [_, _, _], _ => rfl), List.forall_mem_cons.2 ⟨def_at X G h_law (fun _ _ _ _ _ _ _ us hl => match us, hl with | [_], _ => rfl), List.forall_mem_nil _⟩⟩⟩⟩⟩⟩⟩⟩⟩⟩⟩⟩⟩⟩⟩⟩⟩⟩⟩⟩⟩⟩⟩⟩⟩⟩⟩⟩⟩⟩⟩⟩⟩) fns_ok (List.forall_mem_cons.2 ⟨True.intro, List.forall_mem_cons.2 ⟨True.intro, List.forall_mem_cons.2 ⟨True.intro, List.forall_mem_cons.2 ⟨True.intro, List.forall_mem_cons.2 ⟨True.intro, List.forall_mem_cons.2 ⟨True.intro, List.forall_mem_cons.2 ⟨True.intro, List.forall_mem_cons.2 ⟨True.intro, List.forall_mem_cons.2 ⟨True.intro, List.forall_mem_cons.2 ⟨True.intro, List.forall_mem_cons.2 ⟨True.intro, List.forall_mem_cons.2 ⟨True.intro, List.forall_mem_cons.2 ⟨True.intro, List.forall_mem_cons.2 ⟨True.intro, List.forall_mem_cons.2 ⟨True.intro, List.forall_mem_cons.2 ⟨True.intro, List.forall_mem_cons.2 ⟨True.intro, List.forall_mem_cons.2 ⟨True.intro, List.forall_mem_cons.2 ⟨True.intro, List.forall_mem_cons.2 ⟨True.intro, List.forall_mem_cons.2 ⟨True.intro, List.forall_mem_cons.2 ⟨True.intro, List.forall_mem_cons.2 ⟨True.intro, List.forall_mem_cons.2 ⟨True.intro, List.forall_mem_cons.2 ⟨True.intro, List.forall_mem_cons.2 ⟨True.intro, List.forall_mem_cons.2 ⟨True.intro, List.forall_mem_cons.2 ⟨True.intro, List.forall_mem_cons.2 ⟨True.intro, List.forall_mem_cons.2 ⟨True.intro, List.forall_mem_cons.2 ⟨True.intro, List.forall_mem_cons.2 ⟨True.intro, List.forall_mem_cons.2 ⟨True.intro, List.forall_mem_cons.2 ⟨gl_int X G c_MOST_DEEP, List.forall_mem_cons.2 ⟨gl_str X G c_LETTERS, List.forall_mem_cons.2 ⟨gl_int X G c_MOST_SIGNS, List.forall_mem_cons.2 ⟨gl_dct X G k_BACKWARDS, List.forall_mem_cons.2 ⟨gl_dct X G k_DEEDS, List.forall_mem_cons.2 ⟨⟨_, List.mem_cons_self, rfl, rfl, rfl, rfl, rfl⟩, List.forall_mem_nil _⟩⟩⟩⟩⟩⟩⟩⟩⟩⟩⟩⟩⟩⟩⟩⟩⟩⟩⟩⟩⟩⟩⟩⟩⟩⟩⟩⟩⟩⟩⟩⟩⟩⟩⟩⟩⟩⟩⟩) (none_of X G (List.forall_mem_cons.2 ⟨z_len, List.forall_mem_cons.2 ⟨z_abs, List.forall_mem_cons.2 ⟨z_int, List.forall_mem_cons.2 ⟨z_str, List.forall_mem_cons.2 ⟨z_tuple, List.forall_mem_cons.2 ⟨z_list, List.forall_mem_cons.2 ⟨z_all, List.forall_mem_cons.2 ⟨z_any, List.forall_mem_cons.2 ⟨z_sum, List.forall_mem_cons.2 ⟨z_bool, List.forall_mem_cons.2 ⟨z_isinstance, List.forall_mem_cons.2 ⟨z_range, List.forall_mem_cons.2 ⟨z_enumerate, List.forall_mem_cons.2 ⟨z_zip, List.forall_mem_cons.2 ⟨z_max, List.forall_mem_cons.2 ⟨z_min, List.forall_mem_cons.2 ⟨z_sorted, List.forall_mem_nil _⟩⟩⟩⟩⟩⟩⟩⟩⟩⟩⟩⟩⟩⟩⟩⟩⟩)) (List.forall_mem_cons.2 ⟨x0_ok X G e_NoStep, List.forall_mem_nil _⟩) (List.forall_mem_cons.2 ⟨List.forall_mem_cons.2 ⟨s_NoStep_NoStep, List.forall_mem_nil _⟩, List.forall_mem_nil _⟩) (List.forall_mem_cons.2 ⟨rfl, List.forall_mem_nil _⟩)
theorem all_mk {l : PySem.W.OpenLaw} {w : World} {K : PySem.W.Frag} {h : Heap} {mg : Str → Option Value} {fa : Addr} {k : Nat} (run : ∀ ns : List Int, ns.length ≤ 63 → ∃ S', callN tb k 22 [.rol (ns.map .int)] [] = .ok (.bl true) S') (X : K.In h) (G : h.Ns mainGlobals mg) (hfa : mg "law" = some (.ref fa))
    (h_is_integer : DefAt K "is_integer" (top 5))
    (h_is_between : DefAt K "is_between" (top 6))
    (h_is_sign : DefAt K "is_sign" (top 10))
    (h_signs_below : DefAt K "signs_below" (top 11))
    (h_is_long_term : DefAt K "is_long_term" (top 12))
    (h_need_long_terms : DefAt K "need_long_terms" (top 16))
    (h_turned_row : DefAt K "turned_row" (top 17))
    (h_turned_back_row : DefAt K "turned_back_row" (top 18))
    (h_folded_row : DefAt K "folded_row" (top 19))
    (h_timed_row : DefAt K "timed_row" (top 20))
    (h_stepped_row : DefAt K "stepped_row" (top 22))
    (h_is_step_form : DefAt K "is_step_form" (top 23))
    (h_behind_step : DefAt K "behind_step" (top 24))
    (h_stepped : DefAt K "stepped" (top 25))
    (h_undone_step : DefAt K "undone_step" (top 26))
    (h_undone : DefAt K "undone" (top 27))
    (h__law_hand : DefAt K "_law_hand" (top 29))
    (h__law_draw : DefAt K "_law_draw" (top 30))
    (h__law_some : DefAt K "_law_some" (top 31))
    (h__law_count : DefAt K "_law_count" (top 32))
    (h__law_deep : DefAt K "_law_deep" (top 33))
    (h__law_row : DefAt K "_law_row" (top 34))
    (h__law_signs : DefAt K "_law_signs" (top 35))
    (h__law_term : DefAt K "_law_term" (top 36))
    (h__law_put : DefAt K "_law_put" (top 37))
    (h__law_get : DefAt K "_law_get" (top 38))
    (h__law_paths : DefAt K "_law_paths" (top 39))
    (h__law_deed : DefAt K "_law_deed" (top 40))
    (h__law_step : DefAt K "_law_step" (top 41))
    (h__law_steps : DefAt K "_law_steps" (top 42))
    (h__law_kept : DefAt K "_law_kept" (top 43))
    (h__law_outcome : DefAt K "_law_outcome" (top 44))
    (h_law : DefAt K "law" (top 45))
    (c_MOST_DEEP : ∃ t, PySem.W.nsIn K mainGlobals "MOST_DEEP" = some (some (.int 6 t)))
    (c_LETTERS : ∃ t, PySem.W.nsIn K mainGlobals "LETTERS" = some (some (.str ("abcdefghijklmnopqrstuvwxyz" : PySem.Str) t)))
    (c_MOST_SIGNS : ∃ t, PySem.W.nsIn K mainGlobals "MOST_SIGNS" = some (some (.int 100000 t)))
    (k_BACKWARDS : DctAt w K "BACKWARDS" [(("turn" : PySem.Str), .str ("back" : PySem.Str)), (("back" : PySem.Str), .str ("turn" : PySem.Str)), (("fold" : PySem.Str), .str ("times" : PySem.Str)), (("times" : PySem.Str), .str ("fold" : PySem.Str))])
    (k_DEEDS : DctAt w K "DEEDS" [(("turn" : PySem.Str), .fnv "turned_row"), (("back" : PySem.Str), .fnv "turned_back_row"), (("fold" : PySem.Str), .fnv "folded_row"), (("times" : PySem.Str), .fnv "timed_row")])
    (z_len : PySem.W.nsIn K mainGlobals "len" = some none)
    (z_abs : PySem.W.nsIn K mainGlobals "abs" = some none)
    (z_int : PySem.W.nsIn K mainGlobals "int" = some none)
    (z_str : PySem.W.nsIn K mainGlobals "str" = some none)
    (z_tuple : PySem.W.nsIn K mainGlobals "tuple" = some none)
    (z_list : PySem.W.nsIn K mainGlobals "list" = some none)
    (z_all : PySem.W.nsIn K mainGlobals "all" = some none)
    (z_any : PySem.W.nsIn K mainGlobals "any" = some none)
    (z_sum : PySem.W.nsIn K mainGlobals "sum" = some none)
    (z_bool : PySem.W.nsIn K mainGlobals "bool" = some none)
    (z_isinstance : PySem.W.nsIn K mainGlobals "isinstance" = some none)
    (z_range : PySem.W.nsIn K mainGlobals "range" = some none)
    (z_enumerate : PySem.W.nsIn K mainGlobals "enumerate" = some none)
    (z_zip : PySem.W.nsIn K mainGlobals "zip" = some none)
    (z_max : PySem.W.nsIn K mainGlobals "max" = some none)
    (z_min : PySem.W.nsIn K mainGlobals "min" = some none)
    (z_sorted : PySem.W.nsIn K mainGlobals "sorted" = some none)
    {C_NoStep : Addr}
    (e_NoStep : X0At K "NoStep" C_NoStep)
    (s_NoStep_NoStep : PySem.W.subIn K (.ref C_NoStep) (.ref C_NoStep) = some true) :
    ∃ fd : FuncData, (∀ (s : Shared) (v : Value), BindsTo s fd ⟨[v], []⟩ [("script", v)]) ∧ ∀ base : Heap, K.In base → base.Ns mainGlobals mg → FnOk l.prog w K mg base (L2N.CX l.prog w) (k + 2) fa fd ["script"] (spLaw K) := by
  have St := stand X G h_is_integer h_is_between h_is_sign h_signs_below h_is_long_term h_need_long_terms h_turned_row h_turned_back_row h_folded_row h_timed_row h_stepped_row h_is_step_form h_behind_step h_stepped h_undone_step h_undone h__law_hand h__law_draw h__law_some h__law_count h__law_deep h__law_row h__law_signs h__law_term h__law_put h__law_get h__law_paths h__law_deed h__law_step h__law_steps h__law_kept h__law_outcome h_law c_MOST_DEEP c_LETTERS c_MOST_SIGNS k_BACKWARDS k_DEEDS z_len z_abs z_int z_str z_tuple z_list z_all z_any z_sum z_bool z_isinstance z_range z_enumerate z_zip z_max z_min z_sorted e_NoStep s_NoStep_NoStep
  obtain ⟨f, oc, od, kV, doc, pm, an, cdv, ct, osl, a, l', c, kp⟩ := h_law
  have e := hfa.symm.trans (PySem.W.mg_of X G a)
  cases e
  exact ⟨_, fun s v => .of_eq rfl, fun base _ _ => law_ok St (r := r_law) (by simp [rows]) (fun_mk (st := top 45) l' c kp) run⟩
end K30
end

section
set_option linter.all false
set_option maxRecDepth 100000
set_option maxHeartbeats 1000000
/-! PDsim: how the evaluator is run in proofs. -/
namespace PD.PS
open PySem

theorem call_rt {T : Tab} {n f : Nat} {d : Def} {xs : List D} {S S' : Store} {v : D} (hT : T f = some d) (hl : xs.length = d.np) (h : exTs (callN T n) d.body (xs.map some ++ List.replicate (d.ns - xs.length) none) S = .rt v S') : callN T (n + 1) f xs S = .ok v (gcS S v S') := by
  simp only [callN, hT, runDef, hl, if_true, h, gc]
  rw [← hl, h]
theorem call_nx {T : Tab} {n f : Nat} {d : Def} {xs : List D} {S S' : Store} {env : Env} (hT : T f = some d) (hl : xs.length = d.np) (h : exTs (callN T n) d.body (xs.map some ++ List.replicate (d.ns - xs.length) none) S = .nx env S') : callN T (n + 1) f xs S = .ok .non (gcS S .non S') := by
  simp only [callN, hT, runDef, hl, if_true]
  rw [← hl, h]
  rfl
/-- an exception leaves a def -/
theorem call_ex {T : Tab} {n f : Nat} {d : Def} {xs : List D} {S S' : Store} {x : Exn} {env : Env} (hT : T f = some d) (hl : xs.length = d.np) (h : exTs (callN T n) d.body (xs.map some ++ List.replicate (d.ns - xs.length) none) S = .ex x env S') : callN T (n + 1) f xs S = .exc x S' := by
  simp only [callN, hT, runDef, hl, if_true]
  rw [← hl, h]
/-- a value that holds no cell, from a run that leaves what was there -/
theorem call_pure {T : Tab} {n f : Nat} {d : Def} {xs : List D} {S G : Store} {v : D} (hT : T f = some d) (hl : xs.length = d.np) (hv : D.lt S.length v = true) (h : exTs (callN T n) d.body (xs.map some ++ List.replicate (d.ns - xs.length) none) S = .rt v (S ++ G)) : callN T (n + 1) f xs S = .ok v S := by
  rw [call_rt hT hl h, gcS_same hv]

/-! data without cells -/
def tupI (xs : List Int) : D := .tup (xs.map .int)
@[simp] theorem lts_ints (n : Nat) : ∀ xs : List Int, D.lts n (xs.map .int) = true
  | [] => rfl
  | x :: xs => by simp [D.lts, D.lt, lts_ints n xs]
@[simp] theorem lt_tupI (n : Nat) (xs : List Int) : D.lt n (tupI xs) = true := by simp [tupI, D.lt]
@[simp] theorem pys_ints (f : Nat → Option PyData) : ∀ xs : List Int, D.pys f (xs.map .int) = some (xs.map .int)
  | [] => rfl
  | x :: xs => by simp [D.pys, D.py, pys_ints f xs]
@[simp] theorem ints_ints : ∀ xs : List Int, ints? (xs.map .int) = some xs
  | [] => rfl
  | x :: xs => by simp [ints?, ints_ints xs]
@[simp] theorem bls_bls : ∀ xs : List Bool, bls? (xs.map .bl) = some xs
  | [] => rfl
  | x :: xs => by simp [bls?, bls_bls xs]
theorem canAll_ints : ∀ xs : List Int, PyData.canLayAll0 (xs.map .int) = true
  | [] => by simp [PyData.canLayAll0]
  | x :: xs => by simp [PyData.canLayAll0, PyData.canLay0, canAll_ints xs]
theorem depthAll_ints : ∀ xs : List Int, PyData.depthAll (xs.map .int) ≤ 1
  | [] => by simp [PyData.depthAll]
  | x :: xs => by
    have := depthAll_ints xs
    simp [PyData.depthAll, PyData.depth]
    try omega
theorem eqvAll_ints : ∀ xs ys : List Int, PyData.eqvAll (xs.map .int) (ys.map .int) = decide (xs = ys)
  | [], [] => by simp [PyData.eqvAll]
  | x :: xs, y :: ys => by
    simp only [List.map_cons, PyData.eqvAll, PyData.eqv, eqvAll_ints xs ys]
    by_cases h : x = y <;> by_cases h' : xs = ys <;> simp [h, h']
  | [], _ :: _ => by simp [PyData.eqvAll]
  | _ :: _, [] => by simp [PyData.eqvAll]
@[simp] theorem opEq_int (i j : Int) (S : Store) : opEq (.int i) (.int j) S = .ok (decide (i = j)) S := by
  simp [opEq, toPy, D.py, SeqAt.shaped, PyData.canLay0, PyData.depth, PyData.eqv]
  exact Bool.beq_eq_decide_eq ..
@[simp] theorem opEq_bl (i j : Bool) (S : Store) : opEq (.bl i) (.bl j) S = .ok (decide (i = j)) S := by
  simp [opEq, toPy, D.py, SeqAt.shaped, PyData.canLay0, PyData.depth, PyData.eqv]
  exact Bool.beq_eq_decide_eq ..
@[simp] theorem opEq_tupI (xs ys : List Int) (S : Store) : opEq (tupI xs) (tupI ys) S = .ok (decide (xs = ys)) S := by
  have h1 := depthAll_ints xs
  have h2 := depthAll_ints ys
  simp [opEq, toPy, tupI, D.py, SeqAt.shaped, PyData.canLay0, canAll_ints, PyData.depth, PyData.eqv, eqvAll_ints]
  omega
end PD.PS
end

section
set_option linter.all false
set_option maxRecDepth 100000
set_option maxHeartbeats 1000000
/-! PDsim2: the evaluator's equations, and loops. -/
namespace PD.PS
open PySem
section eqs
variable {F : Fn} {env : Env} {S : Store}
@[simp] theorem e_slot (i : Nat) : evE F env (.slot i) S = match env[i]? with
    | some (some d) => .ok d S
    | _ => .stuck := by { rw [evE]; try rfl }
@[simp] theorem e_cst (d : D) : evE F env (.cst d) S = .ok d S := by { rw [evE]; try rfl }
@[simp] theorem e_bin (o : Operator) (a b : E) : evE F env (.bin o a b) S = (evE F env a S).bind fun x S => (evE F env b S).bind fun y S => opBin o x y S := by { rw [evE]; try rfl }
@[simp] theorem e_un (o : UnaryOp) (a : E) : evE F env (.un o a) S = (evE F env a S).bind fun x S => opUn o x S := by { rw [evE]; try rfl }
@[simp] theorem e_cmp (o : CmpOp) (a b : E) : evE F env (.cmp o a b) S = (evE F env a S).bind fun x S => (evE F env b S).bind fun y S => (opCmp o x y S).map .bl := by { rw [evE]; try rfl }
@[simp] theorem e_chn (o p : CmpOp) (a b c : E) : evE F env (.chn o p a b c) S = (evE F env a S).bind fun x S => (evE F env b S).bind fun y S => (opCmp o x y S).bind fun k S =>
      if k then (evE F env c S).bind fun z S => (opCmp p y z S).map .bl else .ok (.bl false) S := by { rw [evE]; try rfl }
@[simp] theorem e_and (a b : E) : evE F env (.and a b) S = (evE F env a S).bind fun x S => match x with
    | .bl true => evE F env b S
    | .bl false => .ok (.bl false) S
    | _ => .stuck := by { rw [evE]; try rfl }
@[simp] theorem e_or (a b : E) : evE F env (.or a b) S = (evE F env a S).bind fun x S => match x with
    | .bl true => .ok (.bl true) S
    | .bl false => evE F env b S
    | _ => .stuck := by { rw [evE]; try rfl }
@[simp] theorem e_not (a : E) : evE F env (.not a) S = (evE F env a S).bind fun x S => match x with
    | .bl k => .ok (.bl (!k)) S
    | _ => .stuck := by { rw [evE]; try rfl }
@[simp] theorem e_ife (c a b : E) : evE F env (.ife c a b) S = (evT F env c S).bind fun k S => if k then evE F env a S else evE F env b S := by { rw [evE]; try rfl }
@[simp] theorem e_call (f : Nat) (as : Es) : evE F env (.call f as) S = (evEs F env as S).bind fun xs S => F f xs S := by { rw [evE]; try rfl }
@[simp] theorem e_blt (f : Blt) (as : Es) : evE F env (.blt f as) S = (evEs F env as S).bind fun xs S => opBlt f xs S := by { rw [evE]; try rfl }
@[simp] theorem e_isi (a : E) (t : Ty) : evE F env (.isi a t) S = (evE F env a S).bind fun x S => match isTy x t S with
    | some k => .ok (.bl k) S
    | none => .stuck := by { rw [evE]; try rfl }
@[simp] theorem e_mth (m : Mth) (o : E) (as : Es) : evE F env (.mth m o as) S = (evE F env o S).bind fun x S => if rcvOk m x S then (evEs F env as S).bind fun xs S => opMth m x xs S else .stuck := by { rw [evE]; try rfl }
@[simp] theorem e_ix (a i : E) : evE F env (.ix a i) S = (evE F env a S).bind fun x S => (evE F env i S).bind fun y S => opIx x y S := by { rw [evE]; try rfl }
@[simp] theorem e_slc (a : E) (lo hi : Oe) : evE F env (.slc a lo hi) S = (evE F env a S).bind fun x S => (evO F env lo S).bind fun l S => (evO F env hi S).bind fun h S => opSl x l h S := by { rw [evE]; try rfl }
@[simp] theorem e_tup (as : Es) : evE F env (.tup as) S = (evEs F env as S).bind fun xs S => if xs.length ≤ sizeLine then .ok (.tup xs) S else .stuck := by { rw [evE]; try rfl }
@[simp] theorem e_dnew : evE F env .dnew S = .ok (.ref S.length) (S ++ [.dic []]) := by { rw [evE]; try rfl }
@[simp] theorem e_lst (as : Es) : evE F env (.lst as) S = (evEs F env as S).bind fun xs S => if xs.length ≤ sizeLine then newL xs S else .stuck := by { rw [evE]; try rfl }
theorem e_lc (e : E) (t : Tg) (s : I) (c : Oe) (own : List Nat) : evE F env (.lc e t s c own) S = (evI F env s S).bind fun src S =>
      ((lcGo src.nx (fun d S => asgT S t d (wipeE env own)) (fun env S => evOT F env c S) (fun env S => evE F env e S) wmax 0 [] S).noexc).bind fun ds S => newL ds S := by { rw [evE]; try rfl }
@[simp] theorem es_nil : evEs F env .nil S = .ok [] S := by { rw [evEs]; try rfl }
@[simp] theorem es_cons (e : E) (es : Es) : evEs F env (.cons e es) S = (evE F env e S).bind fun x S => (evEs F env es S).bind fun xs S => .ok (x :: xs) S := by { rw [evEs]; try rfl }
@[simp] theorem es_star (e : E) (es : Es) : evEs F env (.star e es) S = (evE F env e S).bind fun x S => match itemsOf S x with
    | some ds => (evEs F env es S).bind fun xs S => .ok (ds ++ xs) S
    | none => .stuck := by { rw [evEs]; try rfl }
@[simp] theorem o_no : evO F env .no S = .ok none S := by { rw [evO]; try rfl }
@[simp] theorem o_so (e : E) : evO F env (.so e) S = (evE F env e S).bind fun x S => match x with
    | .int i => .ok (some i) S
    | _ => .stuck := by { rw [evO]; try rfl }
@[simp] theorem ot_no : evOT F env .no S = .ok true S := by { rw [evOT]; try rfl }
@[simp] theorem ot_so (e : E) : evOT F env (.so e) S = evT F env e S := by { rw [evOT]; try rfl }
@[simp] theorem t_and (a b : E) : evT F env (.and a b) S = (evT F env a S).bind fun k S => if k then evT F env b S else .ok false S := by { rw [evT]; try rfl }
@[simp] theorem t_or (a b : E) : evT F env (.or a b) S = (evT F env a S).bind fun k S => if k then .ok true S else evT F env b S := by { rw [evT]; try rfl }
@[simp] theorem t_not (a : E) : evT F env (.not a) S = (evT F env a S).map not := by { rw [evT]; try rfl }
@[simp] theorem t_cmp (o : CmpOp) (a b : E) : evT F env (.cmp o a b) S = (evE F env a S).bind fun x S => (evE F env b S).bind fun y S => opCmp o x y S := by { rw [evT]; try rfl }
@[simp] theorem t_chn (o p : CmpOp) (a b c : E) : evT F env (.chn o p a b c) S = (evE F env a S).bind fun x S => (evE F env b S).bind fun y S => (opCmp o x y S).bind fun k S =>
      if k then (evE F env c S).bind fun z S => opCmp p y z S else .ok false S := by { rw [evT]; try rfl }
@[simp] theorem t_slot (i : Nat) : evT F env (.slot i) S = (match env[i]? with
    | some (some d) => .ok d S
    | _ => .stuck : R D).bind fun x S => opTru x S := by { rw [evT]; try rfl }
@[simp] theorem t_call (f : Nat) (as : Es) : evT F env (.call f as) S = ((evEs F env as S).bind fun xs S => F f xs S).bind fun x S => opTru x S := by { rw [evT]; try rfl }
@[simp] theorem t_blt (f : Blt) (as : Es) : evT F env (.blt f as) S = ((evEs F env as S).bind fun xs S => opBlt f xs S).bind fun x S => opTru x S := by { rw [evT]; try rfl }
@[simp] theorem t_isi (a : E) (t : Ty) : evT F env (.isi a t) S = (evE F env a S).bind fun x S => match isTy x t S with
    | some k => .ok k S
    | none => .stuck := by { rw [evT]; try rfl }
@[simp] theorem t_mth (m : Mth) (o : E) (as : Es) : evT F env (.mth m o as) S = ((evE F env o S).bind fun x S => if rcvOk m x S then (evEs F env as S).bind fun xs S => opMth m x xs S else .stuck).bind fun x S => opTru x S := by { rw [evT]; try rfl }
@[simp] theorem t_ix (a i : E) : evT F env (.ix a i) S = ((evE F env a S).bind fun x S => (evE F env i S).bind fun y S => opIx x y S).bind fun x S => opTru x S := by { rw [evT]; try rfl }
@[simp] theorem i_any (e : E) : evI F env (.any e) S = (evE F env e S).bind fun x S => match x with
    | .tup ds => .ok (.st ds) S
    | .rol ds => .ok (.st ds) S
    | .str s => .ok (.st (strItems s)) S
    | .ref n => match S[n]? with
      | some (.lst _) => .ok (.ls n) S
      | _ => .stuck
    | _ => .stuck := by { rw [evI]; try rfl }
@[simp] theorem i_rng1 (a : E) : evI F env (.rng1 a) S = (evE F env a S).bind fun x S => match x with
    | .int j => if rngOk j then .ok (.st (rangeD 0 1 j.toNat)) S else .stuck
    | _ => .stuck := by { rw [evI]; try rfl }
@[simp] theorem i_rng2 (a b : E) : evI F env (.rng2 a b) S = (evE F env a S).bind fun x S => (evE F env b S).bind fun y S => match x, y with
    | .int i, .int j => if rngOk i && rngOk j then .ok (.st (rangeD i 1 (j - i).toNat)) S else .stuck
    | _, _ => .stuck := by { rw [evI]; try rfl }
@[simp] theorem i_rng3 (a b : E) (c : Int) : evI F env (.rng3 a b c) S = (evE F env a S).bind fun x S => (evE F env b S).bind fun y S => match x, y with
    | .int i, .int j => if rngOk i && rngOk j && decide (c = -1) then .ok (.st (rangeD i (-1) (i - j).toNat)) S else .stuck
    | _, _ => .stuck := by { rw [evI]; try rfl }
@[simp] theorem x_asg (t : Tg) (e : E) : exT F (.asg t e) env S = (evE F env e S).out env fun d S => match asgT S t d env with
    | some env' => .nx env' S
    | none => .stuck := by { rw [exT]; try rfl }
@[simp] theorem x_seti (a i e : E) : exT F (.seti a i e) env S = (evE F env e S).out env fun v S => (evE F env a S).out env fun o S => (evE F env i S).out env fun k S => (opSet o k v S).out env fun _ S => .nx env S := by { rw [exT]; try rfl }
@[simp] theorem x_aug (i : Nat) (o : Operator) (e : E) : exT F (.aug i o e) env S = match env[i]? with
    | some (some x) => (evE F env e S).out env fun y S => (opAug o x y S).out env fun z S => .nx (env.set i (some z)) S
    | _ => .stuck := by { rw [exT]; try rfl }
@[simp] theorem x_exp (e : E) : exT F (.exp e) env S = (evE F env e S).out env fun _ S => .nx env S := by { rw [exT]; try rfl }
@[simp] theorem x_ret (e : E) : exT F (.ret e) env S = (evE F env e S).out env fun d S => .rt d S := by { rw [exT]; try rfl }
@[simp] theorem x_retN : exT F .retN env S = .rt .non S := by { rw [exT]; try rfl }
@[simp] theorem x_iff (c : E) (a b : Ts) : exT F (.iff c a b) env S = (evT F env c S).out env fun k S => if k then exTs F a env S else exTs F b env S := by { rw [exT]; try rfl }
theorem x_whl (c : E) (b : Ts) : exT F (.whl c b) env S = whlGo (fun env S => evT F env c S) (fun env S => exTs F b env S) wmax env S := by { rw [exT]; try rfl }
theorem x_for (t : Tg) (s : I) (b : Ts) : exT F (.for_ t s b) env S = (evI F env s S).out env fun src S => forGo src.nx t (fun env S => exTs F b env S) wmax 0 env S := by { rw [exT]; try rfl }
@[simp] theorem x_pas : exT F .pas env S = .nx env S := by { rw [exT]; try rfl }
@[simp] theorem x_brk : exT F .brk env S = .bk env S := by { rw [exT]; try rfl }
@[simp] theorem x_cnt : exT F .cnt env S = .ct env S := by { rw [exT]; try rfl }
theorem x_rai (x : Nat) (as : Es) : exT F (.rai x as) env S = (evEs F env as S).out env fun ds S => .ex ⟨x, ds⟩ env S := by { rw [exT]; try rfl }
theorem x_try (b : Ts) (h : PD.Hs) : exT F (.try_ b h) env S = match exTs F b env S with
    | .ex x env' S' => exH F h x env' S'
    | o => o := by { rw [exT]; try rfl }
theorem h_nil (x : Exn) : exH F .nil x env S = .ex x env S := by { rw [exH]; try rfl }
theorem h_cons (cs : List Nat) (i : Option Nat) (s : Ts) (r : PD.Hs) (x : Exn) : exH F (.cons cs i s r) x env S = if cs.contains x.cls then (exTs (xF F x) s (wipeO env i) S).aftX i else exH F r x env S := by { rw [exH]; try rfl }
/-- a try whose body raises what its first clause takes -/
theorem x_tryX {b s : Ts} {cs : List Nat} {i : Option Nat} {r : PD.Hs} {x : Exn} {env' : Env} {S' : Store} (h : exTs F b env S = .ex x env' S') (hc : cs.contains x.cls = true) : exT F (.try_ b (.cons cs i s r)) env S = (exTs (xF F x) s (wipeO env' i) S').aftX i := by
  rw [x_try, h]
  show exH F _ x env' S' = _
  rw [h_cons, if_pos hc]
theorem e_xf (i : Nat) : evE F env (.xf i) S = match env[i]? with
    | some none => F xfId [] S
    | _ => .stuck := by { rw [evE]; try rfl }
theorem e_xi (i : Nat) (cs : List Nat) : evE F env (.xi i cs) S = match env[i]? with
    | some none => F xiId [.tup (cs.map fun (c : Nat) => .int c)] S
    | _ => .stuck := by { rw [evE]; try rfl }
theorem t_xi (i : Nat) (cs : List Nat) : evT F env (.xi i cs) S = (match env[i]? with
    | some none => F xiId [.tup (cs.map fun (c : Nat) => .int c)] S
    | _ => .stuck : R D).bind fun x S => opTru x S := by { rw [evT]; try rfl }
/-- other callees within a suite -/
theorem xF_at {x : Exn} {j : Nat} (h : j ≠ xfId ∧ j ≠ xiId) : xF F x j = F j := by
  funext xs S
  simp only [xF, if_neg h.1, if_neg h.2]
theorem xF_fld {x : Exn} {d : D} (h : x.fs = [d]) : xF F x xfId [] S = .ok d S := by simp [xF, h]
@[simp] theorem xs_nil : exTs F .nil env S = .nx env S := by { rw [exTs]; try rfl }
@[simp] theorem xs_cons (s : T) (r : Ts) : exTs F (.cons s r) env S = (exT F s env S).thn fun env S => exTs F r env S := by { rw [exTs]; try rfl }
@[simp] theorem g_nm (i : Nat) (d : D) : asgT S (.nm i) d env = some (env.set i (some d)) := by { rw [asgT]; try rfl }
@[simp] theorem g_tp (ts : Tgs) (d : D) : asgT S (.tp ts) d env = match itemsOf S d with
    | some ds => asgTs S ts ds env
    | none => none := by { rw [asgT]; try rfl }
@[simp] theorem gs_nil : asgTs S .nil [] env = some env := by { rw [asgTs]; try rfl }
@[simp] theorem gs_cons (t : Tg) (ts : Tgs) (d : D) (ds : List D) : asgTs S (.cons t ts) (d :: ds) env = match asgT S t d env with
    | some env' => asgTs S ts ds env'
    | none => none := by { rw [asgTs]; try rfl }
end eqs

/-! ### loops -/
/-- how a run of statements may end -/
def _root_.PD.Out.sat (o : Out) (N : Env → Store → Prop) (Q : D → Store → Prop) : Prop :=
  match o with
  | .nx e S => N e S
  | .rt d S => Q d S
  | _ => False
/-- the end of a loop's body -/
def _root_.PD.Out.satB (o : Out) (N B : Env → Store → Prop) (Q : D → Store → Prop) : Prop :=
  match o with
  | .nx e S => N e S
  | .ct e S => N e S
  | .bk e S => B e S
  | .rt d S => Q d S
  | _ => False
theorem forGo_st {items : List D} {t : Tg} {b : Env → Store → Out} (I : Nat → Env → Store → Prop) (N : Env → Store → Prop) (Q : D → Store → Prop)
    (step : ∀ i d env S, items[i]? = some d → I i env S → ∃ env1, asgT S t d env = some env1 ∧ (b env1 S).satB (I (i + 1)) N Q)
    (fin : ∀ env S, I items.length env S → N env S) :
    ∀ n i env S, i ≤ items.length → items.length < n + i → I i env S → (forGo (Src.st items).nx t b n i env S).sat N Q
  | 0, i, env, S, h1, h2, h => by omega
  | n + 1, i, env, S, h1, h2, h => by
    simp only [forGo, Src.nx, R.out_ok]
    rcases Nat.lt_or_ge i items.length with hl | hl
    · have hd : items[i]? = some items[i] := List.getElem?_eq_getElem hl
      obtain ⟨env1, ha, hb⟩ := step i _ env S hd h
      simp only [hd, ha]
      cases hbe : b env1 S <;> simp only [hbe, Out.satB] at hb
      · exact forGo_st I N Q step fin n (i + 1) _ _ (by omega) (by omega) hb
      · exact hb
      · exact hb
      · exact forGo_st I N Q step fin n (i + 1) _ _ (by omega) (by omega) hb
    · have : items.length = i := by omega
      rw [List.getElem?_eq_none hl]
      simp only [Out.sat]
      exact fin _ _ (this ▸ h)
theorem forGo_ls {c : Nat} {items : List D} {t : Tg} {b : Env → Store → Out} (I : Nat → Env → Store → Prop) (N : Env → Store → Prop) (Q : D → Store → Prop)
    (hc : ∀ i env S, I i env S → S[c]? = some (.lst items))
    (step : ∀ i d env S, items[i]? = some d → I i env S → ∃ env1, asgT S t d env = some env1 ∧ (b env1 S).satB (I (i + 1)) N Q)
    (fin : ∀ env S, I items.length env S → N env S) :
    ∀ n i env S, i ≤ items.length → items.length < n + i → I i env S → (forGo (Src.ls c).nx t b n i env S).sat N Q
  | 0, i, env, S, h1, h2, h => by omega
  | n + 1, i, env, S, h1, h2, h => by
    simp only [forGo, Src.nx, hc i env S h, R.out_ok]
    rcases Nat.lt_or_ge i items.length with hl | hl
    · have hd : items[i]? = some items[i] := List.getElem?_eq_getElem hl
      obtain ⟨env1, ha, hb⟩ := step i _ env S hd h
      simp only [hd, ha]
      cases hbe : b env1 S <;> simp only [hbe, Out.satB] at hb
      · exact forGo_ls I N Q hc step fin n (i + 1) _ _ (by omega) (by omega) hb
      · exact hb
      · exact hb
      · exact forGo_ls I N Q hc step fin n (i + 1) _ _ (by omega) (by omega) hb
    · have : items.length = i := by omega
      rw [List.getElem?_eq_none hl]
      simp only [Out.sat]
      exact fin _ _ (this ▸ h)
theorem whlGo_sat {c : Env → Store → R Bool} {b : Env → Store → Out} (I : Nat → Env → Store → Prop) (N : Env → Store → Prop) (Q : D → Store → Prop)
    (step : ∀ m env S, I m env S → (∃ S', c env S = .ok false S' ∧ N env S') ∨ (∃ S', c env S = .ok true S' ∧ (b env S').satB (fun e S => ∃ m', m' < m ∧ I m' e S) N Q)) :
    ∀ n m env S, m < n → I m env S → (whlGo c b n env S).sat N Q
  | 0, m, env, S, h2, h => by omega
  | n + 1, m, env, S, h2, h => by
    simp only [whlGo]
    rcases step m env S h with ⟨S', hc, hN⟩ | ⟨S', hc, hb⟩
    · simp only [hc, R.out_ok]
      simpa [Out.sat] using hN
    · simp only [hc, R.out_ok, if_true]
      cases hbe : b env S' <;> simp only [hbe, Out.satB] at hb
      · obtain ⟨m', hm, hI⟩ := hb
        exact whlGo_sat I N Q step n m' _ _ (by omega) hI
      · exact hb
      · exact hb
      · obtain ⟨m', hm, hI⟩ := hb
        exact whlGo_sat I N Q step n m' _ _ (by omega) hI
/-- a comprehension whose elements leave the store -/
theorem lcGo_map {items : List D} {tgt : D → Store → Option Env} {tst : Env → Store → R Bool} {elt : Env → Store → R D} {S : Store} (g : Nat → D)
    (step : ∀ i d, items[i]? = some d → ∃ e, tgt d S = some e ∧ tst e S = .ok true S ∧ elt e S = .ok (g i) S) (hl : items.length ≤ sizeLine) :
    ∀ n i acc, i ≤ items.length → items.length < n + i → acc.length = i → lcGo (Src.st items).nx tgt tst elt n i acc S = .ok (acc ++ ((List.range (items.length - i)).map fun k => g (i + k))) S
  | 0, i, acc, h1, h2, h => by omega
  | n + 1, i, acc, h1, h2, h => by
    simp only [lcGo, Src.nx, R.bind_ok]
    rcases Nat.lt_or_ge i items.length with hi | hi
    · have hd : items[i]? = some items[i] := List.getElem?_eq_getElem hi
      obtain ⟨e, h3, h4, h5⟩ := step i _ hd
      simp only [hd, h3, h4, h5, R.bind_ok, if_true]
      rw [if_pos (by omega), lcGo_map g step hl n (i + 1) _ (by omega) (by omega) (by simp [h])]
      have : items.length - i = (items.length - (i + 1)) + 1 := by omega
      rw [this, List.range_succ_eq_map]
      simp [Function.comp_def, Nat.add_assoc, Nat.add_comm 1]
    · rw [List.getElem?_eq_none hi]
      have : items.length - i = 0 := by omega
      simp [this]
/-- a comprehension whose elements may draw -/
theorem lcGo_inv {items : List D} {tgt : D → Store → Option Env} {tst : Env → Store → R Bool} {elt : Env → Store → R D} (I : Nat → List D → Store → Prop)
    (step : ∀ i d acc S, items[i]? = some d → acc.length = i → I i acc S → ∃ e x S', tgt d S = some e ∧ tst e S = .ok true S ∧ elt e S = .ok x S' ∧ I (i + 1) (acc ++ [x]) S') (hl : items.length ≤ sizeLine) :
    ∀ n i acc S, i ≤ items.length → items.length < n + i → acc.length = i → I i acc S → ∃ ds S', lcGo (Src.st items).nx tgt tst elt n i acc S = .ok ds S' ∧ ds.length = items.length ∧ I items.length ds S'
  | 0, i, acc, S, h1, h2, h, hI => by omega
  | n + 1, i, acc, S, h1, h2, h, hI => by
    simp only [lcGo, Src.nx, R.bind_ok]
    rcases Nat.lt_or_ge i items.length with hi | hi
    · have hd : items[i]? = some items[i] := List.getElem?_eq_getElem hi
      obtain ⟨e, x, S', h3, h4, h5, h6⟩ := step i _ acc S hd h hI
      simp only [hd, h3, h4, h5, R.bind_ok, if_true]
      rw [if_pos (by omega)]
      exact lcGo_inv I step hl n (i + 1) _ _ (by omega) (by omega) (by simp [h]) h6
    · have : items.length = i := by omega
      rw [List.getElem?_eq_none hi]
      exact ⟨acc, S, rfl, by omega, this ▸ hI⟩
theorem wmax_lt {n : Nat} (h : n ≤ sizeLine) : n < wmax := Nat.lt_of_le_of_lt h (by decide)
theorem lc_map {F : Fn} {env : Env} {e : E} {t : Tg} {s : I} {c : Oe} {own : List Nat} {S S' : Store} {items : List D} (g : Nat → D)
    (hs : evI F env s S = .ok (.st items) S') (hl : items.length ≤ sizeLine)
    (step : ∀ i d, items[i]? = some d → ∃ e', asgT S' t d (wipeE env own) = some e' ∧ evOT F e' c S' = .ok true S' ∧ evE F e' e S' = .ok (g i) S') :
    evE F env (.lc e t s c own) S = .ok (.ref S'.length) (S' ++ [.lst ((List.range items.length).map g)]) := by
  rw [e_lc, hs, R.bind_ok, lcGo_map g step hl wmax 0 [] (Nat.zero_le _) (by have := wmax_lt hl; omega) rfl]
  simp [newL]
theorem lc_inv {F : Fn} {env : Env} {e : E} {t : Tg} {s : I} {c : Oe} {own : List Nat} {S S' : Store} {items : List D} (I : Nat → List D → Store → Prop)
    (hs : evI F env s S = .ok (.st items) S') (hl : items.length ≤ sizeLine) (h0 : I 0 [] S')
    (step : ∀ i d acc S, items[i]? = some d → acc.length = i → I i acc S → ∃ e' x S', asgT S t d (wipeE env own) = some e' ∧ evOT F e' c S = .ok true S ∧ evE F e' e S = .ok x S' ∧ I (i + 1) (acc ++ [x]) S') :
    ∃ ds S2, evE F env (.lc e t s c own) S = .ok (.ref S2.length) (S2 ++ [.lst ds]) ∧ ds.length = items.length ∧ I items.length ds S2 := by
  obtain ⟨ds, S2, h1, h2, h3⟩ := lcGo_inv I step hl wmax 0 [] S' (Nat.zero_le _) (by have := wmax_lt hl; omega) rfl h0
  refine ⟨ds, S2, ?_, h2, h3⟩
  rw [e_lc, hs, R.bind_ok, h1]
  rfl
@[simp] theorem rangeD_len (lo c : Int) (n : Nat) : (rangeD lo c n).length = n := by simp [rangeD]
@[simp] theorem rangeD_get (lo c : Int) (n i : Nat) : (rangeD lo c n)[i]? = if i < n then some (.int (lo + i * c)) else none := by
  simp only [rangeD, List.getElem?_map]
  split <;> rename_i h
  · simp [List.getElem?_range h]
  · simp [h]
/-! ### tuples of numbers -/
section tups
variable {S : Store}
@[simp] theorem len_tupI (xs : List Int) : opBlt .len [tupI xs] S = .ok (.int xs.length) S := by simp [opBlt, tupI, itemsOf]
@[simp] theorem tuple_tupI (xs : List Int) : opBlt .tuple [tupI xs] S = .ok (tupI xs) S := by simp [opBlt, tupI]
@[simp] theorem items_tupI (xs : List Int) : itemsOf S (tupI xs) = some (xs.map .int) := by simp [tupI, itemsOf]
theorem atI_nat {α : Type} (xs : List α) (k : Nat) (x : α) (h : xs[k]? = some x) : L2.atI xs (k : Int) = some x := by
  have hk : k < xs.length := by
    rcases Nat.lt_or_ge k xs.length with h1 | h1
    · exact h1
    · rw [List.getElem?_eq_none h1] at h; cases h
  simp [L2.atI, L2.ixN, hk]
  rw [List.getElem?_eq_getElem hk] at h
  exact Option.some.inj h
theorem ix_tupI {xs : List Int} {k : Nat} {x : Int} {i : Int} (hi : i = k) (h : xs[k]? = some x) : opIx (tupI xs) (.int i) S = .ok (.int x) S := by
  subst hi
  simp [opIx, dicOf, opIx0, tupI, itemsOf, atI_nat (xs.map D.int) k (.int x) (by simp [h])]
theorem sl_tupI (xs : List Int) (lo hi : Option Int) : opSl (tupI xs) lo hi S = .ok (tupI (cutD xs lo hi)) S := by
  simp [opSl, tupI, cutD, List.map_take, List.map_drop]
theorem cut_hi (xs : List Int) (k : Nat) : cutD xs none (some (k : Int)) = xs.take k := by
  simp only [cutD, HT.sIx_nat, HT.sIx_none, List.drop_zero, Nat.sub_zero]
  rw [List.take_eq_take_iff]
  omega
theorem cut_lo (xs : List Int) (k : Nat) : cutD xs (some (k : Int)) none = xs.drop k := by
  simp only [cutD, HT.sIx_nat, HT.sIx_none]
  rcases Nat.le_total k xs.length with h | h
  · rw [Nat.min_eq_left h, List.take_of_length_le (by simp)]
  · rw [Nat.min_eq_right h, List.drop_of_length_le (Nat.le_refl _), List.drop_of_length_le h]
    simp
theorem add_tupI (xs ys : List Int) (h : xs.length + ys.length ≤ sizeLine) : opBin .Add (tupI xs) (tupI ys) S = .ok (tupI (xs ++ ys)) S := by
  simp [opBin, tupI, h]
@[simp] theorem lt_tupI2 (xs ys : List Int) : opLt (tupI xs) (tupI ys) S = .ok (HT.lexLt xs ys) S := by
  simp [opLt, tupI]
theorem tupI_mk (xs : List Int) : D.tup (xs.map .int) = tupI xs := rfl
@[simp] theorem tupI_nil : D.tup [] = tupI [] := rfl
@[simp] theorem tupI_one (x : Int) : D.tup [.int x] = tupI [x] := rfl
end tups
/-! ### single operations -/
section ops
variable {S : Store}
@[simp] theorem b_add (i j : Int) : opBin .Add (.int i) (.int j) S = .ok (.int (i + j)) S := rfl
@[simp] theorem b_sub (i j : Int) : opBin .Sub (.int i) (.int j) S = .ok (.int (i - j)) S := rfl
@[simp] theorem b_mul (i j : Int) : opBin .Mult (.int i) (.int j) S = if mulOk i j then .ok (.int (i * j)) S else .stuck := rfl
@[simp] theorem b_fdiv (i j : Int) : opBin .FloorDiv (.int i) (.int j) S = if 0 < j ∧ j.natAbs.log2 < 9000 then .ok (.int (i / j)) S else .stuck := rfl
@[simp] theorem b_mod (i j : Int) : opBin .Mod (.int i) (.int j) S = if 0 < j then .ok (.int (i % j)) S else .stuck := rfl
@[simp] theorem b_pow (i j : Int) : opBin .Pow (.int i) (.int j) S = if powOk i j then .ok (.int (i ^ j.toNat)) S else .stuck := rfl
@[simp] theorem a_add (i j : Int) : opAug .Add (.int i) (.int j) S = .ok (.int (i + j)) S := rfl
@[simp] theorem a_sub (i j : Int) : opAug .Sub (.int i) (.int j) S = .ok (.int (i - j)) S := rfl
@[simp] theorem u_neg (i : Int) : opUn .USub (.int i) S = .ok (.int (-i)) S := rfl
@[simp] theorem c_eq (x y : D) : opCmp .Eq x y S = opEq x y S := rfl
@[simp] theorem c_ne (x y : D) : opCmp .NotEq x y S = (opEq x y S).map not := rfl
@[simp] theorem c_lt (i j : Int) : opCmp .Lt (.int i) (.int j) S = .ok (decide (i < j)) S := rfl
@[simp] theorem c_gt (i j : Int) : opCmp .Gt (.int i) (.int j) S = .ok (decide (j < i)) S := rfl
@[simp] theorem c_le (i j : Int) : opCmp .LtE (.int i) (.int j) S = .ok (decide (i ≤ j)) S := rfl
@[simp] theorem c_ge (i j : Int) : opCmp .GtE (.int i) (.int j) S = .ok (decide (j ≤ i)) S := rfl
@[simp] theorem c_ltT (xs ys : List Int) : opCmp .Lt (tupI xs) (tupI ys) S = .ok (HT.lexLt xs ys) S := lt_tupI2 xs ys
@[simp] theorem c_in (x y : D) : opCmp .In x y S = opIn x y S := rfl
@[simp] theorem c_nin (x y : D) : opCmp .NotIn x y S = (opIn x y S).map not := rfl
@[simp] theorem c_is (x y : D) : opCmp .Is x y S = opIs x y S := rfl
@[simp] theorem c_isn (x y : D) : opCmp .IsNot x y S = (opIs x y S).map not := rfl
@[simp] theorem is_nn : opIs .non .non S = .ok true S := rfl
@[simp] theorem is_tn (xs : List Int) : opIs (tupI xs) .non S = .ok false S := rfl
@[simp] theorem is_int (x : Int) : opIs (.int x) .non S = .ok false S := rfl
@[simp] theorem is_bn (x : Bool) : opIs (.bl x) .non S = .ok false S := rfl
@[simp] theorem is_sn (x : Str) : opIs (.str x) .non S = .ok false S := rfl
@[simp] theorem is_bb (x y : Bool) : opIs (.bl x) (.bl y) S = .ok (decide (x = y)) S := rfl
@[simp] theorem tru_b (b : Bool) : opTru (.bl b) S = .ok b S := rfl
@[simp] theorem f_int (i : Int) : opBlt .int [.int i] S = .ok (.int i) S := rfl
@[simp] theorem f_abs (i : Int) : opBlt .abs [.int i] S = .ok (.int (if i < 0 then -i else i)) S := rfl
@[simp] theorem f_gcd (i j : Int) : opBlt .gcd [.int i, .int j] S = .ok (.int ((Nat.gcd i.natAbs j.natAbs : Nat) : Int)) S := rfl
@[simp] theorem f_min3 (i j k : Int) : opBlt .min [.int i, .int j, .int k] S = .ok (.int (min3 i j k)) S := rfl
theorem f_sumT (xs : List Int) : opBlt .sum [tupI xs] S = .ok (.int xs.sum) S := by
  show (match ints? (xs.map D.int) with | some bs => .ok (.int bs.sum) S | none => .stuck : R D) = _
  rw [ints_ints]
@[simp] theorem f_lenr (n : Nat) : opBlt .len [.ref n] S = match itemsOf S (.ref n) with | some ds => .ok (.int ds.length) S | none => match dicOf S (.ref n) with | some kvs => .ok (.int kvs.length) S | none => .stuck := rfl
@[simp] theorem f_tupr (n : Nat) : opBlt .tuple [.ref n] S = match itemsOf S (.ref n) with | some ds => .ok (.tup ds) S | none => .stuck := rfl
@[simp] theorem f_allr (n : Nat) : opBlt .all [.ref n] S = match itemsOf S (.ref n) with
    | some ds => match bls? ds with | some bs => .ok (.bl (bs.all id)) S | none => .stuck
    | none => .stuck := by
  show (match D.ref n, itemsOf S (.ref n) with
    | .tup _, _ => .stuck
    | _, some ds => match bls? ds with | some bs => .ok (.bl (bs.all id)) S | none => .stuck
    | _, none => .stuck : R D) = _
  cases itemsOf S (.ref n) <;> rfl
@[simp] theorem f_anyr (n : Nat) : opBlt .any [.ref n] S = match itemsOf S (.ref n) with
    | some ds => match bls? ds with | some bs => .ok (.bl (bs.any id)) S | none => .stuck
    | none => .stuck := by
  show (match D.ref n, itemsOf S (.ref n) with
    | .tup _, _ => .stuck
    | _, some ds => match bls? ds with | some bs => .ok (.bl (bs.any id)) S | none => .stuck
    | _, none => .stuck : R D) = _
  cases itemsOf S (.ref n) <;> rfl
@[simp] theorem f_listT (xs : List Int) : opBlt .list [tupI xs] S = newL (xs.map .int) S := by simp [opBlt]
@[simp] theorem f_listr (n : Nat) : opBlt .list [.ref n] S = match itemsOf S (.ref n) with | some ds => newL ds S | none => .stuck := rfl
@[simp] theorem items_ref (n : Nat) : itemsOf S (.ref n) = match S[n]? with
    | some (.lst ds) => some ds
    | _ => none := rfl
@[simp] theorem items_tup (ds : List D) : itemsOf S (.tup ds) = some ds := rfl
@[simp] theorem items_rol (ds : List D) : itemsOf S (.rol ds) = some ds := rfl
@[simp] theorem ix_ref (n : Nat) (i : Int) : opIx (.ref n) (.int i) S = match S[n]? with
    | some (.lst ds) => (match L2.atI ds i with | some d => .ok d S | none => .stuck)
    | some (.dic kvs) => (match valD kvs (.inl i) with | some d => .ok d S | none => .stuck)
    | _ => .stuck := by
  simp only [opIx, dicOf, opIx0, itemsOf, D.key]
  rcases S[n]? with _ | c <;> first | rfl | (cases c <;> rfl)
@[simp] theorem newL_eq (ds : List D) : newL ds S = .ok (.ref S.length) (S ++ [.lst ds]) := rfl
@[simp] theorem slc_rol (ds : List D) (lo hi : Option Int) : opSl (.rol ds) lo hi S = newL (cutD ds lo hi) S := rfl
@[simp] theorem slc_ref (n : Nat) (lo hi : Option Int) : opSl (.ref n) lo hi S = match S[n]? with
    | some (.lst ds) => newL (cutD ds lo hi) S
    | _ => .stuck := rfl
@[simp] theorem set_ref (n : Nat) (k : Int) (v : D) : opSet (.ref n) (.int k) v S = match S[n]? with
    | some (.lst ds) => (match L2.ixN ds.length k with
      | some j => .ok () (S.set n (.lst (ds.set j v)))
      | none => .stuck)
    | some (.dic kvs) => if kvs.length < sizeLine then .ok () (S.set n (.dic (putD kvs (.inl k) v))) else .stuck
    | _ => .stuck := by
  simp only [opSet, dicOf, D.key]
  rcases S[n]? with _ | c <;> first | rfl | (cases c <;> rfl)
@[simp] theorem rcv_app (n : Nat) : rcvOk .append (.ref n) S = match S[n]? with
    | some (.lst _) => true
    | _ => false := rfl
@[simp] theorem rcv_pop (n : Nat) : rcvOk .pop (.ref n) S = match S[n]? with
    | some (.lst _) => true
    | _ => false := rfl
@[simp] theorem rcv_ext (n : Nat) : rcvOk .extend (.ref n) S = match S[n]? with
    | some (.lst _) => true
    | _ => false := rfl
@[simp] theorem rcv_join (a : Str) : rcvOk .join (.str a) S = true := rfl
@[simp] theorem rcv_split (a : Str) : rcvOk .split (.str a) S = true := rfl
@[simp] theorem rcv_partition (a : Str) : rcvOk .partition (.str a) S = true := rfl
@[simp] theorem rcv_startswith (a : Str) : rcvOk .startswith (.str a) S = true := rfl
@[simp] theorem m_app (n : Nat) (x : D) : opMth .append (.ref n) [x] S = match S[n]? with
    | some (.lst ds) => if ds.length < sizeLine then .ok .non (S.set n (.lst (ds ++ [x]))) else .stuck
    | _ => .stuck := by
  simp only [opMth]
  try (rcases S[n]? with _ | c <;> first | rfl | (cases c <;> rfl))
@[simp] theorem ty_non (t : Ty) : isTy .non t S = some false := rfl
@[simp] theorem ty_int (i : Int) (t : Ty) : isTy (.int i) t S = some (match t with | .int => true | _ => false) := by cases t <;> rfl
@[simp] theorem ty_bl (i : Bool) (t : Ty) : isTy (.bl i) t S = some (match t with | .bool => true | .int => true | _ => false) := by cases t <;> rfl
@[simp] theorem ty_str (i : Str) (t : Ty) : isTy (.str i) t S = some (match t with | .str => true | _ => false) := by cases t <;> rfl
@[simp] theorem ty_tup (i : List D) (t : Ty) : isTy (.tup i) t S = some (match t with | .tuple => true | _ => false) := by cases t <;> rfl
@[simp] theorem ty_tupI (i : List Int) (t : Ty) : isTy (tupI i) t S = some (match t with | .tuple => true | _ => false) := by cases t <;> rfl
end ops
end PD.PS
end

section
set_option linter.all false
/-! PDlaw: defs that many laws share (printed by gen.py from the linked texts). -/
namespace PD
open PySem
def d_is_below : Def := ⟨2, 2, (.cons (.iff (.cmp .NotEq (.blt .len (.cons (.slot 0) .nil)) (.blt .len (.cons (.slot 1) .nil))) (.cons (.ret (.cmp .Lt (.blt .len (.cons (.slot 0) .nil)) (.blt .len (.cons (.slot 1) .nil)))) .nil) .nil) (.cons (.ret (.cmp .Lt (.slot 0) (.slot 1))) .nil))⟩
def d_summed : Def := ⟨2, 3, (.cons (.iff (.cmp .Eq (.blt .len (.cons (.slot 1) .nil)) (.cst (.int 0))) (.cons (.ret (.slot 0)) .nil) .nil) (.cons (.iff (.cmp .Lt (.blt .len (.cons (.slot 0) .nil)) (.blt .len (.cons (.slot 1) .nil))) (.cons (.ret (.slot 1)) .nil) .nil) (.cons (.asg (.nm 2) (.bin .Sub (.blt .len (.cons (.slot 0) .nil)) (.blt .len (.cons (.slot 1) .nil)))) (.cons (.ret (.bin .Add (.bin .Add (.slc (.slot 0) .no (.so (.slot 2))) (.tup (.cons (.bin .Add (.ix (.slot 0) (.slot 2)) (.ix (.slot 1) (.cst (.int 0)))) .nil))) (.slc (.slot 1) (.so (.cst (.int 1))) .no))) .nil))))⟩
def d_left_over : Def := ⟨2, 3, (.cons (.iff (.call 1 (.cons (.slot 1) (.cons (.slot 0) .nil))) (.cons (.ret (.cst .non)) .nil) .nil) (.cons (.iff (.cmp .Lt (.blt .len (.cons (.slot 0) .nil)) (.blt .len (.cons (.slot 1) .nil))) (.cons (.ret (.slot 1)) .nil) .nil) (.cons (.asg (.nm 2) (.cst (.int 0))) (.cons (.whl (.and (.cmp .Lt (.slot 2) (.blt .len (.cons (.slot 0) .nil))) (.cmp .Eq (.ix (.slot 0) (.slot 2)) (.ix (.slot 1) (.slot 2)))) (.cons (.aug 2 .Add (.cst (.int 1))) .nil)) (.cons (.iff (.cmp .Eq (.slot 2) (.blt .len (.cons (.slot 0) .nil))) (.cons (.ret (.tup .nil)) .nil) .nil) (.cons (.ret (.bin .Add (.tup (.cons (.bin .Sub (.ix (.slot 1) (.slot 2)) (.ix (.slot 0) (.slot 2))) .nil)) (.slc (.slot 1) (.so (.bin .Add (.slot 2) (.cst (.int 1)))) .no))) .nil))))))⟩
def d_is_integer : Def := ⟨1, 1, (.cons (.ret (.and (.isi (.slot 0) .int) (.not (.isi (.slot 0) .bool)))) .nil)⟩
def d_is_between : Def := ⟨3, 3, (.cons (.ret (.and (.call 2 (.cons (.slot 0) .nil)) (.chn .LtE .LtE (.slot 1) (.slot 0) (.slot 2)))) .nil)⟩
def d_is_ordinal : Def := ⟨1, 2, (.cons (.iff (.or (.not (.isi (.slot 0) .tuple)) (.cmp .Gt (.blt .len (.cons (.slot 0) .nil)) (.cst (.int 16)))) (.cons (.ret (.cst (.bl false))) .nil) .nil) (.cons (.iff (.not (.blt .all (.cons (.lc (.call 3 (.cons (.slot 1) (.cons (.cst (.int 0)) (.cons (.cst (.int 9999999999999999999999999999999999999999)) .nil)))) (.nm 1) (.any (.slot 0)) .no [1]) .nil))) (.cons (.ret (.cst (.bl false))) .nil) .nil) (.cons (.ret (.or (.cmp .Eq (.blt .len (.cons (.slot 0) .nil)) (.cst (.int 0))) (.cmp .Gt (.ix (.slot 0) (.cst (.int 0))) (.cst (.int 0))))) .nil)))⟩
def d_need_ordinals : Def := ⟨1, 2, (.cons (.for_ (.nm 1) (.any (.slot 0)) (.cons (.iff (.not (.call 4 (.cons (.slot 1) .nil))) (.cons .nev .nil) .nil) .nil)) .nil)⟩
def d_bounded : Def := ⟨1, 2, (.cons (.iff (.cmp .Gt (.blt .len (.cons (.slot 0) .nil)) (.cst (.int 16))) (.cons .nev .nil) .nil) (.cons (.iff (.not (.blt .all (.cons (.lc (.cmp .LtE (.slot 1) (.cst (.int 9999999999999999999999999999999999999999))) (.nm 1) (.any (.slot 0)) .no [1]) .nil))) (.cons .nev .nil) .nil) (.cons (.ret (.slot 0)) .nil)))⟩
def d_plus : Def := ⟨2, 2, (.cons (.exp (.call 5 (.cons (.lst (.cons (.slot 0) (.cons (.slot 1) .nil))) .nil))) (.cons (.ret (.call 6 (.cons (.call 7 (.cons (.slot 0) (.cons (.slot 1) .nil))) .nil))) .nil))⟩
def d_rest : Def := ⟨2, 2, (.cons (.exp (.call 5 (.cons (.lst (.cons (.slot 0) (.cons (.slot 1) .nil))) .nil))) (.cons (.ret (.call 8 (.cons (.slot 0) (.cons (.slot 1) .nil)))) .nil))⟩
def d__law_hand : Def := ⟨1, 3, (.cons (.asg (.nm 1) (.lc (.blt .abs (.cons (.blt .int (.cons (.slot 2) .nil)) .nil)) (.nm 2) (.any (.slc (.slot 0) .no (.so (.cst (.int 63))))) .no [2])) (.cons (.ret (.lst (.cons (.slot 1) (.cons (.cst (.int 0)) (.cons (.cst (.int 0)) (.cons (.bin .Add (.cst (.int 31)) (.bin .Mult (.cst (.int 7)) (.blt .len (.cons (.slot 1) .nil)))) (.cons (.cst (.int 0)) .nil))))))) .nil))⟩
def d__law_draw : Def := ⟨2, 5, (.cons (.iff (.and (.cmp .Eq (.ix (.slot 0) (.cst (.int 2))) (.cst (.int 0))) (.cmp .Lt (.ix (.slot 0) (.cst (.int 1))) (.blt .len (.cons (.ix (.slot 0) (.cst (.int 0))) .nil)))) (.cons (.asg (.nm 3) (.ix (.ix (.slot 0) (.cst (.int 0))) (.ix (.slot 0) (.cst (.int 1))))) (.cons (.seti (.slot 0) (.cst (.int 1)) (.bin .Add (.ix (.slot 0) (.cst (.int 1))) (.cst (.int 1)))) (.cons (.seti (.slot 0) (.cst (.int 3)) (.bin .Mod (.blt .int (.cons (.bin .Add (.bin .Add (.bin .Mult (.ix (.slot 0) (.cst (.int 3))) (.cst (.int 48271))) (.slot 3)) (.cst (.int 11))) .nil)) (.cst (.int 2147483647)))) (.cons (.iff (.cmp .GtE (.slot 3) (.bin .Pow (.cst (.int 10)) (.cst (.int 18)))) (.cons (.seti (.slot 0) (.cst (.int 2)) (.slot 3)) .nil) .nil) .nil)))) .nil) (.cons (.iff (.cmp .Gt (.ix (.slot 0) (.cst (.int 2))) (.cst (.int 0))) (.cons (.asg (.nm 4) (.bin .Mod (.blt .int (.cons (.ix (.slot 0) (.cst (.int 2))) .nil)) (.slot 1))) (.cons (.seti (.slot 0) (.cst (.int 2)) (.bin .FloorDiv (.ix (.slot 0) (.cst (.int 2))) (.slot 1))) (.cons (.ret (.slot 4)) .nil))) .nil) (.cons (.seti (.slot 0) (.cst (.int 4)) (.bin .Add (.ix (.slot 0) (.cst (.int 4))) (.cst (.int 1)))) (.cons (.asg (.nm 2) (.bin .Mod (.blt .int (.cons (.bin .Mult (.blt .int (.cons (.bin .Add (.ix (.slot 0) (.cst (.int 3))) (.bin .Mult (.cst (.int 6007)) (.ix (.slot 0) (.cst (.int 4))))) .nil)) (.cst (.int 69621))) .nil)) (.cst (.int 2147483629)))) (.cons (.asg (.nm 2) (.bin .Mod (.blt .int (.cons (.bin .Mult (.slot 2) (.bin .Add (.bin .FloorDiv (.slot 2) (.cst (.int 1013))) (.cst (.int 48271)))) .nil)) (.cst (.int 2147483647)))) (.cons (.asg (.nm 2) (.bin .Mod (.blt .int (.cons (.bin .Mult (.slot 2) (.bin .Add (.bin .FloorDiv (.slot 2) (.cst (.int 2011))) (.cst (.int 16807)))) .nil)) (.cst (.int 2147483587)))) (.cons (.ret (.bin .Mod (.blt .int (.cons (.bin .FloorDiv (.slot 2) (.cst (.int 32))) .nil)) (.slot 1))) .nil)))))))⟩
def d__law_big : Def := ⟨2, 4, (.cons (.asg (.nm 2) (.cst (.int 0))) (.cons (.for_ (.nm 3) (.rng1 (.bin .Add (.cst (.int 1)) (.bin .FloorDiv (.blt .len (.cons (.blt .str (.cons (.slot 1) .nil)) .nil)) (.cst (.int 6))))) (.cons (.asg (.nm 2) (.bin .Add (.bin .Mult (.slot 2) (.bin .Pow (.cst (.int 10)) (.cst (.int 6)))) (.call 9 (.cons (.slot 0) (.cons (.bin .Pow (.cst (.int 10)) (.cst (.int 6))) .nil))))) .nil)) (.cons (.ret (.bin .Mod (.blt .int (.cons (.slot 2) .nil)) (.slot 1))) .nil)))⟩
def d__law_less : Def := ⟨2, 2, (.cons (.ret (.ife (.cmp .NotEq (.blt .len (.cons (.slot 0) .nil)) (.blt .len (.cons (.slot 1) .nil))) (.cmp .Lt (.blt .len (.cons (.slot 0) .nil)) (.blt .len (.cons (.slot 1) .nil))) (.cmp .Lt (.slot 0) (.slot 1)))) .nil)⟩
def d__law_trim : Def := ⟨1, 2, (.cons (.asg (.nm 1) (.blt .list (.cons (.slot 0) .nil))) (.cons (.whl (.and (.cmp .Gt (.blt .len (.cons (.slot 1) .nil)) (.cst (.int 0))) (.cmp .Eq (.ix (.slot 1) (.cst (.int 0))) (.cst (.int 0)))) (.cons (.asg (.nm 1) (.slc (.slot 1) (.so (.cst (.int 1))) .no)) .nil)) (.cons (.ret (.blt .tuple (.cons (.slot 1) .nil))) .nil)))⟩
def d__law_at_power : Def := ⟨2, 2, (.cons (.ret (.ife (.cmp .Lt (.slot 1) (.blt .len (.cons (.slot 0) .nil))) (.ix (.slot 0) (.bin .Sub (.bin .Sub (.blt .len (.cons (.slot 0) .nil)) (.cst (.int 1))) (.slot 1))) (.cst (.int 0)))) .nil)⟩
def d__law_made : Def := ⟨1, 2, (.cons (.ret (.call 10 (.cons (.lc (.ix (.slot 0) (.bin .Sub (.bin .Sub (.blt .len (.cons (.slot 0) .nil)) (.cst (.int 1))) (.slot 1))) (.nm 1) (.rng1 (.blt .len (.cons (.slot 0) .nil))) .no [1]) .nil))) .nil)⟩
def d__law_plus : Def := ⟨2, 5, (.cons (.iff (.cmp .Eq (.blt .len (.cons (.slot 1) .nil)) (.cst (.int 0))) (.cons (.ret (.slot 0)) .nil) .nil) (.cons (.asg (.nm 2) (.bin .Sub (.blt .len (.cons (.slot 1) .nil)) (.cst (.int 1)))) (.cons (.asg (.nm 3) (.lc (.call 11 (.cons (.slot 1) (.cons (.slot 4) .nil))) (.nm 4) (.rng1 (.slot 2)) .no [4])) (.cons (.exp (.mth .append (.slot 3) (.cons (.bin .Add (.call 11 (.cons (.slot 0) (.cons (.slot 2) .nil))) (.ix (.slot 1) (.cst (.int 0)))) .nil))) (.cons (.for_ (.nm 4) (.rng2 (.bin .Add (.slot 2) (.cst (.int 1))) (.blt .len (.cons (.slot 0) .nil))) (.cons (.exp (.mth .append (.slot 3) (.cons (.call 11 (.cons (.slot 0) (.cons (.slot 4) .nil))) .nil))) .nil)) (.cons (.ret (.call 12 (.cons (.slot 3) .nil))) .nil))))))⟩
def d__law_rest : Def := ⟨2, 7, (.cons (.iff (.call 13 (.cons (.slot 1) (.cons (.slot 0) .nil))) (.cons (.ret (.cst .non)) .nil) .nil) (.cons (.for_ (.nm 2) (.rng3 (.bin .Sub (.blt .len (.cons (.slot 1) .nil)) (.cst (.int 1))) (.un .USub (.cst (.int 1))) (-1)) (.cons (.asg (.tp (.cons (.nm 3) (.cons (.nm 4) .nil))) (.tup (.cons (.call 11 (.cons (.slot 0) (.cons (.slot 2) .nil))) (.cons (.call 11 (.cons (.slot 1) (.cons (.slot 2) .nil))) .nil)))) (.cons (.iff (.cmp .NotEq (.slot 3) (.slot 4)) (.cons (.asg (.nm 5) (.lc (.call 11 (.cons (.slot 1) (.cons (.slot 6) .nil))) (.nm 6) (.rng1 (.slot 2)) .no [6])) (.cons (.ret (.call 12 (.cons (.bin .Add (.slot 5) (.lst (.cons (.bin .Sub (.slot 4) (.slot 3)) .nil))) .nil))) .nil)) .nil) .nil))) (.cons (.ret (.tup .nil)) .nil)))⟩
def d__law_numbers : Def := ⟨3, 5, (.cons (.asg (.nm 3) (.lst .nil)) (.cons (.for_ (.nm 4) (.rng1 (.call 9 (.cons (.slot 0) (.cons (.bin .Add (.slot 1) (.cst (.int 1))) .nil)))) (.cons (.exp (.mth .append (.slot 3) (.cons (.ix (.lst (.cons (.cst (.int 0)) (.cons (.call 9 (.cons (.slot 0) (.cons (.cst (.int 4)) .nil))) (.cons (.bin .Add (.cst (.int 1)) (.call 9 (.cons (.slot 0) (.cons (.cst (.int 9)) .nil)))) (.cons (.call 14 (.cons (.slot 0) (.cons (.slot 2) .nil))) .nil))))) (.call 9 (.cons (.slot 0) (.cons (.cst (.int 4)) .nil)))) .nil))) .nil)) (.cons (.ret (.call 10 (.cons (.slot 3) .nil))) .nil)))⟩
def d__law_kept : Def := ⟨2, 3, (.cons (.iff (.or (.isi (.slot 1) .tuple) (.isi (.slot 1) .list)) (.cons (.iff (.or (.cmp .NotEq (.isi (.slot 0) .tuple) (.isi (.slot 1) .tuple)) (.cmp .NotEq (.isi (.slot 0) .list) (.isi (.slot 1) .list))) (.cons (.ret (.cst (.bl false))) .nil) .nil) (.cons (.ret (.and (.cmp .Eq (.blt .len (.cons (.slot 0) .nil)) (.blt .len (.cons (.slot 1) .nil))) (.blt .all (.cons (.lc (.call 15 (.cons (.ix (.slot 0) (.slot 2)) (.cons (.ix (.slot 1) (.slot 2)) .nil))) (.nm 2) (.rng1 (.blt .len (.cons (.slot 1) .nil))) .no [2]) .nil)))) .nil)) .nil) (.cons (.iff (.cmp .Is (.slot 1) (.cst .non)) (.cons (.ret (.cmp .Is (.slot 0) (.cst .non))) .nil) .nil) (.cons (.iff (.isi (.slot 1) .bool) (.cons (.ret (.ife (.slot 1) (.cmp .Is (.slot 0) (.cst (.bl true))) (.cmp .Is (.slot 0) (.cst (.bl false))))) .nil) .nil) (.cons (.iff (.isi (.slot 1) .int) (.cons (.ret (.and (.isi (.slot 0) .int) (.and (.not (.isi (.slot 0) .bool)) (.cmp .Eq (.slot 0) (.slot 1))))) .nil) .nil) (.cons (.ret (.and (.isi (.slot 0) .str) (.cmp .Eq (.slot 0) (.slot 1)))) .nil)))))⟩
end PD
end

section
set_option linter.all false
set_option maxRecDepth 100000
set_option maxHeartbeats 1000000
/-! PDhand: the hand from which the laws draw. -/
namespace PD.PS
open PySem
/-- a hand's state -/
structure Hs where
  sl : List Int
  cs : List Int
  i : Nat
  l : Int
  m : Int
  k : Int
def hS (h : Hs) (G : Store) : Store := .lst (h.sl.map .int) :: .lst (h.cs.map .int) :: .lst [.ref 1, .int h.i, .int h.l, .int h.m, .int h.k] :: G
@[simp] theorem hS_len (h : Hs) (G : Store) : (hS h G).length = G.length + 3 := rfl
@[simp] theorem hS_app (h : Hs) (G G' : Store) : hS h G ++ G' = hS h (G ++ G') := rfl
theorem hS_take (h : Hs) (G : Store) (n : Nat) : (hS h G).take (n + 3) = hS h (G.take n) := rfl
@[simp high] theorem hS_get (h : Hs) (G : Store) (n : Nat) : (hS h G)[n + 3]? = G[n]? := rfl
@[simp high] theorem hS_set (h : Hs) (G : Store) (n : Nat) (c : Cell) : (hS h G).set (n + 3) c = hS h (G.set n c) := rfl
@[simp high] theorem get_len (G G' : Store) (c : Cell) : (G ++ c :: G')[G.length]? = some c := by simp
@[simp high] theorem set_len (G G' : Store) (c x : Cell) : (G ++ c :: G').set G.length x = G ++ x :: G' := by
  rw [List.set_append_right _ _ (Nat.le_refl _)]
  simp
theorem gcS_hand (h h' : Hs) (G : Store) (d : D) : gcS (hS h G) d (hS h' G) = hS h' G := by
  unfold gcS
  split
  · exact List.take_of_length_le (by simp)
  · rfl
theorem gcS_hand2 (h h' : Hs) (G G' : Store) (d : D) : ∃ G2, gcS (hS h G) d (hS h' (G ++ G')) = hS h' (G ++ G2) := by
  unfold gcS
  split
  · exact ⟨[], by simp [hS_take]⟩
  · exact ⟨G', rfl⟩
theorem call_hand {T : Tab} {n f : Nat} {d : Def} {xs : List D} {h h' : Hs} {G G' : Store} {v : D} (hT : T f = some d) (hl : xs.length = d.np) (hr : exTs (callN T n) d.body (xs.map some ++ List.replicate (d.ns - xs.length) none) (hS h G) = .rt v (hS h' (G ++ G'))) : ∃ G2, callN T (n + 1) f xs (hS h G) = .ok v (hS h' (G ++ G2)) := by
  rw [call_rt hT hl hr]
  obtain ⟨G2, e⟩ := gcS_hand2 h h' G G' v
  exact ⟨G2, by rw [e]⟩
theorem call_hand0 {T : Tab} {n f : Nat} {d : Def} {xs : List D} {h h' : Hs} {G : Store} {v : D} (hT : T f = some d) (hl : xs.length = d.np) (hr : exTs (callN T n) d.body (xs.map some ++ List.replicate (d.ns - xs.length) none) (hS h G) = .rt v (hS h' G)) : callN T (n + 1) f xs (hS h G) = .ok v (hS h' G) := by
  rw [call_rt hT hl hr, gcS_hand]

theorem mulOk_r {i j : Int} (h : j.natAbs < 2 ^ 63) : mulOk i j = true := by simp [mulOk, h]
theorem mulOk_l {i j : Int} (h : i.natAbs < 2 ^ 63) : mulOk i j = true := by simp [mulOk, h]
theorem powOk_lit {i j : Int} (h : powOk i j = true) : powOk i j = true := h
theorem log2_lt {m : Int} (h : m < 10 ^ 50) (h0 : 0 < m) : m.natAbs.log2 < 9000 := by
  have : m.natAbs ≠ 0 := by omega
  rw [Nat.log2_lt this]
  have h1 : m.natAbs < 10 ^ 50 := by omega
  exact Nat.lt_trans h1 (by decide)

theorem mulOk_emod (x y k : Int) (h0 : 0 < k) (h1 : k < 9223372036854775808) : mulOk (x % k) y = true := by
  have h2 := Int.emod_nonneg x (by omega : k ≠ 0)
  have h3 := Int.emod_lt_of_pos x h0
  exact mulOk_l (by omega)
/-- what is mixed where nothing is left -/
def mixN (m k : Int) : Int :=
  let a := (m + 6007 * k) * 69621 % 2147483629
  let b := a * (a / 1013 + 48271) % 2147483647
  (b * (b / 2011 + 16807) % 2147483587) / 32
/-- the statements of draw behind the first one -/
def drawRest : Ts := match d__law_draw.body with
  | .cons _ r => r
  | .nil => .nil
theorem draw_rest {F : Fn} (h : Hs) (G : Store) (m : Int) (h0 : 0 < m) (h1 : m.natAbs.log2 < 9000) (a b c : Option D) :
    ∃ d h', 0 ≤ d ∧ d < m ∧ exTs F drawRest [some (.ref 2), some (.int m), a, b, c] (hS h G) = .rt (.int d) (hS h' G) := by
  by_cases hl : 0 < h.l
  · refine ⟨h.l % m, ⟨h.sl, h.cs, h.i, h.l / m, h.m, h.k⟩, Int.emod_nonneg _ (by omega), Int.emod_lt_of_pos _ h0, ?_⟩
    simp [drawRest, d__law_draw, hS, L2.atI, L2.ixN, hl, h0, h1]
  · refine ⟨mixN h.m (h.k + 1) % m, ⟨h.sl, h.cs, h.i, h.l, h.m, h.k + 1⟩, Int.emod_nonneg _ (by omega), Int.emod_lt_of_pos _ h0, ?_⟩
    have e1 : ∀ x : Int, mulOk x 69621 = true := fun x => mulOk_r (by decide)
    have e2 : ∀ x : Int, mulOk 6007 x = true := fun x => mulOk_l (by decide)
    simp [drawRest, d__law_draw, hS, L2.atI, L2.ixN, hl, h0, h1, e1, e2, mulOk_emod, mixN, (by decide : Nat.log2 1013 < 9000), (by decide : Nat.log2 2011 < 9000), (by decide : Nat.log2 32 < 9000)]
theorem draw_spec {T : Tab} (hT : T 9 = some d__law_draw) {n : Nat} (h : Hs) (G : Store) (m : Int) (h0 : 0 < m) (h1 : m < 10 ^ 50) :
    ∃ d h', 0 ≤ d ∧ d < m ∧ callN T (n + 1) 9 [.ref 2, .int m] (hS h G) = .ok (.int d) (hS h' G) := by
  have hl := log2_lt h1 h0
  have key : ∃ d h', 0 ≤ d ∧ d < m ∧ exTs (callN T n) d__law_draw.body [some (.ref 2), some (.int m), none, none, none] (hS h G) = .rt (.int d) (hS h' G) := by
    have e0 : d__law_draw.body = .cons (match d__law_draw.body with | .cons x _ => x | .nil => .pas) drawRest := rfl
    by_cases hz : h.l = 0 ∧ h.i < h.cs.length
    · obtain ⟨hz, hi⟩ := hz
      obtain ⟨sl, cs, i, l, mm, k⟩ := h
      simp only at hz hi
      subst hz
      obtain ⟨c, hc⟩ : ∃ c, cs[i] = c := ⟨_, rfl⟩
      by_cases hg : 1000000000000000000 ≤ c
      · obtain ⟨d, h', p1, p2, p3⟩ := draw_rest (F := callN T n) ⟨sl, cs, i + 1, c, (mm * 48271 + c + 11) % 2147483647, k⟩ G m h0 hl none (some (.int c)) none
        refine ⟨d, h', p1, p2, ?_⟩
        rw [e0, xs_cons, ← p3]
        have e1 : ∀ x : Int, mulOk x 48271 = true := fun x => mulOk_r (by decide)
        simp [d__law_draw, hS, L2.atI, L2.ixN, e1, hi, hc, hg, powOk, opEq_int]
      · obtain ⟨d, h', p1, p2, p3⟩ := draw_rest (F := callN T n) ⟨sl, cs, i + 1, 0, (mm * 48271 + c + 11) % 2147483647, k⟩ G m h0 hl none (some (.int c)) none
        refine ⟨d, h', p1, p2, ?_⟩
        rw [e0, xs_cons, ← p3]
        have e1 : ∀ x : Int, mulOk x 48271 = true := fun x => mulOk_r (by decide)
        simp [d__law_draw, hS, L2.atI, L2.ixN, e1, hi, hc, hg, powOk, opEq_int]
    · obtain ⟨d, h', p1, p2, p3⟩ := draw_rest (F := callN T n) h G m h0 hl none none none
      refine ⟨d, h', p1, p2, ?_⟩
      rw [e0, xs_cons, ← p3]
      by_cases hz1 : h.l = 0
      · have hz2 : ¬ h.i < h.cs.length := fun x => hz ⟨hz1, x⟩
        simp [d__law_draw, hS, L2.atI, L2.ixN, hz1, hz2]
      · simp [d__law_draw, hS, L2.atI, L2.ixN, hz1]
  obtain ⟨d, h', p1, p2, p3⟩ := key
  exact ⟨d, h', p1, p2, call_hand0 hT rfl p3⟩
end PD.PS
end

section
set_option linter.all false
set_option maxRecDepth 100000
set_option maxHeartbeats 1000000
/-! PDhand2: what the laws draw: great numbers, trimmed rows, ordinals. -/
namespace PD.PS
open PySem
theorem sat_thn {o : Out} {f : Env → Store → Out} {N N' : Env → Store → Prop} {Q : D → Store → Prop} (h : o.sat N Q) (hf : ∀ e S, N e S → (f e S).sat N' Q) : (o.thn f).sat N' Q := by
  cases o <;> simp only [Out.sat] at h
  · exact hf _ _ h
  · exact h
theorem sat_rt {o : Out} {Q : D → Store → Prop} (h : o.sat (fun _ _ => False) Q) : ∃ d S, o = .rt d S ∧ Q d S := by
  cases o <;> simp only [Out.sat] at h
  exact ⟨_, _, rfl, h⟩
theorem sat_rtI {o : Out} {N : Env → Store → Prop} {Q : D → Store → Prop} {d : D} {S : Store} (h : o = .rt d S) (hQ : Q d S) : o.sat N Q := by subst h; exact hQ
theorem sat_nxI {o : Out} {N : Env → Store → Prop} {Q : D → Store → Prop} {e : Env} {S : Store} (h : o = .nx e S) (hQ : N e S) : o.sat N Q := by subst h; exact hQ
theorem satB_nx {o : Out} {N B : Env → Store → Prop} {Q : D → Store → Prop} {e : Env} {S : Store} (h : o = .nx e S) (hQ : N e S) : o.satB N B Q := by subst h; exact hQ
theorem satB_rt {o : Out} {N B : Env → Store → Prop} {Q : D → Store → Prop} {d : D} {S : Store} (h : o = .rt d S) (hQ : Q d S) : o.satB N B Q := by subst h; exact hQ
theorem for_sat {F : Fn} {t : Tg} {s : I} {b : Ts} {env : Env} {S S' : Store} {items : List D} {N : Env → Store → Prop} {Q : D → Store → Prop}
    (hs : evI F env s S = .ok (.st items) S') (hl : items.length ≤ sizeLine) (I : Nat → Env → Store → Prop) (h0 : I 0 env S')
    (step : ∀ i d env S, items[i]? = some d → I i env S → ∃ env1, asgT S t d env = some env1 ∧ (exTs F b env1 S).satB (I (i + 1)) N Q)
    (fin : ∀ env S, I items.length env S → N env S) : (exT F (.for_ t s b) env S).sat N Q := by
  rw [x_for, hs, R.out_ok]
  exact forGo_st I N Q step fin wmax 0 env S' (Nat.zero_le _) (by have := wmax_lt hl; omega) h0
theorem whl_sat {F : Fn} {c : E} {b : Ts} {env : Env} {S : Store} {N : Env → Store → Prop} {Q : D → Store → Prop}
    (I : Nat → Env → Store → Prop) (m : Nat) (hm : m ≤ sizeLine) (h0 : I m env S)
    (step : ∀ m env S, I m env S → (∃ S', evT F env c S = .ok false S' ∧ N env S') ∨ (∃ S', evT F env c S = .ok true S' ∧ (exTs F b env S').satB (fun e S => ∃ m', m' < m ∧ I m' e S) N Q)) :
    (exT F (.whl c b) env S).sat N Q := by
  rw [x_whl]
  exact whlGo_sat I N Q step wmax m env S (wmax_lt hm) h0
theorem f_str (i : Int) (S : Store) (h : i.natAbs.log2 < 1920) : opBlt .str [.int i] S = .ok (.str (toString i)) S := by simp only [opBlt, h, if_true]
theorem f_lens (s : Str) (S : Store) (h : s.length ≤ sizeLine) : opBlt .len [.str s] S = .ok (.int s.length) S := by simp only [opBlt, h, if_true]
def lenStr (m : Int) : Nat := (toString m : Str).length
theorem rng_small (k : Nat) (h : k ≤ 16777216) : rngOk (k : Int) = true := by
  simp only [rngOk, Bool.and_eq_true, decide_eq_true_eq]
  omega
theorem six_ok : (0 : Int) < 6 ∧ (6 : Int).natAbs.log2 < 9000 := ⟨by decide, by decide⟩
theorem fdiv6 (x : Int) (S : Store) : opBin .FloorDiv (.int x) (.int 6) S = .ok (.int (x / 6)) S := by
  rw [b_fdiv, if_pos six_ok]
theorem rngE (k : Nat) (h : k ≤ 600) (S : Store) : (match D.int (1 + (k : Int) / 6) with
    | .int j => if rngOk j then .ok (.st (rangeD 0 1 j.toNat)) S else .stuck
    | _ => .stuck : R Src) = .ok (.st (rangeD 0 1 (1 + k / 6))) S := by
  have e2 : (1 + ((k : Nat) : Int) / 6) = ((1 + k / 6 : Nat) : Int) := by omega
  have e3 : rngOk ((1 + k / 6 : Nat) : Int) = true := rng_small _ (by omega)
  rw [e2]
  show (if rngOk ((1 + k / 6 : Nat) : Int) then _ else _) = _
  rw [e3, Int.toNat_natCast]
  rfl
theorem lenE (F : Fn) (m : Int) (S : Store) (h1 : m.natAbs.log2 < 1920) (s : Str) (hs : s = toString m) (hl2 : s.length ≤ sizeLine) : evE F [some (.ref 2), some (.int m), some (.int 0), none] (.bin .Add (.cst (.int 1)) (.bin .FloorDiv (.blt .len (.cons (.blt .str (.cons (.slot 1) .nil)) .nil)) (.cst (.int 6)))) S = .ok (.int (1 + (s.length : Int) / 6)) S := by
  simp only [e_bin, e_cst, e_blt, es_cons, es_nil, e_slot, List.getElem?_cons_succ, List.getElem?_cons_zero, R.bind_ok, f_str m _ h1, f_lens _ _ (hs ▸ hl2)]
  rw [← hs, fdiv6]
  rfl
theorem big_spec {T : Tab} (hT : T 9 = some d__law_draw) (hB : T 14 = some d__law_big) {n : Nat} (h : Hs) (G : Store) (m : Int) (h0 : 0 < m) (h1 : m.natAbs.log2 < 1920) (h2 : lenStr m ≤ 600) :
    ∃ d h', 0 ≤ d ∧ d < m ∧ callN T (n + 2) 14 [.ref 2, .int m] (hS h G) = .ok (.int d) (hS h' G) := by
  have key : (exTs (callN T (n + 1)) d__law_big.body [some (.ref 2), some (.int m), none, none] (hS h G)).sat (fun _ _ => False) (fun v S => ∃ d h', 0 ≤ d ∧ d < m ∧ v = .int d ∧ S = hS h' G) := by
    have hls : (toString m : Str).length ≤ sizeLine := Nat.le_trans h2 (by decide)
    simp only [d__law_big, xs_cons]
    simp only [x_asg, e_cst, R.out_ok, g_nm, List.set_cons_succ, List.set_cons_zero, Out.thn_nx]
    refine sat_thn (N := fun e S => ∃ f t h', e = [some (.ref 2), some (.int m), some (.int f), t] ∧ S = hS h' G)
      (for_sat (items := rangeD 0 1 (1 + lenStr m / 6)) (S' := hS h G) ?_ ?_ (fun _ e S => ∃ f t h', e = [some (.ref 2), some (.int m), some (.int f), t] ∧ S = hS h' G) ⟨0, none, h, rfl, rfl⟩ ?_ ?_) ?_
    · rw [i_rng1, lenE _ m _ h1 _ rfl hls, R.bind_ok]
      exact rngE _ h2 _
    · simp; unfold sizeLine; omega
    · rintro i d env S hd ⟨f, t, h', rfl, rfl⟩
      obtain ⟨x, h'', x0, x1, hx⟩ := draw_spec hT (n := n) h' G 1000000 (by decide) (by decide)
      refine ⟨_, g_nm _ _, satB_nx (e := _) (S := hS h'' G) ?_ ⟨f * 1000000 + x, some d, h'', rfl, rfl⟩⟩
      simp [powOk, mulOk_r, hx]
    · rintro env S ⟨f, t, h', rfl, rfl⟩
      exact ⟨f, t, h', rfl, rfl⟩
    · rintro env S ⟨f, t, h', rfl, rfl⟩
      refine sat_rtI (d := .int (f % m)) (S := hS h' G) ?_ ⟨f % m, h', Int.emod_nonneg _ (by omega), Int.emod_lt_of_pos _ h0, rfl, rfl⟩
      simp [h0]
  obtain ⟨v, S, e, d, h', p0, p1, rfl, rfl⟩ := sat_rt key
  exact ⟨d, h', p0, p1, call_hand0 hB rfl e⟩
/-- a row without noughts ahead -/
def trimI (xs : List Int) : List Int := xs.dropWhile (· == 0)
theorem trim_spec {T : Tab} (hT : T 10 = some d__law_trim) {n : Nat} (S : Store) (c : Nat) (xs : List Int) (hc : S[c]? = some (.lst (xs.map .int))) (hl : xs.length ≤ sizeLine) :
    callN T (n + 1) 10 [.ref c] S = .ok (tupI (trimI xs)) S := by
  have key : (exTs (callN T n) d__law_trim.body [some (.ref c), none] S).sat (fun _ _ => False) (fun v S' => v = tupI (trimI xs) ∧ ∃ G, S' = S ++ G) := by
    simp only [d__law_trim, xs_cons]
    simp only [x_asg, e_blt, es_cons, es_nil, e_slot, List.getElem?_cons_zero, R.bind_ok, f_listr, items_ref, hc, newL_eq, R.out_ok, g_nm, List.set_cons_succ, List.set_cons_zero, Out.thn_nx]
    refine sat_thn (N := fun e S' => ∃ r G, e = [some (.ref c), some (.ref r)] ∧ S' = S ++ G ∧ S'[r]? = some (.lst ((trimI xs).map .int)))
      (whl_sat (fun m e S' => ∃ r G ys, e = [some (.ref c), some (.ref r)] ∧ S' = S ++ G ∧ S'[r]? = some (.lst (List.map .int ys)) ∧ ys.length = m ∧ trimI ys = trimI xs) xs.length hl ⟨S.length, _, xs, rfl, rfl, by simp, rfl, rfl⟩ ?_) ?_
    · rintro m env S' ⟨r, G, ys, rfl, rfl, hr, rfl, ht⟩
      cases ys with
      | nil =>
        left
        refine ⟨S ++ G, ?_, r, G, rfl, rfl, ?_⟩
        · simp [hr]
        · rw [hr, ← ht]; rfl
      | cons y ys =>
        by_cases hy : y = 0
        · right
          subst hy
          refine ⟨S ++ G, by simp [hr, L2.atI, L2.ixN], satB_nx (e := [some (.ref c), some (.ref (S ++ G).length)]) (S := S ++ G ++ [.lst (ys.map .int)]) ?_ ⟨ys.length, by simp, (S ++ G).length, G ++ [.lst (ys.map .int)], ys, rfl, by simp, by simp, rfl, ?_⟩⟩
          · simp [hr, cutD, HT.sIx, List.take_of_length_le]
          · rw [← ht]; simp [trimI]
        · left
          refine ⟨S ++ G, by simp [hr, L2.atI, L2.ixN, hy], r, G, rfl, rfl, ?_⟩
          rw [hr, ← ht]
          simp [trimI, hy]
    · rintro env S' ⟨r, G, rfl, rfl, hr⟩
      refine sat_rtI (d := tupI (trimI xs)) (S := S ++ G) ?_ ⟨rfl, G, rfl⟩
      simp [hr, tupI]
  obtain ⟨v, S', e, rfl, G, rfl⟩ := sat_rt key
  exact call_pure hT rfl (lt_tupI _ _) e
end PD.PS
end

section
set_option linter.all false
set_option maxRecDepth 100000
set_option maxHeartbeats 1000000
/-! PDhand3: drawn ordinals. -/
namespace PD.PS
open PySem
@[simp high] theorem get_len2 (G G' G2 : Store) (a c : Cell) : (G ++ a :: (G' ++ c :: G2))[G.length + (G'.length + 1)]? = some c := by
  rw [List.getElem?_append_right (by omega)]
  simp
theorem rng1_sat {F : Fn} {env : Env} {e : E} {S S' : Store} {k : Int} (h : evE F env e S = .ok (.int k) S') (hk : k ≤ 16777216) (h0 : -16777216 ≤ k) : evI F env (.rng1 e) S = .ok (.st (rangeD 0 1 k.toNat)) S' := by
  rw [i_rng1, h, R.bind_ok]
  show (if rngOk k then _ else _) = _
  rw [show rngOk k = true by simp only [rngOk, Bool.and_eq_true, decide_eq_true_eq]; omega]
  rfl
/-- no nought ahead -/
def noNought (xs : List Int) : Prop := xs.head? ≠ some 0
theorem trimI_ok : ∀ xs : List Int, noNought (trimI xs)
  | [] => by simp [trimI, noNought]
  | x :: xs => by
    by_cases h : x = 0
    · subst h; simpa [trimI] using trimI_ok xs
    · simp [trimI, noNought, h]
theorem trimI_mem {xs : List Int} {x : Int} (h : x ∈ trimI xs) : x ∈ xs := (List.dropWhile_sublist _).subset h
theorem trimI_len (xs : List Int) : (trimI xs).length ≤ xs.length := (List.dropWhile_sublist _).length_le
theorem trimI_id : ∀ {xs : List Int}, noNought xs → trimI xs = xs
  | [], _ => rfl
  | x :: xs, h => by
    have : x ≠ 0 := fun e => h (by simp [e])
    simp [trimI, this]
theorem numbers_spec {T : Tab} (hT : T 9 = some d__law_draw) (hB : T 14 = some d__law_big) (hR : T 10 = some d__law_trim) (hN : T 17 = some d__law_numbers) {n : Nat} (h : Hs) (G : Store) (many great B : Int)
    (m0 : 0 ≤ many) (m1 : many ≤ 1000) (g0 : 0 < great) (g1 : great.natAbs.log2 < 1920) (g2 : lenStr great ≤ 600) (hb : great ≤ B) (hb2 : 10 ≤ B) :
    ∃ xs h' G', (xs.length : Int) ≤ many ∧ noNought xs ∧ (∀ x ∈ xs, 0 ≤ x ∧ x < B) ∧ callN T (n + 3) 17 [.ref 2, .int many, .int great] (hS h G) = .ok (tupI xs) (hS h' (G ++ G')) := by
  obtain ⟨k, h1, k0, k1, hk⟩ := draw_spec hT (n := n + 1) h (G ++ [.lst []]) (many + 1) (by omega) (by omega)
  have key : (exTs (callN T (n + 2)) d__law_numbers.body [some (.ref 2), some (.int many), some (.int great), none, none] (hS h G)).sat (fun _ _ => False) (fun v S => ∃ xs h' G', (xs.length : Int) ≤ many ∧ noNought xs ∧ (∀ x ∈ xs, 0 ≤ x ∧ x < B) ∧ v = tupI xs ∧ S = hS h' (G ++ G')) := by
    simp only [d__law_numbers, xs_cons]
    simp only [x_asg, e_lst, es_nil, R.bind_ok, newL_eq, R.out_ok, g_nm, List.set_cons_succ, List.set_cons_zero, Out.thn_nx, List.length_nil, Nat.zero_le, if_true, hS_len, hS_app]
    refine sat_thn (N := fun e S => ∃ (fs : List Int) (t : Option D) (h' : Hs) (G' : Store), e = [some (.ref 2), some (.int many), some (.int great), some (.ref (G.length + 3)), t] ∧ S = hS h' (G ++ .lst (fs.map .int) :: G') ∧ (fs.length : Int) ≤ many ∧ ∀ x ∈ fs, 0 ≤ x ∧ x < B)
      (for_sat (items := rangeD 0 1 k.toNat) (S' := hS h1 (G ++ [.lst []])) (rng1_sat ?_ (by omega) (by omega)) (by simp; unfold sizeLine; omega) (fun i e S => ∃ (fs : List Int) (t : Option D) (h' : Hs) (G' : Store), e = [some (.ref 2), some (.int many), some (.int great), some (.ref (G.length + 3)), t] ∧ S = hS h' (G ++ .lst (List.map .int fs) :: G') ∧ fs.length = i ∧ ∀ x ∈ fs, 0 ≤ x ∧ x < B) ⟨[], none, h1, [], rfl, rfl, rfl, by simp⟩ ?_ ?_) ?_
    · simp [hk]
    · rintro i d env S hd ⟨fs, t, h', G', rfl, rfl, hl, hx⟩
      have hi : i < k.toNat := by
        simp at hd; omega
      obtain ⟨d1, h2, a0, a1, e1⟩ := draw_spec hT (n := n + 1) h' (G ++ .lst (fs.map .int) :: G') 4 (by decide) (by decide)
      obtain ⟨d2, h3, b0, b1, e2⟩ := draw_spec hT (n := n + 1) h2 (G ++ .lst (fs.map .int) :: G') 9 (by decide) (by decide)
      obtain ⟨d3, h4, c0, c1, e3⟩ := big_spec hT hB (n := n) h3 (G ++ .lst (fs.map .int) :: G') great g0 g1 g2
      obtain ⟨d4, h5, f0, f1, e4⟩ := draw_spec hT (n := n + 1) h4 (G ++ .lst (fs.map .int) :: (G' ++ [.lst [.int 0, .int d1, .int (1 + d2), .int d3]])) 4 (by decide) (by decide)
      have hsz : fs.length < 16777216 := by omega
      obtain ⟨y, hy, hy0, hy1⟩ : ∃ y, L2.atI [D.int 0, .int d1, .int (1 + d2), .int d3] d4 = some (.int y) ∧ 0 ≤ y ∧ y < B := by
        rcases (by omega : d4 = 0 ∨ d4 = 1 ∨ d4 = 2 ∨ d4 = 3) with rfl | rfl | rfl | rfl
        · exact ⟨0, by simp [L2.atI, L2.ixN], by omega, by omega⟩
        · exact ⟨d1, by simp [L2.atI, L2.ixN], by omega, by omega⟩
        · exact ⟨1 + d2, by simp [L2.atI, L2.ixN], by omega, by omega⟩
        · exact ⟨d3, by simp [L2.atI, L2.ixN], by omega, by omega⟩
      refine ⟨_, g_nm _ _, satB_nx (e := [some (.ref 2), some (.int many), some (.int great), some (.ref (G.length + 3)), some d]) (S := hS h5 (G ++ .lst ((fs ++ [y]).map .int) :: (G' ++ [.lst [.int 0, .int d1, .int (1 + d2), .int d3]]))) ?_ ⟨fs ++ [y], some d, h5, _, rfl, rfl, by simp [hl], ?_⟩⟩
      · simp [e1, e2, e3, e4, hy, hsz, sizeLine]
      · intro x hx'
        simp at hx'
        rcases hx' with hx' | rfl
        · exact hx x hx'
        · exact ⟨hy0, hy1⟩
    · rintro env S ⟨fs, t, h', G', rfl, rfl, hl, hx⟩
      refine ⟨fs, t, h', G', rfl, rfl, ?_, hx⟩
      simp at hl
      omega
    · rintro env S ⟨fs, t, h', G', rfl, rfl, hl, hx⟩
      have ht := trim_spec hR (n := n + 1) (hS h' (G ++ .lst (fs.map .int) :: G')) (G.length + 3) fs (by simp) (by unfold sizeLine; omega)
      refine sat_rtI (d := tupI (trimI fs)) (S := hS h' (G ++ .lst (fs.map .int) :: G')) ?_ ⟨trimI fs, h', _, ?_, trimI_ok _, fun x hx' => hx x (trimI_mem hx'), rfl, rfl⟩
      · simp [ht]
      · have := trimI_len fs
        omega
  obtain ⟨v, S, e, xs, h', G', p1, p2, p3, rfl, rfl⟩ := sat_rt key
  obtain ⟨G2, e2⟩ := call_hand (xs := [.ref 2, .int many, .int great]) hN rfl e
  exact ⟨xs, h', G2, p1, p2, p3, e2⟩
end PD.PS
end

section
set_option linter.all false
set_option maxRecDepth 100000
set_option maxHeartbeats 1000000
/-! PDord: ordinals as rows of numbers; plain laws. -/
namespace PD.PS
open PySem
/-- the number of a power -/
def cO (xs : List Int) (e : Nat) : Int := xs.reverse.getD e 0
def lessO (xs ys : List Int) : Bool := if xs.length ≠ ys.length then decide (xs.length < ys.length) else HT.lexLt xs ys
def sumO (xs ys : List Int) : List Int :=
  match ys with
  | [] => xs
  | y :: t => if xs.length < ys.length then ys else xs.take (xs.length - ys.length) ++ ((xs.getD (xs.length - ys.length) 0 + y) :: t)
def diffO : List Int → List Int → List Int
  | x :: xs, y :: ys => if x = y then diffO xs ys else (y - x) :: ys
  | _, _ => []
def restO (xs ys : List Int) : Option (List Int) := if lessO ys xs then none else if xs.length < ys.length then some ys else some (diffO xs ys)
def optD : Option (List Int) → D
  | none => .non
  | some xs => tupI xs
@[simp] theorem sumO_nil (xs : List Int) : sumO xs [] = xs := rfl
theorem sumO_lt {xs ys : List Int} (h : xs.length < ys.length) : sumO xs ys = ys := by
  cases ys with
  | nil => simp at h
  | cons y t => simp [sumO] at *; intro h'; omega
theorem sumO_dec (xs1 xs2 t : List Int) (x y : Int) (h : xs2.length = t.length) : sumO (xs1 ++ x :: xs2) (y :: t) = xs1 ++ (x + y) :: t := by
  have e : (xs1 ++ x :: xs2).length - (y :: t).length = xs1.length := by simp; omega
  simp only [sumO, e]
  rw [if_neg (by simp; omega)]
  simp
theorem dec_at {xs : List Int} {c : Nat} (h : c < xs.length) : ∃ xs1 x xs2, xs = xs1 ++ x :: xs2 ∧ xs2.length = c := by
  refine ⟨xs.take (xs.length - 1 - c), xs[xs.length - 1 - c], xs.drop (xs.length - 1 - c + 1), ?_, by simp; omega⟩
  simp
theorem sumO_len (xs ys : List Int) : (sumO xs ys).length = max xs.length ys.length := by
  cases ys with
  | nil => simp
  | cons y t =>
    rcases Nat.lt_or_ge xs.length (y :: t).length with h | h
    · rw [sumO_lt h]; omega
    · obtain ⟨a, x, b, rfl, hb⟩ := dec_at (xs := xs) (c := t.length) (by simp at h; omega)
      rw [sumO_dec _ _ _ _ _ hb]
      simp; omega
theorem sumO_assoc (xs ys zs : List Int) : sumO (sumO xs ys) zs = sumO xs (sumO ys zs) := by
  cases zs with
  | nil => simp
  | cons z zt =>
    cases ys with
    | nil =>
      simp only [sumO_nil]
      rw [sumO_lt (xs := []) (ys := z :: zt) (by simp)]
    | cons y yt =>
      rcases Nat.lt_or_ge xs.length (y :: yt).length with h1 | h1
      · rw [sumO_lt h1, sumO_lt (xs := xs) (ys := sumO (y :: yt) (z :: zt))]
        rw [sumO_len]; omega
      · obtain ⟨a, x, b, rfl, hb⟩ := dec_at (xs := xs) (c := yt.length) (by simp at h1; omega)
        rw [sumO_dec _ _ _ _ _ hb]
        rcases Nat.lt_or_ge (y :: yt).length (z :: zt).length with h2 | h2
        · rw [sumO_lt h2]
          rcases Nat.lt_or_ge (a ++ x :: b).length (z :: zt).length with h3 | h3
          · rw [sumO_lt h3, sumO_lt]
            simp at *; omega
          · obtain ⟨c, w, d, e, hd⟩ := dec_at (xs := a) (c := zt.length - b.length - 1) (by simp at h2 h3; omega)
            subst e
            have e1 : c ++ w :: d ++ x :: b = c ++ w :: (d ++ x :: b) := by simp
            have e2 : c ++ w :: d ++ (x + y) :: yt = c ++ w :: (d ++ (x + y) :: yt) := by simp
            rw [e1, e2, sumO_dec, sumO_dec] <;> simp at * <;> omega
        · rcases Nat.eq_or_lt_of_le h2 with h3 | h3
          · have e1 : sumO (y :: yt) (z :: zt) = (y + z) :: zt := sumO_dec [] yt zt y z (by simp at h3; omega)
            rw [e1, sumO_dec, sumO_dec, Int.add_assoc] <;> simp at * <;> omega
          · obtain ⟨c, w, d, e, hd⟩ := dec_at (xs := yt) (c := zt.length) (by simp at h3; omega)
            subst e
            have e1 : sumO (y :: (c ++ w :: d)) (z :: zt) = y :: (c ++ (w + z) :: zt) := sumO_dec (y :: c) d zt w z hd
            have e2 : a ++ (x + y) :: (c ++ w :: d) = (a ++ (x + y) :: c) ++ w :: d := by simp
            rw [e1, e2, sumO_dec _ _ _ _ _ hd, sumO_dec]
            · simp
            · simp at *; omega
theorem lexLt_irr : ∀ xs : List Int, HT.lexLt xs xs = false
  | [] => by simp [HT.lexLt]
  | x :: xs => by simp [HT.lexLt, lexLt_irr xs]
theorem diffO_self : ∀ xs : List Int, diffO xs xs = []
  | [] => rfl
  | x :: xs => by simp [diffO, diffO_self xs]
theorem diffO_app (a t b : List Int) (x y : Int) (h : x ≠ y) : diffO (a ++ x :: b) (a ++ y :: t) = (y - x) :: t := by
  induction a with
  | nil => simp [diffO, h]
  | cons c a ih => simp [diffO, ih]
theorem lexLt_app (a t b : List Int) (x y : Int) (h : x < y) : HT.lexLt (a ++ y :: t) (a ++ x :: b) = false := by
  induction a with
  | nil => simp [HT.lexLt, show ¬ y < x by omega, show ¬ y = x by omega, show x < y by omega]
  | cons c a ih => simp [HT.lexLt, ih]
theorem restO_sumO (xs zs : List Int) (h : noNought zs) (h0 : ∀ z ∈ zs, 0 ≤ z) : restO xs (sumO xs zs) = some zs := by
  cases zs with
  | nil => simp [restO, lessO, lexLt_irr, diffO_self]
  | cons z t =>
    have hz : 0 < z := by
      have h1 := h0 z (by simp)
      have h2 : z ≠ 0 := fun e => h (by simp [e])
      omega
    rcases Nat.lt_or_ge xs.length (z :: t).length with h1 | h1
    · rw [sumO_lt h1]
      have h2 : ¬ (z :: t).length < xs.length := by omega
      simp [restO, lessO] at *
      simp [show ¬ (t.length + 1 = xs.length) by omega, h2, h1]
      omega
    · obtain ⟨a, x, b, rfl, hb⟩ := dec_at (xs := xs) (c := t.length) (by simp at h1; omega)
      rw [sumO_dec _ _ _ _ _ hb]
      have e := diffO_app a t b x (x + z) (by omega)
      have e2 := lexLt_app a t b x (x + z) (by omega)
      have e3 : x + z - x = z := by omega
      simp [restO, lessO, hb, e, e2, e3]
theorem sumO_mem {xs ys : List Int} {B C : Int} (hx : ∀ x ∈ xs, 0 ≤ x ∧ x < B) (hy : ∀ x ∈ ys, 0 ≤ x ∧ x < C) (hB : 0 ≤ B) (hC : 0 ≤ C) : ∀ x ∈ sumO xs ys, 0 ≤ x ∧ x < B + C := by
  cases ys with
  | nil => intro x h; have := hx x h; omega
  | cons y t =>
    rcases Nat.lt_or_ge xs.length (y :: t).length with h1 | h1
    · rw [sumO_lt h1]; intro x h; have := hy x h; omega
    · obtain ⟨a, x, b, rfl, hb⟩ := dec_at (xs := xs) (c := t.length) (by simp at h1; omega)
      rw [sumO_dec _ _ _ _ _ hb]
      intro w hw
      have h2 := hx x (by simp)
      have h3 := hy y (by simp)
      simp at hw
      rcases hw with hw | rfl | hw
      · have := hx w (by simp [hw]); omega
      · omega
      · have := hy w (by simp [hw]); omega
theorem sumO_head {xs ys : List Int} (hx : noNought xs) (hy : noNought ys) (h0 : ∀ x ∈ xs, 0 ≤ x) (h1 : ∀ x ∈ ys, 0 ≤ x) : noNought (sumO xs ys) := by
  cases ys with
  | nil => exact hx
  | cons y t =>
    rcases Nat.lt_or_ge xs.length (y :: t).length with h2 | h2
    · rw [sumO_lt h2]; exact hy
    · obtain ⟨a, x, b, rfl, hb⟩ := dec_at (xs := xs) (c := t.length) (by simp at h2; omega)
      rw [sumO_dec _ _ _ _ _ hb]
      cases a with
      | nil =>
        have h3 := h0 x (by simp)
        have h4 := h1 y (by simp)
        have h5 : y ≠ 0 := fun e => hy (by simp [e])
        simp [noNought]; omega
      | cons c a => simpa [noNought] using hx
end PD.PS
end

section
set_option linter.all false
set_option maxRecDepth 100000
set_option maxHeartbeats 1000000
/-! PDord2: what the program's and the laws' functions of ordinals compute. -/
namespace PD.PS
open PySem
theorem call_pure0 {T : Tab} {n f : Nat} {d : Def} {xs : List D} {S : Store} {v : D} (hT : T f = some d) (hl : xs.length = d.np) (h : exTs (callN T n) d.body (xs.map some ++ List.replicate (d.ns - xs.length) none) S = .rt v S) : callN T (n + 1) f xs S = .ok v S := by
  rw [call_rt hT hl h, gcS_self]
@[simp] theorem lt_bl (n : Nat) (b : Bool) : D.lt n (.bl b) = true := rfl
@[simp] theorem lt_int (n : Nat) (b : Int) : D.lt n (.int b) = true := rfl
@[simp] theorem lt_non (n : Nat) : D.lt n .non = true := rfl
@[simp] theorem get_end (S : Store) (c : Cell) (G : Store) : (S ++ c :: G)[S.length]? = some c := by simp
section
variable {T : Tab} {n : Nat} {S : Store}
theorem is_below_spec (hT : T 1 = some d_is_below) (xs ys : List Int) : callN T (n + 1) 1 [tupI xs, tupI ys] S = .ok (.bl (lessO xs ys)) S := by
  apply call_pure0 hT rfl
  by_cases h : xs.length = ys.length
  · simp [d_is_below, lessO, h]
  · have h2 : ¬ ((xs.length : Int) = ys.length) := by omega
    simp [d_is_below, lessO, h, h2]
theorem law_less_spec (hT : T 13 = some d__law_less) (xs ys : List Int) : callN T (n + 1) 13 [tupI xs, tupI ys] S = .ok (.bl (lessO xs ys)) S := by
  apply call_pure0 hT rfl
  by_cases h : xs.length = ys.length
  · simp [d__law_less, lessO, h]
  · have h2 : ¬ ((xs.length : Int) = ys.length) := by omega
    simp [d__law_less, lessO, h, h2]
theorem is_integer_int (hT : T 2 = some d_is_integer) (x : Int) : callN T (n + 1) 2 [.int x] S = .ok (.bl true) S := by
  apply call_pure0 hT rfl
  simp [d_is_integer]
theorem is_between_int (hT2 : T 2 = some d_is_integer) (hT : T 3 = some d_is_between) (x a b : Int) : callN T (n + 2) 3 [.int x, .int a, .int b] S = .ok (.bl (decide (a ≤ x) && decide (x ≤ b))) S := by
  apply call_pure0 hT rfl
  by_cases h : a ≤ x <;> simp [d_is_between, is_integer_int hT2, h]
/-- an ordinal -/
def OrdP (xs : List Int) : Prop := xs.length ≤ 16 ∧ noNought xs ∧ ∀ x ∈ xs, 0 ≤ x ∧ x < 10 ^ 40
theorem map_const_range {α : Type} (k : Nat) (x : α) : (List.range k).map (fun _ => x) = List.replicate k x := by
  rw [List.map_const', List.length_range]
theorem all_map_true (k : Nat) (g : Nat → Bool) (h : ∀ i, i < k → g i = true) : ((List.range k).map g).all id = true := by
  simp; exact h
theorem is_ordinal_ok (hT2 : T 2 = some d_is_integer) (hT3 : T 3 = some d_is_between) (hT : T 4 = some d_is_ordinal) (xs : List Int) (h : OrdP xs) : callN T (n + 3) 4 [tupI xs] S = .ok (.bl true) S := by
  obtain ⟨h1, h2, h3⟩ := h
  apply call_pure hT rfl (lt_bl _ _) (G := [.lst (List.map D.bl (List.replicate xs.length true))])
  have e1 : ¬ (16 < (xs.length : Int)) := by omega
  simp only [d_is_ordinal, xs_cons, x_iff, t_or, t_not, t_isi, t_cmp, e_slot, e_blt, es_cons, es_nil, e_cst, List.map_cons, List.map_nil, List.cons_append, List.nil_append, List.getElem?_cons_zero, R.bind_ok, ty_tupI, len_tupI, c_gt, e1, decide_false, R.map_ok, Bool.not_true, Bool.false_eq_true, if_false, R.out_ok, xs_nil, Out.thn_nx, t_blt]
  rw [lc_map (items := xs.map .int) (S' := S) (fun i => .bl true) (by simp [tupI]) (by simp; unfold sizeLine; omega) ?_]
  · have : xs = [] ∨ ∃ x t, xs = x :: t := by cases xs <;> simp
    rcases this with rfl | ⟨x, t, rfl⟩
    · simp [bls?]
    · have hx := h3 x (by simp)
      have hx2 : x ≠ 0 := fun e => h2 (by simp [e])
      have hx3 : 0 < x := by omega
      have e5 : (List.range (t.length + 1)).map (fun _ => D.bl true) = (List.replicate (t.length + 1) true).map D.bl := by rw [map_const_range, List.map_replicate]
      have e4 := ix_tupI (S := S ++ [.lst (List.map D.bl (List.replicate (t.length + 1) true))]) (xs := x :: t) (k := 0) (x := x) (i := 0) rfl rfl
      simp only [List.length_map, List.length_cons, e5]
      have e6 : ¬ ((t.length : Int) + 1 = 0) := by omega
      simp [e4, e6, hx3, -List.map_replicate]
  · intro i d hd
    obtain ⟨x, hx, rfl⟩ : ∃ x, xs[i]? = some x ∧ d = .int x := by
      simp at hd; obtain ⟨x, a, b⟩ := hd; exact ⟨x, a, b.symm⟩
    have := h3 x (List.mem_of_getElem? hx)
    refine ⟨_, g_nm _ _, by simp, ?_⟩
    simp [wipeE, is_between_int hT2 hT3, this.1]
    omega
theorem need_ordinals_ok (hT2 : T 2 = some d_is_integer) (hT3 : T 3 = some d_is_between) (hT4 : T 4 = some d_is_ordinal) (hT : T 5 = some d_need_ordinals) (c : Nat) (os : List (List Int)) (hc : S[c]? = some (.lst (os.map tupI))) (hl : os.length ≤ 1000) (h : ∀ o ∈ os, OrdP o) : callN T (n + 4) 5 [.ref c] S = .ok .non S := by
  have key : (exTs (callN T (n + 3)) d_need_ordinals.body [some (.ref c), none] S).sat (fun e S' => S' = S) (fun _ _ => False) := by
    simp only [d_need_ordinals, xs_cons]
    refine sat_thn (N := fun e S' => S' = S) ?_ (fun e S' h => by simpa [Out.sat] using h)
    rw [x_for, i_any, e_slot]
    simp only [List.getElem?_cons_zero, R.bind_ok, hc, R.out_ok]
    refine forGo_ls (items := os.map tupI) (fun i e S' => S' = S ∧ ∃ t, e = [some (.ref c), t]) _ _ ?_ ?_ ?_ wmax 0 _ S (Nat.zero_le _) (by simp; have := wmax_lt (n := 1000) (by decide); omega) ⟨rfl, _, rfl⟩
    · rintro i e S' ⟨rfl, _⟩; exact hc
    · rintro i d env S' hd ⟨rfl, t, rfl⟩
      obtain ⟨o, ho, rfl⟩ : ∃ o, os[i]? = some o ∧ d = tupI o := by
        simp at hd; obtain ⟨x, a, b⟩ := hd; exact ⟨x, a, b.symm⟩
      refine ⟨_, g_nm _ _, satB_nx (e := [some (.ref c), some (tupI o)]) (S := S') ?_ ⟨rfl, _, rfl⟩⟩
      simp [is_ordinal_ok hT2 hT3 hT4 o (h o (List.mem_of_getElem? ho))]
    · rintro e S' ⟨h, _⟩; exact h
  cases ho : exTs (callN T (n + 3)) d_need_ordinals.body [some (.ref c), none] S <;> simp only [ho, Out.sat] at key
  subst key
  rw [call_nx hT rfl (by exact ho), gcS_self]
theorem bounded_ok (hT : T 6 = some d_bounded) (xs : List Int) (h1 : xs.length ≤ 16) (h3 : ∀ x ∈ xs, x < 10 ^ 40) : callN T (n + 1) 6 [tupI xs] S = .ok (tupI xs) S := by
  apply call_pure hT rfl (lt_tupI _ _) (G := [.lst (List.map D.bl (List.replicate xs.length true))])
  have e1 : ¬ (16 < (xs.length : Int)) := by omega
  simp only [d_bounded, xs_cons, x_iff, t_not, t_cmp, e_slot, e_blt, es_cons, es_nil, e_cst, List.map_cons, List.map_nil, List.cons_append, List.nil_append, List.getElem?_cons_zero, R.bind_ok, len_tupI, c_gt, e1, decide_false, Bool.false_eq_true, if_false, R.out_ok, xs_nil, Out.thn_nx, t_blt]
  rw [lc_map (items := xs.map .int) (S' := S) (fun i => .bl true) (by simp [tupI]) (by simp; unfold sizeLine; omega) ?_]
  · have e5 : (List.range (xs.map D.int).length).map (fun _ => D.bl true) = (List.replicate xs.length true).map D.bl := by rw [map_const_range, List.map_replicate, List.length_map]
    rw [e5]
    simp [-List.map_replicate]
  · intro i d hd
    obtain ⟨x, hx, rfl⟩ : ∃ x, xs[i]? = some x ∧ d = .int x := by
      simp at hd; obtain ⟨x, a, b⟩ := hd; exact ⟨x, a, b.symm⟩
    have := h3 x (List.mem_of_getElem? hx)
    refine ⟨_, g_nm _ _, by simp, ?_⟩
    simp [wipeE]
    omega
theorem summed_spec (hT : T 7 = some d_summed) (xs ys : List Int) (hx : xs.length ≤ 1000) (hy : ys.length ≤ 1000) : callN T (n + 1) 7 [tupI xs, tupI ys] S = .ok (tupI (sumO xs ys)) S := by
  apply call_pure0 hT rfl
  cases ys with
  | nil => simp [d_summed]
  | cons y t =>
    rcases Nat.lt_or_ge xs.length (y :: t).length with h | h
    · have h' : (xs.length : Int) < ((y :: t).length : Int) := by omega
      rw [sumO_lt h]
      have e4 : ¬ ((t.length : Int) + 1 = 0) := by omega
      have e5 : (xs.length : Int) < (t.length : Int) + 1 := by simp at h; omega
      simp [d_summed, e4, e5]
    · have h' : ¬ (xs.length : Int) < ((y :: t).length : Int) := by omega
      obtain ⟨a, x, b, rfl, hb⟩ := dec_at (xs := xs) (c := t.length) (by simp at h; omega)
      rw [sumO_dec _ _ _ _ _ hb]
      have e1 : (((a ++ x :: b).length : Nat) : Int) - ((y :: t).length : Nat) = (a.length : Int) := by simp; omega
      have e2 := ix_tupI (S := S) (xs := a ++ x :: b) (k := a.length) (x := x) (i := a.length) rfl (by simp)
      have e3 := ix_tupI (S := S) (xs := y :: t) (k := 0) (x := y) (i := 0) rfl rfl
      have e4 : ¬ (((y :: t).length : Nat) : Int) = 0 := by simp; omega
      have e5 := cut_lo (y :: t) 1
      have e6 := add_tupI (S := S) a [x + y] (by simp at hx ⊢; unfold sizeLine; omega)
      have e7 := add_tupI (S := S) (a ++ [x + y]) t (by simp at hx hy ⊢; unfold sizeLine; omega)
      have e8 := cut_hi (a ++ x :: b) a.length
      simp only [List.take_left] at e8
      simp only [d_summed, xs_cons, x_iff, t_cmp, e_blt, es_cons, es_nil, e_slot, List.map_cons, List.map_nil, List.cons_append, List.nil_append, List.getElem?_cons_succ, List.getElem?_cons_zero, R.bind_ok, len_tupI, e_cst, c_eq, opEq_int, e4, decide_false, R.out_ok, Bool.false_eq_true, if_false, xs_nil, Out.thn_nx, c_lt, h', x_asg, e_bin, b_sub, e1, g_nm]
      simp [sl_tupI, e2, e3, e8, sizeLine]
      rw [e6]
      simp only [R.bind_ok]
      rw [show (1 : Int) = ((1 : Nat) : Int) from rfl, e5]
      simp [e7]
end
end PD.PS
end

section
set_option linter.all false
set_option maxRecDepth 100000
set_option maxHeartbeats 1000000
/-! PDord3: left_over, plus, rest and the laws' own sums. -/
namespace PD.PS
open PySem
theorem lexLt_same (ys : List Int) : ∀ xs : List Int, xs.length = ys.length → HT.lexLt ys xs = false → ∀ k : Nat, (∀ i : Nat, i < k → xs[i]? = ys[i]?) → ∀ x y, xs[k]? = some x → ys[k]? = some y → x ≠ y → x < y := by
  induction ys with
  | nil => intro xs h; simp
  | cons w t ih =>
    intro xs h hl k hk x y hx hy hne
    cases xs with
    | nil => simp at h
    | cons v u =>
      cases k with
      | zero =>
        simp at hx hy
        subst hx; subst hy
        simp [HT.lexLt, hne.symm] at hl
        omega
      | succ k =>
        have h0 := hk 0 (by omega)
        simp at h0
        subst h0
        simp [HT.lexLt] at hl
        refine ih u (by simpa using h) hl k (fun i hi => ?_) x y (by simpa using hx) (by simpa using hy) hne
        have := hk (i + 1) (by omega)
        simpa using this
theorem diffO_all : ∀ (xs ys : List Int), xs.length = ys.length → (∀ i : Nat, i < xs.length → xs[i]? = ys[i]?) → diffO xs ys = [] := by
  intro xs ys h hk
  have : xs = ys := List.ext_getElem? fun i => by
    rcases Nat.lt_or_ge i xs.length with h1 | h1
    · exact hk i h1
    · rw [List.getElem?_eq_none h1, List.getElem?_eq_none (by omega)]
  subst this
  exact diffO_self xs
theorem diffO_at : ∀ (k : Nat) (xs ys : List Int) (x y : Int), (∀ i : Nat, i < k → xs[i]? = ys[i]?) → xs[k]? = some x → ys[k]? = some y → x ≠ y → diffO xs ys = (y - x) :: ys.drop (k + 1)
  | 0, x' :: xs, y' :: ys, x, y, _, hx, hy, hne => by
    simp at hx hy
    subst hx; subst hy
    simp [diffO, hne]
  | 0, [], _, x, y, _, hx, hy, hne => by simp at hx
  | 0, _ :: _, [], x, y, _, hx, hy, hne => by simp at hy
  | k + 1, [], ys, x, y, hk, hx, hy, hne => by simp at hx
  | k + 1, _ :: _, [], x, y, hk, hx, hy, hne => by simp at hy
  | k + 1, v :: xs, w :: ys, x, y, hk, hx, hy, hne => by
    have h0 := hk 0 (by omega)
    simp at h0
    subst h0
    simp only [diffO, if_true, List.drop_succ_cons]
    exact diffO_at k xs ys x y (fun i hi => by simpa using hk (i + 1) (by omega)) (by simpa using hx) (by simpa using hy) hne
section
variable {T : Tab} {n : Nat} {S : Store}
theorem left_over_spec (hT1 : T 1 = some d_is_below) (hT : T 8 = some d_left_over) (xs ys : List Int) (hx : xs.length ≤ 1000) (hy : ys.length ≤ 1000) : callN T (n + 2) 8 [tupI xs, tupI ys] S = .ok (optD (restO xs ys)) S := by
  have key : (exTs (callN T (n + 1)) d_left_over.body [some (tupI xs), some (tupI ys), none] S).sat (fun _ _ => False) (fun v S' => S' = S ∧ v = optD (restO xs ys)) := by
    simp only [d_left_over, xs_cons, x_iff, t_call, es_cons, es_nil, e_slot, List.getElem?_cons_succ, List.getElem?_cons_zero, R.bind_ok, is_below_spec hT1, tru_b, R.out_ok]
    by_cases h1 : lessO ys xs = true
    · simp [h1, restO, optD, Out.sat]
    · by_cases h2 : xs.length < ys.length
      · have h3 : (xs.length : Int) < ys.length := by omega
        simp [h1, h3, restO, optD, h2, Out.sat]
      · have h3 : ¬ (xs.length : Int) < ys.length := by omega
        have h4 : xs.length = ys.length := by
          simp only [lessO] at h1
          by_cases h5 : ys.length = xs.length
          · exact h5.symm
          · rw [if_pos h5] at h1; simp at h1; omega
        have h5 : restO xs ys = some (diffO xs ys) := by simp [restO, h1, h2]
        rw [h5]
        simp only [Bool.not_eq_true] at h1
        simp only [h1, Bool.false_eq_true, if_false, xs_nil, Out.thn_nx, t_cmp, e_blt, es_cons, es_nil, e_slot, List.getElem?_cons_succ, List.getElem?_cons_zero, R.bind_ok, len_tupI, c_lt, h3, decide_false, R.out_ok, x_asg, e_cst, g_nm, List.set_cons_succ, List.set_cons_zero]
        refine sat_thn (N := fun e S' => S' = S ∧ ∃ k : Nat, e = [some (tupI xs), some (tupI ys), some (.int k)] ∧ k ≤ xs.length ∧ (∀ i : Nat, i < k → xs[i]? = ys[i]?) ∧ ∀ x y, xs[k]? = some x → ys[k]? = some y → x ≠ y)
          (whl_sat (fun m e S' => S' = S ∧ ∃ k : Nat, e = [some (tupI xs), some (tupI ys), some (.int k)] ∧ k + m = xs.length ∧ (∀ i : Nat, i < k → xs[i]? = ys[i]?)) xs.length (by unfold sizeLine; omega) ⟨rfl, 0, rfl, by omega, fun i hi => by omega⟩ ?_) ?_
        · rintro m e S' ⟨rfl, k, rfl, hk, hs⟩
          rcases Nat.lt_or_ge k xs.length with hl | hl
          · have hx' : xs[k]? = some xs[k] := List.getElem?_eq_getElem hl
            have hy' : ys[k]? = some ys[k] := List.getElem?_eq_getElem (by omega)
            generalize xs[k] = x at hx'
            generalize ys[k] = y at hy'
            have i1 := ix_tupI (S := S') (i := k) rfl hx'
            have i2 := ix_tupI (S := S') (i := k) rfl hy'
            by_cases he : x = y
            · right
              subst he
              refine ⟨S', by simp [hl, i1, i2], satB_nx (e := [some (tupI xs), some (tupI ys), some (.int (k + 1))]) (S := S') (by simp) ⟨m - 1, by omega, rfl, k + 1, rfl, by omega, fun i hi => ?_⟩⟩
              rcases Nat.lt_or_eq_of_le (Nat.lt_succ_iff.1 hi) with h | rfl
              · exact hs i h
              · rw [hx', hy']
            · left
              refine ⟨S', by simp [hl, i1, i2, he], rfl, k, rfl, by omega, hs, fun a b ha hb => ?_⟩
              rw [hx'] at ha; rw [hy'] at hb
              cases ha; cases hb
              exact he
          · left
            refine ⟨S', by simp [show ¬ k < xs.length by omega], rfl, k, rfl, by omega, hs, fun a b ha hb => ?_⟩
            rw [List.getElem?_eq_none hl] at ha; cases ha
        · rintro e S' ⟨rfl, k, rfl, hk, hs, hne⟩
          rcases Nat.lt_or_ge k xs.length with hl | hl
          · have hx' : xs[k]? = some xs[k] := List.getElem?_eq_getElem hl
            have hy' : ys[k]? = some ys[k] := List.getElem?_eq_getElem (by omega)
            generalize xs[k] = x at hx'
            generalize ys[k] = y at hy'
            have i1 := ix_tupI (S := S') (i := k) rfl hx'
            have i2 := ix_tupI (S := S') (i := k) rfl hy'
            have h6 : ¬ ((k : Int) = xs.length) := by omega
            have e5 := cut_lo ys (k + 1)
            have e6 := add_tupI (S := S') [y - x] (ys.drop (k + 1)) (by simp; unfold sizeLine; omega)
            refine sat_rtI (d := tupI (diffO xs ys)) (S := S') ?_ ⟨rfl, rfl⟩
            rw [diffO_at k xs ys x y hs hx' hy' (hne x y hx' hy')]
            simp [h6, i1, i2, sizeLine, sl_tupI]
            rw [show (k : Int) + 1 = ((k + 1 : Nat) : Int) from rfl, e5, e6]
            simp
          · have : k = xs.length := by omega
            refine sat_rtI (d := tupI (diffO xs ys)) (S := S') ?_ ⟨rfl, rfl⟩
            rw [diffO_all xs ys h4 (by rw [← this]; exact hs)]
            simp [this, sizeLine]
  obtain ⟨v, S', e, rfl, rfl⟩ := sat_rt key
  exact call_pure0 hT rfl e
structure Ords (T : Tab) : Prop where
  h2 : T 2 = some d_is_integer
  h3 : T 3 = some d_is_between
  h4 : T 4 = some d_is_ordinal
  h5 : T 5 = some d_need_ordinals
  h6 : T 6 = some d_bounded
  h7 : T 7 = some d_summed
theorem need2 (hT : Ords T) (xs ys : List Int) (G : Store) (hx : OrdP xs) (hy : OrdP ys) : callN T (n + 4) 5 [.ref S.length] (S ++ [.lst [tupI xs, tupI ys]]) = .ok .non (S ++ [.lst [tupI xs, tupI ys]]) :=
  need_ordinals_ok hT.h2 hT.h3 hT.h4 hT.h5 S.length [xs, ys] (by simp) (by simp) (by simp [hx, hy])
theorem plus_spec (hT : Ords T) (hP : T 18 = some d_plus) (xs ys : List Int) (hx : OrdP xs) (hy : OrdP ys) (hb : ∀ x ∈ sumO xs ys, x < 10 ^ 40) : callN T (n + 5) 18 [tupI xs, tupI ys] S = .ok (tupI (sumO xs ys)) S := by
  apply call_pure hP rfl (lt_tupI _ _) (G := [.lst [tupI xs, tupI ys]])
  have h1 := need2 (n := n) (S := S) hT xs ys [] hx hy
  have h2 := summed_spec (n := n + 3) (S := S ++ [.lst [tupI xs, tupI ys]]) hT.h7 xs ys (by have := hx.1; omega) (by have := hy.1; omega)
  have h3 := bounded_ok (n := n + 3) (S := S ++ [.lst [tupI xs, tupI ys]]) hT.h6 (sumO xs ys) (by rw [sumO_len]; have := hx.1; have := hy.1; omega) hb
  simp [d_plus, h1, h2, h3, sizeLine]
theorem rest_spec (hT : Ords T) (h1' : T 1 = some d_is_below) (h8 : T 8 = some d_left_over) (hP : T 20 = some d_rest) (xs ys : List Int) (hx : OrdP xs) (hy : OrdP ys) : callN T (n + 5) 20 [tupI xs, tupI ys] S = .ok (optD (restO xs ys)) S := by
  apply call_pure hP rfl (by cases restO xs ys <;> simp [optD]) (G := [.lst [tupI xs, tupI ys]])
  have h1 := need2 (n := n) (S := S) hT xs ys [] hx hy
  have h2 := left_over_spec (n := n + 2) (S := S ++ [.lst [tupI xs, tupI ys]]) h1' h8 xs ys (by have := hx.1; omega) (by have := hy.1; omega)
  simp [d_rest, h1, h2, sizeLine]
end
end PD.PS
end

section
set_option linter.all false
set_option maxRecDepth 100000
set_option maxHeartbeats 1000000
/-! PDord4: the laws' own sums and rests. -/
namespace PD.PS
open PySem
theorem le_sz {k : Nat} (h : k ≤ 16000000) : k ≤ sizeLine := Nat.le_trans h (by decide)
theorem lt_sz {k : Nat} (h : k < 16000000) : k < sizeLine := Nat.lt_of_lt_of_le h (by decide)
theorem cO_lt {xs : List Int} {e : Nat} (h : e < xs.length) : xs[xs.length - 1 - e]? = some (cO xs e) := by
  have h1 : xs.length - 1 - e < xs.length := by omega
  rw [List.getElem?_eq_getElem h1, cO, List.getD_eq_getElem?_getD, List.getElem?_reverse h, List.getElem?_eq_getElem h1]
  rfl
theorem cO_ge {xs : List Int} {e : Nat} (h : xs.length ≤ e) : cO xs e = 0 := by
  rw [cO, List.getD_eq_getElem?_getD, List.getElem?_eq_none (by simpa using h)]
  rfl
theorem map_cO (xs : List Int) (k : Nat) (h : k ≤ xs.length) : (List.range k).map (cO xs) = (xs.drop (xs.length - k)).reverse := by
  rw [← List.take_reverse]
  apply List.ext_getElem?
  intro i
  rcases Nat.lt_or_ge i k with h1 | h1
  · rw [List.getElem?_map, List.getElem?_range h1, List.getElem?_take_of_lt h1, List.getElem?_eq_getElem (by simp; omega)]
    simp only [Option.map_some, cO, List.getD_eq_getElem?_getD]
    rw [List.getElem?_eq_getElem (by simp; omega)]
    rfl
  · rw [List.getElem?_eq_none (by simpa using h1), List.getElem?_eq_none (by simp; omega)]
theorem rng2_sat {F : Fn} {env : Env} {a b : E} {S S1 S2 : Store} {i j : Int} (h : evE F env a S = .ok (.int i) S1) (h2 : evE F env b S1 = .ok (.int j) S2) (i0 : -16777216 ≤ i) (i1 : i ≤ 16777216) (j0 : -16777216 ≤ j) (j1 : j ≤ 16777216) :
    evI F env (.rng2 a b) S = .ok (.st (rangeD i 1 (j - i).toNat)) S2 := by
  rw [i_rng2, h, R.bind_ok, h2, R.bind_ok]
  show (if rngOk i && rngOk j then _ else _) = _
  rw [show rngOk i = true by simp only [rngOk, Bool.and_eq_true, decide_eq_true_eq]; omega, show rngOk j = true by simp only [rngOk, Bool.and_eq_true, decide_eq_true_eq]; omega]
  rfl
theorem rng3_sat {F : Fn} {env : Env} {a b : E} {S S1 S2 : Store} {i j : Int} (h : evE F env a S = .ok (.int i) S1) (h2 : evE F env b S1 = .ok (.int j) S2) (i0 : -16777216 ≤ i) (i1 : i ≤ 16777216) (j0 : -16777216 ≤ j) (j1 : j ≤ 16777216) :
    evI F env (.rng3 a b (-1)) S = .ok (.st (rangeD i (-1) (i - j).toNat)) S2 := by
  rw [i_rng3, h, R.bind_ok, h2, R.bind_ok]
  show (if rngOk i && rngOk j && decide ((-1 : Int) = -1) then _ else _) = _
  rw [show rngOk i = true by simp only [rngOk, Bool.and_eq_true, decide_eq_true_eq]; omega, show rngOk j = true by simp only [rngOk, Bool.and_eq_true, decide_eq_true_eq]; omega]
  rfl
section
variable {T : Tab} {n : Nat} {S : Store}
theorem at_power_spec (hT : T 11 = some d__law_at_power) (xs : List Int) (e : Nat) {i : Int} (hi : i = e) : callN T (n + 1) 11 [tupI xs, .int i] S = .ok (.int (cO xs e)) S := by
  subst hi
  apply call_pure0 hT rfl
  rcases Nat.lt_or_ge e xs.length with h | h
  · have h1 : (e : Int) < xs.length := by omega
    have h2 := ix_tupI (S := S) (xs := xs) (k := xs.length - 1 - e) (i := (xs.length : Int) - 1 - e) (by omega) (cO_lt h)
    simp [d__law_at_power, h, h2]
  · have h1 : ¬ (e : Int) < xs.length := by omega
    simp [d__law_at_power, h1, show ¬ e < xs.length by omega, cO_ge h]
theorem made_spec (hT : T 10 = some d__law_trim) (hM : T 12 = some d__law_made) (c : Nat) (xs : List Int) (hc : S[c]? = some (.lst (xs.map .int))) (hl : xs.length ≤ 1000000) : callN T (n + 2) 12 [.ref c] S = .ok (tupI (trimI xs.reverse)) S := by
  apply call_pure hM rfl (lt_tupI _ _) (G := [.lst (xs.reverse.map .int)])
  have ht := trim_spec hT (n := n) (S ++ [.lst (xs.reverse.map .int)]) S.length xs.reverse (by simp) (by rw [List.length_reverse]; exact le_sz (by omega))
  show exTs (callN T (n + 1)) d__law_made.body [some (.ref c), none] S = _
  simp only [d__law_made, xs_cons, x_ret, e_call, es_cons, es_nil]
  rw [lc_map (items := rangeD 0 1 xs.length) (S' := S) (fun i => .int (xs.reverse.getD i 0)) (by rw [rng1_sat (k := xs.length) (S' := S) (by simp [hc]) (by omega) (by omega)]; simp) (by rw [rangeD_len]; exact le_sz (by omega)) ?_]
  · have e5 : (List.range (rangeD 0 1 xs.length).length).map (fun i => D.int (xs.reverse.getD i 0)) = xs.reverse.map D.int := by
      rw [rangeD_len]
      have := map_cO xs xs.length (Nat.le_refl _)
      simp only [Nat.sub_self, List.drop_zero] at this
      conv => rhs; rw [← this, List.map_map]
      rfl
    rw [e5]
    simp only [R.bind_ok, ht, R.out_ok, Out.thn_rt]
  · intro i d hd
    simp at hd
    obtain ⟨hi, rfl⟩ := hd
    refine ⟨_, g_nm _ _, by simp, ?_⟩
    have h1 := atI_nat (xs.map D.int) (xs.length - 1 - i) (.int (xs.reverse.getD i 0)) (by
      have := cO_lt hi
      simp [this, cO])
    have h2 : (xs.length : Int) - 1 - i = ((xs.length - 1 - i : Nat) : Int) := by omega
    simp only [wipeE, e_ix, e_bin, e_blt, es_cons, es_nil, e_slot, e_cst, List.length_cons, List.length_nil, List.set_cons_succ, List.set_cons_zero, List.getElem?_cons_succ, List.getElem?_cons_zero, R.bind_ok, f_lenr, items_ref, hc, b_sub, List.length_map, ix_ref, h2]
    simp only [hc, h1]
theorem plus_found (xs ys : List Int) (hy : 0 < ys.length) : ((List.range (ys.length - 1)).map (cO ys) ++ [cO xs (ys.length - 1) + ys.getD 0 0] ++ (List.range (xs.length - ys.length)).map (fun i => cO xs (ys.length + i))).reverse = if xs.length < ys.length then ys else sumO xs ys := by
  cases ys with
  | nil => simp at hy
  | cons y t =>
    have e1 := map_cO (y :: t) t.length (by simp)
    simp only [List.length_cons, Nat.add_sub_cancel] at e1 ⊢
    rw [e1]
    have e2 : t.length + 1 - t.length = 1 := by omega
    simp only [e2, List.drop_succ_cons, List.drop_zero]
    by_cases h : xs.length < t.length + 1
    · have h2 : xs.length - (t.length + 1) = 0 := by omega
      rw [cO_ge (by omega)]
      simp [h, h2]
    · obtain ⟨a, x, b, rfl, hb⟩ := dec_at (xs := xs) (c := t.length) (by omega)
      rw [sumO_dec _ _ _ _ _ hb]
      have e3 : cO (a ++ x :: b) t.length = x := by
        simp [cO, List.getElem?_append_right, hb]
      have e4 : (List.range ((a ++ x :: b).length - (t.length + 1))).map (fun i => cO (a ++ x :: b) (t.length + 1 + i)) = a.reverse := by
        have h5 : (a ++ x :: b).length - (t.length + 1) = a.length := by simp; omega
        rw [h5]
        have := map_cO a a.length (Nat.le_refl _)
        simp only [Nat.sub_self, List.drop_zero] at this
        rw [← this]
        apply List.map_congr_left
        intro i hi
        simp only [cO, List.reverse_append, List.reverse_cons, List.append_assoc, List.getD_eq_getElem?_getD]
        rw [List.getElem?_append_right (by simp; omega), List.getElem?_append_right (by simp; omega)]
        simp only [List.length_reverse, List.length_cons, List.length_nil]
        congr 2
        omega
      rw [e3, e4]
      simp at h
      simp [show ¬ (a.length + (b.length + 1) < t.length + 1) by omega]
theorem law_plus_spec (hA : T 11 = some d__law_at_power) (hR : T 10 = some d__law_trim) (hM : T 12 = some d__law_made) (hT : T 19 = some d__law_plus) (xs ys : List Int) (hx : xs.length ≤ 1000) (hy : ys.length ≤ 1000)
    (nx : noNought xs) (ny : noNought ys) (px : ∀ x ∈ xs, 0 ≤ x) (py : ∀ x ∈ ys, 0 ≤ x) : callN T (n + 3) 19 [tupI xs, tupI ys] S = .ok (tupI (sumO xs ys)) S := by
  have key : (exTs (callN T (n + 2)) d__law_plus.body [some (tupI xs), some (tupI ys), none, none, none] S).sat (fun _ _ => False) (fun v S' => v = tupI (sumO xs ys) ∧ ∃ G, S' = S ++ G) := by
    by_cases h0 : ys.length = 0
    · have : ys = [] := List.length_eq_zero_iff.1 h0
      subst this
      refine sat_rtI (d := tupI xs) (S := S) (by simp [d__law_plus]) ⟨by simp, [], by simp⟩
    · have h0' : ¬ ((ys.length : Int) = 0) := by omega
      have h1 : (ys.length : Int) - 1 = ((ys.length - 1 : Nat) : Int) := by omega
      have h1n : ((ys.length : Int) - 1).toNat = ys.length - 1 := by omega
      have e1 : (List.range (rangeD 0 1 (ys.length - 1)).length).map (fun i => D.int (cO ys i)) = ((List.range (ys.length - 1)).map (cO ys)).map D.int := by
        rw [rangeD_len, List.map_map]; rfl
      simp only [d__law_plus, xs_cons, x_iff, t_cmp, e_blt, es_cons, es_nil, e_slot, List.getElem?_cons_succ, List.getElem?_cons_zero, R.bind_ok, len_tupI, e_cst, c_eq, opEq_int, h0', decide_false, R.out_ok, Bool.false_eq_true, if_false, xs_nil, Out.thn_nx, x_asg, e_bin, b_sub, g_nm, List.set_cons_succ, List.set_cons_zero]
      rw [lc_map (items := rangeD 0 1 (ys.length - 1)) (S' := S) (fun i => .int (cO ys i)) (by have := rng1_sat (F := callN T (n + 2)) (env := [some (tupI xs), some (tupI ys), some (.int ((ys.length : Int) - 1)), none, none]) (e := .slot 2) (k := (ys.length : Int) - 1) (S := S) (S' := S) (by simp) (by omega) (by omega); rwa [h1n] at this) (by rw [rangeD_len]; exact le_sz (by omega)) ?_]
      · rw [e1]
        generalize hlow : (List.range (ys.length - 1)).map (cO ys) = low
        have hlowl : low.length = ys.length - 1 := by rw [← hlow]; simp
        obtain ⟨y0, hy0⟩ : ∃ y0, ys[0]? = some y0 := ⟨_, List.getElem?_eq_getElem (by omega)⟩
        have i1 := fun S => ix_tupI (S := S) (xs := ys) (k := 0) (i := 0) rfl hy0
        have i2 := fun S => at_power_spec (n := n + 1) (S := S) hA xs (ys.length - 1) h1
        have h2 : low.length < sizeLine := lt_sz (by omega)
        simp only [R.out_ok, g_nm, List.set_cons_succ, List.set_cons_zero, Out.thn_nx, x_exp, e_mth, e_slot, List.getElem?_cons_succ, List.getElem?_cons_zero, R.bind_ok, rcv_app, get_end, if_true, es_cons, es_nil, e_bin, e_call, e_ix, e_cst, i1, i2, b_add, m_app, List.length_map, h2]
        have e2 : (S ++ [Cell.lst (low.map D.int)]).set S.length (.lst (low.map D.int ++ [D.int (cO xs (ys.length - 1) + y0)])) = S ++ [.lst ((low ++ [cO xs (ys.length - 1) + y0]).map D.int)] := by simp
        rw [e2]
        generalize hlow2 : low ++ [cO xs (ys.length - 1) + y0] = low2
        have hl2 : low2.length = ys.length := by rw [← hlow2]; simp; omega
        refine sat_thn (N := fun e S' => (∃ a b c t, e = [a, b, c, some (.ref S.length), t]) ∧ S' = S ++ [.lst ((low2 ++ (List.range (xs.length - ys.length)).map (fun i => cO xs (ys.length + i))).map D.int)]) ?_ ?_
        · have q4 := fun t s b env N Q hs hl => @for_sat (callN T (n + 2)) t s b env (S ++ [.lst (low2.map D.int)])  (S ++ [.lst (low2.map D.int)]) (rangeD ys.length 1 (xs.length - ys.length)) N Q hs hl (fun i e S' => ∃ t : Option D, e = [some (tupI xs), some (tupI ys), some (.int ((ys.length : Int) - 1)), some (.ref S.length), t] ∧ S' = S ++ [.lst ((low2 ++ (List.range i).map (fun i => cO xs (ys.length + i))).map D.int)])
          refine q4 _ _ _ _ _ _ ?_ ?_ ?_ ?_ ?_
          · have h3 : (ys.length : Int) - 1 + 1 = (ys.length : Int) := by omega
            have h4 : ((xs.length : Int) - ys.length).toNat = xs.length - ys.length := by omega
            rw [← h4]
            exact rng2_sat (S1 := S ++ [.lst (low2.map D.int)]) (by simp only [e_bin, e_slot, e_cst, List.getElem?_cons_succ, List.getElem?_cons_zero, R.bind_ok, b_add]; rw [h3]) (by simp only [e_blt, es_cons, es_nil, e_slot, List.getElem?_cons_succ, List.getElem?_cons_zero, R.bind_ok, len_tupI]) (by omega) (by omega) (by omega) (by omega)
          · rw [rangeD_len]; exact le_sz (by omega)
          · exact ⟨none, rfl, by simp⟩
          · rintro i d env S' hd ⟨t, rfl, rfl⟩
            simp at hd
            obtain ⟨hi, rfl⟩ := hd
            have i3 := fun S => at_power_spec (n := n + 1) (S := S) hA xs (ys.length + i) (i := (ys.length : Int) + i) (by omega)
            have h5 : (low2 ++ (List.range i).map (fun i => cO xs (ys.length + i))).length < sizeLine := by simp; exact lt_sz (by omega)
            refine ⟨_, g_nm _ _, satB_nx (e := [some (tupI xs), some (tupI ys), some (.int ((ys.length : Int) - 1)), some (.ref S.length), some (.int (ys.length + i))]) (S := S ++ [.lst ((low2 ++ (List.range (i + 1)).map (fun i => cO xs (ys.length + i))).map D.int)]) ?_ ⟨_, rfl, rfl⟩⟩
            simp only [List.length_append, List.length_map, List.length_range] at h5
            simp [i3, h5, List.range_succ]
          · rintro env S' ⟨t, rfl, rfl⟩
            exact ⟨⟨_, _, _, _, rfl⟩, by simp⟩
        · rintro env S' ⟨⟨a, b, c, t, rfl⟩, rfl⟩
          have hm := made_spec (n := n) (S := S ++ [.lst ((low2 ++ (List.range (xs.length - ys.length)).map (fun i => cO xs (ys.length + i))).map D.int)]) hR hM S.length (low2 ++ (List.range (xs.length - ys.length)).map (fun i => cO xs (ys.length + i))) (get_end _ _ _) (by rw [List.length_append, List.length_map, List.length_range]; omega)
          have hf := plus_found xs ys (by omega)
          have hy1 : ys.getD 0 0 = y0 := by simp [List.getD_eq_getElem?_getD, hy0]
          rw [hlow, hy1, hlow2] at hf
          rw [hf] at hm
          refine sat_rtI (d := tupI (sumO xs ys)) (S := S ++ [.lst ((low2 ++ (List.range (xs.length - ys.length)).map (fun i => cO xs (ys.length + i))).map D.int)]) ?_ ⟨rfl, _, rfl⟩
          have ht : trimI (if xs.length < ys.length then ys else sumO xs ys) = sumO xs ys := by
            split
            · rename_i h; rw [sumO_lt h, trimI_id ny]
            · exact trimI_id (sumO_head nx ny px py)
          rw [ht] at hm
          simp only [x_ret, e_call, es_cons, es_nil, e_slot, List.getElem?_cons_succ, List.getElem?_cons_zero, R.bind_ok, hm, R.out_ok, Out.thn_rt]
      · intro i d hd
        simp at hd
        obtain ⟨hi, rfl⟩ := hd
        refine ⟨_, g_nm _ _, by simp, ?_⟩
        have i3 := fun S => at_power_spec (n := n + 1) (S := S) hA ys i (i := (i : Int)) rfl
        simp [wipeE, i3]
  obtain ⟨v, S', e, rfl, G, rfl⟩ := sat_rt key
  exact call_pure hT rfl (lt_tupI _ _) e
end
end PD.PS
end

section
set_option linter.all false
set_option maxRecDepth 100000
set_option maxHeartbeats 1000000
/-! PDord5: the laws' own rest, what is kept, the hand. -/
namespace PD.PS
open PySem
theorem satB_thn {o : Out} {f : Env → Store → Out} {N N' B : Env → Store → Prop} {Q : D → Store → Prop} (h : o.sat N Q) (hf : ∀ e S, N e S → (f e S).satB N' B Q) : (o.thn f).satB N' B Q := by
  cases o <;> simp only [Out.sat] at h
  · exact hf _ _ h
  · exact h
theorem lcGo_map_ls {c : Nat} {items : List D} {tgt : D → Store → Option Env} {tst : Env → Store → R Bool} {elt : Env → Store → R D} {S : Store} (g : Nat → D) (hc : S[c]? = some (.lst items))
    (step : ∀ i d, items[i]? = some d → ∃ e, tgt d S = some e ∧ tst e S = .ok true S ∧ elt e S = .ok (g i) S) (hl : items.length ≤ sizeLine) :
    ∀ n i acc, i ≤ items.length → items.length < n + i → acc.length = i → lcGo (Src.ls c).nx tgt tst elt n i acc S = .ok (acc ++ ((List.range (items.length - i)).map fun k => g (i + k))) S
  | 0, i, acc, h1, h2, h => by omega
  | n + 1, i, acc, h1, h2, h => by
    simp only [lcGo, Src.nx, hc, R.bind_ok]
    rcases Nat.lt_or_ge i items.length with hi | hi
    · have hd : items[i]? = some items[i] := List.getElem?_eq_getElem hi
      obtain ⟨e, h3, h4, h5⟩ := step i _ hd
      simp only [hd, h3, h4, h5, R.bind_ok, if_true]
      rw [if_pos (by omega), lcGo_map_ls g hc step hl n (i + 1) _ (by omega) (by omega) (by simp [h])]
      have : items.length - i = (items.length - (i + 1)) + 1 := by omega
      rw [this, List.range_succ_eq_map]
      simp [Function.comp_def, Nat.add_assoc, Nat.add_comm 1]
    · rw [List.getElem?_eq_none hi]
      have : items.length - i = 0 := by omega
      simp [this]
theorem lc_map_ls {F : Fn} {env : Env} {e : E} {t : Tg} {s : I} {cn : Oe} {own : List Nat} {S S' : Store} {c : Nat} {items : List D} (g : Nat → D)
    (hs : evI F env s S = .ok (.ls c) S') (hc : S'[c]? = some (.lst items)) (hl : items.length ≤ sizeLine)
    (step : ∀ i d, items[i]? = some d → ∃ e', asgT S' t d (wipeE env own) = some e' ∧ evOT F e' cn S' = .ok true S' ∧ evE F e' e S' = .ok (g i) S') :
    evE F env (.lc e t s cn own) S = .ok (.ref S'.length) (S' ++ [.lst ((List.range items.length).map g)]) := by
  rw [e_lc, hs, R.bind_ok, lcGo_map_ls g hc step hl wmax 0 [] (Nat.zero_le _) (by have := wmax_lt hl; omega) rfl]
  simp [newL]
theorem cO_head {ys : List Int} (h : 0 < ys.length) (hn : noNought ys) : cO ys (ys.length - 1) ≠ 0 := by
  cases ys with
  | nil => simp at h
  | cons y t =>
    have := cO_lt (xs := y :: t) (e := (y :: t).length - 1) (by simp)
    have h2 : (y :: t).length - 1 - ((y :: t).length - 1) = 0 := by omega
    rw [h2] at this
    simp at this
    simp only [List.length_cons, Nat.add_sub_cancel]
    rw [← this]
    intro e
    exact hn (by simp [e])
theorem rest_at {xs ys : List Int} (hn : noNought ys) (hl : lessO ys xs = false) (i : Nat) (hi : i < ys.length) (hs : ∀ j : Nat, j < i → cO xs (ys.length - 1 - j) = cO ys (ys.length - 1 - j)) (hne : cO xs (ys.length - 1 - i) ≠ cO ys (ys.length - 1 - i)) :
    restO xs ys = some ((cO ys (ys.length - 1 - i) - cO xs (ys.length - 1 - i)) :: ys.drop (i + 1)) := by
  by_cases h1 : xs.length < ys.length
  · have h0 : cO xs (ys.length - 1) = 0 := cO_ge (by omega)
    cases i with
    | zero =>
      simp only [restO, hl, Bool.false_eq_true, if_false, h1, if_true, Nat.sub_zero, h0]
      have h2 := cO_lt (xs := ys) (e := ys.length - 1) (by omega)
      have h3 : ys.length - 1 - (ys.length - 1) = 0 := by omega
      rw [h3] at h2
      cases ys with
      | nil => simp at hi
      | cons y t =>
        simp only [List.getElem?_cons_zero, Option.some.injEq] at h2
        rw [← h2]
        simp
    | succ i =>
      have := hs 0 (by omega)
      simp only [Nat.sub_zero, h0] at this
      exact absurd this.symm (cO_head (by omega) hn)
  · have h2 : xs.length = ys.length := by
      simp only [lessO] at hl
      by_cases h5 : ys.length = xs.length
      · exact h5.symm
      · rw [if_pos h5] at hl; simp at hl; omega
    have g1 : ∀ j : Nat, j < ys.length → xs[j]? = some (cO xs (ys.length - 1 - j)) := fun j hj => by
      have := cO_lt (xs := xs) (e := ys.length - 1 - j) (by omega)
      rwa [show xs.length - 1 - (ys.length - 1 - j) = j by omega] at this
    have g2 : ∀ j : Nat, j < ys.length → ys[j]? = some (cO ys (ys.length - 1 - j)) := fun j hj => by
      have := cO_lt (xs := ys) (e := ys.length - 1 - j) (by omega)
      rwa [show ys.length - 1 - (ys.length - 1 - j) = j by omega] at this
    simp only [restO, hl, Bool.false_eq_true, if_false, h1]
    rw [diffO_at i xs ys _ _ (fun j hj => by rw [g1 j (by omega), g2 j (by omega), hs j hj]) (g1 i hi) (g2 i hi) hne]
theorem rest_end {xs ys : List Int} (hn : noNought ys) (hl : lessO ys xs = false) (hs : ∀ j : Nat, j < ys.length → cO xs (ys.length - 1 - j) = cO ys (ys.length - 1 - j)) : restO xs ys = some [] := by
  have h2 : xs.length = ys.length := by
    by_cases h5 : ys.length = xs.length
    · exact h5.symm
    · simp only [lessO] at hl
      rw [if_pos h5] at hl; simp at hl
      have h0 : cO xs (ys.length - 1) = 0 := cO_ge (by omega)
      have := hs 0 (by omega)
      simp only [Nat.sub_zero, h0] at this
      exact absurd this.symm (cO_head (by omega) hn)
  have g1 : ∀ j : Nat, j < ys.length → xs[j]? = some (cO xs (ys.length - 1 - j)) := fun j hj => by
    have := cO_lt (xs := xs) (e := ys.length - 1 - j) (by omega)
    rwa [show xs.length - 1 - (ys.length - 1 - j) = j by omega] at this
  have g2 : ∀ j : Nat, j < ys.length → ys[j]? = some (cO ys (ys.length - 1 - j)) := fun j hj => by
    have := cO_lt (xs := ys) (e := ys.length - 1 - j) (by omega)
    rwa [show ys.length - 1 - (ys.length - 1 - j) = j by omega] at this
  simp only [restO, hl, Bool.false_eq_true, if_false, h2, Nat.lt_irrefl]
  rw [diffO_all xs ys h2 (fun j hj => by rw [g1 j (by omega), g2 j (by omega), hs j (by omega)])]
section
variable {T : Tab} {n : Nat} {S : Store}
theorem law_rest_spec (hL : T 13 = some d__law_less) (hA : T 11 = some d__law_at_power) (hR : T 10 = some d__law_trim) (hM : T 12 = some d__law_made) (hT : T 21 = some d__law_rest) (xs ys : List Int) (hx : xs.length ≤ 1000) (hy : ys.length ≤ 1000)
    (ny : noNought ys) : callN T (n + 3) 21 [tupI xs, tupI ys] S = .ok (optD (restO xs ys)) S := by
  have key : (exTs (callN T (n + 2)) d__law_rest.body [some (tupI xs), some (tupI ys), none, none, none, none, none] S).sat (fun _ _ => False) (fun v S' => v = optD (restO xs ys) ∧ ∃ G, S' = S ++ G) := by
    simp only [d__law_rest, xs_cons, x_iff, t_call, es_cons, es_nil, e_slot, List.getElem?_cons_succ, List.getElem?_cons_zero, R.bind_ok, law_less_spec hL, tru_b, R.out_ok]
    by_cases h1 : lessO ys xs = true
    · have : restO xs ys = none := by simp [restO, h1]
      simp only [h1, if_true]
      refine sat_rtI (d := .non) (S := S) (by simp) ⟨by rw [this]; rfl, [], by simp⟩
    · simp only [Bool.not_eq_true] at h1
      simp only [h1, Bool.false_eq_true, if_false, xs_nil, Out.thn_nx]
      have hd : (((ys.length : Int) - 1) - (-1)).toNat = ys.length := by omega
      refine sat_thn (N := fun e S' => S' = S ∧ ∀ j : Nat, j < ys.length → cO xs (ys.length - 1 - j) = cO ys (ys.length - 1 - j)) ?_ ?_
      · have q4 := fun t s b env N Q hs hl => @for_sat (callN T (n + 2)) t s b env S S (rangeD ((ys.length : Int) - 1) (-1) ys.length) N Q hs hl (fun i e S' => S' = S ∧ (∃ a b c d f : Option D, e = [some (tupI xs), some (tupI ys), a, b, c, d, f]) ∧ ∀ j : Nat, j < i → cO xs (ys.length - 1 - j) = cO ys (ys.length - 1 - j))
        refine q4 _ _ _ _ _ _ ?_ ?_ ?_ ?_ ?_
        · have := rng3_sat (F := callN T (n + 2)) (env := [some (tupI xs), some (tupI ys), none, none, none, none, none]) (a := .bin .Sub (.blt .len (.cons (.slot 1) .nil)) (.cst (.int 1))) (b := .un .USub (.cst (.int 1))) (i := (ys.length : Int) - 1) (j := -1) (S := S) (S1 := S) (S2 := S) (by simp) (by simp) (by omega) (by omega) (by omega) (by omega)
          rwa [hd] at this
        · rw [rangeD_len]; exact le_sz (by omega)
        · exact ⟨rfl, ⟨_, _, _, _, _, rfl⟩, fun j hj => by omega⟩
        · rintro i d env S' hd ⟨rfl, ⟨a, b, c, d', f, rfl⟩, hs⟩
          simp at hd
          obtain ⟨hi, rfl⟩ := hd
          have hi1 : (ys.length : Int) - 1 + -(i : Int) = ((ys.length - 1 - i : Nat) : Int) := by omega
          have i1 := at_power_spec (n := n + 1) (S := S') hA xs (ys.length - 1 - i) hi1
          have i2 := at_power_spec (n := n + 1) (S := S') hA ys (ys.length - 1 - i) hi1
          refine ⟨_, g_nm _ _, ?_⟩
          by_cases he : cO xs (ys.length - 1 - i) = cO ys (ys.length - 1 - i)
          · refine satB_nx (e := [some (tupI xs), some (tupI ys), some (.int ((ys.length : Int) - 1 + -(i : Int))), some (.int (cO xs (ys.length - 1 - i))), some (.int (cO ys (ys.length - 1 - i))), d', f]) (S := S') ?_ ⟨rfl, ⟨_, _, _, _, _, rfl⟩, fun j hj => ?_⟩
            · simp [i1, i2, he, sizeLine]
            · rcases Nat.lt_or_eq_of_le (Nat.lt_succ_iff.1 hj) with h | rfl
              · exact hs j h
              · exact he
          · have hr := rest_at ny h1 i hi hs he
            generalize hm : cO xs (ys.length - 1 - i) = mine at *
            generalize ht : cO ys (ys.length - 1 - i) = theirs at *
            have hlow : (List.range (ys.length - 1 - i)).map (cO ys) = (ys.drop (i + 1)).reverse := by
              rw [map_cO ys _ (by omega)]
              congr 2
              omega
            have hlc : evE (callN T (n + 2)) [some (tupI xs), some (tupI ys), some (.int ((ys.length : Int) - 1 + -(i : Int))), some (.int mine), some (.int theirs), d', f] (.lc (.call 11 (.cons (.slot 1) (.cons (.slot 6) .nil))) (.nm 6) (.rng1 (.slot 2)) .no [6]) S' = .ok (.ref S'.length) (S' ++ [.lst ((ys.drop (i + 1)).reverse.map .int)]) := by
              have hk : ((ys.length : Int) - 1 + -(i : Int)).toNat = ys.length - 1 - i := by omega
              have hrg := rng1_sat (F := callN T (n + 2)) (env := [some (tupI xs), some (tupI ys), some (.int ((ys.length : Int) - 1 + -(i : Int))), some (.int mine), some (.int theirs), d', f]) (e := .slot 2) (k := (ys.length : Int) - 1 + -(i : Int)) (S := S') (S' := S') (by simp) (by omega) (by omega)
              rw [hk] at hrg
              rw [lc_map (fun k => .int (cO ys k)) hrg (by rw [rangeD_len]; exact le_sz (by omega)) ?_, rangeD_len, ← hlow, List.map_map]
              · rfl
              · intro k d hd
                simp at hd
                obtain ⟨hk2, rfl⟩ := hd
                refine ⟨_, g_nm _ _, by simp, ?_⟩
                have i3 := fun S => at_power_spec (n := n + 1) (S := S) hA ys k (i := (k : Int)) rfl
                simp [wipeE, i3]
            have hmd := made_spec (n := n) (S := S' ++ [.lst ((ys.drop (i + 1)).reverse.map .int), .lst [.int (theirs - mine)], .lst (((ys.drop (i + 1)).reverse ++ [theirs - mine]).map .int)]) hR hM (S'.length + 2) ((ys.drop (i + 1)).reverse ++ [theirs - mine]) (by simp) (by simp; omega)
            have htr : trimI ((ys.drop (i + 1)).reverse ++ [theirs - mine]).reverse = (theirs - mine) :: ys.drop (i + 1) := by
              rw [List.reverse_append, List.reverse_reverse]
              refine trimI_id ?_
              simp [noNought]
              omega
            rw [htr] at hmd
            refine satB_rt (d := tupI ((theirs - mine) :: ys.drop (i + 1))) (S := S' ++ [.lst ((ys.drop (i + 1)).reverse.map .int), .lst [.int (theirs - mine)], .lst (((ys.drop (i + 1)).reverse ++ [theirs - mine]).map .int)]) ?_ ⟨by rw [hr]; rfl, _, rfl⟩
            have hsz : ((ys.drop (i + 1)).reverse.map D.int).length + 1 ≤ sizeLine := by simp; exact le_sz (by omega)
            have hadd : opBin .Add (.ref S'.length) (.ref (S'.length + 1)) (S' ++ [.lst ((ys.drop (i + 1)).reverse.map .int), .lst [.int (theirs - mine)]]) = .ok (.ref (S'.length + 2)) (S' ++ [.lst ((ys.drop (i + 1)).reverse.map .int), .lst [.int (theirs - mine)], .lst (((ys.drop (i + 1)).reverse ++ [theirs - mine]).map .int)]) := by
              simp only [opBin]
              rw [show (S' ++ [Cell.lst ((ys.drop (i + 1)).reverse.map .int), .lst [.int (theirs - mine)]])[S'.length + 1]? = some (.lst [.int (theirs - mine)]) by simp]
              rw [show (S' ++ [Cell.lst ((ys.drop (i + 1)).reverse.map .int), .lst [.int (theirs - mine)]])[S'.length]? = some (.lst ((ys.drop (i + 1)).reverse.map .int)) by simp]
              simp only [List.length_cons, List.length_nil, Nat.zero_add, hsz, if_true, newL_eq]
              simp
            have h13 : evE (callN T (n + 2)) [some (tupI xs), some (tupI ys), some (.int ((ys.length : Int) - 1 + -(i : Int))), some (.int mine), some (.int theirs), some (.ref S'.length), f] (.bin .Add (.slot 5) (.lst (.cons (.bin .Sub (.slot 4) (.slot 3)) .nil))) (S' ++ [.lst ((ys.drop (i + 1)).reverse.map .int)]) = .ok (.ref (S'.length + 2)) (S' ++ [.lst ((ys.drop (i + 1)).reverse.map .int), .lst [.int (theirs - mine)], .lst (((ys.drop (i + 1)).reverse ++ [theirs - mine]).map .int)]) := by
              rw [← hadd]
              simp [sizeLine]
            simp only [xs_cons, x_asg, e_tup, es_cons, es_nil, e_call, e_slot, List.set_cons_succ, List.set_cons_zero, List.getElem?_cons_succ, List.getElem?_cons_zero, R.bind_ok, i1, i2, List.length_cons, List.length_nil, show (0 + 1 + 1 ≤ sizeLine) from le_sz (by omega), if_true, R.out_ok, g_tp, items_tup, gs_cons, gs_nil, g_nm, Out.thn_nx, x_iff, t_cmp, c_ne, opEq_int, R.map_ok, he, decide_false, Bool.not_false, hlc, x_ret, h13, hmd, Out.thn_rt]
        · rintro e S' ⟨rfl, _, hs⟩
          rw [rangeD_len] at hs
          exact ⟨rfl, hs⟩
      · rintro e S' ⟨rfl, hs⟩
        refine sat_rtI (d := tupI []) (S := S') (by simp [sizeLine]) ⟨by rw [rest_end ny h1 hs]; rfl, [], by simp⟩
  obtain ⟨v, S', e, rfl, G, rfl⟩ := sat_rt key
  refine call_pure hT rfl ?_ e
  cases restO xs ys <;> simp [optD]
end
end PD.PS
end

section
set_option linter.all false
set_option maxRecDepth 100000
set_option maxHeartbeats 1000000
/-! PDkept: what is kept, and how a hand is dealt. -/
namespace PD.PS
open PySem
section
variable {T : Tab} {n : Nat} {S : Store}
theorem opEq_self (i : Int) (S : Store) : opEq (.int i) (.int i) S = .ok true S := by
  rw [opEq_int, decide_eq_true rfl]
theorem e_and_true {F : Fn} {env : Env} {a b : E} {S' : Store} (h : evE F env a S = .ok (.bl true) S') : evE F env (.and a b) S = evE F env b S' := by
  rw [e_and, h]
  rfl
theorem e_and_false {F : Fn} {env : Env} {a b : E} {S' : Store} (h : evE F env a S = .ok (.bl false) S') : evE F env (.and a b) S = .ok (.bl false) S' := by
  rw [e_and, h]
  rfl
theorem kept_non (hT : T 15 = some d__law_kept) : callN T (n + 1) 15 [.non, .non] S = .ok (.bl true) S := by
  apply call_pure0 hT rfl
  simp [d__law_kept]
theorem kept_int (hT : T 15 = some d__law_kept) (x : Int) : callN T (n + 1) 15 [.int x, .int x] S = .ok (.bl true) S := by
  apply call_pure0 hT rfl
  simp [d__law_kept]
theorem kept_tup (hT : T 15 = some d__law_kept) (xs : List Int) (hl : xs.length ≤ 1000000) : callN T (n + 2) 15 [tupI xs, tupI xs] S = .ok (.bl true) S := by
  have hrg := rng1_sat (F := callN T (n + 1)) (env := [some (tupI xs), some (tupI xs), none]) (e := .blt .len (.cons (.slot 1) .nil)) (k := xs.length) (S := S) (S' := S) (by simp) (by omega) (by omega)
  rw [Int.toNat_natCast] at hrg
  have hlc : evE (callN T (n + 1)) [some (tupI xs), some (tupI xs), none] (.lc (.call 15 (.cons (.ix (.slot 0) (.slot 2)) (.cons (.ix (.slot 1) (.slot 2)) .nil))) (.nm 2) (.rng1 (.blt .len (.cons (.slot 1) .nil))) .no [2]) S = .ok (.ref S.length) (S ++ [.lst ((List.replicate xs.length true).map .bl)]) := by
    rw [lc_map (fun k => .bl true) hrg (by rw [rangeD_len]; exact le_sz (by omega)) ?_, rangeD_len, map_const_range, List.map_replicate]
    intro k d hd
    simp at hd
    obtain ⟨hk, rfl⟩ := hd
    refine ⟨_, g_nm _ _, by simp, ?_⟩
    have h1 := fun S => ix_tupI (S := S) (xs := xs) (k := k) (i := (k : Int)) rfl (List.getElem?_eq_getElem hk)
    have h2 := kept_int (n := n) (S := S) hT xs[k]
    simp [wipeE, h1, h2]
  apply call_pure hT rfl (lt_bl _ _) (G := [.lst ((List.replicate xs.length true).map .bl)])
  have h5 : (List.replicate xs.length true).all id = true := by simp
  have h6 : evE (callN T (n + 1)) [some (tupI xs), some (tupI xs), none] (.cmp .Eq (.blt .len (.cons (.slot 0) .nil)) (.blt .len (.cons (.slot 1) .nil))) S = .ok (.bl true) S := by
    simp only [e_cmp, e_blt, es_cons, es_nil, e_slot, List.getElem?_cons_succ, List.getElem?_cons_zero, R.bind_ok, len_tupI, c_eq, opEq_self, R.map_ok]
  show exTs (callN T (n + 1)) d__law_kept.body [some (tupI xs), some (tupI xs), none] S = _
  simp only [d__law_kept, xs_cons, x_iff, t_or, t_isi, t_cmp, e_isi, e_slot, List.getElem?_cons_succ, List.getElem?_cons_zero, R.bind_ok, ty_tupI, if_true, R.out_ok, c_ne, opEq_bl, R.map_ok, decide_true, Bool.not_true, Bool.false_eq_true, if_false, Out.thn_nx, xs_nil, x_ret]
  rw [e_and_true h6]
  simp only [e_blt, es_cons, es_nil, R.bind_ok, hlc, f_allr, items_ref, get_end, bls_bls, h5, R.out_ok, Out.thn_rt]
def hand0 (ns : List Int) : Hs := ⟨ns.take 63, (ns.take 63).map fun i => if i < 0 then -i else i, 0, 0, 31 + 7 * (ns.take 63).length, 0⟩
theorem hand_spec (hT : T 16 = some d__law_hand) (ns : List Int) : callN T (n + 1) 16 [.rol (ns.map .int)] [] = .ok (.ref 2) (hS (hand0 ns) []) := by
  have key : exTs (callN T n) d__law_hand.body [some (.rol (ns.map .int)), none, none] [] = .rt (.ref 2) (hS (hand0 ns) []) := by
    have hcut : cutD (ns.map D.int) none (some 63) = (ns.take 63).map D.int := by
      simp only [cutD, show (some (63 : Int)) = some ((63 : Nat) : Int) from rfl, HT.sIx_nat, HT.sIx_none, List.drop_zero, Nat.sub_zero, List.map_take]
      rw [List.take_eq_take_iff]
      omega
    have hev : evI (callN T n) [some (.rol (ns.map .int)), none, none] (.any (.slc (.slot 0) .no (.so (.cst (.int 63))))) [] = .ok (.ls 0) [.lst ((ns.take 63).map .int)] := by
      simp [hcut]
    have hlc : evE (callN T n) [some (.rol (ns.map .int)), none, none] (.lc (.blt .abs (.cons (.blt .int (.cons (.slot 2) .nil)) .nil)) (.nm 2) (.any (.slc (.slot 0) .no (.so (.cst (.int 63))))) .no [2]) [] = .ok (.ref 1) [.lst ((ns.take 63).map .int), .lst ((hand0 ns).cs.map .int)] := by
      rw [lc_map_ls (S' := [.lst ((ns.take 63).map .int)]) (c := 0) (items := (ns.take 63).map .int) (fun k => .int ((hand0 ns).cs.getD k 0)) hev rfl (by simp; exact Nat.le_trans (Nat.min_le_left _ _) (le_sz (by omega))) ?_]
      · have : (List.range ((ns.take 63).map D.int).length).map (fun k => D.int ((hand0 ns).cs.getD k 0)) = (hand0 ns).cs.map .int := by
          apply List.ext_getElem?
          intro i
          by_cases hi : i < (ns.take 63).length
          · rw [List.getElem?_map, List.getElem?_range (by simpa using hi), List.getElem?_map]
            have h2 : i < (hand0 ns).cs.length := by simpa [hand0] using hi
            rw [List.getElem?_eq_getElem h2]
            simp [List.getD_eq_getElem?_getD, List.getElem?_eq_getElem h2]
          · rw [List.getElem?_eq_none (by simpa using hi), List.getElem?_eq_none (by simpa [hand0] using hi)]
        rw [this]
        rfl
      · intro k d hd
        obtain ⟨x, hx, rfl⟩ : ∃ x, (ns.take 63)[k]? = some x ∧ d = .int x := by
          rw [List.getElem?_map] at hd
          cases h : (ns.take 63)[k]? with
          | none => rw [h] at hd; cases hd
          | some x => rw [h] at hd; cases hd; exact ⟨x, rfl, rfl⟩
        refine ⟨_, g_nm _ _, by simp, ?_⟩
        have : (hand0 ns).cs.getD k 0 = if x < 0 then -x else x := by
          simp only [hand0, List.getD_eq_getElem?_getD, List.getElem?_map, hx, Option.map_some, Option.getD_some]
        rw [this]
        simp [wipeE]
    have h7 : ∀ x : Int, mulOk 7 x = true := fun x => mulOk_l (by decide)
    have hn : (hand0 ns).cs.length = (ns.take 63).length := by simp [hand0]
    simp only [d__law_hand, xs_cons, x_asg, hlc, R.out_ok, g_nm, List.set_cons_succ, List.set_cons_zero, Out.thn_nx]
    simp [h7, sizeLine, hS, hn]
    simp [hand0]
  rw [call_rt hT rfl key]
  rfl
end
end PD.PS
end

section
set_option linter.all false
set_option maxRecDepth 100000
set_option maxHeartbeats 1000000
/-! PDdraw: draws as functions; what a call drops; comprehensions and loops by lists. -/
namespace PD.PS
open PySem
/-! ### a draw -/
def stepH (h : Hs) : Hs := if h.l = 0 ∧ h.i < h.cs.length then ⟨h.sl, h.cs, h.i + 1, if 1000000000000000000 ≤ h.cs.getD h.i 0 then h.cs.getD h.i 0 else 0, (h.m * 48271 + h.cs.getD h.i 0 + 11) % 2147483647, h.k⟩ else h
def restV (h : Hs) (m : Int) : Int := if 0 < h.l then h.l % m else mixN h.m (h.k + 1) % m
def restH (h : Hs) (m : Int) : Hs := if 0 < h.l then ⟨h.sl, h.cs, h.i, h.l / m, h.m, h.k⟩ else ⟨h.sl, h.cs, h.i, h.l, h.m, h.k + 1⟩
def drawV (h : Hs) (m : Int) : Int := restV (stepH h) m
def drawH (h : Hs) (m : Int) : Hs := restH (stepH h) m
theorem drawV_nn (h : Hs) {m : Int} (h0 : 0 < m) : 0 ≤ drawV h m := by
  unfold drawV restV
  split <;> exact Int.emod_nonneg _ (by omega)
theorem drawV_lt (h : Hs) {m : Int} (h0 : 0 < m) : drawV h m < m := by
  unfold drawV restV
  split <;> exact Int.emod_lt_of_pos _ h0
theorem draw_restE {F : Fn} (h : Hs) (G : Store) (m : Int) (h0 : 0 < m) (h1 : m.natAbs.log2 < 9000) (a b c : Option D) :
    exTs F drawRest [some (.ref 2), some (.int m), a, b, c] (hS h G) = .rt (.int (restV h m)) (hS (restH h m) G) := by
  by_cases hl : 0 < h.l
  · simp [drawRest, d__law_draw, hS, L2.atI, L2.ixN, hl, h0, h1, restV, restH]
  · have e1 : ∀ x : Int, mulOk x 69621 = true := fun x => mulOk_r (by decide)
    have e2 : ∀ x : Int, mulOk 6007 x = true := fun x => mulOk_l (by decide)
    simp [drawRest, d__law_draw, hS, L2.atI, L2.ixN, hl, h0, h1, e1, e2, mulOk_emod, mixN, restV, restH, (by decide : Nat.log2 1013 < 9000), (by decide : Nat.log2 2011 < 9000), (by decide : Nat.log2 32 < 9000)]
theorem draw_key {F : Fn} (h : Hs) (G : Store) (m : Int) (h0 : 0 < m) (h1 : m < 10 ^ 50) :
    exTs F d__law_draw.body [some (.ref 2), some (.int m), none, none, none] (hS h G) = .rt (.int (drawV h m)) (hS (drawH h m) G) := by
    have hl := log2_lt h1 h0
    have e0 : d__law_draw.body = .cons (match d__law_draw.body with | .cons x _ => x | .nil => .pas) drawRest := rfl
    by_cases hz : h.l = 0 ∧ h.i < h.cs.length
    · obtain ⟨hz, hi⟩ := hz
      obtain ⟨sl, cs, i, l, mm, k⟩ := h
      simp only at hz hi
      subst hz
      obtain ⟨c, hc⟩ : ∃ c, cs[i] = c := ⟨_, rfl⟩
      have hc2 : cs.getD i 0 = c := by simp [List.getD_eq_getElem?_getD, hi, hc]
      have e1 : ∀ x : Int, mulOk x 48271 = true := fun x => mulOk_r (by decide)
      by_cases hg : 1000000000000000000 ≤ c
      · have hs : stepH ⟨sl, cs, i, 0, mm, k⟩ = ⟨sl, cs, i + 1, c, (mm * 48271 + c + 11) % 2147483647, k⟩ := by simp [stepH, hi, hc, hg]
        rw [e0, xs_cons, drawV, drawH, hs, ← draw_restE (F := F) ⟨sl, cs, i + 1, c, (mm * 48271 + c + 11) % 2147483647, k⟩ G m h0 hl none (some (.int c)) none]
        simp [d__law_draw, hS, L2.atI, L2.ixN, e1, hi, hc, hg, powOk, opEq_int]
      · have hs : stepH ⟨sl, cs, i, 0, mm, k⟩ = ⟨sl, cs, i + 1, 0, (mm * 48271 + c + 11) % 2147483647, k⟩ := by simp [stepH, hi, hc, hg]
        rw [e0, xs_cons, drawV, drawH, hs, ← draw_restE (F := F) ⟨sl, cs, i + 1, 0, (mm * 48271 + c + 11) % 2147483647, k⟩ G m h0 hl none (some (.int c)) none]
        simp [d__law_draw, hS, L2.atI, L2.ixN, e1, hi, hc, hg, powOk, opEq_int]
    · have hs : stepH h = h := if_neg hz
      rw [e0, xs_cons, drawV, drawH, hs, ← draw_restE (F := F) h G m h0 hl none none none]
      by_cases hz1 : h.l = 0
      · have hz2 : ¬ h.i < h.cs.length := fun x => hz ⟨hz1, x⟩
        simp [d__law_draw, hS, L2.atI, L2.ixN, hz1, hz2]
      · simp [d__law_draw, hS, L2.atI, L2.ixN, hz1]
theorem draw_eq {T : Tab} (hT : T 9 = some d__law_draw) {n : Nat} (h : Hs) (G : Store) (m : Int) (h0 : 0 < m) (h1 : m < 10 ^ 50) :
    callN T (n + 1) 9 [.ref 2, .int m] (hS h G) = .ok (.int (drawV h m)) (hS (drawH h m) G) := call_hand0 hT rfl (draw_key h G m h0 h1)
/-- within an except suite -/
theorem draw_eqH {T : Tab} {i : Nat} (hT : T i = some d__law_draw) {n : Nat} (h : Hs) (G : Store) (m : Int) (h0 : 0 < m) (h1 : m < 10 ^ 50) :
    callN T (n + 1) i [.ref 2, .int m] (hS h G) = .ok (.int (drawV h m)) (hS (drawH h m) G) := call_hand0 hT rfl (draw_key h G m h0 h1)
/-! ### garbage -/
mutual
theorem D.lt_mono {m n : Nat} (h : m ≤ n) : ∀ d : D, D.lt m d = true → D.lt n d = true
  | .non, _ => rfl
  | .bl _, _ => rfl
  | .int _, _ => rfl
  | .str _, _ => rfl
  | .tup ds, q => by simp only [D.lt] at q ⊢; exact D.lts_mono h ds q
  | .rol ds, q => by simp only [D.lt] at q ⊢; exact D.lts_mono h ds q
  | .ref k, q => by simp only [D.lt, decide_eq_true_eq] at q ⊢; omega
  | .fnv _, _ => rfl
theorem D.lts_mono {m n : Nat} (h : m ≤ n) : ∀ ds : List D, D.lts m ds = true → D.lts n ds = true
  | [], _ => rfl
  | d :: ds, q => by
    simp only [D.lts, Bool.and_eq_true] at q ⊢
    exact ⟨D.lt_mono h d q.1, D.lts_mono h ds q.2⟩
end
theorem Cell.lt_mono {m n : Nat} (h : m ≤ n) : ∀ c : Cell, Cell.lt m c = true → Cell.lt n c = true
  | .lst ds, q => D.lts_mono h ds q
  | .dic kvs, q => by simp only [Cell.lt] at q ⊢; exact D.lts_mono h _ q
  | .oth, _ => rfl
/-- no cell holds what is made later -/
def GW (G : Store) : Prop := cellsLt (G.length + 3) G = true
theorem GW.nil : GW [] := rfl
theorem GW.app {G X : Store} (h : GW G) (hX : cellsLt (G.length + X.length + 3) X = true) : GW (G ++ X) := by
  unfold GW cellsLt at *
  rw [List.length_append, List.all_append, Bool.and_eq_true]
  refine ⟨List.all_eq_true.2 fun c hc => Cell.lt_mono (by omega) c (List.all_eq_true.1 h c hc), hX⟩
theorem lts_of {n : Nat} : ∀ {ds : List D}, (∀ d ∈ ds, D.lt n d = true) → D.lts n ds = true
  | [], _ => rfl
  | d :: ds, h => by
    simp only [D.lts, Bool.and_eq_true]
    exact ⟨h d (List.mem_cons_self), lts_of fun e he => h e (List.mem_cons_of_mem _ he)⟩
theorem GW.lst {G : Store} {ds : List D} (h : GW G) (hd : D.lts 0 ds = true) : GW (G ++ [.lst ds]) := h.app (by simp [cellsLt, Cell.lt, D.lts_mono (Nat.zero_le _) ds hd])
theorem GW.set {G : Store} {n : Nat} {c : Cell} (h : GW G) (hc : Cell.lt (G.length + 3) c = true) : GW (G.set n c) := by
  unfold GW cellsLt at *
  rw [List.length_set]
  refine List.all_eq_true.2 fun x hx => ?_
  rcases List.mem_or_eq_of_mem_set hx with q | q
  · exact List.all_eq_true.1 h x q
  · rw [q]; exact hc
theorem cells_hS {h : Hs} {G : Store} (g : GW G) : cellsLt (G.length + 3) (hS h G) = true := by
  unfold GW at g
  simp only [hS, cellsLt, List.all_cons, Cell.lt, lts_ints, Bool.true_and, D.lts, D.lt, Bool.and_true, Bool.and_eq_true] at *
  exact ⟨by simp, g⟩
theorem gcS_GW {h h' : Hs} {G X : Store} {v : D} (g : GW G) (hv : D.lt (G.length + 3) v = true) : gcS (hS h G) v (hS h' (G ++ X)) = hS h' G := by
  rw [← hS_app]
  exact gcS_wf (by simp) (by simpa using hv) (by simpa using cells_hS g)
theorem call_GW {T : Tab} {n f : Nat} {d : Def} {xs : List D} {h h' : Hs} {G X : Store} {v : D} (hT : T f = some d) (hl : xs.length = d.np) (g : GW G) (hv : D.lt (G.length + 3) v = true) (hr : exTs (callN T n) d.body (xs.map some ++ List.replicate (d.ns - xs.length) none) (hS h G) = .rt v (hS h' (G ++ X))) : callN T (n + 1) f xs (hS h G) = .ok v (hS h' G) := by
  rw [call_rt hT hl hr, gcS_GW g hv]
/-! ### comprehensions by lists -/
theorem lcGo_fm {α : Type} (dd : α → D) (g : α → Option D) {nx : Nat → Store → R (Option D)} {tgt : D → Store → Option Env} {tst : Env → Store → R Bool} {elt : Env → Store → R D} {S : Store} (l : List α)
    (hn : ∀ i : Nat, nx i S = .ok ((l.map dd)[i]?) S)
    (step : ∀ x ∈ l, ∃ e, tgt (dd x) S = some e ∧ ((∃ y, g x = some y ∧ tst e S = .ok true S ∧ elt e S = .ok y S) ∨ (g x = none ∧ tst e S = .ok false S))) (hl : l.length ≤ sizeLine) :
    ∀ n i acc, i ≤ l.length → l.length < n + i → acc.length ≤ i → lcGo nx tgt tst elt n i acc S = .ok (acc ++ (l.drop i).filterMap g) S
  | 0, i, acc, h1, h2, h => by omega
  | n + 1, i, acc, h1, h2, h => by
    simp only [lcGo, hn, R.bind_ok]
    rcases Nat.lt_or_ge i l.length with hi | hi
    · have hd : (l.map dd)[i]? = some (dd l[i]) := by simp [hi]
      have hdr : l.drop i = l[i] :: l.drop (i + 1) := List.drop_eq_getElem_cons hi
      obtain ⟨e, h3, h4⟩ := step l[i] (List.getElem_mem hi)
      rcases h4 with ⟨y, h5, h6, h7⟩ | ⟨h5, h6⟩
      · simp only [hd, h3, h6, h7, R.bind_ok, if_true]
        rw [if_pos (by omega), lcGo_fm dd g l hn step hl n (i + 1) _ (by omega) (by omega) (by simp; omega), hdr]
        simp only [List.filterMap_cons, h5, List.append_assoc, List.cons_append, List.nil_append]
      · simp only [hd, h3, h6, R.bind_ok, Bool.false_eq_true, if_false]
        rw [lcGo_fm dd g l hn step hl n (i + 1) _ (by omega) (by omega) (by omega), hdr]
        simp only [List.filterMap_cons, h5]
    · have : (l.map dd)[i]? = none := by simp [hi]
      rw [this, List.drop_eq_nil_of_le hi]
      simp
theorem lc_fm {α : Type} (dd : α → D) (g : α → Option D) (l : List α) {F : Fn} {env : Env} {e : E} {t : Tg} {s : I} {c : Oe} {own : List Nat} {S S' : Store}
    (hs : evI F env s S = .ok (.st (l.map dd)) S') (hl : l.length ≤ sizeLine)
    (step : ∀ x ∈ l, ∃ e', asgT S' t (dd x) (wipeE env own) = some e' ∧ ((∃ y, g x = some y ∧ evOT F e' c S' = .ok true S' ∧ evE F e' e S' = .ok y S') ∨ (g x = none ∧ evOT F e' c S' = .ok false S'))) :
    evE F env (.lc e t s c own) S = .ok (.ref S'.length) (S' ++ [.lst (l.filterMap g)]) := by
  rw [e_lc, hs, R.bind_ok, lcGo_fm dd g l (nx := (Src.st (l.map dd)).nx) (fun i => rfl) step hl wmax 0 [] (Nat.zero_le _) (by have := wmax_lt hl; omega) (by simp)]
  simp [newL]
theorem lc_fm_ls {α : Type} (dd : α → D) (g : α → Option D) (l : List α) {F : Fn} {env : Env} {e : E} {t : Tg} {s : I} {c : Oe} {own : List Nat} {S S' : Store} {k : Nat}
    (hs : evI F env s S = .ok (.ls k) S') (hk : S'[k]? = some (.lst (l.map dd))) (hl : l.length ≤ sizeLine)
    (step : ∀ x ∈ l, ∃ e', asgT S' t (dd x) (wipeE env own) = some e' ∧ ((∃ y, g x = some y ∧ evOT F e' c S' = .ok true S' ∧ evE F e' e S' = .ok y S') ∨ (g x = none ∧ evOT F e' c S' = .ok false S'))) :
    evE F env (.lc e t s c own) S = .ok (.ref S'.length) (S' ++ [.lst (l.filterMap g)]) := by
  rw [e_lc, hs, R.bind_ok, lcGo_fm dd g l (nx := (Src.ls k).nx) (fun i => by simp [Src.nx, hk]) step hl wmax 0 [] (Nat.zero_le _) (by have := wmax_lt hl; omega) (by simp)]
  simp [newL]
/-- all elements are kept -/
theorem lc_m {α : Type} (dd : α → D) (g : α → D) (l : List α) {F : Fn} {env : Env} {e : E} {t : Tg} {s : I} {own : List Nat} {S S' : Store}
    (hs : evI F env s S = .ok (.st (l.map dd)) S') (hl : l.length ≤ sizeLine)
    (step : ∀ x ∈ l, ∃ e', asgT S' t (dd x) (wipeE env own) = some e' ∧ evE F e' e S' = .ok (g x) S') :
    evE F env (.lc e t s .no own) S = .ok (.ref S'.length) (S' ++ [.lst (l.map g)]) := by
  rw [lc_fm dd (fun x => some (g x)) l hs hl fun x hx => ?_]
  · simp
  · obtain ⟨e', h1, h2⟩ := step x hx
    exact ⟨e', h1, .inl ⟨_, rfl, ot_no, h2⟩⟩
theorem lc_m_ls {α : Type} (dd : α → D) (g : α → D) (l : List α) {F : Fn} {env : Env} {e : E} {t : Tg} {s : I} {own : List Nat} {S S' : Store} {k : Nat}
    (hs : evI F env s S = .ok (.ls k) S') (hk : S'[k]? = some (.lst (l.map dd))) (hl : l.length ≤ sizeLine)
    (step : ∀ x ∈ l, ∃ e', asgT S' t (dd x) (wipeE env own) = some e' ∧ evE F e' e S' = .ok (g x) S') :
    evE F env (.lc e t s .no own) S = .ok (.ref S'.length) (S' ++ [.lst (l.map g)]) := by
  rw [lc_fm_ls dd (fun x => some (g x)) l hs hk hl fun x hx => ?_]
  · simp
  · obtain ⟨e', h1, h2⟩ := step x hx
    exact ⟨e', h1, .inl ⟨_, rfl, ot_no, h2⟩⟩
/-! ### loops by lists -/
theorem for_pre {α : Type} (dd : α → D) (l : List α) {F : Fn} {t : Tg} {s : I} {b : Ts} {env : Env} {S S' : Store} {N : Env → Store → Prop} {Q : D → Store → Prop}
    (hs : evI F env s S = .ok (.st (l.map dd)) S') (hl : l.length ≤ sizeLine) (I : List α → Env → Store → Prop) (h0 : I [] env S')
    (step : ∀ pre x post env S, l = pre ++ x :: post → I pre env S → ∃ env1, asgT S t (dd x) env = some env1 ∧ (exTs F b env1 S).satB (I (pre ++ [x])) N Q)
    (fin : ∀ env S, I l env S → N env S) : (exT F (.for_ t s b) env S).sat N Q := by
  refine for_sat hs (by simpa using hl) (fun i e S => I (l.take i) e S) (by simpa using h0) (fun i d e S hd hI => ?_) (fun e S hI => fin e S (by simpa using hI))
  have hi : i < l.length := by
    rcases Nat.lt_or_ge i l.length with h | h
    · exact h
    · rw [List.getElem?_eq_none (by simpa using h)] at hd; cases hd
  have hx : d = dd l[i] := by simp [hi] at hd; exact hd.symm
  subst hx
  obtain ⟨env1, h1, h2⟩ := step (l.take i) l[i] (l.drop (i + 1)) e S (by rw [List.getElem_cons_drop, List.take_append_drop]) hI
  rw [← List.take_succ_eq_append_getElem hi] at h2
  exact ⟨env1, h1, h2⟩
end PD.PS
end

section
set_option linter.all false
/-! PDlaw2: more defs that many laws share (printed by gen.py from the linked texts). -/
namespace PD
open PySem
def d_counted : Def := ⟨2, 2, (.cons (.ret (.ife (.cmp .Gt (.slot 0) (.cst (.int 0))) (.bin .Add (.tup (.cons (.slot 0) .nil)) (.bin .Mult (.tup (.cons (.cst (.int 0)) .nil)) (.slot 1))) (.tup .nil))) .nil)⟩
def d_added_up : Def := ⟨1, 3, (.cons (.asg (.nm 1) (.tup .nil)) (.cons (.for_ (.nm 2) (.any (.slot 0)) (.cons (.asg (.nm 1) (.call 7 (.cons (.slot 1) (.cons (.slot 2) .nil)))) .nil)) (.cons (.ret (.slot 1)) .nil)))⟩
def d_degree_of : Def := ⟨1, 1, (.cons (.ret (.bin .Sub (.blt .len (.cons (.slot 0) .nil)) (.cst (.int 1)))) .nil)⟩
def d_often_number : Def := ⟨2, 2, (.cons (.iff (.or (.cmp .Eq (.slot 1) (.cst (.int 0))) (.cmp .Eq (.blt .len (.cons (.slot 0) .nil)) (.cst (.int 0)))) (.cons (.ret (.tup .nil)) .nil) .nil) (.cons (.ret (.bin .Add (.tup (.cons (.bin .Mult (.ix (.slot 0) (.cst (.int 0))) (.slot 1)) .nil)) (.slc (.slot 0) (.so (.cst (.int 1))) .no))) .nil))⟩
def d_product : Def := ⟨2, 6, (.cons (.iff (.or (.cmp .Eq (.blt .len (.cons (.slot 0) .nil)) (.cst (.int 0))) (.cmp .Eq (.blt .len (.cons (.slot 1) .nil)) (.cst (.int 0)))) (.cons (.ret (.tup .nil)) .nil) .nil) (.cons (.asg (.nm 2) (.lst .nil)) (.cons (.for_ (.tp (.cons (.nm 3) (.cons (.nm 4) .nil))) (.enu (.slot 1)) (.cons (.asg (.nm 5) (.bin .Sub (.bin .Sub (.blt .len (.cons (.slot 1) .nil)) (.cst (.int 1))) (.slot 3))) (.cons (.iff (.and (.cmp .Gt (.slot 4) (.cst (.int 0))) (.cmp .Gt (.slot 5) (.cst (.int 0)))) (.cons (.exp (.mth .append (.slot 2) (.cons (.call 25 (.cons (.slot 4) (.cons (.bin .Add (.call 26 (.cons (.slot 0) .nil)) (.slot 5)) .nil))) .nil))) .nil) (.cons (.iff (.cmp .Gt (.slot 4) (.cst (.int 0))) (.cons (.exp (.mth .append (.slot 2) (.cons (.call 27 (.cons (.slot 0) (.cons (.slot 4) .nil))) .nil))) .nil) .nil) .nil)) .nil))) (.cons (.ret (.call 28 (.cons (.slot 2) .nil))) .nil))))⟩
def d_times : Def := ⟨2, 2, (.cons (.exp (.call 5 (.cons (.lst (.cons (.slot 0) (.cons (.slot 1) .nil))) .nil))) (.cons (.ret (.call 6 (.cons (.call 29 (.cons (.slot 0) (.cons (.slot 1) .nil))) .nil))) .nil))⟩
def d__law_ones : Def := ⟨2, 2, (.cons (.ret (.ife (.cmp .Gt (.slot 1) (.cst (.int 0))) (.bin .Add (.tup (.cons (.slot 1) .nil)) (.bin .Mult (.tup (.cons (.cst (.int 0)) .nil)) (.slot 0))) (.tup .nil))) .nil)⟩
def d__law_times : Def := ⟨2, 5, (.cons (.asg (.nm 2) (.tup .nil)) (.cons (.iff (.cmp .Eq (.blt .len (.cons (.slot 0) .nil)) (.cst (.int 0))) (.cons (.ret (.slot 2)) .nil) .nil) (.cons (.for_ (.nm 3) (.rng1 (.blt .len (.cons (.slot 1) .nil))) (.cons (.asg (.nm 4) (.bin .Sub (.bin .Sub (.blt .len (.cons (.slot 1) .nil)) (.cst (.int 1))) (.slot 3))) (.cons (.iff (.cmp .Gt (.slot 4) (.cst (.int 0))) (.cons (.asg (.nm 2) (.call 19 (.cons (.slot 2) (.cons (.call 30 (.cons (.bin .Add (.bin .Sub (.blt .len (.cons (.slot 0) .nil)) (.cst (.int 1))) (.slot 4)) (.cons (.ix (.slot 1) (.slot 3)) .nil))) .nil)))) .nil) (.cons (.iff (.cmp .Gt (.ix (.slot 1) (.slot 3)) (.cst (.int 0))) (.cons (.asg (.nm 2) (.call 19 (.cons (.slot 2) (.cons (.bin .Add (.tup (.cons (.bin .Mult (.ix (.slot 0) (.cst (.int 0))) (.ix (.slot 1) (.slot 3))) .nil)) (.slc (.slot 0) (.so (.cst (.int 1))) .no)) .nil)))) .nil) .nil) .nil)) .nil))) (.cons (.ret (.slot 2)) .nil))))⟩
end PD
end

section
set_option linter.all false
/-! PDlaw3: defs of terms that many laws share (printed by gen.py from the linked texts). -/
namespace PD
open PySem
def d_is_sign : Def := ⟨1, 1, (.cons (.ret (.and (.isi (.slot 0) .str) (.and (.cmp .Eq (.blt .len (.cons (.slot 0) .nil)) (.cst (.int 1))) (.cmp .In (.slot 0) (.cst (.str ("abcdefghijklmnopqrstuvwxyz" : PySem.Str))))))) .nil)⟩
def d_signs_below : Def := ⟨3, 6, (.cons (.iff (.not (.isi (.slot 0) .tuple)) (.cons (.ret (.cst .non)) .nil) .nil) (.cons (.asg (.nm 3) (.cst (.int 0))) (.cons (.for_ (.nm 4) (.any (.slot 0)) (.cons (.iff (.isi (.slot 4) .str) (.cons (.iff (.not (.call 33 (.cons (.slot 4) .nil))) (.cons (.ret (.cst .non)) .nil) .nil) (.cons (.aug 3 .Add (.cst (.int 1))) .nil)) (.cons (.asg (.nm 5) (.ife (.and (.cmp .Gt (.slot 1) (.cst (.int 0))) (.cmp .NotEq (.slot 4) (.tup .nil))) (.call 34 (.cons (.slot 4) (.cons (.bin .Sub (.slot 1) (.cst (.int 1))) (.cons (.bin .Sub (.slot 2) (.slot 3)) .nil)))) (.cst .non))) (.cons (.iff (.cmp .Is (.slot 5) (.cst .non)) (.cons (.ret (.cst .non)) .nil) .nil) (.cons (.aug 3 .Add (.slot 5)) .nil)))) (.cons (.iff (.cmp .Gt (.slot 3) (.slot 2)) (.cons (.ret (.cst .non)) .nil) .nil) .nil))) (.cons (.ret (.slot 3)) .nil))))⟩
def d_is_long_term : Def := ⟨2, 2, (.cons (.ret (.cmp .IsNot (.call 34 (.cons (.slot 0) (.cons (.cst (.int 6)) (.cons (.slot 1) .nil)))) (.cst .non))) .nil)⟩
def d_is_term : Def := ⟨1, 1, (.cons (.ret (.call 35 (.cons (.slot 0) (.cons (.cst (.int 400)) .nil)))) .nil)⟩
def d_need_terms : Def := ⟨1, 2, (.cons (.for_ (.nm 1) (.any (.slot 0)) (.cons (.iff (.not (.call 36 (.cons (.slot 1) .nil))) (.cons .nev .nil) .nil) .nil)) .nil)⟩
def d_item_length : Def := ⟨1, 1, (.cons (.ret (.ife (.isi (.slot 0) .str) (.tup (.cons (.cst (.int 1)) .nil)) (.call 29 (.cons (.call 37 (.cons (.slot 0) .nil)) (.cons (.tup (.cons (.cst (.int 1)) (.cons (.cst (.int 0)) .nil))) .nil))))) .nil)⟩
def d_row_length : Def := ⟨1, 2, (.cons (.ret (.call 28 (.cons (.lc (.call 38 (.cons (.slot 1) .nil)) (.nm 1) (.any (.slot 0)) .no [1]) .nil))) .nil)⟩
def d_length : Def := ⟨1, 1, (.cons (.exp (.call 39 (.cons (.lst (.cons (.slot 0) .nil)) .nil))) (.cons (.ret (.call 37 (.cons (.slot 0) .nil))) .nil))⟩
def d_height : Def := ⟨1, 1, (.cons (.exp (.call 39 (.cons (.lst (.cons (.slot 0) .nil)) .nil))) (.cons (.ret (.call 26 (.cons (.call 37 (.cons (.slot 0) .nil)) .nil))) .nil))⟩
def d__law_some : Def := ⟨2, 2, (.cons (.ret (.ix (.slot 1) (.call 9 (.cons (.slot 0) (.cons (.blt .len (.cons (.slot 1) .nil)) .nil))))) .nil)⟩
def d__law_long : Def := ⟨1, 3, (.cons (.asg (.nm 1) (.tup .nil)) (.cons (.for_ (.nm 2) (.any (.slot 0)) (.cons (.asg (.nm 1) (.call 19 (.cons (.slot 1) (.cons (.ife (.isi (.slot 2) .str) (.tup (.cons (.cst (.int 1)) .nil)) (.call 30 (.cons (.blt .len (.cons (.call 40 (.cons (.slot 2) .nil)) .nil)) (.cons (.cst (.int 1)) .nil)))) .nil)))) .nil)) (.cons (.ret (.slot 1)) .nil)))⟩
def d__law_count : Def := ⟨1, 2, (.cons (.ret (.blt .sum (.cons (.lc (.ife (.isi (.slot 1) .str) (.cst (.int 1)) (.call 41 (.cons (.slot 1) .nil))) (.nm 1) (.any (.slot 0)) .no [1]) .nil))) .nil)⟩
def d__law_deep : Def := ⟨1, 2, (.cons (.ret (.blt .max (.cons (.bin .Add (.lst (.cons (.cst (.int 0)) .nil)) (.lc (.bin .Add (.cst (.int 1)) (.call 42 (.cons (.slot 1) .nil))) (.nm 1) (.any (.slot 0)) (.so (.not (.isi (.slot 1) .str))) [1])) .nil))) .nil)⟩
def d__law_row : Def := ⟨4, 8, (.cons (.asg (.tp (.cons (.nm 5) (.cons (.nm 6) .nil))) (.tup (.cons (.lst .nil) (.cons (.slot 3) .nil)))) (.cons (.for_ (.nm 4) (.rng1 (.bin .Add (.cst (.int 1)) (.call 9 (.cons (.slot 0) (.cons (.cst (.int 4)) .nil))))) (.cons (.iff (.and (.cmp .Gt (.slot 6) (.cst (.int 0))) (.and (.cmp .Gt (.slot 2) (.cst (.int 0))) (.cmp .Lt (.call 9 (.cons (.slot 0) (.cons (.cst (.int 5)) .nil))) (.cst (.int 2))))) (.cons (.asg (.nm 7) (.call 43 (.cons (.slot 0) (.cons (.slot 1) (.cons (.bin .Sub (.slot 2) (.cst (.int 1))) (.cons (.bin .Add (.cst (.int 1)) (.call 9 (.cons (.slot 0) (.cons (.slot 6) .nil)))) .nil)))))) (.cons (.exp (.mth .append (.slot 5) (.cons (.slot 7) .nil))) (.cons (.asg (.nm 6) (.bin .Sub (.slot 6) (.call 41 (.cons (.slot 7) .nil)))) .nil))) (.cons (.iff (.cmp .Gt (.slot 6) (.cst (.int 0))) (.cons (.exp (.mth .append (.slot 5) (.cons (.call 24 (.cons (.slot 0) (.cons (.slot 1) .nil))) .nil))) (.cons (.asg (.nm 6) (.bin .Sub (.slot 6) (.cst (.int 1)))) .nil)) .nil) .nil)) .nil)) (.cons (.ret (.blt .tuple (.cons (.slot 5) .nil))) .nil)))⟩
def d__law_signs : Def := ⟨2, 6, (.cons (.asg (.tp (.cons (.nm 3) (.cons (.nm 4) .nil))) (.tup (.cons (.cst (.str ("abcdefghijklmnopqrstuvwxyz" : PySem.Str))) (.cons (.lst .nil) .nil)))) (.cons (.for_ (.nm 2) (.rng1 (.bin .Add (.cst (.int 1)) (.call 9 (.cons (.slot 0) (.cons (.slot 1) .nil))))) (.cons (.asg (.nm 5) (.ix (.slot 3) (.call 9 (.cons (.slot 0) (.cons (.cst (.int 26)) .nil))))) (.cons (.iff (.cmp .NotIn (.slot 5) (.slot 4)) (.cons (.exp (.mth .append (.slot 4) (.cons (.slot 5) .nil))) .nil) .nil) .nil))) (.cons (.ret (.blt .sorted (.cons (.slot 4) .nil))) .nil)))⟩
def d__law_term : Def := ⟨4, 7, (.cons (.asg (.nm 4) (.call 9 (.cons (.slot 0) (.cons (.cst (.int 12)) .nil)))) (.cons (.iff (.cmp .Eq (.slot 4) (.cst (.int 0))) (.cons (.ret (.tup .nil)) .nil) .nil) (.cons (.iff (.cmp .Lt (.slot 4) (.cst (.int 3))) (.cons (.ret (.blt .tuple (.cons (.lc (.call 24 (.cons (.slot 0) (.cons (.slot 1) .nil))) (.nm 6) (.rng1 (.bin .Add (.cst (.int 1)) (.call 9 (.cons (.slot 0) (.cons (.blt .min (.cons (.cst (.int 5)) (.cons (.slot 3) .nil))) .nil))))) .no [6]) .nil))) .nil) .nil) (.cons (.asg (.nm 5) (.call 43 (.cons (.slot 0) (.cons (.slot 1) (.cons (.slot 2) (.cons (.ife (.cmp .Lt (.slot 4) (.cst (.int 6))) (.blt .max (.cons (.cst (.int 1)) (.cons (.bin .FloorDiv (.slot 3) (.cst (.int 2))) .nil))) (.slot 3)) .nil)))))) (.cons (.iff (.cmp .Eq (.slot 4) (.cst (.int 3))) (.cons (.ret (.bin .Add (.slot 5) (.slot 5))) .nil) .nil) (.cons (.ret (.ife (.and (.cmp .Lt (.slot 4) (.cst (.int 6))) (.cmp .Gt (.slot 2) (.call 42 (.cons (.slot 5) .nil)))) (.tup (.cons (.slot 5) .nil)) (.slot 5))) .nil))))))⟩
def d__law_wide_term : Def := ⟨2, 7, (.cons (.asg (.nm 2) (.call 44 (.cons (.slot 0) (.cons (.cst (.int 5)) .nil)))) (.cons (.asg (.nm 3) (.call 9 (.cons (.slot 0) (.cons (.cst (.int 6)) .nil)))) (.cons (.iff (.cmp .Lt (.slot 3) (.cst (.int 3))) (.cons (.ret (.call 45 (.cons (.slot 0) (.cons (.slot 2) (.cons (.call 9 (.cons (.slot 0) (.cons (.cst (.int 7)) .nil))) (.cons (.bin .Add (.cst (.int 1)) (.call 9 (.cons (.slot 0) (.cons (.blt .min (.cons (.slot 1) (.cons (.cst (.int 40)) .nil))) .nil)))) .nil)))))) .nil) .nil) (.cons (.asg (.nm 4) (.call 43 (.cons (.slot 0) (.cons (.slot 2) (.cons (.call 9 (.cons (.slot 0) (.cons (.cst (.int 4)) .nil))) (.cons (.bin .Add (.cst (.int 1)) (.call 9 (.cons (.slot 0) (.cons (.cst (.int 8)) .nil)))) .nil)))))) (.cons (.asg (.nm 5) (.bin .Add (.cst (.int 1)) (.call 9 (.cons (.slot 0) (.cons (.blt .max (.cons (.cst (.int 1)) (.cons (.bin .FloorDiv (.slot 1) (.call 41 (.cons (.slot 4) .nil))) .nil))) .nil))))) (.cons (.iff (.cmp .Eq (.slot 3) (.cst (.int 3))) (.cons (.ret (.ife (.cmp .LtE (.bin .Mult (.call 41 (.cons (.slot 4) .nil)) (.slot 5)) (.slot 1)) (.bin .Mult (.slot 4) (.slot 5)) (.slot 4))) .nil) .nil) (.cons (.for_ (.nm 6) (.rng1 (.call 9 (.cons (.slot 0) (.cons (.bin .Sub (.cst (.int 7)) (.call 42 (.cons (.slot 4) .nil))) .nil)))) (.cons (.asg (.nm 4) (.ife (.or (.cmp .Eq (.call 9 (.cons (.slot 0) (.cons (.cst (.int 2)) .nil))) (.cst (.int 0))) (.cmp .GtE (.call 41 (.cons (.slot 4) .nil)) (.slot 1))) (.tup (.cons (.slot 4) .nil)) (.tup (.cons (.bin .Add (.slot 4) (.tup (.cons (.call 24 (.cons (.slot 0) (.cons (.slot 2) .nil))) .nil))) .nil)))) .nil)) (.cons (.ret (.ife (.cmp .LtE (.call 41 (.cons (.slot 4) .nil)) (.slot 1)) (.slot 4) (.tup .nil))) .nil))))))))⟩
def d_count_signs : Def := ⟨1, 2, (.cons (.ret (.blt .sum (.cons (.lc (.ife (.isi (.slot 1) .str) (.cst (.int 1)) (.call 49 (.cons (.slot 1) .nil))) (.nm 1) (.any (.slot 0)) .no [1]) .nil))) .nil)⟩
def d_signs_in : Def := ⟨1, 1, (.cons (.exp (.call 39 (.cons (.lst (.cons (.slot 0) .nil)) .nil))) (.cons (.ret (.call 49 (.cons (.slot 0) .nil))) .nil))⟩
def d_deep_of : Def := ⟨1, 2, (.cons (.ret (.blt .max (.cons (.lst (.cons (.cst (.int 0)) (.star (.lc (.bin .Add (.cst (.int 1)) (.call 50 (.cons (.slot 1) .nil))) (.nm 1) (.any (.slot 0)) (.so (.not (.isi (.slot 1) .str))) [1]) .nil))) .nil))) .nil)⟩
def d_deep : Def := ⟨1, 1, (.cons (.exp (.call 39 (.cons (.lst (.cons (.slot 0) .nil)) .nil))) (.cons (.ret (.call 50 (.cons (.slot 0) .nil))) .nil))⟩
def d_row_text : Def := ⟨1, 2, (.cons (.ret (.mth .join (.cst (.str ("" : PySem.Str))) (.cons (.lc (.ife (.isi (.slot 1) .str) (.slot 1) (.bin .Add (.bin .Add (.cst (.str ("(" : PySem.Str))) (.call 51 (.cons (.slot 1) .nil))) (.cst (.str (")" : PySem.Str))))) (.nm 1) (.any (.slot 0)) .no [1]) .nil))) .nil)⟩
def d_term_text : Def := ⟨1, 1, (.cons (.exp (.call 39 (.cons (.lst (.cons (.slot 0) .nil)) .nil))) (.cons (.ret (.call 51 (.cons (.slot 0) .nil))) .nil))⟩
def d_read_term : Def := ⟨1, 6, (.cons (.iff (.not (.isi (.slot 0) .str)) (.cons .nev .nil) .nil) (.cons (.asg (.nm 1) (.lst (.cons (.lst .nil) .nil))) (.cons (.for_ (.tp (.cons (.nm 3) (.cons (.nm 4) .nil))) (.enu (.slot 0)) (.cons (.iff (.cmp .Eq (.slot 4) (.cst (.str ("(" : PySem.Str)))) (.cons (.exp (.mth .append (.slot 1) (.cons (.lst .nil) .nil))) .nil) (.cons (.iff (.cmp .Eq (.slot 4) (.cst (.str (")" : PySem.Str)))) (.cons (.iff (.or (.cmp .Eq (.blt .len (.cons (.slot 1) .nil)) (.cst (.int 1))) (.cmp .Eq (.blt .len (.cons (.ix (.slot 1) (.un .USub (.cst (.int 1)))) .nil)) (.cst (.int 0)))) (.cons .nev .nil) .nil) (.cons (.asg (.nm 5) (.blt .tuple (.cons (.mth .pop (.slot 1) .nil) .nil))) (.cons (.exp (.mth .append (.ix (.slot 1) (.un .USub (.cst (.int 1)))) (.cons (.slot 5) .nil))) .nil))) (.cons (.iff (.call 33 (.cons (.slot 4) .nil)) (.cons (.exp (.mth .append (.ix (.slot 1) (.un .USub (.cst (.int 1)))) (.cons (.slot 4) .nil))) .nil) (.cons .nev .nil)) .nil)) .nil)) .nil)) (.cons (.iff (.cmp .Gt (.blt .len (.cons (.slot 1) .nil)) (.cst (.int 1))) (.cons .nev .nil) .nil) (.cons (.asg (.nm 2) (.blt .tuple (.cons (.ix (.slot 1) (.cst (.int 0))) .nil))) (.cons (.exp (.call 39 (.cons (.lst (.cons (.slot 2) .nil)) .nil))) (.cons (.ret (.slot 2)) .nil)))))))⟩
def d__law_text : Def := ⟨1, 2, (.cons (.ret (.mth .join (.cst (.str ("" : PySem.Str))) (.cons (.lc (.ife (.isi (.slot 1) .str) (.slot 1) (.bin .Add (.bin .Add (.cst (.str ("(" : PySem.Str))) (.call 52 (.cons (.slot 1) .nil))) (.cst (.str (")" : PySem.Str))))) (.nm 1) (.any (.slot 0)) .no [1]) .nil))) .nil)⟩
def d__law_is_ordinal : Def := ⟨1, 2, (.cons (.iff (.or (.not (.isi (.slot 0) .tuple)) (.cmp .Gt (.blt .len (.cons (.slot 0) .nil)) (.cst (.int 16)))) (.cons (.ret (.cst (.bl false))) .nil) .nil) (.cons (.for_ (.nm 1) (.any (.slot 0)) (.cons (.iff (.or (.not (.isi (.slot 1) .int)) (.or (.isi (.slot 1) .bool) (.or (.cmp .Lt (.slot 1) (.cst (.int 0))) (.cmp .GtE (.slot 1) (.bin .Pow (.cst (.int 10)) (.cst (.int 40))))))) (.cons (.ret (.cst (.bl false))) .nil) .nil) .nil)) (.cons (.ret (.or (.cmp .Eq (.blt .len (.cons (.slot 0) .nil)) (.cst (.int 0))) (.cmp .Gt (.ix (.slot 0) (.cst (.int 0))) (.cst (.int 0))))) .nil)))⟩
end PD
end

section
set_option linter.all false
set_option maxRecDepth 100000
set_option maxHeartbeats 1000000
/-! PDtm: terms as data; what is kept of any plain data; counts and depths. -/
namespace PD.PS
open PySem
/-! ### plain data is kept -/
mutual
def D.dp : D → Nat
  | .tup ds => D.dps ds + 1
  | _ => 0
def D.dps : List D → Nat
  | [] => 0
  | d :: ds => max (D.dp d) (D.dps ds)
end
mutual
def D.pl : D → Bool
  | .tup ds => decide (ds.length ≤ 1000000) && D.pls ds
  | .rol _ => false
  | .ref _ => false
  | .fnv _ => false
  | .str s => PyData.strOk s
  | _ => true
def D.pls : List D → Bool
  | [] => true
  | d :: ds => D.pl d && D.pls ds
end
theorem dps_mem {d : D} : ∀ {ds : List D}, d ∈ ds → D.dp d ≤ D.dps ds
  | e :: ds, h => by
    simp only [D.dps]
    rcases List.mem_cons.1 h with rfl | h
    · omega
    · have := dps_mem h; omega
theorem pls_mem {d : D} : ∀ {ds : List D}, d ∈ ds → D.pls ds = true → D.pl d = true
  | e :: ds, h, q => by
    simp only [D.pls, Bool.and_eq_true] at q
    rcases List.mem_cons.1 h with rfl | h
    · exact q.1
    · exact pls_mem h q.2
theorem opEq_str (s t : Str) (S : Store) (hs : PyData.strOk s = true) (ht : PyData.strOk t = true) : opEq (.str s) (.str t) S = .ok (decide (s = t)) S := by
  simp [opEq, toPy, D.py, SeqAt.shaped, PyData.canLay0, PyData.depth, PyData.eqv, hs, ht]
  by_cases h : s = t <;> simp [h]
theorem opEq_strS (s : Str) (S : Store) (hs : PyData.strOk s = true) : opEq (.str s) (.str s) S = .ok true S := by
  rw [opEq_str _ _ _ hs hs, decide_eq_true rfl]
theorem opEq_blS (s : Bool) (S : Store) : opEq (.bl s) (.bl s) S = .ok true S := by
  rw [opEq_bl, decide_eq_true rfl]
section
variable {T : Tab} {n : Nat} {S : Store}
theorem kept_bl (hT : T 15 = some d__law_kept) (x : Bool) : callN T (n + 1) 15 [.bl x, .bl x] S = .ok (.bl true) S := by
  apply call_pure0 hT rfl
  cases x <;> simp [d__law_kept]
theorem kept_str (hT : T 15 = some d__law_kept) (x : Str) (hx : PyData.strOk x = true) : callN T (n + 1) 15 [.str x, .str x] S = .ok (.bl true) S := by
  apply call_pure0 hT rfl
  simp [d__law_kept, opEq_strS x _ hx]
theorem kept_data (hT : T 15 = some d__law_kept) : ∀ (k : Nat) (d : D) (S : Store), D.dp d ≤ k → D.pl d = true → callN T (n + k + 1) 15 [d, d] S = .ok (.bl true) S
  | k, .non, S, _, _ => kept_non hT
  | k, .bl b, S, _, _ => kept_bl hT b
  | k, .int i, S, _, _ => kept_int hT i
  | k, .str s, S, _, h => kept_str hT s (by simpa [D.pl] using h)
  | k, .rol _, S, _, h => by simp [D.pl] at h
  | k, .ref _, S, _, h => by simp [D.pl] at h
  | k, .fnv _, S, _, h => by simp [D.pl] at h
  | 0, .tup ds, S, h, _ => by simp [D.dp] at h
  | k + 1, .tup ds, S, h, hp => by
    simp only [D.pl, Bool.and_eq_true, decide_eq_true_eq] at hp
    obtain ⟨hl, hp⟩ := hp
    simp only [D.dp] at h
    have hlen : ∀ S, opBlt .len [.tup ds] S = .ok (.int ds.length) S := fun S => rfl
    have hrg := rng1_sat (F := callN T (n + k + 1)) (env := [some (.tup ds), some (.tup ds), none]) (e := .blt .len (.cons (.slot 1) .nil)) (k := ds.length) (S := S) (S' := S) (by simp [hlen]) (by omega) (by omega)
    rw [Int.toNat_natCast] at hrg
    have hlc : evE (callN T (n + k + 1)) [some (.tup ds), some (.tup ds), none] (.lc (.call 15 (.cons (.ix (.slot 0) (.slot 2)) (.cons (.ix (.slot 1) (.slot 2)) .nil))) (.nm 2) (.rng1 (.blt .len (.cons (.slot 1) .nil))) .no [2]) S = .ok (.ref S.length) (S ++ [.lst ((List.replicate ds.length true).map .bl)]) := by
      rw [lc_map (fun k => .bl true) hrg (by rw [rangeD_len]; exact le_sz (by omega)) ?_, rangeD_len, map_const_range, List.map_replicate]
      intro j d hd
      simp at hd
      obtain ⟨hk, rfl⟩ := hd
      refine ⟨_, g_nm _ _, by simp, ?_⟩
      have h1 : ∀ S, opIx (.tup ds) (.int (j : Int)) S = .ok ds[j] S := fun S => by
        simp [opIx, dicOf, opIx0, atI_nat ds j ds[j] (List.getElem?_eq_getElem hk)]
      have hm : ds[j] ∈ ds := List.getElem_mem hk
      have h2 := kept_data hT k ds[j] S (by have := dps_mem hm; omega) (pls_mem hm hp)
      simp [wipeE, h1, h2]
    apply call_pure hT rfl (lt_bl _ _) (G := [.lst ((List.replicate ds.length true).map .bl)])
    have h5 : (List.replicate ds.length true).all id = true := by simp
    have h6 : evE (callN T (n + k + 1)) [some (.tup ds), some (.tup ds), none] (.cmp .Eq (.blt .len (.cons (.slot 0) .nil)) (.blt .len (.cons (.slot 1) .nil))) S = .ok (.bl true) S := by
      simp only [e_cmp, e_blt, es_cons, es_nil, e_slot, List.getElem?_cons_succ, List.getElem?_cons_zero, R.bind_ok, hlen, c_eq, opEq_self, R.map_ok]
    show exTs (callN T (n + k + 1)) d__law_kept.body [some (.tup ds), some (.tup ds), none] S = _
    simp only [d__law_kept, xs_cons, x_iff, t_or, t_isi, t_cmp, e_isi, e_slot, List.getElem?_cons_succ, List.getElem?_cons_zero, R.bind_ok, ty_tup, if_true, R.out_ok, c_ne, opEq_bl, R.map_ok, decide_true, Bool.not_true, Bool.false_eq_true, if_false, Out.thn_nx, xs_nil, x_ret]
    rw [e_and_true h6]
    simp only [e_blt, es_cons, es_nil, R.bind_ok, hlc, f_allr, items_ref, get_end, bls_bls, h5, R.out_ok, Out.thn_rt]
end
/-! ### terms -/
inductive It where
  | sg (s : Str) | ev (r : List It)
abbrev Rw := List It
mutual
def It.d : It → D
  | .sg s => .str s
  | .ev r => .tup (rowDs r)
def rowDs : List It → List D
  | [] => []
  | x :: xs => It.d x :: rowDs xs
end
def rowD (r : Rw) : D := .tup (rowDs r)
theorem rowDs_map : ∀ r : Rw, rowDs r = r.map It.d
  | [] => by simp [rowDs]
  | x :: r => by simp [rowDs, rowDs_map r]
@[simp] theorem rowDs_len (r : Rw) : (rowDs r).length = r.length := by simp [rowDs_map]
@[simp] theorem rowDs_app (r q : Rw) : rowDs (r ++ q) = rowDs r ++ rowDs q := by simp [rowDs_map]
@[simp] theorem rowDs_nil : rowDs [] = [] := by simp [rowDs]
@[simp] theorem rowDs_cons (x : It) (r : Rw) : rowDs (x :: r) = x.d :: rowDs r := by simp [rowDs]
@[simp] theorem It.d_sg (s : Str) : (It.sg s).d = .str s := by simp [It.d]
@[simp] theorem It.d_ev (r : Rw) : (It.ev r).d = rowD r := by simp [It.d, rowD]
mutual
def It.cnt : It → Nat
  | .sg _ => 1
  | .ev r => cntR r
def cntR : List It → Nat
  | [] => 0
  | x :: xs => It.cnt x + cntR xs
end
mutual
def It.dep : It → Nat
  | .sg _ => 0
  | .ev r => depR r + 1
def depR : List It → Nat
  | [] => 0
  | x :: xs => max (It.dep x) (depR xs)
end
/-- a sign -/
def isSg (s : Str) : Prop := ∃ c : Nat, 97 ≤ c ∧ c < 123 ∧ s = ⟨#[c]⟩
mutual
def It.ok : It → Prop
  | .sg s => isSg s
  | .ev r => r ≠ [] ∧ okR r
def okR : List It → Prop
  | [] => True
  | x :: xs => It.ok x ∧ okR xs
end
@[simp] theorem cnt_sg (s : Str) : (It.sg s).cnt = 1 := by simp [It.cnt]
@[simp] theorem cnt_ev (r : Rw) : (It.ev r).cnt = cntR r := by simp [It.cnt]
@[simp] theorem cnt_nil : cntR [] = 0 := by simp [cntR]
@[simp] theorem cnt_cons (x : It) (r : Rw) : cntR (x :: r) = x.cnt + cntR r := by simp [cntR]
@[simp] theorem cnt_app : ∀ r q : Rw, cntR (r ++ q) = cntR r + cntR q
  | [], q => by simp
  | x :: r, q => by simp [cnt_app r q, Nat.add_assoc]
theorem cnt_sum : ∀ r : Rw, cntR r = (r.map It.cnt).sum
  | [] => by simp
  | x :: r => by simp [cnt_sum r]
@[simp] theorem dep_sg (s : Str) : (It.sg s).dep = 0 := by simp [It.dep]
@[simp] theorem dep_ev (r : Rw) : (It.ev r).dep = depR r + 1 := by simp [It.dep]
@[simp] theorem dep_nil : depR [] = 0 := by simp [depR]
@[simp] theorem dep_cons (x : It) (r : Rw) : depR (x :: r) = max x.dep (depR r) := by simp [depR]
@[simp] theorem dep_app : ∀ r q : Rw, depR (r ++ q) = max (depR r) (depR q)
  | [], q => by simp
  | x :: r, q => by simp [dep_app r q]; try omega
theorem dep_mem {x : It} : ∀ {r : Rw}, x ∈ r → x.dep ≤ depR r
  | y :: r, h => by
    simp only [dep_cons]
    rcases List.mem_cons.1 h with rfl | h
    · omega
    · have := dep_mem h; omega
theorem cnt_mem {x : It} : ∀ {r : Rw}, x ∈ r → x.cnt ≤ cntR r
  | y :: r, h => by
    simp only [cnt_cons]
    rcases List.mem_cons.1 h with rfl | h
    · omega
    · have := cnt_mem h; omega
@[simp] theorem ok_sg (s : Str) : (It.sg s).ok ↔ isSg s := by simp [It.ok]
@[simp] theorem ok_ev (r : Rw) : (It.ev r).ok ↔ r ≠ [] ∧ okR r := by simp [It.ok]
@[simp] theorem ok_nil : okR [] := by simp [okR]
@[simp] theorem ok_cons (x : It) (r : Rw) : okR (x :: r) ↔ x.ok ∧ okR r := by simp [okR]
theorem ok_iff : ∀ r : Rw, okR r ↔ ∀ x ∈ r, x.ok
  | [] => by simp
  | x :: r => by simp [ok_iff r]
theorem ok_app (r q : Rw) : okR (r ++ q) ↔ okR r ∧ okR q := by
  simp only [ok_iff, List.mem_append]
  exact ⟨fun h => ⟨fun x hx => h x (.inl hx), fun x hx => h x (.inr hx)⟩, fun ⟨a, b⟩ x hx => hx.elim (a x) (b x)⟩
theorem ok_mem {x : It} {r : Rw} (h : okR r) (hx : x ∈ r) : x.ok := (ok_iff r).1 h x hx
mutual
theorem It.cnt_pos : ∀ x : It, x.ok → 1 ≤ x.cnt
  | .sg s, _ => by simp
  | .ev r, h => by
    simp only [ok_ev] at h
    have := len_le_cnt r h.2
    have : r.length ≠ 0 := fun e => h.1 (List.eq_nil_of_length_eq_zero e)
    simp only [cnt_ev]
    omega
theorem len_le_cnt : ∀ r : List It, okR r → r.length ≤ cntR r
  | [], _ => by simp
  | x :: r, h => by
    simp only [ok_cons] at h
    have h1 := It.cnt_pos x h.1
    have h2 := len_le_cnt r h.2
    simp only [List.length_cons, cnt_cons]
    omega
end
mutual
theorem It.lt0 : ∀ (n : Nat) (x : It), D.lt n x.d = true
  | n, .sg s => by simp [D.lt]
  | n, .ev r => by simp only [It.d_ev, rowD, D.lt]; exact rows_lt n r
theorem rows_lt : ∀ (n : Nat) (r : List It), D.lts n (rowDs r) = true
  | n, [] => by simp [D.lts]
  | n, x :: r => by simp [D.lts, It.lt0 n x, rows_lt n r]
end
@[simp] theorem row_lt (n : Nat) (r : Rw) : D.lt n (rowD r) = true := by simp only [rowD, D.lt]; exact rows_lt n r
mutual
theorem It.dpd : ∀ x : It, D.dp x.d ≤ x.dep
  | .sg s => by simp [D.dp]
  | .ev r => by simp only [It.d_ev, rowD, D.dp, dep_ev]; have := rows_dp r; omega
theorem rows_dp : ∀ r : List It, D.dps (rowDs r) ≤ depR r
  | [] => by simp [D.dps]
  | x :: r => by
    have h1 := It.dpd x
    have h2 := rows_dp r
    simp only [rowDs_cons, D.dps, dep_cons]
    omega
end
theorem sg_ok {s : Str} (h : isSg s) : PyData.strOk s = true := by
  obtain ⟨c, h1, h2, rfl⟩ := h
  simp [PyData.strOk]
  omega
mutual
theorem It.pld : ∀ x : It, x.ok → x.cnt ≤ 1000000 → D.pl x.d = true
  | .sg s, h, _ => by simp [D.pl]; exact sg_ok (by simpa using h)
  | .ev r, h, hc => by
    simp only [ok_ev, cnt_ev] at h hc
    have := len_le_cnt r h.2
    simp only [It.d_ev, rowD, D.pl, rowDs_len, Bool.and_eq_true, decide_eq_true_eq]
    exact ⟨by omega, rows_pl r h.2 hc⟩
theorem rows_pl : ∀ r : List It, okR r → cntR r ≤ 1000000 → D.pls (rowDs r) = true
  | [], _, _ => by simp [D.pls]
  | x :: r, h, hc => by
    simp only [ok_cons, cnt_cons] at h hc
    simp only [rowDs_cons, D.pls, Bool.and_eq_true]
    exact ⟨It.pld x h.1 (by omega), rows_pl r h.2 (by omega)⟩
end
theorem kept_row {T : Tab} {n : Nat} (hT : T 15 = some d__law_kept) (r : Rw) (h : okR r) (hc : cntR r ≤ 1000000) (hd : depR r ≤ 8) (S : Store) : callN T (n + 10) 15 [rowD r, rowD r] S = .ok (.bl true) S := by
  have h1 := rows_dp r
  have h2 := len_le_cnt r h
  exact kept_data (n := n) hT 9 (rowD r) S (by simp only [rowD, D.dp]; omega) (by simp only [rowD, D.pl, rowDs_len, Bool.and_eq_true, decide_eq_true_eq]; exact ⟨by omega, rows_pl r h hc⟩)
/-! ### signs -/
theorem sign_in : ∀ c : Fin 26, (!(Builtin.Str.occurrences ("abcdefghijklmnopqrstuvwxyz" : Str) (⟨#[97 + c.val]⟩ : Str) 0 ("abcdefghijklmnopqrstuvwxyz" : Str).length 1).isEmpty) = true := by decide +kernel
theorem sg_len {s : Str} (h : isSg s) : s.length = 1 := by
  obtain ⟨c, h1, h2, rfl⟩ := h
  rfl
theorem sg_in {s : Str} (h : isSg s) (S : Store) : opIn (.str s) (.str ("abcdefghijklmnopqrstuvwxyz" : Str)) S = .ok true S := by
  obtain ⟨c, h1, h2, rfl⟩ := h
  have := sign_in ⟨c - 97, by omega⟩
  simp only [show 97 + (c - 97) = c by omega] at this
  simp only [opIn, dicOf, opIn0, this]
section
variable {T : Tab} {n : Nat} {S : Store}
theorem is_sign_ok (hT : T 33 = some d_is_sign) {s : Str} (h : isSg s) : callN T (n + 1) 33 [.str s] S = .ok (.bl true) S := by
  apply call_pure0 hT rfl
  have h1 := f_lens s S (by rw [sg_len h]; exact le_sz (by omega))
  simp [d_is_sign, h1, sg_len h, sg_in h]
/-! ### counts, depths -/
theorem evI_row {F : Fn} {env : Env} {e : E} {S S' : Store} {r : Rw} (h : evE F env e S = .ok (rowD r) S') : evI F env (.any e) S = .ok (.st (r.map It.d)) S' := by
  rw [i_any, h, R.bind_ok, rowD, rowDs_map]
theorem ints_map {α : Type} (f : α → Int) : ∀ l : List α, ints? (l.map fun x => .int (f x)) = some (l.map f)
  | [] => rfl
  | x :: l => by simp [ints?, ints_map f l]
@[simp] theorem f_sumr (k : Nat) (S : Store) : opBlt .sum [.ref k] S = match itemsOf S (.ref k) with
    | some ds => match ints? ds with | some bs => .ok (.int bs.sum) S | none => .stuck
    | none => .stuck := by
  show (match D.ref k, itemsOf S (.ref k) with
    | .tup ds, _ => match ints? ds with | some bs => .ok (.int bs.sum) S | none => .stuck
    | _, some ds => match ints? ds with | some bs => .ok (.int bs.sum) S | none => .stuck
    | _, none => .stuck : R D) = _
  cases itemsOf S (.ref k) <;> rfl
@[simp] theorem f_maxr (k : Nat) (S : Store) : opBlt .max [.ref k] S = match itemsOf S (.ref k) with
    | some ds => match ints? ds with | some (i :: ns) => .ok (.int (maxL i ns)) S | _ => .stuck
    | none => .stuck := by
  show (match D.ref k, itemsOf S (.ref k) with
    | .tup _, _ => .stuck
    | _, some ds => match ints? ds with | some (i :: ns) => .ok (.int (maxL i ns)) S | _ => .stuck
    | _, none => .stuck : R D) = _
  cases itemsOf S (.ref k) <;> rfl
@[simp] theorem f_max2 (i j : Int) (S : Store) : opBlt .max [.int i, .int j] S = .ok (.int (if j > i then j else i)) S := rfl
@[simp] theorem f_min2 (i j : Int) (S : Store) : opBlt .min [.int i, .int j] S = .ok (.int (if j < i then j else i)) S := rfl
theorem cast_sum : ∀ l : List Nat, (l.map fun (x : Nat) => (x : Int)).sum = (l.sum : Int)
  | [] => rfl
  | x :: l => by simp [cast_sum l]
/-- _law_count, count_signs: one text, two names -/
def countB (f : Nat) : Ts := .cons (.ret (.blt .sum (.cons (.lc (.ife (.isi (.slot 1) .str) (.cst (.int 1)) (.call f (.cons (.slot 1) .nil))) (.nm 1) (.any (.slot 0)) .no [1]) .nil))) .nil
theorem count_gen {f : Nat} (hT : T f = some ⟨1, 2, countB f⟩) : ∀ (k : Nat) (r : Rw) (S : Store), depR r ≤ k → okR r → cntR r ≤ 1000000 → callN T (n + k + 1) f [rowD r] S = .ok (.int (cntR r)) S := by
  intro k
  induction k with
  | zero =>
    intro r S hd ho hc
    have hl := len_le_cnt r ho
    have e : evE (callN T n) [some (rowD r), none] (.lc (.ife (.isi (.slot 1) .str) (.cst (.int 1)) (.call f (.cons (.slot 1) .nil))) (.nm 1) (.any (.slot 0)) .no [1]) S = .ok (.ref S.length) (S ++ [.lst (r.map fun x => .int (x.cnt : Int))]) := by
      refine lc_m It.d (fun x => .int (x.cnt : Int)) r (evI_row (by simp)) (le_sz (by omega)) fun x hx => ⟨_, g_nm _ _, ?_⟩
      cases x with
      | sg s => simp [wipeE]
      | ev q => have := dep_mem hx; simp at this; omega
    apply call_pure hT rfl (v := .int (cntR r)) (by rfl) (G := [.lst (r.map fun x => .int (x.cnt : Int))])
    show exTs _ _ [some (rowD r), none] _ = _
    simp only [countB, xs_cons, x_ret, e_blt, es_cons, es_nil, e, R.bind_ok, f_sumr, items_ref, get_end, ints_map, R.out_ok, Out.thn_rt]
    rw [cnt_sum, ← cast_sum, List.map_map]
    rfl
  | succ k ih =>
    intro r S hd ho hc
    have hl := len_le_cnt r ho
    have e : evE (callN T (n + k + 1)) [some (rowD r), none] (.lc (.ife (.isi (.slot 1) .str) (.cst (.int 1)) (.call f (.cons (.slot 1) .nil))) (.nm 1) (.any (.slot 0)) .no [1]) S = .ok (.ref S.length) (S ++ [.lst (r.map fun x => .int (x.cnt : Int))]) := by
      refine lc_m It.d (fun x => .int (x.cnt : Int)) r (evI_row (by simp)) (le_sz (by omega)) fun x hx => ⟨_, g_nm _ _, ?_⟩
      cases x with
      | sg s => simp [wipeE]
      | ev q =>
        have h1 := dep_mem hx
        have h2 := cnt_mem hx
        have h3 := ok_mem ho hx
        simp only [dep_ev, cnt_ev, ok_ev] at h1 h2 h3
        have h4 := ih q S (by omega) h3.2 (by omega)
        have h5 : isTy (rowD q) .str S = some false := rfl
        simp [wipeE, h4, h5]
    apply call_pure hT rfl (v := .int (cntR r)) (by rfl) (G := [.lst (r.map fun x => .int (x.cnt : Int))])
    show exTs (callN T (n + k + 1)) _ [some (rowD r), none] _ = _
    simp only [countB, xs_cons, x_ret, e_blt, es_cons, es_nil, e, R.bind_ok, f_sumr, items_ref, get_end, ints_map, R.out_ok, Out.thn_rt]
    rw [cnt_sum, ← cast_sum, List.map_map]
    rfl
theorem count_ok (hT : T 41 = some d__law_count) : ∀ (k : Nat) (r : Rw) (S : Store), depR r ≤ k → okR r → cntR r ≤ 1000000 → callN T (n + k + 1) 41 [rowD r] S = .ok (.int (cntR r)) S := count_gen hT
def depsL (r : Rw) : List Int := r.filterMap fun x => match x with | .sg _ => none | .ev q => some ((1 : Int) + depR q)
theorem maxL_deps : ∀ (r : Rw) (i : Nat), maxL (i : Int) (depsL r) = ((max i (depR r) : Nat) : Int)
  | [], i => by simp [depsL, maxL]
  | .sg s :: r, i => by
    have := maxL_deps r i
    simp only [depsL, List.filterMap_cons_none, dep_cons, dep_sg] at this ⊢
    rw [this]
    congr 1
    try omega
  | .ev q :: r, i => by
    have := maxL_deps r (max i (depR q + 1))
    simp only [depsL, List.filterMap_cons, dep_cons, dep_ev] at this ⊢
    simp only [maxL, List.foldl_cons] at this ⊢
    have e : (if (i : Int) < 1 + (depR q : Int) then 1 + (depR q : Int) else (i : Int)) = ((max i (depR q + 1) : Nat) : Int) := by
      split <;> omega
    rw [e, this]
    congr 1
    try omega
theorem deps_map (r : Rw) : (r.filterMap fun x => match x with | .sg _ => none | .ev q => some (D.int ((1 : Int) + depR q))) = (depsL r).map .int := by
  unfold depsL
  rw [List.map_filterMap]
  congr 1
  funext x
  cases x <;> rfl
theorem deep_ok (hT : T 42 = some d__law_deep) : ∀ (k : Nat) (r : Rw) (S : Store), depR r ≤ k → okR r → cntR r ≤ 1000000 → callN T (n + k + 1) 42 [rowD r] S = .ok (.int (depR r)) S := by
  intro k
  have key : ∀ (F : Fn) (r : Rw) (S : Store), okR r → cntR r ≤ 1000000 → (∀ q S, .ev q ∈ r → F 42 [rowD q] S = .ok (.int (depR q)) S) →
      exTs F d__law_deep.body [some (rowD r), none] S = .rt (.int (depR r)) (S ++ [.lst [.int 0], .lst ((depsL r).map .int), .lst (.int 0 :: (depsL r).map .int)]) := by
    intro F r S ho hc hF
    have hl := len_le_cnt r ho
    have e : ∀ S, evE F [some (rowD r), none] (.lc (.bin .Add (.cst (.int 1)) (.call 42 (.cons (.slot 1) .nil))) (.nm 1) (.any (.slot 0)) (.so (.not (.isi (.slot 1) .str))) [1]) S = .ok (.ref S.length) (S ++ [.lst ((depsL r).map .int)]) := fun S => by
      rw [lc_fm It.d (fun x => match x with | .sg _ => none | .ev q => some (D.int ((1 : Int) + depR q))) r (S := S) (S' := S) (evI_row (by simp)) (le_sz (by omega)) fun x hx => ⟨_, g_nm _ _, ?_⟩, deps_map]
      cases x with
      | sg s => right; simp [wipeE]
      | ev q =>
        left
        have h5 : ∀ S, isTy (rowD q) .str S = some false := fun _ => rfl
        simp [wipeE, hF q _ hx, h5]
    have hlen : (depsL r).length ≤ r.length := List.length_filterMap_le _ _
    have hz : 1 + (depsL r).length ≤ sizeLine := le_sz (by omega)
    have hz1 : 0 + 1 ≤ sizeLine := le_sz (by omega)
    have hm := maxL_deps r 0
    have hm2 : maxL 0 (depsL r) = (depR r : Int) := by simpa using hm
    have hb : opBin .Add (.ref S.length) (.ref (S.length + 1)) (S ++ [.lst [.int 0], .lst ((depsL r).map .int)]) = .ok (.ref (S.length + 2)) (S ++ [.lst [.int 0], .lst ((depsL r).map .int), .lst (.int 0 :: (depsL r).map .int)]) := by
      simp [opBin, hz]
    have g1 : (S ++ [Cell.lst [D.int 0], .lst ((depsL r).map .int), .lst (.int 0 :: (depsL r).map .int)])[S.length + 2]? = some (.lst (.int 0 :: (depsL r).map .int)) := by simp
    have i1 : ints? (.int 0 :: (depsL r).map .int) = some (0 :: depsL r) := by simp [ints?]
    simp only [d__law_deep, xs_cons, x_ret, e_blt, es_cons, es_nil, e_bin, e_lst, e_cst, R.bind_ok, List.length_cons, List.length_nil, hz1, if_true, newL_eq, e, List.length_append, List.append_assoc, List.cons_append, List.nil_append, hb, f_maxr, items_ref, g1, i1, hm2, R.out_ok, Out.thn_rt]
  induction k with
  | zero =>
    intro r S hd ho hc
    refine call_pure hT rfl (v := .int (depR r)) (by rfl) (key (callN T n) r S ho hc fun q S hq => ?_)
    have := dep_mem hq
    simp at this
    omega
  | succ k ih =>
    intro r S hd ho hc
    refine call_pure hT rfl (v := .int (depR r)) (by rfl) (key (callN T (n + k + 1)) r S ho hc fun q S hq => ?_)
    have h1 := dep_mem hq
    have h2 := cnt_mem hq
    have h3 := ok_mem ho hq
    simp only [dep_ev, cnt_ev, ok_ev] at h1 h2 h3
    exact ih q S (by omega) h3.2 (by omega)
end
end PD.PS
end

section
set_option linter.all false
set_option maxRecDepth 100000
set_option maxHeartbeats 2000000
/-! PDgen: the terms that the laws draw. -/
namespace PD.PS
open PySem
theorem for_rng {F : Fn} {t : Tg} {s : I} {b : Ts} {env : Env} {S S' : Store} {N : Env → Store → Prop} {Q : D → Store → Prop} (k : Nat)
    (hs : evI F env s S = .ok (.st (rangeD 0 1 k)) S') (hl : k ≤ sizeLine) (I : Nat → Env → Store → Prop) (h0 : I 0 env S')
    (step : ∀ i env S, i < k → I i env S → ∃ env1, asgT S t (.int i) env = some env1 ∧ (exTs F b env1 S).satB (I (i + 1)) N Q)
    (fin : ∀ env S, I k env S → N env S) : (exT F (.for_ t s b) env S).sat N Q := by
  refine for_sat hs (by simpa using hl) I h0 (fun i d e S hd hI => ?_) (fun e S hI => fin e S (by simpa using hI))
  simp at hd
  obtain ⟨hi, rfl⟩ := hd
  exact step i e S hi hI
/-- signs to draw from -/
structure Sgs (ss : List Str) : Prop where
  ne : ss ≠ []
  len : ss.length ≤ 63
  sg : ∀ s ∈ ss, isSg s
structure Draws (T : Tab) : Prop where
  h9 : T 9 = some d__law_draw
  h24 : T 24 = some d__law_some
theorem atI_of {α : Type} {xs : List α} {i : Int} (h0 : 0 ≤ i) (h1 : i < xs.length) : ∃ x ∈ xs, L2.atI xs i = some x := by
  obtain ⟨k, rfl⟩ := Int.eq_ofNat_of_zero_le h0
  have hk : k < xs.length := by omega
  exact ⟨xs[k], List.getElem_mem hk, atI_nat xs k _ (List.getElem?_eq_getElem hk)⟩
section
variable {T : Tab} {n : Nat}
theorem some_eq (hT : Draws T) (h : Hs) (G : Store) {c : Nat} {ds : List D} (hc : G[c]? = some (.lst ds)) (h0 : 0 < ds.length) (h1 : ds.length ≤ 1000000) :
    ∃ x ∈ ds, callN T (n + 2) 24 [.ref 2, .ref (c + 3)] (hS h G) = .ok x (hS (drawH h ds.length) G) := by
  obtain ⟨x, hx, hy⟩ := atI_of (xs := ds) (drawV_nn h (m := ds.length) (by omega)) (drawV_lt h (m := ds.length) (by omega))
  refine ⟨x, hx, call_hand0 hT.h24 rfl ?_⟩
  have hd := draw_eq hT.h9 (n := n) h G ds.length (by omega) (by omega)
  simp [d__law_some, hc, hd, hy]
theorem some_sg (hT : Draws T) (h : Hs) (G : Store) {c : Nat} {ss : List Str} (hc : G[c]? = some (.lst (ss.map .str))) (hs : Sgs ss) :
    ∃ s h', s ∈ ss ∧ isSg s ∧ callN T (n + 2) 24 [.ref 2, .ref (c + 3)] (hS h G) = .ok (.str s) (hS h' G) := by
  obtain ⟨x, hx, e⟩ := some_eq (n := n) hT h G hc (by simpa using List.length_pos_iff.2 hs.ne) (by have := hs.len; simp; omega)
  obtain ⟨s, h1, rfl⟩ := List.mem_map.1 hx
  exact ⟨s, _, h1, hs.sg s h1, e⟩
theorem letter_at0 : ∀ i : Fin 26, (match strAt ("abcdefghijklmnopqrstuvwxyz" : Str) (i.val : Int) with | some (.str s) => decide (s = ⟨#[97 + i.val]⟩) | _ => false) = true := by decide +kernel
theorem letter_at (i : Fin 26) : strAt ("abcdefghijklmnopqrstuvwxyz" : Str) (i.val : Int) = some (.str ⟨#[97 + i.val]⟩) := by
  have h := letter_at0 i
  split at h
  next s e => rw [e, of_decide_eq_true h]
  · cases h
theorem letter_ix {i : Int} (h0 : 0 ≤ i) (h1 : i < 26) (S : Store) : ∃ s, isSg s ∧ opIx (.str ("abcdefghijklmnopqrstuvwxyz" : Str)) (.int i) S = .ok (.str s) S := by
  obtain ⟨k, rfl⟩ := Int.eq_ofNat_of_zero_le h0
  refine ⟨⟨#[97 + k]⟩, ⟨97 + k, by omega, by omega, rfl⟩, ?_⟩
  have := letter_at ⟨k, by omega⟩
  simp only at this
  simp only [opIx, dicOf, opIx0, this]
theorem flats_str : ∀ ss : List Str, (ss.map D.str).all isFlat = true
  | [] => rfl
  | s :: ss => by simp [isFlat]
theorem in_strs (s : Str) (S : Store) {k : Nat} {ss : List Str} (hk : S[k]? = some (.lst (ss.map .str))) : ∃ b, opIn (.str s) (.ref k) S = .ok b S := by
  have := flats_str ss
  exact ⟨(ss.map D.str).any fun z => flatEq z (D.str s), by simp only [opIn, dicOf, opIn0, itemsOf, hk, this, isFlat, Bool.and_self, if_true]⟩
theorem strs_str : ∀ ss : List Str, strs? (ss.map .str) = some ss
  | [] => rfl
  | s :: ss => by simp [strs?, strs_str ss]
theorem f_sortr (k : Nat) (S : Store) {ss : List Str} (hk : S[k]? = some (.lst (ss.map .str))) (hl : ss.length < 64) : opBlt .sorted [.ref k] S = .ok (.ref S.length) (S ++ [.lst ((sortStr ss).map .str)]) := by
  show (match D.ref k, itemsOf S (.ref k) with
    | .tup _, _ => .stuck
    | _, some ds => match strs? ds with | some ss => if ss.length < 64 then newL ((sortStr ss).map .str) S else .stuck | none => .stuck
    | _, none => match dicOf S (.ref k) with
      | some kvs => match keysS? (kvs.map (·.1)) with | some ss => if ss.length < 64 then newL ((sortStr ss).map .str) S else .stuck | none => .stuck
      | none => .stuck : R D) = _
  simp [itemsOf, hk, strs_str, hl]
theorem lts_strs (n : Nat) : ∀ ss : List Str, D.lts n (ss.map .str) = true
  | [] => rfl
  | s :: ss => by simp [D.lts, D.lt, lts_strs n ss]
theorem signs_spec (hT : Draws T) (h44 : T 44 = some d__law_signs) (h : Hs) (G : Store) (many : Int) (m0 : 0 < many) (m1 : many ≤ 50) :
    ∃ (fs ss : List Str) (h' : Hs), Sgs ss ∧ callN T (n + 3) 44 [.ref 2, .int many] (hS h G) = .ok (.ref (G.length + 4)) (hS h' (G ++ [.lst (fs.map .str), .lst (ss.map .str)])) := by
  have key : (exTs (callN T (n + 2)) d__law_signs.body [some (.ref 2), some (.int many), none, none, none, none] (hS h G)).sat (fun _ _ => False) (fun v S => ∃ (fs ss : List Str) (h' : Hs), Sgs ss ∧ v = .ref (G.length + 4) ∧ S = hS h' (G ++ [.lst (fs.map .str), .lst (ss.map .str)])) := by
    have z : 2 ≤ sizeLine := le_sz (by omega)
    simp only [d__law_signs, xs_cons]
    simp only [x_asg, e_tup, es_cons, es_nil, e_lst, e_cst, R.bind_ok, newL_eq, List.length_cons, List.length_nil, Nat.zero_le, if_true, z, R.out_ok, g_tp, items_tup, gs_cons, gs_nil, g_nm, List.set_cons_succ, List.set_cons_zero, Out.thn_nx, hS_len, hS_app, Nat.zero_add, Nat.reduceAdd]
    have hd := draw_eq hT.h9 (n := n + 1) h (G ++ [.lst []]) many m0 (by omega)
    have d0 := drawV_nn h m0
    have d1 := drawV_lt h m0
    obtain ⟨k, hk⟩ := Int.eq_ofNat_of_zero_le d0
    refine sat_thn (N := fun e S => ∃ (fs : List Str) (h' : Hs) (a b : Option D), e = [some (.ref 2), some (.int many), a, some (.str ("abcdefghijklmnopqrstuvwxyz" : Str)), some (.ref (G.length + 3)), b] ∧ S = hS h' (G ++ [.lst (fs.map .str)]) ∧ fs.length ≤ 1 + k ∧ fs ≠ [] ∧ ∀ s ∈ fs, isSg s)
      (for_rng (1 + k) (S' := hS (drawH h many) (G ++ [.lst []])) (rng1_sat (k := ((1 + k : Nat) : Int)) ?_ (by omega) (by omega)) (le_sz (by omega))
        (fun i e S => ∃ (fs : List Str) (h' : Hs) (a b : Option D), e = [some (.ref 2), some (.int many), a, some (.str ("abcdefghijklmnopqrstuvwxyz" : Str)), some (.ref (G.length + 3)), b] ∧ S = hS h' (G ++ [.lst (fs.map .str)]) ∧ fs.length ≤ i ∧ (0 < i → fs ≠ []) ∧ ∀ s ∈ fs, isSg s)
        ⟨[], _, _, _, rfl, rfl, by simp, by simp, by simp⟩ ?_ ?_) ?_
    · simp [hd, hk]
    · rintro i env S hi ⟨fs, h', a, b, rfl, rfl, hl, hne, hsg⟩
      refine ⟨_, g_nm _ _, ?_⟩
      have hd2 := draw_eq hT.h9 (n := n + 1) h' (G ++ [.lst (fs.map .str)]) 26 (by decide) (by decide)
      obtain ⟨s, s0, s1⟩ := letter_ix (drawV_nn h' (m := 26) (by decide)) (drawV_lt h' (m := 26) (by decide)) (hS (drawH h' 26) (G ++ [.lst (fs.map .str)]))
      obtain ⟨bb, hb⟩ := in_strs s (hS (drawH h' 26) (G ++ [.lst (fs.map .str)])) (k := G.length + 3) (ss := fs) (by simp)
      have hz : fs.length < sizeLine := Nat.lt_of_lt_of_le (by omega : fs.length < 1000) (le_sz (by omega))
      have hev : ∀ e, evE (callN T (n + 2)) [some (.ref 2), some (.int many), some (.int i), some (.str ("abcdefghijklmnopqrstuvwxyz" : Str)), some (.ref (G.length + 3)), e] (.ix (.slot 3) (.call 9 (.cons (.slot 0) (.cons (.cst (.int 26)) .nil)))) (hS h' (G ++ [.lst (fs.map .str)])) = .ok (.str s) (hS (drawH h' 26) (G ++ [.lst (fs.map .str)])) := fun e => by
        simp only [e_ix, e_slot, List.getElem?_cons_succ, List.getElem?_cons_zero, R.bind_ok, e_call, es_cons, es_nil, e_cst, hd2, s1]
      cases bb with
      | true =>
        refine satB_nx (e := [some (.ref 2), some (.int many), some (.int i), some (.str ("abcdefghijklmnopqrstuvwxyz" : Str)), some (.ref (G.length + 3)), some (.str s)]) (S := hS (drawH h' 26) (G ++ [.lst (fs.map .str)])) ?_ ⟨fs, _, _, _, rfl, rfl, by omega, fun _ e => ?_, hsg⟩
        · simp only [List.set_cons_succ, List.set_cons_zero, xs_cons, x_asg, hev, R.out_ok, g_nm, Out.thn_nx, x_iff, t_cmp, e_slot, List.getElem?_cons_succ, List.getElem?_cons_zero, R.bind_ok, c_nin, hb, R.map_ok, Bool.not_true, Bool.false_eq_true, if_false, xs_nil]
        · subst e
          simp only [opIn, dicOf, opIn0, itemsOf] at hb
          simp [isFlat] at hb
      | false =>
        refine satB_nx (e := [some (.ref 2), some (.int many), some (.int i), some (.str ("abcdefghijklmnopqrstuvwxyz" : Str)), some (.ref (G.length + 3)), some (.str s)]) (S := hS (drawH h' 26) (G ++ [.lst ((fs ++ [s]).map .str)])) ?_ ⟨fs ++ [s], _, _, _, rfl, rfl, by simp; omega, by simp, fun x hx => ?_⟩
        · simp only [List.set_cons_succ, List.set_cons_zero, xs_cons, x_asg, hev, R.out_ok, g_nm, Out.thn_nx, x_iff, t_cmp, e_slot, List.getElem?_cons_succ, List.getElem?_cons_zero, R.bind_ok, c_nin, hb, R.map_ok, Bool.not_false, if_true, xs_nil, x_exp, e_mth, rcv_app, hS_get, get_len, es_cons, es_nil, m_app, List.length_map, hz, hS_set, set_len, List.map_append, List.map_cons, List.map_nil]
        · rcases List.mem_append.1 hx with hx | hx
          · exact hsg x hx
          · simp at hx; subst hx; exact s0
    · rintro env S ⟨fs, h', a, b, rfl, rfl, hl, hne, hsg⟩
      exact ⟨fs, h', a, b, rfl, rfl, hl, hne (by omega), hsg⟩
    · rintro env S ⟨fs, h', a, b, rfl, rfl, hl, hne, hsg⟩
      have hsrt := f_sortr (G.length + 3) (hS h' (G ++ [.lst (fs.map .str)])) (ss := fs) (by simp) (by omega)
      have hp : (sortStr fs).Perm fs := List.mergeSort_perm _ _
      refine sat_rtI (d := .ref (G.length + 4)) (S := hS h' (G ++ [.lst (fs.map .str), .lst ((sortStr fs).map .str)])) ?_ ⟨fs, sortStr fs, h', ⟨fun e => hne (by simpa [e] using hp.symm), by rw [hp.length_eq]; omega, fun s hs => hsg s (hp.mem_iff.1 hs)⟩, rfl, rfl⟩
      simp only [xs_cons, x_ret, e_blt, es_cons, es_nil, e_slot, List.getElem?_cons_succ, List.getElem?_cons_zero, R.bind_ok, hsrt, R.out_ok, Out.thn_rt]
      simp
  obtain ⟨v, S, e, fs, ss, h', p1, rfl, rfl⟩ := sat_rt key
  refine ⟨fs, ss, h', p1, ?_⟩
  rw [call_rt h44 rfl e]
  unfold gcS
  rw [if_neg (by simp [D.lt])]
end
end PD.PS
end

section
set_option linter.all false
set_option maxRecDepth 100000
set_option maxHeartbeats 2000000
/-! PDgen2: rows that the laws draw. -/
namespace PD.PS
open PySem
structure Rows (T : Tab) : Prop where
  dr : Draws T
  h41 : T 41 = some d__law_count
  h42 : T 42 = some d__law_deep
  h43 : T 43 = some d__law_row
def rowB : Ts := match d__law_row.body with
  | .cons _ (.cons (.for_ _ _ b) _) => b
  | _ => .nil
def rowL : T := match d__law_row.body with
  | .cons _ (.cons _ (.cons r _)) => r
  | _ => .pas
theorem row_body : d__law_row.body = .cons (.asg (.tp (.cons (.nm 5) (.cons (.nm 6) .nil))) (.tup (.cons (.lst .nil) (.cons (.slot 3) .nil)))) (.cons (.for_ (.nm 4) (.rng1 (.bin .Add (.cst (.int 1)) (.call 9 (.cons (.slot 0) (.cons (.cst (.int 4)) .nil))))) rowB) (.cons rowL .nil)) := rfl
theorem thn_id (o : Out) : (o.thn fun e S => .nx e S) = o := by cases o <;> rfl
theorem len_lt_sz {k : Nat} (h : k ≤ 1000000) : k < sizeLine := Nat.lt_of_le_of_lt h (by decide)
section
variable {T : Tab} {n : Nat}
/-- what a row's drawing does with its callee -/
def RowS (F : Fn) (k : Nat) (c : Nat) (ss : List Str) : Prop := ∀ (h : Hs) (G : Store) (most : Int), GW G → G[c]? = some (.lst (ss.map .str)) → 1 ≤ most → most ≤ 1000000 →
  ∃ (r : Rw) (h' : Hs), okR r ∧ r ≠ [] ∧ depR r ≤ k ∧ (cntR r : Int) ≤ most ∧ F 43 [.ref 2, .ref (c + 3), .int k, .int most] (hS h G) = .ok (rowD r) (hS h' G)
theorem row_turn (hT : Rows T) {k c : Nat} {ss : List Str} (hs : Sgs ss) (hrec : ∀ j, k = j + 1 → RowS (callN T (n + k + 3)) j c ss) (h : Hs) (G : Store) (g : GW G) (hc : G[c]? = some (.lst (ss.map .str))) (most : Int) (m1 : most ≤ 1000000)
    (r : Rw) (ok : okR r) (hd : depR r ≤ k) (left : Int) (hl : (cntR r : Int) + left = most) (h0 : 0 ≤ left) (a b : Option D) :
    ∃ (q : Rw) (h' : Hs) (b' : Option D), okR q ∧ (0 < left → q ≠ []) ∧ (left = 0 → q = r) ∧ depR q ≤ k ∧ (cntR q : Int) ≤ most ∧
      exTs (callN T (n + k + 3)) rowB [some (.ref 2), some (.ref (c + 3)), some (.int k), some (.int most), a, some (.ref (G.length + 3)), some (.int left), b] (hS h (G ++ [.lst (rowDs r)])) =
        .nx [some (.ref 2), some (.ref (c + 3)), some (.int k), some (.int most), a, some (.ref (G.length + 3)), some (.int (most - cntR q)), b'] (hS h' (G ++ [.lst (rowDs q)])) := by
  have hcl : c < G.length := by
    rcases Nat.lt_or_ge c G.length with q | q
    · exact q
    · rw [List.getElem?_eq_none q] at hc; cases hc
  have hc2 : ∀ x, (G ++ [x])[c]? = some (.lst (ss.map .str)) := fun x => by rw [List.getElem?_append_left hcl]; exact hc
  have hlen := len_le_cnt r ok
  have hz : r.length < sizeLine := len_lt_sz (by omega)
  have hlen2 : (rowDs r).length < sizeLine := by rw [rowDs_len]; exact hz
  -- a sign at the end
  have sgn : ∀ (h1 : Hs), 0 < left → ∃ (q : Rw) (h' : Hs), okR q ∧ q ≠ [] ∧ depR q ≤ k ∧ (cntR q : Int) ≤ most ∧
      exTs (callN T (n + k + 3)) (.cons (.iff (.cmp .Gt (.slot 6) (.cst (.int 0))) (.cons (.exp (.mth .append (.slot 5) (.cons (.call 24 (.cons (.slot 0) (.cons (.slot 1) .nil))) .nil))) (.cons (.asg (.nm 6) (.bin .Sub (.slot 6) (.cst (.int 1)))) .nil)) .nil) .nil) [some (.ref 2), some (.ref (c + 3)), some (.int k), some (.int most), a, some (.ref (G.length + 3)), some (.int left), b] (hS h1 (G ++ [.lst (rowDs r)])) =
        .nx [some (.ref 2), some (.ref (c + 3)), some (.int k), some (.int most), a, some (.ref (G.length + 3)), some (.int (most - cntR q)), b] (hS h' (G ++ [.lst (rowDs q)])) := by
    intro h1 hp
    obtain ⟨s, h2, s1, s2, s3⟩ := some_sg (n := n + k + 1) hT.dr h1 (G ++ [.lst (rowDs r)]) (hc2 _) hs
    refine ⟨r ++ [.sg s], h2, by rw [ok_app]; exact ⟨ok, by simp [s2]⟩, by simp, by simp; exact hd, by simp; omega, ?_⟩
    have e : most - (cntR (r ++ [.sg s]) : Int) = left - 1 := by simp; omega
    rw [e]
    simp only [xs_cons, x_iff, t_cmp, e_slot, e_cst, List.getElem?_cons_succ, List.getElem?_cons_zero, R.bind_ok, c_gt, hp, decide_true, R.out_ok, if_true, x_exp, e_mth, rcv_app, hS_get, get_len, es_cons, es_nil, e_call, s3, m_app, hlen2, hS_set, set_len, Out.thn_nx, x_asg, e_bin, b_sub, g_nm, List.set_cons_succ, List.set_cons_zero, xs_nil, rowDs_app, rowDs_cons, rowDs_nil, It.d_sg]
  by_cases hp : 0 < left
  · cases k with
    | zero =>
      have hk0 : ¬ (0 : Int) < ((0 : Nat) : Int) := by omega
      obtain ⟨q, h', q1, q2, q3, q4, q5⟩ := sgn h hp
      refine ⟨q, h', b, q1, fun _ => q2, fun e => by omega, q3, q4, ?_⟩
      rw [← q5]
      simp only [rowB, d__law_row, xs_cons, x_iff (c := .and _ _), t_and, t_cmp, e_slot, e_cst, List.getElem?_cons_succ, List.getElem?_cons_zero, R.bind_ok, c_gt, hp, hk0, decide_true, if_true, decide_false, Bool.false_eq_true, if_false, R.out_ok]
      simp only [xs_nil, thn_id]
    | succ k =>
      have hk : (0 : Int) < ((k + 1 : Nat) : Int) := by omega
      have d5 := draw_eq hT.dr.h9 (n := n + (k + 1) + 2) h (G ++ [.lst (rowDs r)]) 5 (by decide) (by decide)
      by_cases h5 : drawV h 5 < 2
      · have dl := draw_eq hT.dr.h9 (n := n + (k + 1) + 2) (drawH h 5) (G ++ [.lst (rowDs r)]) left hp (by omega)
        have v0 := drawV_nn (drawH h 5) hp
        have v1 := drawV_lt (drawH h 5) hp
        obtain ⟨q, h', q1, q2, q3, q4, q5⟩ := hrec k rfl (drawH (drawH h 5) left) (G ++ [.lst (rowDs r)]) (1 + drawV (drawH h 5) left) (g.lst (rows_lt 0 r)) (hc2 _) (by omega) (by omega)
        have hcn := count_ok (n := n + 3) hT.h41 k q (hS h' (G ++ [.lst (rowDs (r ++ [.ev q]))])) q3 q1 (by omega)
        rw [show n + 3 + k + 1 = n + (k + 1) + 3 by omega] at hcn
        refine ⟨r ++ [.ev q], h', some (rowD q), by rw [ok_app]; exact ⟨ok, by simp [q1, q2]⟩, by simp, fun e => by omega, by simp; omega, by simp; omega, ?_⟩
        have e : most - (cntR (r ++ [.ev q]) : Int) = left - cntR q := by simp; omega
        rw [e]
        have e2 : ((k + 1 : Nat) : Int) - 1 = (k : Int) := by omega
        have e3 : rowDs r ++ [rowD q] = rowDs (r ++ [.ev q]) := by simp
        simp only [rowB, d__law_row, xs_cons, x_iff, t_and, t_cmp, e_slot, e_cst, e_call, es_cons, es_nil, List.getElem?_cons_succ, List.getElem?_cons_zero, R.bind_ok, c_gt, c_lt, hp, hk, d5, h5, decide_true, if_true, R.out_ok, x_asg, e_bin, b_sub, b_add, e2, dl, q5, g_nm, List.set_cons_succ, List.set_cons_zero, Out.thn_nx, x_exp, e_mth, rcv_app, hS_get, get_len, m_app, hlen2, hS_set, set_len, e3, hcn, xs_nil]
      · obtain ⟨q, h', q1, q2, q3, q4, q5⟩ := sgn (drawH h 5) hp
        refine ⟨q, h', b, q1, fun _ => q2, fun e => by omega, q3, q4, ?_⟩
        rw [← q5]
        simp only [rowB, d__law_row, xs_cons, x_iff (c := .and _ _), t_and, t_cmp, e_slot, e_cst, e_call, es_cons, es_nil, List.getElem?_cons_succ, List.getElem?_cons_zero, R.bind_ok, c_gt, c_lt, hp, hk, d5, h5, decide_true, if_true, decide_false, Bool.false_eq_true, if_false, R.out_ok]
        simp only [xs_nil, thn_id]
  · have hz0 : left = 0 := by omega
    refine ⟨r, h, b, ok, fun e => absurd e hp, fun _ => rfl, hd, by omega, ?_⟩
    have e : most - (cntR r : Int) = left := by omega
    rw [e]
    simp only [rowB, d__law_row, xs_cons, x_iff, t_and, t_cmp, e_slot, e_cst, List.getElem?_cons_succ, List.getElem?_cons_zero, R.bind_ok, c_gt, hp, decide_false, Bool.false_eq_true, if_false, R.out_ok, xs_nil, Out.thn_nx]
theorem row_step (hT : Rows T) {k c : Nat} {ss : List Str} (hs : Sgs ss) (hrec : ∀ j, k = j + 1 → RowS (callN T (n + k + 3)) j c ss) : RowS (callN T (n + k + 4)) k c ss := by
  intro h G most g hc h0 h1
  have d4 := draw_eq hT.dr.h9 (n := n + k + 2) h (G ++ [.lst []]) 4 (by decide) (by decide)
  have v0 := drawV_nn h (m := 4) (by decide)
  have v1 := drawV_lt h (m := 4) (by decide)
  obtain ⟨j, hj⟩ := Int.eq_ofNat_of_zero_le v0
  have key : (exTs (callN T (n + k + 3)) d__law_row.body [some (.ref 2), some (.ref (c + 3)), some (.int k), some (.int most), none, none, none, none] (hS h G)).sat (fun _ _ => False)
      (fun v S => ∃ (r : Rw) (h' : Hs), okR r ∧ r ≠ [] ∧ depR r ≤ k ∧ (cntR r : Int) ≤ most ∧ v = rowD r ∧ S = hS h' (G ++ [.lst (rowDs r)])) := by
    rw [row_body, xs_cons]
    have z : 2 ≤ sizeLine := le_sz (by omega)
    have e0 : exT (callN T (n + k + 3)) (.asg (.tp (.cons (.nm 5) (.cons (.nm 6) .nil))) (.tup (.cons (.lst .nil) (.cons (.slot 3) .nil)))) [some (.ref 2), some (.ref (c + 3)), some (.int k), some (.int most), none, none, none, none] (hS h G) =
        .nx [some (.ref 2), some (.ref (c + 3)), some (.int k), some (.int most), none, some (.ref (G.length + 3)), some (.int most), none] (hS h (G ++ [.lst []])) := by
      simp only [x_asg, e_tup, es_cons, es_nil, e_lst, e_slot, List.getElem?_cons_succ, List.getElem?_cons_zero, R.bind_ok, newL_eq, List.length_cons, List.length_nil, Nat.zero_le, if_true, z, R.out_ok, g_tp, items_tup, gs_cons, gs_nil, g_nm, List.set_cons_succ, List.set_cons_zero, hS_len, hS_app, Nat.zero_add, Nat.reduceAdd]
    rw [e0, Out.thn_nx, xs_cons]
    refine sat_thn (N := fun e S => ∃ (r : Rw) (h' : Hs) (a b : Option D), e = [some (.ref 2), some (.ref (c + 3)), some (.int k), some (.int most), a, some (.ref (G.length + 3)), some (.int (most - cntR r)), b] ∧ S = hS h' (G ++ [.lst (rowDs r)]) ∧ okR r ∧ depR r ≤ k ∧ (cntR r : Int) ≤ most ∧ r ≠ [])
      (for_rng (1 + j) (S' := hS (drawH h 4) (G ++ [.lst []])) (rng1_sat (k := ((1 + j : Nat) : Int)) ?_ (by omega) (by omega)) (le_sz (by omega))
        (fun i e S => ∃ (r : Rw) (h' : Hs) (a b : Option D), e = [some (.ref 2), some (.ref (c + 3)), some (.int k), some (.int most), a, some (.ref (G.length + 3)), some (.int (most - cntR r)), b] ∧ S = hS h' (G ++ [.lst (rowDs r)]) ∧ okR r ∧ depR r ≤ k ∧ (cntR r : Int) ≤ most ∧ (0 < i → r ≠ []))
        ⟨[], drawH h 4, none, none, by simp, by simp, by simp, by simp, by simp; omega, by simp⟩ ?_ ?_) ?_
    · simp [d4, hj]
    · rintro i env S hi ⟨r, h', a, b, rfl, rfl, q1, q2, q3, q4⟩
      refine ⟨_, g_nm _ _, ?_⟩
      simp only [List.set_cons_succ, List.set_cons_zero]
      obtain ⟨q, h2, b', p1, p2, p2', p3, p4, p5⟩ := row_turn (n := n) hT hs hrec h' G g hc most h1 r q1 q2 (most - cntR r) (by omega) (by omega) (some (.int i)) b
      refine satB_nx p5 ⟨q, h2, _, _, rfl, rfl, p1, p3, p4, fun _ => ?_⟩
      by_cases hz : 0 < most - (cntR r : Int)
      · exact p2 hz
      · rw [p2' (by omega)]
        intro e
        subst e
        simp at hz
        omega
    · rintro env S ⟨r, h', a, b, rfl, rfl, q1, q2, q3, q4⟩
      exact ⟨r, h', a, b, rfl, rfl, q1, q2, q3, q4 (by omega)⟩
    · rintro env S ⟨r, h', a, b, rfl, rfl, q1, q2, q3, q4⟩
      refine sat_rtI (d := rowD r) (S := hS h' (G ++ [.lst (rowDs r)])) ?_ ⟨r, h', q1, q4, q2, q3, rfl, rfl⟩
      simp only [rowL, d__law_row, xs_cons, x_ret, e_blt, es_cons, es_nil, e_slot, List.getElem?_cons_succ, List.getElem?_cons_zero, R.bind_ok, f_tupr, items_ref, hS_get, get_len, R.out_ok, Out.thn_rt, rowD]
  obtain ⟨v, S, e, r, h', p1, p2, p3, p4, rfl, rfl⟩ := sat_rt key
  exact ⟨r, h', p1, p2, p3, p4, call_GW hT.h43 rfl g (row_lt _ _) e⟩
theorem row_spec (hT : Rows T) {c : Nat} {ss : List Str} (hs : Sgs ss) : ∀ k : Nat, RowS (callN T (n + k + 4)) k c ss
  | 0 => row_step hT hs fun j e => by omega
  | k + 1 => row_step hT hs fun j e => by
    have : j = k := by omega
    subst this
    have := row_spec hT hs (c := c) j
    rwa [show n + (j + 1) + 3 = n + j + 4 by omega]
end
end PD.PS
end

section
set_option linter.all false
set_option maxRecDepth 100000
set_option maxHeartbeats 2000000
/-! PDgen3: terms that the laws draw. -/
namespace PD.PS
open PySem
structure Terms (T : Tab) : Prop where
  rw : Rows T
  h44 : T 44 = some d__law_signs
  h45 : T 45 = some d__law_term
  h46 : T 46 = some d__law_wide_term
@[simp] theorem rowD_nil : rowD [] = tupI [] := by rw [rowD, rowDs]; rfl
theorem rep_one {α : Type} (x : List α) : (List.replicate 1 x).flatten = x := by simp
section
variable {T : Tab} {n : Nat}
theorem opAdd_row {r q : Rw} {S : Store} (h : r.length + q.length ≤ 1000000) : opBin .Add (rowD r) (rowD q) S = .ok (rowD (r ++ q)) S := by
  have z : (rowDs r).length + (rowDs q).length ≤ sizeLine := by simp; exact le_sz (by omega)
  simp only [opBin, rowD, z, if_true, rowDs_app]
theorem tup_row1 (r : Rw) : D.tup [rowD r] = rowD [.ev r] := by simp [rowD]
theorem tup_sg1 (s : Str) : D.tup [.str s] = rowD [.sg s] := by simp [rowD]
/-- what a term's drawing gives -/
def TermS (F : Fn) (k : Nat) (c : Nat) (ss : List Str) : Prop := ∀ (h : Hs) (G : Store) (most : Int), GW G → G[c]? = some (.lst (ss.map .str)) → 1 ≤ most → most ≤ 100000 →
  ∃ (r : Rw) (h' : Hs), okR r ∧ depR r ≤ k ∧ (cntR r : Int) ≤ max 2 most ∧ F 45 [.ref 2, .ref (c + 3), .int k, .int most] (hS h G) = .ok (rowD r) (hS h' G)
theorem term_spec0 (hR : Rows T) (h45 : T 45 = some d__law_term) {c : Nat} {ss : List Str} (hs : Sgs ss) (k : Nat) : TermS (callN T (n + k + 5)) k c ss := by
  intro h G most g hc m0 m1
  have d12 := draw_eq hR.dr.h9 (n := n + k + 3) h G 12 (by decide) (by decide)
  have v0 := drawV_nn h (m := 12) (by decide)
  have v1 := drawV_lt h (m := 12) (by decide)
  generalize hkd : drawV h 12 = kind at d12 v0 v1
  generalize hh1 : drawH h 12 = h1 at d12
  have key : (exTs (callN T (n + k + 4)) d__law_term.body [some (.ref 2), some (.ref (c + 3)), some (.int k), some (.int most), none, none, none] (hS h G)).sat (fun _ _ => False)
      (fun v S => ∃ (r : Rw) (h' : Hs) (X : Store), okR r ∧ depR r ≤ k ∧ (cntR r : Int) ≤ max 2 most ∧ v = rowD r ∧ S = hS h' (G ++ X)) := by
    by_cases k0 : kind = 0
    · subst k0
      refine sat_rtI (d := rowD []) (S := hS h1 G) ?_ ⟨[], h1, [], by simp, by simp, by simp; omega, rfl, by simp⟩
      simp [d__law_term, d12]
    by_cases k3 : kind < 3
    · -- a row of signs
      have hm5 : 0 < (if most < 5 then most else 5) := by split <;> omega
      have hm6 : (if most < 5 then most else 5) ≤ 5 := by split <;> omega
      have hm7 : (if most < 5 then most else 5) ≤ most := by split <;> omega
      have dm := draw_eq hR.dr.h9 (n := n + k + 3) h1 G (if most < 5 then most else 5) hm5 (by omega)
      have w0 := drawV_nn h1 hm5
      have w1 := drawV_lt h1 hm5
      generalize drawV h1 (if most < 5 then most else 5) = j at dm w0 w1
      generalize drawH h1 (if most < 5 then most else 5) = h2 at dm
      obtain ⟨j, rfl⟩ := Int.eq_ofNat_of_zero_le w0
      have hrg := rng1_sat (F := callN T (n + k + 4)) (env := [some (.ref 2), some (.ref (c + 3)), some (.int k), some (.int most), some (.int kind), none, none]) (e := .bin .Add (.cst (.int 1)) (.call 9 (.cons (.slot 0) (.cons (.blt .min (.cons (.cst (.int 5)) (.cons (.slot 3) .nil))) .nil)))) (k := ((1 + j : Nat) : Int)) (S := hS h1 G) (S' := hS h2 G) (by simp [dm]) (by omega) (by omega)
      rw [Int.toNat_natCast] at hrg
      obtain ⟨ds, S2, q1, q2, rs, h', q3, q4, q5⟩ := lc_inv (F := callN T (n + k + 4)) (env := [some (.ref 2), some (.ref (c + 3)), some (.int k), some (.int most), some (.int kind), none, none]) (e := .call 24 (.cons (.slot 0) (.cons (.slot 1) .nil))) (t := .nm 6) (c := .no) (own := [6])
        (fun i acc S => ∃ (r : Rw) (h' : Hs), acc = rowDs r ∧ S = hS h' G ∧ okR r ∧ depR r = 0 ∧ cntR r = i) hrg (by rw [rangeD_len]; exact le_sz (by omega)) ⟨[], h2, by simp, rfl, by simp, by simp, by simp⟩ (by
          rintro i dd acc S hd hl ⟨r, h', rfl, rfl, o1, o2, o3⟩
          obtain ⟨s, h3, s1, s2, s3⟩ := some_sg (n := n + k + 2) hR.dr h' G hc hs
          refine ⟨_, .str s, hS h3 G, g_nm _ _, by simp, by simp [wipeE, s3], r ++ [.sg s], h3, by simp, rfl, ?_, by simp [o2], by simp [o3]⟩
          rw [ok_app]
          exact ⟨o1, by simp [s2]⟩)
      subst q3; subst q4
      obtain ⟨o1, o2, o3⟩ := q5
      rw [rangeD_len] at o3
      refine sat_rtI (d := rowD rs) (S := hS h' (G ++ [.lst (rowDs rs)])) ?_ ⟨rs, h', _, o1, by omega, by omega, rfl, rfl⟩
      have e0 : ¬ (kind = 0) := k0
      simp only [d__law_term, xs_cons, x_asg, e_call, es_cons, es_nil, e_slot, e_cst, List.getElem?_cons_succ, List.getElem?_cons_zero, R.bind_ok, d12, R.out_ok, g_nm, List.set_cons_succ, List.set_cons_zero, Out.thn_nx, x_iff, t_cmp, c_eq, opEq_int, e0, decide_false, Bool.false_eq_true, if_false, xs_nil, c_lt, k3, decide_true, if_true, x_ret, e_blt, q1, f_tupr, items_ref, hS_len, hS_app, hS_get, get_len, Out.thn_rt, rowD]
    · -- a row
      have hm0 : 1 ≤ (if kind < 6 then (if most / 2 > 1 then most / 2 else 1) else most) := by split <;> (try split) <;> omega
      have hm1 : (if kind < 6 then (if most / 2 > 1 then most / 2 else 1) else most) ≤ most := by split <;> (try split) <;> omega
      obtain ⟨r, h2, o1, o2, o3, o4, o5⟩ := row_spec (n := n) hR hs k h1 G _ g hc hm0 (by omega)
      have hcn := len_le_cnt r o1
      have dp := deep_ok (n := n + 3) hR.h42 k r (hS h2 G) o3 o1 (by omega)
      rw [show n + 3 + k + 1 = n + k + 4 by omega] at dp
      have ev5 : ∀ e, evE (callN T (n + k + 4)) [some (.ref 2), some (.ref (c + 3)), some (.int k), some (.int most), some (.int kind), e, none] (.call 43 (.cons (.slot 0) (.cons (.slot 1) (.cons (.slot 2) (.cons (.ife (.cmp .Lt (.slot 4) (.cst (.int 6))) (.blt .max (.cons (.cst (.int 1)) (.cons (.bin .FloorDiv (.slot 3) (.cst (.int 2))) .nil))) (.slot 3)) .nil))))) (hS h1 G) = .ok (rowD r) (hS h2 G) := fun e => by
        rw [← o5]
        by_cases k6 : kind < 6
        · simp [k6, (by decide : Nat.log2 2 < 9000)]
        · simp [k6]
      have e0 : ¬ (kind = 0) := k0
      have fr : ∀ X, exTs (callN T (n + k + 4)) d__law_term.body [some (.ref 2), some (.ref (c + 3)), some (.int k), some (.int most), none, none, none] (hS h G) = X ↔
          exTs (callN T (n + k + 4)) (.cons (.iff (.cmp .Eq (.slot 4) (.cst (.int 3))) (.cons (.ret (.bin .Add (.slot 5) (.slot 5))) .nil) .nil) (.cons (.ret (.ife (.and (.cmp .Lt (.slot 4) (.cst (.int 6))) (.cmp .Gt (.slot 2) (.call 42 (.cons (.slot 5) .nil)))) (.tup (.cons (.slot 5) .nil)) (.slot 5))) .nil)) [some (.ref 2), some (.ref (c + 3)), some (.int k), some (.int most), some (.int kind), some (rowD r), none] (hS h2 G) = X := fun X => by
        rw [d__law_term]
        simp only [xs_cons (s := .asg _ _), x_asg, e_call (f := 9), es_cons, es_nil, e_slot, e_cst, List.getElem?_cons_succ, List.getElem?_cons_zero, R.bind_ok, d12, R.out_ok, g_nm, List.set_cons_succ, List.set_cons_zero, Out.thn_nx]
        rw [xs_cons]
        simp only [x_iff, t_cmp, e_slot, e_cst, List.getElem?_cons_succ, List.getElem?_cons_zero, R.bind_ok, c_eq, opEq_int, e0, decide_false, Bool.false_eq_true, if_false, xs_nil, R.out_ok, Out.thn_nx]
        rw [xs_cons]
        simp only [x_iff, t_cmp, e_slot, e_cst, List.getElem?_cons_succ, List.getElem?_cons_zero, R.bind_ok, c_lt, k3, decide_false, Bool.false_eq_true, if_false, xs_nil, R.out_ok, Out.thn_nx]
        rw [xs_cons, x_asg, ev5]
        simp only [R.out_ok, g_nm, List.set_cons_succ, List.set_cons_zero, Out.thn_nx]
      by_cases e3 : kind = 3
      · subst e3
        refine sat_rtI (d := rowD (r ++ r)) (S := hS h2 G) ((fr _).2 ?_) ⟨r ++ r, h2, [], by rw [ok_app]; exact ⟨o1, o1⟩, by simp; exact o3, ?_, rfl, by simp⟩
        · have ha := opAdd_row (r := r) (q := r) (S := hS h2 G) (by omega)
          simp [ha]
        · simp at o4 ⊢
          split at o4 <;> omega
      · by_cases k6 : kind < 6
        · by_cases hdd : (depR r : Int) < k
          · refine sat_rtI (d := rowD [.ev r]) (S := hS h2 G) ((fr _).2 ?_) ⟨[.ev r], h2, [], by simp [o1, o2], by simp; omega, by simp; omega, rfl, by simp⟩
            have z : 0 + 1 ≤ sizeLine := le_sz (by omega)
            simp [e3, k6, dp, hdd, z, tup_row1]
          · refine sat_rtI (d := rowD r) (S := hS h2 G) ((fr _).2 ?_) ⟨r, h2, [], o1, o3, by omega, rfl, by simp⟩
            simp [e3, k6, dp, hdd]
        · refine sat_rtI (d := rowD r) (S := hS h2 G) ((fr _).2 ?_) ⟨r, h2, [], o1, o3, by omega, rfl, by simp⟩
          simp [e3, k6]
  obtain ⟨v, S, e, r, h', X, p1, p2, p3, rfl, rfl⟩ := sat_rt key
  exact ⟨r, h', p1, p2, p3, call_GW h45 rfl g (row_lt _ _) e⟩
theorem term_spec (hT : Terms T) {c : Nat} {ss : List Str} (hs : Sgs ss) (k : Nat) : TermS (callN T (n + k + 5)) k c ss := term_spec0 hT.rw hT.h45 hs k
theorem opMul_row {r : Rw} {m : Nat} {S : Store} (h : r.length ≤ 1000) (hm : m ≤ 1000) : opBin .Mult (rowD r) (.int (m : Int)) S = .ok (rowD (List.replicate m r).flatten) S := by
  have z : (rowDs r).length ≤ 1000 ∧ (m : Int) ≤ 1000 ∧ -1000 ≤ (m : Int) := by simp; omega
  simp only [opBin, rowD, z, and_self, if_true, Int.toNat_natCast]
  congr 2
  induction m with
  | zero => simp
  | succ m ih => rw [List.replicate_succ, List.replicate_succ, List.flatten_cons, List.flatten_cons, rowDs_app, ih (by omega) (by simp; omega)]
theorem rep_ok (r : Rw) (h : okR r) : ∀ m, okR (List.replicate m r).flatten
  | 0 => by simp
  | m + 1 => by rw [List.replicate_succ, List.flatten_cons, ok_app]; exact ⟨h, rep_ok r h m⟩
theorem rep_dep (r : Rw) : ∀ m, depR (List.replicate m r).flatten ≤ depR r
  | 0 => by simp
  | m + 1 => by rw [List.replicate_succ, List.flatten_cons, dep_app]; have := rep_dep r m; omega
theorem rep_cnt (r : Rw) : ∀ m, cntR (List.replicate m r).flatten = cntR r * m
  | 0 => by simp
  | m + 1 => by rw [List.replicate_succ, List.flatten_cons, cnt_app, rep_cnt r m, Nat.mul_add, Nat.mul_one, Nat.add_comm]
def wideB : Ts := match d__law_wide_term.body with
  | .cons _ (.cons _ (.cons _ (.cons _ (.cons _ (.cons _ (.cons (.for_ _ _ b) _)))))) => b
  | _ => .nil
def wideS : PD.T := match d__law_wide_term.body with
  | .cons _ (.cons _ (.cons _ (.cons _ (.cons _ (.cons a _))))) => a
  | _ => .pas
def wideI : PD.T := match d__law_wide_term.body with
  | .cons _ (.cons _ (.cons a _)) => a
  | _ => .pas
def wideR : PD.T := match d__law_wide_term.body with
  | .cons _ (.cons _ (.cons _ (.cons a _))) => a
  | _ => .pas
def wideM : PD.T := match d__law_wide_term.body with
  | .cons _ (.cons _ (.cons _ (.cons _ (.cons a _)))) => a
  | _ => .pas
theorem wide_body : d__law_wide_term.body = .cons (.asg (.nm 2) (.call 44 (.cons (.slot 0) (.cons (.cst (.int 5)) .nil)))) (.cons (.asg (.nm 3) (.call 9 (.cons (.slot 0) (.cons (.cst (.int 6)) .nil)))) (.cons wideI (.cons wideR (.cons wideM (.cons wideS (.cons (.for_ (.nm 6) (.rng1 (.call 9 (.cons (.slot 0) (.cons (.bin .Sub (.cst (.int 7)) (.call 42 (.cons (.slot 4) .nil))) .nil)))) wideB) (.cons (.ret (.ife (.cmp .LtE (.call 41 (.cons (.slot 4) .nil)) (.slot 1)) (.slot 4) (.tup .nil))) .nil))))))) := rfl
theorem wide_spec (hT : Terms T) (h : Hs) (G : Store) (most : Int) (g : GW G) (m0 : 40 ≤ most) (m1 : most ≤ 1000) :
    ∃ (r : Rw) (h' : Hs), okR r ∧ depR r ≤ 6 ∧ (cntR r : Int) ≤ most ∧ callN T (n + 12) 46 [.ref 2, .int most] (hS h G) = .ok (rowD r) (hS h' G) := by
  obtain ⟨fs, ss, h1, hs, e1⟩ := signs_spec (n := n + 8) hT.rw.dr hT.h44 h G 5 (by decide) (by decide)
  have hG2 : GW (G ++ [.lst (fs.map .str), .lst (ss.map .str)]) := g.app (by simp [cellsLt, Cell.lt, lts_strs])
  have hc : (G ++ [Cell.lst (fs.map .str), .lst (ss.map .str)])[G.length + 1]? = some (.lst (ss.map .str)) := by simp
  generalize hGG : G ++ [Cell.lst (fs.map .str), .lst (ss.map .str)] = G2 at e1 hG2 hc
  have d6 := draw_eq hT.rw.dr.h9 (n := n + 10) h1 G2 6 (by decide) (by decide)
  have v0 := drawV_nn h1 (m := 6) (by decide)
  have v1 := drawV_lt h1 (m := 6) (by decide)
  generalize drawV h1 6 = kind at d6 v0 v1
  generalize drawH h1 6 = h2 at d6
  have key : (exTs (callN T (n + 11)) d__law_wide_term.body [some (.ref 2), some (.int most), none, none, none, none, none] (hS h G)).sat (fun _ _ => False)
      (fun v S => ∃ (r : Rw) (h' : Hs) (X : Store), okR r ∧ depR r ≤ 6 ∧ (cntR r : Int) ≤ most ∧ v = rowD r ∧ S = hS h' G2) := by
    rw [wide_body]
    have f1 : exT (callN T (n + 11)) (.asg (.nm 2) (.call 44 (.cons (.slot 0) (.cons (.cst (.int 5)) .nil)))) [some (.ref 2), some (.int most), none, none, none, none, none] (hS h G) = .nx [some (.ref 2), some (.int most), some (.ref (G.length + 1 + 3)), none, none, none, none] (hS h1 G2) := by
      simp [e1]
    have f2 : exT (callN T (n + 11)) (.asg (.nm 3) (.call 9 (.cons (.slot 0) (.cons (.cst (.int 6)) .nil)))) [some (.ref 2), some (.int most), some (.ref (G.length + 1 + 3)), none, none, none, none] (hS h1 G2) = .nx [some (.ref 2), some (.int most), some (.ref (G.length + 1 + 3)), some (.int kind), none, none, none] (hS h2 G2) := by
      simp [d6]
    rw [xs_cons, f1, Out.thn_nx, xs_cons, f2, Out.thn_nx, xs_cons]
    by_cases k3 : kind < 3
    · have d7 := draw_eq hT.rw.dr.h9 (n := n + 10) h2 G2 7 (by decide) (by decide)
      have w0 := drawV_nn h2 (m := 7) (by decide)
      have w1 := drawV_lt h2 (m := 7) (by decide)
      generalize drawV h2 7 = nest at d7 w0 w1
      generalize drawH h2 7 = h3 at d7
      obtain ⟨k, rfl⟩ := Int.eq_ofNat_of_zero_le w0
      have hm : (if (40 : Int) < most then 40 else most) = 40 := by split <;> omega
      have d40 := draw_eq hT.rw.dr.h9 (n := n + 10) h3 G2 40 (by decide) (by decide)
      have y0 := drawV_nn h3 (m := 40) (by decide)
      have y1 := drawV_lt h3 (m := 40) (by decide)
      generalize drawV h3 40 = j at d40 y0 y1
      generalize drawH h3 40 = h4 at d40
      obtain ⟨r, h5, o1, o2, o3, o4⟩ := term_spec (n := n + 6 - k) hT hs k h4 G2 (1 + j) hG2 hc (by omega) (by omega)
      rw [show n + 6 - k + k + 5 = n + 11 by omega] at o4
      refine sat_rtI (d := rowD r) (S := hS h5 G2) ?_ ⟨r, h5, [], o1, by omega, by omega, rfl, rfl⟩
      simp [wideI, d__law_wide_term, k3, d7, hm, d40, o4]
    · have fI : exT (callN T (n + 11)) wideI [some (.ref 2), some (.int most), some (.ref (G.length + 1 + 3)), some (.int kind), none, none, none] (hS h2 G2) = .nx [some (.ref 2), some (.int most), some (.ref (G.length + 1 + 3)), some (.int kind), none, none, none] (hS h2 G2) := by
        simp [wideI, d__law_wide_term, k3]
      rw [fI, Out.thn_nx, xs_cons]
      have d4 := draw_eq hT.rw.dr.h9 (n := n + 10) h2 G2 4 (by decide) (by decide)
      have w0 := drawV_nn h2 (m := 4) (by decide)
      have w1 := drawV_lt h2 (m := 4) (by decide)
      generalize drawV h2 4 = nest at d4 w0 w1
      generalize drawH h2 4 = h3 at d4
      obtain ⟨k, rfl⟩ := Int.eq_ofNat_of_zero_le w0
      have d8 := draw_eq hT.rw.dr.h9 (n := n + 10) h3 G2 8 (by decide) (by decide)
      have y0 := drawV_nn h3 (m := 8) (by decide)
      have y1 := drawV_lt h3 (m := 8) (by decide)
      generalize drawV h3 8 = j at d8 y0 y1
      generalize drawH h3 8 = h4 at d8
      obtain ⟨r, h5, o1, o2, o3, o4, o5⟩ := row_spec (n := n + 7 - k) hT.rw hs k h4 G2 (1 + j) hG2 hc (by omega) (by omega)
      rw [show n + 7 - k + k + 4 = n + 11 by omega] at o5
      have fR : exT (callN T (n + 11)) wideR [some (.ref 2), some (.int most), some (.ref (G.length + 1 + 3)), some (.int kind), none, none, none] (hS h2 G2) = .nx [some (.ref 2), some (.int most), some (.ref (G.length + 1 + 3)), some (.int kind), some (rowD r), none, none] (hS h5 G2) := by
        simp [wideR, d__law_wide_term, d4, d8, o5]
      rw [fR, Out.thn_nx, xs_cons]
      have hlen := len_le_cnt r o1
      have hc1 : 1 ≤ cntR r := by
        have : r.length ≠ 0 := fun e => o2 (List.eq_nil_of_length_eq_zero e)
        omega
      have cn : ∀ S, callN T (n + 11) 41 [rowD r] S = .ok (.int (cntR r)) S := fun S => by
        have := count_ok (n := n + 4) hT.rw.h41 6 r S (by omega) o1 (by omega)
        rwa [show n + 4 + 6 + 1 = n + 11 by omega] at this
      have dp : ∀ S, callN T (n + 11) 42 [rowD r] S = .ok (.int (depR r)) S := fun S => by
        have := deep_ok (n := n + 4) hT.rw.h42 6 r S (by omega) o1 (by omega)
        rwa [show n + 4 + 6 + 1 = n + 11 by omega] at this
      have hcl : (cntR r : Int).natAbs.log2 < 9000 := log2_lt (by omega) (by omega)
      have hc0 : (0 : Int) < (cntR r : Int) := by omega
      have hmx0 : 0 < (if most / (cntR r : Int) > 1 then most / (cntR r : Int) else 1) := by split <;> omega
      have hmx1 : (if most / (cntR r : Int) > 1 then most / (cntR r : Int) else 1) ≤ most := by
        have : most / (cntR r : Int) ≤ most := Int.ediv_le_self _ (by omega)
        split <;> omega
      have dM := draw_eq hT.rw.dr.h9 (n := n + 10) h5 G2 _ hmx0 (by omega)
      have z0 := drawV_nn h5 hmx0
      have z1 := drawV_lt h5 hmx0
      generalize drawV h5 (if most / (cntR r : Int) > 1 then most / (cntR r : Int) else 1) = mm at dM z0 z1
      generalize drawH h5 (if most / (cntR r : Int) > 1 then most / (cntR r : Int) else 1) = h6 at dM
      obtain ⟨m, rfl⟩ := Int.eq_ofNat_of_zero_le z0
      have fM : exT (callN T (n + 11)) wideM [some (.ref 2), some (.int most), some (.ref (G.length + 1 + 3)), some (.int kind), some (rowD r), none, none] (hS h5 G2) = .nx [some (.ref 2), some (.int most), some (.ref (G.length + 1 + 3)), some (.int kind), some (rowD r), some (.int ((1 + m : Nat) : Int)), none] (hS h6 G2) := by
        have hdiv : ∀ S, opBin .FloorDiv (.int most) (.int (cntR r : Int)) S = .ok (.int (most / (cntR r : Int))) S := fun S => by rw [b_fdiv, if_pos ⟨hc0, hcl⟩]
        have hcast : (1 : Int) + (m : Int) = ((1 + m : Nat) : Int) := by omega
        simp only [wideM, d__law_wide_term, x_asg, e_bin, e_call, e_blt, es_cons, es_nil, e_slot, e_cst, List.getElem?_cons_succ, List.getElem?_cons_zero, R.bind_ok, cn, hdiv, f_max2, dM, b_add, hcast, R.out_ok, g_nm, List.set_cons_succ, List.set_cons_zero]
      rw [fM, Out.thn_nx, xs_cons]
      have mo : mulOk (cntR r : Int) ((1 + m : Nat) : Int) = true := mulOk_l (by omega)
      by_cases e3 : kind = 3
      · subst e3
        by_cases hle : (cntR r : Int) * ((1 + m : Nat) : Int) ≤ most
        · have hmu := opMul_row (r := r) (m := 1 + m) (S := hS h6 G2) (by omega) (by omega)
          refine sat_rtI (d := rowD (List.replicate (1 + m) r).flatten) (S := hS h6 G2) ?_ ⟨_, h6, [], rep_ok r o1 _, ?_, ?_, rfl, rfl⟩
          · simp only [wideS, d__law_wide_term, x_iff, t_cmp, e_slot, e_cst, List.getElem?_cons_succ, List.getElem?_cons_zero, R.bind_ok, c_eq, opEq_self, R.out_ok, if_true, xs_cons, x_ret, e_ife, c_le, e_bin, e_call, es_cons, es_nil, cn, b_mul, mo, hle, decide_true, hmu, Out.thn_rt]
          · have := rep_dep r (1 + m); omega
          · rw [rep_cnt]; exact_mod_cast hle
        · refine sat_rtI (d := rowD r) (S := hS h6 G2) ?_ ⟨r, h6, [], o1, by omega, by omega, rfl, rfl⟩
          simp only [wideS, d__law_wide_term, x_iff, t_cmp, e_slot, e_cst, List.getElem?_cons_succ, List.getElem?_cons_zero, R.bind_ok, c_eq, opEq_self, R.out_ok, if_true, xs_cons, x_ret, e_ife, c_le, e_bin, e_call, es_cons, es_nil, cn, b_mul, mo, hle, decide_false, Bool.false_eq_true, if_false, Out.thn_rt]
      · have fS : exT (callN T (n + 11)) wideS [some (.ref 2), some (.int most), some (.ref (G.length + 1 + 3)), some (.int kind), some (rowD r), some (.int ((1 + m : Nat) : Int)), none] (hS h6 G2) = .nx [some (.ref 2), some (.int most), some (.ref (G.length + 1 + 3)), some (.int kind), some (rowD r), some (.int ((1 + m : Nat) : Int)), none] (hS h6 G2) := by
          simp only [wideS, d__law_wide_term, x_iff, t_cmp, e_slot, e_cst, List.getElem?_cons_succ, List.getElem?_cons_zero, R.bind_ok, c_eq, opEq_int, e3, decide_false, Bool.false_eq_true, if_false, R.out_ok, xs_nil]
        rw [fS, Out.thn_nx, xs_cons]
        have h70 : (0 : Int) < 7 - (depR r : Int) := by omega
        have d7 := draw_eq hT.rw.dr.h9 (n := n + 10) h6 G2 (7 - (depR r : Int)) h70 (by omega)
        have u0 := drawV_nn h6 h70
        have u1 := drawV_lt h6 h70
        generalize drawV h6 (7 - (depR r : Int)) = t at d7 u0 u1
        generalize drawH h6 (7 - (depR r : Int)) = h7 at d7
        obtain ⟨t, rfl⟩ := Int.eq_ofNat_of_zero_le u0
        refine sat_thn (N := fun e S => ∃ (q : Rw) (h' : Hs) (b : Option D), e = [some (.ref 2), some (.int most), some (.ref (G.length + 1 + 3)), some (.int kind), some (rowD q), some (.int ((1 + m : Nat) : Int)), b] ∧ S = hS h' G2 ∧ okR q ∧ q ≠ [] ∧ depR q ≤ 6 ∧ cntR q ≤ 100)
          (for_rng t (S' := hS h7 G2) (rng1_sat (k := (t : Int)) ?_ (by omega) (by omega)) (le_sz (by omega))
            (fun i e S => ∃ (q : Rw) (h' : Hs) (b : Option D), e = [some (.ref 2), some (.int most), some (.ref (G.length + 1 + 3)), some (.int kind), some (rowD q), some (.int ((1 + m : Nat) : Int)), b] ∧ S = hS h' G2 ∧ okR q ∧ q ≠ [] ∧ depR q ≤ depR r + i ∧ cntR q ≤ cntR r + i)
            ⟨r, h7, none, rfl, rfl, o1, o2, by omega, by omega⟩ ?_ ?_) ?_
        · simp [dp, d7]
        · rintro i env S hi ⟨q, h', b, rfl, rfl, p1, p2, p3, p4⟩
          refine ⟨_, g_nm _ _, ?_⟩
          simp only [List.set_cons_succ, List.set_cons_zero]
          have d2 := draw_eq hT.rw.dr.h9 (n := n + 10) h' G2 2 (by decide) (by decide)
          generalize drawV h' 2 = bit at d2
          generalize drawH h' 2 = h8 at d2
          have cq : ∀ S, callN T (n + 11) 41 [rowD q] S = .ok (.int (cntR q)) S := fun S => by
            have := count_ok (n := n + 4) hT.rw.h41 6 q S (by omega) p1 (by omega)
            rwa [show n + 4 + 6 + 1 = n + 11 by omega] at this
          have hlq := len_le_cnt q p1
          have z : 0 + 1 ≤ sizeLine := le_sz (by omega)
          have evW : evE (callN T (n + 11)) [some (.ref 2), some (.int most), some (.ref (G.length + 1 + 3)), some (.int kind), some (rowD q), some (.int ((1 + m : Nat) : Int)), some (.int i)] (.tup (.cons (.slot 4) .nil)) (hS h8 G2) = .ok (rowD [.ev q]) (hS h8 G2) := by
            simp only [e_tup, es_cons, es_nil, e_slot, List.getElem?_cons_succ, List.getElem?_cons_zero, R.bind_ok, List.length_cons, List.length_nil, z, if_true, tup_row1]
          by_cases b0 : bit = 0
          · refine satB_nx (e := _) (S := hS h8 G2) ?_ ⟨[.ev q], h8, some (.int (i : Int)), rfl, rfl, by simp [p1, p2], by simp, by simp; omega, by simp; omega⟩
            subst b0
            simp only [wideB, d__law_wide_term, xs_cons, x_asg, e_ife, t_or, t_cmp, e_call, es_cons, es_nil, e_slot, e_cst, List.getElem?_cons_succ, List.getElem?_cons_zero, R.bind_ok, d2, c_eq, opEq_self, if_true, evW, R.out_ok, g_nm, List.set_cons_succ, List.set_cons_zero, Out.thn_nx, xs_nil]
          · by_cases cm : most ≤ (cntR q : Int)
            · refine satB_nx (e := _) (S := hS h8 G2) ?_ ⟨[.ev q], h8, some (.int (i : Int)), rfl, rfl, by simp [p1, p2], by simp, by simp; omega, by simp; omega⟩
              simp only [wideB, d__law_wide_term, xs_cons, x_asg, e_ife, t_or, t_cmp, e_call, es_cons, es_nil, e_slot, e_cst, List.getElem?_cons_succ, List.getElem?_cons_zero, R.bind_ok, d2, c_eq, opEq_int, b0, decide_false, Bool.false_eq_true, if_false, cq, c_ge, cm, decide_true, if_true, evW, R.out_ok, g_nm, List.set_cons_succ, List.set_cons_zero, Out.thn_nx, xs_nil]
            · obtain ⟨s, h9, s1, s2, s3⟩ := some_sg (n := n + 9) hT.rw.dr h8 G2 hc hs
              have ha := opAdd_row (r := q) (q := [.sg s]) (S := hS h9 G2) (by simp; omega)
              refine satB_nx (e := _) (S := hS h9 G2) ?_ ⟨[.ev (q ++ [.sg s])], h9, some (.int (i : Int)), rfl, rfl, by simp [ok_app, p1, s2], by simp, by simp; omega, by simp; omega⟩
              simp only [wideB, d__law_wide_term, xs_cons, x_asg, e_ife, t_or, t_cmp, e_call, es_cons, es_nil, e_slot, e_cst, List.getElem?_cons_succ, List.getElem?_cons_zero, R.bind_ok, d2, c_eq, opEq_int, b0, decide_false, Bool.false_eq_true, if_false, cq, c_ge, cm, e_tup, e_bin, s3, List.length_cons, List.length_nil, z, if_true, tup_sg1, ha, tup_row1, R.out_ok, g_nm, List.set_cons_succ, List.set_cons_zero, Out.thn_nx, xs_nil]
        · rintro env S ⟨q, h', b, rfl, rfl, p1, p2, p3, p4⟩
          exact ⟨q, h', b, rfl, rfl, p1, p2, by omega, by omega⟩
        · rintro env S ⟨q, h', b, rfl, rfl, p1, p2, p3, p4⟩
          have cq : ∀ S, callN T (n + 11) 41 [rowD q] S = .ok (.int (cntR q)) S := fun S => by
            have := count_ok (n := n + 4) hT.rw.h41 6 q S (by omega) p1 (by omega)
            rwa [show n + 4 + 6 + 1 = n + 11 by omega] at this
          by_cases hle : (cntR q : Int) ≤ most
          · refine sat_rtI (d := rowD q) (S := hS h' G2) ?_ ⟨q, h', [], p1, p3, hle, rfl, rfl⟩
            simp [cq, hle]
          · refine sat_rtI (d := rowD []) (S := hS h' G2) ?_ ⟨[], h', [], by simp, by simp, by simp; omega, rfl, rfl⟩
            simp [cq, hle]
  obtain ⟨v, S, e, r, h', X, p1, p2, p3, rfl, rfl⟩ := sat_rt key
  rw [← hGG] at e
  exact ⟨r, h', p1, p2, p3, call_GW hT.h46 rfl g (row_lt _ _) e⟩
end
end PD.PS
end

section
set_option linter.all false
set_option maxRecDepth 100000
set_option maxHeartbeats 2000000
/-! PDlen: terms judged; lengths of terms. -/
namespace PD.PS
open PySem
mutual
def It.py : It → PyData
  | .sg s => .str s
  | .ev r => .tuple (rowPy r)
def rowPy : List It → List PyData
  | [] => []
  | x :: xs => It.py x :: rowPy xs
end
mutual
theorem It.py_eq (f : Nat → Option PyData) : ∀ x : It, D.py f x.d = some x.py
  | .sg s => by simp [D.py, It.py]
  | .ev r => by simp [D.py, It.py, rowD, rowPy_eq f r]
theorem rowPy_eq (f : Nat → Option PyData) : ∀ r : List It, D.pys f (rowDs r) = some (rowPy r)
  | [] => by simp [D.pys, rowPy]
  | x :: r => by simp [D.pys, rowPy, It.py_eq f x, rowPy_eq f r]
end
mutual
theorem It.can : ∀ x : It, x.ok → PyData.canLay0 x.py = true
  | .sg s, h => by simp only [It.py, PyData.canLay0]; exact sg_ok (by simpa using h)
  | .ev r, h => by simp only [It.py, PyData.canLay0]; exact row_can r (by simpa using (by simpa using h : r ≠ [] ∧ okR r).2)
theorem row_can : ∀ r : List It, okR r → PyData.canLayAll0 (rowPy r) = true
  | [], _ => by simp [rowPy, PyData.canLayAll0]
  | x :: r, h => by
    simp only [ok_cons] at h
    simp [rowPy, PyData.canLayAll0, It.can x h.1, row_can r h.2]
end
mutual
theorem It.pdep : ∀ x : It, PyData.depth x.py ≤ x.dep + 1
  | .sg s => by simp [It.py, PyData.depth]
  | .ev r => by simp only [It.py, PyData.depth, dep_ev]; have := row_pdep r; omega
theorem row_pdep : ∀ r : List It, PyData.depthAll (rowPy r) ≤ depR r + 1
  | [] => by simp [rowPy, PyData.depthAll]
  | x :: r => by
    have h1 := It.pdep x
    have h2 := row_pdep r
    simp only [rowPy, PyData.depthAll, dep_cons]
    omega
end
theorem toPy_row (S : Store) (r : Rw) : toPy S (rowD r) = some (.tuple (rowPy r)) := by
  simp [toPy, rowD, D.py, rowPy_eq]
theorem row_shaped {r : Rw} (h : okR r) (hd : depR r ≤ 60) : SeqAt.shaped (.tuple (rowPy r)) = true := by
  have := row_pdep r
  have h2 : PyData.depth (.tuple (rowPy r)) ≤ 64 := by rw [PyData.depth]; omega
  have h3 : PyData.canLay0 (.tuple (rowPy r)) = true := by rw [PyData.canLay0]; exact row_can r h
  rw [SeqAt.shaped, h3, decide_eq_true h2]
  rfl
theorem opEq_row_nil {r : Rw} {S : Store} (h : okR r) (hd : depR r ≤ 60) (hn : r ≠ []) : opEq (rowD r) (tupI []) S = .ok false S := by
  have h1 : toPy S (tupI []) = some (.tuple []) := by rw [toPy, tupI, List.map_nil, D.py, D.pys]; rfl
  have h2 : SeqAt.shaped (.tuple []) = true := by decide +kernel
  have h3 : PyData.eqv (.tuple (rowPy r)) (.tuple []) = false := by
    cases r with
    | nil => exact absurd rfl hn
    | cons x r => simp [rowPy, PyData.eqv, PyData.eqvAll]
  simp only [opEq, toPy_row, h1, row_shaped h hd, h2, Bool.and_self, if_true, h3]

section
variable {T : Tab} {n : Nat}
structure Judge (T : Tab) : Prop where
  h33 : T 33 = some d_is_sign
  h34 : T 34 = some d_signs_below
  h35 : T 35 = some d_is_long_term
  h36 : T 36 = some d_is_term
  h39 : T 39 = some d_need_terms
theorem below_step (hT : Judge T) {F : Fn} (k : Nat) (r : Rw) (deep : Nat) (most : Int) (S : Store) (hs : ∀ s, isSg s → F 33 [.str s] S = .ok (.bl true) S) (ok : okR r) (hk : depR r ≤ deep) (hc : (cntR r : Int) ≤ most) (hm : cntR r ≤ 1000000) (h60 : depR r ≤ 60)
    (hrec : ∀ q (deep : Nat) (most : Int), .ev q ∈ r → depR q ≤ deep → (cntR q : Int) ≤ most → F 34 [rowD q, .int deep, .int most] S = .ok (.int (cntR q)) S) :
    exTs F d_signs_below.body [some (rowD r), some (.int deep), some (.int most), none, none, none] S = .rt (.int (cntR r)) S := by
  have hlen := len_le_cnt r ok
  have key : (exTs F d_signs_below.body [some (rowD r), some (.int deep), some (.int most), none, none, none] S).sat (fun _ _ => False) (fun v S' => v = .int (cntR r) ∧ S' = S) := by
    have t1 : ∀ (q : Rw) (t : Ty), isTy (rowD q) t S = some (match t with | .tuple => true | _ => false) := fun q t => by cases t <;> rfl
    simp only [d_signs_below, xs_cons (s := .iff _ _ _), x_iff (c := .not _), t_not, t_isi, e_slot, List.getElem?_cons_succ, List.getElem?_cons_zero, R.bind_ok, t1, R.map_ok, Bool.not_true, R.out_ok, Bool.false_eq_true, if_false, xs_nil, Out.thn_nx]
    rw [xs_cons, x_asg, e_cst, R.out_ok, g_nm]
    simp only [List.set_cons_succ, List.set_cons_zero, Out.thn_nx]
    rw [xs_cons]
    refine sat_thn (N := fun e S' => S' = S ∧ ∃ a b, e = [some (rowD r), some (.int deep), some (.int most), some (.int (cntR r)), a, b])
      (for_pre It.d r (S' := S) (evI_row (by simp)) (le_sz (by omega)) (fun pre e S' => S' = S ∧ ∃ a b, e = [some (rowD r), some (.int deep), some (.int most), some (.int (cntR pre)), a, b]) ⟨rfl, none, none, by simp⟩ ?_ ?_) ?_
    · rintro pre x post env S' hr ⟨rfl, a, b, rfl⟩
      refine ⟨_, g_nm _ _, ?_⟩
      have hx : x ∈ r := by rw [hr]; simp
      have hcx : cntR pre + x.cnt ≤ cntR r := by rw [hr]; simp <;> omega
      have hle : ¬ (most < (cntR pre : Int) + (x.cnt : Int)) := by omega
      simp only [List.set_cons_succ, List.set_cons_zero]
      cases x with
      | sg s =>
        have o := ok_mem ok hx
        simp only [ok_sg] at o
        refine satB_nx (e := [some (rowD r), some (.int deep), some (.int most), some (.int (cntR (pre ++ [.sg s]))), some (It.sg s).d, b]) (S := S') ?_ ⟨rfl, _, _, rfl⟩
        have e1 : (cntR (pre ++ [.sg s]) : Int) = (cntR pre : Int) + 1 := by simp
        simp only [cnt_sg, Int.natCast_one] at hle
        rw [e1]
        simp only [It.d_sg, xs_cons, x_iff, t_isi, e_slot, List.getElem?_cons_succ, List.getElem?_cons_zero, R.bind_ok, ty_str, R.out_ok, if_true, t_not, t_call, es_cons, es_nil, hs s o, tru_b, R.map_ok, Bool.not_true, Bool.false_eq_true, if_false, xs_nil, Out.thn_nx, x_aug, e_cst, a_add, List.set_cons_succ, List.set_cons_zero, t_cmp, c_gt, hle, decide_false]
      | ev q =>
        have o := ok_mem ok hx
        have hd := dep_mem hx
        simp only [ok_ev] at o
        simp only [dep_ev] at hd
        simp only [cnt_ev] at hcx hle
        have d0 : (0 : Int) < (deep : Int) := by omega
        have d1 : (deep : Int) - 1 = ((deep - 1 : Nat) : Int) := by omega
        have hq := hrec q (deep - 1) (most - cntR pre) hx (by omega) (by omega)
        have hne := opEq_row_nil (r := q) (S := S') o.2 (by omega) o.1
        refine satB_nx (e := [some (rowD r), some (.int deep), some (.int most), some (.int (cntR (pre ++ [.ev q]))), some (rowD q), some (.int (cntR q))]) (S := S') ?_ ⟨rfl, _, _, rfl⟩
        have e1 : (cntR (pre ++ [.ev q]) : Int) = (cntR pre : Int) + (cntR q : Int) := by simp
        rw [e1]
        have z : 0 ≤ sizeLine := Nat.zero_le _
        simp only [It.d_ev, xs_cons, x_iff, t_isi, e_slot, List.getElem?_cons_succ, List.getElem?_cons_zero, R.bind_ok, t1, R.out_ok, Bool.false_eq_true, if_false, x_asg, e_ife, t_and, t_cmp, e_cst, c_gt, d0, decide_true, if_true, e_tup, es_nil, List.length_nil, z, tupI_nil, c_ne, hne, R.map_ok, Bool.not_false, e_call, es_cons, e_bin, b_sub, d1, hq, g_nm, List.set_cons_succ, List.set_cons_zero, Out.thn_nx, c_is, is_int, xs_nil, x_aug, a_add, hle, decide_false]
    · rintro env S' ⟨rfl, a, b, rfl⟩
      exact ⟨rfl, a, b, rfl⟩
    · rintro env S' ⟨rfl, a, b, rfl⟩
      refine sat_rtI (d := .int (cntR r)) (S := S') ?_ ⟨rfl, rfl⟩
      simp
  obtain ⟨v, S', e, rfl, rfl⟩ := sat_rt key
  exact e
theorem below_ok (hT : Judge T) (S : Store) : ∀ (k : Nat) (r : Rw) (deep : Nat) (most : Int), depR r ≤ k → k ≤ 60 → okR r → depR r ≤ deep → (cntR r : Int) ≤ most → cntR r ≤ 1000000 → callN T (n + k + 2) 34 [rowD r, .int deep, .int most] S = .ok (.int (cntR r)) S
  | 0, r, deep, most, h0, h1, ok, hd, hc, hm => by
    have e := below_step hT (F := callN T (n + 1)) 0 r deep most S (fun s hs => is_sign_ok hT.h33 hs) ok hd hc hm (by omega) (fun q d m hq _ _ => by have := dep_mem hq; simp at this; omega)
    exact call_pure0 hT.h34 rfl e
  | k + 1, r, deep, most, h0, h1, ok, hd, hc, hm => by
    have e := below_step hT (F := callN T (n + k + 2)) 0 r deep most S (fun s hs => is_sign_ok (n := n + k + 1) hT.h33 hs) ok hd hc hm (by omega) (fun q d m hq h2 h3 => by
      have := dep_mem hq
      have h4 := cnt_mem hq
      have h5 := ok_mem ok hq
      simp only [dep_ev, cnt_ev, ok_ev] at this h4 h5
      exact below_ok hT S k q d m (by omega) (by omega) h5.2 h2 h3 (by omega))
    exact call_pure0 hT.h34 rfl e
/-- terms -/
def TmP (r : Rw) : Prop := okR r ∧ depR r ≤ 6 ∧ cntR r ≤ 400
theorem long_ok (hT : Judge T) {r : Rw} (S : Store) (most : Nat) (h : okR r) (hd : depR r ≤ 6) (hc : cntR r ≤ most) (hm : most ≤ 1000000) : callN T (n + 9) 35 [rowD r, .int most] S = .ok (.bl true) S := by
  have h1 := below_ok (n := n) hT S 6 r 6 most hd (by omega) h hd (by omega) (by omega)
  apply call_pure0 hT.h35 rfl
  show exTs (callN T (n + 8)) d_is_long_term.body [some (rowD r), some (.int most)] S = _
  simp only [d_is_long_term, xs_cons, x_ret, e_cmp, e_call, es_cons, es_nil, e_slot, e_cst, List.getElem?_cons_succ, List.getElem?_cons_zero, R.bind_ok, show ((6 : Int)) = ((6 : Nat) : Int) from rfl, h1, c_isn, is_int, R.map_ok, Bool.not_false, R.out_ok, Out.thn_rt]
theorem is_term_ok (hT : Judge T) {r : Rw} (S : Store) (h : TmP r) : callN T (n + 10) 36 [rowD r] S = .ok (.bl true) S := by
  have h1 := long_ok (n := n) hT S 400 h.1 h.2.1 h.2.2 (by omega)
  apply call_pure0 hT.h36 rfl
  show exTs (callN T (n + 9)) d_is_term.body [some (rowD r)] S = _
  simp only [d_is_term, xs_cons, x_ret, e_call, es_cons, es_nil, e_slot, e_cst, List.getElem?_cons_zero, R.bind_ok, show ((400 : Int)) = ((400 : Nat) : Int) from rfl, h1, R.out_ok, Out.thn_rt]
theorem need_terms_ok (hT : Judge T) (c : Nat) (rs : List Rw) (S : Store) (hc : S[c]? = some (.lst (rs.map rowD))) (hl : rs.length ≤ 1000) (h : ∀ r ∈ rs, TmP r) : callN T (n + 11) 39 [.ref c] S = .ok .non S := by
  have key : (exTs (callN T (n + 10)) d_need_terms.body [some (.ref c), none] S).sat (fun e S' => S' = S) (fun v S' => False) := by
    rw [d_need_terms]
    simp only []
    rw [xs_cons]
    refine sat_thn (N := fun e S' => S' = S) ?_ (fun e S' h => sat_nxI xs_nil h)
    rw [x_for]
    have hs : evI (callN T (n + 10)) [some (.ref c), none] (.any (.slot 0)) S = .ok (.ls c) S := by simp [hc]
    rw [hs, R.out_ok]
    refine forGo_ls (items := rs.map rowD) (fun i e S' => S' = S ∧ ∃ t, e = [some (.ref c), t]) _ _ (fun i e S' q => by rw [q.1]; exact hc) ?_ (fun e S' q => q.1) wmax 0 _ S (Nat.zero_le _) (by have := wmax_lt (le_sz (k := rs.length) (by omega)); simpa using this) ⟨rfl, _, rfl⟩
    rintro i d e S' hd ⟨rfl, t, rfl⟩
    refine ⟨_, g_nm _ _, ?_⟩
    obtain ⟨r, hr, rfl⟩ : ∃ r, r ∈ rs ∧ d = rowD r := by
      rw [List.getElem?_map] at hd
      cases q : rs[i]? with
      | none => rw [q] at hd; cases hd
      | some r => rw [q] at hd; cases hd; exact ⟨r, List.mem_of_getElem? q, rfl⟩
    refine satB_nx (e := [some (.ref c), some (rowD r)]) (S := S') ?_ ⟨rfl, _, rfl⟩
    have h1 := is_term_ok (n := n) hT S' (h r hr)
    simp [h1]
  cases hO : exTs (callN T (n + 10)) d_need_terms.body [some (.ref c), none] S with
  | nx e S' =>
    rw [hO] at key
    have : S' = S := key
    subst this
    rw [call_nx (n := n + 10) (xs := [.ref c]) (env := e) (S' := S') hT.h39 rfl hO, gcS_self]
  | rt d S' => rw [hO] at key; exact key.elim
  | bk e S' => rw [hO] at key; exact key.elim
  | ct e S' => rw [hO] at key; exact key.elim
  | ex x e S' => rw [hO] at key; exact key.elim
  | stuck => rw [hO] at key; exact key.elim
end
end PD.PS
end

section
set_option linter.all false
set_option maxRecDepth 100000
set_option maxHeartbeats 2000000
/-! PDstep: steps of derivations, as plain rows. -/
namespace PD.PS
open PySem
inductive Deed where
  | turn | back | fold | times
  deriving DecidableEq
def Deed.nm : Deed → Str
  | .turn => "turn"
  | .back => "back"
  | .fold => "fold"
  | .times => "times"
def Deed.inv : Deed → Deed
  | .turn => .back
  | .back => .turn
  | .fold => .times
  | .times => .fold
def evAt (row : Rw) (i : Nat) : Option Rw := match row[i]? with
  | some (.ev q) => some q
  | _ => none
def repR (n : Nat) (q : Rw) : Rw := (List.replicate n q).flatten
mutual
def It.beq : It → It → Bool
  | .sg a, .sg b => decide (a = b)
  | .ev a, .ev b => rowBeq a b
  | _, _ => false
def rowBeq : List It → List It → Bool
  | [], [] => true
  | x :: a, y :: b => It.beq x y && rowBeq a b
  | _, _ => false
end
mutual
theorem It.beq_iff : ∀ x y : It, It.beq x y = true ↔ x = y
  | .sg a, .sg b => by simp [It.beq]
  | .ev a, .ev b => by simp [It.beq, rowBeq_iff a b]
  | .sg a, .ev b => by simp [It.beq]
  | .ev a, .sg b => by simp [It.beq]
theorem rowBeq_iff : ∀ a b : List It, rowBeq a b = true ↔ a = b
  | [], [] => by simp [rowBeq]
  | [], _ :: _ => by simp [rowBeq]
  | _ :: _, [] => by simp [rowBeq]
  | x :: a, y :: b => by simp [rowBeq, It.beq_iff x y, rowBeq_iff a b]
end
def turnR (row : Rw) (i n : Nat) : Option Rw := match evAt row i with
  | some q => if 1 ≤ n ∧ n ≤ q.length then some (row.take i ++ q.take n ++ [.ev (q.drop n ++ q.take n)] ++ row.drop (i + 1)) else none
  | none => none
def backR (row : Rw) (i n : Nat) : Option Rw := if n < 1 then none else match evAt row (i + n) with
  | some q => if q.length < n then none else if rowBeq (q.drop (q.length - n)) ((row.drop i).take n) = true then some (row.take i ++ [.ev ((row.drop i).take n ++ q.take (q.length - n))] ++ row.drop (i + n + 1)) else none
  | none => none
def foldR (row : Rw) (i n : Nat) : Option Rw := match evAt row i with
  | some q => if 2 ≤ n then (if rowBeq (repR n (q.take (q.length / n))) q = true then some (row.take i ++ [.ev (q.take (q.length / n))] ++ row.drop (i + 1)) else none) else none
  | none => none
def timesR (row : Rw) (i n : Nat) : Option Rw := match evAt row i with
  | some q => if 2 ≤ n then some (row.take i ++ [.ev (repR n q)] ++ row.drop (i + 1)) else none
  | none => none
def deedR : Deed → Rw → Nat → Nat → Option Rw
  | .turn => turnR
  | .back => backR
  | .fold => foldR
  | .times => timesR
def stepR (d : Deed) (i n : Nat) : List Nat → Rw → Option Rw
  | [], row => deedR d row i n
  | p :: ps, row => match evAt row p with
    | some q => (stepR d i n ps q).map fun q' => row.take p ++ [.ev q'] ++ row.drop (p + 1)
    | none => none
/-! ### by parts -/
theorem evAt_iff {row : Rw} {i : Nat} {q : Rw} : evAt row i = some q ↔ ∃ A B, row = A ++ .ev q :: B ∧ i = A.length := by
  constructor
  · intro h
    unfold evAt at h
    split at h
    next r e =>
      cases h
      obtain ⟨hi, he⟩ := List.getElem?_eq_some_iff.mp e
      exact ⟨row.take i, row.drop (i + 1), by rw [← he, ← List.drop_eq_getElem_cons hi, List.take_append_drop], by simp; omega⟩
    · cases h
  · rintro ⟨A, B, rfl, rfl⟩
    unfold evAt
    rw [List.getElem?_append_right (Nat.le_refl _)]
    simp
theorem take_A (A B : Rw) : (A ++ B).take A.length = A := by simp
theorem drop_A (A B : Rw) (x : It) : (A ++ x :: B).drop (A.length + 1) = B := by
  rw [← List.drop_drop, List.drop_left]
  rfl
theorem turn_of {A B q : Rw} {n : Nat} (h1 : 1 ≤ n) (h2 : n ≤ q.length) : turnR (A ++ .ev q :: B) A.length n = some (A ++ (q.take n ++ .ev (q.drop n ++ q.take n) :: B)) := by
  have e : evAt (A ++ .ev q :: B) A.length = some q := evAt_iff.2 ⟨A, B, rfl, rfl⟩
  unfold turnR
  rw [e]
  simp only [h1, h2, and_self, if_true, take_A, drop_A]
  simp
theorem turn_inv {row row' : Rw} {i n : Nat} (h : turnR row i n = some row') : ∃ A q B, row = A ++ .ev q :: B ∧ i = A.length ∧ 1 ≤ n ∧ n ≤ q.length ∧ row' = A ++ (q.take n ++ .ev (q.drop n ++ q.take n) :: B) := by
  unfold turnR at h
  split at h
  next q e =>
    obtain ⟨A, B, rfl, rfl⟩ := evAt_iff.1 e
    split at h
    next hn =>
      cases h
      exact ⟨A, q, B, rfl, rfl, hn.1, hn.2, by rw [take_A, drop_A]; simp⟩
    · cases h
  · cases h
theorem back_of {A M K B : Rw} {n : Nat} (h1 : 1 ≤ n) (hM : M.length = n) : backR (A ++ (M ++ .ev (K ++ M) :: B)) A.length n = some (A ++ .ev (M ++ K) :: B) := by
  have e : evAt (A ++ (M ++ .ev (K ++ M) :: B)) (A.length + n) = some (K ++ M) := evAt_iff.2 ⟨A ++ M, B, by simp, by simp [hM]⟩
  have n0 : ¬ n < 1 := by omega
  have n1 : ¬ (K ++ M).length < n := by simp; omega
  have d1 : (K ++ M).length - n = K.length := by simp; omega
  have s1 : ((A ++ (M ++ .ev (K ++ M) :: B)).drop A.length).take n = M := by rw [List.drop_left, ← hM, List.take_left]
  have s2 : (A ++ (M ++ .ev (K ++ M) :: B)).drop (A.length + n + 1) = B := by
    rw [← List.append_assoc, show A.length + n + 1 = (A ++ M).length + 1 by simp [hM], drop_A]
  unfold backR
  rw [if_neg n0, e]
  simp only []
  rw [if_neg n1, d1, s1, List.drop_left, if_pos ((rowBeq_iff _ _).2 rfl), s2, List.take_left, take_A]
  simp
theorem back_inv {row row' : Rw} {i n : Nat} (h : backR row i n = some row') : ∃ A M K B, row = A ++ (M ++ .ev (K ++ M) :: B) ∧ i = A.length ∧ 1 ≤ n ∧ M.length = n ∧ row' = A ++ .ev (M ++ K) :: B := by
  have h0 := h
  unfold backR at h
  split at h
  · cases h
  next hn =>
    split at h
    next q e =>
      split at h
      · cases h
      next hl =>
        split at h
        next hb =>
          obtain ⟨A0, B, hr, hi⟩ := evAt_iff.1 e
          have hb := (rowBeq_iff _ _).1 hb
          have hA : A0 = A0.take i ++ A0.drop i := (List.take_append_drop i A0).symm
          have hM : (A0.drop i).length = n := by simp; omega
          have hlen : (A0.take i).length = i := by simp; omega
          have hs : (row.drop i).take n = A0.drop i := by
            rw [hr, List.drop_append_of_le_length (by omega), ← hM, List.take_left]
          have hq : q = q.take (q.length - n) ++ A0.drop i := by
            rw [← hs, ← hb, List.take_append_drop]
          have hrow : row = A0.take i ++ (A0.drop i ++ .ev (q.take (q.length - n) ++ A0.drop i) :: B) := by
            rw [← hq, ← List.append_assoc, List.take_append_drop, hr]
          refine ⟨A0.take i, A0.drop i, q.take (q.length - n), B, hrow, hlen.symm, by omega, hM, ?_⟩
          have := back_of (A := A0.take i) (M := A0.drop i) (K := q.take (q.length - n)) (B := B) (n := n) (by omega) hM
          rw [← hrow, hlen, h0] at this
          exact Option.some.inj this
        · cases h
    · cases h
theorem rep_len (n : Nat) (u : Rw) : (repR n u).length = n * u.length := by
  unfold repR
  rw [List.length_flatten, List.map_replicate, List.sum_replicate_nat]
theorem rep_take {n : Nat} (u : Rw) (h : 1 ≤ n) : (repR n u).take ((repR n u).length / n) = u := by
  rw [rep_len, Nat.mul_div_cancel_left _ (by omega)]
  obtain ⟨k, rfl⟩ : ∃ k, n = k + 1 := ⟨n - 1, by omega⟩
  unfold repR
  rw [List.replicate_succ, List.flatten_cons, List.take_left]
theorem fold_of {A B u : Rw} {n : Nat} (h : 2 ≤ n) : foldR (A ++ .ev (repR n u) :: B) A.length n = some (A ++ .ev u :: B) := by
  have e : evAt (A ++ .ev (repR n u) :: B) A.length = some (repR n u) := evAt_iff.2 ⟨A, B, rfl, rfl⟩
  unfold foldR
  rw [e]
  simp only []
  rw [if_pos h, rep_take u (by omega), if_pos ((rowBeq_iff _ _).2 rfl), take_A, drop_A]
  simp
theorem fold_inv {row row' : Rw} {i n : Nat} (h : foldR row i n = some row') : ∃ A u B, row = A ++ .ev (repR n u) :: B ∧ i = A.length ∧ 2 ≤ n ∧ row' = A ++ .ev u :: B := by
  unfold foldR at h
  split at h
  next q e =>
    obtain ⟨A, B, rfl, rfl⟩ := evAt_iff.1 e
    split at h
    next hn =>
      split at h
      next hb =>
        cases h
        have hb := (rowBeq_iff _ _).1 hb
        exact ⟨A, q.take (q.length / n), B, by rw [hb], rfl, hn, by rw [take_A, drop_A]; simp⟩
      · cases h
    · cases h
  · cases h
theorem times_of {A B u : Rw} {n : Nat} (h : 2 ≤ n) : timesR (A ++ .ev u :: B) A.length n = some (A ++ .ev (repR n u) :: B) := by
  have e : evAt (A ++ .ev u :: B) A.length = some u := evAt_iff.2 ⟨A, B, rfl, rfl⟩
  unfold timesR
  rw [e]
  simp only []
  rw [if_pos h, take_A, drop_A]
  simp
theorem times_inv {row row' : Rw} {i n : Nat} (h : timesR row i n = some row') : ∃ A u B, row = A ++ .ev u :: B ∧ i = A.length ∧ 2 ≤ n ∧ row' = A ++ .ev (repR n u) :: B := by
  unfold timesR at h
  split at h
  next q e =>
    obtain ⟨A, B, rfl, rfl⟩ := evAt_iff.1 e
    split at h
    next hn =>
      cases h
      exact ⟨A, q, B, rfl, rfl, hn, by rw [take_A, drop_A]; simp⟩
    · cases h
  · cases h
/-- each deed is undone by its other one -/
theorem deed_inv {d : Deed} {row row' : Rw} {i n : Nat} (h : deedR d row i n = some row') : deedR d.inv row' i n = some row := by
  cases d with
  | turn =>
    obtain ⟨A, q, B, rfl, rfl, h1, h2, rfl⟩ := turn_inv h
    have := back_of (A := A) (M := q.take n) (K := q.drop n) (B := B) (n := n) h1 (by simp; omega)
    rw [List.take_append_drop] at this
    exact this
  | back =>
    obtain ⟨A, M, K, B, rfl, rfl, h1, h2, rfl⟩ := back_inv h
    have := turn_of (A := A) (q := M ++ K) (B := B) (n := n) h1 (by simp; omega)
    rw [← h2, List.take_left, List.drop_left, h2] at this
    exact this
  | fold =>
    obtain ⟨A, u, B, rfl, rfl, h1, rfl⟩ := fold_inv h
    exact times_of h1
  | times =>
    obtain ⟨A, u, B, rfl, rfl, h1, rfl⟩ := times_inv h
    exact fold_of h1
theorem step_inv {d : Deed} {i n : Nat} : ∀ {ps : List Nat} {row row' : Rw}, stepR d i n ps row = some row' → stepR d.inv i n ps row' = some row
  | [], row, row', h => deed_inv h
  | p :: ps, row, row', h => by
    unfold stepR at h
    split at h
    next q e =>
      obtain ⟨A, B, rfl, rfl⟩ := evAt_iff.1 e
      simp only [Option.map_eq_some_iff] at h
      obtain ⟨q', h1, rfl⟩ := h
      have ih := step_inv h1
      rw [take_A, drop_A]
      have e2 : evAt (A ++ [.ev q'] ++ B) A.length = some q' := evAt_iff.2 ⟨A, B, by simp, rfl⟩
      unfold stepR
      rw [e2]
      simp only [ih, Option.map_some]
      rw [show A ++ [It.ev q'] ++ B = A ++ .ev q' :: B by simp, take_A, drop_A]
      simp
    · cases h
/-! ### what stays -/
theorem ok_take {r : Rw} (h : okR r) (n : Nat) : okR (r.take n) := (ok_iff _).2 fun x hx => ok_mem h (List.mem_of_mem_take hx)
theorem ok_drop {r : Rw} (h : okR r) (n : Nat) : okR (r.drop n) := (ok_iff _).2 fun x hx => ok_mem h (List.mem_of_mem_drop hx)
theorem dep_take (r : Rw) (n : Nat) : depR (r.take n) ≤ depR r := by
  have := dep_app (r.take n) (r.drop n)
  rw [List.take_append_drop] at this
  omega
theorem dep_drop (r : Rw) (n : Nat) : depR (r.drop n) ≤ depR r := by
  have := dep_app (r.take n) (r.drop n)
  rw [List.take_append_drop] at this
  omega
theorem cnt_split (r : Rw) (n : Nat) : cntR (r.take n) + cntR (r.drop n) = cntR r := by
  rw [← cnt_app, List.take_append_drop]
theorem repR_ok {u : Rw} (h : okR u) (n : Nat) : okR (repR n u) := (ok_iff _).2 fun x hx => by
  unfold repR at hx
  obtain ⟨l, h1, h2⟩ := List.mem_flatten.1 hx
  rw [List.eq_of_mem_replicate h1] at h2
  exact ok_mem h h2
theorem repR_okI {u : Rw} {n : Nat} (h : okR (repR n u)) (hn : 1 ≤ n) : okR u := by
  obtain ⟨k, rfl⟩ : ∃ k, n = k + 1 := ⟨n - 1, by omega⟩
  unfold repR at h
  rw [List.replicate_succ, List.flatten_cons] at h
  exact ((ok_app _ _).1 h).1
theorem repR_dep (u : Rw) : ∀ n, depR (repR n u) ≤ depR u
  | 0 => by simp [repR]
  | n + 1 => by
    have := repR_dep u n
    unfold repR at *
    rw [List.replicate_succ, List.flatten_cons, dep_app]
    omega
theorem repR_depI {u : Rw} {n : Nat} (hn : 1 ≤ n) : depR u ≤ depR (repR n u) := by
  obtain ⟨k, rfl⟩ : ∃ k, n = k + 1 := ⟨n - 1, by omega⟩
  unfold repR
  rw [List.replicate_succ, List.flatten_cons, dep_app]
  omega
theorem repR_cnt (u : Rw) : ∀ n, cntR (repR n u) = n * cntR u
  | 0 => by simp [repR]
  | n + 1 => by
    have := repR_cnt u n
    unfold repR at *
    rw [List.replicate_succ, List.flatten_cons, cnt_app, this, Nat.succ_mul]
    omega
theorem rep_ne {u : Rw} {n : Nat} (hn : 1 ≤ n) : repR n u = [] ↔ u = [] := by
  have := rep_len n u
  constructor
  · intro h
    rw [h, List.length_nil] at this
    rcases Nat.mul_eq_zero.1 this.symm with z | z
    · omega
    · exact List.eq_nil_of_length_eq_zero z
  · rintro rfl
    exact List.eq_nil_of_length_eq_zero (by rw [this]; simp)
/-- a row behind a deed: of signs, not higher, not more than so many times as long, not empty -/
theorem deed_ok {d : Deed} {row row' : Rw} {i n : Nat} (h : deedR d row i n = some row') (ok : okR row) (hn : n ≤ 5) : okR row' ∧ depR row' ≤ depR row ∧ cntR row' ≤ 5 * cntR row ∧ row' ≠ [] := by
  cases d with
  | turn =>
    obtain ⟨A, q, B, rfl, rfl, h1, h2, rfl⟩ := turn_inv h
    simp only [ok_app, ok_cons, ok_ev] at ok ⊢
    have c1 := cnt_split q n
    have d1 := dep_take q n
    have d2 := dep_drop q n
    refine ⟨⟨ok.1, ok_take ok.2.1.2 n, ⟨fun z => ?_, ok_drop ok.2.1.2 n, ok_take ok.2.1.2 n⟩, ok.2.2⟩, ?_, ?_, by simp⟩
    · have := congrArg List.length z
      simp only [List.length_append, List.length_drop, List.length_take, List.length_nil] at this
      omega
    · simp only [dep_app, dep_cons, dep_ev]; omega
    · simp only [cnt_app, cnt_cons, cnt_ev]; omega
  | back =>
    obtain ⟨A, M, K, B, rfl, rfl, h1, h2, rfl⟩ := back_inv h
    simp only [ok_app, ok_cons, ok_ev] at ok ⊢
    refine ⟨⟨ok.1, ⟨fun z => ?_, ok.2.1, ok.2.2.1.2.1⟩, ok.2.2.2⟩, ?_, ?_, by simp⟩
    · have := congrArg List.length z
      simp only [List.length_append, List.length_drop, List.length_take, List.length_nil] at this
      omega
    · simp only [dep_app, dep_cons, dep_ev]; omega
    · simp only [cnt_app, cnt_cons, cnt_ev]; omega
  | fold =>
    obtain ⟨A, u, B, rfl, rfl, h1, rfl⟩ := fold_inv h
    simp only [ok_app, ok_cons, ok_ev] at ok ⊢
    have d1 := repR_depI (u := u) (n := n) (by omega)
    have c1 := repR_cnt u n
    have c2 : cntR u ≤ n * cntR u := Nat.le_mul_of_pos_left _ (by omega)
    refine ⟨⟨ok.1, ⟨fun z => ok.2.1.1 ((rep_ne (by omega)).2 z), repR_okI ok.2.1.2 (by omega)⟩, ok.2.2⟩, ?_, ?_, by simp⟩
    · simp only [dep_app, dep_cons, dep_ev]; omega
    · simp only [cnt_app, cnt_cons, cnt_ev]; omega
  | times =>
    obtain ⟨A, u, B, rfl, rfl, h1, rfl⟩ := times_inv h
    simp only [ok_app, ok_cons, ok_ev] at ok ⊢
    have d1 := repR_dep u n
    have c1 := repR_cnt u n
    have c2 : n * cntR u ≤ 5 * cntR u := Nat.mul_le_mul_right _ hn
    refine ⟨⟨ok.1, ⟨fun z => ok.2.1.1 ((rep_ne (by omega)).1 z), repR_ok ok.2.1.2 n⟩, ok.2.2⟩, ?_, ?_, by simp⟩
    · simp only [dep_app, dep_cons, dep_ev]; omega
    · simp only [cnt_app, cnt_cons, cnt_ev]; omega
theorem step_ok {d : Deed} {i n : Nat} (hn : n ≤ 5) : ∀ {ps : List Nat} {row row' : Rw}, stepR d i n ps row = some row' → okR row → okR row' ∧ depR row' ≤ depR row ∧ cntR row' ≤ 5 * cntR row ∧ row' ≠ []
  | [], row, row', h, ok => deed_ok h ok hn
  | p :: ps, row, row', h, ok => by
    unfold stepR at h
    split at h
    next q e =>
      obtain ⟨A, B, rfl, rfl⟩ := evAt_iff.1 e
      simp only [Option.map_eq_some_iff] at h
      obtain ⟨q', h1, rfl⟩ := h
      rw [take_A, drop_A]
      simp only [ok_app, ok_cons, ok_ev] at ok
      obtain ⟨i1, i2, i3, i4⟩ := step_ok hn h1 ok.2.1.2
      refine ⟨?_, ?_, ?_, by simp⟩
      · simp only [ok_app, ok_cons, ok_ev, ok_nil, and_true]
        exact ⟨⟨ok.1, i4, i1⟩, ok.2.2⟩
      · simp only [dep_app, dep_cons, dep_ev, dep_nil]; omega
      · simp only [cnt_app, cnt_cons, cnt_ev, cnt_nil]; omega
    · cases h
/-! ### rows compared -/
mutual
theorem It.eqv : ∀ x y : It, PyData.eqv x.py y.py = It.beq x y
  | .sg a, .sg b => by
    simp only [It.py, PyData.eqv, It.beq]
    by_cases h : a = b
    · subst h; simp
    · rw [decide_eq_false h]; simpa using h
  | .ev a, .ev b => by simp only [It.py, PyData.eqv, It.beq]; exact row_eqv a b
  | .sg a, .ev b => by simp [It.py, PyData.eqv, It.beq]
  | .ev a, .sg b => by simp [It.py, PyData.eqv, It.beq]
theorem row_eqv : ∀ a b : List It, PyData.eqvAll (rowPy a) (rowPy b) = rowBeq a b
  | [], [] => by simp [rowPy, PyData.eqvAll, rowBeq]
  | [], _ :: _ => by simp [rowPy, PyData.eqvAll, rowBeq]
  | _ :: _, [] => by simp [rowPy, PyData.eqvAll, rowBeq]
  | x :: a, y :: b => by simp only [rowPy, PyData.eqvAll, rowBeq, It.eqv x y, row_eqv a b]
end
theorem opEq_rows {a b : Rw} (ha : okR a) (hb : okR b) (da : depR a ≤ 60) (db : depR b ≤ 60) (S : Store) : opEq (rowD a) (rowD b) S = .ok (rowBeq a b) S := by
  simp only [opEq, toPy_row, row_shaped ha da, row_shaped hb db, Bool.and_self, if_true, PyData.eqv, row_eqv]
end PD.PS
end

section
set_option linter.all false
namespace PD
open PySem
def d_turned_row : Def := ⟨3, 4, (.cons (.asg (.nm 3) (.ix (.slot 0) (.slot 1))) (.cons (.iff (.or (.isi (.slot 3) .str) (.not (.chn .LtE .LtE (.cst (.int 1)) (.slot 2) (.blt .len (.cons (.slot 3) .nil))))) (.cons (.ret (.cst .non)) .nil) .nil) (.cons (.ret (.bin .Add (.bin .Add (.bin .Add (.slc (.slot 0) .no (.so (.slot 1))) (.slc (.slot 3) .no (.so (.slot 2)))) (.tup (.cons (.bin .Add (.slc (.slot 3) (.so (.slot 2)) .no) (.slc (.slot 3) .no (.so (.slot 2)))) .nil))) (.slc (.slot 0) (.so (.bin .Add (.slot 1) (.cst (.int 1)))) .no))) .nil)))⟩
def d_turned_back_row : Def := ⟨3, 5, (.cons (.asg (.nm 3) (.bin .Add (.slot 1) (.slot 2))) (.cons (.iff (.or (.cmp .Lt (.slot 2) (.cst (.int 1))) (.or (.cmp .GtE (.slot 3) (.blt .len (.cons (.slot 0) .nil))) (.isi (.ix (.slot 0) (.slot 3)) .str))) (.cons (.ret (.cst .non)) .nil) .nil) (.cons (.asg (.nm 4) (.ix (.slot 0) (.slot 3))) (.cons (.iff (.or (.cmp .Lt (.blt .len (.cons (.slot 4) .nil)) (.slot 2)) (.cmp .NotEq (.slc (.slot 4) (.so (.bin .Sub (.blt .len (.cons (.slot 4) .nil)) (.slot 2))) .no) (.slc (.slot 0) (.so (.slot 1)) (.so (.slot 3))))) (.cons (.ret (.cst .non)) .nil) .nil) (.cons (.ret (.bin .Add (.bin .Add (.slc (.slot 0) .no (.so (.slot 1))) (.tup (.cons (.bin .Add (.slc (.slot 0) (.so (.slot 1)) (.so (.slot 3))) (.slc (.slot 4) .no (.so (.bin .Sub (.blt .len (.cons (.slot 4) .nil)) (.slot 2))))) .nil))) (.slc (.slot 0) (.so (.bin .Add (.slot 3) (.cst (.int 1)))) .no))) .nil)))))⟩
def d_folded_row : Def := ⟨3, 5, (.cons (.asg (.nm 3) (.ix (.slot 0) (.slot 1))) (.cons (.iff (.or (.isi (.slot 3) .str) (.or (.cmp .Lt (.slot 2) (.cst (.int 2))) (.cmp .NotEq (.bin .Mod (.blt .len (.cons (.slot 3) .nil)) (.slot 2)) (.cst (.int 0))))) (.cons (.ret (.cst .non)) .nil) .nil) (.cons (.asg (.nm 4) (.slc (.slot 3) .no (.so (.bin .FloorDiv (.blt .len (.cons (.slot 3) .nil)) (.slot 2))))) (.cons (.ret (.ife (.cmp .Eq (.bin .Mult (.slot 4) (.slot 2)) (.slot 3)) (.bin .Add (.bin .Add (.slc (.slot 0) .no (.so (.slot 1))) (.tup (.cons (.slot 4) .nil))) (.slc (.slot 0) (.so (.bin .Add (.slot 1) (.cst (.int 1)))) .no)) (.cst .non))) .nil))))⟩
def d_timed_row : Def := ⟨3, 4, (.cons (.asg (.nm 3) (.ix (.slot 0) (.slot 1))) (.cons (.iff (.or (.isi (.slot 3) .str) (.not (.chn .LtE .LtE (.cst (.int 2)) (.slot 2) (.bin .FloorDiv (.cst (.int 100000)) (.blt .len (.cons (.slot 3) .nil)))))) (.cons (.ret (.cst .non)) .nil) .nil) (.cons (.ret (.bin .Add (.bin .Add (.slc (.slot 0) .no (.so (.slot 1))) (.tup (.cons (.bin .Mult (.slot 3) (.slot 2)) .nil))) (.slc (.slot 0) (.so (.bin .Add (.slot 1) (.cst (.int 1)))) .no))) .nil)))⟩
end PD
set_option maxRecDepth 100000
set_option maxHeartbeats 2000000
/-! PDstepE: the program's deeds and steps, run. -/
namespace PD.PS
open PySem
def optR : Option Rw → D
  | none => .non
  | some r => rowD r
theorem optR_lt (n : Nat) (o : Option Rw) : D.lt n (optR o) = true := by cases o with | none => rfl | some r => exact row_lt n r
theorem cutG_hi {α : Type} (xs : List α) (k : Nat) : cutD xs none (some (k : Int)) = xs.take k := by
  simp only [cutD, HT.sIx_nat, HT.sIx_none, List.drop_zero, Nat.sub_zero]
  rw [List.take_eq_take_iff]
  omega
theorem cutG_lo {α : Type} (xs : List α) (k : Nat) : cutD xs (some (k : Int)) none = xs.drop k := by
  simp only [cutD, HT.sIx_nat, HT.sIx_none]
  rcases Nat.le_total k xs.length with h | h
  · rw [Nat.min_eq_left h, List.take_of_length_le (by simp)]
  · rw [Nat.min_eq_right h, List.drop_of_length_le (Nat.le_refl _), List.drop_of_length_le h]
    simp
theorem cutG_mid {α : Type} (xs : List α) (i n : Nat) (h : i + n ≤ xs.length) : cutD xs (some (i : Int)) (some ((i + n : Nat) : Int)) = (xs.drop i).take n := by
  simp only [cutD, HT.sIx_nat]
  rw [Nat.min_eq_left (by omega : i ≤ xs.length), Nat.min_eq_left h, Nat.add_sub_cancel_left]
theorem slR_hi (r : Rw) (k : Nat) (S : Store) : opSl (rowD r) none (some (k : Int)) S = .ok (rowD (r.take k)) S := by
  simp only [rowD, opSl, cutG_hi, rowDs_map, List.map_take]
theorem slR_lo (r : Rw) (k : Nat) (S : Store) : opSl (rowD r) (some (k : Int)) none S = .ok (rowD (r.drop k)) S := by
  simp only [rowD, opSl, cutG_lo, rowDs_map, List.map_drop]
theorem slR_mid (r : Rw) (i n : Nat) (h : i + n ≤ r.length) (S : Store) : opSl (rowD r) (some (i : Int)) (some ((i + n : Nat) : Int)) S = .ok (rowD ((r.drop i).take n)) S := by
  have h' : i + n ≤ (r.map It.d).length := by rw [List.length_map]; exact h
  simp only [rowD, opSl, rowDs_map, cutG_mid _ _ _ h', List.map_take, List.map_drop]
theorem ixR {r : Rw} {k : Nat} {x : It} (h : r[k]? = some x) (S : Store) : opIx (rowD r) (.int (k : Int)) S = .ok x.d S := by
  have h' : (rowDs r)[k]? = some x.d := by rw [rowDs_map, List.getElem?_map, h]; rfl
  simp only [rowD, opIx, dicOf, opIx0, itemsOf, atI_nat _ k _ h']
theorem lenR_ok (r : Rw) (S : Store) : opBlt .len [rowD r] S = .ok (.int (r.length : Int)) S := by
  have : opBlt .len [D.tup (rowDs r)] S = .ok (.int ((rowDs r).length : Int)) S := by simp [opBlt, itemsOf]
  rw [rowDs_len] at this
  exact this
theorem tyR (r : Rw) (S : Store) : isTy (rowD r) .str S = some false := rfl
theorem one_ev (r : Rw) : D.tup [rowD r] = rowD [.ev r] := by simp [rowD]
theorem tyx_sg (s : Str) (S : Store) : isTy (It.sg s).d .str S = some true := by simp [It.d_sg]
theorem evAt_of {r : Rw} {i : Nat} {q : Rw} (h : r[i]? = some (.ev q)) : evAt r i = some q := by unfold evAt; rw [h]
theorem evAt_sg {r : Rw} {i : Nat} {s : Str} (h : r[i]? = some (.sg s)) : evAt r i = none := by unfold evAt; rw [h]
/-- how long things may be here -/
structure Short (r : Rw) : Prop where
  ok : okR r
  dep : depR r ≤ 50
  cnt : cntR r ≤ 1000
theorem Short.len {r : Rw} (h : Short r) : r.length ≤ 1000 := Nat.le_trans (len_le_cnt r h.ok) h.cnt
theorem Short.ev {r q : Rw} {i : Nat} (h : Short r) (e : r[i]? = some (.ev q)) : Short q ∧ q ≠ [] := by
  have hm := List.mem_of_getElem? e
  have o := ok_mem h.ok hm
  have d := dep_mem hm
  have c := cnt_mem hm
  simp only [ok_ev, dep_ev, cnt_ev] at o d c
  have := h.dep
  have := h.cnt
  exact ⟨⟨o.2, by omega, by omega⟩, o.1⟩
theorem Short.take {r : Rw} (h : Short r) (k : Nat) : Short (r.take k) := ⟨ok_take h.ok k, Nat.le_trans (dep_take r k) h.dep, by have := cnt_split r k; have := h.cnt; omega⟩
theorem Short.drop {r : Rw} (h : Short r) (k : Nat) : Short (r.drop k) := ⟨ok_drop h.ok k, Nat.le_trans (dep_drop r k) h.dep, by have := cnt_split r k; have := h.cnt; omega⟩
theorem eqR {a b : Rw} (ha : Short a) (hb : okR b) (db : depR b ≤ 60) (S : Store) : opEq (rowD a) (rowD b) S = .ok (rowBeq a b) S := opEq_rows ha.ok hb (by have := ha.dep; omega) db S
section
variable {T : Tab} {n : Nat}
theorem turned_ok (hT : T 104 = some PD.d_turned_row) {r : Rw} (h : Short r) {i k : Nat} (hi : i < r.length) (S : Store) : callN T (n + 1) 104 [rowD r, .int (i : Int), .int (k : Int)] S = .ok (optR (turnR r i k)) S := by
  apply call_pure0 hT rfl
  show exTs (callN T n) PD.d_turned_row.body [some (rowD r), some (.int (i : Int)), some (.int (k : Int)), none] S = _
  have z1 : 0 + 1 ≤ sizeLine := le_sz (by omega)
  have ix := ixR (List.getElem?_eq_getElem hi) S
  have lr := h.len
  cases hx : r[i] with
  | sg s =>
    have e : turnR r i k = none := by unfold turnR; rw [evAt_sg (List.getElem?_eq_getElem hi ▸ congrArg some hx)]
    rw [hx] at ix
    rw [e]
    simp only [PD.d_turned_row, xs_cons, x_asg, e_ix, e_slot, List.getElem?_cons_succ, List.getElem?_cons_zero, R.bind_ok, ix, R.out_ok, g_nm, List.set_cons_succ, List.set_cons_zero, Out.thn_nx, x_iff, t_or, t_isi, tyx_sg, if_true, x_ret, e_cst, Out.thn_rt, optR]
  | ev q =>
    have hq : r[i]? = some (.ev q) := List.getElem?_eq_getElem hi ▸ congrArg some hx
    obtain ⟨hs, hne⟩ := h.ev hq
    have lq := hs.len
    rw [hx, It.d_ev] at ix
    have le := lenR_ok q S
    by_cases c1 : 1 ≤ k
    · have c1' : (1 : Int) ≤ (k : Int) := by omega
      by_cases c2 : k ≤ q.length
      · have c2' : (k : Int) ≤ (q.length : Int) := by omega
        have e : turnR r i k = some (r.take i ++ q.take k ++ [.ev (q.drop k ++ q.take k)] ++ r.drop (i + 1)) := by
          unfold turnR; rw [evAt_of hq]; simp only [c1, c2, and_self, if_true]
        have ci : (i : Int) + 1 = ((i + 1 : Nat) : Int) := by omega
        have a1 := opAdd_row (r := r.take i) (q := q.take k) (S := S) (by simp; omega)
        have a2 := opAdd_row (r := q.drop k) (q := q.take k) (S := S) (by simp; omega)
        have a3 := opAdd_row (r := r.take i ++ q.take k) (q := [.ev (q.drop k ++ q.take k)]) (S := S) (by simp; omega)
        have a4 := opAdd_row (r := r.take i ++ q.take k ++ [.ev (q.drop k ++ q.take k)]) (q := r.drop (i + 1)) (S := S) (by simp; omega)
        rw [e]
        simp only [PD.d_turned_row, xs_cons, xs_nil, x_asg, e_ix, e_slot, List.getElem?_cons_succ, List.getElem?_cons_zero, R.bind_ok, ix, R.out_ok, g_nm, List.set_cons_succ, List.set_cons_zero, Out.thn_nx, x_iff, t_or, t_isi, tyR, Bool.false_eq_true, if_false, t_not, t_chn, e_cst, c_le, c1', c2', decide_true, if_true, e_blt, es_cons, es_nil, le, R.map_ok, Bool.not_true, x_ret, e_bin, e_slc, o_no, o_so, slR_hi, slR_lo, b_add, ci, a1, a2, e_tup, List.length_cons, List.length_nil, z1, one_ev, a3, a4, Out.thn_rt, optR]
      · have c2' : ¬ (k : Int) ≤ (q.length : Int) := by omega
        have e : turnR r i k = none := by unfold turnR; rw [evAt_of hq]; simp only [c2, and_false, if_false]
        rw [e]
        simp only [PD.d_turned_row, xs_cons, xs_nil, x_asg, e_ix, e_slot, List.getElem?_cons_succ, List.getElem?_cons_zero, R.bind_ok, ix, R.out_ok, g_nm, List.set_cons_succ, List.set_cons_zero, Out.thn_nx, x_iff, t_or, t_isi, tyR, Bool.false_eq_true, if_false, t_not, t_chn, e_cst, c_le, c1', c2', decide_true, decide_false, if_true, e_blt, es_cons, es_nil, le, R.map_ok, Bool.not_false, x_ret, Out.thn_rt, optR]
    · have c1' : ¬ (1 : Int) ≤ (k : Int) := by omega
      have e : turnR r i k = none := by unfold turnR; rw [evAt_of hq]; simp only [c1, false_and, if_false]
      rw [e]
      simp only [PD.d_turned_row, xs_cons, xs_nil, x_asg, e_ix, e_slot, List.getElem?_cons_succ, List.getElem?_cons_zero, R.bind_ok, ix, R.out_ok, g_nm, List.set_cons_succ, List.set_cons_zero, Out.thn_nx, x_iff, t_or, t_isi, tyR, Bool.false_eq_true, if_false, t_not, t_chn, e_cst, c_le, c1', decide_false, if_true, e_blt, es_cons, es_nil, R.map_ok, Bool.not_false, x_ret, Out.thn_rt, optR]
theorem folded_ok (hT : T 106 = some PD.d_folded_row) {r : Rw} (h : Short r) {i k : Nat} (hk : k ≤ 900) (hi : i < r.length) (S : Store) : callN T (n + 1) 106 [rowD r, .int (i : Int), .int (k : Int)] S = .ok (optR (foldR r i k)) S := by
  apply call_pure0 hT rfl
  show exTs (callN T n) PD.d_folded_row.body [some (rowD r), some (.int (i : Int)), some (.int (k : Int)), none, none] S = _
  have z1 : 0 + 1 ≤ sizeLine := le_sz (by omega)
  have ix := ixR (List.getElem?_eq_getElem hi) S
  have lr := h.len
  cases hx : r[i] with
  | sg s =>
    have e : foldR r i k = none := by unfold foldR; rw [evAt_sg (List.getElem?_eq_getElem hi ▸ congrArg some hx)]
    rw [hx] at ix
    rw [e]
    simp only [PD.d_folded_row, xs_cons, x_asg, e_ix, e_slot, List.getElem?_cons_succ, List.getElem?_cons_zero, R.bind_ok, ix, R.out_ok, g_nm, List.set_cons_succ, List.set_cons_zero, Out.thn_nx, x_iff, t_or, t_isi, tyx_sg, if_true, x_ret, e_cst, Out.thn_rt, optR]
  | ev q =>
    have hq : r[i]? = some (.ev q) := List.getElem?_eq_getElem hi ▸ congrArg some hx
    obtain ⟨hs, hne⟩ := h.ev hq
    have lq := hs.len
    rw [hx, It.d_ev] at ix
    have le := lenR_ok q S
    by_cases c1 : 2 ≤ k
    · have c1' : ¬ (k : Int) < 2 := by omega
      have kp : (0 : Int) < (k : Int) := by omega
      have kl : (k : Int).natAbs.log2 < 9000 := log2_lt (by omega) kp
      have md : ((q.length : Int) % (k : Int)) = ((q.length % k : Nat) : Int) := by omega
      have dv : ((q.length : Int) / (k : Int)) = ((q.length / k : Nat) : Int) := by omega
      by_cases c2 : q.length % k = 0
      · have c2' : ((q.length % k : Nat) : Int) = 0 := by omega
        have hu := hs.take (q.length / k)
        have lu := hu.len
        have mu := opMul_row (r := q.take (q.length / k)) (m := k) (S := S) lu (by omega)
        have eq : opEq (rowD (List.replicate k (q.take (q.length / k))).flatten) (rowD q) S = .ok (rowBeq (repR k (q.take (q.length / k))) q) S := opEq_rows (repR_ok hu.ok k) hs.ok (Nat.le_trans (repR_dep _ _) (by have := hu.dep; omega)) (by have := hs.dep; omega) S
        by_cases c3 : rowBeq (repR k (q.take (q.length / k))) q = true
        · have e : foldR r i k = some (r.take i ++ [.ev (q.take (q.length / k))] ++ r.drop (i + 1)) := by
            unfold foldR; rw [evAt_of hq]; simp only [c1, c3, if_true]
          have ci : (i : Int) + 1 = ((i + 1 : Nat) : Int) := by omega
          have a3 := opAdd_row (r := r.take i) (q := [.ev (q.take (q.length / k))]) (S := S) (by simp; omega)
          have a4 := opAdd_row (r := r.take i ++ [.ev (q.take (q.length / k))]) (q := r.drop (i + 1)) (S := S) (by simp; omega)
          rw [c3] at eq
          rw [e]
          simp only [PD.d_folded_row, xs_cons, xs_nil, x_asg, e_ix, e_slot, List.getElem?_cons_succ, List.getElem?_cons_zero, R.bind_ok, ix, R.out_ok, g_nm, List.set_cons_succ, List.set_cons_zero, Out.thn_nx, x_iff, t_or, t_isi, tyR, Bool.false_eq_true, if_false, t_cmp, e_cst, c_lt, c1', decide_false, e_bin, e_blt, es_cons, es_nil, le, b_mod, kp, if_true, md, c_ne, opEq_int, c2', decide_true, R.map_ok, Bool.not_true, b_fdiv, kl, and_self, dv, e_slc, o_no, o_so, slR_hi, slR_lo, x_ret, e_ife, mu, c_eq, eq, b_add, ci, e_tup, List.length_cons, List.length_nil, z1, one_ev, a3, a4, Out.thn_rt, optR]
        · have c3' : rowBeq (repR k (q.take (q.length / k))) q = false := by simpa using c3
          have e : foldR r i k = none := by unfold foldR; rw [evAt_of hq]; simp only [c1, c3, if_true, if_false, Bool.false_eq_true]
          rw [c3'] at eq
          rw [e]
          simp only [PD.d_folded_row, xs_cons, xs_nil, x_asg, e_ix, e_slot, List.getElem?_cons_succ, List.getElem?_cons_zero, R.bind_ok, ix, R.out_ok, g_nm, List.set_cons_succ, List.set_cons_zero, Out.thn_nx, x_iff, t_or, t_isi, tyR, Bool.false_eq_true, if_false, t_cmp, e_cst, c_lt, c1', decide_false, e_bin, e_blt, es_cons, es_nil, le, b_mod, kp, if_true, md, c_ne, opEq_int, c2', decide_true, R.map_ok, Bool.not_true, b_fdiv, kl, and_self, dv, e_slc, o_no, o_so, slR_hi, x_ret, e_ife, mu, c_eq, eq, Out.thn_rt, optR]
      · have c2' : ¬ ((q.length % k : Nat) : Int) = 0 := by omega
        have c3 : ¬ rowBeq (repR k (q.take (q.length / k))) q = true := fun z => c2 (by
          have := congrArg List.length ((rowBeq_iff _ _).1 z)
          rw [rep_len] at this
          rw [← this]
          exact Nat.mul_mod_right _ _)
        have e : foldR r i k = none := by unfold foldR; rw [evAt_of hq]; simp only [c1, c3, if_true, if_false, Bool.false_eq_true]
        rw [e]
        simp only [PD.d_folded_row, xs_cons, xs_nil, x_asg, e_ix, e_slot, List.getElem?_cons_succ, List.getElem?_cons_zero, R.bind_ok, ix, R.out_ok, g_nm, List.set_cons_succ, List.set_cons_zero, Out.thn_nx, x_iff, t_or, t_isi, tyR, Bool.false_eq_true, if_false, t_cmp, e_cst, c_lt, c1', decide_false, e_bin, e_blt, es_cons, es_nil, le, b_mod, kp, if_true, md, c_ne, opEq_int, c2', R.map_ok, Bool.not_false, x_ret, Out.thn_rt, optR]
    · have c1' : (k : Int) < 2 := by omega
      have e : foldR r i k = none := by unfold foldR; rw [evAt_of hq]; simp only [c1, if_false]
      rw [e]
      simp only [PD.d_folded_row, xs_cons, xs_nil, x_asg, e_ix, e_slot, List.getElem?_cons_succ, List.getElem?_cons_zero, R.bind_ok, ix, R.out_ok, g_nm, List.set_cons_succ, List.set_cons_zero, Out.thn_nx, x_iff, t_or, t_isi, tyR, Bool.false_eq_true, if_false, t_cmp, e_cst, c_lt, c1', decide_true, if_true, x_ret, Out.thn_rt, optR]
theorem timed_ok (hT : T 107 = some PD.d_timed_row) {r : Rw} (h : Short r) {i k : Nat} (hk : k ≤ 100) (hi : i < r.length) (S : Store) : callN T (n + 1) 107 [rowD r, .int (i : Int), .int (k : Int)] S = .ok (optR (timesR r i k)) S := by
  apply call_pure0 hT rfl
  show exTs (callN T n) PD.d_timed_row.body [some (rowD r), some (.int (i : Int)), some (.int (k : Int)), none] S = _
  have z1 : 0 + 1 ≤ sizeLine := le_sz (by omega)
  have ix := ixR (List.getElem?_eq_getElem hi) S
  have lr := h.len
  cases hx : r[i] with
  | sg s =>
    have e : timesR r i k = none := by unfold timesR; rw [evAt_sg (List.getElem?_eq_getElem hi ▸ congrArg some hx)]
    rw [hx] at ix
    rw [e]
    simp only [PD.d_timed_row, xs_cons, x_asg, e_ix, e_slot, List.getElem?_cons_succ, List.getElem?_cons_zero, R.bind_ok, ix, R.out_ok, g_nm, List.set_cons_succ, List.set_cons_zero, Out.thn_nx, x_iff, t_or, t_isi, tyx_sg, if_true, x_ret, e_cst, Out.thn_rt, optR]
  | ev q =>
    have hq : r[i]? = some (.ev q) := List.getElem?_eq_getElem hi ▸ congrArg some hx
    obtain ⟨hs, hne⟩ := h.ev hq
    have lq := hs.len
    have lp : 0 < q.length := List.length_pos_iff.2 hne
    rw [hx, It.d_ev] at ix
    have le := lenR_ok q S
    have qp : (0 : Int) < (q.length : Int) := by omega
    have ql : (q.length : Int).natAbs.log2 < 9000 := log2_lt (by omega) qp
    by_cases c1 : 2 ≤ k
    · have c1' : (2 : Int) ≤ (k : Int) := by omega
      have c2' : (k : Int) ≤ 100000 / (q.length : Int) := by
        rw [Int.le_ediv_iff_mul_le qp]
        have : k * q.length ≤ 100 * 1000 := Nat.mul_le_mul hk lq
        have : (k : Int) * (q.length : Int) ≤ 100 * 1000 := by exact_mod_cast this
        omega
      have mu := opMul_row (r := q) (m := k) (S := S) lq (by omega)
      have e : timesR r i k = some (r.take i ++ [.ev (repR k q)] ++ r.drop (i + 1)) := by
        unfold timesR; rw [evAt_of hq]; simp only [c1, if_true]
      have ci : (i : Int) + 1 = ((i + 1 : Nat) : Int) := by omega
      have a3 := opAdd_row (r := r.take i) (q := [.ev (repR k q)]) (S := S) (by simp; omega)
      have a4 := opAdd_row (r := r.take i ++ [.ev (repR k q)]) (q := r.drop (i + 1)) (S := S) (by simp; omega)
      rw [e]
      simp only [PD.d_timed_row, xs_cons, xs_nil, x_asg, e_ix, e_slot, List.getElem?_cons_succ, List.getElem?_cons_zero, R.bind_ok, ix, R.out_ok, g_nm, List.set_cons_succ, List.set_cons_zero, Out.thn_nx, x_iff, t_or, t_isi, tyR, Bool.false_eq_true, if_false, t_not, t_chn, e_cst, c_le, c1', decide_true, if_true, e_bin, e_blt, es_cons, es_nil, le, b_fdiv, qp, ql, and_self, c2', R.map_ok, Bool.not_true, x_ret, e_slc, o_no, o_so, slR_hi, slR_lo, mu, b_add, ci, e_tup, List.length_cons, List.length_nil, z1]
      rw [show (List.replicate k q).flatten = repR k q from rfl]
      simp only [one_ev, a3, a4, R.bind_ok, R.out_ok, Out.thn_rt, optR]
    · have c1' : ¬ (2 : Int) ≤ (k : Int) := by omega
      have e : timesR r i k = none := by unfold timesR; rw [evAt_of hq]; simp only [c1, if_false]
      rw [e]
      simp only [PD.d_timed_row, xs_cons, xs_nil, x_asg, e_ix, e_slot, List.getElem?_cons_succ, List.getElem?_cons_zero, R.bind_ok, ix, R.out_ok, g_nm, List.set_cons_succ, List.set_cons_zero, Out.thn_nx, x_iff, t_or, t_isi, tyR, Bool.false_eq_true, if_false, t_not, t_chn, e_cst, c_le, c1', decide_false, if_true, e_bin, e_blt, es_cons, es_nil, le, b_fdiv, qp, ql, and_self, R.map_ok, Bool.not_false, x_ret, Out.thn_rt, optR]
theorem turned_back_ok (hT : T 105 = some PD.d_turned_back_row) {r : Rw} (h : Short r) {i k : Nat} (S : Store) : callN T (n + 1) 105 [rowD r, .int (i : Int), .int (k : Int)] S = .ok (optR (backR r i k)) S := by
  apply call_pure0 hT rfl
  show exTs (callN T n) PD.d_turned_back_row.body [some (rowD r), some (.int (i : Int)), some (.int (k : Int)), none, none] S = _
  have z1 : 0 + 1 ≤ sizeLine := le_sz (by omega)
  have lr := h.len
  have ci : (i : Int) + (k : Int) = ((i + k : Nat) : Int) := by omega
  by_cases k1 : k < 1
  · have k1' : (k : Int) < 1 := by omega
    have e : backR r i k = none := by unfold backR; rw [if_pos k1]
    rw [e]
    simp only [PD.d_turned_back_row, xs_cons, xs_nil, x_asg, e_bin, e_slot, List.getElem?_cons_succ, List.getElem?_cons_zero, R.bind_ok, b_add, R.out_ok, g_nm, List.set_cons_succ, List.set_cons_zero, Out.thn_nx, x_iff, t_or, t_cmp, e_cst, c_lt, k1', decide_true, if_true, x_ret, Out.thn_rt, optR]
  have k1' : ¬ (k : Int) < 1 := by omega
  have le := lenR_ok r S
  by_cases hi : i + k < r.length
  · have hi' : ¬ (r.length : Int) ≤ ((i + k : Nat) : Int) := by omega
    have ix := ixR (List.getElem?_eq_getElem hi) S
    cases hx : r[i + k] with
    | sg s =>
      have e : backR r i k = none := by unfold backR; rw [if_neg k1, evAt_sg (List.getElem?_eq_getElem hi ▸ congrArg some hx)]
      rw [hx] at ix
      rw [e]
      simp only [PD.d_turned_back_row, xs_cons, xs_nil, x_asg, e_bin, e_slot, List.getElem?_cons_succ, List.getElem?_cons_zero, R.bind_ok, b_add, ci, R.out_ok, g_nm, List.set_cons_succ, List.set_cons_zero, Out.thn_nx, x_iff, t_or, t_cmp, e_cst, c_lt, k1', decide_false, Bool.false_eq_true, if_false, c_ge, e_blt, es_cons, es_nil, le, hi', t_isi, e_ix, ix, tyx_sg, if_true, x_ret, Out.thn_rt, optR]
    | ev q =>
      have hq : r[i + k]? = some (.ev q) := List.getElem?_eq_getElem hi ▸ congrArg some hx
      obtain ⟨hs, hne⟩ := h.ev hq
      have lq := hs.len
      rw [hx, It.d_ev] at ix
      have leq := lenR_ok q S
      by_cases c1 : q.length < k
      · have c1' : (q.length : Int) < (k : Int) := by omega
        have e : backR r i k = none := by unfold backR; rw [if_neg k1, evAt_of hq]; simp only [c1, if_true]
        rw [e]
        simp only [PD.d_turned_back_row, xs_cons, xs_nil, x_asg, e_bin, e_slot, List.getElem?_cons_succ, List.getElem?_cons_zero, R.bind_ok, b_add, ci, R.out_ok, g_nm, List.set_cons_succ, List.set_cons_zero, Out.thn_nx, x_iff, t_or, t_cmp, e_cst, c_lt, k1', decide_false, Bool.false_eq_true, if_false, c_ge, e_blt, es_cons, es_nil, le, hi', t_isi, e_ix, ix, tyR, leq, c1', decide_true, if_true, x_ret, Out.thn_rt, optR]
      · have c1' : ¬ (q.length : Int) < (k : Int) := by omega
        have cs : (q.length : Int) - (k : Int) = ((q.length - k : Nat) : Int) := by omega
        have md := slR_mid r i k (by omega) S
        have hm : Short ((r.drop i).take k) := (h.drop i).take k
        have eq := eqR (hs.drop (q.length - k)) hm.ok (by have := hm.dep; omega) S
        by_cases c3 : rowBeq (q.drop (q.length - k)) ((r.drop i).take k) = true
        · have e : backR r i k = some (r.take i ++ [.ev ((r.drop i).take k ++ q.take (q.length - k))] ++ r.drop (i + k + 1)) := by
            unfold backR; rw [if_neg k1, evAt_of hq]; simp only [c1, c3, if_true, if_false]
          have ci2 : ((i + k : Nat) : Int) + 1 = ((i + k + 1 : Nat) : Int) := by omega
          have a2 := opAdd_row (r := (r.drop i).take k) (q := q.take (q.length - k)) (S := S) (by simp; omega)
          have a3 := opAdd_row (r := r.take i) (q := [.ev ((r.drop i).take k ++ q.take (q.length - k))]) (S := S) (by simp; omega)
          have a4 := opAdd_row (r := r.take i ++ [.ev ((r.drop i).take k ++ q.take (q.length - k))]) (q := r.drop (i + k + 1)) (S := S) (by simp; omega)
          rw [c3] at eq
          rw [e]
          simp only [PD.d_turned_back_row, xs_cons, xs_nil, x_asg, e_bin, e_slot, List.getElem?_cons_succ, List.getElem?_cons_zero, R.bind_ok, b_add, b_sub, ci, R.out_ok, g_nm, List.set_cons_succ, List.set_cons_zero, Out.thn_nx, x_iff, t_or, t_cmp, e_cst, c_lt, k1', decide_false, Bool.false_eq_true, if_false, c_ge, e_blt, es_cons, es_nil, le, hi', t_isi, e_ix, ix, tyR, leq, c1', cs, e_slc, o_no, o_so, slR_hi, slR_lo, md, c_ne, eq, R.map_ok, Bool.not_true, x_ret, a2, e_tup, List.length_cons, List.length_nil, z1, if_true, one_ev, a3, ci2, a4, Out.thn_rt, optR]
        · have c3' : rowBeq (q.drop (q.length - k)) ((r.drop i).take k) = false := by simpa using c3
          have e : backR r i k = none := by unfold backR; rw [if_neg k1, evAt_of hq]; simp only [c1, c3, if_false, Bool.false_eq_true]
          rw [c3'] at eq
          rw [e]
          simp only [PD.d_turned_back_row, xs_cons, xs_nil, x_asg, e_bin, e_slot, List.getElem?_cons_succ, List.getElem?_cons_zero, R.bind_ok, b_add, b_sub, ci, R.out_ok, g_nm, List.set_cons_succ, List.set_cons_zero, Out.thn_nx, x_iff, t_or, t_cmp, e_cst, c_lt, k1', decide_false, Bool.false_eq_true, if_false, c_ge, e_blt, es_cons, es_nil, le, hi', t_isi, e_ix, ix, tyR, leq, c1', cs, e_slc, o_no, o_so, slR_lo, md, c_ne, eq, R.map_ok, Bool.not_false, if_true, x_ret, Out.thn_rt, optR]
  · have hi' : (r.length : Int) ≤ ((i + k : Nat) : Int) := by omega
    have e : backR r i k = none := by
      have : evAt r (i + k) = none := by unfold evAt; rw [List.getElem?_eq_none (by omega)]
      unfold backR; rw [if_neg k1, this]
    rw [e]
    simp only [PD.d_turned_back_row, xs_cons, xs_nil, x_asg, e_bin, e_slot, List.getElem?_cons_succ, List.getElem?_cons_zero, R.bind_ok, b_add, ci, R.out_ok, g_nm, List.set_cons_succ, List.set_cons_zero, Out.thn_nx, x_iff, t_or, t_cmp, e_cst, c_lt, k1', decide_false, Bool.false_eq_true, if_false, c_ge, e_blt, es_cons, es_nil, le, hi', decide_true, if_true, x_ret, Out.thn_rt, optR]
end
end PD.PS
end

section
set_option linter.all false
/-! PDthing: judges of terms, told of any thing. -/
namespace PD
open PySem
def d__law_is_term : Def := ⟨2, 3, (.cons (.iff (.not (.isi (.slot 0) .tuple)) (.cons (.ret (.cst (.bl false))) .nil) .nil) (.cons (.for_ (.nm 2) (.any (.slot 0)) (.cons (.iff (.isi (.slot 2) .str) (.cons (.iff (.or (.cmp .NotEq (.blt .len (.cons (.slot 2) .nil)) (.cst (.int 1))) (.cmp .NotIn (.slot 2) (.cst (.str ("abcdefghijklmnopqrstuvwxyz" : PySem.Str))))) (.cons (.ret (.cst (.bl false))) .nil) .nil) .nil) (.cons (.iff (.or (.cmp .Eq (.slot 1) (.cst (.int 0))) (.or (.not (.call 59 (.cons (.slot 2) (.cons (.bin .Sub (.slot 1) (.cst (.int 1))) .nil)))) (.cmp .Eq (.blt .len (.cons (.slot 2) .nil)) (.cst (.int 0))))) (.cons (.ret (.cst (.bl false))) .nil) .nil) .nil)) .nil)) (.cons (.ret (.cst (.bl true))) .nil)))⟩
end PD
set_option maxRecDepth 100000
set_option maxHeartbeats 2000000
namespace PD.PS
open PySem
structure Things (T : Tab) : Prop where
  h33 : T 33 = some PD.d_is_sign
  h34 : T 34 = some PD.d_signs_below
  h35 : T 35 = some PD.d_is_long_term
  h36 : T 36 = some PD.d_is_term
  h41 : T 41 = some PD.d__law_count
  h59 : T 59 = some PD.d__law_is_term
theorem z1 : 0 + 1 ≤ sizeLine := le_sz (by omega)
/-! ### things -/
mutual
/-- a thing whose cells are there -/
def th (S : Store) : D → Bool
  | .non => true
  | .bl _ => true
  | .int _ => true
  | .str s => decide (s.length ≤ 100)
  | .tup ds => ths S ds && decide (ds.length ≤ 2000)
  | .rol _ => false
  | .fnv _ => false
  | .ref n => match S[n]? with
    | some (.lst _) => true
    | some (.dic _) => true
    | _ => false
def ths (S : Store) : List D → Bool
  | [] => true
  | d :: ds => th S d && ths S ds
end
def inB (s : Str) : Bool := !(Builtin.Str.occurrences ("abcdefghijklmnopqrstuvwxyz" : Str) s 0 ("abcdefghijklmnopqrstuvwxyz" : Str).length 1).isEmpty
def sgB (s : Str) : Bool := decide (s.length = 1) && inB s
def nil? (d : D) : Bool := match d with
  | .tup [] => true
  | _ => false
def str? (d : D) : Bool := match d with
  | .str _ => true
  | _ => false
mutual
def isT : Nat → D → Bool
  | k, .tup ds => isTs k ds
  | _, _ => false
def isTs : Nat → List D → Bool
  | _, [] => true
  | k, .str s :: ds => sgB s && isTs k ds
  | 0, _ :: _ => false
  | k + 1, d :: ds => isT k d && !nil? d && isTs (k + 1) ds
end
mutual
def cnD : D → Nat
  | .str _ => 1
  | .tup ds => cnDs ds
  | _ => 0
def cnDs : List D → Nat
  | [] => 0
  | d :: ds => cnD d + cnDs ds
end
mutual
def bel : Nat → Int → D → Option Int
  | k, most, .tup ds => bels k most 0 ds
  | _, _, _ => none
def bels : Nat → Int → Int → List D → Option Int
  | _, _, many, [] => some many
  | k, most, many, .str s :: ds => if sgB s then (if most < many + 1 then none else bels k most (many + 1) ds) else none
  | 0, _, _, _ :: _ => none
  | k + 1, most, many, d :: ds => if nil? d then none else match bel k (most - many) d with
    | none => none
    | some c => if most < many + c then none else bels (k + 1) most (many + c) ds
end
def optI : Option Int → D
  | none => .non
  | some i => .int i
mutual
theorem bel_eq : ∀ (d : D) (k : Nat) (most : Int), 0 ≤ most → bel k most d = if isT k d = true ∧ (cnD d : Int) ≤ most then some (cnD d : Int) else none
  | .tup ds, k, most, h => by
    have := bels_eq ds k most 0 h
    rw [Int.zero_add] at this
    by_cases c : isTs k ds = true ∧ (cnDs ds : Int) ≤ most
    · rw [if_pos c] at this
      simp only [bel, this, isT, cnD]
      exact (if_pos c).symm
    · rw [if_neg c] at this
      simp only [bel, this, isT, cnD]
      exact (if_neg c).symm
  | .non, k, most, h => by simp [bel, isT]
  | .bl _, k, most, h => by simp [bel, isT]
  | .int _, k, most, h => by simp [bel, isT]
  | .str _, k, most, h => by simp [bel, isT]
  | .rol _, k, most, h => by simp [bel, isT]
  | .ref _, k, most, h => by simp [bel, isT]
  | .fnv _, k, most, h => by simp [bel, isT]
theorem bels_eq : ∀ (ds : List D) (k : Nat) (most many : Int), many ≤ most → bels k most many ds = if isTs k ds = true ∧ many + (cnDs ds : Int) ≤ most then some (many + (cnDs ds : Int)) else none
  | [], k, most, many, h => by simp [bels, isTs, cnDs, h]
  | .str s :: ds, k, most, many, h => by
    by_cases hs : sgB s = true
    · by_cases hm : most < many + 1
      · have : ¬ (many + ((1 : Int) + (cnDs ds : Int)) ≤ most) := by omega
        simp [bels, isTs, cnDs, cnD, hs, hm, this]
      · have ih := bels_eq ds k most (many + 1) (by omega)
        have e : many + 1 + (cnDs ds : Int) = many + ((1 : Int) + (cnDs ds : Int)) := by omega
        rw [e] at ih
        simp [bels, isTs, cnDs, cnD, hs, hm, ih]
    · simp [bels, isTs, hs]
  | .tup es :: ds, 0, most, many, h => by simp [bels, isTs]
  | .non :: ds, 0, most, many, h => by simp [bels, isTs]
  | .bl _ :: ds, 0, most, many, h => by simp [bels, isTs]
  | .int _ :: ds, 0, most, many, h => by simp [bels, isTs]
  | .rol _ :: ds, 0, most, many, h => by simp [bels, isTs]
  | .ref _ :: ds, 0, most, many, h => by simp [bels, isTs]
  | .fnv _ :: ds, 0, most, many, h => by simp [bels, isTs]
  | .tup es :: ds, k + 1, most, many, h => by
    have ih1 := bel_eq (.tup es) k (most - many) (by omega)
    by_cases hn : nil? (.tup es) = true
    · simp [bels, isTs, hn]
    · by_cases ht : isT k (.tup es) = true
      · by_cases hm : (cnD (.tup es) : Int) ≤ most - many
        · rw [if_pos ⟨ht, hm⟩] at ih1
          have ih2 := bels_eq ds (k + 1) most (many + (cnD (.tup es) : Int)) (by omega)
          have hm2 : ¬ (most < many + (cnD (.tup es) : Int)) := by omega
          have e : many + (cnD (.tup es) : Int) + (cnDs ds : Int) = many + ((cnD (.tup es) : Int) + (cnDs ds : Int)) := by omega
          rw [e] at ih2
          simp [bels, isTs, cnDs, hn, ih1, ht, hm2, ih2]
        · rw [if_neg (fun z => hm z.2)] at ih1
          have : ¬ (many + ((cnD (.tup es) : Int) + (cnDs ds : Int)) ≤ most) := by omega
          simp [bels, isTs, cnDs, hn, ih1, this]
      · rw [if_neg (fun z => ht z.1)] at ih1
        simp [bels, isTs, hn, ih1, ht]
  | .non :: ds, k + 1, most, many, h => by simp [bels, isTs, isT, bel]
  | .bl _ :: ds, k + 1, most, many, h => by simp [bels, isTs, isT, bel]
  | .int _ :: ds, k + 1, most, many, h => by simp [bels, isTs, isT, bel]
  | .rol _ :: ds, k + 1, most, many, h => by simp [bels, isTs, isT, bel]
  | .ref _ :: ds, k + 1, most, many, h => by simp [bels, isTs, isT, bel]
  | .fnv _ :: ds, k + 1, most, many, h => by simp [bels, isTs, isT, bel]
end
/-! ### what is asked of a thing -/
theorem ty_str? {S : Store} {d : D} (h : th S d = true) : isTy d .str S = some (str? d) := by
  cases d with
  | ref n =>
    simp only [th] at h
    simp only [isTy, str?]
    split at h
    next q => first | rfl | rw [q]
    next q => first | rfl | rw [q]
    · cases h
  | rol ds => cases h
  | fnv _ => cases h
  | _ => rfl
def tup? (d : D) : Bool := match d with
  | .tup _ => true
  | _ => false
theorem ty_tup? {S : Store} {d : D} (h : th S d = true) : isTy d .tuple S = some (tup? d) := by
  cases d with
  | ref n =>
    simp only [th] at h
    simp only [isTy, tup?]
    split at h
    next q => first | rfl | rw [q]
    next q => first | rfl | rw [q]
    · cases h
  | rol ds => cases h
  | fnv _ => cases h
  | _ => rfl
theorem pys_len {f : Nat → Option PyData} : ∀ {ds : List D} {es : List PyData}, D.pys f ds = some es → es.length = ds.length
  | [], es, h => by simp [D.pys] at h; subst h; rfl
  | d :: ds, es, h => by
    simp only [D.pys] at h
    split at h
    next x xs h1 h2 =>
      cases h
      simp [pys_len h2]
    · cases h
theorem ne_nil {S : Store} {d : D} (h : th S d = true) (hs : str? d = false) : opEq d (.tup []) S = .ok (nil? d) S := by
  have hy : toPy S (.tup []) = some (.tuple []) := rfl
  unfold opEq
  rw [hy]
  cases d with
  | str s => cases hs
  | rol ds => cases h
  | fnv _ => cases h
  | non => rfl
  | bl b => simp [toPy, D.py, SeqAt.shaped, PyData.canLay0, PyData.canLayAll0, PyData.depth, PyData.depthAll, PyData.eqv, nil?]
  | int b => simp [toPy, D.py, SeqAt.shaped, PyData.canLay0, PyData.canLayAll0, PyData.depth, PyData.depthAll, PyData.eqv, nil?]
  | tup ds =>
    have en : eqNil (.tup ds) (.tup []) S = .ok (nil? (.tup ds)) S := by cases ds <;> rfl
    cases e : toPy S (.tup ds) with
    | none => exact en
    | some p =>
      simp only []
      split
      next =>
        simp only [toPy, D.py, Option.map_eq_some_iff] at e
        obtain ⟨es, h1, rfl⟩ := e
        have hl := pys_len h1
        cases es with
        | nil => cases ds with | nil => rfl | cons a t => simp at hl
        | cons a t => cases ds with | nil => simp at hl | cons a2 t2 => rfl
      · exact en
  | ref n =>
    simp only [th] at h
    split at h
    next ds q =>
      have en : eqNil (.ref n) (.tup []) S = .ok false S := by simp only [eqNil, q]
      cases e : toPy S (.ref n) with
      | none => exact en
      | some p =>
        simp only []
        split
        next =>
          simp only [toPy, D.py, pyR, q, Option.map_eq_some_iff] at e
          obtain ⟨es, h1, rfl⟩ := e
          rfl
        · exact en
    next kvs q =>
      have en : eqNil (.ref n) (.tup []) S = .ok false S := by simp only [eqNil, q]
      cases e : toPy S (.ref n) with
      | none => exact en
      | some p => simp [toPy, D.py, pyR, q] at e
    · cases h
section
variable {T : Tab} {n : Nat}
theorem ths_mem {S : Store} {d : D} : ∀ {ds : List D}, d ∈ ds → ths S ds = true → th S d = true
  | e :: ds, h, q => by
    simp only [ths, Bool.and_eq_true] at q
    rcases List.mem_cons.1 h with rfl | h
    · exact q.1
    · exact ths_mem h q.2
theorem len_str {S : Store} {s : Str} (h : th S (.str s) = true) : opBlt .len [.str s] S = .ok (.int s.length) S := by
  simp only [th, decide_eq_true_eq] at h
  exact f_lens s S (le_sz (by omega))
theorem in_str (s : Str) (S : Store) : opIn (.str s) (.str ("abcdefghijklmnopqrstuvwxyz" : Str)) S = .ok (inB s) S := by
  simp only [opIn, dicOf, opIn0, inB]
theorem is_sign_all (hT : Things T) {s : Str} {S : Store} (h : th S (.str s) = true) : callN T (n + 1) 33 [.str s] S = .ok (.bl (sgB s)) S := by
  apply call_pure0 hT.h33 rfl
  have h1 := len_str h
  have h2 := in_str s S
  by_cases e : ((s.length : Nat) : Int) = 1
  · have e' : s.length = 1 := by omega
    simp [PD.d_is_sign, h1, h2, e', sgB]
  · have e' : ¬ s.length = 1 := by omega
    simp [PD.d_is_sign, h1, h2, e, e', sgB]
theorem below_all (hT : Things T) : ∀ (k : Nat) (d : D) (most : Int) (S : Store) (j : Int), j = k → th S d = true → 0 ≤ most → callN T (n + k + 2) 34 [d, .int j, .int most] S = .ok (optI (bel k most d)) S := by
  have core : ∀ (m : Nat) (k : Nat) (d : D) (most : Int) (S : Store) (j : Int), j = k → th S d = true → 0 ≤ most → (∀ k', k = k' + 1 → ∀ d' most', th S d' = true → 0 ≤ most' → callN T (m + 1) 34 [d', .int (j - 1), .int most'] S = .ok (optI (bel k' most' d')) S) → callN T (m + 2) 34 [d, .int j, .int most] S = .ok (optI (bel k most d)) S := by
    intro m k d most S j hj hd hm hrec
    have e0 : PD.d_signs_below.body = .cons (.iff (.not (.isi (.slot 0) .tuple)) (.cons (.ret (.cst .non)) .nil) .nil) (.cons (.asg (.nm 3) (.cst (.int 0))) (.cons (.for_ (.nm 4) (.any (.slot 0)) (.cons (.iff (.isi (.slot 4) .str) (.cons (.iff (.not (.call 33 (.cons (.slot 4) .nil))) (.cons (.ret (.cst .non)) .nil) .nil) (.cons (.aug 3 .Add (.cst (.int 1))) .nil)) (.cons (.asg (.nm 5) (.ife (.and (.cmp .Gt (.slot 1) (.cst (.int 0))) (.cmp .NotEq (.slot 4) (.tup .nil))) (.call 34 (.cons (.slot 4) (.cons (.bin .Sub (.slot 1) (.cst (.int 1))) (.cons (.bin .Sub (.slot 2) (.slot 3)) .nil)))) (.cst .non))) (.cons (.iff (.cmp .Is (.slot 5) (.cst .non)) (.cons (.ret (.cst .non)) .nil) .nil) (.cons (.aug 3 .Add (.slot 5)) .nil)))) (.cons (.iff (.cmp .Gt (.slot 3) (.slot 2)) (.cons (.ret (.cst .non)) .nil) .nil) .nil))) (.cons (.ret (.slot 3)) .nil))) := rfl
    have tt := ty_tup? hd
    cases d with
    | tup ds =>
      have hds := hd
      simp only [th, Bool.and_eq_true, decide_eq_true_eq] at hds
      have key : (exTs (callN T (m + 1)) PD.d_signs_below.body [some (.tup ds), some (.int j), some (.int most), none, none, none] S).sat (fun _ _ => False) (fun v S' => v = optI (bels k most 0 ds) ∧ S' = S) := by
        rw [e0, xs_cons]
        simp only [x_iff, t_not, t_isi, e_slot, List.getElem?_cons_zero, R.bind_ok, tt, tup?, R.map_ok, Bool.not_true, R.out_ok, Bool.false_eq_true, if_false, xs_nil, Out.thn_nx]
        rw [xs_cons]
        simp only [x_asg, e_cst, R.out_ok, g_nm, List.set_cons_succ, List.set_cons_zero, Out.thn_nx]
        rw [xs_cons]
        refine sat_thn (N := fun e S' => ∃ (many : Int) (a b : Option D), e = [some (.tup ds), some (.int j), some (.int most), some (.int many), a, b] ∧ S' = S ∧ bels k most 0 ds = some many)
          (for_pre id ds (S' := S) (by rw [i_any, e_slot]; simp) (le_sz (by omega)) (fun pre e S' => ∃ (many : Int) (a b : Option D), e = [some (.tup ds), some (.int j), some (.int most), some (.int many), a, b] ∧ S' = S ∧ 0 ≤ many ∧ many ≤ most ∧ ∀ suf, ds = pre ++ suf → bels k most many suf = bels k most 0 ds) ⟨0, none, none, rfl, rfl, by omega, hm, fun suf h => by rw [h]; rfl⟩ ?_ ?_) ?_
        · rintro pre x post env S' hr ⟨many, a, b, rfl, rfl, m0, m1, heq⟩
          refine ⟨_, g_nm _ _, ?_⟩
          have hx : x ∈ ds := by rw [hr]; simp
          have hth := ths_mem hx hds.1
          have hq := heq (x :: post) hr
          have ts := ty_str? hth
          simp only [List.set_cons_succ, List.set_cons_zero, id]
          have hsuf : ∀ suf, ds = pre ++ [x] ++ suf → suf = post := fun suf h => by rw [hr] at h; simpa using h.symm
          by_cases hst : str? x = true
          · obtain ⟨s, rfl⟩ : ∃ s, x = .str s := by cases x <;> first | exact ⟨_, rfl⟩ | cases hst
            have sg := is_sign_all (n := m) hT hth
            by_cases hs : sgB s = true
            · by_cases hgt : most < many + 1
              · refine satB_rt (d := .non) (S := S') ?_ ⟨by rw [← hq]; simp [bels, hs, hgt, optI], rfl⟩
                simp only [xs_cons, xs_nil, x_iff, t_isi, e_slot, List.getElem?_cons_succ, List.getElem?_cons_zero, R.bind_ok, ts, str?, R.out_ok, if_true, t_not, t_call, es_cons, es_nil, sg, hs, tru_b, R.map_ok, Bool.not_true, Bool.false_eq_true, if_false, Out.thn_nx, x_aug, e_cst, a_add, List.set_cons_succ, List.set_cons_zero, t_cmp, c_gt, hgt, decide_true, x_ret, Out.thn_rt]
              · refine satB_nx (e := [some (.tup ds), some (.int j), some (.int most), some (.int (many + 1)), some (.str s), b]) (S := S') ?_ ⟨many + 1, _, _, rfl, rfl, by omega, by omega, fun suf h => by
                  rw [hsuf suf h, ← hq]; simp [bels, hs, hgt]⟩
                simp only [xs_cons, xs_nil, x_iff, t_isi, e_slot, List.getElem?_cons_succ, List.getElem?_cons_zero, R.bind_ok, ts, str?, R.out_ok, if_true, t_not, t_call, es_cons, es_nil, sg, hs, tru_b, R.map_ok, Bool.not_true, Bool.false_eq_true, if_false, Out.thn_nx, x_aug, e_cst, a_add, List.set_cons_succ, List.set_cons_zero, t_cmp, c_gt, hgt, decide_false]
            · have hs' : sgB s = false := by simpa using hs
              refine satB_rt (d := .non) (S := S') ?_ ⟨by rw [← hq]; simp [bels, hs', optI], rfl⟩
              simp only [xs_cons, xs_nil, x_iff, t_isi, e_slot, List.getElem?_cons_succ, List.getElem?_cons_zero, R.bind_ok, ts, str?, R.out_ok, if_true, t_not, t_call, es_cons, es_nil, sg, hs', tru_b, R.map_ok, Bool.not_false, x_ret, e_cst, Out.thn_rt]
          · have hst' : str? x = false := by simpa using hst
            have hnil := ne_nil hth hst'
            have z0 : ([] : List D).length ≤ sizeLine := Nat.zero_le _
            cases k with
            | zero =>
              have hj0 : ¬ (0 : Int) < j := by omega
              have hv : bels 0 most many (x :: post) = none := by cases x <;> first | rfl | cases hst'
              refine satB_rt (d := .non) (S := S') ?_ ⟨by rw [← hq, hv]; rfl, rfl⟩
              simp only [xs_cons, xs_nil, x_iff, t_isi, e_slot, List.getElem?_cons_succ, List.getElem?_cons_zero, R.bind_ok, ts, hst', R.out_ok, Bool.false_eq_true, if_false, x_asg, e_ife, t_and, t_cmp, e_cst, c_gt, hj0, decide_false, g_nm, List.set_cons_succ, List.set_cons_zero, Out.thn_nx, c_is, is_nn, if_true, x_ret, Out.thn_rt]
            | succ k' =>
              have hj0 : (0 : Int) < j := by omega
              have hbels : bels (k' + 1) most many (x :: post) = if nil? x then none else match bel k' (most - many) x with
                | none => none
                | some c => if most < many + c then none else bels (k' + 1) most (many + c) post := by
                cases x <;> first | rfl | cases hst'
              by_cases hn : nil? x = true
              · refine satB_rt (d := .non) (S := S') ?_ ⟨by rw [← hq, hbels, if_pos hn]; rfl, rfl⟩
                rw [hn] at hnil
                simp only [xs_cons, xs_nil, x_iff, t_isi, e_slot, List.getElem?_cons_succ, List.getElem?_cons_zero, R.bind_ok, ts, hst', R.out_ok, Bool.false_eq_true, if_false, x_asg, e_ife, t_and, t_cmp, e_cst, c_gt, hj0, decide_true, if_true, e_tup, es_nil, z0, c_ne, hnil, R.map_ok, Bool.not_true, g_nm, List.set_cons_succ, List.set_cons_zero, Out.thn_nx, c_is, is_nn, x_ret, Out.thn_rt]
              · have hn' : nil? x = false := by simpa using hn
                rw [hn'] at hnil
                rw [hn'] at hbels
                simp only [Bool.false_eq_true, if_false] at hbels
                have hc := hrec k' rfl x (most - many) hth (by omega)
                cases hb : bel k' (most - many) x with
                | none =>
                  rw [hb] at hc hbels
                  simp only [optI] at hc
                  simp only [] at hbels
                  refine satB_rt (d := .non) (S := S') ?_ ⟨by rw [← hq, hbels]; rfl, rfl⟩
                  simp only [xs_cons, xs_nil, x_iff, t_isi, e_slot, List.getElem?_cons_succ, List.getElem?_cons_zero, R.bind_ok, ts, hst', R.out_ok, Bool.false_eq_true, if_false, x_asg, e_ife, t_and, t_cmp, e_cst, c_gt, hj0, decide_true, if_true, e_tup, es_nil, z0, c_ne, hnil, R.map_ok, Bool.not_false, e_call, es_cons, e_bin, b_sub, hc, g_nm, List.set_cons_succ, List.set_cons_zero, Out.thn_nx, c_is, is_nn, x_ret, Out.thn_rt]
                | some c =>
                  rw [hb] at hc hbels
                  simp only [optI] at hc
                  simp only [] at hbels
                  have hc0 : 0 ≤ c := by
                    have e := bel_eq x k' (most - many) (by omega)
                    rw [hb] at e
                    split at e
                    · cases e; omega
                    · cases e
                  by_cases hgt : most < many + c
                  · rw [if_pos hgt] at hbels
                    refine satB_rt (d := .non) (S := S') ?_ ⟨by rw [← hq, hbels]; rfl, rfl⟩
                    simp only [xs_cons, xs_nil, x_iff, t_isi, e_slot, List.getElem?_cons_succ, List.getElem?_cons_zero, R.bind_ok, ts, hst', R.out_ok, Bool.false_eq_true, if_false, x_asg, e_ife, t_and, t_cmp, e_cst, c_gt, hj0, decide_true, if_true, e_tup, es_nil, z0, c_ne, hnil, R.map_ok, Bool.not_false, e_call, es_cons, e_bin, b_sub, hc, g_nm, List.set_cons_succ, List.set_cons_zero, Out.thn_nx, c_is, is_int, x_aug, a_add, hgt, x_ret, Out.thn_rt]
                  · rw [if_neg hgt] at hbels
                    refine satB_nx (e := [some (.tup ds), some (.int j), some (.int most), some (.int (many + c)), some x, some (.int c)]) (S := S') ?_ ⟨many + c, _, _, rfl, rfl, by omega, by omega, fun suf h => by rw [hsuf suf h, ← hq, hbels]⟩
                    simp only [xs_cons, xs_nil, x_iff, t_isi, e_slot, List.getElem?_cons_succ, List.getElem?_cons_zero, R.bind_ok, ts, hst', R.out_ok, Bool.false_eq_true, if_false, x_asg, e_ife, t_and, t_cmp, e_cst, c_gt, hj0, decide_true, if_true, e_tup, es_nil, z0, c_ne, hnil, R.map_ok, Bool.not_false, e_call, es_cons, e_bin, b_sub, hc, g_nm, List.set_cons_succ, List.set_cons_zero, Out.thn_nx, c_is, is_int, x_aug, a_add, hgt, decide_false]
        · rintro e S' ⟨many, a, b, rfl, rfl, _, _, heq⟩
          refine ⟨many, a, b, rfl, rfl, ?_⟩
          rw [← heq [] (by simp)]
          cases k <;> rfl
        · rintro e S' ⟨many, a, b, rfl, rfl, hb⟩
          exact sat_rtI (d := .int many) (S := S') (by simp only [xs_cons, x_ret, e_slot, List.getElem?_cons_succ, List.getElem?_cons_zero, R.out_ok, Out.thn_rt]) ⟨by rw [hb]; rfl, rfl⟩
      obtain ⟨v, S', e, rfl, rfl⟩ := sat_rt key
      exact call_pure0 hT.h34 rfl e
    | rol ds => cases hd
    | fnv _ => cases hd
    | _ =>
      refine call_pure0 hT.h34 rfl ?_
      show exTs (callN T (m + 1)) PD.d_signs_below.body [some _, some (.int j), some (.int most), none, none, none] S = _
      rw [e0, xs_cons]
      simp only [x_iff, t_not, t_isi, e_slot, List.getElem?_cons_zero, R.bind_ok, tt, tup?, R.map_ok, Bool.not_false, R.out_ok, if_true, xs_cons, x_ret, e_cst, Out.thn_rt, bel, optI]
  intro k
  induction k with
  | zero => intro d most S j hj hd hm; exact core n 0 d most S j hj hd hm (fun k' e => by omega)
  | succ k ih => intro d most S j hj hd hm; exact core (n + (k + 1)) (k + 1) d most S j hj hd hm (fun k' e d' most' h1 h2 => by
      have : k' = k := by omega
      subst this
      exact ih d' most' S (j - 1) (by omega) h1 h2)
theorem is_term_all (hT : Things T) {d : D} {S : Store} (h : th S d = true) : callN T (n + 10) 36 [d] S = .ok (.bl (isT 6 d && decide (cnD d ≤ 400))) S := by
  have b := below_all (n := n) hT 6 d 400 S 6 rfl h (by decide)
  rw [bel_eq d 6 400 (by decide)] at b
  have l : callN T (n + 9) 35 [d, .int 400] S = .ok (.bl (isT 6 d && decide (cnD d ≤ 400))) S := by
    apply call_pure0 hT.h35 rfl
    show exTs (callN T (n + 8)) PD.d_is_long_term.body [some d, some (.int 400)] S = _
    by_cases c : isT 6 d = true ∧ (cnD d : Int) ≤ 400
    · rw [if_pos c] at b
      have e : (isT 6 d && decide (cnD d ≤ 400)) = true := by simp [c.1]; omega
      simp only [PD.d_is_long_term, xs_cons, x_ret, e_cmp, e_call, es_cons, es_nil, e_slot, e_cst, List.getElem?_cons_succ, List.getElem?_cons_zero, R.bind_ok, b, optI, c_isn, is_int, R.map_ok, Bool.not_false, R.out_ok, Out.thn_rt, e]
    · rw [if_neg c] at b
      have e : (isT 6 d && decide (cnD d ≤ 400)) = false := by
        cases q : isT 6 d
        · rfl
        · have : ¬ (cnD d : Int) ≤ 400 := fun z => c ⟨q, z⟩
          simp; omega
      simp only [PD.d_is_long_term, xs_cons, x_ret, e_cmp, e_call, es_cons, es_nil, e_slot, e_cst, List.getElem?_cons_succ, List.getElem?_cons_zero, R.bind_ok, b, optI, c_isn, is_nn, R.map_ok, Bool.not_true, R.out_ok, Out.thn_rt, e]
  apply call_pure0 hT.h36 rfl
  show exTs (callN T (n + 9)) PD.d_is_term.body [some d] S = _
  simp only [PD.d_is_term, xs_cons, x_ret, e_call, es_cons, es_nil, e_slot, e_cst, List.getElem?_cons_zero, R.bind_ok, l, R.out_ok, Out.thn_rt]
/-! ### the law's own judge -/
theorem isTs_nil (k : Nat) : isTs k [] = true := by cases k <;> rfl
theorem law_term_all (hT : Things T) : ∀ (k : Nat) (d : D) (S : Store) (j : Int), j = k → th S d = true → callN T (n + k + 1) 59 [d, .int j] S = .ok (.bl (isT k d)) S := by
  have core : ∀ (m : Nat) (k : Nat) (d : D) (S : Store) (j : Int), j = k → th S d = true → (∀ k', k = k' + 1 → ∀ d', th S d' = true → callN T m 59 [d', .int (j - 1)] S = .ok (.bl (isT k' d')) S) → callN T (m + 1) 59 [d, .int j] S = .ok (.bl (isT k d)) S := by
    intro m k d S j hj hd hrec
    have e0 : d__law_is_term.body = .cons (.iff (.not (.isi (.slot 0) .tuple)) (.cons (.ret (.cst (.bl false))) .nil) .nil) (.cons (.for_ (.nm 2) (.any (.slot 0)) (.cons (.iff (.isi (.slot 2) .str) (.cons (.iff (.or (.cmp .NotEq (.blt .len (.cons (.slot 2) .nil)) (.cst (.int 1))) (.cmp .NotIn (.slot 2) (.cst (.str ("abcdefghijklmnopqrstuvwxyz" : PySem.Str))))) (.cons (.ret (.cst (.bl false))) .nil) .nil) .nil) (.cons (.iff (.or (.cmp .Eq (.slot 1) (.cst (.int 0))) (.or (.not (.call 59 (.cons (.slot 2) (.cons (.bin .Sub (.slot 1) (.cst (.int 1))) .nil)))) (.cmp .Eq (.blt .len (.cons (.slot 2) .nil)) (.cst (.int 0))))) (.cons (.ret (.cst (.bl false))) .nil) .nil) .nil)) .nil)) (.cons (.ret (.cst (.bl true))) .nil)) := rfl
    have tt := ty_tup? hd
    cases d with
    | tup ds =>
      have hds := hd
      simp only [th, Bool.and_eq_true, decide_eq_true_eq] at hds
      have key : (exTs (callN T m) d__law_is_term.body [some (.tup ds), some (.int j), none] S).sat (fun _ _ => False) (fun v S' => v = .bl (isTs k ds) ∧ S' = S) := by
        rw [e0, xs_cons]
        simp only [x_iff, t_not, t_isi, e_slot, List.getElem?_cons_zero, R.bind_ok, tt, tup?, R.map_ok, Bool.not_true, R.out_ok, Bool.false_eq_true, if_false, xs_nil, Out.thn_nx]
        rw [xs_cons]
        refine sat_thn (N := fun e S' => S' = S ∧ isTs k ds = true)
          (for_pre id ds (S' := S) (by rw [i_any, e_slot]; simp) (le_sz (by omega)) (fun pre e S' => ∃ a : Option D, e = [some (.tup ds), some (.int j), a] ∧ S' = S ∧ ∀ suf, ds = pre ++ suf → isTs k suf = isTs k ds) ⟨none, rfl, rfl, fun suf h => by rw [h]; rfl⟩ ?_ ?_) ?_
        · rintro pre x post env S' hr ⟨a, rfl, rfl, heq⟩
          refine ⟨_, g_nm _ _, ?_⟩
          have hx : x ∈ ds := by rw [hr]; simp
          have hth := ths_mem hx hds.1
          have hq := heq (x :: post) hr
          have ts := ty_str? hth
          simp only [List.set_cons_succ, List.set_cons_zero, id]
          have hsuf : ∀ suf, ds = pre ++ [x] ++ suf → suf = post := fun suf h => by rw [hr] at h; simpa using h.symm
          by_cases hst : str? x = true
          · obtain ⟨s, rfl⟩ : ∃ s, x = .str s := by cases x <;> first | exact ⟨_, rfl⟩ | cases hst
            have hl := len_str hth
            have hi := in_str s S'
            have hv : isTs k (.str s :: post) = (sgB s && isTs k post) := by cases k <;> rfl
            have ev : evT (callN T m) [some (.tup ds), some (.int j), some (.str s)] (.or (.cmp .NotEq (.blt .len (.cons (.slot 2) .nil)) (.cst (.int 1))) (.cmp .NotIn (.slot 2) (.cst (.str ("abcdefghijklmnopqrstuvwxyz" : PySem.Str))))) S' = .ok (!sgB s) S' := by
              by_cases e : ((s.length : Nat) : Int) = 1
              · have e' : s.length = 1 := by omega
                have hsg : sgB s = inB s := by simp [sgB, e']
                simp only [t_or, t_cmp, e_blt, es_cons, es_nil, e_slot, e_cst, List.getElem?_cons_succ, List.getElem?_cons_zero, R.bind_ok, hl, c_ne, opEq_int, e, decide_true, R.map_ok, Bool.not_true, Bool.false_eq_true, if_false, c_nin, hi, hsg]
              · have e' : ¬ s.length = 1 := by omega
                have hsg : sgB s = false := by simp [sgB, e']
                simp only [t_or, t_cmp, e_blt, es_cons, es_nil, e_slot, e_cst, List.getElem?_cons_succ, List.getElem?_cons_zero, R.bind_ok, hl, c_ne, opEq_int, e, decide_false, R.map_ok, Bool.not_false, if_true, hsg]
            by_cases hs : sgB s = true
            · refine satB_nx (e := [some (.tup ds), some (.int j), some (.str s)]) (S := S') ?_ ⟨_, rfl, rfl, fun suf h => by rw [hsuf suf h, ← hq, hv, hs, Bool.true_and]⟩
              rw [hs] at ev
              simp only [xs_cons, xs_nil, x_iff, t_isi, e_slot, List.getElem?_cons_succ, List.getElem?_cons_zero, R.bind_ok, ts, str?, R.out_ok, if_true, ev, Bool.not_true, Bool.false_eq_true, if_false, Out.thn_nx]
            · have hs' : sgB s = false := by simpa using hs
              refine satB_rt (d := .bl false) (S := S') ?_ ⟨by rw [← hq, hv, hs', Bool.false_and], rfl⟩
              rw [hs'] at ev
              simp only [xs_cons, xs_nil, x_iff, t_isi, e_slot, List.getElem?_cons_succ, List.getElem?_cons_zero, R.bind_ok, ts, str?, R.out_ok, if_true, ev, Bool.not_false, x_ret, e_cst, Out.thn_rt]
          · have hst' : str? x = false := by simpa using hst
            cases k with
            | zero =>
              have hj0 : j = 0 := by omega
              have hv : isTs 0 (x :: post) = false := by cases x <;> first | rfl | cases hst'
              refine satB_rt (d := .bl false) (S := S') ?_ ⟨by rw [← hq, hv], rfl⟩
              simp only [xs_cons, xs_nil, x_iff, t_isi, e_slot, List.getElem?_cons_succ, List.getElem?_cons_zero, R.bind_ok, ts, hst', R.out_ok, Bool.false_eq_true, if_false, t_or, t_cmp, e_cst, c_eq, opEq_int, hj0, decide_true, if_true, x_ret, Out.thn_rt]
            | succ k' =>
              have hj0 : ¬ j = 0 := by omega
              have hv : isTs (k' + 1) (x :: post) = (isT k' x && !nil? x && isTs (k' + 1) post) := by cases x <;> first | rfl | cases hst'
              have hc := hrec k' rfl x hth
              by_cases ht : isT k' x = true
              · obtain ⟨es, rfl⟩ : ∃ es, x = .tup es := by cases x <;> first | exact ⟨_, rfl⟩ | (cases k' <;> cases ht)
                rw [ht] at hc hv
                have hl : opBlt .len [.tup es] S' = .ok (.int es.length) S' := rfl
                cases es with
                | nil =>
                  refine satB_rt (d := .bl false) (S := S') ?_ ⟨by rw [← hq, hv]; rfl, rfl⟩
                  simp only [xs_cons, xs_nil, x_iff, t_isi, e_slot, List.getElem?_cons_succ, List.getElem?_cons_zero, R.bind_ok, ts, hst', R.out_ok, Bool.false_eq_true, if_false, t_or, t_not, t_call, t_cmp, e_cst, c_eq, opEq_int, hj0, decide_false, es_cons, es_nil, e_bin, b_sub, hc, tru_b, R.map_ok, Bool.not_true, e_blt, hl, List.length_nil, Int.natCast_zero, decide_true, if_true, x_ret, Out.thn_rt]
                | cons y es =>
                  have hz : ¬ (((y :: es).length : Nat) : Int) = 0 := by simp; omega
                  refine satB_nx (e := [some (.tup ds), some (.int j), some (.tup (y :: es))]) (S := S') ?_ ⟨_, rfl, rfl, fun suf h => by rw [hsuf suf h, ← hq, hv]; simp [nil?]⟩
                  simp only [xs_cons, xs_nil, x_iff, t_isi, e_slot, List.getElem?_cons_succ, List.getElem?_cons_zero, R.bind_ok, ts, hst', R.out_ok, Bool.false_eq_true, if_false, t_or, t_not, t_call, t_cmp, e_cst, c_eq, opEq_int, hj0, decide_false, es_cons, es_nil, e_bin, b_sub, hc, tru_b, R.map_ok, Bool.not_true, e_blt, hl, hz, Out.thn_nx]
              · have ht' : isT k' x = false := by simpa using ht
                rw [ht'] at hc hv
                refine satB_rt (d := .bl false) (S := S') ?_ ⟨by rw [← hq, hv]; rfl, rfl⟩
                simp only [xs_cons, xs_nil, x_iff, t_isi, e_slot, List.getElem?_cons_succ, List.getElem?_cons_zero, R.bind_ok, ts, hst', R.out_ok, Bool.false_eq_true, if_false, t_or, t_not, t_call, t_cmp, e_cst, c_eq, opEq_int, hj0, decide_false, es_cons, es_nil, e_bin, b_sub, hc, tru_b, R.map_ok, Bool.not_false, if_true, x_ret, Out.thn_rt]
        · rintro e S' ⟨a, rfl, rfl, heq⟩
          refine ⟨rfl, ?_⟩
          rw [← heq [] (by simp), isTs_nil]
        · rintro e S' ⟨rfl, hb⟩
          exact sat_rtI (d := .bl true) (S := S') (by simp only [xs_cons, x_ret, e_cst, R.out_ok, Out.thn_rt]) ⟨by rw [hb], rfl⟩
      obtain ⟨v, S', e, rfl, rfl⟩ := sat_rt key
      exact call_pure0 hT.h59 rfl e
    | rol ds => cases hd
    | fnv _ => cases hd
    | _ =>
      refine call_pure0 hT.h59 rfl ?_
      show exTs (callN T m) d__law_is_term.body [some _, some (.int j), none] S = _
      rw [e0, xs_cons]
      simp only [x_iff, t_not, t_isi, e_slot, List.getElem?_cons_zero, R.bind_ok, tt, tup?, R.map_ok, Bool.not_false, R.out_ok, if_true, xs_cons, x_ret, e_cst, Out.thn_rt, isT]
  intro k
  induction k with
  | zero => intro d S j hj hd; exact core n 0 d S j hj hd (fun k' e => by omega)
  | succ k ih => intro d S j hj hd; exact core (n + (k + 1)) (k + 1) d S j hj hd (fun k' e d' h1 => by
      have : k' = k := by omega
      subst this
      exact ih d' S (j - 1) (by omega) h1)
theorem cnDs_sum : ∀ ds : List D, (cnDs ds : Int) = (ds.map fun d => (cnD d : Int)).sum
  | [] => rfl
  | d :: ds => by simp [cnDs, cnDs_sum ds]
theorem isTs_mem : ∀ {k : Nat} {ds : List D} {x : D}, x ∈ ds → isTs k ds = true → str? x = false → ∃ k', k = k' + 1 ∧ isT k' x = true
  | k, .str s :: ds, x, h, ht, hs => by
    have hv : isTs k (.str s :: ds) = (sgB s && isTs k ds) := by cases k <;> rfl
    rw [hv, Bool.and_eq_true] at ht
    rcases List.mem_cons.1 h with rfl | h
    · cases hs
    · exact isTs_mem h ht.2 hs
  | 0, d :: ds, x, h, ht, hs => by
    cases d <;> first | cases ht | skip
    rename_i s
    have hv : isTs 0 (.str s :: ds) = (sgB s && isTs 0 ds) := rfl
    rw [hv, Bool.and_eq_true] at ht
    rcases List.mem_cons.1 h with rfl | h
    · cases hs
    · exact isTs_mem h ht.2 hs
  | k + 1, d :: ds, x, h, ht, hs => by
    by_cases hd : str? d = true
    · obtain ⟨s, rfl⟩ : ∃ s, d = .str s := by cases d <;> first | exact ⟨_, rfl⟩ | cases hd
      have hv : isTs (k + 1) (.str s :: ds) = (sgB s && isTs (k + 1) ds) := rfl
      rw [hv, Bool.and_eq_true] at ht
      rcases List.mem_cons.1 h with rfl | h
      · cases hs
      · exact isTs_mem h ht.2 hs
    · have hv : isTs (k + 1) (d :: ds) = (isT k d && !nil? d && isTs (k + 1) ds) := by cases d <;> first | rfl | exact absurd rfl hd
      rw [hv, Bool.and_eq_true, Bool.and_eq_true] at ht
      rcases List.mem_cons.1 h with rfl | h
      · exact ⟨k, rfl, ht.1.1⟩
      · exact isTs_mem h ht.2 hs
theorem count_all (hT : Things T) : ∀ (k : Nat) (d : D) (S : Store), th S d = true → isT k d = true → callN T (n + k + 1) 41 [d] S = .ok (.int (cnD d)) S := by
  have core : ∀ (m k : Nat) (d : D) (S : Store), th S d = true → isT k d = true → (∀ k', k = k' + 1 → ∀ d', th S d' = true → isT k' d' = true → callN T m 41 [d'] S = .ok (.int (cnD d')) S) → callN T (m + 1) 41 [d] S = .ok (.int (cnD d)) S := by
    intro m k d S hd ht hrec
    obtain ⟨ds, rfl⟩ : ∃ es, d = .tup es := by cases d <;> first | exact ⟨_, rfl⟩ | (cases k <;> cases ht)
    have hds := hd
    simp only [th, Bool.and_eq_true, decide_eq_true_eq] at hds
    have hts : isTs k ds = true := ht
    have e : evE (callN T m) [some (.tup ds), none] (.lc (.ife (.isi (.slot 1) .str) (.cst (.int 1)) (.call 41 (.cons (.slot 1) .nil))) (.nm 1) (.any (.slot 0)) .no [1]) S = .ok (.ref S.length) (S ++ [.lst (ds.map fun x => .int (cnD x : Int))]) := by
      refine lc_m id (fun x => .int (cnD x : Int)) ds (by rw [i_any, e_slot]; simp) (le_sz (by omega)) fun x hx => ⟨_, g_nm _ _, ?_⟩
      have hth := ths_mem hx hds.1
      have ts := ty_str? hth
      by_cases hst : str? x = true
      · obtain ⟨s, rfl⟩ : ∃ s, x = .str s := by cases x <;> first | exact ⟨_, rfl⟩ | cases hst
        simp only [wipeE, List.set_cons_succ, List.set_cons_zero, id, e_ife, t_isi, e_slot, List.getElem?_cons_succ, List.getElem?_cons_zero, R.bind_ok, ts, str?, if_true, e_cst, cnD]
        rfl
      · have hst' : str? x = false := by simpa using hst
        obtain ⟨k', e1, e2⟩ := isTs_mem hx hts hst'
        have hc := hrec k' e1 x hth e2
        simp only [wipeE, List.set_cons_succ, List.set_cons_zero, id, e_ife, t_isi, e_slot, List.getElem?_cons_succ, List.getElem?_cons_zero, R.bind_ok, ts, hst', Bool.false_eq_true, if_false, e_call, es_cons, es_nil, hc]
    apply call_pure hT.h41 rfl (v := .int (cnD (.tup ds))) (by rfl) (G := [.lst (ds.map fun x => .int (cnD x : Int))])
    show exTs (callN T m) PD.d__law_count.body [some (.tup ds), none] S = _
    simp only [PD.d__law_count, xs_cons, x_ret, e_blt, es_cons, es_nil, e, R.bind_ok, f_sumr, items_ref, get_end, ints_map, R.out_ok, Out.thn_rt, cnD, cnDs_sum]
  intro k
  induction k with
  | zero => intro d S hd ht; exact core n 0 d S hd ht (fun k' e => by omega)
  | succ k ih => intro d S hd ht; exact core (n + (k + 1)) (k + 1) d S hd ht (fun k' e d' h1 h2 => by
      have : k' = k := by omega
      subst this
      exact ih d' S h1 h2)
/-! ### the generator -/
mutual
theorem th_mono {S S' : Store} {k : Nat} (hS : ∀ (i : Nat), i < k → S'[i]? = S[i]?) : ∀ d : D, D.lt k d = true → th S d = true → th S' d = true
  | .non, _, _ => rfl
  | .bl _, _, _ => rfl
  | .int _, _, _ => rfl
  | .str s, _, h => h
  | .tup ds, hl, h => by
    simp only [th, Bool.and_eq_true] at h ⊢
    exact ⟨ths_mono hS ds (by simpa [D.lt] using hl) h.1, h.2⟩
  | .rol ds, _, h => by cases h
  | .fnv _, _, h => by cases h
  | .ref n, hl, h => by
    simp only [D.lt, decide_eq_true_eq] at hl
    simp only [th] at h ⊢
    rw [hS n hl]
    exact h
theorem ths_mono {S S' : Store} {k : Nat} (hS : ∀ (i : Nat), i < k → S'[i]? = S[i]?) : ∀ ds : List D, D.lts k ds = true → ths S ds = true → ths S' ds = true
  | [], _, _ => rfl
  | d :: ds, hl, h => by
    simp only [ths, D.lts, Bool.and_eq_true] at h hl ⊢
    exact ⟨th_mono hS d hl.1 h.1, ths_mono hS ds hl.2 h.2⟩
end
mutual
theorem th_lt {S : Store} : ∀ d : D, th S d = true → D.lt S.length d = true
  | .non, _ => rfl
  | .bl _, _ => rfl
  | .int _, _ => rfl
  | .str s, _ => rfl
  | .tup ds, h => by
    simp only [th, Bool.and_eq_true] at h
    simp only [D.lt]
    exact ths_lt ds h.1
  | .rol ds, h => by cases h
  | .fnv _, h => by cases h
  | .ref n, h => by
    simp only [th] at h
    simp only [D.lt, decide_eq_true_eq]
    rcases Nat.lt_or_ge n S.length with q | q
    · exact q
    · rw [List.getElem?_eq_none q] at h; cases h
theorem ths_lt {S : Store} : ∀ ds : List D, ths S ds = true → D.lts S.length ds = true
  | [], _ => rfl
  | d :: ds, h => by
    simp only [ths, Bool.and_eq_true] at h
    simp only [D.lts, Bool.and_eq_true]
    exact ⟨th_lt d h.1, ths_lt ds h.2⟩
end
theorem ths_app {S : Store} : ∀ (a b : List D), ths S a = true → ths S b = true → ths S (a ++ b) = true
  | [], b, _, h => h
  | d :: a, b, h, q => by
    simp only [ths, Bool.and_eq_true, List.cons_append] at h ⊢
    exact ⟨h.1, ths_app a b h.2 q⟩
theorem ths_take {S : Store} : ∀ (k : Nat) (a : List D), ths S a = true → ths S (a.take k) = true
  | 0, a, _ => by simp [ths]
  | k + 1, [], _ => by simp [ths]
  | k + 1, d :: a, h => by
    simp only [ths, Bool.and_eq_true, List.take_succ_cons] at h ⊢
    exact ⟨h.1, ths_take k a h.2⟩
theorem ths_drop {S : Store} : ∀ (k : Nat) (a : List D), ths S a = true → ths S (a.drop k) = true
  | 0, a, h => by simpa using h
  | k + 1, [], _ => by simp [ths]
  | k + 1, d :: a, h => by
    simp only [ths, Bool.and_eq_true, List.drop_succ_cons] at h ⊢
    exact ths_drop k a h.2
mutual
theorem it_th (S : Store) : ∀ x : It, x.ok → x.cnt ≤ 2000 → th S x.d = true
  | .sg s, h, _ => by
    simp only [ok_sg] at h
    simp [It.d_sg, th, sg_len h]
  | .ev r, h, hc => by
    simp only [ok_ev, cnt_ev] at h hc
    simp only [It.d_ev, rowD, th, Bool.and_eq_true, decide_eq_true_eq]
    exact ⟨row_ths S r h.2 hc, by have := len_le_cnt r h.2; rw [rowDs_len]; omega⟩
theorem row_ths (S : Store) : ∀ r : List It, okR r → cntR r ≤ 2000 → ths S (rowDs r) = true
  | [], _, _ => by simp [ths]
  | x :: r, h, hc => by
    simp only [ok_cons, cnt_cons] at h hc
    simp only [rowDs_cons, ths, Bool.and_eq_true]
    exact ⟨it_th S x h.1 (by omega), row_ths S r h.2 (by omega)⟩
end
theorem row_th (S : Store) {r : Rw} (h : okR r) (hc : cntR r ≤ 2000) : th S (rowD r) = true := by
  simp only [rowD, th, Bool.and_eq_true, decide_eq_true_eq]
  exact ⟨row_ths S r h hc, by have := len_le_cnt r h; rw [rowDs_len]; omega⟩

end
end PD.PS
end

section
set_option linter.all false
set_option maxRecDepth 100000
set_option maxHeartbeats 1000000
/-! PDnum: the law's numbers, in a well-formed store; trim of a tuple; loops over lists. -/
namespace PD.PS
open PySem
/-- the law's numbers leave a well-formed store as it was -/
theorem numbers_GW {T : Tab} (hT : T 9 = some d__law_draw) (hB : T 14 = some d__law_big) (hR : T 10 = some d__law_trim) (hN : T 17 = some d__law_numbers) {n : Nat} (h : Hs) (G : Store) (g : GW G) (many great B : Int)
    (m0 : 0 ≤ many) (m1 : many ≤ 1000) (g0 : 0 < great) (g1 : great.natAbs.log2 < 1920) (g2 : lenStr great ≤ 600) (hb : great ≤ B) (hb2 : 10 ≤ B) :
    ∃ xs h', (xs.length : Int) ≤ many ∧ noNought xs ∧ (∀ x ∈ xs, 0 ≤ x ∧ x < B) ∧ callN T (n + 3) 17 [.ref 2, .int many, .int great] (hS h G) = .ok (tupI xs) (hS h' G) := by
  obtain ⟨k, h1, k0, k1, hk⟩ := draw_spec hT (n := n + 1) h (G ++ [.lst []]) (many + 1) (by omega) (by omega)
  have key : (exTs (callN T (n + 2)) d__law_numbers.body [some (.ref 2), some (.int many), some (.int great), none, none] (hS h G)).sat (fun _ _ => False) (fun v S => ∃ xs h' G', (xs.length : Int) ≤ many ∧ noNought xs ∧ (∀ x ∈ xs, 0 ≤ x ∧ x < B) ∧ v = tupI xs ∧ S = hS h' (G ++ G')) := by
    simp only [d__law_numbers, xs_cons]
    simp only [x_asg, e_lst, es_nil, R.bind_ok, newL_eq, R.out_ok, g_nm, List.set_cons_succ, List.set_cons_zero, Out.thn_nx, List.length_nil, Nat.zero_le, if_true, hS_len, hS_app]
    refine sat_thn (N := fun e S => ∃ (fs : List Int) (t : Option D) (h' : Hs) (G' : Store), e = [some (.ref 2), some (.int many), some (.int great), some (.ref (G.length + 3)), t] ∧ S = hS h' (G ++ .lst (fs.map .int) :: G') ∧ (fs.length : Int) ≤ many ∧ ∀ x ∈ fs, 0 ≤ x ∧ x < B)
      (for_sat (items := rangeD 0 1 k.toNat) (S' := hS h1 (G ++ [.lst []])) (rng1_sat ?_ (by omega) (by omega)) (by simp; unfold sizeLine; omega) (fun i e S => ∃ (fs : List Int) (t : Option D) (h' : Hs) (G' : Store), e = [some (.ref 2), some (.int many), some (.int great), some (.ref (G.length + 3)), t] ∧ S = hS h' (G ++ .lst (List.map .int fs) :: G') ∧ fs.length = i ∧ ∀ x ∈ fs, 0 ≤ x ∧ x < B) ⟨[], none, h1, [], rfl, rfl, rfl, by simp⟩ ?_ ?_) ?_
    · simp [hk]
    · rintro i d env S hd ⟨fs, t, h', G', rfl, rfl, hl, hx⟩
      have hi : i < k.toNat := by
        simp at hd; omega
      obtain ⟨d1, h2, a0, a1, e1⟩ := draw_spec hT (n := n + 1) h' (G ++ .lst (fs.map .int) :: G') 4 (by decide) (by decide)
      obtain ⟨d2, h3, b0, b1, e2⟩ := draw_spec hT (n := n + 1) h2 (G ++ .lst (fs.map .int) :: G') 9 (by decide) (by decide)
      obtain ⟨d3, h4, c0, c1, e3⟩ := big_spec hT hB (n := n) h3 (G ++ .lst (fs.map .int) :: G') great g0 g1 g2
      obtain ⟨d4, h5, f0, f1, e4⟩ := draw_spec hT (n := n + 1) h4 (G ++ .lst (fs.map .int) :: (G' ++ [.lst [.int 0, .int d1, .int (1 + d2), .int d3]])) 4 (by decide) (by decide)
      have hsz : fs.length < 16777216 := by omega
      obtain ⟨y, hy, hy0, hy1⟩ : ∃ y, L2.atI [D.int 0, .int d1, .int (1 + d2), .int d3] d4 = some (.int y) ∧ 0 ≤ y ∧ y < B := by
        rcases (by omega : d4 = 0 ∨ d4 = 1 ∨ d4 = 2 ∨ d4 = 3) with rfl | rfl | rfl | rfl
        · exact ⟨0, by simp [L2.atI, L2.ixN], by omega, by omega⟩
        · exact ⟨d1, by simp [L2.atI, L2.ixN], by omega, by omega⟩
        · exact ⟨1 + d2, by simp [L2.atI, L2.ixN], by omega, by omega⟩
        · exact ⟨d3, by simp [L2.atI, L2.ixN], by omega, by omega⟩
      refine ⟨_, g_nm _ _, satB_nx (e := [some (.ref 2), some (.int many), some (.int great), some (.ref (G.length + 3)), some d]) (S := hS h5 (G ++ .lst ((fs ++ [y]).map .int) :: (G' ++ [.lst [.int 0, .int d1, .int (1 + d2), .int d3]]))) ?_ ⟨fs ++ [y], some d, h5, _, rfl, rfl, by simp [hl], ?_⟩⟩
      · simp [e1, e2, e3, e4, hy, hsz, sizeLine]
      · intro x hx'
        simp at hx'
        rcases hx' with hx' | rfl
        · exact hx x hx'
        · exact ⟨hy0, hy1⟩
    · rintro env S ⟨fs, t, h', G', rfl, rfl, hl, hx⟩
      refine ⟨fs, t, h', G', rfl, rfl, ?_, hx⟩
      simp at hl
      omega
    · rintro env S ⟨fs, t, h', G', rfl, rfl, hl, hx⟩
      have ht := trim_spec hR (n := n + 1) (hS h' (G ++ .lst (fs.map .int) :: G')) (G.length + 3) fs (by simp) (by unfold sizeLine; omega)
      refine sat_rtI (d := tupI (trimI fs)) (S := hS h' (G ++ .lst (fs.map .int) :: G')) ?_ ⟨trimI fs, h', _, ?_, trimI_ok _, fun x hx' => hx x (trimI_mem hx'), rfl, rfl⟩
      · simp [ht]
      · have := trimI_len fs
        omega
  obtain ⟨v, S, e, xs, h', G', p1, p2, p3, rfl, rfl⟩ := sat_rt key
  exact ⟨xs, h', p1, p2, p3, call_GW (xs := [.ref 2, .int many, .int great]) hN rfl g (lt_tupI _ _) e⟩
section
variable {T : Tab} {n : Nat} {S : Store}
theorem trim_tup (hT : T 10 = some PD.d__law_trim) (xs : List Int) (hl : xs.length ≤ sizeLine) : callN T (n + 1) 10 [tupI xs] S = .ok (tupI (trimI xs)) S := by
  have key : (exTs (callN T n) PD.d__law_trim.body [some (tupI xs), none] S).sat (fun _ _ => False) (fun v S' => v = tupI (trimI xs) ∧ ∃ G, S' = S ++ G) := by
    simp only [PD.d__law_trim, xs_cons]
    simp only [x_asg, e_blt, es_cons, es_nil, e_slot, List.getElem?_cons_zero, R.bind_ok, f_listT, newL_eq, R.out_ok, g_nm, List.set_cons_succ, List.set_cons_zero, Out.thn_nx]
    refine sat_thn (N := fun e S' => ∃ r G, e = [some (tupI xs), some (.ref r)] ∧ S' = S ++ G ∧ S'[r]? = some (.lst ((trimI xs).map .int)))
      (whl_sat (fun m e S' => ∃ r G ys, e = [some (tupI xs), some (.ref r)] ∧ S' = S ++ G ∧ S'[r]? = some (.lst (List.map .int ys)) ∧ ys.length = m ∧ trimI ys = trimI xs) xs.length hl ⟨S.length, _, xs, rfl, rfl, by simp, rfl, rfl⟩ ?_) ?_
    · rintro m env S' ⟨r, G, ys, rfl, rfl, hr, rfl, ht⟩
      cases ys with
      | nil =>
        left
        refine ⟨S ++ G, ?_, r, G, rfl, rfl, ?_⟩
        · simp [hr]
        · rw [hr, ← ht]; rfl
      | cons y ys =>
        by_cases hy : y = 0
        · right
          subst hy
          refine ⟨S ++ G, by simp [hr, L2.atI, L2.ixN], satB_nx (e := [some (tupI xs), some (.ref (S ++ G).length)]) (S := S ++ G ++ [.lst (ys.map .int)]) ?_ ⟨ys.length, by simp, (S ++ G).length, G ++ [.lst (ys.map .int)], ys, rfl, by simp, by simp, rfl, ?_⟩⟩
          · simp [hr, cutD, HT.sIx, List.take_of_length_le]
          · rw [← ht]; simp [trimI]
        · left
          refine ⟨S ++ G, by simp [hr, L2.atI, L2.ixN, hy], r, G, rfl, rfl, ?_⟩
          rw [hr, ← ht]
          simp [trimI, hy]
    · rintro e S' ⟨r, G, rfl, rfl, hr⟩
      exact sat_rtI (d := tupI (trimI xs)) (S := S ++ G) (by simp [hr]; rfl) ⟨rfl, G, rfl⟩
  obtain ⟨v, S', e, rfl, G, rfl⟩ := sat_rt key
  exact call_pure hT rfl (lt_tupI _ _) e
end
theorem for_ls_sat {F : Fn} {t : Tg} {s : I} {b : Ts} {env : Env} {S S' : Store} {c : Nat} {items : List D} {N : Env → Store → Prop} {Q : D → Store → Prop}
    (hs : evI F env s S = .ok (.ls c) S') (hl : items.length ≤ sizeLine) (I : Nat → Env → Store → Prop) (hc : ∀ i env S, I i env S → S[c]? = some (.lst items)) (h0 : I 0 env S')
    (step : ∀ i d env S, items[i]? = some d → I i env S → ∃ env1, asgT S t d env = some env1 ∧ (exTs F b env1 S).satB (I (i + 1)) N Q)
    (fin : ∀ env S, I items.length env S → N env S) : (exT F (.for_ t s b) env S).sat N Q := by
  rw [x_for, hs, R.out_ok]
  exact forGo_ls I N Q hc step fin wmax 0 env S' (Nat.zero_le _) (by have := wmax_lt hl; omega) h0
end PD.PS
end

section
set_option linter.all false
set_option maxRecDepth 100000
set_option maxHeartbeats 2000000
/-! PDex: runs that may end with an exception. -/
namespace PD.PS
open PySem
def _root_.PD.Out.satX (o : Out) (N : Env → Store → Prop) (Q : D → Store → Prop) (X : Exn → Store → Prop) : Prop :=
  match o with
  | .nx e S => N e S
  | .rt d S => Q d S
  | .ex x _ S => X x S
  | _ => False
def _root_.PD.Out.satBX (o : Out) (N B : Env → Store → Prop) (Q : D → Store → Prop) (X : Exn → Store → Prop) : Prop :=
  match o with
  | .nx e S => N e S
  | .ct e S => N e S
  | .bk e S => B e S
  | .rt d S => Q d S
  | .ex x _ S => X x S
  | _ => False
theorem satX_thn {o : Out} {f : Env → Store → Out} {N N' : Env → Store → Prop} {Q : D → Store → Prop} {X : Exn → Store → Prop} (h : o.satX N Q X) (hf : ∀ e S, N e S → (f e S).satX N' Q X) : (o.thn f).satX N' Q X := by
  cases o <;> simp only [Out.satX] at h
  · exact hf _ _ h
  · exact h
  · exact h
theorem satX_rt {o : Out} {N : Env → Store → Prop} {Q : D → Store → Prop} {X : Exn → Store → Prop} {d : D} {S : Store} (h : o = .rt d S) (hQ : Q d S) : o.satX N Q X := by subst h; exact hQ
theorem satX_nx {o : Out} {N : Env → Store → Prop} {Q : D → Store → Prop} {X : Exn → Store → Prop} {e : Env} {S : Store} (h : o = .nx e S) (hQ : N e S) : o.satX N Q X := by subst h; exact hQ
theorem satX_ex {o : Out} {N : Env → Store → Prop} {Q : D → Store → Prop} {X : Exn → Store → Prop} {x : Exn} {e : Env} {S : Store} (h : o = .ex x e S) (hQ : X x S) : o.satX N Q X := by subst h; exact hQ
theorem satBX_rt {o : Out} {N B : Env → Store → Prop} {Q : D → Store → Prop} {X : Exn → Store → Prop} {d : D} {S : Store} (h : o = .rt d S) (hQ : Q d S) : o.satBX N B Q X := by subst h; exact hQ
theorem satBX_nx {o : Out} {N B : Env → Store → Prop} {Q : D → Store → Prop} {X : Exn → Store → Prop} {e : Env} {S : Store} (h : o = .nx e S) (hQ : N e S) : o.satBX N B Q X := by subst h; exact hQ
theorem satBX_ex {o : Out} {N B : Env → Store → Prop} {Q : D → Store → Prop} {X : Exn → Store → Prop} {x : Exn} {e : Env} {S : Store} (h : o = .ex x e S) (hQ : X x S) : o.satBX N B Q X := by subst h; exact hQ
/-- how such a run ends -/
theorem satX_end {o : Out} {Q : D → Store → Prop} {X : Exn → Store → Prop} (h : o.satX (fun _ _ => False) Q X) : (∃ d S, o = .rt d S ∧ Q d S) ∨ ∃ x e S, o = .ex x e S ∧ X x S := by
  cases o <;> simp only [Out.satX] at h
  · exact .inl ⟨_, _, rfl, h⟩
  · exact .inr ⟨_, _, _, rfl, h⟩
theorem satX_endN {o : Out} {N : Env → Store → Prop} {X : Exn → Store → Prop} (h : o.satX N (fun _ _ => False) X) : (∃ e S, o = .nx e S ∧ N e S) ∨ ∃ x e S, o = .ex x e S ∧ X x S := by
  cases o <;> simp only [Out.satX] at h
  · exact .inl ⟨_, _, rfl, h⟩
  · exact .inr ⟨_, _, _, rfl, h⟩
theorem satX_sat {o : Out} {N : Env → Store → Prop} {Q : D → Store → Prop} {X : Exn → Store → Prop} (h : o.sat N Q) : o.satX N Q X := by
  cases o <;> simp only [Out.sat] at h <;> exact h
theorem forGo_stX {items : List D} {t : Tg} {b : Env → Store → Out} (I : Nat → Env → Store → Prop) (N : Env → Store → Prop) (Q : D → Store → Prop) (X : Exn → Store → Prop)
    (step : ∀ i d env S, items[i]? = some d → I i env S → ∃ env1, asgT S t d env = some env1 ∧ (b env1 S).satBX (I (i + 1)) N Q X)
    (fin : ∀ env S, I items.length env S → N env S) :
    ∀ n i env S, i ≤ items.length → items.length < n + i → I i env S → (forGo (Src.st items).nx t b n i env S).satX N Q X
  | 0, i, env, S, h1, h2, h => by omega
  | n + 1, i, env, S, h1, h2, h => by
    simp only [forGo, Src.nx, R.out_ok]
    rcases Nat.lt_or_ge i items.length with hl | hl
    · have hd : items[i]? = some items[i] := List.getElem?_eq_getElem hl
      obtain ⟨env1, ha, hb⟩ := step i _ env S hd h
      simp only [hd, ha]
      cases hbe : b env1 S <;> simp only [hbe, Out.satBX] at hb
      · exact forGo_stX I N Q X step fin n (i + 1) _ _ (by omega) (by omega) hb
      · exact hb
      · exact hb
      · exact forGo_stX I N Q X step fin n (i + 1) _ _ (by omega) (by omega) hb
      · exact hb
    · have : items.length = i := by omega
      rw [List.getElem?_eq_none hl]
      simp only [Out.satX]
      exact fin _ _ (this ▸ h)
theorem forGo_lsX {c : Nat} {items : List D} {t : Tg} {b : Env → Store → Out} (I : Nat → Env → Store → Prop) (N : Env → Store → Prop) (Q : D → Store → Prop) (X : Exn → Store → Prop)
    (hc : ∀ i env S, I i env S → S[c]? = some (.lst items))
    (step : ∀ i d env S, items[i]? = some d → I i env S → ∃ env1, asgT S t d env = some env1 ∧ (b env1 S).satBX (I (i + 1)) N Q X)
    (fin : ∀ env S, I items.length env S → N env S) :
    ∀ n i env S, i ≤ items.length → items.length < n + i → I i env S → (forGo (Src.ls c).nx t b n i env S).satX N Q X
  | 0, i, env, S, h1, h2, h => by omega
  | n + 1, i, env, S, h1, h2, h => by
    simp only [forGo, Src.nx, hc i env S h, R.out_ok]
    rcases Nat.lt_or_ge i items.length with hl | hl
    · have hd : items[i]? = some items[i] := List.getElem?_eq_getElem hl
      obtain ⟨env1, ha, hb⟩ := step i _ env S hd h
      simp only [hd, ha]
      cases hbe : b env1 S <;> simp only [hbe, Out.satBX] at hb
      · exact forGo_lsX I N Q X hc step fin n (i + 1) _ _ (by omega) (by omega) hb
      · exact hb
      · exact hb
      · exact forGo_lsX I N Q X hc step fin n (i + 1) _ _ (by omega) (by omega) hb
      · exact hb
    · have : items.length = i := by omega
      rw [List.getElem?_eq_none hl]
      simp only [Out.satX]
      exact fin _ _ (this ▸ h)
theorem for_satX {F : Fn} {t : Tg} {s : I} {b : Ts} {env : Env} {S S' : Store} {items : List D} {N : Env → Store → Prop} {Q : D → Store → Prop} {X : Exn → Store → Prop}
    (hs : evI F env s S = .ok (.st items) S') (hl : items.length ≤ sizeLine) (I : Nat → Env → Store → Prop) (h0 : I 0 env S')
    (step : ∀ i d env S, items[i]? = some d → I i env S → ∃ env1, asgT S t d env = some env1 ∧ (exTs F b env1 S).satBX (I (i + 1)) N Q X)
    (fin : ∀ env S, I items.length env S → N env S) : (exT F (.for_ t s b) env S).satX N Q X := by
  rw [x_for, hs, R.out_ok]
  exact forGo_stX I N Q X step fin wmax 0 env S' (Nat.zero_le _) (by have := wmax_lt hl; omega) h0
theorem for_ls_satX {F : Fn} {t : Tg} {s : I} {b : Ts} {env : Env} {S S' : Store} {c : Nat} {items : List D} {N : Env → Store → Prop} {Q : D → Store → Prop} {X : Exn → Store → Prop}
    (hs : evI F env s S = .ok (.ls c) S') (hl : items.length ≤ sizeLine) (I : Nat → Env → Store → Prop) (hc : ∀ i env S, I i env S → S[c]? = some (.lst items)) (h0 : I 0 env S')
    (step : ∀ i d env S, items[i]? = some d → I i env S → ∃ env1, asgT S t d env = some env1 ∧ (exTs F b env1 S).satBX (I (i + 1)) N Q X)
    (fin : ∀ env S, I items.length env S → N env S) : (exT F (.for_ t s b) env S).satX N Q X := by
  rw [x_for, hs, R.out_ok]
  exact forGo_lsX I N Q X hc step fin wmax 0 env S' (Nat.zero_le _) (by have := wmax_lt hl; omega) h0
end PD.PS
end

section
set_option linter.all false
set_option maxRecDepth 100000
set_option maxHeartbeats 2000000
/-! K30run: the law k30 holds of the evaluator. -/
namespace PD.PS.K30r
open PySem K30
structure Fns (T : Tab) : Prop where
  t : Rows T
  h2 : T 2 = some PD.d_is_integer
  h3 : T 3 = some PD.d_is_between
  h15 : T 15 = some PD.d__law_kept
  h16 : T 16 = some PD.d__law_hand
  h33 : T 33 = some PD.d_is_sign
  h34 : T 34 = some PD.d_signs_below
  h35 : T 35 = some PD.d_is_long_term
  h44 : T 44 = some PD.d__law_signs
  h45 : T 45 = some PD.d__law_term
  h57 : T 57 = some d__law_put
  h58 : T 58 = some d__law_paths
  h60 : T 60 = some d__law_get
  h75 : T 75 = some d_stepped_row
  h76 : T 76 = some d_is_step_form
  h77 : T 77 = some d_need_long_terms
  h78 : T 78 = some d_behind_step
  h79 : T 79 = some d_undone_step
  h80 : T 80 = some d__law_deed
  h81 : T 81 = some d__law_step
  h104 : T 104 = some PD.d_turned_row
  h105 : T 105 = some PD.d_turned_back_row
  h106 : T 106 = some PD.d_folded_row
  h107 : T 107 = some PD.d_timed_row
  h108 : T 108 = some d__law_outcome
  h109 : T 109 = some d_stepped
  h110 : T 110 = some d_undone
  h111 : T 111 = some d__law_steps
theorem fns : Fns tb := ⟨⟨⟨rfl, rfl⟩, rfl, rfl, rfl⟩, rfl, rfl, rfl, rfl, rfl, rfl, rfl, rfl, rfl, rfl, rfl, rfl, rfl, rfl, rfl, rfl, rfl, rfl, rfl, rfl, rfl, rfl, rfl, rfl, rfl, rfl, rfl⟩
/-! ### long terms -/
def jt : Tab := fun i => match i with
  | 33 => some PD.d_is_sign
  | 34 => some PD.d_signs_below
  | 35 => some PD.d_is_long_term
  | 36 => some PD.d_is_term
  | 39 => some PD.d_need_terms
  | _ => none
theorem jj : Judge jt := ⟨rfl, rfl, rfl, rfl, rfl⟩
section
variable {T : Tab} {n : Nat}
theorem below_ok0 (hT : Fns T) (S : Store) : ∀ (k : Nat) (r : Rw) (deep : Nat) (most : Int), depR r ≤ k → k ≤ 60 → okR r → depR r ≤ deep → (cntR r : Int) ≤ most → cntR r ≤ 1000000 → callN T (n + k + 2) 34 [rowD r, .int deep, .int most] S = .ok (.int (cntR r)) S
  | 0, r, deep, most, h0, h1, ok, hd, hc, hm => by
    have e := below_step jj (F := callN T (n + 1)) 0 r deep most S (fun s hs => is_sign_ok hT.h33 hs) ok hd hc hm (by omega) (fun q d m hq _ _ => by have := dep_mem hq; simp at this; omega)
    exact call_pure0 hT.h34 rfl e
  | k + 1, r, deep, most, h0, h1, ok, hd, hc, hm => by
    have e := below_step jj (F := callN T (n + k + 2)) 0 r deep most S (fun s hs => is_sign_ok (n := n + k + 1) hT.h33 hs) ok hd hc hm (by omega) (fun q d m hq h2 h3 => by
      have := dep_mem hq
      have h4 := cnt_mem hq
      have h5 := ok_mem ok hq
      simp only [dep_ev, cnt_ev, ok_ev] at this h4 h5
      exact below_ok0 hT S k q d m (by omega) (by omega) h5.2 h2 h3 (by omega))
    exact call_pure0 hT.h34 rfl e
/-- a row that the law goes over -/
structure Fit (r : Rw) : Prop where
  ok : okR r
  dep : depR r ≤ 6
  cnt : cntR r ≤ 500
theorem Fit.short {r : Rw} (h : Fit r) : Short r := ⟨h.ok, by have := h.dep; omega, by have := h.cnt; omega⟩
theorem long_fit (hT : Fns T) {r : Rw} (h : Fit r) (S : Store) : callN T (n + 9) 35 [rowD r, .int 100000] S = .ok (.bl true) S := by
  have h1 := below_ok0 (n := n) hT S 6 r 6 100000 h.dep (by omega) h.ok h.dep (by have := h.cnt; omega) (by have := h.cnt; omega)
  apply call_pure0 hT.h35 rfl
  show exTs (callN T (n + 8)) PD.d_is_long_term.body [some (rowD r), some (.int 100000)] S = _
  simp only [PD.d_is_long_term, xs_cons, x_ret, e_cmp, e_call, es_cons, es_nil, e_slot, e_cst, List.getElem?_cons_succ, List.getElem?_cons_zero, R.bind_ok, show ((6 : Int)) = ((6 : Nat) : Int) from rfl, h1, c_isn, is_int, R.map_ok, Bool.not_false, R.out_ok, Out.thn_rt]
theorem need_fit (hT : Fns T) {r : Rw} (h : Fit r) {c : Nat} {S : Store} (hc : S[c]? = some (.lst [rowD r])) : callN T (n + 10) 77 [.ref c] S = .ok .non S := by
  have key : (exTs (callN T (n + 9)) d_need_long_terms.body [some (.ref c), none] S).sat (fun e S' => S' = S) (fun v S' => False) := by
    rw [d_need_long_terms]
    simp only []
    rw [xs_cons]
    refine sat_thn (N := fun e S' => S' = S) ?_ (fun e S' h => sat_nxI xs_nil h)
    refine for_ls_sat (c := c) (items := [rowD r]) (S' := S) (by simp [hc]) (le_sz (by simp)) (fun i e S' => S' = S ∧ ∃ t, e = [some (.ref c), t]) (fun i e S' q => by rw [q.1]; exact hc) ⟨rfl, _, rfl⟩ ?_ (fun e S' q => q.1)
    rintro i d e S' hd ⟨rfl, t, rfl⟩
    refine ⟨_, g_nm _ _, ?_⟩
    have hdr : d = rowD r := by
      match i, hd with
      | 0, hd => simpa using hd.symm
      | i + 1, hd => simp at hd
    subst hdr
    have l := long_fit (n := n) hT h S'
    refine satB_nx (e := [some (.ref c), some (rowD r)]) (S := S') ?_ ⟨rfl, _, rfl⟩
    simp only [List.set_cons_succ, List.set_cons_zero, xs_cons, xs_nil, x_iff, t_not, t_call, es_cons, es_nil, e_slot, e_cst, List.getElem?_cons_succ, List.getElem?_cons_zero, R.bind_ok, l, tru_b, R.map_ok, Bool.not_true, R.out_ok, Bool.false_eq_true, if_false, Out.thn_nx]
  cases hO : exTs (callN T (n + 9)) d_need_long_terms.body [some (.ref c), none] S with
  | nx e S' =>
    rw [hO] at key
    have : S' = S := key
    subst this
    rw [call_nx (n := n + 9) (xs := [.ref c]) (env := e) (S' := S') hT.h77 rfl hO, gcS_self]
  | rt d S' => rw [hO] at key; exact key.elim
  | bk e S' => rw [hO] at key; exact key.elim
  | ct e S' => rw [hO] at key; exact key.elim
  | ex x e S' => rw [hO] at key; exact key.elim
  | stuck => rw [hO] at key; exact key.elim
/-! ### the program's steps -/
def natI (ps : List Nat) : List Int := ps.map fun (k : Nat) => (k : Int)
def deedI (d : Deed) : Nat := match d with
  | .turn => 104
  | .back => 105
  | .fold => 106
  | .times => 107
theorem deed_run (hT : Fns T) {r : Rw} (h : Short r) (d : Deed) {i k : Nat} (hi : i < r.length) (hk : k ≤ 100) (S : Store) : callN T (n + 1) (deedI d) [rowD r, .int (i : Int), .int (k : Int)] S = .ok (optR (deedR d r i k)) S := by
  cases d with
  | turn => exact turned_ok hT.h104 h hi S
  | back => exact turned_back_ok hT.h105 h S
  | fold => exact folded_ok hT.h106 h (by omega) hi S
  | times => exact timed_ok hT.h107 h (by omega) hi S
theorem deed_out {d : Deed} {r : Rw} {i k : Nat} (hi : r.length ≤ i) : deedR d r i k = none := by
  have e : ∀ j, i ≤ j → evAt r j = none := fun j hj => by unfold evAt; rw [List.getElem?_eq_none (by omega)]
  cases d with
  | turn => show turnR r i k = none; unfold turnR; rw [e i (Nat.le_refl _)]
  | back => show backR r i k = none; unfold backR; rw [e (i + k) (by omega)]; split <;> rfl
  | fold => show foldR r i k = none; unfold foldR; rw [e i (Nat.le_refl _)]
  | times => show timesR r i k = none; unfold timesR; rw [e i (Nat.le_refl _)]
def fsL : List (Str × Nat) := match d_stepped_row.body with
  | .cons _ (.cons _ (.cons _ (.cons _ (.cons (.ret (.callv _ fs _)) _)))) => fs
  | _ => []
def kvL : List (Str × D) := [(("turn" : PySem.Str), .fnv "turned_row"), (("back" : PySem.Str), .fnv "turned_back_row"), (("fold" : PySem.Str), .fnv "folded_row"), (("times" : PySem.Str), .fnv "timed_row")]
def fnN (d : Deed) : Str := match d with
  | .turn => "turned_row"
  | .back => "turned_back_row"
  | .fold => "folded_row"
  | .times => "timed_row"
theorem kv_at (d : Deed) : kvL.lookup d.nm = some (.fnv (fnN d)) := by cases d <;> kernel_rfl
theorem fs_at (d : Deed) : fsL.lookup (fnN d) = some (deedI d) := by cases d <;> kernel_rfl
theorem sr_body : d_stepped_row.body = .cons (.iff (.cmp .Gt (.blt .len (.cons (.slot 1) .nil)) (.cst (.int 0))) (.cons (.asg (.nm 4) (.ix (.slot 1) (.cst (.int 0)))) (.cons (.iff (.or (.cmp .GtE (.slot 4) (.blt .len (.cons (.slot 0) .nil))) (.isi (.ix (.slot 0) (.slot 4)) .str)) (.cons (.ret (.cst .non)) .nil) .nil) (.cons (.asg (.nm 5) (.call 75 (.cons (.ix (.slot 0) (.slot 4)) (.cons (.slc (.slot 1) (.so (.cst (.int 1))) .no) (.cons (.slot 2) .nil))))) (.cons (.ret (.ife (.cmp .Is (.slot 5) (.cst .non)) (.cst .non) (.bin .Add (.bin .Add (.slc (.slot 0) .no (.so (.slot 4))) (.tup (.cons (.slot 5) .nil))) (.slc (.slot 0) (.so (.bin .Add (.slot 4) (.cst (.int 1)))) .no)))) .nil)))) .nil) (.cons (.asg (.tp (.cons (.nm 4) (.cons (.nm 6) (.cons (.nm 7) .nil)))) (.slot 2)) (.cons (.iff (.cmp .GtE (.slot 4) (.blt .len (.cons (.slot 0) .nil))) (.cons (.ret (.cst .non)) .nil) .nil) (.cons (.asg (.nm 3) (.gix kvL (.slot 6))) (.cons (.ret (.callv 3 fsL (.cons (.slot 0) (.cons (.slot 4) (.cons (.slot 7) .nil))))) .nil)))) := rfl
def restD (d : Deed) (i k : Nat) : D := .tup [.int (i : Int), .str d.nm, .int (k : Int)]
theorem evE_gix {F : Fn} {env : Env} {S : Store} (kvs : List (Str × D)) (e : E) : evE F env (.gix kvs e) S = (evE F env e S).bind fun x S => match x with
    | .str s => match kvs.lookup s with
      | some d => .ok d S
      | none => .stuck
    | _ => .stuck := by { rw [evE]; try rfl }
theorem evE_callv {F : Fn} {env : Env} {S : Store} (i : Nat) (fs : List (Str × Nat)) (as : Es) : evE F env (.callv i fs as) S = match env[i]? with
    | some (some (.fnv x)) => match fs.lookup x with
      | some f => (evEs F env as S).bind fun xs S => F f xs S
      | none => .stuck
    | _ => .stuck := by { rw [evE]; try rfl }
theorem stepped_row_ok (hT : Fns T) (d : Deed) {i k : Nat} (hk : k ≤ 100) : ∀ (ps : List Nat) (r : Rw) (S : Store), Short r → callN T (n + ps.length + 2) 75 [rowD r, tupI (natI ps), restD d i k] S = .ok (optR (stepR d i k ps r)) S
  | [], r, S, h => by
    apply call_pure0 hT.h75 rfl
    show exTs (callN T (n + 1)) d_stepped_row.body [some (rowD r), some (tupI []), some (restD d i k), none, none, none, none, none] S = _
    rw [sr_body]
    have le := lenR_ok r S
    have z : ¬ (0 : Int) < (([] : List Int).length : Int) := by decide
    by_cases hi : i < r.length
    · have hi' : ¬ (r.length : Int) ≤ (i : Int) := by omega
      have dr := deed_run (n := n) hT h d hi hk S
      have e : stepR d i k [] r = deedR d r i k := rfl
      rw [e]
      simp only [xs_cons, xs_nil, x_iff, t_cmp, e_blt, es_cons, es_nil, e_slot, List.getElem?_cons_succ, List.getElem?_cons_zero, R.bind_ok, len_tupI, e_cst, c_gt, z, decide_false, R.out_ok, Bool.false_eq_true, if_false, Out.thn_nx, x_asg, restD, g_tp, items_tup, gs_cons, gs_nil, g_nm, List.set_cons_succ, List.set_cons_zero, le, c_ge, hi', evE_gix, kv_at, x_ret, evE_callv, fs_at, dr, Out.thn_rt]
    · have hi' : (r.length : Int) ≤ (i : Int) := by omega
      have e : stepR d i k [] r = none := deed_out (by omega)
      rw [e]
      simp only [xs_cons, xs_nil, x_iff, t_cmp, e_blt, es_cons, es_nil, e_slot, List.getElem?_cons_succ, List.getElem?_cons_zero, R.bind_ok, len_tupI, e_cst, c_gt, z, decide_false, R.out_ok, Bool.false_eq_true, if_false, Out.thn_nx, x_asg, restD, g_tp, items_tup, gs_cons, gs_nil, g_nm, List.set_cons_succ, List.set_cons_zero, le, c_ge, hi', decide_true, if_true, x_ret, Out.thn_rt, optR]
  | p :: ps, r, S, h => by
    apply call_pure0 hT.h75 rfl
    show exTs (callN T (n + ps.length + 2)) d_stepped_row.body [some (rowD r), some (tupI (natI (p :: ps))), some (restD d i k), none, none, none, none, none] S = _
    rw [sr_body]
    have lr := h.len
    have le := lenR_ok r S
    have z1 : 0 + 1 ≤ sizeLine := le_sz (by omega)
    have z : (0 : Int) < ((natI (p :: ps)).length : Int) := by simp [natI]
    have p0 : opIx (tupI (natI (p :: ps))) (.int 0) S = .ok (.int (p : Int)) S := ix_tupI (k := 0) rfl rfl
    have pt : opSl (tupI (natI (p :: ps))) (some 1) none S = .ok (tupI (natI ps)) S := by
      rw [sl_tupI, show (some (1 : Int)) = some ((1 : Nat) : Int) from rfl, cut_lo]
      rfl
    by_cases hi : p < r.length
    · have hi' : ¬ (r.length : Int) ≤ (p : Int) := by omega
      have ix := ixR (List.getElem?_eq_getElem hi) S
      cases hx : r[p] with
      | sg s =>
        have e : stepR d i k (p :: ps) r = none := by unfold stepR; rw [evAt_sg (List.getElem?_eq_getElem hi ▸ congrArg some hx)]
        rw [hx] at ix
        rw [e]
        simp only [xs_cons, xs_nil, x_iff, t_cmp, t_or, t_isi, e_blt, es_cons, es_nil, e_slot, List.getElem?_cons_succ, List.getElem?_cons_zero, R.bind_ok, len_tupI, e_cst, c_gt, z, decide_true, R.out_ok, if_true, x_asg, e_ix, p0, g_nm, List.set_cons_succ, List.set_cons_zero, Out.thn_nx, le, c_ge, hi', decide_false, Bool.false_eq_true, if_false, ix, tyx_sg, x_ret, Out.thn_rt, optR]
      | ev q =>
        have hq : r[p]? = some (.ev q) := List.getElem?_eq_getElem hi ▸ congrArg some hx
        obtain ⟨hs, hne⟩ := h.ev hq
        have ih := stepped_row_ok (i := i) hT d hk ps q S hs
        rw [hx, It.d_ev] at ix
        have e : stepR d i k (p :: ps) r = (stepR d i k ps q).map fun q' => r.take p ++ [.ev q'] ++ r.drop (p + 1) := by
          conv => lhs; unfold stepR
          rw [evAt_of hq]
        rw [e]
        cases hr : stepR d i k ps q with
        | none =>
          rw [hr] at ih
          simp only [optR] at ih
          simp only [xs_cons, xs_nil, x_iff, t_cmp, t_or, t_isi, e_blt, es_cons, es_nil, e_slot, List.getElem?_cons_succ, List.getElem?_cons_zero, R.bind_ok, len_tupI, e_cst, c_gt, z, decide_true, R.out_ok, if_true, x_asg, e_ix, p0, g_nm, List.set_cons_succ, List.set_cons_zero, Out.thn_nx, le, c_ge, hi', decide_false, Bool.false_eq_true, if_false, ix, tyR, e_call, e_slc, o_so, o_no, pt, ih, x_ret, e_ife, c_is, is_nn, Out.thn_rt, Option.map_none, optR]
        | some q' =>
          rw [hr] at ih
          simp only [optR] at ih
          have isn : opIs (rowD q') .non S = .ok false S := rfl
          have ci : (p : Int) + 1 = ((p + 1 : Nat) : Int) := by omega
          have a3 := opAdd_row (r := r.take p) (q := [.ev q']) (S := S) (by simp; omega)
          have a4 := opAdd_row (r := r.take p ++ [.ev q']) (q := r.drop (p + 1)) (S := S) (by simp; omega)
          simp only [xs_cons, xs_nil, x_iff, t_cmp, t_or, t_isi, e_blt, es_cons, es_nil, e_slot, List.getElem?_cons_succ, List.getElem?_cons_zero, R.bind_ok, len_tupI, e_cst, c_gt, z, decide_true, R.out_ok, if_true, x_asg, e_ix, p0, g_nm, List.set_cons_succ, List.set_cons_zero, Out.thn_nx, le, c_ge, hi', decide_false, Bool.false_eq_true, if_false, ix, tyR, e_call, e_slc, o_so, o_no, pt, ih, x_ret, e_ife, c_is, isn, e_bin, slR_hi, slR_lo, b_add, ci, e_tup, List.length_cons, List.length_nil, z1, one_ev, a3, a4, Out.thn_rt, Option.map_some, optR]
    · have hi' : (r.length : Int) ≤ (p : Int) := by omega
      have e : stepR d i k (p :: ps) r = none := by
        have : evAt r p = none := by unfold evAt; rw [List.getElem?_eq_none (by omega)]
        unfold stepR; rw [this]
      rw [e]
      simp only [xs_cons, xs_nil, x_iff, t_cmp, t_or, e_blt, es_cons, es_nil, e_slot, List.getElem?_cons_succ, List.getElem?_cons_zero, R.bind_ok, len_tupI, e_cst, c_gt, z, decide_true, R.out_ok, if_true, x_asg, e_ix, p0, g_nm, List.set_cons_succ, List.set_cons_zero, Out.thn_nx, le, c_ge, hi', x_ret, Out.thn_rt, optR]
theorem stepped_row_le (hT : Fns T) (d : Deed) {i k : Nat} (hk : k ≤ 100) {ps : List Nat} (hl : ps.length ≤ 10) {r : Rw} (h : Short r) (S : Store) : callN T (n + 12) 75 [rowD r, tupI (natI ps), restD d i k] S = .ok (optR (stepR d i k ps r)) S := by
  have e : n + 12 = (n + (10 - ps.length)) + ps.length + 2 := by omega
  rw [e]
  exact stepped_row_ok hT d hk ps r S h
theorem evT_gin {F : Fn} {env : Env} {S : Store} (neg : Bool) (ks : List Str) (e : E) : evT F env (.gin neg ks e) S = (evE F env e S).bind fun x S => match x with
    | .str s => .ok (neg != ks.contains s) S
    | _ => .stuck := by { rw [evT]; try rfl }
/-- numbers, not flags, within bounds -/
def bw : D → Bool
  | .int i => decide (0 ≤ i) && decide (i ≤ 100000)
  | _ => false
theorem between_ok (hT : Fns T) {d : D} (hd : (∃ i, d = .int i) ∨ ∃ b, d = .bl b) (S : Store) : callN T (n + 2) 3 [d, .int 0, .int 100000] S = .ok (.bl (bw d)) S := by
  have i2 : callN T (n + 1) 2 [d] S = .ok (.bl (match d with | .int _ => true | _ => false)) S := by
    apply call_pure0 hT.h2 rfl
    rcases hd with ⟨i, rfl⟩ | ⟨b, rfl⟩ <;> simp [PD.d_is_integer]
  apply call_pure0 hT.h3 rfl
  rcases hd with ⟨i, rfl⟩ | ⟨b, rfl⟩
  · show exTs (callN T (n + 1)) PD.d_is_between.body [some (.int i), some (.int 0), some (.int 100000)] S = _
    simp only at i2
    by_cases c : 0 ≤ i
    · by_cases c2 : i ≤ 100000 <;> simp [PD.d_is_between, i2, bw, c, c2]
    · simp [PD.d_is_between, i2, bw, c]
  · show exTs (callN T (n + 1)) PD.d_is_between.body [some (.bl b), some (.int 0), some (.int 100000)] S = _
    simp only at i2
    simp [PD.d_is_between, i2, bw]
def stepD (d : Deed) (i k : Nat) (ps : List Nat) : D := .tup [tupI (natI ps), .int (i : Int), .str d.nm, .int (k : Int)]
def keysL : List Str := [("turn" : PySem.Str), ("back" : PySem.Str), ("fold" : PySem.Str), ("times" : PySem.Str)]
theorem form_body : d_is_step_form.body = .cons (.iff (.or (.not (.isi (.slot 0) .tuple)) (.or (.cmp .NotEq (.blt .len (.cons (.slot 0) .nil)) (.cst (.int 4))) (.not (.isi (.ix (.slot 0) (.cst (.int 0))) .tuple)))) (.cons (.ret (.cst (.bl false))) .nil) .nil) (.cons (.iff (.or (.not (.isi (.ix (.slot 0) (.cst (.int 2))) .str)) (.gin true keysL (.ix (.slot 0) (.cst (.int 2))))) (.cons (.ret (.cst (.bl false))) .nil) .nil) (.cons (.ret (.blt .all (.cons (.lc (.call 3 (.cons (.slot 1) (.cons (.cst (.int 0)) (.cons (.cst (.int 100000)) .nil)))) (.nm 1) (.any (.lst (.star (.ix (.slot 0) (.cst (.int 0))) (.cons (.ix (.slot 0) (.cst (.int 1))) (.cons (.ix (.slot 0) (.cst (.int 3))) .nil))))) .no [1]) .nil))) .nil)) := rfl
theorem ix4 (a b c d : D) (S : Store) : opIx (.tup [a, b, c, d]) (.int 0) S = .ok a S ∧ opIx (.tup [a, b, c, d]) (.int 1) S = .ok b S ∧ opIx (.tup [a, b, c, d]) (.int 2) S = .ok c S ∧ opIx (.tup [a, b, c, d]) (.int 3) S = .ok d S := by
  refine ⟨?_, ?_, ?_, ?_⟩ <;> simp [opIx, dicOf, opIx0, itemsOf, L2.atI, L2.ixN]
theorem len4 (a b c d : D) (S : Store) : opBlt .len [.tup [a, b, c, d]] S = .ok (.int 4) S := by simp [opBlt, itemsOf]
/-- what has the form but for its numbers -/
theorem form_nums (hT : Fns T) {ps : List Int} {a b : D} {x : Str} (hx : keysL.contains x = true) (ha : (∃ i, a = .int i) ∨ ∃ q, a = .bl q) (hb : (∃ i, b = .int i) ∨ ∃ q, b = .bl q) (hl : ps.length ≤ 100) (S : Store) :
    callN T (n + 3) 76 [.tup [tupI ps, a, .str x, b]] S = .ok (.bl ((ps.map D.int ++ [a, b]).all bw)) S := by
  obtain ⟨i0, i1, i2, i3⟩ := ix4 (tupI ps) a (.str x) b S
  have l4 := len4 (tupI ps) a (.str x) b S
  have it : itemsOf S (tupI ps) = some (ps.map D.int) := items_tupI ps
  have zl : (ps.map D.int ++ [a, b]).length ≤ sizeLine := le_sz (by simp; omega)
  have hev : evI (callN T (n + 2)) [some (.tup [tupI ps, a, .str x, b]), none] (.any (.lst (.star (.ix (.slot 0) (.cst (.int 0))) (.cons (.ix (.slot 0) (.cst (.int 1))) (.cons (.ix (.slot 0) (.cst (.int 3))) .nil))))) S = .ok (.ls S.length) (S ++ [.lst (ps.map D.int ++ [a, b])]) := by
    simp only [i_any, e_lst, es_star, es_cons, es_nil, e_ix, e_slot, e_cst, List.getElem?_cons_zero, R.bind_ok, i0, it, i1, i3, zl, if_true, newL_eq, get_end]
  have lc : evE (callN T (n + 2)) [some (.tup [tupI ps, a, .str x, b]), none] (.lc (.call 3 (.cons (.slot 1) (.cons (.cst (.int 0)) (.cons (.cst (.int 100000)) .nil)))) (.nm 1) (.any (.lst (.star (.ix (.slot 0) (.cst (.int 0))) (.cons (.ix (.slot 0) (.cst (.int 1))) (.cons (.ix (.slot 0) (.cst (.int 3))) .nil))))) .no [1]) S = .ok (.ref (S.length + 1)) (S ++ [.lst (ps.map D.int ++ [a, b]), .lst ((ps.map D.int ++ [a, b]).map fun d => .bl (bw d))]) := by
    refine (lc_m_ls id (fun d => .bl (bw d)) (ps.map D.int ++ [a, b]) hev (by simp) zl fun y hy => ⟨_, g_nm _ _, ?_⟩).trans (by simp)
    have hyd : (∃ i, y = .int i) ∨ ∃ q, y = .bl q := by
      rcases List.mem_append.1 hy with hy | hy
      · obtain ⟨i, _, rfl⟩ := List.mem_map.1 hy
        exact .inl ⟨i, rfl⟩
      · simp only [List.mem_cons, List.not_mem_nil, or_false] at hy
        rcases hy with rfl | rfl
        · exact ha
        · exact hb
    have bo := between_ok (n := n) hT hyd (S ++ [.lst (ps.map D.int ++ [a, b])])
    simp only [wipeE, List.set_cons_succ, List.set_cons_zero, id, e_call, es_cons, es_nil, e_slot, e_cst, List.getElem?_cons_succ, List.getElem?_cons_zero, R.bind_ok, bo]
  have bl : bls? ((ps.map D.int ++ [a, b]).map fun d => .bl (bw d)) = some ((ps.map D.int ++ [a, b]).map bw) := by
    have := bls_bls ((ps.map D.int ++ [a, b]).map bw)
    rw [List.map_map] at this
    exact this
  have al : ((ps.map D.int ++ [a, b]).map bw).all id = (ps.map D.int ++ [a, b]).all bw := by rw [List.all_map]; rfl
  have gl : (S ++ [Cell.lst (ps.map D.int ++ [a, b]), .lst ((ps.map D.int ++ [a, b]).map fun d => .bl (bw d))])[S.length + 1]? = some (.lst ((ps.map D.int ++ [a, b]).map fun d => .bl (bw d))) := by simp
  apply call_pure hT.h76 rfl (by rfl) (G := [Cell.lst (ps.map D.int ++ [a, b]), .lst ((ps.map D.int ++ [a, b]).map fun d => .bl (bw d))])
  show exTs (callN T (n + 2)) d_is_step_form.body [some (.tup [tupI ps, a, .str x, b]), none] S = _
  rw [form_body]
  generalize ps.map D.int ++ [a, b] = L at *
  simp only [xs_cons, xs_nil, x_iff, t_or, t_not, t_isi, t_cmp, e_slot, List.getElem?_cons_zero, R.bind_ok, ty_tup, R.map_ok, Bool.not_true, Bool.false_eq_true, if_false, e_blt .len, es_cons, es_nil, l4, c_ne, opEq_int, decide_true, e_ix, e_cst, i0, ty_tupI, R.out_ok, Out.thn_nx, i2, ty_str, evT_gin, hx, bne_self_eq_false, x_ret, e_blt .all, lc, f_allr, items_ref, gl, bl, al, Out.thn_rt]
theorem form_ok (hT : Fns T) (d : Deed) {i k : Nat} {ps : List Nat} (hi : i ≤ 100000) (hk : k ≤ 100000) (hl : ps.length ≤ 100) (hp : ∀ p ∈ ps, p ≤ 100000) (S : Store) : callN T (n + 3) 76 [stepD d i k ps] S = .ok (.bl true) S := by
  have hx : keysL.contains d.nm = true := by cases d <;> kernel_rfl
  have := form_nums (n := n) hT (ps := natI ps) (a := .int (i : Int)) (b := .int (k : Int)) hx (.inl ⟨_, rfl⟩) (.inl ⟨_, rfl⟩) (by simpa [natI] using hl) S
  have al : ((natI ps).map D.int ++ [D.int (i : Int), D.int (k : Int)]).all bw = true := by
    rw [List.all_eq_true]
    intro y hy
    rcases List.mem_append.1 hy with hy | hy
    · obtain ⟨z, hz, rfl⟩ := List.mem_map.1 hy
      obtain ⟨p, hp', rfl⟩ := List.mem_map.1 hz
      have := hp p hp'
      unfold bw
      rw [Bool.and_eq_true, decide_eq_true_eq, decide_eq_true_eq]
      omega
    · simp only [List.mem_cons, List.not_mem_nil, or_false] at hy
      rcases hy with rfl | rfl <;> (unfold bw; rw [Bool.and_eq_true, decide_eq_true_eq, decide_eq_true_eq]; omega)
  rw [al] at this
  exact this
/-- things that are no step -/
inductive NoSt (S : Store) : D → Prop
  | non : NoSt S .non
  | nil : NoSt S (tupI [])
  | three : NoSt S (.tup [tupI [], .int 0, .str ("turn" : Str)])
  | lst {n : Nat} {ds : List D} : S[n]? = some (.lst ds) → NoSt S (.ref n)
  | flag : NoSt S (.tup [tupI [], .int 0, .str ("turn" : Str), .bl true])
  | name : NoSt S (.tup [tupI [0], .int 0, .str ("Turn" : Str), .int 1])
  | path : NoSt S (.tup [.str ("" : Str), .int 0, .str ("fold" : Str), .int 2])
theorem form_no (hT : Fns T) {d : D} {S : Store} (h : NoSt S d) : callN T (n + 3) 76 [d] S = .ok (.bl false) S := by
  have z0 : ¬ ((([] : List Int).length : Nat) : Int) = 4 := by decide
  cases h with
  | flag => exact form_nums (n := n) hT (ps := []) (a := .int 0) (b := .bl true) (by kernel_rfl) (.inl ⟨_, rfl⟩) (.inr ⟨_, rfl⟩) (by simp) S
  | @lst m ds q =>
    apply call_pure0 hT.h76 rfl
    show exTs (callN T (n + 2)) d_is_step_form.body [some (.ref m), none] S = _
    have ty : isTy (.ref m) .tuple S = some false := by simp only [isTy, q]
    rw [form_body]
    simp only [xs_cons, x_iff, t_or, t_not, t_isi, e_slot, List.getElem?_cons_zero, R.bind_ok, ty, R.map_ok, Bool.not_false, if_true, R.out_ok, x_ret, e_cst, Out.thn_rt]
  | non =>
    apply call_pure0 hT.h76 rfl
    show exTs (callN T (n + 2)) d_is_step_form.body [some .non, none] S = _
    rw [form_body]
    simp only [xs_cons, x_iff, t_or, t_not, t_isi, e_slot, List.getElem?_cons_zero, R.bind_ok, ty_non, R.map_ok, Bool.not_false, if_true, R.out_ok, x_ret, e_cst, Out.thn_rt]
  | nil =>
    apply call_pure0 hT.h76 rfl
    show exTs (callN T (n + 2)) d_is_step_form.body [some (tupI []), none] S = _
    rw [form_body]
    simp only [xs_cons, x_iff, t_or, t_not, t_isi, t_cmp, e_slot, List.getElem?_cons_zero, R.bind_ok, ty_tupI, R.map_ok, Bool.not_true, Bool.false_eq_true, if_false, e_blt, es_cons, es_nil, len_tupI, e_cst, c_ne, opEq_int, z0, decide_false, Bool.not_false, if_true, R.out_ok, x_ret, Out.thn_rt]
  | three =>
    apply call_pure0 hT.h76 rfl
    show exTs (callN T (n + 2)) d_is_step_form.body [some (.tup [tupI [], .int 0, .str ("turn" : Str)]), none] S = _
    have l3 : opBlt .len [.tup [tupI [], .int 0, .str ("turn" : Str)]] S = .ok (.int 3) S := by simp [opBlt, itemsOf]
    have z3 : ¬ (3 : Int) = 4 := by decide
    rw [form_body]
    simp only [xs_cons, x_iff, t_or, t_not, t_isi, t_cmp, e_slot, List.getElem?_cons_zero, R.bind_ok, ty_tup, R.map_ok, Bool.not_true, Bool.false_eq_true, if_false, e_blt, es_cons, es_nil, l3, e_cst, c_ne, opEq_int, z3, decide_false, Bool.not_false, if_true, R.out_ok, x_ret, Out.thn_rt]
  | name =>
    apply call_pure0 hT.h76 rfl
    obtain ⟨i0, i1, i2, i3⟩ := ix4 (tupI [0]) (.int 0) (.str ("Turn" : Str)) (.int 1) S
    have l4 := len4 (tupI [0]) (.int 0) (.str ("Turn" : Str)) (.int 1) S
    have hx : keysL.contains ("Turn" : Str) = false := by kernel_rfl
    show exTs (callN T (n + 2)) d_is_step_form.body [some (.tup [tupI [0], .int 0, .str ("Turn" : Str), .int 1]), none] S = _
    rw [form_body]
    simp only [xs_cons, xs_nil, x_iff, t_or, t_not, t_isi, t_cmp, e_slot, List.getElem?_cons_zero, R.bind_ok, ty_tup, R.map_ok, Bool.not_true, Bool.false_eq_true, if_false, e_blt, es_cons, es_nil, l4, e_cst, c_ne, opEq_int, decide_true, e_ix, i0, ty_tupI, R.out_ok, Out.thn_nx, i2, ty_str, evT_gin, hx, show (true != false) = true from rfl, if_true, x_ret, Out.thn_rt]
  | path =>
    apply call_pure0 hT.h76 rfl
    obtain ⟨i0, i1, i2, i3⟩ := ix4 (.str ("" : Str)) (.int 0) (.str ("fold" : Str)) (.int 2) S
    have l4 := len4 (.str ("" : Str)) (.int 0) (.str ("fold" : Str)) (.int 2) S
    show exTs (callN T (n + 2)) d_is_step_form.body [some (.tup [.str ("" : Str), .int 0, .str ("fold" : Str), .int 2]), none] S = _
    rw [form_body]
    simp only [xs_cons, xs_nil, x_iff, t_or, t_not, t_isi, t_cmp, e_slot, List.getElem?_cons_zero, R.bind_ok, ty_tup, R.map_ok, Bool.not_true, Bool.false_eq_true, if_false, e_blt, es_cons, es_nil, l4, e_cst, c_ne, opEq_int, decide_true, e_ix, i0, ty_str, Bool.not_false, if_true, R.out_ok, x_ret, Out.thn_rt]
/-- a step that is within the bounds -/
structure Bd (i k : Nat) (ps : List Nat) : Prop where
  hi : i ≤ 1000
  hk : k ≤ 5
  hl : ps.length ≤ 10
  hp : ∀ p ∈ ps, p ≤ 1000
theorem behind_ok (hT : Fns T) (d : Deed) {i k : Nat} {ps : List Nat} (b : Bd i k ps) {r : Rw} (h : Short r) (hf : ∀ r', stepR d i k ps r = some r' → Fit r') (S : Store) : callN T (n + 13) 78 [rowD r, stepD d i k ps] S = .ok (optR (stepR d i k ps r)) S := by
  have fo := form_ok (n := n + 9) (i := i) (k := k) (ps := ps) hT d (by have := b.hi; omega) (by have := b.hk; omega) (by have := b.hl; omega) (fun p hp => by have := b.hp p hp; omega) S
  have sr := stepped_row_le (n := n) hT d (i := i) (k := k) (by have := b.hk; omega) b.hl h S
  have z3 : 0 + 1 + 1 + 1 ≤ sizeLine := le_sz (by omega)
  apply call_pure0 hT.h78 rfl
  show exTs (callN T (n + 12)) d_behind_step.body [some (rowD r), some (stepD d i k ps), none, none, none, none, none] S = _
  unfold restD at sr
  unfold stepD at fo
  cases e : stepR d i k ps r with
  | none =>
    rw [e] at sr
    simp only [optR] at sr
    simp only [d_behind_step, xs_cons, xs_nil, x_iff, t_not, t_call, es_cons, es_nil, e_slot, List.getElem?_cons_succ, List.getElem?_cons_zero, R.bind_ok, fo, tru_b, R.map_ok, Bool.not_true, R.out_ok, Bool.false_eq_true, if_false, Out.thn_nx, x_asg, stepD, g_tp, items_tup, gs_cons, gs_nil, g_nm, List.set_cons_succ, List.set_cons_zero, e_call, e_tup, List.length_cons, List.length_nil, z3, if_true, sr, x_ret, e_ife, t_and, t_cmp, e_cst, c_isn, is_nn, Out.thn_rt, optR]
  | some r' =>
    rw [e] at sr
    simp only [optR] at sr
    have isn : opIs (rowD r') .non S = .ok false S := rfl
    have lf := long_fit (n := n + 3) hT (hf r' e) S
    simp only [d_behind_step, xs_cons, xs_nil, x_iff, t_not, t_call, es_cons, es_nil, e_slot, List.getElem?_cons_succ, List.getElem?_cons_zero, R.bind_ok, fo, tru_b, R.map_ok, Bool.not_true, R.out_ok, Bool.false_eq_true, if_false, Out.thn_nx, x_asg, stepD, g_tp, items_tup, gs_cons, gs_nil, g_nm, List.set_cons_succ, List.set_cons_zero, e_call, e_tup, List.length_cons, List.length_nil, z3, if_true, sr, x_ret, e_ife, t_and, t_cmp, e_cst, c_isn, isn, Bool.not_false, lf, Out.thn_rt, optR]
theorem behind_no (hT : Fns T) {r : Rw} {d : D} {S : Store} (h : NoSt S d) : callN T (n + 13) 78 [rowD r, d] S = .ok .non S := by
  have fo := form_no (n := n + 9) hT h
  apply call_pure0 hT.h78 rfl
  show exTs (callN T (n + 12)) d_behind_step.body [some (rowD r), some d, none, none, none, none, none] S = _
  simp only [d_behind_step, xs_cons, xs_nil, x_iff, t_not, t_call, es_cons, es_nil, e_slot, List.getElem?_cons_succ, List.getElem?_cons_zero, R.bind_ok, fo, tru_b, R.map_ok, Bool.not_false, R.out_ok, if_true, x_ret, e_cst, Out.thn_rt]
theorem NoSt.app {S : Store} {d : D} (h : NoSt S d) (G : Store) : NoSt (S ++ G) d := by
  cases h with
  | lst q => exact .lst (by rw [List.getElem?_append_left (List.getElem?_eq_some_iff.mp q).1]; exact q)
  | non => exact .non
  | nil => exact .nil
  | three => exact .three
  | flag => exact .flag
  | name => exact .name
  | path => exact .path
/-- what a step leads to -/
theorem stepped_ok (hT : Fns T) {r : Rw} (h : Fit r) {d : D} {S : Store} {o : Option Rw} (hb : callN T (n + 13) 78 [rowD r, d] (S ++ [.lst [rowD r]]) = .ok (optR o) (S ++ [.lst [rowD r]])) :
    callN T (n + 14) 109 [rowD r, d] S = match o with
      | some r' => .ok (rowD r') S
      | none => .exc ⟨8, []⟩ (S ++ [.lst [rowD r]]) := by
  have z1 : 0 + 1 ≤ sizeLine := le_sz (by omega)
  have nd := need_fit (n := n + 3) hT h (c := S.length) (S := S ++ [.lst [rowD r]]) (by simp)
  cases o with
  | some r' =>
    simp only [optR] at hb
    refine call_pure hT.h109 rfl (row_lt _ _) (G := [.lst [rowD r]]) ?_
    show exTs (callN T (n + 13)) d_stepped.body [some (rowD r), some d, none] S = _
    have isn : ∀ S, opIs (rowD r') .non S = .ok false S := fun _ => rfl
    simp only [d_stepped, xs_cons, xs_nil, x_exp, e_call, es_cons, es_nil, e_lst, e_slot, List.getElem?_cons_succ, List.getElem?_cons_zero, R.bind_ok, List.length_cons, List.length_nil, z1, if_true, newL_eq, nd, R.out_ok, Out.thn_nx, x_asg, hb, g_nm, List.set_cons_succ, List.set_cons_zero, x_iff, t_cmp, e_cst, c_is, isn, Bool.false_eq_true, if_false, x_ret, Out.thn_rt]
  | none =>
    simp only [optR] at hb
    refine call_ex (env := [some (rowD r), some d, some .non]) hT.h109 rfl ?_
    show exTs (callN T (n + 13)) d_stepped.body [some (rowD r), some d, none] S = _
    simp only [d_stepped, xs_cons, xs_nil, x_exp, e_call, es_cons, es_nil, e_lst, e_slot, List.getElem?_cons_succ, List.getElem?_cons_zero, R.bind_ok, List.length_cons, List.length_nil, z1, if_true, newL_eq, nd, R.out_ok, Out.thn_nx, x_asg, hb, g_nm, List.set_cons_succ, List.set_cons_zero, x_iff, t_cmp, e_cst, c_is, is_nn, x_rai, Out.thn_ex]
theorem undone_step_ok (hT : Fns T) (d : Deed) (i k : Nat) (ps : List Nat) (S : Store) : callN T (n + 1) 79 [stepD d i k ps] S = .ok (stepD d.inv i k ps) S := by
  have hk : ∀ d : Deed, List.lookup d.nm [(("turn" : PySem.Str), D.str ("back" : PySem.Str)), (("back" : PySem.Str), .str ("turn" : PySem.Str)), (("fold" : PySem.Str), .str ("times" : PySem.Str)), (("times" : PySem.Str), .str ("fold" : PySem.Str))] = some (.str d.inv.nm) := fun d => by cases d <;> kernel_rfl
  have z4 : 0 + 1 + 1 + 1 + 1 ≤ sizeLine := le_sz (by omega)
  apply call_pure0 hT.h79 rfl
  show exTs (callN T n) d_undone_step.body [some (stepD d i k ps), none, none, none, none] S = _
  simp only [d_undone_step, xs_cons, x_asg, stepD, e_slot, List.getElem?_cons_succ, List.getElem?_cons_zero, R.out_ok, g_tp, items_tup, gs_cons, gs_nil, g_nm, List.set_cons_succ, List.set_cons_zero, Out.thn_nx, x_ret, e_tup, es_cons, es_nil, R.bind_ok, evE_gix, hk, List.length_cons, List.length_nil, z4, if_true, Out.thn_rt]
theorem stepD_lt (m : Nat) (d : Deed) (i k : Nat) (ps : List Nat) : D.lt m (stepD d i k ps) = true := by simp [stepD, D.lt, D.lts]
theorem undone_ok (hT : Fns T) {r r' : Rw} (h : Fit r) {d : Deed} {i k : Nat} {ps : List Nat} {S : Store} (hb : callN T (n + 13) 78 [rowD r, stepD d i k ps] (S ++ [.lst [rowD r]]) = .ok (rowD r') (S ++ [.lst [rowD r]])) :
    callN T (n + 14) 110 [rowD r, stepD d i k ps] S = .ok (stepD d.inv i k ps) S := by
  have z1 : 0 + 1 ≤ sizeLine := le_sz (by omega)
  have nd := need_fit (n := n + 3) hT h (c := S.length) (S := S ++ [.lst [rowD r]]) (by simp)
  have us := undone_step_ok (n := n + 12) hT d i k ps (S ++ [.lst [rowD r]])
  refine call_pure hT.h110 rfl (stepD_lt _ _ _ _ _) (G := [.lst [rowD r]]) ?_
  show exTs (callN T (n + 13)) d_undone.body [some (rowD r), some (stepD d i k ps)] S = _
  have isn : ∀ S, opIs (rowD r') .non S = .ok false S := fun _ => rfl
  simp only [d_undone, xs_cons, xs_nil, x_exp, e_call, es_cons, es_nil, e_lst, e_slot, List.getElem?_cons_succ, List.getElem?_cons_zero, R.bind_ok, List.length_cons, List.length_nil, z1, if_true, newL_eq, nd, R.out_ok, Out.thn_nx, hb, x_iff, t_cmp, e_cst, c_is, isn, Bool.false_eq_true, if_false, x_ret, us, Out.thn_rt]
theorem undone_no (hT : Fns T) {r : Rw} (h : Fit r) {d : D} {S : Store} (hb : callN T (n + 13) 78 [rowD r, d] (S ++ [.lst [rowD r]]) = .ok .non (S ++ [.lst [rowD r]])) :
    callN T (n + 14) 110 [rowD r, d] S = .exc ⟨8, []⟩ (S ++ [.lst [rowD r]]) := by
  have z1 : 0 + 1 ≤ sizeLine := le_sz (by omega)
  have nd := need_fit (n := n + 3) hT h (c := S.length) (S := S ++ [.lst [rowD r]]) (by simp)
  refine call_ex (env := [some (rowD r), some d]) hT.h110 rfl ?_
  show exTs (callN T (n + 13)) d_undone.body [some (rowD r), some d] S = _
  simp only [d_undone, xs_cons, xs_nil, x_exp, e_call, es_cons, es_nil, e_lst, e_slot, List.getElem?_cons_succ, List.getElem?_cons_zero, R.bind_ok, List.length_cons, List.length_nil, z1, if_true, newL_eq, nd, R.out_ok, Out.thn_nx, hb, x_iff, t_cmp, e_cst, c_is, is_nn, x_rai, Out.thn_ex]
/-! ### outcomes -/
def fsO : List (Str × Nat) := match d__law_outcome.body with
  | .cons (.try_ (.cons (.ret (.callv _ fs _)) _) _) _ => fs
  | _ => []
theorem out_body : d__law_outcome.body = .cons (.try_ (.cons (.ret (.callv 0 fsO (.cons (.slot 1) (.cons (.slot 2) .nil)))) .nil) (.cons [8] none (.cons (.ret (.cst .non)) .nil) .nil)) .nil := rfl
theorem fsO_s : fsO.lookup ("stepped" : Str) = some 109 := by kernel_rfl
theorem fsO_u : fsO.lookup ("undone" : Str) = some 110 := by kernel_rfl
theorem out_ok (hT : Fns T) {x : Str} {f : Nat} (hf : fsO.lookup x = some f) {a b v : D} {S : Store} (h : callN T (n + 14) f [a, b] S = .ok v S) : callN T (n + 15) 108 [.fnv x, a, b] S = .ok v S := by
  apply call_pure0 hT.h108 rfl
  show exTs (callN T (n + 14)) d__law_outcome.body [some (.fnv x), some a, some b] S = _
  have hb : exTs (callN T (n + 14)) (.cons (.ret (.callv 0 fsO (.cons (.slot 1) (.cons (.slot 2) .nil)))) .nil) [some (.fnv x), some a, some b] S = .rt v S := by
    simp only [xs_cons, x_ret, evE_callv, es_cons, es_nil, e_slot, List.getElem?_cons_succ, List.getElem?_cons_zero, hf, R.bind_ok, h, R.out_ok, Out.thn_rt]
  rw [out_body, xs_cons, x_try, hb]
  simp only [Out.thn_rt]
theorem out_no (hT : Fns T) {x : Str} {f : Nat} (hf : fsO.lookup x = some f) {a b : D} {S G : Store} (h : callN T (n + 14) f [a, b] S = .exc ⟨8, []⟩ (S ++ G)) : callN T (n + 15) 108 [.fnv x, a, b] S = .ok .non S := by
  refine call_pure hT.h108 rfl rfl (G := G) ?_
  show exTs (callN T (n + 14)) d__law_outcome.body [some (.fnv x), some a, some b] S = _
  have hb : exTs (callN T (n + 14)) (.cons (.ret (.callv 0 fsO (.cons (.slot 1) (.cons (.slot 2) .nil)))) .nil) [some (.fnv x), some a, some b] S = .ex ⟨8, []⟩ [some (.fnv x), some a, some b] (S ++ G) := by
    simp only [xs_cons, x_ret, evE_callv, es_cons, es_nil, e_slot, List.getElem?_cons_succ, List.getElem?_cons_zero, hf, R.bind_ok, h, R.out_exc, Out.thn_ex]
  rw [out_body, xs_cons, x_tryX hb rfl]
  simp only [wipeO, xs_cons, x_ret, e_cst, R.out_ok, Out.thn_rt, Out.aftX]
end
/-! ### the law's own steps -/
def getR : Rw → List Nat → Option Rw
  | r, [] => some r
  | r, p :: ps => (evAt r p).bind fun q => getR q ps
def putR : List Nat → Rw → Rw → Rw
  | [], _, x => x
  | p :: ps, r, x => match evAt r p with
    | some q => r.take p ++ [.ev (putR ps q x)] ++ r.drop (p + 1)
    | none => r
theorem getR_snoc : ∀ (ps : List Nat) (r : Rw) (p : Nat), getR r (ps ++ [p]) = (getR r ps).bind fun q => evAt q p
  | [], r, p => by
    simp only [List.nil_append, getR, Option.bind_some]
    cases evAt r p <;> rfl
  | a :: ps, r, p => by
    simp only [List.cons_append, getR]
    cases evAt r a with
    | none => rfl
    | some q => simp only [Option.bind_some, getR_snoc ps q p]
theorem step_get (d : Deed) (i k : Nat) : ∀ (ps : List Nat) (r : Rw), stepR d i k ps r = (getR r ps).bind fun q => (deedR d q i k).map fun x => putR ps r x
  | [], r => by
    simp only [stepR, getR, Option.bind_some, putR]
    cases deedR d r i k <;> rfl
  | p :: ps, r => by
    unfold stepR getR putR
    cases e : evAt r p with
    | none => rfl
    | some q =>
      simp only [Option.bind_some, step_get d i k ps q]
      cases getR q ps with
      | none => rfl
      | some q2 =>
        simp only [Option.bind_some]
        cases deedR d q2 i k <;> rfl
theorem evAt_get {r q : Rw} {p : Nat} (h : evAt r p = some q) : r[p]? = some (.ev q) := by
  unfold evAt at h
  split at h
  next e => cases h; exact e
  · cases h
theorem get_short {r q : Rw} : ∀ {ps : List Nat}, Short r → getR r ps = some q → Short q
  | [], h, e => by cases e; exact h
  | p :: ps, h, e => by
    simp only [getR, Option.bind_eq_some_iff] at e
    obtain ⟨a, e1, e2⟩ := e
    exact get_short (h.ev (evAt_get e1)).1 e2
section
variable {T : Tab} {n : Nat}
theorem law_get_ok (hT : Fns T) {r q : Rw} {ps : List Nat} (hl : ps.length ≤ 1000) (e : getR r ps = some q) (S : Store) : callN T (n + 1) 60 [rowD r, tupI (natI ps)] S = .ok (rowD q) S := by
  have key : (exTs (callN T n) d__law_get.body [some (rowD r), some (tupI (natI ps)), none] S).sat (fun _ _ => False) (fun v S' => v = rowD q ∧ S' = S) := by
    rw [d__law_get]
    simp only []
    rw [xs_cons]
    refine sat_thn (N := fun env S' => S' = S ∧ ∃ a, env = [some (rowD q), some (tupI (natI ps)), a]) ?_ ?_
    · refine for_pre (fun (k : Nat) => D.int (k : Int)) ps (S' := S) (by rw [i_any, e_slot]; simp [tupI, natI, List.map_map]) (le_sz (by omega)) (fun pre env S' => S' = S ∧ ∃ cur a, getR r pre = some cur ∧ env = [some (rowD cur), some (tupI (natI ps)), a]) ⟨rfl, r, none, rfl, rfl⟩ ?_ ?_
      · rintro pre x post env S' hr ⟨rfl, cur, a, hc, rfl⟩
        refine ⟨_, g_nm _ _, ?_⟩
        obtain ⟨nx, h1⟩ : ∃ nx, evAt cur x = some nx := by
          have : getR r (pre ++ [x]) = (getR r pre).bind fun q => evAt q x := getR_snoc pre r x
          have h2 : ∀ (a b : List Nat) (r q : Rw), getR r (a ++ b) = some q → ∃ m, getR r a = some m := by
            intro a
            induction a with
            | nil => intro b r q _; exact ⟨r, rfl⟩
            | cons y a ih =>
              intro b r q h
              simp only [List.cons_append, getR, Option.bind_eq_some_iff] at h
              obtain ⟨m, h3, h4⟩ := h
              obtain ⟨m2, h5⟩ := ih b m q h4
              exact ⟨m2, by simp only [getR, h3, Option.bind_some, h5]⟩
          rw [hr, show pre ++ x :: post = (pre ++ [x]) ++ post by simp] at e
          obtain ⟨m, hm⟩ := h2 _ _ _ _ e
          rw [this, hc, Option.bind_some] at hm
          exact ⟨m, hm⟩
        have ix := ixR (evAt_get h1) S'
        rw [It.d_ev] at ix
        refine satB_nx (e := [some (rowD nx), some (tupI (natI ps)), some (.int (x : Int))]) (S := S') ?_ ⟨rfl, nx, _, by rw [getR_snoc, hc]; exact h1, rfl⟩
        simp only [List.set_cons_succ, List.set_cons_zero, xs_cons, xs_nil, x_asg, e_ix, e_slot, List.getElem?_cons_succ, List.getElem?_cons_zero, R.bind_ok, ix, R.out_ok, g_nm, Out.thn_nx]
      · rintro env S' ⟨rfl, cur, a, hc, rfl⟩
        rw [e] at hc
        cases hc
        exact ⟨rfl, a, rfl⟩
    · rintro env S' ⟨rfl, a, rfl⟩
      exact sat_rtI (d := rowD q) (S := S') (by simp only [xs_cons, x_ret, e_slot, List.getElem?_cons_zero, R.out_ok, Out.thn_rt]) ⟨rfl, rfl⟩
  obtain ⟨v, S', e1, rfl, rfl⟩ := sat_rt key
  exact call_pure0 hT.h60 rfl e1
theorem law_put_ok (hT : Fns T) {x : Rw} (hx : x.length ≤ 100000) : ∀ (ps : List Nat) (r q : Rw) (S : Store), Short r → getR r ps = some q → callN T (n + ps.length + 1) 57 [rowD r, tupI (natI ps), rowD x] S = .ok (rowD (putR ps r x)) S
  | [], r, q, S, h, e => by
    apply call_pure0 hT.h57 rfl
    show exTs (callN T n) d__law_put.body [some (rowD r), some (tupI []), some (rowD x)] S = _
    have z : (([] : List Int).length : Int) = 0 := rfl
    simp only [d__law_put, xs_cons, x_iff, t_cmp, e_blt, es_cons, es_nil, e_slot, List.getElem?_cons_succ, List.getElem?_cons_zero, R.bind_ok, len_tupI, e_cst, c_eq, opEq_int, z, decide_true, R.out_ok, if_true, x_ret, Out.thn_rt, putR]
  | p :: ps, r, q, S, h, e => by
    simp only [getR, Option.bind_eq_some_iff] at e
    obtain ⟨a, e1, e2⟩ := e
    have hq := evAt_get e1
    have ih := law_put_ok hT hx ps a q S (h.ev hq).1 e2
    have lr := h.len
    have z1 : 0 + 1 ≤ sizeLine := le_sz (by omega)
    have ix := ixR hq S
    rw [It.d_ev] at ix
    have z : ¬ ((natI (p :: ps)).length : Int) = 0 := by simp [natI]; omega
    have p0 : opIx (tupI (natI (p :: ps))) (.int 0) S = .ok (.int (p : Int)) S := ix_tupI (k := 0) rfl rfl
    have pt : opSl (tupI (natI (p :: ps))) (some 1) none S = .ok (tupI (natI ps)) S := by
      rw [sl_tupI, show (some (1 : Int)) = some ((1 : Nat) : Int) from rfl, cut_lo]
      rfl
    have ci : (p : Int) + 1 = ((p + 1 : Nat) : Int) := by omega
    have a3 := opAdd_row (r := r.take p) (q := [.ev (putR ps a x)]) (S := S) (by simp; omega)
    have a4 := opAdd_row (r := r.take p ++ [.ev (putR ps a x)]) (q := r.drop (p + 1)) (S := S) (by simp; omega)
    have pe : putR (p :: ps) r x = r.take p ++ [.ev (putR ps a x)] ++ r.drop (p + 1) := by
      conv => lhs; unfold putR
      rw [e1]
    apply call_pure0 hT.h57 rfl
    show exTs (callN T (n + ps.length + 1)) d__law_put.body [some (rowD r), some (tupI (natI (p :: ps))), some (rowD x)] S = _
    rw [pe]
    simp only [d__law_put, xs_cons, xs_nil, x_iff, t_cmp, e_blt, es_cons, es_nil, e_slot, List.getElem?_cons_succ, List.getElem?_cons_zero, R.bind_ok, len_tupI, e_cst, c_eq, opEq_int, z, decide_false, R.out_ok, Bool.false_eq_true, if_false, Out.thn_nx, x_ret, e_bin, e_slc, o_no, o_so, e_ix, p0, slR_hi, slR_lo, ix, pt, e_call, ih, e_tup, List.length_cons, List.length_nil, z1, if_true, one_ev, a3, b_add, ci, a4, Out.thn_rt]
theorem nm_eq (d e : Deed) (S : Store) : opEq (.str d.nm) (.str e.nm) S = .ok (decide (d = e)) S := by
  have ok : ∀ d : Deed, PyData.strOk d.nm = true := fun d => by cases d <;> kernel_rfl
  rw [opEq_str _ _ _ (ok d) (ok e)]
  congr 1
  cases d <;> cases e <;> kernel_rfl
theorem Fit.ev {r q : Rw} {i : Nat} (h : Fit r) (e : r[i]? = some (.ev q)) : Fit q ∧ q ≠ [] := by
  have hm := List.mem_of_getElem? e
  have o := ok_mem h.ok hm
  have d := dep_mem hm
  have c := cnt_mem hm
  simp only [ok_ev, dep_ev, cnt_ev] at o d c
  have := h.dep
  have := h.cnt
  exact ⟨⟨o.2, by omega, by omega⟩, o.1⟩
theorem law_deed_ok (hT : Fns T) {r : Rw} (h : Fit r) (d : Deed) {i k : Nat} (hk : k ≤ 5) (S : Store) : callN T (n + 8) 80 [rowD r, .int (i : Int), .str d.nm, .int (k : Int)] S = .ok (optR (deedR d r i k)) S := by
  apply call_pure0 hT.h80 rfl
  show exTs (callN T (n + 7)) d__law_deed.body [some (rowD r), some (.int (i : Int)), some (.str d.nm), some (.int (k : Int)), none, none, none, none] S = _
  have z1 : 0 + 1 ≤ sizeLine := le_sz (by omega)
  have hsh := h.short
  have lr := hsh.len
  have le := lenR_ok r S
  have e1 : opEq (.str d.nm) (.str ("back" : Str)) S = .ok (decide (d = .back)) S := nm_eq d .back S
  have e2 : opEq (.str d.nm) (.str ("turn" : Str)) S = .ok (decide (d = .turn)) S := nm_eq d .turn S
  have e3 : opEq (.str d.nm) (.str ("times" : Str)) S = .ok (decide (d = .times)) S := nm_eq d .times S
  by_cases hb : d = .back
  · subst hb
    have e1' : opEq (.str Deed.back.nm) (.str ("back" : Str)) S = .ok true S := by rw [e1]; rfl
    have ci : (i : Int) + (k : Int) = ((i + k : Nat) : Int) := by omega
    have de : deedR .back r i k = backR r i k := rfl
    rw [de]
    by_cases k1 : k < 1
    · have k1' : (k : Int) < 1 := by omega
      have e : backR r i k = none := by unfold backR; rw [if_pos k1]
      rw [e]
      simp only [d__law_deed, xs_cons, xs_nil, x_iff, t_cmp, t_or, e_slot, List.getElem?_cons_succ, List.getElem?_cons_zero, R.bind_ok, e_cst, c_eq, e1', R.out_ok, if_true, x_asg, e_bin, b_add, g_nm, List.set_cons_succ, List.set_cons_zero, Out.thn_nx, c_lt, k1', decide_true, x_ret, Out.thn_rt, optR]
    have k1' : ¬ (k : Int) < 1 := by omega
    by_cases hi : i + k < r.length
    · have hi' : ¬ (r.length : Int) ≤ ((i + k : Nat) : Int) := by omega
      have ix := ixR (List.getElem?_eq_getElem hi) S
      cases hx : r[i + k] with
      | sg s =>
        have e : backR r i k = none := by unfold backR; rw [if_neg k1, evAt_sg (List.getElem?_eq_getElem hi ▸ congrArg some hx)]
        rw [hx] at ix
        rw [e]
        simp only [d__law_deed, xs_cons, xs_nil, x_iff, t_cmp, t_or, t_isi, e_slot, List.getElem?_cons_succ, List.getElem?_cons_zero, R.bind_ok, e_cst, c_eq, e1', R.out_ok, if_true, x_asg, e_bin, b_add, ci, g_nm, List.set_cons_succ, List.set_cons_zero, Out.thn_nx, c_lt, k1', decide_false, Bool.false_eq_true, if_false, c_ge, e_blt, es_cons, es_nil, le, hi', e_ix, ix, tyx_sg, x_ret, Out.thn_rt, optR]
      | ev q =>
        have hq : r[i + k]? = some (.ev q) := List.getElem?_eq_getElem hi ▸ congrArg some hx
        obtain ⟨hs, hne⟩ := hsh.ev hq
        have lq := hs.len
        rw [hx, It.d_ev] at ix
        have leq := lenR_ok q S
        by_cases c1 : q.length < k
        · have c1' : (q.length : Int) < (k : Int) := by omega
          have e : backR r i k = none := by unfold backR; rw [if_neg k1, evAt_of hq]; simp only [c1, if_true]
          rw [e]
          simp only [d__law_deed, xs_cons, xs_nil, x_iff, t_cmp, t_or, t_isi, e_slot, List.getElem?_cons_succ, List.getElem?_cons_zero, R.bind_ok, e_cst, c_eq, e1', R.out_ok, if_true, x_asg, e_bin, b_add, ci, g_nm, List.set_cons_succ, List.set_cons_zero, Out.thn_nx, c_lt, k1', decide_false, Bool.false_eq_true, if_false, c_ge, e_blt, es_cons, es_nil, le, hi', e_ix, ix, tyR, leq, c1', decide_true, x_ret, Out.thn_rt, optR]
        · have c1' : ¬ (q.length : Int) < (k : Int) := by omega
          have cs : (q.length : Int) - (k : Int) = ((q.length - k : Nat) : Int) := by omega
          have md := slR_mid r i k (by omega) S
          have hm : Short ((r.drop i).take k) := (hsh.drop i).take k
          have eq := eqR (hs.drop (q.length - k)) hm.ok (by have := hm.dep; omega) S
          by_cases c3 : rowBeq (q.drop (q.length - k)) ((r.drop i).take k) = true
          · have e : backR r i k = some (r.take i ++ [.ev ((r.drop i).take k ++ q.take (q.length - k))] ++ r.drop (i + k + 1)) := by
              unfold backR; rw [if_neg k1, evAt_of hq]; simp only [c1, c3, if_true, if_false]
            have ci2 : ((i + k : Nat) : Int) + 1 = ((i + k + 1 : Nat) : Int) := by omega
            have a2 := opAdd_row (r := (r.drop i).take k) (q := q.take (q.length - k)) (S := S) (by simp; omega)
            have a3 := opAdd_row (r := r.take i) (q := [.ev ((r.drop i).take k ++ q.take (q.length - k))]) (S := S) (by simp; omega)
            have a4 := opAdd_row (r := r.take i ++ [.ev ((r.drop i).take k ++ q.take (q.length - k))]) (q := r.drop (i + k + 1)) (S := S) (by simp; omega)
            rw [c3] at eq
            rw [e]
            simp only [d__law_deed, xs_cons, xs_nil, x_iff, t_cmp, t_or, t_isi, e_slot, List.getElem?_cons_succ, List.getElem?_cons_zero, R.bind_ok, e_cst, c_eq, e1', R.out_ok, if_true, x_asg, e_bin, b_add, b_sub, ci, g_nm, List.set_cons_succ, List.set_cons_zero, Out.thn_nx, c_lt, k1', decide_false, Bool.false_eq_true, if_false, c_ge, e_blt, es_cons, es_nil, le, hi', e_ix, ix, tyR, leq, c1', cs, x_ret, e_ife, e_slc, o_no, o_so, slR_hi, slR_lo, md, eq, a2, e_tup, List.length_cons, List.length_nil, z1, one_ev, a3, ci2, a4, Out.thn_rt, optR]
          · have c3' : rowBeq (q.drop (q.length - k)) ((r.drop i).take k) = false := by simpa using c3
            have e : backR r i k = none := by unfold backR; rw [if_neg k1, evAt_of hq]; simp only [c1, c3, if_false, Bool.false_eq_true]
            rw [c3'] at eq
            rw [e]
            simp only [d__law_deed, xs_cons, xs_nil, x_iff, t_cmp, t_or, t_isi, e_slot, List.getElem?_cons_succ, List.getElem?_cons_zero, R.bind_ok, e_cst, c_eq, e1', R.out_ok, if_true, x_asg, e_bin, b_add, b_sub, ci, g_nm, List.set_cons_succ, List.set_cons_zero, Out.thn_nx, c_lt, k1', decide_false, Bool.false_eq_true, if_false, c_ge, e_blt, es_cons, es_nil, le, hi', e_ix, ix, tyR, leq, c1', cs, x_ret, e_ife, e_slc, o_no, o_so, slR_lo, md, eq, Out.thn_rt, optR]
    · have hi' : (r.length : Int) ≤ ((i + k : Nat) : Int) := by omega
      have e : backR r i k = none := by
        have : evAt r (i + k) = none := by unfold evAt; rw [List.getElem?_eq_none (by omega)]
        unfold backR; rw [if_neg k1, this]
      rw [e]
      simp only [d__law_deed, xs_cons, xs_nil, x_iff, t_cmp, t_or, e_slot, List.getElem?_cons_succ, List.getElem?_cons_zero, R.bind_ok, e_cst, c_eq, e1', R.out_ok, if_true, x_asg, e_bin, b_add, ci, g_nm, List.set_cons_succ, List.set_cons_zero, Out.thn_nx, c_lt, k1', decide_false, Bool.false_eq_true, if_false, c_ge, e_blt, es_cons, es_nil, le, hi', decide_true, x_ret, Out.thn_rt, optR]
  have e1' : opEq (.str d.nm) (.str ("back" : Str)) S = .ok false S := by rw [e1, decide_eq_false hb]
  by_cases hi : i < r.length
  · have hi' : ¬ (r.length : Int) ≤ (i : Int) := by omega
    have ix := ixR (List.getElem?_eq_getElem hi) S
    cases hx : r[i] with
    | sg s =>
      have en : evAt r i = none := evAt_sg (List.getElem?_eq_getElem hi ▸ congrArg some hx)
      have e : deedR d r i k = none := by
        cases d with
        | back => exact absurd rfl hb
        | turn => show turnR r i k = none; unfold turnR; rw [en]
        | fold => show foldR r i k = none; unfold foldR; rw [en]
        | times => show timesR r i k = none; unfold timesR; rw [en]
      rw [hx] at ix
      rw [e]
      simp only [d__law_deed, xs_cons, xs_nil, x_iff, t_cmp, t_or, t_isi, e_slot, List.getElem?_cons_succ, List.getElem?_cons_zero, R.bind_ok, e_cst, c_eq, e1', R.out_ok, Bool.false_eq_true, if_false, Out.thn_nx, c_ge, e_blt, es_cons, es_nil, le, hi', decide_false, e_ix, ix, tyx_sg, if_true, x_ret, Out.thn_rt, optR]
    | ev q =>
      have hq : r[i]? = some (.ev q) := List.getElem?_eq_getElem hi ▸ congrArg some hx
      obtain ⟨hf, hne⟩ := h.ev hq
      have hs := hf.short
      have lq := hs.len
      have lp : 0 < q.length := List.length_pos_iff.2 hne
      rw [hx, It.d_ev] at ix
      have leq := lenR_ok q S
      have ci : (i : Int) + 1 = ((i + 1 : Nat) : Int) := by omega
      by_cases ht : d = .turn
      · subst ht
        have e2' : opEq (.str Deed.turn.nm) (.str ("turn" : Str)) S = .ok true S := by rw [e2]; rfl
        have de : deedR .turn r i k = turnR r i k := rfl
        rw [de]
        by_cases c1 : k < 1
        · have c1' : (k : Int) < 1 := by omega
          have e : turnR r i k = none := by unfold turnR; rw [evAt_of hq]; simp only [show ¬ 1 ≤ k by omega, false_and, if_false]
          rw [e]
          simp only [d__law_deed, xs_cons, xs_nil, x_iff, t_cmp, t_or, t_isi, e_slot, List.getElem?_cons_succ, List.getElem?_cons_zero, R.bind_ok, e_cst, c_eq, e1', R.out_ok, Bool.false_eq_true, if_false, Out.thn_nx, c_ge, e_blt, es_cons, es_nil, le, hi', decide_false, e_ix, ix, tyR, x_asg, g_nm, List.set_cons_succ, List.set_cons_zero, e2', if_true, c_lt, c1', decide_true, x_ret, Out.thn_rt, optR]
        · have c1' : ¬ (k : Int) < 1 := by omega
          by_cases c2 : k ≤ q.length
          · have c2' : ¬ (q.length : Int) < (k : Int) := by omega
            have e : turnR r i k = some (r.take i ++ q.take k ++ [.ev (q.drop k ++ q.take k)] ++ r.drop (i + 1)) := by
              unfold turnR; rw [evAt_of hq]; simp only [show 1 ≤ k by omega, c2, and_self, if_true]
            have a1 := opAdd_row (r := r.take i) (q := q.take k) (S := S) (by simp; omega)
            have a2 := opAdd_row (r := q.drop k) (q := q.take k) (S := S) (by simp; omega)
            have a3 := opAdd_row (r := r.take i ++ q.take k) (q := [.ev (q.drop k ++ q.take k)]) (S := S) (by simp; omega)
            have a4 := opAdd_row (r := r.take i ++ q.take k ++ [.ev (q.drop k ++ q.take k)]) (q := r.drop (i + 1)) (S := S) (by simp; omega)
            rw [e]
            simp only [d__law_deed, xs_cons, xs_nil, x_iff, t_cmp, t_or, t_isi, e_slot, List.getElem?_cons_succ, List.getElem?_cons_zero, R.bind_ok, e_cst, c_eq, e1', R.out_ok, Bool.false_eq_true, if_false, Out.thn_nx, c_ge, e_blt, es_cons, es_nil, le, hi', decide_false, e_ix, ix, tyR, x_asg, g_nm, List.set_cons_succ, List.set_cons_zero, e2', if_true, c_lt, c1', c_gt, leq, c2', x_ret, e_bin, e_slc, o_no, o_so, slR_hi, slR_lo, a1, a2, e_tup, List.length_cons, List.length_nil, z1, one_ev, a3, b_add, ci, a4, Out.thn_rt, optR]
          · have c2' : (q.length : Int) < (k : Int) := by omega
            have e : turnR r i k = none := by unfold turnR; rw [evAt_of hq]; simp only [c2, and_false, if_false]
            rw [e]
            simp only [d__law_deed, xs_cons, xs_nil, x_iff, t_cmp, t_or, t_isi, e_slot, List.getElem?_cons_succ, List.getElem?_cons_zero, R.bind_ok, e_cst, c_eq, e1', R.out_ok, Bool.false_eq_true, if_false, Out.thn_nx, c_ge, e_blt, es_cons, es_nil, le, hi', decide_false, e_ix, ix, tyR, x_asg, g_nm, List.set_cons_succ, List.set_cons_zero, e2', if_true, c_lt, c1', c_gt, leq, c2', decide_true, x_ret, Out.thn_rt, optR]
      have e2' : opEq (.str d.nm) (.str ("turn" : Str)) S = .ok false S := by rw [e2, decide_eq_false ht]
      by_cases c1 : k < 2
      · have c1' : (k : Int) < 2 := by omega
        have e : deedR d r i k = none := by
          cases d with
          | back => exact absurd rfl hb
          | turn => exact absurd rfl ht
          | fold => show foldR r i k = none; unfold foldR; rw [evAt_of hq]; simp only [show ¬ 2 ≤ k by omega, if_false]
          | times => show timesR r i k = none; unfold timesR; rw [evAt_of hq]; simp only [show ¬ 2 ≤ k by omega, if_false]
        rw [e]
        simp only [d__law_deed, xs_cons, xs_nil, x_iff, t_cmp, t_or, t_isi, e_slot, List.getElem?_cons_succ, List.getElem?_cons_zero, R.bind_ok, e_cst, c_eq, e1', R.out_ok, Bool.false_eq_true, if_false, Out.thn_nx, c_ge, e_blt, es_cons, es_nil, le, hi', decide_false, e_ix, ix, tyR, x_asg, g_nm, List.set_cons_succ, List.set_cons_zero, e2', c_lt, c1', decide_true, if_true, x_ret, Out.thn_rt, optR]
      have c1' : ¬ (k : Int) < 2 := by omega
      have c0 : 2 ≤ k := by omega
      have ct := count_ok (n := n) hT.t.h41 6 q S hf.dep hf.ok (by have := hf.cnt; omega)
      have mk : mulOk (k : Int) (cntR q : Int) = true := mulOk_l (by omega)
      have big : ¬ (100000 : Int) < (k : Int) * (cntR q : Int) := by
        have : k * cntR q ≤ 5 * 500 := Nat.mul_le_mul hk hf.cnt
        have : (k : Int) * (cntR q : Int) ≤ 5 * 500 := by exact_mod_cast this
        omega
      have mu := opMul_row (r := q) (m := k) (S := S) lq (by omega)
      by_cases hm : d = .times
      · subst hm
        have e3' : opEq (.str Deed.times.nm) (.str ("times" : Str)) S = .ok true S := by rw [e3]; rfl
        have e : deedR .times r i k = some (r.take i ++ [.ev (repR k q)] ++ r.drop (i + 1)) := by
          show timesR r i k = _; unfold timesR; rw [evAt_of hq]; simp only [c0, if_true]
        have a3 := opAdd_row (r := r.take i) (q := [.ev (repR k q)]) (S := S) (by simp; omega)
        have a4 := opAdd_row (r := r.take i ++ [.ev (repR k q)]) (q := r.drop (i + 1)) (S := S) (by simp; omega)
        rw [show (List.replicate k q).flatten = repR k q from rfl] at mu
        rw [e]
        simp only [d__law_deed, xs_cons, xs_nil, x_iff, t_cmp, t_or, t_isi, e_slot, List.getElem?_cons_succ, List.getElem?_cons_zero, R.bind_ok, e_cst, c_eq, e1', R.out_ok, Bool.false_eq_true, if_false, Out.thn_nx, c_ge, e_blt, es_cons, es_nil, le, hi', decide_false, e_ix, ix, tyR, x_asg, g_nm, List.set_cons_succ, List.set_cons_zero, e2', c_lt, c1', c_gt, e_bin, e_call, ct, b_mul, mk, if_true, big, e3', x_ret, e_slc, o_no, o_so, slR_hi, slR_lo, mu, e_tup, List.length_cons, List.length_nil, z1, one_ev, a3, b_add, ci, a4, Out.thn_rt, optR]
      have e3' : opEq (.str d.nm) (.str ("times" : Str)) S = .ok false S := by rw [e3, decide_eq_false hm]
      have hd : d = .fold := by cases d <;> first | rfl | exact absurd rfl hb | exact absurd rfl ht | exact absurd rfl hm
      subst hd
      have kp : (0 : Int) < (k : Int) := by omega
      have kl : (k : Int).natAbs.log2 < 9000 := log2_lt (by omega) kp
      have dv : ((q.length : Int) / (k : Int)) = ((q.length / k : Nat) : Int) := by omega
      have hu := hs.take (q.length / k)
      have lu := hu.len
      have mu2 := opMul_row (r := q.take (q.length / k)) (m := k) (S := S) lu (by omega)
      have eq : opEq (rowD (List.replicate k (q.take (q.length / k))).flatten) (rowD q) S = .ok (rowBeq (repR k (q.take (q.length / k))) q) S := opEq_rows (repR_ok hu.ok k) hs.ok (Nat.le_trans (repR_dep _ _) (by have := hu.dep; omega)) (by have := hs.dep; omega) S
      have de : deedR .fold r i k = foldR r i k := rfl
      rw [de]
      by_cases c3 : rowBeq (repR k (q.take (q.length / k))) q = true
      · have e : foldR r i k = some (r.take i ++ [.ev (q.take (q.length / k))] ++ r.drop (i + 1)) := by
          unfold foldR; rw [evAt_of hq]; simp only [c0, c3, if_true]
        have a3 := opAdd_row (r := r.take i) (q := [.ev (q.take (q.length / k))]) (S := S) (by simp; omega)
        have a4 := opAdd_row (r := r.take i ++ [.ev (q.take (q.length / k))]) (q := r.drop (i + 1)) (S := S) (by simp; omega)
        rw [c3] at eq
        rw [e]
        simp only [d__law_deed, xs_cons, xs_nil, x_iff, t_cmp, t_or, t_isi, e_slot, List.getElem?_cons_succ, List.getElem?_cons_zero, R.bind_ok, e_cst, c_eq, e1', R.out_ok, Bool.false_eq_true, if_false, Out.thn_nx, c_ge, e_blt, es_cons, es_nil, le, hi', decide_false, e_ix, ix, tyR, x_asg, g_nm, List.set_cons_succ, List.set_cons_zero, e2', c_lt, c1', c_gt, e_bin, e_call, ct, b_mul, mk, if_true, big, e3', leq, b_fdiv, kp, kl, and_self, dv, x_ret, e_ife, e_slc, o_no, o_so, slR_hi, slR_lo, mu2, eq, e_tup, List.length_cons, List.length_nil, z1, one_ev, a3, b_add, ci, a4, Out.thn_rt, optR]
      · have c3' : rowBeq (repR k (q.take (q.length / k))) q = false := by simpa using c3
        have e : foldR r i k = none := by unfold foldR; rw [evAt_of hq]; simp only [c0, c3, if_true, if_false, Bool.false_eq_true]
        rw [c3'] at eq
        rw [e]
        simp only [d__law_deed, xs_cons, xs_nil, x_iff, t_cmp, t_or, t_isi, e_slot, List.getElem?_cons_succ, List.getElem?_cons_zero, R.bind_ok, e_cst, c_eq, e1', R.out_ok, Bool.false_eq_true, if_false, Out.thn_nx, c_ge, e_blt, es_cons, es_nil, le, hi', decide_false, e_ix, ix, tyR, x_asg, g_nm, List.set_cons_succ, List.set_cons_zero, e2', c_lt, c1', c_gt, e_bin, e_call, ct, b_mul, mk, if_true, big, e3', leq, b_fdiv, kp, kl, and_self, dv, x_ret, e_ife, e_slc, o_no, o_so, slR_hi, mu2, eq, Out.thn_rt, optR]
  · have hi' : (r.length : Int) ≤ (i : Int) := by omega
    rw [deed_out (by omega)]
    simp only [d__law_deed, xs_cons, xs_nil, x_iff, t_cmp, t_or, e_slot, List.getElem?_cons_succ, List.getElem?_cons_zero, R.bind_ok, e_cst, c_eq, e1', R.out_ok, Bool.false_eq_true, if_false, Out.thn_nx, c_ge, e_blt, es_cons, es_nil, le, hi', decide_true, if_true, x_ret, Out.thn_rt, optR]
end
end PD.PS.K30r
end

section
set_option linter.all false
set_option maxRecDepth 100000
set_option maxHeartbeats 2000000
/-! K30b: the law's own step. -/
namespace PD.PS.K30r
open PySem K30
section
variable {T : Tab} {n : Nat}
theorem getR_app : ∀ (a b : List Nat) (r : Rw), getR r (a ++ b) = (getR r a).bind fun q => getR q b
  | [], b, r => rfl
  | x :: a, b, r => by
    simp only [List.cons_append, getR]
    cases evAt r x with
    | none => rfl
    | some q => simp only [Option.bind_some, getR_app a b q]
theorem get_fit {r q : Rw} : ∀ {ps : List Nat}, Fit r → getR r ps = some q → Fit q
  | [], h, e => by cases e; exact h
  | p :: ps, h, e => by
    simp only [getR, Option.bind_eq_some_iff] at e
    obtain ⟨a, e1, e2⟩ := e
    exact get_fit (h.ev (evAt_get e1)).1 e2
theorem law_step_key (hT : Fns T) {r : Rw} (h : Fit r) (d : Deed) {i k : Nat} {ps : List Nat} (b : Bd i k ps) (S : Store) (ii kk : Int) (hii : ii = (i : Int)) (hkk : kk = (k : Int)) (pp : D) (hpp : pp = tupI (natI ps)) :
    (exTs (callN T (n + 11)) d__law_step.body [some (rowD r), some (.tup [pp, .int ii, .str d.nm, .int kk]), none, none, none, none, none, none, none] S).sat (fun _ _ => False) (fun v S' => v = optR (stepR d i k ps r) ∧ S' = S) := by
  have e0 : d__law_step.body = .cons (.asg (.tp (.cons (.nm 4) (.cons (.nm 5) (.cons (.nm 6) (.cons (.nm 7) .nil))))) (.slot 1)) (.cons (.for_ (.nm 2) (.rng1 (.blt .len (.cons (.slot 4) .nil))) (.cons (.asg (.nm 8) (.call 60 (.cons (.slot 0) (.cons (.slc (.slot 4) .no (.so (.slot 2))) .nil)))) (.cons (.iff (.or (.cmp .GtE (.ix (.slot 4) (.slot 2)) (.blt .len (.cons (.slot 8) .nil))) (.isi (.ix (.slot 8) (.ix (.slot 4) (.slot 2))) .str)) (.cons (.ret (.cst .non)) .nil) .nil) .nil))) (.cons (.asg (.nm 3) (.call 80 (.cons (.call 60 (.cons (.slot 0) (.cons (.slot 4) .nil))) (.cons (.slot 5) (.cons (.slot 6) (.cons (.slot 7) .nil)))))) (.cons (.ret (.ife (.cmp .Is (.slot 3) (.cst .non)) (.cst .non) (.call 57 (.cons (.slot 0) (.cons (.slot 4) (.cons (.slot 3) .nil)))))) .nil))) := rfl
  have s0 : ∀ (F : Fn) (pp : D), exT F (.asg (.tp (.cons (.nm 4) (.cons (.nm 5) (.cons (.nm 6) (.cons (.nm 7) .nil))))) (.slot 1)) [some (rowD r), some (.tup [pp, .int ii, .str d.nm, .int kk]), none, none, none, none, none, none, none] S = .nx [some (rowD r), some (.tup [pp, .int ii, .str d.nm, .int kk]), none, none, some pp, some (.int ii), some (.str d.nm), some (.int kk), none] S := fun F pp => by
    simp only [x_asg, e_slot, List.getElem?_cons_succ, List.getElem?_cons_zero, R.out_ok, g_tp, items_tup, gs_cons, gs_nil, g_nm, List.set_cons_succ, List.set_cons_zero]
  rw [e0, xs_cons, s0, Out.thn_nx, xs_cons]
  have hl := b.hl
  have hln : (natI ps).length = ps.length := by simp [natI]
  have lenp : ∀ S, opBlt .len [pp] S = .ok (.int (ps.length : Int)) S := fun S => by rw [hpp, len_tupI, hln]
  have hev := rng1_sat (F := callN T (n + 11)) (env := [some (rowD r), some (.tup [pp, .int ii, .str d.nm, .int kk]), none, none, some pp, some (.int ii), some (.str d.nm), some (.int kk), none]) (e := .blt .len (.cons (.slot 4) .nil)) (k := (ps.length : Int)) (S := S) (S' := S) (by simp only [e_blt, es_cons, es_nil, e_slot, List.getElem?_cons_succ, List.getElem?_cons_zero, R.bind_ok, lenp]) (by omega) (by omega)
  rw [Int.toNat_natCast] at hev
  with_reducible refine sat_thn (N := fun e S' => S' = S ∧ (∃ q, getR r ps = some q) ∧ ∃ x2 x8, e = [some (rowD r), some (.tup [pp, .int ii, .str d.nm, .int kk]), x2, none, some pp, some (.int ii), some (.str d.nm), some (.int kk), x8]) ?_ ?_
  · with_reducible refine for_rng ps.length hev (le_sz (by omega)) (fun j e S' => S' = S ∧ (∃ q, getR r (ps.take j) = some q) ∧ ∃ x2 x8, e = [some (rowD r), some (.tup [pp, .int ii, .str d.nm, .int kk]), x2, none, some pp, some (.int ii), some (.str d.nm), some (.int kk), x8]) ⟨rfl, ⟨r, rfl⟩, _, _, rfl⟩ ?_ (fun e S' ⟨h1, ⟨q, h2⟩, h3⟩ => ⟨h1, ⟨q, by rw [List.take_length] at h2; exact h2⟩, h3⟩)
    rintro j env S' hj ⟨rfl, ⟨q, hq⟩, x2, x8, rfl⟩
    refine ⟨_, g_nm _ _, ?_⟩
    have sl : opSl pp none (some (j : Int)) S' = .ok (tupI (natI (ps.take j))) S' := by
      rw [hpp, sl_tupI, cut_hi, natI, ← List.map_take]
      rfl
    have gt := law_get_ok (n := n + 10) hT (by simp; omega) hq S'
    have pj : (natI ps)[j]? = some ((ps[j] : Nat) : Int) := by simp [natI, hj]
    have ixp : opIx pp (.int (j : Int)) S' = .ok (.int ((ps[j] : Nat) : Int)) S' := by rw [hpp]; exact ix_tupI (k := j) rfl pj
    have fq := get_fit h hq
    have lq := lenR_ok q S'
    have snoc : getR r (ps.take (j + 1)) = evAt q ps[j] := by
      rw [List.take_succ_eq_append_getElem hj, getR_snoc, hq, Option.bind_some]
    have full : evAt q ps[j] = none → stepR d i k ps r = none := fun z => by
      have : getR r ps = none := by
        have e : ps = ps.take (j + 1) ++ ps.drop (j + 1) := (List.take_append_drop _ _).symm
        rw [e, getR_app, snoc, z]
        rfl
      rw [step_get, this]
      rfl
    by_cases c : ps[j] < q.length
    · have c' : ¬ (q.length : Int) ≤ ((ps[j] : Nat) : Int) := by omega
      have ixq := ixR (List.getElem?_eq_getElem c) S'
      cases hx : q[ps[j]] with
      | sg s =>
        have en : evAt q ps[j] = none := evAt_sg (List.getElem?_eq_getElem c ▸ congrArg some hx)
        rw [hx] at ixq
        refine satB_rt (d := .non) (S := S') ?_ ⟨by rw [full en]; rfl, rfl⟩
        simp only [List.set_cons_succ, List.set_cons_zero, xs_cons, x_asg, e_call, es_cons, es_nil, e_slot, e_slc, o_no, o_so, List.getElem?_cons_succ, List.getElem?_cons_zero, R.bind_ok, sl, gt, R.out_ok, g_nm, Out.thn_nx, x_iff, t_or, t_cmp, t_isi, e_ix, ixp, e_blt, lq, c_ge, c', decide_false, Bool.false_eq_true, if_false, ixq, tyx_sg, if_true, x_ret, e_cst, Out.thn_rt]
      | ev q2 =>
        have en : evAt q ps[j] = some q2 := evAt_of (List.getElem?_eq_getElem c ▸ congrArg some hx)
        rw [hx, It.d_ev] at ixq
        refine satB_nx (e := [some (rowD r), some (.tup [pp, .int ii, .str d.nm, .int kk]), some (.int (j : Int)), none, some pp, some (.int ii), some (.str d.nm), some (.int kk), some (rowD q)]) (S := S') ?_ ⟨rfl, ⟨q2, by rw [snoc]; exact en⟩, _, _, rfl⟩
        simp only [List.set_cons_succ, List.set_cons_zero, xs_cons, xs_nil, x_asg, e_call, es_cons, es_nil, e_slot, e_slc, o_no, o_so, List.getElem?_cons_succ, List.getElem?_cons_zero, R.bind_ok, sl, gt, R.out_ok, g_nm, Out.thn_nx, x_iff, t_or, t_cmp, t_isi, e_ix, ixp, e_blt, lq, c_ge, c', decide_false, Bool.false_eq_true, if_false, ixq, tyR]
    · have c' : (q.length : Int) ≤ ((ps[j] : Nat) : Int) := by omega
      have en : evAt q ps[j] = none := by unfold evAt; rw [List.getElem?_eq_none (by omega)]
      refine satB_rt (d := .non) (S := S') ?_ ⟨by rw [full en]; rfl, rfl⟩
      simp only [List.set_cons_succ, List.set_cons_zero, xs_cons, x_asg, e_call, es_cons, es_nil, e_slot, e_slc, o_no, o_so, List.getElem?_cons_succ, List.getElem?_cons_zero, R.bind_ok, sl, gt, R.out_ok, g_nm, Out.thn_nx, x_iff, t_or, t_cmp, e_ix, ixp, e_blt, lq, c_ge, c', decide_true, if_true, x_ret, e_cst, Out.thn_rt]
  · rintro env S' ⟨rfl, ⟨q, hq⟩, x2, x8, rfl⟩
    have gt := law_get_ok (n := n + 10) hT (by omega) hq S'
    rw [← hpp] at gt
    have ld := law_deed_ok (n := n + 3) hT (get_fit h hq) d (i := i) b.hk S'
    rw [← hii, ← hkk] at ld
    have sg : stepR d i k ps r = (deedR d q i k).map fun x => putR ps r x := by rw [step_get, hq]; rfl
    cases hd : deedR d q i k with
    | none =>
      rw [hd] at ld sg
      simp only [optR] at ld
      refine sat_rtI (d := .non) (S := S') ?_ ⟨by rw [sg]; rfl, rfl⟩
      simp only [xs_cons, x_asg, e_call, es_cons, es_nil, e_slot, List.getElem?_cons_succ, List.getElem?_cons_zero, R.bind_ok, gt, ld, R.out_ok, g_nm, List.set_cons_succ, List.set_cons_zero, Out.thn_nx, x_ret, e_ife, t_cmp, e_cst, c_is, is_nn, if_true, Out.thn_rt]
    | some x =>
      rw [hd] at ld sg
      simp only [optR] at ld
      have isn : ∀ S, opIs (rowD x) .non S = .ok false S := fun _ => rfl
      have xo := deed_ok hd (get_fit h hq).ok b.hk
      have lx := len_le_cnt x xo.1
      have lp := law_put_ok (n := n + 10 - ps.length) hT (x := x) (by have := (get_fit h hq).cnt; omega) ps r q S' h.short hq
      rw [show n + 10 - ps.length + ps.length + 1 = n + 11 by omega, ← hpp] at lp
      refine sat_rtI (d := rowD (putR ps r x)) (S := S') ?_ ⟨by rw [sg]; rfl, rfl⟩
      simp only [xs_cons, x_asg, e_call, es_cons, es_nil, e_slot, List.getElem?_cons_succ, List.getElem?_cons_zero, R.bind_ok, gt, ld, R.out_ok, g_nm, List.set_cons_succ, List.set_cons_zero, Out.thn_nx, x_ret, e_ife, t_cmp, e_cst, c_is, isn, Bool.false_eq_true, if_false, lp, Out.thn_rt]
theorem law_step_ok (hT : Fns T) {r : Rw} (h : Fit r) (d : Deed) {i k : Nat} {ps : List Nat} (b : Bd i k ps) (S : Store) : callN T (n + 12) 81 [rowD r, stepD d i k ps] S = .ok (optR (stepR d i k ps r)) S := by
  obtain ⟨pp, hpp⟩ : ∃ pp, pp = tupI (natI ps) := ⟨_, rfl⟩
  unfold stepD
  rw [← hpp]
  obtain ⟨v, S', e, hv, hS⟩ := sat_rt (law_step_key (n := n) hT h d b S (i : Int) (k : Int) rfl rfl pp hpp)
  subst hv
  subst hS
  exact call_pure0 hT.h81 rfl e
end
end PD.PS.K30r
end

section
set_option linter.all false
set_option maxRecDepth 100000
set_option maxHeartbeats 2000000
/-! K30c: paths, and drawn steps. -/
namespace PD.PS.K30r
open PySem K30
def pathD (p : List Nat) : D := tupI (natI p)
mutual
def It.evs : It → Nat
  | .sg _ => 0
  | .ev r => 1 + evsR r
def evsR : List It → Nat
  | [] => 0
  | x :: xs => It.evs x + evsR xs
end
mutual
theorem It.evs_le : ∀ (k : Nat) (x : It), x.ok → x.dep ≤ k → It.evs x ≤ k * x.cnt
  | k, .sg s, _, _ => by simp [It.evs]
  | 0, .ev r, _, hd => by simp at hd
  | k + 1, .ev r, h, hd => by
    have h1 := evsR_le k r (by simpa using (by simpa using h : r ≠ [] ∧ okR r).2) (by simp at hd; omega)
    have h2 := It.cnt_pos (.ev r) h
    simp only [cnt_ev] at h2 ⊢
    simp only [It.evs]
    rw [Nat.succ_mul]
    omega
theorem evsR_le : ∀ (k : Nat) (r : List It), okR r → depR r ≤ k → evsR r ≤ k * cntR r
  | k, [], _, _ => by simp [evsR]
  | k, x :: r, h, hd => by
    simp only [ok_cons] at h
    simp only [dep_cons] at hd
    have h1 := It.evs_le k x h.1 (by omega)
    have h2 := evsR_le k r h.2 (by omega)
    simp only [evsR, cnt_cons, Nat.mul_add]
    omega
end
theorem evs_app : ∀ a b : Rw, evsR (a ++ b) = evsR a + evsR b
  | [], b => by simp [evsR]
  | x :: a, b => by simp only [List.cons_append, evsR, evs_app a b]; omega
theorem Fit.evs {r : Rw} (h : Fit r) : evsR r ≤ 3000 := by
  have := evsR_le 6 r h.ok h.dep
  have := h.cnt
  omega
theorem evs_take {r : Rw} (h : Fit r) (i : Nat) : evsR (r.take i) ≤ 3000 := by
  have e := evs_app (r.take i) (r.drop i)
  rw [List.take_append_drop] at e
  have := h.evs
  omega
theorem lt_path (m : Nat) (p : List Nat) : D.lt m (pathD p) = true := lt_tupI m _
theorem lts_paths (m : Nat) : ∀ L : List (List Nat), D.lts m (L.map pathD) = true
  | [] => rfl
  | p :: L => by simp only [List.map_cons, D.lts, lt_path, lts_paths m L, Bool.and_self]
/-- what the paths of a row are -/
def Pths (r : Rw) (pre p : List Nat) : Prop := ∃ ps q, p = pre ++ ps ∧ getR r ps = some q ∧ ps.length ≤ depR r
def PthS (F : Fn) (r : Rw) : Prop := ∀ (pre : List Nat) (h : Hs) (G : Store), pre.length + depR r ≤ 50 → GW G → ∃ (X : Store) (L : List (List Nat)), GW (G ++ X) ∧ (G ++ X)[G.length]? = some (.lst (L.map pathD)) ∧ L.length = 1 + evsR r ∧ (∀ p ∈ L, Pths r pre p) ∧ F 58 [rowD r, pathD pre] (hS h G) = .ok (.ref (G.length + 3)) (hS h (G ++ X))
theorem paths_body : d__law_paths.body = .cons (.asg (.nm 2) (.lst (.cons (.slot 1) .nil))) (.cons (.for_ (.nm 3) (.rng1 (.blt .len (.cons (.slot 0) .nil))) (.cons (.iff (.not (.isi (.ix (.slot 0) (.slot 3)) .str)) (.cons (.exp (.mth .extend (.slot 2) (.cons (.call 58 (.cons (.ix (.slot 0) (.slot 3)) (.cons (.bin .Add (.slot 1) (.tup (.cons (.slot 3) .nil))) .nil))) .nil))) .nil) .nil) .nil)) (.cons (.ret (.slot 2)) .nil)) := rfl
theorem natI_app (a b : List Nat) : natI (a ++ b) = natI a ++ natI b := by simp [natI]
section
variable {T : Tab} {n : Nat}
theorem m_ext (a b : Nat) (S : Store) {xs ys : List D} (ha : S[a]? = some (.lst xs)) (hb : S[b]? = some (.lst ys)) (hl : xs.length + ys.length ≤ sizeLine) : opMth .extend (.ref a) [.ref b] S = .ok .non (S.set a (.lst (xs ++ ys))) := by
  simp only [opMth, ha, hb, hl, if_true]
theorem paths_core {F : Fn} {r : Rw} (hf : Fit r) (hrec : ∀ q, .ev q ∈ r → PthS F q) (pre : List Nat) (h : Hs) (G : Store) (hp : pre.length + depR r ≤ 50) (g : GW G) (rr pp : D) (hrr : rr = rowD r) (hpp : pp = pathD pre) :
    (exTs F d__law_paths.body [some rr, some pp, none, none] (hS h G)).sat (fun _ _ => False) (fun v S => ∃ (X : Store) (L : List (List Nat)), v = .ref (G.length + 3) ∧ S = hS h (G ++ X) ∧ GW (G ++ X) ∧ (G ++ X)[G.length]? = some (.lst (L.map pathD)) ∧ L.length = 1 + evsR r ∧ ∀ p ∈ L, Pths r pre p) := by
  have z1 : 0 + 1 ≤ sizeLine := le_sz (by omega)
  have lr := hf.short.len
  have lt1 : D.lts 0 [pp] = true := by rw [hpp]; exact lts_paths 0 [pre]
  have lenp : ∀ S, opBlt .len [rr] S = .ok (.int (r.length : Int)) S := fun S => by rw [hrr]; exact lenR_ok r S
  have s0 : exT F (.asg (.nm 2) (.lst (.cons (.slot 1) .nil))) [some rr, some pp, none, none] (hS h G) = .nx [some rr, some pp, some (.ref (G.length + 3)), none] (hS h (G ++ [.lst [pp]])) := by
    simp only [x_asg, e_lst, es_cons, es_nil, e_slot, List.getElem?_cons_succ, List.getElem?_cons_zero, R.bind_ok, List.length_cons, List.length_nil, z1, if_true, newL_eq, hS_len, hS_app, R.out_ok, g_nm, List.set_cons_succ, List.set_cons_zero]
  rw [paths_body, xs_cons, s0, Out.thn_nx, xs_cons]
  have hev := rng1_sat (F := F) (env := [some rr, some pp, some (.ref (G.length + 3)), none]) (e := .blt .len (.cons (.slot 0) .nil)) (k := (r.length : Int)) (S := hS h (G ++ [.lst [pp]])) (S' := hS h (G ++ [.lst [pp]])) (by simp only [e_blt, es_cons, es_nil, e_slot, List.getElem?_cons_succ, List.getElem?_cons_zero, R.bind_ok, lenp]) (by omega) (by omega)
  rw [Int.toNat_natCast] at hev
  with_reducible refine sat_thn (N := fun e S => ∃ (x3 : Option D) (X : Store) (L : List (List Nat)), e = [some rr, some pp, some (.ref (G.length + 3)), x3] ∧ S = hS h (G ++ X) ∧ GW (G ++ X) ∧ (G ++ X)[G.length]? = some (.lst (L.map pathD)) ∧ L.length = 1 + evsR r ∧ ∀ p ∈ L, Pths r pre p) ?_ ?_
  · with_reducible refine for_rng r.length hev (le_sz (by omega)) (fun i e S => ∃ (x3 : Option D) (X : Store) (L : List (List Nat)), e = [some rr, some pp, some (.ref (G.length + 3)), x3] ∧ S = hS h (G ++ X) ∧ GW (G ++ X) ∧ (G ++ X)[G.length]? = some (.lst (L.map pathD)) ∧ L.length = 1 + evsR (r.take i) ∧ ∀ p ∈ L, Pths r pre p) ⟨none, [.lst [pp]], [pre], rfl, rfl, g.lst lt1, by rw [hpp]; simp, by simp [evsR], fun p hp => by unfold Pths; exact ⟨[], r, by simp at hp; simp [hp], rfl, by simp⟩⟩ ?_ (fun e S ⟨x3, X, L, h1, h2, h3, h4, h5, h6⟩ => ⟨x3, X, L, h1, h2, h3, h4, by rw [List.take_length] at h5; exact h5, h6⟩)
    rintro i env S hi ⟨x3, X, L, rfl, rfl, gx, gk, gl, gp⟩
    refine ⟨_, g_nm _ _, ?_⟩
    have ix : ∀ S, opIx rr (.int (i : Int)) S = .ok r[i].d S := fun S => by rw [hrr]; exact ixR (List.getElem?_eq_getElem hi) S
    have et : evsR (r.take (i + 1)) = evsR (r.take i) + It.evs r[i] := by
      rw [List.take_succ_eq_append_getElem hi, evs_app]
      simp [evsR]
    cases hx : r[i] with
    | sg s =>
      rw [hx] at ix et
      refine satB_nx (e := [some rr, some pp, some (.ref (G.length + 3)), some (.int (i : Int))]) (S := hS h (G ++ X)) ?_ ⟨_, X, L, rfl, rfl, gx, gk, by rw [gl, et]; simp [It.evs], gp⟩
      simp only [List.set_cons_succ, List.set_cons_zero, xs_cons, xs_nil, x_iff, t_not, t_isi, e_ix, e_slot, List.getElem?_cons_succ, List.getElem?_cons_zero, R.bind_ok, ix, tyx_sg, R.map_ok, Bool.not_true, R.out_ok, Bool.false_eq_true, if_false, Out.thn_nx]
    | ev q =>
      have hq : r[i]? = some (.ev q) := List.getElem?_eq_getElem hi ▸ congrArg some hx
      rw [hx] at ix et
      simp only [It.d_ev] at ix
      have d1 := dep_mem (List.mem_of_getElem? hq)
      simp only [dep_ev] at d1
      obtain ⟨X2, L2, g2, k2, l2, p2, e2⟩ := hrec q (List.mem_of_getElem? hq) (pre ++ [i]) h (G ++ X) (by simp; omega) gx
      have ad : ∀ S, opBin .Add pp (tupI [(i : Int)]) S = .ok (pathD (pre ++ [i])) S := fun S => by
        rw [hpp]
        unfold pathD
        rw [add_tupI _ _ (by simp [natI]; exact le_sz (by omega)), natI_app]
        rfl
      have cl : G.length < (G ++ X).length := (List.getElem?_eq_some_iff.mp gk).1
      have cl2 : G.length < (G ++ X ++ X2).length := by rw [List.length_append]; omega
      have gk2 : (G ++ X ++ X2)[G.length]? = some (.lst (L.map pathD)) := by rw [List.getElem?_append_left cl]; exact gk
      have e2' := evs_take hf i
      have lim : (L.map pathD).length + (L2.map pathD).length ≤ sizeLine := by
        rw [List.length_map, List.length_map, gl, l2]
        have := (hf.ev hq).1.evs
        exact le_sz (by omega)
      have mx := m_ext (G.length + 3) ((G ++ X).length + 3) (hS h (G ++ X ++ X2)) (xs := L.map pathD) (ys := L2.map pathD) (by rw [hS_get]; exact gk2) (by rw [hS_get]; exact k2) lim
      have gs : (G ++ X ++ X2).set G.length (Cell.lst (L.map pathD ++ L2.map pathD)) = G ++ (X ++ X2).set 0 (Cell.lst (L.map pathD ++ L2.map pathD)) := by
        rw [List.append_assoc, List.set_append_right _ _ (Nat.le_refl _), Nat.sub_self]
      have gw2 : GW (G ++ (X ++ X2).set 0 (Cell.lst (L.map pathD ++ L2.map pathD))) := by
        rw [← gs, ← List.map_append]
        exact g2.set (by simp only [Cell.lt]; exact lts_paths _ _)
      refine satB_nx (e := [some rr, some pp, some (.ref (G.length + 3)), some (.int (i : Int))]) (S := hS h (G ++ (X ++ X2).set 0 (Cell.lst (L.map pathD ++ L2.map pathD)))) ?_ ⟨_, _, L ++ L2, rfl, rfl, gw2, ?_, by rw [List.length_append, gl, l2, et]; simp [It.evs]; omega, fun p hp => ?_⟩
      · simp only [List.set_cons_succ, List.set_cons_zero, xs_cons, xs_nil, x_iff, t_not, t_isi, e_ix, e_slot, List.getElem?_cons_succ, List.getElem?_cons_zero, R.bind_ok, ix, tyR, R.map_ok, Bool.not_false, R.out_ok, if_true, x_exp, e_mth, rcv_ext, hS_get, gk, es_cons, es_nil, e_call, e_bin, e_tup, List.length_cons, List.length_nil, z1, tupI_one, ad, e2, mx, hS_set, gs, Out.thn_nx]
      · rw [← gs, List.getElem?_set_self cl2, List.map_append]
      · rcases List.mem_append.1 hp with hp | hp
        · exact gp p hp
        · obtain ⟨ps, q2, rfl, h2, h3⟩ := p2 p hp
          refine ⟨i :: ps, q2, by simp, ?_, by simp; omega⟩
          simp only [getR, evAt_of hq, Option.bind_some, h2]
  · rintro env S ⟨x3, X, L, rfl, rfl, h3, h4, h5, h6⟩
    exact sat_rtI (d := .ref (G.length + 3)) (S := hS h (G ++ X)) (by simp only [xs_cons, x_ret, e_slot, List.getElem?_cons_succ, List.getElem?_cons_zero, R.out_ok, Out.thn_rt]) ⟨X, L, rfl, rfl, h3, h4, h5, h6⟩
theorem paths_ok (hT : Fns T) : ∀ (m : Nat) (r : Rw), Fit r → depR r ≤ m → PthS (callN T (n + m + 1)) r := by
  have fin : ∀ (m : Nat) (r : Rw), Fit r → (∀ q, .ev q ∈ r → PthS (callN T (n + m)) q) → PthS (callN T (n + m + 1)) r := by
    intro m r hf hrec
    unfold PthS
    intro pre h G hp g
    obtain ⟨rr, hrr⟩ : ∃ rr, rr = rowD r := ⟨_, rfl⟩
    obtain ⟨pp, hpp⟩ : ∃ pp, pp = pathD pre := ⟨_, rfl⟩
    have key := paths_core hf hrec pre h G hp g rr pp hrr hpp
    rw [← hrr, ← hpp]
    obtain ⟨v, S', e, X, L, hv, hS, h3, h4, h5, h6⟩ := sat_rt key
    subst hv
    subst hS
    refine ⟨X, L, h3, h4, h5, h6, ?_⟩
    rw [call_rt hT.h58 rfl e]
    have : gcS (PD.PS.hS h G) (.ref (G.length + 3)) (PD.PS.hS h (G ++ X)) = PD.PS.hS h (G ++ X) := by
      unfold gcS
      simp [D.lt]
    rw [this]
  intro m
  induction m with
  | zero =>
    intro r hf hd
    exact fin 0 r hf fun q hq => by have := dep_mem hq; simp at this; omega
  | succ m ih =>
    intro r hf hd
    refine fin (m + 1) r hf fun q hq => ?_
    have d1 := dep_mem hq
    have c1 := cnt_mem hq
    have o1 := ok_mem hf.ok hq
    simp only [dep_ev, cnt_ev, ok_ev] at d1 c1 o1
    have := hf.dep
    have := hf.cnt
    exact ih q ⟨o1.2, by omega, by omega⟩ (by omega)
end
end PD.PS.K30r
end

section
set_option linter.all false
set_option maxRecDepth 100000
set_option maxHeartbeats 2000000
/-! K30d: drawn steps. -/
namespace PD.PS.K30r
open PySem K30
structure Stp where
  d : Deed
  i : Nat
  k : Nat
  ps : List Nat
def stD (s : Stp) : D := stepD s.d s.i s.k s.ps
def BdS (s : Stp) : Prop := Bd s.i s.k s.ps
structure R60 (r : Rw) : Prop where
  ok : okR r
  dep : depR r ≤ 6
  cnt : cntR r ≤ 60
theorem R60.fit {r : Rw} (h : R60 r) : Fit r := ⟨h.ok, h.dep, by have := h.cnt; omega⟩
theorem get_lt60 {r : Rw} (h : R60 r) : ∀ {ps : List Nat} {q : Rw}, getR r ps = some q → (∀ x ∈ ps, x ≤ 1000) ∧ R60 q := by
  intro ps
  induction ps generalizing r with
  | nil => intro q e; cases e; exact ⟨by simp, h⟩
  | cons p ps ih =>
    intro q e
    simp only [getR, Option.bind_eq_some_iff] at e
    obtain ⟨a, e1, e2⟩ := e
    have hp := evAt_get e1
    have hm := List.mem_of_getElem? hp
    have o := ok_mem h.ok hm
    have d := dep_mem hm
    have c := cnt_mem hm
    simp only [ok_ev, dep_ev, cnt_ev] at o d c
    have := h.dep
    have := h.cnt
    obtain ⟨i1, i2⟩ := ih (r := a) ⟨o.2, by omega, by omega⟩ e2
    have hl := (List.getElem?_eq_some_iff.mp hp).1
    have := len_le_cnt r h.ok
    refine ⟨fun x hx => ?_, i2⟩
    rcases List.mem_cons.1 hx with rfl | hx
    · omega
    · exact i1 x hx
theorem stD_lt (m : Nat) (s : Stp) : D.lt m (stD s) = true := stepD_lt m _ _ _ _
theorem lts_st (m : Nat) : ∀ L : List Stp, D.lts m (L.map stD) = true
  | [] => rfl
  | p :: L => by simp only [List.map_cons, D.lts, stD_lt, lts_st m L, Bool.and_self]
theorem lts_rows (m : Nat) : ∀ L : List Rw, D.lts m (L.map rowD) = true
  | [] => rfl
  | p :: L => by simp only [List.map_cons, D.lts, row_lt, lts_rows m L, Bool.and_self]
/-- nested data in a list of one row -/
theorem in_row {a b : Rw} (ha : R60 a) (hb : Fit b) {S : Store} {c : Nat} (hc : S[c]? = some (.lst [rowD a])) : opIn (rowD b) (.ref c) S = .ok (rowBeq a b) S := by
  have h1 := toPy_row S b
  have h2 : toPy S (.ref c) = some (.list [.tuple (rowPy a)]) := by
    simp only [toPy, D.py, pyR, hc, D.pys]
    have := toPy_row S a
    rw [toPy] at this
    simp [rowD, D.py, rowPy_eq]
  have s1 := row_shaped hb.ok (by have := hb.dep; omega)
  have s2 : SeqAt.shaped (.list [.tuple (rowPy a)]) = true := by
    have := row_pdep a
    have hd := ha.dep
    have h3 : PyData.canLay0 (.list [.tuple (rowPy a)]) = true := by
      simp only [PyData.canLay0, PyData.canLayAll0, row_can a ha.ok, Bool.and_self]
    have h4 : PyData.depth (.list [.tuple (rowPy a)]) ≤ 64 := by
      simp only [PyData.depth, PyData.depthAll]
      omega
    rw [SeqAt.shaped, h3, decide_eq_true h4]
    rfl
  have hd : dicOf S (.ref c) = none := by simp only [dicOf, hc]
  have hi : itemsOf S (.ref c) = some [rowD a] := by simp only [itemsOf, hc]
  have hfl : (isFlat (rowD b) && [rowD a].all isFlat) = false := rfl
  unfold opIn
  rw [hd]
  show opIn0 (rowD b) (.ref c) S = _
  have e0 : opIn0 (rowD b) (.ref c) S = match itemsOf S (.ref c) with
    | some ds => if isFlat (rowD b) && ds.all isFlat then .ok (ds.any fun z => flatEq z (rowD b)) S else inD (rowD b) (.ref c) S
    | none => .stuck := rfl
  rw [e0, hi]
  simp only [hfl, Bool.false_eq_true, if_false, inD, h1, h2, s1, s2, Bool.and_self, if_true, List.any_cons, List.any_nil, Bool.or_false, PyData.eqv, row_eqv]
theorem lst_atK {S : Store} {k : Nat} {ds : List D} (hk : S[k]? = some (.lst ds)) {i : Int} {d : D} (h : L2.atI ds i = some d) : opIx (.ref k) (.int i) S = .ok d S := by rw [ix_ref, hk]; simp only [h]
def inB : Ts := match d__law_steps.body with
  | .cons _ (.cons (.for_ _ _ (.cons _ (.cons _ (.cons _ (.cons _ (.cons (.for_ _ _ b) _)))))) _) => b
  | _ => .nil
def outB : Ts := match d__law_steps.body with
  | .cons _ (.cons (.for_ _ _ b) _) => b
  | _ => .nil
theorem inB_eq : inB = .cons (.asg (.nm 13) (.ife (.cmp .Gt (.blt .len (.cons (.slot 8) .nil)) (.cst (.int 0))) (.call 9 (.cons (.slot 0) (.cons (.blt .len (.cons (.slot 8) .nil)) .nil))) (.cst (.int 0)))) (.cons (.asg (.nm 14) (.tup (.cons (.slot 7) (.cons (.slot 13) (.cons (.slot 9) (.cons (.ife (.cmp .NotEq (.slot 9) (.cst (.str ("back" : PySem.Str)))) (.bin .Add (.cst (.int 1)) (.call 9 (.cons (.slot 0) (.cons (.cst (.int 4)) .nil)))) (.bin .Add (.cst (.int 1)) (.call 9 (.cons (.slot 0) (.cons (.cst (.int 2)) .nil))))) .nil)))))) (.cons (.asg (.nm 15) (.call 81 (.cons (.slot 12) (.cons (.slot 14) .nil)))) (.cons (.iff (.and (.cmp .IsNot (.slot 15) (.cst .non)) (.and (.cmp .LtE (.call 41 (.cons (.slot 15) .nil)) (.slot 3)) (.cmp .NotIn (.slot 15) (.slc (.slot 6) (.so (.bin .Sub (.blt .len (.cons (.slot 6) .nil)) (.cst (.int 1)))) .no)))) (.cons (.exp (.mth .append (.slot 5) (.cons (.slot 14) .nil))) (.cons (.exp (.mth .append (.slot 6) (.cons (.slot 15) .nil))) (.cons .brk .nil))) .nil) .nil))) := rfl
theorem outB_eq : outB = .cons (.asg (.tp (.cons (.nm 11) (.cons (.nm 12) .nil))) (.tup (.cons (.call 58 (.cons (.ix (.slot 6) (.bin .Sub (.blt .len (.cons (.slot 6) .nil)) (.cst (.int 1)))) (.cons (.tup .nil) .nil))) (.cons (.ix (.slot 6) (.bin .Sub (.blt .len (.cons (.slot 6) .nil)) (.cst (.int 1)))) .nil)))) (.cons (.asg (.nm 7) (.call 24 (.cons (.slot 0) (.cons (.slot 11) .nil)))) (.cons (.asg (.nm 8) (.call 60 (.cons (.slot 12) (.cons (.slot 7) .nil)))) (.cons (.asg (.nm 9) (.call 24 (.cons (.slot 0) (.cons (.lst (.cons (.cst (.str ("turn" : PySem.Str))) (.cons (.cst (.str ("back" : PySem.Str))) (.cons (.cst (.str ("times" : PySem.Str))) (.cons (.cst (.str ("fold" : PySem.Str))) (.cons (.cst (.str ("turn" : PySem.Str))) (.cons (.cst (.str ("back" : PySem.Str))) .nil))))))) .nil)))) (.cons (.for_ (.nm 10) (.rng1 (.cst (.int 6))) inB) .nil)))) := rfl
theorem steps_eq : d__law_steps.body = .cons (.asg (.tp (.cons (.nm 5) (.cons (.nm 6) .nil))) (.tup (.cons (.lst .nil) (.cons (.lst (.cons (.slot 1) .nil)) .nil)))) (.cons (.for_ (.nm 4) (.rng1 (.slot 2)) outB) (.cons (.ret (.tup (.cons (.slot 5) (.cons (.slot 6) .nil)))) .nil)) := rfl
/-- the lists in the store -/
structure Lists (G X : Store) (sts : List Stp) (rws : List Rw) (m : Nat) : Prop where
  gw : GW (G ++ X)
  st : (G ++ X)[G.length]? = some (.lst (sts.map stD))
  rw : (G ++ X)[G.length + 1]? = some (.lst (rws.map rowD))
  ne : rws ≠ []
  bd : ∀ s ∈ sts, BdS s
  rs : ∀ r ∈ rws, R60 r
  l1 : sts.length ≤ m
  l2 : rws.length ≤ m + 1
theorem Lists.more {G X : Store} {sts : List Stp} {rws : List Rw} {m : Nat} (h : Lists G X sts rws m) (X2 : Store) (g : GW (G ++ (X ++ X2))) : Lists G (X ++ X2) sts rws m := by
  have a := (List.getElem?_eq_some_iff.mp h.st).1
  have b := (List.getElem?_eq_some_iff.mp h.rw).1
  refine ⟨g, ?_, ?_, h.ne, h.bd, h.rs, h.l1, h.l2⟩
  · rw [← List.append_assoc, List.getElem?_append_left a]; exact h.st
  · rw [← List.append_assoc, List.getElem?_append_left b]; exact h.rw
theorem Lists.up {G X : Store} {sts : List Stp} {rws : List Rw} {m k : Nat} (h : Lists G X sts rws m) (q : m ≤ k) : Lists G X sts rws k :=
  ⟨h.gw, h.st, h.rw, h.ne, h.bd, h.rs, Nat.le_trans h.l1 q, by have := h.l2; omega⟩
theorem Lists.push {G X : Store} {sts : List Stp} {rws : List Rw} {m : Nat} (h : Lists G X sts rws m) {s : Stp} {r : Rw} (hs : BdS s) (hr : R60 r) :
    ∃ X', ((G ++ X).set G.length (.lst ((sts ++ [s]).map stD))).set (G.length + 1) (.lst ((rws ++ [r]).map rowD)) = G ++ X' ∧ Lists G X' (sts ++ [s]) (rws ++ [r]) (m + 1) := by
  have a := (List.getElem?_eq_some_iff.mp h.st).1
  have b := (List.getElem?_eq_some_iff.mp h.rw).1
  have e : ((G ++ X).set G.length (.lst ((sts ++ [s]).map stD))).set (G.length + 1) (.lst ((rws ++ [r]).map rowD)) = G ++ (X.set 0 (.lst ((sts ++ [s]).map stD))).set 1 (.lst ((rws ++ [r]).map rowD)) := by
    rw [List.set_append_right _ _ (Nat.le_refl _), List.set_append_right _ _ (by omega), Nat.sub_self, Nat.add_sub_cancel_left]
  refine ⟨_, e, ?_⟩
  refine ⟨?_, ?_, ?_, by simp, fun x hx => ?_, fun x hx => ?_, by simp; exact h.l1, by simp; exact h.l2⟩
  · rw [← e]
    exact (h.gw.set (by simp only [Cell.lt]; exact lts_st _ _)).set (by simp only [Cell.lt]; exact lts_rows _ _)
  · rw [← e, List.getElem?_set_ne (by omega), List.getElem?_set_self a]
  · rw [← e, List.getElem?_set_self (by rw [List.length_set]; exact b)]
  · rcases List.mem_append.1 hx with hx | hx
    · exact h.bd x hx
    · simp at hx; subst hx; exact hs
  · rcases List.mem_append.1 hx with hx | hx
    · exact h.rs x hx
    · simp at hx; subst hx; exact hr
theorem satB_mono2 {o : Out} {N N' B B' : Env → Store → Prop} {Q Q' : D → Store → Prop} (h : o.satB N B Q) (h1 : ∀ e S, N e S → N' e S) (h2 : ∀ e S, B e S → B' e S) (h3 : ∀ d S, Q d S → Q' d S) : o.satB N' B' Q' := by
  cases o <;> simp only [Out.satB] at h ⊢
  · exact h1 _ _ h
  · exact h3 _ _ h
  · exact h2 _ _ h
  · exact h1 _ _ h
section
variable {T : Tab} {n : Nat}
/-- the slots within the drawing of steps -/
def eS (x1 : Option D) (t : Option D) (a b : Nat) (pp qq dd : D) (x10 x11 : Option D) (cc : D) (x13 x14 x15 : Option D) : Env :=
  [some (.ref 2), x1, some (.int 3), some (.int 60), t, some (.ref a), some (.ref b), some pp, some qq, some dd, x10, x11, some cc, x13, x14, x15]
theorem at_last {rws : List Rw} {S : Store} {b : Nat} (hb : S[b]? = some (.lst (rws.map rowD))) {cur : Rw} {init : List Rw} (he : rws = init ++ [cur]) : opIx (.ref b) (.int ((rws.length : Int) - 1)) S = .ok (rowD cur) S := by
  refine lst_atK hb ?_
  have : ((rws.length : Int) - 1) = (init.length : Nat) := by rw [he]; simp
  rw [this]
  refine atI_nat _ _ _ ?_
  rw [he, List.map_append, List.getElem?_append_right (by simp)]
  simp
theorem inner_ok (hT : Fns T) {G X : Store} {sts : List Stp} {rws init : List Rw} {m : Nat} (L : Lists G X sts rws m) (hm : m ≤ 20) {cur q : Rw} (he : rws = init ++ [cur]) {p : List Nat} (hg : getR cur p = some q) (hp : p.length ≤ 6) (d : Deed) (h : Hs) (x1 t x10 x11 x13 x14 x15 : Option D) :
    (exTs (callN T (n + 12)) inB (eS x1 t (G.length + 3) (G.length + 1 + 3) (pathD p) (rowD q) (.str d.nm) x10 x11 (rowD cur) x13 x14 x15) (hS h (G ++ X))).satB
      (fun e S => ∃ h' X' y13 y14 y15, Lists G X' sts rws m ∧ e = eS x1 t (G.length + 3) (G.length + 1 + 3) (pathD p) (rowD q) (.str d.nm) x10 x11 (rowD cur) y13 y14 y15 ∧ S = PD.PS.hS h' (G ++ X'))
      (fun e S => ∃ h' X' sts' rws' y13 y14 y15, Lists G X' sts' rws' (m + 1) ∧ e = eS x1 t (G.length + 3) (G.length + 1 + 3) (pathD p) (rowD q) (.str d.nm) x10 x11 (rowD cur) y13 y14 y15 ∧ S = PD.PS.hS h' (G ++ X'))
      (fun _ _ => False) := by
  have hcur : R60 cur := L.rs cur (by rw [he]; simp)
  obtain ⟨plt, hq⟩ := get_lt60 hcur hg
  have lq := lenR_ok q
  have lq60 := len_le_cnt q hq.ok
  have q60 := hq.cnt
  -- the place
  obtain ⟨i, h1, hi, e13⟩ : ∃ (i : Nat) (h1 : Hs), i ≤ 60 ∧ evE (callN T (n + 12)) (eS x1 t (G.length + 3) (G.length + 1 + 3) (pathD p) (rowD q) (.str d.nm) x10 x11 (rowD cur) x13 x14 x15) (.ife (.cmp .Gt (.blt .len (.cons (.slot 8) .nil)) (.cst (.int 0))) (.call 9 (.cons (.slot 0) (.cons (.blt .len (.cons (.slot 8) .nil)) .nil))) (.cst (.int 0))) (PD.PS.hS h (G ++ X)) = .ok (.int (i : Int)) (PD.PS.hS h1 (G ++ X)) := by
    by_cases hz : q.length = 0
    · refine ⟨0, h, by omega, ?_⟩
      have z : ¬ (0 : Int) < (q.length : Int) := by omega
      simp only [eS, e_ife, t_cmp, e_blt, es_cons, es_nil, e_slot, List.getElem?_cons_succ, List.getElem?_cons_zero, R.bind_ok, lq, e_cst, c_gt, z, decide_false, Bool.false_eq_true, if_false]
      rfl
    · have z : (0 : Int) < (q.length : Int) := by omega
      have dr := draw_eq hT.t.dr.h9 (n := n + 11) h (G ++ X) (q.length : Int) z (by omega)
      obtain ⟨v, hv⟩ := Int.eq_ofNat_of_zero_le (drawV_nn h z)
      have hv2 := drawV_lt h z
      rw [hv] at dr hv2
      refine ⟨v, drawH h (q.length : Int), by omega, ?_⟩
      simp only [eS, e_ife, t_cmp, e_blt, es_cons, es_nil, e_slot, List.getElem?_cons_succ, List.getElem?_cons_zero, R.bind_ok, lq, e_cst, c_gt, z, decide_true, if_true, e_call, dr]
  -- the number
  obtain ⟨k, h2, hk, e14⟩ : ∃ (k : Nat) (h2 : Hs), k ≤ 5 ∧ ∀ x13, evE (callN T (n + 12)) (eS x1 t (G.length + 3) (G.length + 1 + 3) (pathD p) (rowD q) (.str d.nm) x10 x11 (rowD cur) x13 x14 x15) (.ife (.cmp .NotEq (.slot 9) (.cst (.str ("back" : PySem.Str)))) (.bin .Add (.cst (.int 1)) (.call 9 (.cons (.slot 0) (.cons (.cst (.int 4)) .nil)))) (.bin .Add (.cst (.int 1)) (.call 9 (.cons (.slot 0) (.cons (.cst (.int 2)) .nil))))) (PD.PS.hS h1 (G ++ X)) = .ok (.int (k : Int)) (PD.PS.hS h2 (G ++ X)) := by
    have eb : ∀ S, opEq (.str d.nm) (.str ("back" : Str)) S = .ok (decide (d = .back)) S := fun S => nm_eq d .back S
    by_cases hb : d = .back
    · have dr := draw_eq hT.t.dr.h9 (n := n + 11) h1 (G ++ X) 2 (by decide) (by decide)
      obtain ⟨v, hv⟩ := Int.eq_ofNat_of_zero_le (drawV_nn h1 (m := 2) (by decide))
      have hv2 := drawV_lt h1 (m := 2) (by decide)
      rw [hv] at dr hv2
      refine ⟨v + 1, drawH h1 2, by omega, fun x13 => ?_⟩
      have c : (1 : Int) + (v : Int) = ((v + 1 : Nat) : Int) := by omega
      have eb' : ∀ S, opEq (.str d.nm) (.str ("back" : Str)) S = .ok true S := fun S => by rw [eb, decide_eq_true hb]
      simp only [eS, e_ife, t_cmp, es_cons, es_nil, e_slot, List.getElem?_cons_succ, List.getElem?_cons_zero, R.bind_ok, e_cst, c_ne, eb', R.map_ok, Bool.not_true, Bool.false_eq_true, if_false, e_bin, e_call, dr, b_add, c]
    · have dr := draw_eq hT.t.dr.h9 (n := n + 11) h1 (G ++ X) 4 (by decide) (by decide)
      obtain ⟨v, hv⟩ := Int.eq_ofNat_of_zero_le (drawV_nn h1 (m := 4) (by decide))
      have hv2 := drawV_lt h1 (m := 4) (by decide)
      rw [hv] at dr hv2
      refine ⟨v + 1, drawH h1 4, by omega, fun x13 => ?_⟩
      have c : (1 : Int) + (v : Int) = ((v + 1 : Nat) : Int) := by omega
      have eb' : ∀ S, opEq (.str d.nm) (.str ("back" : Str)) S = .ok false S := fun S => by rw [eb, decide_eq_false hb]
      simp only [eS, e_ife, t_cmp, es_cons, es_nil, e_slot, List.getElem?_cons_succ, List.getElem?_cons_zero, R.bind_ok, e_cst, c_ne, eb', R.map_ok, Bool.not_false, if_true, e_bin, e_call, dr, b_add, c]
  have z4 : 0 + 1 + 1 + 1 + 1 ≤ sizeLine := le_sz (by omega)
  have bd : Bd i k p := ⟨by omega, hk, by omega, plt⟩
  have ls := law_step_ok (n := n) hT hcur.fit d bd (PD.PS.hS h2 (G ++ X))
  have sd : D.tup [pathD p, .int (i : Int), .str d.nm, .int (k : Int)] = stepD d i k p := rfl
  -- the first three statements
  have pre : ∀ r, exTs (callN T (n + 12)) (.cons (.asg (.nm 13) (.ife (.cmp .Gt (.blt .len (.cons (.slot 8) .nil)) (.cst (.int 0))) (.call 9 (.cons (.slot 0) (.cons (.blt .len (.cons (.slot 8) .nil)) .nil))) (.cst (.int 0)))) (.cons (.asg (.nm 14) (.tup (.cons (.slot 7) (.cons (.slot 13) (.cons (.slot 9) (.cons (.ife (.cmp .NotEq (.slot 9) (.cst (.str ("back" : PySem.Str)))) (.bin .Add (.cst (.int 1)) (.call 9 (.cons (.slot 0) (.cons (.cst (.int 4)) .nil)))) (.bin .Add (.cst (.int 1)) (.call 9 (.cons (.slot 0) (.cons (.cst (.int 2)) .nil))))) .nil)))))) (.cons (.asg (.nm 15) (.call 81 (.cons (.slot 12) (.cons (.slot 14) .nil)))) r))) (eS x1 t (G.length + 3) (G.length + 1 + 3) (pathD p) (rowD q) (.str d.nm) x10 x11 (rowD cur) x13 x14 x15) (PD.PS.hS h (G ++ X)) = exTs (callN T (n + 12)) r (eS x1 t (G.length + 3) (G.length + 1 + 3) (pathD p) (rowD q) (.str d.nm) x10 x11 (rowD cur) (some (.int (i : Int))) (some (stepD d i k p)) (some (optR (stepR d i k p cur)))) (PD.PS.hS h2 (G ++ X)) := fun r => by
    rw [xs_cons, x_asg, e13]
    simp only [R.out_ok, eS, g_nm, List.set_cons_succ, List.set_cons_zero, Out.thn_nx]
    have e14' := e14 (some (.int (i : Int)))
    simp only [eS] at e14'
    rw [xs_cons]
    simp only [x_asg, e_tup, es_cons, es_nil, e_slot, List.getElem?_cons_succ, List.getElem?_cons_zero, R.bind_ok, e14', List.length_cons, List.length_nil, z4, if_true, sd, R.out_ok, g_nm, List.set_cons_succ, List.set_cons_zero, Out.thn_nx]
    rw [xs_cons]
    simp only [x_asg, e_call, es_cons, es_nil, e_slot, List.getElem?_cons_succ, List.getElem?_cons_zero, R.bind_ok, ls, R.out_ok, g_nm, List.set_cons_succ, List.set_cons_zero, Out.thn_nx]
  rw [inB_eq, pre]
  cases hr : stepR d i k p cur with
  | none =>
    refine satB_nx (e := eS x1 t (G.length + 3) (G.length + 1 + 3) (pathD p) (rowD q) (.str d.nm) x10 x11 (rowD cur) (some (.int (i : Int))) (some (stepD d i k p)) (some .non)) (S := PD.PS.hS h2 (G ++ X)) ?_ ⟨h2, X, _, _, _, L, rfl, rfl⟩
    simp only [eS, optR, xs_cons, xs_nil, x_iff, t_and, t_cmp, e_slot, List.getElem?_cons_succ, List.getElem?_cons_zero, R.bind_ok, e_cst, c_isn, is_nn, R.map_ok, Bool.not_true, Bool.false_eq_true, if_false, R.out_ok, Out.thn_nx]
  | some r' =>
    obtain ⟨o1, o2, o3, o4⟩ := step_ok hk hr hcur.ok
    have fr : Fit r' := ⟨o1, by have := hcur.dep; omega, by have := hcur.cnt; omega⟩
    have ct := fun S => count_ok (n := n + 5) hT.t.h41 6 r' S fr.dep fr.ok (by have := fr.cnt; omega)
    have isn : ∀ S, opIs (rowD r') .non S = .ok false S := fun _ => rfl
    by_cases c60 : cntR r' ≤ 60
    · have c60' : (cntR r' : Int) ≤ 60 := by omega
      have gb : (PD.PS.hS h2 (G ++ X))[G.length + 1 + 3]? = some (.lst (rws.map rowD)) := by rw [hS_get]; exact L.rw
      have cut : cutD (rws.map rowD) (some ((rws.length : Int) - 1)) none = [rowD cur] := by
        have : ((rws.length : Int) - 1) = (init.length : Nat) := by rw [he]; simp
        rw [this, cutG_lo, he, List.map_append, List.drop_left' (by simp)]
        rfl
      have inr := in_row hcur fr (S := PD.PS.hS h2 (G ++ X ++ [.lst [rowD cur]])) (c := (G ++ X).length + 3) (by rw [hS_get]; simp)
      have tst : evT (callN T (n + 12)) (eS x1 t (G.length + 3) (G.length + 1 + 3) (pathD p) (rowD q) (.str d.nm) x10 x11 (rowD cur) (some (.int (i : Int))) (some (stepD d i k p)) (some (rowD r'))) (.and (.cmp .IsNot (.slot 15) (.cst .non)) (.and (.cmp .LtE (.call 41 (.cons (.slot 15) .nil)) (.slot 3)) (.cmp .NotIn (.slot 15) (.slc (.slot 6) (.so (.bin .Sub (.blt .len (.cons (.slot 6) .nil)) (.cst (.int 1)))) .no)))) (PD.PS.hS h2 (G ++ X)) = .ok (!rowBeq cur r') (PD.PS.hS h2 (G ++ X ++ [.lst [rowD cur]])) := by
        simp only [eS, t_and, t_cmp, e_call, e_blt, e_bin, e_slc, o_so, o_no, es_cons, es_nil, e_slot, List.getElem?_cons_succ, List.getElem?_cons_zero, R.bind_ok, e_cst, c_isn, isn, R.map_ok, Bool.not_false, if_true, ct, c_le, c60', decide_true, f_lenr, items_ref, gb, List.length_map, b_sub, slc_ref, cut, newL_eq, hS_len, hS_app, c_nin, inr]
      have gX : GW (G ++ (X ++ [Cell.lst [rowD cur]])) := by rw [← List.append_assoc]; exact L.gw.lst (lts_rows 0 [cur])
      have L2 := L.more [.lst [rowD cur]] gX
      rw [List.append_assoc] at tst
      cases hb : rowBeq cur r' with
      | true =>
        rw [hb] at tst
        refine satB_nx (e := eS x1 t (G.length + 3) (G.length + 1 + 3) (pathD p) (rowD q) (.str d.nm) x10 x11 (rowD cur) (some (.int (i : Int))) (some (stepD d i k p)) (some (rowD r'))) (S := PD.PS.hS h2 (G ++ (X ++ [.lst [rowD cur]]))) ?_ ⟨h2, _, _, _, _, L2, rfl, rfl⟩
        rw [optR, xs_cons, x_iff, tst]
        simp only [R.out_ok, Bool.not_true, Bool.false_eq_true, if_false, xs_nil, Out.thn_nx]
      | false =>
        rw [hb] at tst
        obtain ⟨X', e1, L3⟩ := L2.push (s := ⟨d, i, k, p⟩) (r := r') bd ⟨o1, by have := hcur.dep; omega, c60⟩
        have ga : (PD.PS.hS h2 (G ++ (X ++ [.lst [rowD cur]])))[G.length + 3]? = some (.lst (sts.map stD)) := by rw [hS_get]; exact L2.st
        have za : (sts.map stD).length < sizeLine := by rw [List.length_map]; exact len_lt_sz (by have := L.l1; omega)
        have zb : (rws.map rowD).length < sizeLine := by rw [List.length_map]; exact len_lt_sz (by have := L.l2; omega)
        have ma : sts.map stD ++ [stepD d i k p] = (sts ++ [(⟨d, i, k, p⟩ : Stp)]).map stD := by simp [stD]
        have mb : rws.map rowD ++ [rowD r'] = (rws ++ [r']).map rowD := by simp
        have gb2 : ((G ++ (X ++ [Cell.lst [rowD cur]])).set G.length (Cell.lst ((sts ++ [(⟨d, i, k, p⟩ : Stp)]).map stD)))[G.length + 1]? = some (.lst (rws.map rowD)) := by
          rw [List.getElem?_set_ne (by omega)]; exact L2.rw
        have go : exTs (callN T (n + 12)) (.cons (.exp (.mth .append (.slot 5) (.cons (.slot 14) .nil))) (.cons (.exp (.mth .append (.slot 6) (.cons (.slot 15) .nil))) (.cons .brk .nil))) (eS x1 t (G.length + 3) (G.length + 1 + 3) (pathD p) (rowD q) (.str d.nm) x10 x11 (rowD cur) (some (.int (i : Int))) (some (stepD d i k p)) (some (rowD r'))) (PD.PS.hS h2 (G ++ (X ++ [.lst [rowD cur]]))) = .bk (eS x1 t (G.length + 3) (G.length + 1 + 3) (pathD p) (rowD q) (.str d.nm) x10 x11 (rowD cur) (some (.int (i : Int))) (some (stepD d i k p)) (some (rowD r'))) (PD.PS.hS h2 (G ++ X')) := by
          simp only [eS, xs_cons, x_exp, e_mth, e_slot, List.getElem?_cons_succ, List.getElem?_cons_zero, R.bind_ok, rcv_app, ga, if_true, es_cons, es_nil, m_app, za, ma, hS_set, hS_get, gb2, zb, mb, e1, R.out_ok, Out.thn_nx, x_brk, Out.thn_bk]
        rw [optR, xs_cons, x_iff, tst]
        simp only [R.out_ok, Bool.not_false, if_true]
        rw [go]
        simp only [Out.thn_bk]
        exact ⟨h2, X', _, _, _, _, _, L3, rfl, rfl⟩
    · have c60' : ¬ (cntR r' : Int) ≤ 60 := by omega
      refine satB_nx (e := eS x1 t (G.length + 3) (G.length + 1 + 3) (pathD p) (rowD q) (.str d.nm) x10 x11 (rowD cur) (some (.int (i : Int))) (some (stepD d i k p)) (some (rowD r'))) (S := PD.PS.hS h2 (G ++ X)) ?_ ⟨h2, X, _, _, _, L, rfl, rfl⟩
      simp only [eS, optR, xs_cons, xs_nil, x_iff, t_and, t_cmp, e_call, es_cons, es_nil, e_slot, List.getElem?_cons_succ, List.getElem?_cons_zero, R.bind_ok, e_cst, c_isn, isn, R.map_ok, Bool.not_false, if_true, ct, c_le, c60', decide_false, Bool.false_eq_true, if_false, R.out_ok, Out.thn_nx]
def deedS : List Str := ["turn", "back", "times", "fold", "turn", "back"]
theorem deedS_nm : ∀ s ∈ deedS, ∃ d : Deed, s = d.nm := by
  intro s hs
  simp only [deedS, List.mem_cons, List.not_mem_nil, or_false] at hs
  rcases hs with rfl | rfl | rfl | rfl | rfl | rfl
  · exact ⟨.turn, rfl⟩
  · exact ⟨.back, rfl⟩
  · exact ⟨.times, rfl⟩
  · exact ⟨.fold, rfl⟩
  · exact ⟨.turn, rfl⟩
  · exact ⟨.back, rfl⟩
theorem path_nil : D.tup [] = pathD [] := rfl
/-- one turn of the drawing -/
theorem outer_ok (hT : Fns T) {G X : Store} {sts : List Stp} {rws : List Rw} {m : Nat} (L : Lists G X sts rws m) (hm : m ≤ 20) (h : Hs) (x1 t x7 x8 x9 x10 x11 x12 x13 x14 x15 : Option D) :
    (exTs (callN T (n + 12)) outB [some (.ref 2), x1, some (.int 3), some (.int 60), t, some (.ref (G.length + 3)), some (.ref (G.length + 1 + 3)), x7, x8, x9, x10, x11, x12, x13, x14, x15] (hS h (G ++ X))).sat
      (fun e S => ∃ h' X' sts' rws' y7 y8 y9 y10 y11 y12 y13 y14 y15, Lists G X' sts' rws' (m + 1) ∧ e = [some (.ref 2), x1, some (.int 3), some (.int 60), t, some (.ref (G.length + 3)), some (.ref (G.length + 1 + 3)), y7, y8, y9, y10, y11, y12, y13, y14, y15] ∧ S = PD.PS.hS h' (G ++ X'))
      (fun _ _ => False) := by
  obtain ⟨init, cur, he⟩ : ∃ init cur, rws = init ++ [cur] := ⟨rws.dropLast, rws.getLast L.ne, (List.dropLast_concat_getLast L.ne).symm⟩
  have hcur : R60 cur := L.rs cur (by rw [he]; simp)
  have z0 : ([] : List D).length ≤ sizeLine := Nat.zero_le _
  have z2 : 0 + 1 + 1 ≤ sizeLine := le_sz (by omega)
  obtain ⟨X2, Lp, g2, k2, l2, p2, e2⟩ := paths_ok (n := n + 5) hT 6 cur hcur.fit hcur.dep [] h (G ++ X) (by have := hcur.dep; simp; omega) L.gw
  rw [List.append_assoc] at g2 k2 e2
  have L2 := L.more X2 g2
  have gb : (PD.PS.hS h (G ++ X))[G.length + 1 + 3]? = some (.lst (rws.map rowD)) := by rw [hS_get]; exact L.rw
  have gb2 : (PD.PS.hS h (G ++ (X ++ X2)))[G.length + 1 + 3]? = some (.lst (rws.map rowD)) := by rw [hS_get]; exact L2.rw
  have la := at_last gb he
  have lb := at_last gb2 he
  have s11 : exT (callN T (n + 12)) (.asg (.tp (.cons (.nm 11) (.cons (.nm 12) .nil))) (.tup (.cons (.call 58 (.cons (.ix (.slot 6) (.bin .Sub (.blt .len (.cons (.slot 6) .nil)) (.cst (.int 1)))) (.cons (.tup .nil) .nil))) (.cons (.ix (.slot 6) (.bin .Sub (.blt .len (.cons (.slot 6) .nil)) (.cst (.int 1)))) .nil)))) [some (.ref 2), x1, some (.int 3), some (.int 60), t, some (.ref (G.length + 3)), some (.ref (G.length + 1 + 3)), x7, x8, x9, x10, x11, x12, x13, x14, x15] (PD.PS.hS h (G ++ X)) = .nx [some (.ref 2), x1, some (.int 3), some (.int 60), t, some (.ref (G.length + 3)), some (.ref (G.length + 1 + 3)), x7, x8, x9, x10, some (.ref ((G ++ X).length + 3)), some (rowD cur), x13, x14, x15] (PD.PS.hS h (G ++ (X ++ X2))) := by
    simp only [x_asg, e_tup, e_call, e_ix, e_bin, e_blt, es_cons, es_nil, e_slot, e_cst, List.getElem?_cons_succ, List.getElem?_cons_zero, R.bind_ok, f_lenr, items_ref, gb, List.length_map, b_sub, la, Nat.zero_le, if_true, path_nil, e2, gb2, lb, List.length_cons, List.length_nil, z2, R.out_ok, g_tp, items_tup, gs_cons, gs_nil, g_nm, List.set_cons_succ, List.set_cons_zero]
  -- a path
  obtain ⟨y, hy, ey⟩ := some_eq (n := n + 10) hT.t.dr h (G ++ (X ++ X2)) (c := (G ++ X).length) (ds := Lp.map pathD) k2 (by rw [List.length_map]; omega) (by rw [List.length_map, l2]; have := hcur.fit.evs; omega)
  obtain ⟨p, hp, rfl⟩ := List.mem_map.1 hy
  obtain ⟨ps, q, hpe, hg, hpl⟩ := p2 p hp
  rw [List.nil_append] at hpe
  subst hpe
  generalize drawH h ((Lp.map pathD).length : Int) = h1 at ey
  have gt := law_get_ok (n := n + 11) hT (by have := hcur.dep; omega) hg (PD.PS.hS h1 (G ++ (X ++ X2)))
  have gt' : callN T (n + 12) 60 [rowD cur, pathD p] (PD.PS.hS h1 (G ++ (X ++ X2))) = .ok (rowD q) (PD.PS.hS h1 (G ++ (X ++ X2))) := gt
  -- a deed
  have l6 : (deedS.map D.str).length = 6 := rfl
  have g3 : GW (G ++ ((X ++ X2) ++ [Cell.lst (deedS.map D.str)])) := by rw [← List.append_assoc]; exact g2.lst (lts_strs 0 deedS)
  have L3 := L2.more [.lst (deedS.map D.str)] g3
  obtain ⟨z, hz, ez⟩ := some_eq (n := n + 10) hT.t.dr h1 (G ++ ((X ++ X2) ++ [.lst (deedS.map D.str)])) (c := (G ++ (X ++ X2)).length) (ds := deedS.map D.str) (by rw [← List.append_assoc]; simp) (by rw [l6]; omega) (by rw [l6]; omega)
  obtain ⟨s, hs, rfl⟩ := List.mem_map.1 hz
  obtain ⟨d, rfl⟩ := deedS_nm s hs
  generalize drawH h1 ((deedS.map D.str).length : Int) = h2 at ez
  have o6 : [D.str ("turn" : Str), .str ("back" : Str), .str ("times" : Str), .str ("fold" : Str), .str ("turn" : Str), .str ("back" : Str)] = deedS.map D.str := rfl
  have z6 : (deedS.map D.str).length ≤ sizeLine := by rw [l6]; exact le_sz (by omega)
  have s7 : exT (callN T (n + 12)) (.asg (.nm 7) (.call 24 (.cons (.slot 0) (.cons (.slot 11) .nil)))) [some (.ref 2), x1, some (.int 3), some (.int 60), t, some (.ref (G.length + 3)), some (.ref (G.length + 1 + 3)), x7, x8, x9, x10, some (.ref ((G ++ X).length + 3)), some (rowD cur), x13, x14, x15] (PD.PS.hS h (G ++ (X ++ X2))) = .nx [some (.ref 2), x1, some (.int 3), some (.int 60), t, some (.ref (G.length + 3)), some (.ref (G.length + 1 + 3)), some (pathD p), x8, x9, x10, some (.ref ((G ++ X).length + 3)), some (rowD cur), x13, x14, x15] (PD.PS.hS h1 (G ++ (X ++ X2))) := by
    simp only [x_asg, e_call, es_cons, es_nil, e_slot, List.getElem?_cons_succ, List.getElem?_cons_zero, R.bind_ok, ey, R.out_ok, g_nm, List.set_cons_succ, List.set_cons_zero]
  have s8 : exT (callN T (n + 12)) (.asg (.nm 8) (.call 60 (.cons (.slot 12) (.cons (.slot 7) .nil)))) [some (.ref 2), x1, some (.int 3), some (.int 60), t, some (.ref (G.length + 3)), some (.ref (G.length + 1 + 3)), some (pathD p), x8, x9, x10, some (.ref ((G ++ X).length + 3)), some (rowD cur), x13, x14, x15] (PD.PS.hS h1 (G ++ (X ++ X2))) = .nx [some (.ref 2), x1, some (.int 3), some (.int 60), t, some (.ref (G.length + 3)), some (.ref (G.length + 1 + 3)), some (pathD p), some (rowD q), x9, x10, some (.ref ((G ++ X).length + 3)), some (rowD cur), x13, x14, x15] (PD.PS.hS h1 (G ++ (X ++ X2))) := by
    simp only [x_asg, e_call, es_cons, es_nil, e_slot, List.getElem?_cons_succ, List.getElem?_cons_zero, R.bind_ok, gt', R.out_ok, g_nm, List.set_cons_succ, List.set_cons_zero]
  have s9 : exT (callN T (n + 12)) (.asg (.nm 9) (.call 24 (.cons (.slot 0) (.cons (.lst (.cons (.cst (.str ("turn" : PySem.Str))) (.cons (.cst (.str ("back" : PySem.Str))) (.cons (.cst (.str ("times" : PySem.Str))) (.cons (.cst (.str ("fold" : PySem.Str))) (.cons (.cst (.str ("turn" : PySem.Str))) (.cons (.cst (.str ("back" : PySem.Str))) .nil))))))) .nil)))) [some (.ref 2), x1, some (.int 3), some (.int 60), t, some (.ref (G.length + 3)), some (.ref (G.length + 1 + 3)), some (pathD p), some (rowD q), x9, x10, some (.ref ((G ++ X).length + 3)), some (rowD cur), x13, x14, x15] (PD.PS.hS h1 (G ++ (X ++ X2))) = .nx [some (.ref 2), x1, some (.int 3), some (.int 60), t, some (.ref (G.length + 3)), some (.ref (G.length + 1 + 3)), some (pathD p), some (rowD q), some (.str d.nm), x10, some (.ref ((G ++ X).length + 3)), some (rowD cur), x13, x14, x15] (PD.PS.hS h2 (G ++ ((X ++ X2) ++ [.lst (deedS.map D.str)]))) := by
    have ez' := ez
    rw [← List.append_assoc G (X ++ X2)] at ez'
    simp only [x_asg, e_call, es_cons, es_nil, e_slot, e_lst, e_cst, List.getElem?_cons_succ, List.getElem?_cons_zero, R.bind_ok, o6, z6, if_true, newL_eq, hS_len, hS_app, ez', R.out_ok, g_nm, List.set_cons_succ, List.set_cons_zero]
    rw [List.append_assoc]
  rw [outB_eq, xs_cons, s11, Out.thn_nx, xs_cons, s7, Out.thn_nx, xs_cons, s8, Out.thn_nx, xs_cons, s9, Out.thn_nx, xs_cons]
  generalize hXX : (X ++ X2) ++ [Cell.lst (deedS.map D.str)] = X3 at L3
  generalize hpp : pathD p = pp
  generalize hqq : rowD q = qq
  generalize hcc : rowD cur = cc
  with_reducible refine sat_thn (N := fun e S => ∃ h' X' sts' rws' y10 y13 y14 y15, Lists G X' sts' rws' (m + 1) ∧ e = eS x1 t (G.length + 3) (G.length + 1 + 3) pp qq (.str d.nm) y10 (some (.ref ((G ++ X).length + 3))) cc y13 y14 y15 ∧ S = PD.PS.hS h' (G ++ X')) ?_ ?_
  · with_reducible refine for_rng 6 (S' := PD.PS.hS h2 (G ++ X3)) (rng1_sat (k := 6) (by simp) (by omega) (by omega)) (le_sz (by omega)) (fun i e S => ∃ h' X' y10 y13 y14 y15, Lists G X' sts rws m ∧ e = eS x1 t (G.length + 3) (G.length + 1 + 3) pp qq (.str d.nm) y10 (some (.ref ((G ++ X).length + 3))) cc y13 y14 y15 ∧ S = PD.PS.hS h' (G ++ X')) ⟨h2, X3, _, _, _, _, L3, rfl, rfl⟩ ?_ (fun e S ⟨h', X', y10, y13, y14, y15, a1, a2, a3⟩ => ⟨h', X', sts, rws, y10, y13, y14, y15, a1.up (by omega), a2, a3⟩)
    rintro i env S hi ⟨h', X', y10, y13, y14, y15, LL, rfl, rfl⟩
    refine ⟨eS x1 t (G.length + 3) (G.length + 1 + 3) pp qq (.str d.nm) (some (.int (i : Int))) (some (.ref ((G ++ X).length + 3))) cc y13 y14 y15, g_nm _ _, ?_⟩
    have inn := inner_ok (n := n) hT LL hm he hg (by have := hcur.dep; omega) d h' x1 t (some (.int (i : Int))) (some (.ref ((G ++ X).length + 3))) y13 y14 y15
    rw [hpp, hqq, hcc] at inn
    refine satB_mono2 inn ?_ ?_ (fun _ _ h => h)
    · rintro e S ⟨h3, X4, y13, y14, y15, b1, b2, b3⟩
      exact ⟨h3, X4, _, y13, y14, y15, b1, b2, b3⟩
    · rintro e S ⟨h3, X4, sts', rws', y13, y14, y15, b1, b2, b3⟩
      exact ⟨h3, X4, sts', rws', _, y13, y14, y15, b1, b2, b3⟩
  · rintro e S ⟨h', X', sts', rws', y10, y13, y14, y15, a1, rfl, rfl⟩
    exact sat_nxI xs_nil ⟨h', X', sts', rws', _, _, _, _, _, _, _, _, _, a1, rfl, rfl⟩
end
end PD.PS.K30r
end

section
set_option linter.all false
set_option maxRecDepth 100000
set_option maxHeartbeats 2000000
/-! K30e: drawn steps, the call. -/
namespace PD.PS.K30r
open PySem K30
theorem satB_of {o : Out} {N N' B : Env → Store → Prop} {Q : D → Store → Prop} (h : o.sat N (fun _ _ => False)) (h1 : ∀ e S, N e S → N' e S) : o.satB N' B Q := by
  cases o <;> simp only [Out.sat] at h
  exact h1 _ _ h
section
variable {T : Tab} {n : Nat}
theorem steps_key (hT : Fns T) (h : Hs) (G : Store) (g : GW G) {r : Rw} (hr : R60 r) (rr : D) (hrr : rr = rowD r) :
    (exTs (callN T (n + 12)) d__law_steps.body [some (.ref 2), some rr, some (.int 3), some (.int 60), none, none, none, none, none, none, none, none, none, none, none, none] (hS h G)).sat (fun _ _ => False)
      (fun v S => ∃ h' X sts rws, v = .tup [.ref (G.length + 3), .ref (G.length + 1 + 3)] ∧ S = PD.PS.hS h' (G ++ X) ∧ Lists G X sts rws 3) := by
  have z1 : 0 + 1 ≤ sizeLine := le_sz (by omega)
  have z2 : 0 + 1 + 1 ≤ sizeLine := le_sz (by omega)
  have g0 : GW (G ++ [Cell.lst [], .lst [rr]]) := g.app (by rw [hrr]; simp [cellsLt, Cell.lt, D.lts])
  have L0 : Lists G [.lst [], .lst [rr]] [] [r] 0 := ⟨g0, by simp, by rw [hrr]; simp, by simp, by simp, by simpa using hr, by simp, by simp⟩
  have s0 : exT (callN T (n + 12)) (.asg (.tp (.cons (.nm 5) (.cons (.nm 6) .nil))) (.tup (.cons (.lst .nil) (.cons (.lst (.cons (.slot 1) .nil)) .nil)))) [some (.ref 2), some rr, some (.int 3), some (.int 60), none, none, none, none, none, none, none, none, none, none, none, none] (PD.PS.hS h G) = .nx [some (.ref 2), some rr, some (.int 3), some (.int 60), none, some (.ref (G.length + 3)), some (.ref (G.length + 1 + 3)), none, none, none, none, none, none, none, none, none] (PD.PS.hS h (G ++ [.lst [], .lst [rr]])) := by
    simp only [x_asg, e_tup, e_lst, es_cons, es_nil, e_slot, List.getElem?_cons_succ, List.getElem?_cons_zero, R.bind_ok, List.length_nil, Nat.zero_le, if_true, newL_eq, hS_len, hS_app, List.length_cons, z1, z2, List.length_append, List.append_assoc, List.cons_append, List.nil_append, Nat.zero_add, R.out_ok, g_tp, items_tup, gs_cons, gs_nil, g_nm, List.set_cons_succ, List.set_cons_zero]
  rw [steps_eq, xs_cons, s0, Out.thn_nx, xs_cons]
  with_reducible refine sat_thn (N := fun e S => ∃ h' X sts rws x4 y7 y8 y9 y10 y11 y12 y13 y14 y15, Lists G X sts rws 3 ∧ e = [some (.ref 2), some rr, some (.int 3), some (.int 60), x4, some (.ref (G.length + 3)), some (.ref (G.length + 1 + 3)), y7, y8, y9, y10, y11, y12, y13, y14, y15] ∧ S = PD.PS.hS h' (G ++ X)) ?_ ?_
  · with_reducible refine for_rng 3 (S' := PD.PS.hS h (G ++ [.lst [], .lst [rr]])) (rng1_sat (k := 3) (by simp) (by omega) (by omega)) (le_sz (by omega)) (fun i e S => ∃ h' X sts rws x4 y7 y8 y9 y10 y11 y12 y13 y14 y15, Lists G X sts rws i ∧ e = [some (.ref 2), some rr, some (.int 3), some (.int 60), x4, some (.ref (G.length + 3)), some (.ref (G.length + 1 + 3)), y7, y8, y9, y10, y11, y12, y13, y14, y15] ∧ S = PD.PS.hS h' (G ++ X)) ⟨h, _, [], [r], _, _, _, _, _, _, _, _, _, _, L0, rfl, rfl⟩ ?_ (fun e S q => q)
    rintro i env S hi ⟨h', X, sts, rws, x4, y7, y8, y9, y10, y11, y12, y13, y14, y15, L, rfl, rfl⟩
    refine ⟨_, g_nm _ _, ?_⟩
    simp only [List.set_cons_succ, List.set_cons_zero]
    have oo := outer_ok (n := n) hT L (by omega) h' (some rr) (some (.int (i : Int))) y7 y8 y9 y10 y11 y12 y13 y14 y15
    refine satB_of oo ?_
    rintro e S ⟨h3, X3, sts', rws', z7, z8, z9, z10, z11, z12, z13, z14, z15, a1, a2, a3⟩
    exact ⟨h3, X3, sts', rws', _, z7, z8, z9, z10, z11, z12, z13, z14, z15, a1, a2, a3⟩
  · rintro e S ⟨h', X, sts, rws, x4, y7, y8, y9, y10, y11, y12, y13, y14, y15, L, rfl, rfl⟩
    refine sat_rtI (d := .tup [.ref (G.length + 3), .ref (G.length + 1 + 3)]) (S := PD.PS.hS h' (G ++ X)) ?_ ⟨h', X, sts, rws, rfl, rfl, L⟩
    simp only [xs_cons, x_ret, e_tup, es_cons, es_nil, e_slot, List.getElem?_cons_succ, List.getElem?_cons_zero, R.bind_ok, List.length_cons, List.length_nil, z2, if_true, R.out_ok, Out.thn_rt]
theorem steps_ok (hT : Fns T) (h : Hs) (G : Store) (g : GW G) {r : Rw} (hr : R60 r) : ∃ h' X sts rws, Lists G X sts rws 3 ∧ callN T (n + 13) 111 [.ref 2, rowD r, .int 3, .int 60] (hS h G) = .ok (.tup [.ref (G.length + 3), .ref (G.length + 1 + 3)]) (hS h' (G ++ X)) := by
  obtain ⟨rr, hrr⟩ : ∃ rr, rr = rowD r := ⟨_, rfl⟩
  have key := steps_key (n := n) hT h G g hr rr hrr
  rw [← hrr]
  obtain ⟨v, S', e, h', X, sts, rws, hv, hS, L⟩ := sat_rt key
  subst hv
  subst hS
  refine ⟨h', X, sts, rws, L, ?_⟩
  rw [call_rt hT.h111 rfl e]
  have : gcS (PD.PS.hS h G) (.tup [.ref (G.length + 3), .ref (G.length + 1 + 3)]) (PD.PS.hS h' (G ++ X)) = PD.PS.hS h' (G ++ X) := by
    unfold gcS
    simp [D.lt, D.lts]
  rw [this]
end
end PD.PS.K30r
end

section
set_option linter.all false
set_option maxRecDepth 100000
set_option maxHeartbeats 2000000
/-! K30f: one tried step; things that are no step. -/
namespace PD.PS.K30r
open PySem K30
def kvO : List (L2.Key × D) := mergeD [] [(.inr ("turn" : PySem.Str), (.str ("back" : PySem.Str))), (.inr ("back" : PySem.Str), (.str ("turn" : PySem.Str))), (.inr ("fold" : PySem.Str), (.str ("times" : PySem.Str))), (.inr ("times" : PySem.Str), (.str ("fold" : PySem.Str)))]
theorem other_at {h : Hs} {G : Store} (hg : G[0]? = some (.dic kvO)) (d : Deed) : opIx (.ref 3) (.str d.nm) (hS h G) = .ok (.str d.inv.nm) (hS h G) := by
  have e : (hS h G)[3]? = some (.dic kvO) := hg
  have v : valD kvO (.inr d.nm) = some (.str d.inv.nm) := by cases d <;> kernel_rfl
  simp only [opIx, dicOf, e, D.key, v]
def turnE : E := .tup (.cons (.ix (.slot 8) (.cst (.int 0))) (.cons (.ix (.slot 8) (.cst (.int 1))) (.cons (.ix (.slot 2) (.ix (.slot 8) (.cst (.int 2)))) (.cons (.ix (.slot 8) (.cst (.int 3))) .nil))))
theorem turnE_ok {F : Fn} {env : Env} {h : Hs} {G : Store} (hg : G[0]? = some (.dic kvO)) (d : Deed) (i k : Nat) (ps : List Nat) (h8 : env[8]? = some (some (stepD d i k ps))) (h2 : env[2]? = some (some (.ref 3))) : evE F env turnE (hS h G) = .ok (stepD d.inv i k ps) (hS h G) := by
  obtain ⟨i0, i1, i2, i3⟩ := ix4 (tupI (natI ps)) (.int (i : Int)) (.str d.nm) (.int (k : Int)) (PD.PS.hS h G)
  have z4 : 0 + 1 + 1 + 1 + 1 ≤ sizeLine := le_sz (by omega)
  have ot := other_at (h := h) hg d
  unfold stepD at h8
  simp only [turnE, e_tup, es_cons, es_nil, e_ix, e_slot, h8, h2, e_cst, R.bind_ok, i0, i1, i2, i3, ot, List.length_cons, List.length_nil, z4, if_true]
  rfl
theorem pls_natI : ∀ ps : List Nat, D.pls ((natI ps).map .int) = true
  | [] => rfl
  | p :: ps => by
    have := pls_natI ps
    simp only [natI, List.map_cons, D.pls, D.pl, Bool.true_and] at this ⊢
    exact this
theorem dps_natI : ∀ ps : List Nat, D.dps ((natI ps).map .int) = 0
  | [] => rfl
  | p :: ps => by
    have := dps_natI ps
    simp only [natI, List.map_cons, D.dps, D.dp] at this ⊢
    rw [this]
    rfl
theorem nm_ok (d : Deed) : PyData.strOk d.nm = true := by cases d <;> kernel_rfl
/-- the slots of the law -/
def eL (x0 x3 x4 x5 x6 x7 x8 x9 x10 x11 x12 x13 x14 x15 x16 x17 : Option D) : Env := [x0, some (.ref 2), some (.ref 3), x3, x4, x5, x6, x7, x8, x9, x10, x11, x12, x13, x14, x15, x16, x17]
def chkB : Ts := (.cons (.asg (.nm 15) (.call 81 (.cons (.slot 6) (.cons (.slot 8) .nil)))) (.cons (.asg (.nm 16) (.call 108 (.cons (.cst (.fnv "stepped")) (.cons (.slot 6) (.cons (.slot 8) .nil))))) (.cons (.iff (.or (.cmp .NotEq (.cmp .Is (.slot 15) (.cst .non)) (.cmp .Is (.slot 16) (.cst .non))) (.and (.cmp .IsNot (.slot 15) (.cst .non)) (.not (.call 15 (.cons (.slot 16) (.cons (.slot 15) .nil)))))) (.cons (.ret (.cst (.bl false))) .nil) .nil) (.cons (.asg (.nm 17) (.call 108 (.cons (.cst (.fnv "undone")) (.cons (.slot 6) (.cons (.slot 8) .nil))))) (.cons (.iff (.cmp .Is (.slot 15) (.cst .non)) (.cons (.iff (.cmp .IsNot (.slot 17) (.cst .non)) (.cons (.ret (.cst (.bl false))) .nil) .nil) (.cons .cnt .nil)) .nil) (.cons (.iff (.or (.not (.call 15 (.cons (.slot 17) (.cons (.tup (.cons (.ix (.slot 8) (.cst (.int 0))) (.cons (.ix (.slot 8) (.cst (.int 1))) (.cons (.ix (.slot 2) (.ix (.slot 8) (.cst (.int 2)))) (.cons (.ix (.slot 8) (.cst (.int 3))) .nil))))) .nil)))) (.not (.call 15 (.cons (.call 109 (.cons (.slot 15) (.cons (.slot 17) .nil))) (.cons (.slot 6) .nil))))) (.cons (.ret (.cst (.bl false))) .nil) .nil) .nil))))))
section
variable {T : Tab} {n : Nat}
theorem kept_step (hT : Fns T) (d : Deed) (i k : Nat) {ps : List Nat} (hl : ps.length ≤ 100) (S : Store) : callN T (n + 16) 15 [stepD d i k ps, stepD d i k ps] S = .ok (.bl true) S := by
  refine kept_data (n := n + 10) hT.h15 5 (stepD d i k ps) S ?_ ?_
  · have := dps_natI ps
    simp only [stepD, tupI, D.dp, D.dps, this]
    omega
  · have h1 := pls_natI ps
    have h2 := nm_ok d
    have h3 : ((natI ps).map D.int).length ≤ 1000000 := by simp [natI]; omega
    simp only [stepD, tupI, D.pl, D.pls, h1, h2, decide_eq_true h3, Bool.and_true, Bool.true_and]
    rfl
theorem fit_step {r r' : Rw} (hr : R60 r) {s : Stp} (hs : BdS s) (e : stepR s.d s.i s.k s.ps r = some r') : Fit r' := by
  obtain ⟨o1, o2, o3, o4⟩ := step_ok hs.hk e hr.ok
  exact ⟨o1, by have := hr.dep; omega, by have := hr.cnt; omega⟩
theorem check_ok (hT : Fns T) {row : Rw} (hr : R60 row) {s : Stp} (hs : BdS s) (h : Hs) (G : Store) (hg : G[0]? = some (.dic kvO)) (x0 x3 x4 x5 x7 x9 x10 x11 x12 x13 x14 x15 x16 x17 : Option D) :
    (exTs (callN T (n + 16)) chkB (eL x0 x3 x4 x5 (some (rowD row)) x7 (some (stD s)) x9 x10 x11 x12 x13 x14 x15 x16 x17) (hS h G)).satB
      (fun e S => S = hS h G ∧ ∃ y15 y16 y17, e = eL x0 x3 x4 x5 (some (rowD row)) x7 (some (stD s)) x9 x10 x11 x12 x13 x14 y15 y16 y17) (fun _ _ => False) (fun _ _ => False) := by
  obtain ⟨d, i, k, ps⟩ := s
  have hs' : Bd i k ps := hs
  have ff : ∀ r', stepR d i k ps row = some r' → Fit r' := fun r' e => fit_step (s := ⟨d, i, k, ps⟩) hr hs e
  have lst := law_step_ok (n := n + 4) hT hr.fit d hs' (PD.PS.hS h G)
  have bh := behind_ok (n := n + 2) hT d hs' hr.fit.short ff (PD.PS.hS h G ++ [.lst [rowD row]])
  have bh1 := behind_ok (n := n + 1) hT d hs' hr.fit.short ff (PD.PS.hS h G ++ [.lst [rowD row]])
  have cb : chkB = (.cons (.asg (.nm 15) (.call 81 (.cons (.slot 6) (.cons (.slot 8) .nil)))) (.cons (.asg (.nm 16) (.call 108 (.cons (.cst (.fnv "stepped")) (.cons (.slot 6) (.cons (.slot 8) .nil))))) (.cons (.iff (.or (.cmp .NotEq (.cmp .Is (.slot 15) (.cst .non)) (.cmp .Is (.slot 16) (.cst .non))) (.and (.cmp .IsNot (.slot 15) (.cst .non)) (.not (.call 15 (.cons (.slot 16) (.cons (.slot 15) .nil)))))) (.cons (.ret (.cst (.bl false))) .nil) .nil) (.cons (.asg (.nm 17) (.call 108 (.cons (.cst (.fnv "undone")) (.cons (.slot 6) (.cons (.slot 8) .nil))))) (.cons (.iff (.cmp .Is (.slot 15) (.cst .non)) (.cons (.iff (.cmp .IsNot (.slot 17) (.cst .non)) (.cons (.ret (.cst (.bl false))) .nil) .nil) (.cons .cnt .nil)) .nil) (.cons (.iff (.or (.not (.call 15 (.cons (.slot 17) (.cons turnE .nil)))) (.not (.call 15 (.cons (.call 109 (.cons (.slot 15) (.cons (.slot 17) .nil))) (.cons (.slot 6) .nil))))) (.cons (.ret (.cst (.bl false))) .nil) .nil) .nil)))))) := rfl
  rw [cb]
  cases hd : stepR d i k ps row with
  | none =>
    rw [hd] at lst bh bh1
    have st1 := stepped_ok (n := n + 1) (o := none) hT hr.fit bh1
    simp only [optR] at lst bh1
    have o1 := out_no (n := n + 1) hT fsO_s st1
    have o2 := out_no (n := n + 1) hT fsO_u (undone_no (n := n + 1) hT hr.fit bh1)
    have go : exTs (callN T (n + 16)) (.cons (.asg (.nm 15) (.call 81 (.cons (.slot 6) (.cons (.slot 8) .nil)))) (.cons (.asg (.nm 16) (.call 108 (.cons (.cst (.fnv "stepped")) (.cons (.slot 6) (.cons (.slot 8) .nil))))) (.cons (.iff (.or (.cmp .NotEq (.cmp .Is (.slot 15) (.cst .non)) (.cmp .Is (.slot 16) (.cst .non))) (.and (.cmp .IsNot (.slot 15) (.cst .non)) (.not (.call 15 (.cons (.slot 16) (.cons (.slot 15) .nil)))))) (.cons (.ret (.cst (.bl false))) .nil) .nil) (.cons (.asg (.nm 17) (.call 108 (.cons (.cst (.fnv "undone")) (.cons (.slot 6) (.cons (.slot 8) .nil))))) (.cons (.iff (.cmp .Is (.slot 15) (.cst .non)) (.cons (.iff (.cmp .IsNot (.slot 17) (.cst .non)) (.cons (.ret (.cst (.bl false))) .nil) .nil) (.cons .cnt .nil)) .nil) (.cons (.iff (.or (.not (.call 15 (.cons (.slot 17) (.cons turnE .nil)))) (.not (.call 15 (.cons (.call 109 (.cons (.slot 15) (.cons (.slot 17) .nil))) (.cons (.slot 6) .nil))))) (.cons (.ret (.cst (.bl false))) .nil) .nil) .nil)))))) (eL x0 x3 x4 x5 (some (rowD row)) x7 (some (stepD d i k ps)) x9 x10 x11 x12 x13 x14 x15 x16 x17) (PD.PS.hS h G) = .ct (eL x0 x3 x4 x5 (some (rowD row)) x7 (some (stepD d i k ps)) x9 x10 x11 x12 x13 x14 (some .non) (some .non) (some .non)) (PD.PS.hS h G) := by
      simp only [eL, xs_cons, xs_nil, x_asg, e_call, es_cons, es_nil, e_slot, e_cst, List.getElem?_cons_succ, List.getElem?_cons_zero, R.bind_ok, lst, o1, R.out_ok, g_nm, List.set_cons_succ, List.set_cons_zero, Out.thn_nx, x_iff, t_or, t_and, t_cmp, e_cmp, c_is, is_nn, R.map_ok, c_ne, opEq_bl, decide_true, Bool.not_true, Bool.false_eq_true, if_false, c_isn, o2, if_true, x_cnt, Out.thn_ct]
    rw [show stD ⟨d, i, k, ps⟩ = stepD d i k ps from rfl, go]
    exact ⟨rfl, _, _, _, rfl⟩
  | some r' =>
    rw [hd] at lst bh bh1
    have st1 := stepped_ok (n := n + 1) (o := some r') hT hr.fit bh1
    simp only [optR] at lst bh1
    have fr := ff r' hd
    have o1 := out_ok (n := n + 1) hT fsO_s st1
    have o2 := out_ok (n := n + 1) hT fsO_u (undone_ok (n := n + 1) hT hr.fit bh1)
    have kr := kept_row (n := n + 6) hT.h15 r' fr.ok (by have := fr.cnt; omega) (by have := fr.dep; omega) (PD.PS.hS h G)
    have ks := kept_step (n := n) hT d.inv i k (ps := ps) (by have := hs'.hl; omega) (PD.PS.hS h G)
    have back := step_inv hd
    have bk := behind_ok (n := n + 2) hT d.inv hs' fr.short (fun r2 e => by rw [back] at e; cases e; exact hr.fit) (PD.PS.hS h G ++ [.lst [rowD r']])
    rw [back] at bk
    have st2 := stepped_ok (n := n + 2) (o := some row) hT fr bk
    simp only at st2
    have kb := kept_row (n := n + 6) hT.h15 row hr.ok (by have := hr.cnt; omega) (by have := hr.dep; omega) (PD.PS.hS h G)
    have isn : ∀ S, opIs (rowD r') .non S = .ok false S := fun _ => rfl
    have te := turnE_ok (F := callN T (n + 16)) (env := eL x0 x3 x4 x5 (some (rowD row)) x7 (some (stepD d i k ps)) x9 x10 x11 x12 x13 x14 (some (rowD r')) (some (rowD r')) (some (stepD d.inv i k ps))) (h := h) hg d i k ps rfl rfl
    simp only [eL] at te
    have go : exTs (callN T (n + 16)) (.cons (.asg (.nm 15) (.call 81 (.cons (.slot 6) (.cons (.slot 8) .nil)))) (.cons (.asg (.nm 16) (.call 108 (.cons (.cst (.fnv "stepped")) (.cons (.slot 6) (.cons (.slot 8) .nil))))) (.cons (.iff (.or (.cmp .NotEq (.cmp .Is (.slot 15) (.cst .non)) (.cmp .Is (.slot 16) (.cst .non))) (.and (.cmp .IsNot (.slot 15) (.cst .non)) (.not (.call 15 (.cons (.slot 16) (.cons (.slot 15) .nil)))))) (.cons (.ret (.cst (.bl false))) .nil) .nil) (.cons (.asg (.nm 17) (.call 108 (.cons (.cst (.fnv "undone")) (.cons (.slot 6) (.cons (.slot 8) .nil))))) (.cons (.iff (.cmp .Is (.slot 15) (.cst .non)) (.cons (.iff (.cmp .IsNot (.slot 17) (.cst .non)) (.cons (.ret (.cst (.bl false))) .nil) .nil) (.cons .cnt .nil)) .nil) (.cons (.iff (.or (.not (.call 15 (.cons (.slot 17) (.cons turnE .nil)))) (.not (.call 15 (.cons (.call 109 (.cons (.slot 15) (.cons (.slot 17) .nil))) (.cons (.slot 6) .nil))))) (.cons (.ret (.cst (.bl false))) .nil) .nil) .nil)))))) (eL x0 x3 x4 x5 (some (rowD row)) x7 (some (stepD d i k ps)) x9 x10 x11 x12 x13 x14 x15 x16 x17) (PD.PS.hS h G) = .nx (eL x0 x3 x4 x5 (some (rowD row)) x7 (some (stepD d i k ps)) x9 x10 x11 x12 x13 x14 (some (rowD r')) (some (rowD r')) (some (stepD d.inv i k ps))) (PD.PS.hS h G) := by
      simp only [eL, xs_cons, xs_nil, x_asg, e_call, es_cons, es_nil, e_slot, e_cst, List.getElem?_cons_succ, List.getElem?_cons_zero, R.bind_ok, lst, o1, R.out_ok, g_nm, List.set_cons_succ, List.set_cons_zero, Out.thn_nx, x_iff, t_or, t_and, t_not, t_call, t_cmp, e_cmp, c_is, isn, R.map_ok, c_ne, opEq_bl, decide_true, Bool.not_true, Bool.not_false, Bool.false_eq_true, if_false, c_isn, kr, tru_b, if_true, o2, te, ks, st2, kb]
    rw [show stD ⟨d, i, k, ps⟩ = stepD d i k ps from rfl, go]
    exact ⟨rfl, _, _, _, rfl⟩
/-- things that are no step: both are refused -/
theorem no_both (hT : Fns T) {row : Rw} (hr : R60 row) {d : D} {S : Store} (h : NoSt S d) : callN T (n + 16) 108 [.fnv "stepped", rowD row, d] S = .ok .non S ∧ callN T (n + 16) 108 [.fnv "undone", rowD row, d] S = .ok .non S := by
  have bh := behind_no (n := n + 1) hT (r := row) (h.app [.lst [rowD row]])
  exact ⟨out_no (n := n + 1) hT fsO_s (stepped_ok (n := n + 1) (o := none) hT hr.fit bh), out_no (n := n + 1) hT fsO_u (undone_no (n := n + 1) hT hr.fit bh)⟩
end
end PD.PS.K30r
end

section
set_option linter.all false
set_option maxRecDepth 100000
set_option maxHeartbeats 2000000
/-! K30g: what is tried. -/
namespace PD.PS.K30r
open PySem K30
/-- the tried steps in the store -/
structure Tr (G : Store) (tl : Nat) (trd : List Stp) (m : Nat) : Prop where
  gw : GW G
  dic : G[0]? = some (.dic kvO)
  tl0 : tl ≠ 0
  lst : G[tl]? = some (.lst (trd.map stD))
  bd : ∀ s ∈ trd, BdS s
  ln : trd.length ≤ m
theorem Tr.app {G : Store} {tl : Nat} {trd : List Stp} {m : Nat} (t : Tr G tl trd m) {X : Store} (g : GW (G ++ X)) : Tr (G ++ X) tl trd m := by
  have a := (List.getElem?_eq_some_iff.mp t.dic).1
  have b := (List.getElem?_eq_some_iff.mp t.lst).1
  exact ⟨g, by rw [List.getElem?_append_left a]; exact t.dic, t.tl0, by rw [List.getElem?_append_left b]; exact t.lst, t.bd, t.ln⟩
theorem Tr.push {G : Store} {tl : Nat} {trd : List Stp} {m : Nat} (t : Tr G tl trd m) {s : Stp} (hs : BdS s) : Tr (G.set tl (.lst ((trd ++ [s]).map stD))) tl (trd ++ [s]) (m + 1) := by
  have b := (List.getElem?_eq_some_iff.mp t.lst).1
  refine ⟨t.gw.set (by simp only [Cell.lt]; exact lts_st _ _), by rw [List.getElem?_set_ne t.tl0]; exact t.dic, t.tl0, by rw [List.getElem?_set_self b], fun x hx => ?_, by simp; exact t.ln⟩
  rcases List.mem_append.1 hx with hx | hx
  · exact t.bd x hx
  · simp at hx; subst hx; exact hs
theorem Tr.up {G : Store} {tl : Nat} {trd : List Stp} {m k : Nat} (t : Tr G tl trd m) (q : m ≤ k) : Tr G tl trd k := ⟨t.gw, t.dic, t.tl0, t.lst, t.bd, Nat.le_trans t.ln q⟩
theorem cut_sub (sts : List Stp) (lo hi : Option Int) : ∃ sub : List Stp, cutD (sts.map stD) lo hi = sub.map stD ∧ (∀ s ∈ sub, s ∈ sts) ∧ sub.length ≤ sts.length := by
  refine ⟨cutD sts lo hi, by simp [cutD], fun s hs => List.mem_of_mem_drop (List.mem_of_mem_take hs), by simp [cutD]; omega⟩
section
variable {T : Tab} {n : Nat}
def b6 : Ts := (.cons (.exp (.mth .append (.slot 7) (.cons (.tup (.cons (.ix (.slot 8) (.cst (.int 0))) (.cons (.ix (.slot 8) (.cst (.int 1))) (.cons (.ix (.slot 2) (.ix (.slot 8) (.cst (.int 2)))) (.cons (.ix (.slot 8) (.cst (.int 3))) .nil))))) .nil))) .nil)
def b7 : Ts := (.cons (.asg (.nm 13) (.call 24 (.cons (.slot 1) (.cons (.call 58 (.cons (.slot 6) (.cons (.tup .nil) .nil))) .nil)))) (.cons (.iff (.cmp .Eq (.call 9 (.cons (.slot 1) (.cons (.cst (.int 6)) .nil))) (.cst (.int 0))) (.cons (.asg (.nm 13) (.bin .Add (.slot 13) (.tup (.cons (.call 9 (.cons (.slot 1) (.cons (.cst (.int 3)) .nil))) .nil)))) .nil) .nil) (.cons (.asg (.nm 14) (.call 24 (.cons (.slot 1) (.cons (.lst (.cons (.cst (.str ("turn" : PySem.Str))) (.cons (.cst (.str ("back" : PySem.Str))) (.cons (.cst (.str ("fold" : PySem.Str))) (.cons (.cst (.str ("times" : PySem.Str))) .nil))))) .nil)))) (.cons (.exp (.mth .append (.slot 7) (.cons (.tup (.cons (.slot 13) (.cons (.call 9 (.cons (.slot 1) (.cons (.cst (.int 5)) .nil))) (.cons (.slot 14) (.cons (.call 9 (.cons (.slot 1) (.cons (.cst (.int 5)) .nil))) .nil))))) .nil))) .nil))))
theorem b6_ok (hT : Fns T) {G : Store} {tl c : Nat} {sub : List Stp} (hsub : ∀ s ∈ sub, BdS s) (hl : sub.length ≤ 3) (t0 : Tr G tl [] 0) (hc : G[c]? = some (.lst (sub.map stD))) (hct : c ≠ tl) (h : Hs) (x0 x3 x4 x5 x6 x8 x9 x10 x11 x12 x13 x14 x15 x16 x17 : Option D) {s : I} {S0 : Store}
    (hev : evI (callN T (n + 16)) (eL x0 x3 x4 x5 x6 (some (.ref (tl + 3))) x8 x9 x10 x11 x12 x13 x14 x15 x16 x17) s S0 = .ok (.ls (c + 3)) (hS h G)) :
    (exT (callN T (n + 16)) (.for_ (.nm 8) s b6) (eL x0 x3 x4 x5 x6 (some (.ref (tl + 3))) x8 x9 x10 x11 x12 x13 x14 x15 x16 x17) S0).sat
      (fun e S => ∃ y8 G' trd, Tr G' tl trd 3 ∧ e = eL x0 x3 x4 x5 x6 (some (.ref (tl + 3))) y8 x9 x10 x11 x12 x13 x14 x15 x16 x17 ∧ S = hS h G') (fun _ _ => False) := by
  refine for_ls_sat (c := c + 3) (items := sub.map stD) hev (by rw [List.length_map]; exact le_sz (by omega)) (fun i e S => ∃ y8 G' trd, Tr G' tl trd i ∧ G'[c]? = some (.lst (sub.map stD)) ∧ e = eL x0 x3 x4 x5 x6 (some (.ref (tl + 3))) y8 x9 x10 x11 x12 x13 x14 x15 x16 x17 ∧ S = PD.PS.hS h G') (fun i e S ⟨y, G', trd, a1, a2, a3, a4⟩ => by rw [a4, hS_get]; exact a2) ⟨_, G, [], t0, hc, rfl, rfl⟩ ?_ (fun e S ⟨y, G', trd, a1, a2, a3, a4⟩ => ⟨y, G', trd, a1.up (by rw [List.length_map]; exact hl), a3, a4⟩)
  rintro i v env S hd ⟨y8, G', trd, tr, gc, rfl, rfl⟩
  obtain ⟨st, hst, rfl⟩ : ∃ st, st ∈ sub ∧ v = stD st := by
    rw [List.getElem?_map] at hd
    cases q : sub[i]? with
    | none => rw [q] at hd; cases hd
    | some st => rw [q] at hd; exact ⟨st, List.mem_of_getElem? q, (Option.some.inj hd).symm⟩
  refine ⟨eL x0 x3 x4 x5 x6 (some (.ref (tl + 3))) (some (stD st)) x9 x10 x11 x12 x13 x14 x15 x16 x17, g_nm _ _, ?_⟩
  have te := turnE_ok (F := callN T (n + 16)) (env := eL x0 x3 x4 x5 x6 (some (.ref (tl + 3))) (some (stD st)) x9 x10 x11 x12 x13 x14 x15 x16 x17) (h := h) tr.dic st.d st.i st.k st.ps rfl rfl
  simp only [eL] at te
  have zl : (trd.map stD).length < sizeLine := by
    have hi : i < sub.length := by
      rcases Nat.lt_or_ge i sub.length with q | q
      · exact q
      · rw [List.getElem?_eq_none (by simpa using q)] at hd; cases hd
    rw [List.length_map]; exact len_lt_sz (by have := tr.ln; omega)
  have mp : trd.map stD ++ [stepD st.d.inv st.i st.k st.ps] = (trd ++ [(⟨st.d.inv, st.i, st.k, st.ps⟩ : Stp)]).map stD := by simp [stD]
  have b := hsub st hst
  refine satB_nx (e := eL x0 x3 x4 x5 x6 (some (.ref (tl + 3))) (some (stD st)) x9 x10 x11 x12 x13 x14 x15 x16 x17) (S := PD.PS.hS h (G'.set tl (.lst ((trd ++ [(⟨st.d.inv, st.i, st.k, st.ps⟩ : Stp)]).map stD)))) ?_ ⟨_, _, _, tr.push (s := ⟨st.d.inv, st.i, st.k, st.ps⟩) b, by rw [List.getElem?_set_ne (Ne.symm hct)]; exact gc, rfl, rfl⟩
  rw [show b6 = (.cons (.exp (.mth .append (.slot 7) (.cons turnE .nil))) .nil) from rfl]
  simp only [eL, xs_cons, xs_nil, x_exp, e_mth, e_slot, List.getElem?_cons_succ, List.getElem?_cons_zero, R.bind_ok, rcv_app, hS_get, tr.lst, if_true, es_cons, es_nil, te, m_app, zl, mp, hS_set, R.out_ok, Out.thn_nx]
def deedS4 : List Str := ["turn", "back", "fold", "times"]
theorem deedS4_nm : ∀ s ∈ deedS4, ∃ d : Deed, s = d.nm := by
  intro s hs
  simp only [deedS4, List.mem_cons, List.not_mem_nil, or_false] at hs
  rcases hs with rfl | rfl | rfl | rfl
  · exact ⟨.turn, rfl⟩
  · exact ⟨.back, rfl⟩
  · exact ⟨.fold, rfl⟩
  · exact ⟨.times, rfl⟩
theorem b7_ok (hT : Fns T) {row : Rw} (hr : R60 row) {G : Store} {tl : Nat} {trd : List Stp} {m : Nat} (t : Tr G tl trd m) (hm : m ≤ 100) (h : Hs) (x0 x3 x4 x5 x8 x9 x10 x11 x12 x13 x14 x15 x16 x17 : Option D) :
    (exTs (callN T (n + 16)) b7 (eL x0 x3 x4 x5 (some (rowD row)) (some (.ref (tl + 3))) x8 x9 x10 x11 x12 x13 x14 x15 x16 x17) (hS h G)).sat
      (fun e S => ∃ h' y13 y14 G' trd', Tr G' tl trd' (m + 1) ∧ e = eL x0 x3 x4 x5 (some (rowD row)) (some (.ref (tl + 3))) x8 x9 x10 x11 x12 y13 y14 x15 x16 x17 ∧ S = hS h' G') (fun _ _ => False) := by
  have z1 : 0 + 1 ≤ sizeLine := le_sz (by omega)
  have z4 : 0 + 1 + 1 + 1 + 1 ≤ sizeLine := le_sz (by omega)
  obtain ⟨X2, Lp, g2, k2, l2, p2, e2⟩ := paths_ok (n := n + 9) hT 6 row hr.fit hr.dep [] h G (by have := hr.dep; simp; omega) t.gw
  have t2 := t.app g2
  obtain ⟨y, hy, ey⟩ := some_eq (n := n + 14) hT.t.dr h (G ++ X2) (c := G.length) (ds := Lp.map pathD) k2 (by rw [List.length_map]; omega) (by rw [List.length_map, l2]; have := hr.fit.evs; omega)
  obtain ⟨p, hp, rfl⟩ := List.mem_map.1 hy
  obtain ⟨ps, q, hpe, hg, hpl⟩ := p2 p hp
  rw [List.nil_append] at hpe
  subst hpe
  obtain ⟨plt, hq⟩ := get_lt60 hr hg
  generalize drawH h ((Lp.map pathD).length : Int) = h1 at ey
  have s13 : exT (callN T (n + 16)) (.asg (.nm 13) (.call 24 (.cons (.slot 1) (.cons (.call 58 (.cons (.slot 6) (.cons (.tup .nil) .nil))) .nil)))) (eL x0 x3 x4 x5 (some (rowD row)) (some (.ref (tl + 3))) x8 x9 x10 x11 x12 x13 x14 x15 x16 x17) (PD.PS.hS h G) = .nx (eL x0 x3 x4 x5 (some (rowD row)) (some (.ref (tl + 3))) x8 x9 x10 x11 x12 (some (pathD p)) x14 x15 x16 x17) (PD.PS.hS h1 (G ++ X2)) := by
    simp only [eL, x_asg, e_call, e_tup, es_cons, es_nil, e_slot, List.getElem?_cons_succ, List.getElem?_cons_zero, R.bind_ok, List.length_nil, Nat.zero_le, if_true, path_nil, e2, ey, R.out_ok, g_nm, List.set_cons_succ, List.set_cons_zero]
  obtain ⟨p', h2, hp1, hp2, sI⟩ : ∃ p' h2, p'.length ≤ 10 ∧ (∀ x ∈ p', x ≤ 1000) ∧ exT (callN T (n + 16)) (.iff (.cmp .Eq (.call 9 (.cons (.slot 1) (.cons (.cst (.int 6)) .nil))) (.cst (.int 0))) (.cons (.asg (.nm 13) (.bin .Add (.slot 13) (.tup (.cons (.call 9 (.cons (.slot 1) (.cons (.cst (.int 3)) .nil))) .nil)))) .nil) .nil) (eL x0 x3 x4 x5 (some (rowD row)) (some (.ref (tl + 3))) x8 x9 x10 x11 x12 (some (pathD p)) x14 x15 x16 x17) (PD.PS.hS h1 (G ++ X2)) = .nx (eL x0 x3 x4 x5 (some (rowD row)) (some (.ref (tl + 3))) x8 x9 x10 x11 x12 (some (pathD p')) x14 x15 x16 x17) (PD.PS.hS h2 (G ++ X2)) := by
    have d6 := draw_eq hT.t.dr.h9 (n := n + 15) h1 (G ++ X2) 6 (by decide) (by decide)
    by_cases c : drawV h1 6 = 0
    · have d3 := draw_eq hT.t.dr.h9 (n := n + 15) (drawH h1 6) (G ++ X2) 3 (by decide) (by decide)
      obtain ⟨v, hv⟩ := Int.eq_ofNat_of_zero_le (drawV_nn (drawH h1 6) (m := 3) (by decide))
      have hv2 := drawV_lt (drawH h1 6) (m := 3) (by decide)
      rw [hv] at d3 hv2
      have ad : ∀ S, opBin .Add (pathD p) (tupI [(v : Int)]) S = .ok (pathD (p ++ [v])) S := fun S => by
        unfold pathD
        rw [add_tupI _ _ (by simp [natI]; exact le_sz (by have := hr.dep; omega)), natI_app]
        rfl
      refine ⟨p ++ [v], drawH (drawH h1 6) 3, by have := hr.dep; simp; omega, fun x hx => ?_, ?_⟩
      · rcases List.mem_append.1 hx with hx | hx
        · exact plt x hx
        · simp at hx; omega
      · simp only [eL, x_iff, t_cmp, e_call, es_cons, es_nil, e_slot, e_cst, List.getElem?_cons_succ, List.getElem?_cons_zero, R.bind_ok, d6, c_eq, opEq_int, c, decide_true, R.out_ok, if_true, xs_cons, xs_nil, x_asg, e_bin, e_tup, d3, List.length_cons, List.length_nil, z1, tupI_one, ad, g_nm, List.set_cons_succ, List.set_cons_zero, Out.thn_nx]
    · refine ⟨p, drawH h1 6, by have := hr.dep; omega, plt, ?_⟩
      simp only [eL, x_iff, t_cmp, e_call, es_cons, es_nil, e_slot, e_cst, List.getElem?_cons_succ, List.getElem?_cons_zero, R.bind_ok, d6, c_eq, opEq_int, c, decide_false, R.out_ok, Bool.false_eq_true, if_false, xs_nil]
  have l4 : (deedS4.map D.str).length = 4 := rfl
  have g3 : GW (G ++ X2 ++ [Cell.lst (deedS4.map D.str)]) := g2.lst (lts_strs 0 deedS4)
  have t3 := t2.app g3
  obtain ⟨z, hz, ez⟩ := some_eq (n := n + 14) hT.t.dr h2 (G ++ X2 ++ [.lst (deedS4.map D.str)]) (c := (G ++ X2).length) (ds := deedS4.map D.str) (by simp) (by rw [l4]; omega) (by rw [l4]; omega)
  obtain ⟨s, hs, rfl⟩ := List.mem_map.1 hz
  obtain ⟨d, rfl⟩ := deedS4_nm s hs
  generalize drawH h2 ((deedS4.map D.str).length : Int) = h3 at ez
  have o4 : [D.str ("turn" : Str), .str ("back" : Str), .str ("fold" : Str), .str ("times" : Str)] = deedS4.map D.str := rfl
  have z4' : (deedS4.map D.str).length ≤ sizeLine := by rw [l4]; exact le_sz (by omega)
  have s14 : exT (callN T (n + 16)) (.asg (.nm 14) (.call 24 (.cons (.slot 1) (.cons (.lst (.cons (.cst (.str ("turn" : PySem.Str))) (.cons (.cst (.str ("back" : PySem.Str))) (.cons (.cst (.str ("fold" : PySem.Str))) (.cons (.cst (.str ("times" : PySem.Str))) .nil))))) .nil)))) (eL x0 x3 x4 x5 (some (rowD row)) (some (.ref (tl + 3))) x8 x9 x10 x11 x12 (some (pathD p')) x14 x15 x16 x17) (PD.PS.hS h2 (G ++ X2)) = .nx (eL x0 x3 x4 x5 (some (rowD row)) (some (.ref (tl + 3))) x8 x9 x10 x11 x12 (some (pathD p')) (some (.str d.nm)) x15 x16 x17) (PD.PS.hS h3 (G ++ X2 ++ [.lst (deedS4.map D.str)])) := by
    simp only [eL, x_asg, e_call, e_lst, es_cons, es_nil, e_slot, e_cst, List.getElem?_cons_succ, List.getElem?_cons_zero, R.bind_ok, o4, z4', if_true, newL_eq, hS_len, hS_app, ez, R.out_ok, g_nm, List.set_cons_succ, List.set_cons_zero]
  generalize G ++ X2 ++ [Cell.lst (deedS4.map D.str)] = G3 at s14 t3 g3
  obtain ⟨i, hi⟩ := Int.eq_ofNat_of_zero_le (drawV_nn h3 (m := 5) (by decide))
  have hi2 := drawV_lt h3 (m := 5) (by decide)
  have d5 := draw_eq hT.t.dr.h9 (n := n + 15) h3 G3 5 (by decide) (by decide)
  rw [hi] at d5 hi2
  obtain ⟨k, hk⟩ := Int.eq_ofNat_of_zero_le (drawV_nn (drawH h3 5) (m := 5) (by decide))
  have hk2 := drawV_lt (drawH h3 5) (m := 5) (by decide)
  have d5' := draw_eq hT.t.dr.h9 (n := n + 15) (drawH h3 5) G3 5 (by decide) (by decide)
  rw [hk] at d5' hk2
  have zl : (trd.map stD).length < sizeLine := by rw [List.length_map]; exact len_lt_sz (by have := t.ln; omega)
  have b : Bd i k p' := ⟨by omega, by omega, hp1, hp2⟩
  have mp : trd.map stD ++ [stepD d i k p'] = (trd ++ [(⟨d, i, k, p'⟩ : Stp)]).map stD := by simp [stD]
  have mp' : D.tup [pathD p', .int (i : Int), .str d.nm, .int (k : Int)] = stepD d i k p' := rfl
  have tl3 := t3.lst
  have s7 : exT (callN T (n + 16)) (.exp (.mth .append (.slot 7) (.cons (.tup (.cons (.slot 13) (.cons (.call 9 (.cons (.slot 1) (.cons (.cst (.int 5)) .nil))) (.cons (.slot 14) (.cons (.call 9 (.cons (.slot 1) (.cons (.cst (.int 5)) .nil))) .nil))))) .nil))) (eL x0 x3 x4 x5 (some (rowD row)) (some (.ref (tl + 3))) x8 x9 x10 x11 x12 (some (pathD p')) (some (.str d.nm)) x15 x16 x17) (PD.PS.hS h3 G3) = .nx (eL x0 x3 x4 x5 (some (rowD row)) (some (.ref (tl + 3))) x8 x9 x10 x11 x12 (some (pathD p')) (some (.str d.nm)) x15 x16 x17) (PD.PS.hS (drawH (drawH h3 5) 5) (G3.set tl (.lst ((trd ++ [(⟨d, i, k, p'⟩ : Stp)]).map stD)))) := by
    simp only [eL, x_exp, e_mth, e_call, e_tup, e_cst, e_slot, es_cons, es_nil, List.getElem?_cons_succ, List.getElem?_cons_zero, R.bind_ok, rcv_app, hS_get, tl3, if_true, d5, d5', List.length_cons, List.length_nil, z4, mp', m_app, zl, mp, hS_set, R.out_ok]
  rw [b7, xs_cons, s13, Out.thn_nx, xs_cons, sI, Out.thn_nx, xs_cons, s14, Out.thn_nx, xs_cons, s7, Out.thn_nx, xs_nil]
  exact ⟨_, _, _, _, _, t3.push (s := ⟨d, i, k, p'⟩) b, rfl, rfl⟩
end
end PD.PS.K30r
end

section
set_option linter.all false
set_option maxRecDepth 100000
set_option maxHeartbeats 2000000
/-! K30run: the law k30 holds of the evaluator. (Printed by genrun30.py.) -/
namespace PD.PS.K30r
open PySem K30
def lB : Ts := match d_law.body with
  | .cons _ (.cons _ (.cons (.for_ _ _ b) _)) => b
  | _ => .nil
def b9 : Ts := (.cons (.iff (.or (.cmp .IsNot (.call 108 (.cons (.cst (.fnv "stepped")) (.cons (.slot 6) (.cons (.slot 10) .nil)))) (.cst .non)) (.cmp .IsNot (.call 108 (.cons (.cst (.fnv "undone")) (.cons (.slot 6) (.cons (.slot 10) .nil)))) (.cst .non))) (.cons (.ret (.cst (.bl false))) .nil) .nil) .nil)
def l9 : E := (.lst (.cons (.cst .non) (.cons (.tup .nil) (.cons (.tup (.cons (.tup .nil) (.cons (.cst (.int 0)) (.cons (.cst (.str ("turn" : PySem.Str))) .nil)))) (.cons (.lst (.cons (.tup .nil) (.cons (.cst (.int 0)) (.cons (.cst (.str ("turn" : PySem.Str))) (.cons (.cst (.int 1)) .nil))))) (.cons (.tup (.cons (.tup .nil) (.cons (.cst (.int 0)) (.cons (.cst (.str ("turn" : PySem.Str))) (.cons (.cst (.bl true)) .nil))))) (.cons (.tup (.cons (.tup (.cons (.cst (.int 0)) .nil)) (.cons (.cst (.int 0)) (.cons (.cst (.str ("Turn" : PySem.Str))) (.cons (.cst (.int 1)) .nil))))) (.cons (.tup (.cons (.cst (.str ("" : PySem.Str))) (.cons (.cst (.int 0)) (.cons (.cst (.str ("fold" : PySem.Str))) (.cons (.cst (.int 2)) .nil))))) .nil))))))))
theorem law_eq : d_law.body = .cons (.asg (.nm 1) (.call 16 (.cons (.slot 0) .nil))) (.cons (.asg (.nm 2) (.dct [(.inr ("turn" : PySem.Str), (.str ("back" : PySem.Str))), (.inr ("back" : PySem.Str), (.str ("turn" : PySem.Str))), (.inr ("fold" : PySem.Str), (.str ("times" : PySem.Str))), (.inr ("times" : PySem.Str), (.str ("fold" : PySem.Str)))])) (.cons (.for_ (.nm 3) (.rng1 (.cst (.int 16))) lB) (.cons (.ret (.cst (.bl true))) .nil))) := rfl
theorem lB_eq : lB = (.cons (.asg (.nm 4) (.call 44 (.cons (.slot 1) (.cons (.cst (.int 2)) .nil)))) (.cons (.asg (.nm 5) (.call 45 (.cons (.slot 1) (.cons (.slot 4) (.cons (.cst (.int 4)) (.cons (.bin .Add (.cst (.int 1)) (.call 9 (.cons (.slot 1) (.cons (.cst (.int 10)) .nil)))) .nil)))))) (.cons (.asg (.tp (.cons (.nm 11) (.cons (.nm 12) .nil))) (.call 111 (.cons (.slot 1) (.cons (.slot 5) (.cons (.cst (.int 3)) (.cons (.cst (.int 60)) .nil)))))) (.cons (.asg (.nm 6) (.ix (.slot 12) (.bin .Sub (.blt .len (.cons (.slot 12) .nil)) (.cst (.int 1))))) (.cons (.asg (.nm 7) (.lst .nil)) (.cons (.for_ (.nm 8) (.any (.slc (.slot 11) (.so (.bin .Sub (.blt .len (.cons (.slot 11) .nil)) (.cst (.int 1)))) .no)) b6) (.cons (.for_ (.nm 9) (.rng1 (.cst (.int 12))) b7) (.cons (.for_ (.nm 8) (.any (.slot 7)) chkB) (.cons (.for_ (.nm 10) (.any l9) b9) .nil))))))))) := rfl
section
variable {T : Tab} {n : Nat}
theorem s6_ok (hT : Fns T) {G : Store} {a tl m : Nat} {sts : List Stp} (ha : G[a]? = some (.lst (sts.map stD))) (hb : ∀ s ∈ sts, BdS s) (hl : sts.length ≤ 3) (t0 : Tr G tl [] 0) (h : Hs) (x0 x3 x4 x5 x6 x8 x9 x10 x12 x13 x14 x15 x16 x17 : Option D) :
    (exT (callN T (n + 16)) (.for_ (.nm 8) (.any (.slc (.slot 11) (.so (.bin .Sub (.blt .len (.cons (.slot 11) .nil)) (.cst (.int 1)))) .no)) b6) (eL x0 x3 x4 x5 x6 (some (.ref (tl + 3))) x8 x9 x10 (some (.ref (a + 3))) x12 x13 x14 x15 x16 x17) (hS h G)).sat
      (fun e S => ∃ y8 G' trd, Tr G' tl trd 3 ∧ e = (eL x0 x3 x4 x5 x6 (some (.ref (tl + 3))) y8 x9 x10 (some (.ref (a + 3))) x12 x13 x14 x15 x16 x17) ∧ S = PD.PS.hS h G') (fun _ _ => False) := by
  obtain ⟨sub, cs, h1, h2⟩ := cut_sub sts (some ((sts.length : Int) - 1)) none
  have g6 : GW (G ++ [Cell.lst (sub.map stD)]) := t0.gw.lst (lts_st 0 sub)
  have t6 := t0.app g6
  have hc : (G ++ [Cell.lst (sub.map stD)])[G.length]? = some (.lst (sub.map stD)) := by simp
  have lt := (List.getElem?_eq_some_iff.mp t0.lst).1
  refine b6_ok (n := n) hT (c := G.length) (fun s hs => hb s (h1 s hs)) (Nat.le_trans h2 hl) t6 hc (by omega) h x0 x3 x4 x5 x6 x8 x9 x10 (some (.ref (a + 3))) x12 x13 x14 x15 x16 x17 ?_
  have zc : (sub.map stD).length ≤ sizeLine := by rw [List.length_map]; exact le_sz (by omega)
  simp only [eL, i_any, e_slc, o_so, o_no, e_bin, e_blt, es_cons, es_nil, e_slot, List.getElem?_cons_succ, List.getElem?_cons_zero, R.bind_ok, e_cst, f_lenr, items_ref, hS_get, ha, List.length_map, b_sub, slc_ref, cs, newL_eq, zc, if_true, hS_len, hS_app, hc]
theorem s7_ok (hT : Fns T) {row : Rw} (hr : R60 row) {G : Store} {tl : Nat} {trd : List Stp} (t : Tr G tl trd 3) (h : Hs) (x0 x3 x4 x5 x8 x9 x10 x11 x12 x13 x14 x15 x16 x17 : Option D) :
    (exT (callN T (n + 16)) (.for_ (.nm 9) (.rng1 (.cst (.int 12))) b7) (eL x0 x3 x4 x5 (some (rowD row)) (some (.ref (tl + 3))) x8 x9 x10 x11 x12 x13 x14 x15 x16 x17) (hS h G)).sat
      (fun e S => ∃ h' y9 y13 y14 G' trd', Tr G' tl trd' 15 ∧ e = (eL x0 x3 x4 x5 (some (rowD row)) (some (.ref (tl + 3))) x8 y9 x10 x11 x12 y13 y14 x15 x16 x17) ∧ S = PD.PS.hS h' G') (fun _ _ => False) := by
  refine for_rng 12 (S' := PD.PS.hS h G) (rng1_sat (k := 12) (by simp) (by omega) (by omega)) (le_sz (by omega)) (fun i e S => ∃ h' y9 y13 y14 G' trd', Tr G' tl trd' (3 + i) ∧ e = (eL x0 x3 x4 x5 (some (rowD row)) (some (.ref (tl + 3))) x8 y9 x10 x11 x12 y13 y14 x15 x16 x17) ∧ S = PD.PS.hS h' G') ⟨h, _, _, _, G, trd, t, rfl, rfl⟩ ?_ (fun e S q => q)
  rintro i env S hi ⟨h', y9, y13, y14, G', trd', t', rfl, rfl⟩
  refine ⟨(eL x0 x3 x4 x5 (some (rowD row)) (some (.ref (tl + 3))) x8 (some (.int (i : Int))) x10 x11 x12 y13 y14 x15 x16 x17), g_nm _ _, ?_⟩
  refine satB_of (b7_ok (n := n) hT hr t' (by omega) h' x0 x3 x4 x5 x8 (some (.int (i : Int))) x10 x11 x12 y13 y14 x15 x16 x17) ?_
  rintro e S ⟨h2, z13, z14, G2, trd2, a1, a2, a3⟩
  exact ⟨h2, _, z13, z14, G2, trd2, a1.up (by omega), a2, a3⟩
theorem s8_ok (hT : Fns T) {row : Rw} (hr : R60 row) {G : Store} {tl : Nat} {trd : List Stp} (t : Tr G tl trd 15) (h : Hs) (x0 x3 x4 x5 x8 x9 x10 x11 x12 x13 x14 x15 x16 x17 : Option D) :
    (exT (callN T (n + 16)) (.for_ (.nm 8) (.any (.slot 7)) chkB) (eL x0 x3 x4 x5 (some (rowD row)) (some (.ref (tl + 3))) x8 x9 x10 x11 x12 x13 x14 x15 x16 x17) (hS h G)).sat
      (fun e S => ∃ y8 y15 y16 y17, e = (eL x0 x3 x4 x5 (some (rowD row)) (some (.ref (tl + 3))) y8 x9 x10 x11 x12 x13 x14 y15 y16 y17) ∧ S = PD.PS.hS h G) (fun _ _ => False) := by
  have hev : evI (callN T (n + 16)) (eL x0 x3 x4 x5 (some (rowD row)) (some (.ref (tl + 3))) x8 x9 x10 x11 x12 x13 x14 x15 x16 x17) (.any (.slot 7)) (PD.PS.hS h G) = .ok (.ls (tl + 3)) (PD.PS.hS h G) := by
    simp only [eL, i_any, e_slot, List.getElem?_cons_succ, List.getElem?_cons_zero, R.bind_ok, hS_get, t.lst]
  refine for_ls_sat (c := tl + 3) (items := trd.map stD) hev (by rw [List.length_map]; exact le_sz (by have := t.ln; omega)) (fun i e S => ∃ y8 y15 y16 y17, e = (eL x0 x3 x4 x5 (some (rowD row)) (some (.ref (tl + 3))) y8 x9 x10 x11 x12 x13 x14 y15 y16 y17) ∧ S = PD.PS.hS h G) (fun i e S ⟨_, _, _, _, _, a⟩ => by rw [a, hS_get]; exact t.lst) ⟨_, _, _, _, rfl, rfl⟩ ?_ (fun e S q => q)
  rintro i v env S hd ⟨y8, y15, y16, y17, rfl, rfl⟩
  obtain ⟨st, hst, rfl⟩ : ∃ st, st ∈ trd ∧ v = stD st := by
    rw [List.getElem?_map] at hd
    cases q : trd[i]? with
    | none => rw [q] at hd; cases hd
    | some st => rw [q] at hd; exact ⟨st, List.mem_of_getElem? q, (Option.some.inj hd).symm⟩
  refine ⟨(eL x0 x3 x4 x5 (some (rowD row)) (some (.ref (tl + 3))) (some (stD st)) x9 x10 x11 x12 x13 x14 y15 y16 y17), g_nm _ _, ?_⟩
  refine satB_mono2 (check_ok (n := n) hT hr (t.bd st hst) h G t.dic x0 x3 x4 x5 (some (.ref (tl + 3))) x9 x10 x11 x12 x13 x14 y15 y16 y17) ?_ (fun _ _ h => h.elim) (fun _ _ h => h.elim)
  rintro e S ⟨rfl, z15, z16, z17, rfl⟩
  exact ⟨_, z15, z16, z17, rfl, rfl⟩
def in9 : List D := [tupI [], .int 0, .str ("turn" : Str), .int 1]
def th9 (c : Nat) : List D := [.non, tupI [], .tup [tupI [], .int 0, .str ("turn" : Str)], .ref c, .tup [tupI [], .int 0, .str ("turn" : Str), .bl true], .tup [tupI [0], .int 0, .str ("Turn" : Str), .int 1], .tup [.str ("" : Str), .int 0, .str ("fold" : Str), .int 2]]
theorem s9_ok (hT : Fns T) {row : Rw} (hr : R60 row) {G : Store} (g : GW G) (h : Hs) (x0 x3 x4 x5 x7 x8 x9 x10 x11 x12 x13 x14 x15 x16 x17 : Option D) :
    (exT (callN T (n + 16)) (.for_ (.nm 10) (.any l9) b9) (eL x0 x3 x4 x5 (some (rowD row)) x7 x8 x9 x10 x11 x12 x13 x14 x15 x16 x17) (hS h G)).sat
      (fun e S => ∃ y10 X, GW (G ++ X) ∧ e = (eL x0 x3 x4 x5 (some (rowD row)) x7 x8 x9 y10 x11 x12 x13 x14 x15 x16 x17) ∧ S = PD.PS.hS h (G ++ X)) (fun _ _ => False) := by
  have z0 : 0 + 1 ≤ sizeLine := le_sz (by omega)
  have z3 : 0 + 1 + 1 + 1 ≤ sizeLine := le_sz (by omega)
  have z4 : 0 + 1 + 1 + 1 + 1 ≤ sizeLine := le_sz (by omega)
  have z7 : 0 + 1 + 1 + 1 + 1 + 1 + 1 + 1 ≤ sizeLine := le_sz (by omega)
  have t0 : (D.tup []) = tupI [] := rfl
  have t1 : (D.tup [.int 0]) = tupI [0] := rfl
  have g1 : GW (G ++ [Cell.lst in9]) := g.lst rfl
  have g2 : GW (G ++ [Cell.lst in9, .lst (th9 (G.length + 3))]) := by
    refine g.app ?_
    have a : cellsLt (G.length + 2 + 3) [Cell.lst in9, .lst (th9 (G.length + 3))] = true := by
      have q : decide (G.length + 3 < G.length + 2 + 3) = true := by simp
      have e1 : D.lts (G.length + 2 + 3) in9 = true := rfl
      have e2 : ∀ c n, D.lts n (th9 c) = decide (c < n) := fun c n => by
        show (decide (c < n) && true) = _
        rw [Bool.and_true]
      show (D.lts (G.length + 2 + 3) in9 && (D.lts (G.length + 2 + 3) (th9 (G.length + 3)) && true)) = true
      rw [e1, e2, q]
      rfl
    exact a
  have hev : evI (callN T (n + 16)) (eL x0 x3 x4 x5 (some (rowD row)) x7 x8 x9 x10 x11 x12 x13 x14 x15 x16 x17) (.any l9) (PD.PS.hS h G) = .ok (.ls (G.length + 1 + 3)) (PD.PS.hS h (G ++ [Cell.lst in9, .lst (th9 (G.length + 3))])) := by
    simp only [l9, i_any, e_lst, e_tup, es_cons, es_nil, e_cst, R.bind_ok, List.length_cons, List.length_nil, Nat.zero_le, z0, z3, z4, z7, if_true, newL_eq, hS_len, hS_app, List.length_append, List.append_assoc, List.cons_append, List.nil_append, Nat.zero_add, hS_get, t0, t1]
    have e : (G ++ [Cell.lst in9, .lst (th9 (G.length + 3))])[G.length + 1]? = some (.lst (th9 (G.length + 3))) := by simp
    unfold in9 th9 at e
    simp only [e]
    rfl
  refine for_ls_sat (c := G.length + 1 + 3) (items := th9 (G.length + 3)) hev (by show 7 ≤ _; exact le_sz (by omega)) (fun i e S => ∃ y10, e = (eL x0 x3 x4 x5 (some (rowD row)) x7 x8 x9 y10 x11 x12 x13 x14 x15 x16 x17) ∧ S = PD.PS.hS h (G ++ [Cell.lst in9, .lst (th9 (G.length + 3))])) (fun i e S ⟨_, _, a⟩ => by rw [a, hS_get]; simp) ⟨_, rfl, rfl⟩ ?_ (fun e S ⟨y10, a1, a2⟩ => ⟨y10, _, g2, a1, a2⟩)
  rintro i v env S hd ⟨y10, rfl, rfl⟩
  have ns : NoSt (PD.PS.hS h (G ++ [Cell.lst in9, .lst (th9 (G.length + 3))])) v := by
    match i, hd with
    | 0, hd => cases hd; exact .non
    | 1, hd => cases hd; exact .nil
    | 2, hd => cases hd; exact .three
    | 3, hd => cases hd; exact .lst (ds := in9) (by rw [hS_get]; simp)
    | 4, hd => cases hd; exact .flag
    | 5, hd => cases hd; exact .name
    | 6, hd => cases hd; exact .path
    | i + 7, hd => simp [th9] at hd
  obtain ⟨o1, o2⟩ := no_both (n := n) hT hr ns
  refine ⟨(eL x0 x3 x4 x5 (some (rowD row)) x7 x8 x9 (some v) x11 x12 x13 x14 x15 x16 x17), g_nm _ _, ?_⟩
  refine satB_nx (e := (eL x0 x3 x4 x5 (some (rowD row)) x7 x8 x9 (some v) x11 x12 x13 x14 x15 x16 x17)) (S := PD.PS.hS h (G ++ [Cell.lst in9, .lst (th9 (G.length + 3))])) ?_ ⟨_, rfl, rfl⟩
  simp only [b9, eL, xs_cons, xs_nil, x_iff, t_or, t_cmp, e_call, es_cons, es_nil, e_cst, e_slot, List.getElem?_cons_succ, List.getElem?_cons_zero, R.bind_ok, o1, o2, c_isn, is_nn, R.map_ok, Bool.not_true, Bool.false_eq_true, if_false, R.out_ok, Out.thn_nx]

/-- one turn -/
theorem turn_ok (hT : Fns T) {G : Store} (g : GW G) (gd : G[0]? = some (.dic kvO)) (h : Hs) (x0 x3 x4 x5 x6 x7 x8 x9 x10 x11 x12 x13 x14 x15 x16 x17 : Option D) :
    (exTs (callN T (n + 16)) lB (eL x0 x3 x4 x5 x6 x7 x8 x9 x10 x11 x12 x13 x14 x15 x16 x17) (hS h G)).sat (fun e S => ∃ y4 y5 y6 y7 y8 y9 y10 y11 y12 y13 y14 y15 y16 y17 h' G', GW G' ∧ G'[0]? = some (.dic kvO) ∧ e = (eL x0 x3 y4 y5 y6 y7 y8 y9 y10 y11 y12 y13 y14 y15 y16 y17) ∧ S = PD.PS.hS h' G') (fun _ _ => False) := by
  have z1 : 0 + 1 ≤ sizeLine := le_sz (by omega)
  obtain ⟨fs, ss, h1, hss, sg⟩ := signs_spec (n := n + 13) hT.t.dr hT.h44 h G 2 (by omega) (by omega)
  have sg' : callN T (n + 16) 44 [.ref 2, .int 2] (PD.PS.hS h G) = .ok (.ref (G.length + 1 + 3)) (PD.PS.hS h1 (G ++ [.lst (fs.map .str), .lst (ss.map .str)])) := sg
  have g1 : GW (G ++ [Cell.lst (fs.map .str), .lst (ss.map .str)]) := by
    have := (g.lst (lts_strs 0 fs)).lst (lts_strs 0 ss)
    simpa using this
  have hc : (G ++ [Cell.lst (fs.map .str), .lst (ss.map .str)])[G.length + 1]? = some (.lst (ss.map .str)) := by simp
  have gd1 : (G ++ [Cell.lst (fs.map .str), .lst (ss.map .str)])[0]? = some (.dic kvO) := by
    rw [List.getElem?_append_left (List.getElem?_eq_some_iff.mp gd).1]; exact gd
  have s1 : exT (callN T (n + 16)) (.asg (.nm 4) (.call 44 (.cons (.slot 1) (.cons (.cst (.int 2)) .nil)))) (eL x0 x3 x4 x5 x6 x7 x8 x9 x10 x11 x12 x13 x14 x15 x16 x17) (PD.PS.hS h G) = .nx (eL x0 x3 (some (.ref (G.length + 1 + 3))) x5 x6 x7 x8 x9 x10 x11 x12 x13 x14 x15 x16 x17) (PD.PS.hS h1 (G ++ [.lst (fs.map .str), .lst (ss.map .str)])) := by
    simp only [eL, x_asg, e_call, es_cons, es_nil, e_slot, e_cst, List.getElem?_cons_succ, List.getElem?_cons_zero, R.bind_ok, sg', R.out_ok, g_nm, List.set_cons_succ, List.set_cons_zero]
  generalize G ++ [Cell.lst (fs.map .str), .lst (ss.map .str)] = G1 at s1 g1 hc gd1
  have d10 := draw_eq hT.t.dr.h9 (n := n + 15) h1 G1 10 (by decide) (by decide)
  have v0 := drawV_nn h1 (m := 10) (by decide)
  have v1 := drawV_lt h1 (m := 10) (by decide)
  obtain ⟨r, h3, ok, dp, ct, te⟩ := term_spec0 (n := n + 7) hT.t hT.h45 (c := G.length + 1) hss 4 (drawH h1 10) G1 (1 + drawV h1 10) g1 hc (by omega) (by omega)
  have te' : callN T (n + 16) 45 [.ref 2, .ref (G.length + 1 + 3), .int 4, .int (1 + drawV h1 10)] (PD.PS.hS (drawH h1 10) G1) = .ok (rowD r) (PD.PS.hS h3 G1) := te
  have r60 : R60 r := ⟨ok, by omega, by omega⟩
  have s2 : exT (callN T (n + 16)) (.asg (.nm 5) (.call 45 (.cons (.slot 1) (.cons (.slot 4) (.cons (.cst (.int 4)) (.cons (.bin .Add (.cst (.int 1)) (.call 9 (.cons (.slot 1) (.cons (.cst (.int 10)) .nil)))) .nil)))))) (eL x0 x3 (some (.ref (G.length + 1 + 3))) x5 x6 x7 x8 x9 x10 x11 x12 x13 x14 x15 x16 x17) (PD.PS.hS h1 G1) = .nx (eL x0 x3 (some (.ref (G.length + 1 + 3))) (some (rowD r)) x6 x7 x8 x9 x10 x11 x12 x13 x14 x15 x16 x17) (PD.PS.hS h3 G1) := by
    simp only [eL, x_asg, e_call, e_bin, es_cons, es_nil, e_slot, e_cst, List.getElem?_cons_succ, List.getElem?_cons_zero, R.bind_ok, d10, b_add, te', R.out_ok, g_nm, List.set_cons_succ, List.set_cons_zero]
  obtain ⟨h4, X, sts, rws, L, se⟩ := steps_ok (n := n + 3) hT h3 G1 g1 r60
  have se' : callN T (n + 16) 111 [.ref 2, rowD r, .int 3, .int 60] (PD.PS.hS h3 G1) = .ok (.tup [.ref (G1.length + 3), .ref (G1.length + 1 + 3)]) (PD.PS.hS h4 (G1 ++ X)) := se
  have s3 : exT (callN T (n + 16)) (.asg (.tp (.cons (.nm 11) (.cons (.nm 12) .nil))) (.call 111 (.cons (.slot 1) (.cons (.slot 5) (.cons (.cst (.int 3)) (.cons (.cst (.int 60)) .nil)))))) (eL x0 x3 (some (.ref (G.length + 1 + 3))) (some (rowD r)) x6 x7 x8 x9 x10 x11 x12 x13 x14 x15 x16 x17) (PD.PS.hS h3 G1) = .nx (eL x0 x3 (some (.ref (G.length + 1 + 3))) (some (rowD r)) x6 x7 x8 x9 x10 (some (.ref (G1.length + 3))) (some (.ref (G1.length + 1 + 3))) x13 x14 x15 x16 x17) (PD.PS.hS h4 (G1 ++ X)) := by
    simp only [eL, x_asg, e_call, es_cons, es_nil, e_slot, e_cst, List.getElem?_cons_succ, List.getElem?_cons_zero, R.bind_ok, se', R.out_ok, g_tp, items_tup, gs_cons, gs_nil, g_nm, List.set_cons_succ, List.set_cons_zero]
  obtain ⟨init, cur, he⟩ : ∃ init cur, rws = init ++ [cur] := ⟨_, _, (List.dropLast_concat_getLast L.ne).symm⟩
  have hcur : R60 cur := L.rs cur (by rw [he]; simp)
  have la := at_last (S := PD.PS.hS h4 (G1 ++ X)) (b := G1.length + 1 + 3) (by rw [hS_get]; exact L.rw) he
  have s4 : exT (callN T (n + 16)) (.asg (.nm 6) (.ix (.slot 12) (.bin .Sub (.blt .len (.cons (.slot 12) .nil)) (.cst (.int 1))))) (eL x0 x3 (some (.ref (G.length + 1 + 3))) (some (rowD r)) x6 x7 x8 x9 x10 (some (.ref (G1.length + 3))) (some (.ref (G1.length + 1 + 3))) x13 x14 x15 x16 x17) (PD.PS.hS h4 (G1 ++ X)) = .nx (eL x0 x3 (some (.ref (G.length + 1 + 3))) (some (rowD r)) (some (rowD cur)) x7 x8 x9 x10 (some (.ref (G1.length + 3))) (some (.ref (G1.length + 1 + 3))) x13 x14 x15 x16 x17) (PD.PS.hS h4 (G1 ++ X)) := by
    simp only [eL, x_asg, e_ix, e_bin, e_blt, es_cons, es_nil, e_slot, e_cst, List.getElem?_cons_succ, List.getElem?_cons_zero, R.bind_ok, f_lenr, items_ref, hS_get, L.rw, List.length_map, b_sub, la, R.out_ok, g_nm, List.set_cons_succ, List.set_cons_zero]
  have s5 : exT (callN T (n + 16)) (.asg (.nm 7) (.lst .nil)) (eL x0 x3 (some (.ref (G.length + 1 + 3))) (some (rowD r)) (some (rowD cur)) x7 x8 x9 x10 (some (.ref (G1.length + 3))) (some (.ref (G1.length + 1 + 3))) x13 x14 x15 x16 x17) (PD.PS.hS h4 (G1 ++ X)) = .nx (eL x0 x3 (some (.ref (G.length + 1 + 3))) (some (rowD r)) (some (rowD cur)) (some (.ref ((G1 ++ X).length + 3))) x8 x9 x10 (some (.ref (G1.length + 3))) (some (.ref (G1.length + 1 + 3))) x13 x14 x15 x16 x17) (PD.PS.hS h4 (G1 ++ X ++ [.lst []])) := by
    simp only [eL, x_asg, e_lst, es_nil, R.bind_ok, List.length_nil, Nat.zero_le, if_true, newL_eq, hS_len, hS_app, R.out_ok, g_nm, List.set_cons_succ, List.set_cons_zero]
  have g5 : GW (G1 ++ X ++ [Cell.lst []]) := L.gw.lst rfl
  have lt1 := (List.getElem?_eq_some_iff.mp gd1).1
  have lta := (List.getElem?_eq_some_iff.mp L.st).1
  have t5 : Tr (G1 ++ X ++ [Cell.lst []]) (G1 ++ X).length [] 0 := ⟨g5, by rw [List.getElem?_append_left (by rw [List.length_append]; omega), List.getElem?_append_left lt1]; exact gd1, by rw [List.length_append]; omega, by simp, by simp, by simp⟩
  have ha : (G1 ++ X ++ [Cell.lst []])[G1.length]? = some (.lst (sts.map stD)) := by rw [List.getElem?_append_left lta]; exact L.st
  rw [lB_eq, xs_cons, s1, Out.thn_nx, xs_cons, s2, Out.thn_nx, xs_cons, s3, Out.thn_nx, xs_cons, s4, Out.thn_nx, xs_cons, s5, Out.thn_nx, xs_cons]
  generalize G1 ++ X ++ [Cell.lst []] = G5 at t5 ha
  generalize (G1 ++ X).length = tl at t5
  with_reducible refine sat_thn (s6_ok (n := n) (m := 0) hT ha L.bd L.l1 t5 h4 x0 x3 _ _ _ x8 x9 x10 _ x13 x14 x15 x16 x17) ?_
  rintro e S ⟨y8, G6, trd, t6, rfl, rfl⟩
  rw [xs_cons]
  with_reducible refine sat_thn (s7_ok (n := n) hT hcur t6 h4 x0 x3 _ _ y8 x9 x10 _ _ x13 x14 x15 x16 x17) ?_
  rintro e S ⟨h7, y9, y13, y14, G7, trd7, t7, rfl, rfl⟩
  rw [xs_cons]
  with_reducible refine sat_thn (s8_ok (n := n) hT hcur t7 h7 x0 x3 _ _ y8 y9 x10 _ _ y13 y14 x15 x16 x17) ?_
  rintro e S ⟨z8, y15, y16, y17, rfl, rfl⟩
  rw [xs_cons]
  with_reducible refine sat_thn (s9_ok (n := n) hT hcur t7.gw h7 x0 x3 _ _ _ z8 y9 x10 _ _ y13 y14 y15 y16 y17) ?_
  rintro e S ⟨y10, X9, g9, rfl, rfl⟩
  rw [xs_nil]
  exact ⟨_, _, _, _, _, _, _, _, _, _, _, _, _, _, _, _, g9, (t7.app g9).dic, rfl, rfl⟩
theorem run (hT : Fns T) (hL : T 22 = some d_law) (ns : List Int) : ∃ S', callN T (n + 17) 22 [.rol (ns.map .int)] [] = .ok (.bl true) S' := by
  have hh := hand_spec (n := n + 15) hT.h16 ns
  have gw0 : GW [Cell.dic kvO] := by show cellsLt ([Cell.dic kvO].length + 3) [Cell.dic kvO] = true; kernel_rfl
  have key : (exTs (callN T (n + 16)) d_law.body [some (.rol (ns.map .int)), none, none, none, none, none, none, none, none, none, none, none, none, none, none, none, none, none] []).sat (fun _ _ => False) (fun v S => v = .bl true) := by
    have s1 : exT (callN T (n + 16)) (.asg (.nm 1) (.call 16 (.cons (.slot 0) .nil))) [some (.rol (ns.map .int)), none, none, none, none, none, none, none, none, none, none, none, none, none, none, none, none, none] [] = .nx [some (.rol (ns.map .int)), some (.ref 2), none, none, none, none, none, none, none, none, none, none, none, none, none, none, none, none] (PD.PS.hS (hand0 ns) []) := by
      simp only [x_asg, e_call, es_cons, es_nil, e_slot, List.getElem?_cons_succ, List.getElem?_cons_zero, R.bind_ok, hh, R.out_ok, g_nm, List.set_cons_succ, List.set_cons_zero]
    have ed : ∀ (env : Env) (S : Store), evE (callN T (n + 16)) env (.dct [(.inr ("turn" : PySem.Str), (.str ("back" : PySem.Str))), (.inr ("back" : PySem.Str), (.str ("turn" : PySem.Str))), (.inr ("fold" : PySem.Str), (.str ("times" : PySem.Str))), (.inr ("times" : PySem.Str), (.str ("fold" : PySem.Str)))]) S = .ok (.ref S.length) (S ++ [.dic kvO]) := fun env S => by rw [evE]; rfl
    have s2 : exT (callN T (n + 16)) (.asg (.nm 2) (.dct [(.inr ("turn" : PySem.Str), (.str ("back" : PySem.Str))), (.inr ("back" : PySem.Str), (.str ("turn" : PySem.Str))), (.inr ("fold" : PySem.Str), (.str ("times" : PySem.Str))), (.inr ("times" : PySem.Str), (.str ("fold" : PySem.Str)))])) [some (.rol (ns.map .int)), some (.ref 2), none, none, none, none, none, none, none, none, none, none, none, none, none, none, none, none] (PD.PS.hS (hand0 ns) []) = .nx (eL (some (.rol (ns.map .int))) none none none none none none none none none none none none none none none) (PD.PS.hS (hand0 ns) [.dic kvO]) := by
      simp only [eL, x_asg, ed, hS_len, hS_app, R.out_ok, g_nm, List.set_cons_succ, List.set_cons_zero, List.length_nil, Nat.zero_add, List.nil_append]
    rw [law_eq, xs_cons, s1, Out.thn_nx, xs_cons, s2, Out.thn_nx, xs_cons]
    with_reducible refine sat_thn (N := fun e S => True) ?_ (fun e S _ => sat_rtI (d := .bl true) (S := S) (by simp) rfl)
    with_reducible refine for_rng 16 (S' := PD.PS.hS (hand0 ns) [.dic kvO]) (rng1_sat (k := 16) (by simp) (by omega) (by omega)) (le_sz (by omega)) (fun i e S => ∃ y3 y4 y5 y6 y7 y8 y9 y10 y11 y12 y13 y14 y15 y16 y17 h' G', GW G' ∧ G'[0]? = some (.dic kvO) ∧ e = (eL (some (.rol (ns.map .int))) y3 y4 y5 y6 y7 y8 y9 y10 y11 y12 y13 y14 y15 y16 y17) ∧ S = PD.PS.hS h' G') ⟨_, _, _, _, _, _, _, _, _, _, _, _, _, _, _, _, [.dic kvO], gw0, rfl, rfl, rfl⟩ ?_ (fun e S _ => trivial)
    rintro i env S hi ⟨y3, y4, y5, y6, y7, y8, y9, y10, y11, y12, y13, y14, y15, y16, y17, h, G, g, gd, rfl, rfl⟩
    refine ⟨(eL (some (.rol (ns.map .int))) (some (.int (i : Int))) y4 y5 y6 y7 y8 y9 y10 y11 y12 y13 y14 y15 y16 y17), g_nm _ _, ?_⟩
    refine satB_of (turn_ok (n := n) hT g gd h (some (.rol (ns.map .int))) (some (.int (i : Int))) y4 y5 y6 y7 y8 y9 y10 y11 y12 y13 y14 y15 y16 y17) ?_
    rintro e S ⟨z4, z5, z6, z7, z8, z9, z10, z11, z12, z13, z14, z15, z16, z17, h', G', a1, a2, a3, a4⟩
    exact ⟨_, z4, z5, z6, z7, z8, z9, z10, z11, z12, z13, z14, z15, z16, z17, h', G', a1, a2, a3, a4⟩
  obtain ⟨v, S', e, rfl⟩ := sat_rt key
  exact ⟨_, call_rt hL rfl e⟩
end
theorem run_ok (ns : List Int) (_ : ns.length ≤ 63) : ∃ S', callN tb 40 22 [.rol (ns.map .int)] [] = .ok (.bl true) S' := run (n := 23) fns rfl ns
end PD.PS.K30r
end

section
set_option linter.all false
set_option pp.maxSteps 400
set_option pp.deepTerms false
set_option Elab.async false
set_option maxRecDepth 100000
theorem K30.run : ∀ ns : List Int, ns.length ≤ 63 → ∃ S', PD.callN K30.tb 40 22 [.rol (ns.map .int)] [] = .ok (.bl true) S' := fun ns h => PD.PS.K30r.run_ok ns h
open PySem PySem.W PyProof.Rows
set_option maxRecDepth 100000 in
set_option maxHeartbeats 0 in
theorem PySem.Challenge.cw_pastever_k30_steps_one_by_one_holds : PySem.Challenge.rw_pastever_k30_steps_one_by_one.Holds := by
  w_on; o_law; k_head; (case hw => w_witness2)
  k_fill
  refine PD.walk_law (l := PySem.Challenge.rw_pastever_k30_steps_one_by_one) rfl rfl (fun w h Y => PySem.W.kIn_of Y) (40 + 2) ⟨rfl, by decide, by decide⟩ ?F
  case F =>
    intro w mg fa h KX G hmg
    refine' K30.all_mk K30.run KX G hmg ?h_is_integer ?h_is_between ?h_is_sign ?h_signs_below ?h_is_long_term ?h_need_long_terms ?h_turned_row ?h_turned_back_row ?h_folded_row ?h_timed_row ?h_stepped_row ?h_is_step_form ?h_behind_step ?h_stepped ?h_undone_step ?h_undone ?h__law_hand ?h__law_draw ?h__law_some ?h__law_count ?h__law_deep ?h__law_row ?h__law_signs ?h__law_term ?h__law_put ?h__law_get ?h__law_paths ?h__law_deed ?h__law_step ?h__law_steps ?h__law_kept ?h__law_outcome ?h_law ?c_MOST_DEEP ?c_LETTERS ?c_MOST_SIGNS ?k_BACKWARDS ?k_DEEDS ?z_len ?z_abs ?z_int ?z_str ?z_tuple ?z_list ?z_all ?z_any ?z_sum ?z_bool ?z_isinstance ?z_range ?z_enumerate ?z_zip ?z_max ?z_min ?z_sorted ?e_NoStep ?s_NoStep_NoStep
    (case h_is_integer => (refine' PD.def_mk ?a ?l ?c ?k; (case a => k_is); (case l => k_is); (case c => k_is); (case k => k_is)))
    (case h_is_between => (refine' PD.def_mk ?a ?l ?c ?k; (case a => k_is); (case l => k_is); (case c => k_is); (case k => k_is)))
    (case h_is_sign => (refine' PD.def_mk ?a ?l ?c ?k; (case a => k_is); (case l => k_is); (case c => k_is); (case k => k_is)))
    (case h_signs_below => (refine' PD.def_mk ?a ?l ?c ?k; (case a => k_is); (case l => k_is); (case c => k_is); (case k => k_is)))
    (case h_is_long_term => (refine' PD.def_mk ?a ?l ?c ?k; (case a => k_is); (case l => k_is); (case c => k_is); (case k => k_is)))
    (case h_need_long_terms => (refine' PD.def_mk ?a ?l ?c ?k; (case a => k_is); (case l => k_is); (case c => k_is); (case k => k_is)))
    (case h_turned_row => (refine' PD.def_mk ?a ?l ?c ?k; (case a => k_is); (case l => k_is); (case c => k_is); (case k => k_is)))
    (case h_turned_back_row => (refine' PD.def_mk ?a ?l ?c ?k; (case a => k_is); (case l => k_is); (case c => k_is); (case k => k_is)))
    (case h_folded_row => (refine' PD.def_mk ?a ?l ?c ?k; (case a => k_is); (case l => k_is); (case c => k_is); (case k => k_is)))
    (case h_timed_row => (refine' PD.def_mk ?a ?l ?c ?k; (case a => k_is); (case l => k_is); (case c => k_is); (case k => k_is)))
    (case h_stepped_row => (refine' PD.def_mk ?a ?l ?c ?k; (case a => k_is); (case l => k_is); (case c => k_is); (case k => k_is)))
    (case h_is_step_form => (refine' PD.def_mk ?a ?l ?c ?k; (case a => k_is); (case l => k_is); (case c => k_is); (case k => k_is)))
    (case h_behind_step => (refine' PD.def_mk ?a ?l ?c ?k; (case a => k_is); (case l => k_is); (case c => k_is); (case k => k_is)))
    (case h_stepped => (refine' PD.def_mk ?a ?l ?c ?k; (case a => k_is); (case l => k_is); (case c => k_is); (case k => k_is)))
    (case h_undone_step => (refine' PD.def_mk ?a ?l ?c ?k; (case a => k_is); (case l => k_is); (case c => k_is); (case k => k_is)))
    (case h_undone => (refine' PD.def_mk ?a ?l ?c ?k; (case a => k_is); (case l => k_is); (case c => k_is); (case k => k_is)))
    (case h__law_hand => (refine' PD.def_mk ?a ?l ?c ?k; (case a => k_is); (case l => k_is); (case c => k_is); (case k => k_is)))
    (case h__law_draw => (refine' PD.def_mk ?a ?l ?c ?k; (case a => k_is); (case l => k_is); (case c => k_is); (case k => k_is)))
    (case h__law_some => (refine' PD.def_mk ?a ?l ?c ?k; (case a => k_is); (case l => k_is); (case c => k_is); (case k => k_is)))
    (case h__law_count => (refine' PD.def_mk ?a ?l ?c ?k; (case a => k_is); (case l => k_is); (case c => k_is); (case k => k_is)))
    (case h__law_deep => (refine' PD.def_mk ?a ?l ?c ?k; (case a => k_is); (case l => k_is); (case c => k_is); (case k => k_is)))
    (case h__law_row => (refine' PD.def_mk ?a ?l ?c ?k; (case a => k_is); (case l => k_is); (case c => k_is); (case k => k_is)))
    (case h__law_signs => (refine' PD.def_mk ?a ?l ?c ?k; (case a => k_is); (case l => k_is); (case c => k_is); (case k => k_is)))
    (case h__law_term => (refine' PD.def_mk ?a ?l ?c ?k; (case a => k_is); (case l => k_is); (case c => k_is); (case k => k_is)))
    (case h__law_put => (refine' PD.def_mk ?a ?l ?c ?k; (case a => k_is); (case l => k_is); (case c => k_is); (case k => k_is)))
    (case h__law_get => (refine' PD.def_mk ?a ?l ?c ?k; (case a => k_is); (case l => k_is); (case c => k_is); (case k => k_is)))
    (case h__law_paths => (refine' PD.def_mk ?a ?l ?c ?k; (case a => k_is); (case l => k_is); (case c => k_is); (case k => k_is)))
    (case h__law_deed => (refine' PD.def_mk ?a ?l ?c ?k; (case a => k_is); (case l => k_is); (case c => k_is); (case k => k_is)))
    (case h__law_step => (refine' PD.def_mk ?a ?l ?c ?k; (case a => k_is); (case l => k_is); (case c => k_is); (case k => k_is)))
    (case h__law_steps => (refine' PD.def_mk ?a ?l ?c ?k; (case a => k_is); (case l => k_is); (case c => k_is); (case k => k_is)))
    (case h__law_kept => (refine' PD.def_mk ?a ?l ?c ?k; (case a => k_is); (case l => k_is); (case c => k_is); (case k => k_is)))
    (case h__law_outcome => (refine' PD.def_mk ?a ?l ?c ?k; (case a => k_is); (case l => k_is); (case c => k_is); (case k => k_is)))
    (case h_law => (refine' PD.def_mk ?a ?l ?c ?k; (case a => k_is); (case l => k_is); (case c => k_is); (case k => k_is)))
    (case c_MOST_DEEP => (refine' PD.int_mk ?a; (case a => k_is)))
    (case c_LETTERS => (refine' PD.str_mk ?a; (case a => k_is)))
    (case c_MOST_SIGNS => (refine' PD.int_mk ?a; (case a => k_is)))
    (case k_BACKWARDS => (refine' PD.dct_mk ?a ?l ?k ?o ?m; (case a => k_is); (case l => k_is); (case k => k_keys); (case o => decide); (case m => (refine' (PD.es_str (PD.es_str (PD.es_str (PD.es_str PD.es_nil))))))))
    (case k_DEEDS => (refine' PD.dct_mk ?a ?l ?k ?o ?m; (case a => k_is); (case l => k_is); (case k => k_keys); (case o => decide); (case m => (refine' (PD.es_fn ?f0 (PD.es_fn ?f1 (PD.es_fn ?f2 (PD.es_fn ?f3 PD.es_nil)))); (case f0 => k_is); (case f1 => k_is); (case f2 => k_is); (case f3 => k_is)))))
    (case z_len => k_is)
    (case z_abs => k_is)
    (case z_int => k_is)
    (case z_str => k_is)
    (case z_tuple => k_is)
    (case z_list => k_is)
    (case z_all => k_is)
    (case z_any => k_is)
    (case z_sum => k_is)
    (case z_bool => k_is)
    (case z_isinstance => k_is)
    (case z_range => k_is)
    (case z_enumerate => k_is)
    (case z_zip => k_is)
    (case z_max => k_is)
    (case z_min => k_is)
    (case z_sorted => k_is)
    (case e_NoStep => (refine' PD.x0_mk ?a ?b ?c; (case a => k_is); (case b => (refine' PD.xc_mk ?q1 ?q2 ?q3 ?q4 ?q5 ?q6 ?q7 ?q8 ?q9 ?q0; (case q1 => k_is); (case q2 => k_is); (case q3 => k_is); (case q4 => k_is); (case q5 => k_is); (case q6 => k_is); (case q7 => k_is); (case q8 => k_is); (case q9 => k_is); (case q0 => k_is))); (case c => k_exc)))
    (case s_NoStep_NoStep => k_is)
end
