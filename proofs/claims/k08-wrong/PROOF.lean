import PyProof.Rows.All
import HandS.List
import HandS.Text
import HandS.Dict
import HandS.ForExc
import HandS.CallSlots
import HandS.Comp
import HandS.Iter
import HandS.TupAny
import HandS.TupMul
import HandS.Wide
import HandS.Zip
import HandS.IsInst
import HandS.Style
import HandS.Star
import HandS.Small
import HandS.WordsDict
import HandS.Gcd
import HandS.Flt
import KE.KTupSum
import PyProof.StrOps2
import PyProof.NeKinds
import PyProof.EqKinds
import HandS.HotCalls
import HandS.ExcInitHot
import HandS.ExcField
import HandS.WordsExc
import KE.KExcIs
import HandS.RaiseMore
import HandS.ExcIs
import KE.GoesNew
import HandS.NoneIn
import PySem.Challenge.RW_pastever_k08_wrong_texts_of_ordinals
import HandS.Codes
section
set_option linter.all false
/-! PDcore: a small evaluator over plain data for the part of Python that the laws use. -/
namespace PD
open PySem

/-- plain data; `ref n` is the n-th mutable cell of the store; `rol` a list that is only read -/
inductive D where
  | non | bl (b : Bool) | int (i : Int) | str (s : Str) | tup (ds : List D) | rol (ds : List D) | ref (n : Nat)
  deriving Inhabited

inductive Cell where
  | lst (ds : List D) | dic (kvs : List (L2.Key × D)) | oth
  deriving Inhabited
abbrev Store := List Cell
/-- an exception: its class and its field's value -/
structure Exn where
  cls : Nat
  fs : List D

inductive R (α : Type) where
  | ok (a : α) (S : Store) | exc (x : Exn) (S : Store) | stuck
@[inline] def R.bind {α β : Type} (r : R α) (f : α → Store → R β) : R β :=
  match r with
  | .ok a S => f a S
  | .exc x S => .exc x S
  | .stuck => .stuck
def R.noexc {α : Type} : R α → R α
  | .exc _ _ => .stuck
  | r => r
@[simp] theorem R.bind_ok {α β : Type} (a : α) (S : Store) (f : α → Store → R β) : R.bind (.ok a S) f = f a S := rfl
@[simp] theorem R.bind_exc {α β : Type} (x : Exn) (S : Store) (f : α → Store → R β) : R.bind (.exc x S : R α) f = .exc x S := rfl
@[simp] theorem R.bind_stuck {α β : Type} (f : α → Store → R β) : R.bind (.stuck : R α) f = .stuck := rfl
@[simp] theorem R.noexc_ok {α : Type} (a : α) (S : Store) : R.noexc (.ok a S) = .ok a S := rfl

/-! equality of data -/
mutual
def D.eqb : D → D → Bool
  | .non, .non => true
  | .bl a, .bl b => a == b
  | .int a, .int b => a == b
  | .str a, .str b => decide (a = b)
  | .tup a, .tup b => D.eqbs a b
  | .rol a, .rol b => D.eqbs a b
  | .ref a, .ref b => a == b
  | _, _ => false
def D.eqbs : List D → List D → Bool
  | [], [] => true
  | x :: xs, y :: ys => D.eqb x y && D.eqbs xs ys
  | _, _ => false
end
mutual
theorem D.eqb_refl : ∀ d : D, D.eqb d d = true
  | .non => by simp [D.eqb]
  | .bl _ => by simp [D.eqb]
  | .int _ => by simp [D.eqb]
  | .str _ => by simp [D.eqb]
  | .tup ds => by simp [D.eqb, D.eqbs_refl ds]
  | .rol ds => by simp [D.eqb, D.eqbs_refl ds]
  | .ref _ => by simp [D.eqb]
theorem D.eqbs_refl : ∀ ds : List D, D.eqbs ds ds = true
  | [] => by simp [D.eqbs]
  | d :: ds => by simp [D.eqbs, D.eqb_refl d, D.eqbs_refl ds]
end
mutual
theorem D.eqb_eq : ∀ a b : D, D.eqb a b = true → a = b
  | .non, b, h => by cases b <;> simp_all [D.eqb]
  | .bl _, b, h => by cases b <;> simp_all [D.eqb]
  | .int _, b, h => by cases b <;> simp_all [D.eqb]
  | .str _, b, h => by cases b <;> simp_all [D.eqb]
  | .tup xs, b, h => by
    cases b with
    | tup ys => rw [D.eqbs_eq xs ys (by simpa [D.eqb] using h)]
    | _ => simp [D.eqb] at h
  | .rol xs, b, h => by
    cases b with
    | rol ys => rw [D.eqbs_eq xs ys (by simpa [D.eqb] using h)]
    | _ => simp [D.eqb] at h
  | .ref _, b, h => by cases b <;> simp_all [D.eqb]
theorem D.eqbs_eq : ∀ a b : List D, D.eqbs a b = true → a = b
  | [], [], _ => rfl
  | x :: xs, y :: ys, h => by
    simp only [D.eqbs, Bool.and_eq_true] at h
    rw [D.eqb_eq x y h.1, D.eqbs_eq xs ys h.2]
  | [], _ :: _, h => by simp [D.eqbs] at h
  | _ :: _, [], h => by simp [D.eqbs] at h
end
def Cell.eqb : Cell → Cell → Bool
  | .lst a, .lst b => D.eqbs a b
  | .dic a, .dic b => decide (a.map (·.1) = b.map (·.1)) && D.eqbs (a.map (·.2)) (b.map (·.2))
  | .oth, .oth => true
  | _, _ => false
theorem pairs_eq {α β : Type} : ∀ {a b : List (α × β)}, a.map (·.1) = b.map (·.1) → a.map (·.2) = b.map (·.2) → a = b
  | [], [], _, _ => rfl
  | (x, y) :: a, (z, w) :: b, h1, h2 => by
    simp only [List.map_cons, List.cons.injEq] at h1 h2
    rw [h1.1, h2.1, pairs_eq h1.2 h2.2]
  | [], _ :: _, h, _ => by simp at h
  | _ :: _, [], h, _ => by simp at h
def eqStore : List Cell → List Cell → Bool
  | [], [] => true
  | a :: s, b :: t => Cell.eqb a b && eqStore s t
  | _, _ => false
theorem Cell.eqb_refl (c : Cell) : Cell.eqb c c = true := by cases c <;> simp [Cell.eqb, D.eqbs_refl]
theorem Cell.eqb_eq {a b : Cell} (h : Cell.eqb a b = true) : a = b := by
  match a, b with
  | .lst a, .lst b => rw [D.eqbs_eq a b (by simpa [Cell.eqb] using h)]
  | .dic a, .dic b =>
    simp only [Cell.eqb, Bool.and_eq_true, decide_eq_true_eq] at h
    rw [pairs_eq h.1 (D.eqbs_eq _ _ h.2)]
  | .oth, .oth => rfl
  | .lst _, .dic _ => simp [Cell.eqb] at h
  | .lst _, .oth => simp [Cell.eqb] at h
  | .dic _, .lst _ => simp [Cell.eqb] at h
  | .dic _, .oth => simp [Cell.eqb] at h
  | .oth, .lst _ => simp [Cell.eqb] at h
  | .oth, .dic _ => simp [Cell.eqb] at h
theorem eqStore_refl : ∀ s, eqStore s s = true
  | [] => rfl
  | c :: s => by simp [eqStore, Cell.eqb_refl, eqStore_refl s]
theorem eqStore_eq : ∀ {s t}, eqStore s t = true → s = t
  | [], [], _ => rfl
  | a :: s, b :: t, h => by
    simp only [eqStore, Bool.and_eq_true] at h
    rw [Cell.eqb_eq h.1, eqStore_eq h.2]
  | [], _ :: _, h => by simp [eqStore] at h
  | _ :: _, [], h => by simp [eqStore] at h

/-! all refs below n -/
mutual
def D.lt (n : Nat) : D → Bool
  | .tup ds => D.lts n ds
  | .rol ds => D.lts n ds
  | .ref k => decide (k < n)
  | _ => true
def D.lts (n : Nat) : List D → Bool
  | [] => true
  | d :: ds => D.lt n d && D.lts n ds
end
def Cell.lt (n : Nat) : Cell → Bool
  | .lst ds => D.lts n ds
  | .dic kvs => D.lts n (kvs.map (·.2))
  | .oth => true
def cellsLt (n : Nat) (S : Store) : Bool := S.all (Cell.lt n)
/-- behind a call: what the call has made and nobody holds is dropped -/
def gcS (S0 : Store) (d : D) (S : Store) : Store :=
  if D.lt S0.length d && (eqStore (S.take S0.length) S0 || cellsLt S0.length (S.take S0.length)) then S.take S0.length else S
def gc (S0 : Store) : R D → R D
  | .ok d S => .ok d (gcS S0 d S)
  | r => r
theorem gcS_same {S0 G : Store} {d : D} (h : D.lt S0.length d = true) : gcS S0 d (S0 ++ G) = S0 := by
  unfold gcS
  simp [h, eqStore_refl]
theorem gcS_self {S0 : Store} {d : D} : gcS S0 d S0 = S0 := by
  unfold gcS
  simp
theorem gcS_wf {S0 A G : Store} {d : D} (hl : A.length = S0.length) (h : D.lt S0.length d = true) (hw : cellsLt S0.length A = true) : gcS S0 d (A ++ G) = A := by
  unfold gcS
  rw [← hl] at h hw ⊢
  simp [h, hw]

/-! ### operators -/
def mulOk (i j : Int) : Bool := decide (i.natAbs < 2 ^ 63) || decide (j.natAbs < 2 ^ 63) || decide (i.natAbs.log2 + j.natAbs.log2 < 1000000)
def powOk (i j : Int) : Bool := decide (0 ≤ j) && decide (j ≤ 1000000) && decide (i.natAbs < 2 ^ 64)

mutual
def D.py (f : Nat → Option PyData) : D → Option PyData
  | .non => some .none
  | .bl b => some (.bool b)
  | .int i => some (.int i)
  | .str s => some (.str s)
  | .tup ds => (D.pys f ds).map .tuple
  | .rol ds => (D.pys f ds).map .list
  | .ref n => f n
def D.pys (f : Nat → Option PyData) : List D → Option (List PyData)
  | [] => some []
  | d :: ds => match D.py f d, D.pys f ds with
    | some x, some xs => some (x :: xs)
    | _, _ => none
end
def pyR (S : Store) : Nat → Nat → Option PyData
  | 0, _ => none
  | k + 1, n => match S[n]? with
    | some (.lst ds) => (D.pys (pyR S k) ds).map .list
    | _ => none
def toPy (S : Store) (d : D) : Option PyData := d.py (pyR S 6)

/-- the items of a list or a tuple -/
def itemsOf (S : Store) : D → Option (List D)
  | .tup ds => some ds
  | .rol ds => some ds
  | .ref n => match S[n]? with
    | some (.lst ds) => some ds
    | _ => none
  | _ => none
/-! ### dicts -/
def D.key : D → Option L2.Key
  | .int i => some (.inl i)
  | .str s => some (.inr s)
  | _ => none
def dicOf (S : Store) : D → Option (List (L2.Key × D))
  | .ref n => match S[n]? with
    | some (.dic kvs) => some kvs
    | _ => none
  | _ => none
def valD (kvs : List (L2.Key × D)) (k : L2.Key) : Option D := (kvs.find? fun kv => decide (kv.1 = k)).map (·.2)
def putD (kvs : List (L2.Key × D)) (k : L2.Key) (v : D) : List (L2.Key × D) :=
  if (kvs.any fun kv => decide (kv.1 = k)) = true then kvs.map (fun kv => if kv.1 = k then (kv.1, v) else kv) else kvs ++ [(k, v)]
/-- all keys are texts -/
def keysS? : List L2.Key → Option (List Str)
  | [] => some []
  | .inr s :: r => (keysS? r).map (s :: ·)
  | .inl _ :: _ => none
theorem keysS_eq : ∀ {l : List L2.Key} {ks : List Str}, keysS? l = some ks → l = ks.map Sum.inr
  | [], ks, h => by simp [keysS?] at h; subst h; rfl
  | .inr s :: r, ks, h => by
    simp only [keysS?, Option.map_eq_some_iff] at h
    obtain ⟨k, h1, rfl⟩ := h
    rw [keysS_eq h1]
    rfl
  | .inl _ :: _, ks, h => by simp [keysS?] at h
def mergeD (kvs more : List (L2.Key × D)) : List (L2.Key × D) := more.foldl (fun acc kv => putD acc kv.1 kv.2) kvs
def isFlat : D → Bool
  | .non => true | .bl _ => true | .int _ => true | .str _ => true | _ => false
/-- == of flat things -/
def flatEq : D → D → Bool
  | .non, .non => true
  | .bl a, .bl b => a == b
  | .bl a, .int j => (if a then 1 else 0) == j
  | .int i, .bl b => i == (if b then 1 else 0)
  | .int i, .int j => i == j
  | .str a, .str b => a == b
  | _, _ => false
def ints? : List D → Option (List Int)
  | [] => some []
  | .int i :: ds => (ints? ds).map (i :: ·)
  | _ :: _ => none
def bls? : List D → Option (List Bool)
  | [] => some []
  | .bl i :: ds => (bls? ds).map (i :: ·)
  | _ :: _ => none
def strs? : List D → Option (List Str)
  | [] => some []
  | .str i :: ds => (strs? ds).map (i :: ·)
  | _ :: _ => none

/-- a text so many times -/
def repS (a : Str) (n : Nat) : Str := ⟨(List.replicate n a.cps).foldl (· ++ ·) #[]⟩
theorem foldl_size : ∀ (l : List (Array Nat)) (x : Array Nat), (l.foldl (· ++ ·) x).toList = x.toList ++ (l.map (·.toList)).flatten
  | [], x => by simp
  | a :: l, x => by simp [foldl_size l (x ++ a)]
theorem repS_list (a : Str) (n : Nat) : (repS a n).cps.toList = (List.replicate n a.cps.toList).flatten := by
  unfold repS
  rw [foldl_size]
  simp
theorem repS_len (a : Str) (n : Nat) : (repS a n).length = a.length * n := by
  have h := congrArg List.length (repS_list a n)
  simp only [List.length_flatten, List.map_replicate, List.sum_replicate_nat, Array.length_toList] at h
  show (repS a n).cps.size = a.cps.size * n
  rw [h, Nat.mul_comm]
def newL (ds : List D) (S : Store) : R D := .ok (.ref S.length) (S ++ [.lst ds])
def newD (S : Store) : R D := .ok (.ref S.length) (S ++ [.dic []])

def opBin (o : Operator) (x y : D) (S : Store) : R D :=
  match o, x, y with
  | .Add, .int i, .int j => .ok (.int (i + j)) S
  | .Add, .str a, .str b => if a.length + b.length ≤ sizeLine then .ok (.str (a ++ b)) S else .stuck
  | .Add, .tup a, .tup b => if a.length + b.length ≤ sizeLine then .ok (.tup (a ++ b)) S else .stuck
  | .Add, .ref m, .ref n => match S[m]?, S[n]? with
    | some (.lst a), some (.lst b) => if a.length + b.length ≤ sizeLine then newL (a ++ b) S else .stuck
    | _, _ => .stuck
  | .Sub, .int i, .int j => .ok (.int (i - j)) S
  | .Mult, .int i, .int j => if mulOk i j then .ok (.int (i * j)) S else .stuck
  | .Mult, .str a, .int k => if 2 ≤ k ∧ k ≤ 100000 ∧ 0 < a.length ∧ a.length ≤ 100 then .ok (.str (repS a k.toNat)) S else .stuck
  | .Mult, .ref m, .int k => match S[m]? with
    | some (.lst a) => if -(2 ^ 63) ≤ k ∧ k < 2 ^ 63 ∧ a.length * k.toNat ≤ sizeLine then newL (List.replicate k.toNat a).flatten S else .stuck
    | _ => .stuck
  | .Mult, .tup a, .int k => if a.length ≤ 1000 ∧ k ≤ 1000 ∧ -1000 ≤ k then .ok (.tup (List.replicate k.toNat a).flatten) S else .stuck
  | .FloorDiv, .int i, .int j => if 0 < j ∧ j.natAbs.log2 < 9000 then .ok (.int (i / j)) S else .stuck
  | .Mod, .int i, .int j => if 0 < j then .ok (.int (i % j)) S else .stuck
  | .Pow, .int i, .int j => if powOk i j then .ok (.int (i ^ j.toNat)) S else .stuck
  | .LShift, .int i, .int j => if powOk i j then .ok (.int (i * 2 ^ j.toNat)) S else .stuck
  | .RShift, .int i, .int j => if 0 ≤ j then .ok (.int (i / 2 ^ j.toNat)) S else .stuck
  | .BitAnd, .int i, .int j => .ok (.int (Builtin.bitAnd i j)) S
  | .BitOr, .int i, .int j => .ok (.int (Builtin.bitOr i j)) S
  | _, _, _ => .stuck
/-- name op= e -/
def opAug (o : Operator) (x y : D) (S : Store) : R D :=
  match o, x, y with
  | .Add, .int i, .int j => .ok (.int (i + j)) S
  | .Sub, .int i, .int j => .ok (.int (i - j)) S
  | .Mult, .int i, .int j => if decide (i.natAbs < 2 ^ 63) || decide (j.natAbs < 2 ^ 63) then .ok (.int (i * j)) S else .stuck
  | .FloorDiv, .int i, .int j => if 0 < j ∧ j < 1073741824 then .ok (.int (i / j)) S else .stuck
  | .Mod, .int i, .int j => if 0 < j then .ok (.int (i % j)) S else .stuck
  | .Add, .str a, .str b => if a.length + b.length ≤ sizeLine then .ok (.str (a ++ b)) S else .stuck
  | _, _, _ => .stuck
def opUn (o : UnaryOp) (x : D) (S : Store) : R D :=
  match o, x with
  | .USub, .int i => .ok (.int (-i)) S
  | .Invert, .int i => .ok (.int (Builtin.bitNot i)) S
  | _, _ => .stuck
/-- item in what -/
def opIn0 (x y : D) (S : Store) : R Bool :=
  match x, y with
  | .str a, .str b => .ok (!(Builtin.Str.occurrences b a 0 b.length 1).isEmpty) S
  | _, _ => match itemsOf S y with
    | some ds => if isFlat x && ds.all isFlat then .ok (ds.any fun z => flatEq z x) S else .stuck
    | none => .stuck
def opIn (x y : D) (S : Store) : R Bool :=
  match dicOf S y with
  | some kvs => match x.key with
    | some k => .ok (valD kvs k).isSome S
    | none => .stuck
  | none => opIn0 x y S
/-- == with the empty tuple, whatever lies within the other one -/
def eqNil (x y : D) (S : Store) : R Bool :=
  match x, y with
  | .tup ds, .tup [] => .ok ds.isEmpty S
  | .ref n, .tup [] => match S[n]? with
    | some (.lst _) => .ok false S
    | some (.dic _) => .ok false S
    | _ => .stuck
  | _, _ => .stuck
def opEq (x y : D) (S : Store) : R Bool :=
  match toPy S x, toPy S y with
  | some a, some b => if SeqAt.shaped a && SeqAt.shaped b then .ok (PyData.eqv a b) S else eqNil x y S
  | _, _ => eqNil x y S
def opIs (x y : D) (S : Store) : R Bool :=
  match x, y with
  | .non, .non => .ok true S
  | _, .non => .ok false S
  | .bl a, .bl b => .ok (decide (a = b)) S
  | _, _ => .stuck
def opLt (x y : D) (S : Store) : R Bool :=
  match x, y with
  | .int i, .int j => .ok (decide (i < j)) S
  | .str a, .str b => .ok (decide (a.cps.toList < b.cps.toList)) S
  | .tup a, .tup b => match ints? a, ints? b with
    | some m, some n => .ok (HT.lexLt m n) S
    | _, _ => .stuck
  | _, _ => .stuck
def opLe (x y : D) (S : Store) : R Bool :=
  match x, y with
  | .int i, .int j => .ok (decide (i ≤ j)) S
  | _, _ => .stuck
def R.map {α β : Type} (r : R α) (f : α → β) : R β := r.bind fun a S => .ok (f a) S
@[simp] theorem R.map_ok {α β : Type} (a : α) (S : Store) (f : α → β) : R.map (.ok a S) f = .ok (f a) S := rfl
def opCmp (o : CmpOp) (x y : D) (S : Store) : R Bool :=
  match o with
  | .Eq => opEq x y S
  | .NotEq => (opEq x y S).map not
  | .Lt => opLt x y S
  | .Gt => (match x, y with | .int i, .int j => .ok (decide (j < i)) S | _, _ => .stuck)
  | .LtE => opLe x y S
  | .GtE => (match x, y with | .int i, .int j => .ok (decide (j ≤ i)) S | _, _ => .stuck)
  | .In => opIn x y S
  | .NotIn => (opIn x y S).map not
  | .Is => opIs x y S
  | .IsNot => (opIs x y S).map not
/-- truth -/
def opTru (x : D) (S : Store) : R Bool :=
  match x with
  | .non => .ok false S
  | .bl b => .ok b S
  | .int i => .ok (i != 0) S
  | _ => .stuck

/-! ### subscripts -/
def strAt (s : Str) (i : Int) : Option D := if s.length ≤ sizeLine then (L2.atI s.cps.toList i).map fun c => .str ⟨#[c]⟩ else none
def opIx0 (x y : D) (S : Store) : R D :=
  match y with
  | .int i => match x with
    | .str s => match strAt s i with | some d => .ok d S | none => .stuck
    | _ => match itemsOf S x with
      | some ds => match L2.atI ds i with | some d => .ok d S | none => .stuck
      | none => .stuck
  | _ => .stuck
def opIx (x y : D) (S : Store) : R D :=
  match dicOf S x with
  | some kvs => match y.key with
    | some k => match valD kvs k with
      | some d => .ok d S
      | none => .stuck
    | none => .stuck
  | none => opIx0 x y S
def cutD {α : Type} (xs : List α) (lo hi : Option Int) : List α := (xs.drop (HT.sIx xs.length 0 lo)).take (HT.sIx xs.length xs.length hi - HT.sIx xs.length 0 lo)
def opSl (x : D) (lo hi : Option Int) (S : Store) : R D :=
  match x with
  | .str z => if z.length ≤ sizeLine then .ok (.str (L2.cutS z lo hi)) S else .stuck
  | .tup ds => .ok (.tup (cutD ds lo hi)) S
  | .rol ds => newL (cutD ds lo hi) S
  | .ref n => match S[n]? with
    | some (.lst ds) => newL (cutD ds lo hi) S
    | _ => .stuck
  | _ => .stuck

/-! ### built-in functions -/
inductive Blt where
  | len | abs | int | str | tuple | list | all | any | sum | max | min | sorted | gcd
  deriving DecidableEq
inductive Ty where
  | int | bool | str | tuple | list
  deriving DecidableEq
/-- the greatest, the least of some numbers -/
def maxL (i : Int) (ns : List Int) : Int := ns.foldl (fun a b => if a < b then b else a) i
def minL (i : Int) (ns : List Int) : Int := ns.foldl (fun a b => if b < a then b else a) i
def leStr (a b : Str) : Bool := !decide (b.cps.toList < a.cps.toList)
def sortStr (xs : List Str) : List Str := xs.mergeSort leStr
def min3 (i j k : Int) : Int := if k < (if j < i then j else i) then k else (if j < i then j else i)
def opBlt (b : Blt) (xs : List D) (S : Store) : R D :=
  match b, xs with
  | .len, [.str s] => if s.length ≤ sizeLine then .ok (.int s.length) S else .stuck
  | .len, [x] => match itemsOf S x with | some ds => .ok (.int ds.length) S | none => match dicOf S x with | some kvs => .ok (.int kvs.length) S | none => .stuck
  | .abs, [.int i] => .ok (.int (if i < 0 then -i else i)) S
  | .int, [.int i] => .ok (.int i) S
  | .int, [.bl k] => .ok (.int (if k then 1 else 0)) S
  | .int, [.str s] => if s.length ≤ 640 then (match PySem.intText? s with | some i => .ok (.int i) S | none => .stuck) else .stuck
  | .str, [.int i] => if i.natAbs.log2 < 1920 then .ok (.str (toString i)) S else .stuck
  | .tuple, [.tup ds] => .ok (.tup ds) S
  | .tuple, [x] => match itemsOf S x with | some ds => .ok (.tup ds) S | none => .stuck
  | .list, [x] => match itemsOf S x with | some ds => newL ds S | none => .stuck
  | .all, [x] => match x, itemsOf S x with
    | .tup _, _ => .stuck
    | _, some ds => match bls? ds with | some bs => .ok (.bl (bs.all id)) S | none => .stuck
    | _, none => .stuck
  | .any, [x] => match x, itemsOf S x with
    | .tup _, _ => .stuck
    | _, some ds => match bls? ds with | some bs => .ok (.bl (bs.any id)) S | none => .stuck
    | _, none => .stuck
  | .sum, [x] => match x, itemsOf S x with
    | .tup ds, _ => match ints? ds with | some bs => .ok (.int bs.sum) S | none => .stuck
    | _, some ds => match ints? ds with | some bs => .ok (.int bs.sum) S | none => .stuck
    | _, none => .stuck
  | .max, [.int i, .int j] => .ok (.int (if j > i then j else i)) S
  | .min, [.int i, .int j] => .ok (.int (if j < i then j else i)) S
  | .min, [.int i, .int j, .int k] => .ok (.int (min3 i j k)) S
  | .gcd, [.int i, .int j] => .ok (.int ((Nat.gcd i.natAbs j.natAbs : Nat) : Int)) S
  | .max, [x] => match x, itemsOf S x with
    | .tup _, _ => .stuck
    | _, some ds => match ints? ds with | some (i :: ns) => .ok (.int (maxL i ns)) S | _ => .stuck
    | _, none => .stuck
  | .min, [x] => match x, itemsOf S x with
    | .tup _, _ => .stuck
    | _, some ds => match ints? ds with | some (i :: ns) => .ok (.int (minL i ns)) S | _ => .stuck
    | _, none => .stuck
  | .sorted, [x] => match x, itemsOf S x with
    | .tup _, _ => .stuck
    | _, some ds => match strs? ds with | some ss => if ss.length < 64 then newL ((sortStr ss).map .str) S else .stuck | none => .stuck
    | _, none => match dicOf S x with
      | some kvs => match keysS? (kvs.map (·.1)) with | some ss => if ss.length < 64 then newL ((sortStr ss).map .str) S else .stuck | none => .stuck
      | none => .stuck
  | _, _ => .stuck
def isTy (x : D) (t : Ty) (S : Store) : Option Bool :=
  match x with
  | .non => some false
  | .bl _ => some (match t with | .bool => true | .int => true | _ => false)
  | .int _ => some (match t with | .int => true | _ => false)
  | .str _ => some (match t with | .str => true | _ => false)
  | .tup _ => some (match t with | .tuple => true | _ => false)
  | .rol _ => some (match t with | .list => true | _ => false)
  | .ref n => match S[n]? with
    | some (.lst _) => some (match t with | .list => true | _ => false)
    | some (.dic _) => some false
    | _ => none
inductive Mth where
  | append | pop | extend | join | split | partition | startswith | update
  deriving DecidableEq
/-- what has the method -/
def rcvOk (m : Mth) (o : D) (S : Store) : Bool :=
  match m with
  | .append | .pop | .extend => match o with
    | .ref n => match S[n]? with
      | some (.lst _) => true
      | _ => false
    | _ => false
  | .update => match o with
    | .ref n => match S[n]? with
      | some (.dic _) => true
      | _ => false
    | _ => false
  | _ => match o with
    | .str _ => true
    | _ => false
def opJoin (a : Str) (x : D) (S : Store) : R D :=
  match itemsOf S x with
  | some ds => match strs? ds with
    | some ys => if (ys.map (·.length)).sum + ys.length * a.length ≤ 16777216 then .ok (.str (Txt.join a ys)) S else .stuck
    | none => .stuck
  | none => .stuck
def opMth (m : Mth) (o : D) (xs : List D) (S : Store) : R D :=
  match o with
  | .str a => match m, xs with
    | .join, [x] => opJoin a x S
    | .split, [.str b] => if (b.length == 0) = false ∧ a.length + 2 ≤ sizeLine then newL ((Txt.split a b).map .str) S else .stuck
    | .partition, [.str b] => if (b.length == 0) = false ∧ a.length ≤ sizeLine then .ok (.tup [.str (Txt.partition a b).1, .str (Txt.partition a b).2.1, .str (Txt.partition a b).2.2]) S else .stuck
    | .startswith, [.str b] => .ok (.bl (Txt.startswith a b)) S
    | _, _ => .stuck
  | .ref n => match S[n]? with
    | some (.lst ds) => match m, xs with
      | .append, [x] => if ds.length < sizeLine then .ok .non (S.set n (.lst (ds ++ [x]))) else .stuck
      | .pop, [] => match ds[ds.length - 1]? with
        | some y => .ok y (S.set n (.lst ds.dropLast))
        | none => .stuck
      | .extend, [.ref k] => match S[k]? with
        | some (.lst es) => if ds.length + es.length ≤ sizeLine then .ok .non (S.set n (.lst (ds ++ es))) else .stuck
        | _ => .stuck
      | _, _ => .stuck
    | some (.dic kvs) => match m, xs with
      | .update, [.ref k] => match S[k]? with
        | some (.dic more) => if n ≠ k ∧ kvs.length + more.length ≤ sizeLine then .ok .non (S.set n (.dic (mergeD kvs more))) else .stuck
        | _ => .stuck
      | _, _ => .stuck
    | _ => .stuck
  | _ => .stuck
def opSet (o i v : D) (S : Store) : R Unit :=
  match dicOf S o with
  | some kvs => match o, i.key with
    | .ref n, some k => if kvs.length < sizeLine then .ok () (S.set n (.dic (putD kvs k v))) else .stuck
    | _, _ => .stuck
  | none => match o, i with
  | .ref n, .int k => match S[n]? with
    | some (.lst ds) => match L2.ixN ds.length k with
      | some j => .ok () (S.set n (.lst (ds.set j v)))
      | none => .stuck
    | _ => .stuck
  | _, _ => .stuck

/-! ### what is walked -/
inductive Src where
  | st (items : List D) | ls (n : Nat) | en (n : Nat)
def Src.nx : Src → Nat → Store → R (Option D)
  | .st items, i, S => .ok items[i]? S
  | .ls n, i, S => match S[n]? with
    | some (.lst ds) => .ok ds[i]? S
    | _ => .stuck
  | .en n, i, S => match S[n]? with
    | some (.lst ds) => .ok (ds[i]?.map fun d => .tup [.int i, d]) S
    | _ => .stuck

/-! ### the text -/
mutual
inductive Tg where
  | nm (i : Nat) | tp (ts : Tgs)
inductive Tgs where
  | nil | cons (t : Tg) (ts : Tgs)
end
abbrev Env := List (Option D)
mutual
def asgT (S : Store) : Tg → D → Env → Option Env
  | .nm i, d, env => some (env.set i (some d))
  | .tp ts, d, env => match itemsOf S d with
    | some ds => asgTs S ts ds env
    | none => none
def asgTs (S : Store) : Tgs → List D → Env → Option Env
  | .nil, [], env => some env
  | .cons t ts, d :: ds, env => match asgT S t d env with
    | some env' => asgTs S ts ds env'
    | none => none
  | _, _, _ => none
end
def wipeE (env : Env) : List Nat → Env
  | [] => env
  | v :: vs => (wipeE env vs).set v none

mutual
inductive E where
  | slot (i : Nat) | cst (d : D)
  | bin (o : Operator) (a b : E) | un (o : UnaryOp) (a : E)
  | cmp (o : CmpOp) (a b : E) | chn (o p : CmpOp) (a b c : E)
  | and (a b : E) | or (a b : E) | not (a : E)
  | ife (c a b : E)
  | call (f : Nat) (as : Es)
  | blt (f : Blt) (as : Es)
  | isi (a : E) (t : Ty)
  | mth (m : Mth) (o : E) (as : Es)
  | ix (a i : E) | slc (a : E) (lo hi : Oe)
  | tup (as : Es) | lst (as : Es) | dnew
  | lc (e : E) (t : Tg) (s : I) (c : Oe) (own : List Nat)
  | xf (i : Nat) | xi (i : Nat) (cs : List Nat)
inductive Es where
  | nil | cons (e : E) (es : Es) | star (e : E) (es : Es)
inductive Oe where
  | no | so (e : E)
inductive I where
  | any (e : E) | rng1 (a : E) | rng2 (a b : E) | rng3 (a b : E) (c : Int) | enu (e : E) | zip (a b : E)
end
mutual
inductive T where
  | asg (t : Tg) (e : E)
  | seti (a i e : E)
  | aug (i : Nat) (o : Operator) (e : E)
  | exp (e : E)
  | ret (e : E) | retN
  | iff (c : E) (a b : Ts)
  | whl (c : E) (b : Ts)
  | for_ (t : Tg) (s : I) (b : Ts)
  | pas | brk | cnt
  | rai (x : Nat) (as : Es)
  | nev
  | try_ (b : Ts) (h : Hs)
inductive Ts where
  | nil | cons (s : T) (r : Ts)
/-- except clauses: the classes that are caught, the name's slot, the suite -/
inductive Hs where
  | nil | cons (cs : List Nat) (i : Option Nat) (s : Ts) (r : Hs)
end

/-- the numbers under which the caught exception's field, its class, are asked for within a suite -/
def xfId : Nat := 1000000
def xiId : Nat := 1000001
abbrev Fn := Nat → List D → Store → R D
/-- a bound for the turns of a loop -/
def wmax : Nat := 4611686018427387904
def lcGo (nx : Nat → Store → R (Option D)) (tgt : D → Store → Option Env) (tst : Env → Store → R Bool) (elt : Env → Store → R D) : Nat → Nat → List D → Store → R (List D)
  | 0, _, _, _ => .stuck
  | n + 1, i, acc, S => (nx i S).bind fun o S1 => match o with
    | none => .ok acc S1
    | some d => match tgt d S1 with
      | none => .stuck
      | some env => (tst env S1).bind fun b S2 => if b then (elt env S2).bind fun x S3 => if acc.length < sizeLine then lcGo nx tgt tst elt n (i + 1) (acc ++ [x]) S3 else .stuck
        else lcGo nx tgt tst elt n (i + 1) acc S2
def rangeD (lo : Int) (c : Int) (n : Nat) : List D := (List.range n).map fun (i : Nat) => .int (lo + i * c)
def rngOk (i : Int) : Bool := decide (-4611686018427387904 ≤ i) && decide (i < 4611686018427387904)
def strItems (s : Str) : List D := s.cps.toList.map fun c => .str ⟨#[c]⟩
def enumD (ds : List D) : List D := ds.zipIdx.map fun p => .tup [.int p.2, p.1]
def zipD (xs ys : List D) : List D := (xs.zip ys).map fun p => .tup [p.1, p.2]

mutual
def evE (F : Fn) (env : Env) : E → Store → R D
  | .slot i, S => match env[i]? with
    | some (some d) => .ok d S
    | _ => .stuck
  | .cst d, S => .ok d S
  | .bin o a b, S => (evE F env a S).bind fun x S => (evE F env b S).bind fun y S => opBin o x y S
  | .un o a, S => (evE F env a S).bind fun x S => opUn o x S
  | .cmp o a b, S => (evE F env a S).bind fun x S => (evE F env b S).bind fun y S => (opCmp o x y S).map .bl
  | .chn o p a b c, S => (evE F env a S).bind fun x S => (evE F env b S).bind fun y S => (opCmp o x y S).bind fun k S =>
      if k then (evE F env c S).bind fun z S => (opCmp p y z S).map .bl else .ok (.bl false) S
  | .and a b, S => (evE F env a S).bind fun x S => match x with
    | .bl true => evE F env b S
    | .bl false => .ok (.bl false) S
    | _ => .stuck
  | .or a b, S => (evE F env a S).bind fun x S => match x with
    | .bl true => .ok (.bl true) S
    | .bl false => evE F env b S
    | _ => .stuck
  | .not a, S => (evE F env a S).bind fun x S => match x with
    | .bl k => .ok (.bl (!k)) S
    | _ => .stuck
  | .ife c a b, S => (evT F env c S).bind fun k S => if k then evE F env a S else evE F env b S
  | .call f as, S => (evEs F env as S).bind fun xs S => F f xs S
  | .blt f as, S => (evEs F env as S).bind fun xs S => opBlt f xs S
  | .isi a t, S => (evE F env a S).bind fun x S => match isTy x t S with
    | some k => .ok (.bl k) S
    | none => .stuck
  | .mth m o as, S => (evE F env o S).bind fun x S => if rcvOk m x S then (evEs F env as S).bind fun xs S => opMth m x xs S else .stuck
  | .ix a i, S => (evE F env a S).bind fun x S => (evE F env i S).bind fun y S => opIx x y S
  | .slc a lo hi, S => (evE F env a S).bind fun x S => (evO F env lo S).bind fun l S => (evO F env hi S).bind fun h S => opSl x l h S
  | .tup as, S => (evEs F env as S).bind fun xs S => if xs.length ≤ sizeLine then .ok (.tup xs) S else .stuck
  | .lst as, S => (evEs F env as S).bind fun xs S => if xs.length ≤ sizeLine then newL xs S else .stuck
  | .dnew, S => newD S
  | .lc e t s c own, S => (evI F env s S).bind fun src S =>
      ((lcGo src.nx (fun d S => asgT S t d (wipeE env own)) (fun env S => evOT F env c S) (fun env S => evE F env e S) wmax 0 [] S).noexc).bind fun ds S => newL ds S
  | .xf i, S => match env[i]? with
    | some none => F xfId [] S
    | _ => .stuck
  | .xi i cs, S => match env[i]? with
    | some none => F xiId [.tup (cs.map fun (c : Nat) => .int c)] S
    | _ => .stuck
def evEs (F : Fn) (env : Env) : Es → Store → R (List D)
  | .nil, S => .ok [] S
  | .cons e es, S => (evE F env e S).bind fun x S => (evEs F env es S).bind fun xs S => .ok (x :: xs) S
  | .star e es, S => (evE F env e S).bind fun x S => match itemsOf S x with
    | some ds => (evEs F env es S).bind fun xs S => .ok (ds ++ xs) S
    | none => .stuck
/-- a part of a slice -/
def evO (F : Fn) (env : Env) : Oe → Store → R (Option Int)
  | .no, S => .ok none S
  | .so e, S => (evE F env e S).bind fun x S => match x with
    | .int i => .ok (some i) S
    | _ => .stuck
/-- a comprehension's test -/
def evOT (F : Fn) (env : Env) : Oe → Store → R Bool
  | .no, S => .ok true S
  | .so e, S => evT F env e S
/-- a test -/
def evT (F : Fn) (env : Env) : E → Store → R Bool
  | .and a b, S => (evT F env a S).bind fun k S => if k then evT F env b S else .ok false S
  | .or a b, S => (evT F env a S).bind fun k S => if k then .ok true S else evT F env b S
  | .not a, S => (evT F env a S).map not
  | .cmp o a b, S => (evE F env a S).bind fun x S => (evE F env b S).bind fun y S => opCmp o x y S
  | .chn o p a b c, S => (evE F env a S).bind fun x S => (evE F env b S).bind fun y S => (opCmp o x y S).bind fun k S =>
      if k then (evE F env c S).bind fun z S => opCmp p y z S else .ok false S
  | .slot i, S => (match env[i]? with
    | some (some d) => .ok d S
    | _ => .stuck : R D).bind fun x S => opTru x S
  | .call f as, S => ((evEs F env as S).bind fun xs S => F f xs S).bind fun x S => opTru x S
  | .blt f as, S => ((evEs F env as S).bind fun xs S => opBlt f xs S).bind fun x S => opTru x S
  | .isi a t, S => (evE F env a S).bind fun x S => match isTy x t S with
    | some k => .ok k S
    | none => .stuck
  | .ix a i, S => ((evE F env a S).bind fun x S => (evE F env i S).bind fun y S => opIx x y S).bind fun x S => opTru x S
  | .mth m o as, S => ((evE F env o S).bind fun x S => if rcvOk m x S then (evEs F env as S).bind fun xs S => opMth m x xs S else .stuck).bind fun x S => opTru x S
  | .xi i cs, S => (match env[i]? with
    | some none => F xiId [.tup (cs.map fun (c : Nat) => .int c)] S
    | _ => .stuck : R D).bind fun x S => opTru x S
  | _, _ => .stuck
def evI (F : Fn) (env : Env) : I → Store → R Src
  | .any e, S => (evE F env e S).bind fun x S => match x with
    | .tup ds => .ok (.st ds) S
    | .rol ds => .ok (.st ds) S
    | .str s => .ok (.st (strItems s)) S
    | .ref n => match S[n]? with
      | some (.lst _) => .ok (.ls n) S
      | _ => .stuck
    | _ => .stuck
  | .rng1 a, S => (evE F env a S).bind fun x S => match x with
    | .int j => if rngOk j then .ok (.st (rangeD 0 1 j.toNat)) S else .stuck
    | _ => .stuck
  | .rng2 a b, S => (evE F env a S).bind fun x S => (evE F env b S).bind fun y S => match x, y with
    | .int i, .int j => if rngOk i && rngOk j then .ok (.st (rangeD i 1 (j - i).toNat)) S else .stuck
    | _, _ => .stuck
  | .rng3 a b c, S => (evE F env a S).bind fun x S => (evE F env b S).bind fun y S => match x, y with
    | .int i, .int j => if rngOk i && rngOk j && decide (c = -1) then .ok (.st (rangeD i (-1) (i - j).toNat)) S else .stuck
    | _, _ => .stuck
  | .enu e, S => (evE F env e S).bind fun x S => match x with
    | .tup ds => .ok (.st (enumD ds)) S
    | .str s => .ok (.st (enumD (strItems s))) S
    | .ref n => match S[n]? with
      | some (.lst _) => .ok (.en n) S
      | _ => .stuck
    | _ => .stuck
  | .zip a b, S => (evE F env a S).bind fun x S => (evE F env b S).bind fun y S => match x, y with
    | .tup xs, .tup ys => .ok (.st (zipD xs ys)) S
    | _, _ => .stuck
end

/-- how a statement ends -/
inductive Out where
  | nx (env : Env) (S : Store) | rt (d : D) (S : Store) | bk (env : Env) (S : Store) | ct (env : Env) (S : Store) | ex (x : Exn) (env : Env) (S : Store) | stuck
def Out.thn (o : Out) (f : Env → Store → Out) : Out :=
  match o with
  | .nx env S => f env S
  | o => o
@[simp] theorem Out.thn_nx (env : Env) (S : Store) (f : Env → Store → Out) : (Out.nx env S).thn f = f env S := rfl
@[simp] theorem Out.thn_rt (d : D) (S : Store) (f : Env → Store → Out) : (Out.rt d S).thn f = .rt d S := rfl
@[simp] theorem Out.thn_bk (env : Env) (S : Store) (f : Env → Store → Out) : (Out.bk env S).thn f = .bk env S := rfl
@[simp] theorem Out.thn_ct (env : Env) (S : Store) (f : Env → Store → Out) : (Out.ct env S).thn f = .ct env S := rfl
@[simp] theorem Out.thn_ex (x : Exn) (env : Env) (S : Store) (f : Env → Store → Out) : (Out.ex x env S).thn f = .ex x env S := rfl
/-- a value, then a statement's end -/
def R.out {α : Type} (r : R α) (env : Env) (f : α → Store → Out) : Out :=
  match r with
  | .ok a S => f a S
  | .exc x S => .ex x env S
  | .stuck => .stuck
@[simp] theorem R.out_ok {α : Type} (a : α) (S : Store) (env : Env) (f : α → Store → Out) : R.out (.ok a S) env f = f a S := rfl
@[simp] theorem R.out_exc {α : Type} (x : Exn) (S : Store) (env : Env) (f : α → Store → Out) : R.out (.exc x S : R α) env f = .ex x env S := rfl
def whlGo (c : Env → Store → R Bool) (b : Env → Store → Out) : Nat → Env → Store → Out
  | 0, _, _ => .stuck
  | n + 1, env, S => (c env S).out env fun k S => if k then
      match b env S with
      | .nx env' S' => whlGo c b n env' S'
      | .ct env' S' => whlGo c b n env' S'
      | .bk env' S' => .nx env' S'
      | o => o
    else .nx env S
def forGo (nx : Nat → Store → R (Option D)) (t : Tg) (b : Env → Store → Out) : Nat → Nat → Env → Store → Out
  | 0, _, _, _ => .stuck
  | n + 1, i, env, S => (nx i S).out env fun o S => match o with
    | none => .nx env S
    | some d => match asgT S t d env with
      | none => .stuck
      | some env1 => match b env1 S with
        | .nx env' S' => forGo nx t b n (i + 1) env' S'
        | .ct env' S' => forGo nx t b n (i + 1) env' S'
        | .bk env' S' => .nx env' S'
        | o => o
/-- the callees within an except suite -/
def xF (F : Fn) (x : Exn) : Fn := fun f xs S =>
  if f = xfId then (match x.fs, xs with
    | [d], [] => .ok d S
    | _, _ => .stuck)
  else if f = xiId then (match xs with
    | [.tup ds] => .ok (.bl (ds.any fun d => D.eqb d (.int x.cls))) S
    | _ => .stuck)
  else F f xs S
def wipeO (env : Env) : Option Nat → Env
  | none => env
  | some i => env.set i none
/-- behind an except suite -/
def Out.aftX (i : Option Nat) : Out → Out
  | .nx env S => .nx (wipeO env i) S
  | .bk env S => .bk (wipeO env i) S
  | .ct env S => .ct (wipeO env i) S
  | .rt d S => .rt d S
  | _ => .stuck
mutual
def exT (F : Fn) : T → Env → Store → Out
  | .asg t e, env, S => (evE F env e S).out env fun d S => match asgT S t d env with
    | some env' => .nx env' S
    | none => .stuck
  | .seti a i e, env, S => (evE F env e S).out env fun v S => (evE F env a S).out env fun o S => (evE F env i S).out env fun k S => (opSet o k v S).out env fun _ S => .nx env S
  | .aug i o e, env, S => match env[i]? with
    | some (some x) => (evE F env e S).out env fun y S => (opAug o x y S).out env fun z S => .nx (env.set i (some z)) S
    | _ => .stuck
  | .exp e, env, S => (evE F env e S).out env fun _ S => .nx env S
  | .ret e, env, S => (evE F env e S).out env fun d S => .rt d S
  | .retN, _, S => .rt .non S
  | .iff c a b, env, S => (evT F env c S).out env fun k S => if k then exTs F a env S else exTs F b env S
  | .whl c b, env, S => whlGo (fun env S => evT F env c S) (fun env S => exTs F b env S) wmax env S
  | .for_ t s b, env, S => (evI F env s S).out env fun src S => forGo src.nx t (fun env S => exTs F b env S) wmax 0 env S
  | .pas, env, S => .nx env S
  | .brk, env, S => .bk env S
  | .cnt, env, S => .ct env S
  | .rai x as, env, S => (evEs F env as S).out env fun ds S => .ex ⟨x, ds⟩ env S
  | .nev, _, _ => .stuck
  | .try_ b h, env, S => match exTs F b env S with
    | .ex x env' S' => exH F h x env' S'
    | o => o
def exTs (F : Fn) : Ts → Env → Store → Out
  | .nil, env, S => .nx env S
  | .cons s r, env, S => (exT F s env S).thn fun env S => exTs F r env S
def exH (F : Fn) : Hs → Exn → Env → Store → Out
  | .nil, x, env, S => .ex x env S
  | .cons cs i s r, x, env, S => if cs.contains x.cls then (exTs (xF F x) s (wipeO env i) S).aftX i else exH F r x env S
end

/-- a def: how many parameters, how many names, its body -/
structure Def where
  np : Nat
  ns : Nat
  body : Ts
def runDef (F : Fn) (d : Def) (xs : List D) (S : Store) : R D :=
  if xs.length = d.np then
    match exTs F d.body (xs.map some ++ List.replicate (d.ns - xs.length) none) S with
    | .nx _ S' => gc S (.ok .non S')
    | .rt v S' => gc S (.ok v S')
    | .ex x _ S' => .exc x S'
    | _ => .stuck
  else .stuck
abbrev Tab := Nat → Option Def
def callN (T : Tab) : Nat → Fn
  | 0 => fun _ _ _ => .stuck
  | n + 1 => fun f xs S => match T f with
    | some d => runDef (callN T n) d xs S
    | none => .stuck
end PD
end

section
set_option linter.all false
set_option maxRecDepth 100000
/-! PDrep: how plain data lies in the heap; what a reading of plain data promises. -/
namespace PD
open PySem L2

/-- a list that nobody changes -/
def SqF (K : PySem.W.Frag) (H : Hp) (a : Addr) (xs : List V) : Prop :=
  (∃ o, H a = some (.frz o (.lst xs))) ∨
    ∃ (o : Obj) (its : Array Value) (n : Nat), K.lookup a = some o ∧ o.cls = .type "list" ∧ o.dict = none ∧ o.data = .seq its n ∧ its.size ≤ sizeLine ∧ Vals xs its.toList
theorem SqF.sq {K : PySem.W.Frag} {H : Hp} {a : Addr} {xs : List V} (h : SqF K H a xs) : SqL K H a xs := by
  rcases h with ⟨o, h⟩ | h
  · exact .inl (.inr ⟨o, h⟩)
  · exact .inr h

mutual
inductive RepV (K : PySem.W.Frag) (μ : List Addr) (H : Hp) : D → V → Prop
  | non : RepV K μ H .non .non
  | bl (b : Bool) : RepV K μ H (.bl b) (.bl b)
  | int (i : Int) : RepV K μ H (.int i) (.int i)
  | str (s : Str) : RepV K μ H (.str s) (.str s)
  | tup {ds : List D} {a : Addr} {vs : List V} : SqT K H a vs → RepVs K μ H ds vs → RepV K μ H (.tup ds) (.ref a)
  | rol {ds : List D} {a : Addr} {vs : List V} : SqF K H a vs → RepVs K μ H ds vs → RepV K μ H (.rol ds) (.ref a)
  | ref {n : Nat} {a : Addr} : μ[n]? = some a → RepV K μ H (.ref n) (.ref a)
inductive RepVs (K : PySem.W.Frag) (μ : List Addr) (H : Hp) : List D → List V → Prop
  | nil : RepVs K μ H [] []
  | cons {d : D} {ds : List D} {v : V} {vs : List V} : RepV K μ H d v → RepVs K μ H ds vs → RepVs K μ H (d :: ds) (v :: vs)
end

/-- the heap has grown; only cells of μ may have changed -/
structure Ext (μ : List Addr) (H : Hp) (μ' : List Addr) (H' : Hp) : Prop where
  pre : ∃ t, μ' = μ ++ t ∧ ∀ b ∈ t, H b = none
  keep : ∀ b o, H b = some o → b ∉ μ → H' b = some o
  live : ∀ b, H b ≠ none → H' b ≠ none
  tups : ∀ b xs, H b = some (.tup xs) → H' b = some (.tup xs)
  frzs : ∀ b o u, H b = some (.frz o u) → H' b = some (.frz o u)

theorem Ext.refl (μ : List Addr) (H : Hp) : Ext μ H μ H :=
  ⟨⟨[], by simp, by simp⟩, fun _ _ h _ => h, fun _ h => h, fun _ _ h => h, fun _ _ _ h => h⟩
theorem Ext.trans {μ μ1 μ2 : List Addr} {H H1 H2 : Hp} (a : Ext μ H μ1 H1) (b : Ext μ1 H1 μ2 H2) : Ext μ H μ2 H2 := by
  obtain ⟨t1, e1, f1⟩ := a.pre
  obtain ⟨t2, e2, f2⟩ := b.pre
  subst e1; subst e2
  refine ⟨⟨t1 ++ t2, by simp, fun c hc => ?_⟩, fun c o h n => ?_, fun c h => b.live c (a.live c h), fun c xs h => b.tups c xs (a.tups c xs h), fun c o u h => b.frzs c o u (a.frzs c o u h)⟩
  · rcases List.mem_append.mp hc with hc | hc
    · exact f1 c hc
    · have z := f2 c hc
      cases q : H c with
      | none => rfl
      | some o => exact absurd z (a.live c (by rw [q]; simp))
  · refine b.keep c o (a.keep c o h n) fun hm => ?_
    rcases List.mem_append.mp hm with hm | hm
    · exact n hm
    · rw [f1 c hm] at h; cases h
theorem Ext.get {μ μ' : List Addr} {H H' : Hp} (e : Ext μ H μ' H') {n : Nat} {a : Addr} (h : μ[n]? = some a) : μ'[n]? = some a := by
  obtain ⟨t, rfl, _⟩ := e.pre
  exact List.getElem?_append_left (List.getElem?_eq_some_iff.mp h).1 ▸ h
theorem Ext.sqT {K : PySem.W.Frag} {μ μ' : List Addr} {H H' : Hp} (e : Ext μ H μ' H') {a : Addr} {xs : List V} (h : SqT K H a xs) : SqT K H' a xs := by
  rcases h with (h | ⟨o, h⟩) | h
  · exact .inl (.inl (e.tups _ _ h))
  · exact .inl (.inr ⟨o, e.frzs _ _ _ h⟩)
  · exact .inr h
theorem Ext.sqF {K : PySem.W.Frag} {μ μ' : List Addr} {H H' : Hp} (e : Ext μ H μ' H') {a : Addr} {xs : List V} (h : SqF K H a xs) : SqF K H' a xs := by
  rcases h with ⟨o, h⟩ | h
  · exact .inl ⟨o, e.frzs _ _ _ h⟩
  · exact .inr h

/-- what data leans on -/
structure Wk (μ : List Addr) (H : Hp) (μ' : List Addr) (H' : Hp) : Prop where
  get : ∀ (n : Nat) (a : Addr), μ[n]? = some a → μ'[n]? = some a
  tups : ∀ b xs, H b = some (.tup xs) → H' b = some (.tup xs)
  frzs : ∀ b o u, H b = some (.frz o u) → H' b = some (.frz o u)
theorem Ext.wk {μ μ' : List Addr} {H H' : Hp} (e : Ext μ H μ' H') : Wk μ H μ' H' := ⟨fun _ _ h => e.get h, e.tups, e.frzs⟩
theorem Wk.sqT {K : PySem.W.Frag} {μ μ' : List Addr} {H H' : Hp} (e : Wk μ H μ' H') {a : Addr} {xs : List V} (h : SqT K H a xs) : SqT K H' a xs := by
  rcases h with (h | ⟨o, h⟩) | h
  · exact .inl (.inl (e.tups _ _ h))
  · exact .inl (.inr ⟨o, e.frzs _ _ _ h⟩)
  · exact .inr h
theorem Wk.sqF {K : PySem.W.Frag} {μ μ' : List Addr} {H H' : Hp} (e : Wk μ H μ' H') {a : Addr} {xs : List V} (h : SqF K H a xs) : SqF K H' a xs := by
  rcases h with ⟨o, h⟩ | h
  · exact .inl ⟨o, e.frzs _ _ _ h⟩
  · exact .inr h
/-- a list that no cell is, changed -/
theorem Wk.other {μ : List Addr} {H : Hp} {a : Addr} {xs ys : List V} (h : H a = some (.lst xs)) : Wk μ H μ (upd H a (.lst ys)) :=
  ⟨fun _ _ h => h, fun b zs e => by rw [upd_ne (ne_of e h (by intro z; cases z))]; exact e, fun b o u e => by rw [upd_ne (ne_of e h (by intro z; cases z))]; exact e⟩

section
variable {K : PySem.W.Frag} {μ μ' : List Addr} {H H' : Hp}
mutual
theorem RepV.wk (e : Wk μ H μ' H') : ∀ {d : D} {v : V}, RepV K μ H d v → RepV K μ' H' d v
  | _, _, .non => .non
  | _, _, .bl b => .bl b
  | _, _, .int i => .int i
  | _, _, .str s => .str s
  | _, _, .tup h r => .tup (e.sqT h) (RepVs.wk e r)
  | _, _, .rol h r => .rol (e.sqF h) (RepVs.wk e r)
  | _, _, .ref h => .ref (e.get _ _ h)
theorem RepVs.wk (e : Wk μ H μ' H') : ∀ {ds : List D} {vs : List V}, RepVs K μ H ds vs → RepVs K μ' H' ds vs
  | _, _, .nil => .nil
  | _, _, .cons h r => .cons (RepV.wk e h) (RepVs.wk e r)
end
mutual
theorem RepV.mono (e : Ext μ H μ' H') : ∀ {d : D} {v : V}, RepV K μ H d v → RepV K μ' H' d v
  | _, _, .non => .non
  | _, _, .bl b => .bl b
  | _, _, .int i => .int i
  | _, _, .str s => .str s
  | _, _, .tup h r => .tup (e.sqT h) (RepVs.mono e r)
  | _, _, .rol h r => .rol (e.sqF h) (RepVs.mono e r)
  | _, _, .ref h => .ref (e.get h)
theorem RepVs.mono (e : Ext μ H μ' H') : ∀ {ds : List D} {vs : List V}, RepVs K μ H ds vs → RepVs K μ' H' ds vs
  | _, _, .nil => .nil
  | _, _, .cons h r => .cons (RepV.mono e h) (RepVs.mono e r)
end
theorem RepVs.length : ∀ {ds : List D} {vs : List V}, RepVs K μ H ds vs → ds.length = vs.length
  | _, _, .nil => rfl
  | _, _, .cons _ r => by simp [RepVs.length r]
theorem RepVs.append : ∀ {ds es : List D} {vs us : List V}, RepVs K μ H ds vs → RepVs K μ H es us → RepVs K μ H (ds ++ es) (vs ++ us)
  | _, _, _, _, .nil, s => s
  | _, _, _, _, .cons h r, s => .cons h (RepVs.append r s)
theorem RepVs.take : ∀ (n : Nat) {ds : List D} {vs : List V}, RepVs K μ H ds vs → RepVs K μ H (ds.take n) (vs.take n)
  | 0, _, _, _ => .nil
  | _ + 1, _, _, .nil => .nil
  | n + 1, _, _, .cons h r => .cons h (RepVs.take n r)
theorem RepVs.drop : ∀ (n : Nat) {ds : List D} {vs : List V}, RepVs K μ H ds vs → RepVs K μ H (ds.drop n) (vs.drop n)
  | 0, _, _, r => r
  | _ + 1, _, _, .nil => .nil
  | n + 1, _, _, .cons _ r => RepVs.drop n r
theorem RepVs.set {d : D} {v : V} (h : RepV K μ H d v) : ∀ (n : Nat) {ds : List D} {vs : List V}, RepVs K μ H ds vs → RepVs K μ H (ds.set n d) (vs.set n v)
  | _, _, _, .nil => .nil
  | 0, _, _, .cons _ r => .cons h r
  | n + 1, _, _, .cons q r => .cons q (RepVs.set h n r)
theorem RepVs.get : ∀ {n : Nat} {ds : List D} {vs : List V} {d : D}, RepVs K μ H ds vs → ds[n]? = some d → ∃ v, vs[n]? = some v ∧ RepV K μ H d v
  | _, _, _, _, .nil, e => by simp at e
  | 0, _, _, _, .cons h _, e => by simp at e; subst e; exact ⟨_, rfl, h⟩
  | n + 1, _, _, _, .cons _ r, e => by
    obtain ⟨v, h1, h2⟩ := RepVs.get (n := n) r (by simpa using e)
    exact ⟨v, by simpa using h1, h2⟩
theorem RepVs.getV : ∀ {n : Nat} {ds : List D} {vs : List V} {v : V}, RepVs K μ H ds vs → vs[n]? = some v → ∃ d, ds[n]? = some d ∧ RepV K μ H d v
  | _, _, _, _, .nil, e => by simp at e
  | 0, _, _, _, .cons h _, e => by simp at e; subst e; exact ⟨_, rfl, h⟩
  | n + 1, _, _, _, .cons _ r, e => by
    obtain ⟨v, h1, h2⟩ := RepVs.getV (n := n) r (by simpa using e)
    exact ⟨v, by simpa using h1, h2⟩
theorem RepVs.dropLast {ds : List D} {vs : List V} (r : RepVs K μ H ds vs) : RepVs K μ H ds.dropLast vs.dropLast := by
  rw [List.dropLast_eq_take, List.dropLast_eq_take, r.length]
  exact r.take _
theorem RepVs.rep {ds : List D} {vs : List V} (r : RepVs K μ H ds vs) : ∀ k : Nat, RepVs K μ H (List.replicate k ds).flatten (List.replicate k vs).flatten
  | 0 => .nil
  | k + 1 => by
    rw [List.replicate_succ, List.replicate_succ, List.flatten_cons, List.flatten_cons]
    exact r.append (RepVs.rep r k)
theorem RepVs.cut {ds : List D} {vs : List V} (r : RepVs K μ H ds vs) (lo hi : Option Int) : RepVs K μ H (cutD ds lo hi) (cutV vs lo hi) := by
  unfold cutD cutV
  rw [r.length]
  exact (r.drop _).take _
theorem RepVs.ints : ∀ {ds : List D} {vs : List V} {ns : List Int}, RepVs K μ H ds vs → ints? ds = some ns → vs = ns.map V.int
  | _, _, _, .nil, e => by simp [ints?] at e; subst e; rfl
  | d :: ds, _, ns, .cons h r, e => by
    cases h with
    | int i =>
      simp only [ints?, Option.map_eq_some_iff] at e
      obtain ⟨ms, e1, rfl⟩ := e
      rw [RepVs.ints r e1]; rfl
    | _ => simp [ints?] at e
theorem RepVs.bls : ∀ {ds : List D} {vs : List V} {ns : List Bool}, RepVs K μ H ds vs → bls? ds = some ns → vs = ns.map V.bl
  | _, _, _, .nil, e => by simp [bls?] at e; subst e; rfl
  | d :: ds, _, ns, .cons h r, e => by
    cases h with
    | bl i =>
      simp only [bls?, Option.map_eq_some_iff] at e
      obtain ⟨ms, e1, rfl⟩ := e
      rw [RepVs.bls r e1]; rfl
    | _ => simp [bls?] at e
theorem RepVs.strs : ∀ {ds : List D} {vs : List V} {ns : List Str}, RepVs K μ H ds vs → strs? ds = some ns → vs = ns.map V.str
  | _, _, _, .nil, e => by simp [strs?] at e; subst e; rfl
  | d :: ds, _, ns, .cons h r, e => by
    cases h with
    | str i =>
      simp only [strs?, Option.map_eq_some_iff] at e
      obtain ⟨ms, e1, rfl⟩ := e
      rw [RepVs.strs r e1]; rfl
    | _ => simp [strs?] at e
theorem RepVs.ofStrs : ∀ (ns : List Str), RepVs K μ H (ns.map D.str) (ns.map V.str)
  | [] => .nil
  | i :: ns => .cons (.str i) (RepVs.ofStrs ns)
theorem RepVs.ofInts : ∀ (ns : List Int), RepVs K μ H (ns.map D.int) (ns.map V.int)
  | [] => .nil
  | i :: ns => .cons (.int i) (RepVs.ofInts ns)
end

/-- a cell at an address -/
def RepKV (K : PySem.W.Frag) (μ : List Addr) (H : Hp) (kvs : List (Key × D)) (vs : List (Key × V)) : Prop := kvs.map (·.1) = vs.map (·.1) ∧ RepVs K μ H (kvs.map (·.2)) (vs.map (·.2))
def RepC (K : PySem.W.Frag) (μ : List Addr) (H : Hp) (c : Cell) (a : Addr) : Prop :=
  match c with
  | .lst ds => ∃ vs, H a = some (.lst vs) ∧ RepVs K μ H ds vs
  | .dic kvs => ∃ vs, H a = some (.dK vs) ∧ RepKV K μ H kvs vs
  | .oth => False
structure RepS (K : PySem.W.Frag) (μ : List Addr) (H : Hp) (S : Store) : Prop where
  len : μ.length = S.length
  nd : μ.Nodup
  cell : ∀ (n : Nat) (c : Cell), S[n]? = some c → ∃ a, μ[n]? = some a ∧ RepC K μ H c a
/-- the ground of a reading: the written part, the classes, the callees, the caught exception's own dict, its field's name and value -/
structure Gd where
  K : PySem.W.Frag
  xt : Nat → Option (Addr × Option Str)
  F : Fn
  cx : Option (Nat × Addr × Option (Addr × Str × D)) := none
/-- the caught exception is held by its name, its dict stands as it is told -/
def CurOk (Γ : Gd) (μ : List Addr) (H : Hp) (σ : St) (env : Env) : Prop :=
  match Γ.cx with
  | none => True
  | some (i, a, o) => (env[i]? = some none → σ[i]? = some (some (.ref a))) ∧ match o with
    | none => True
    | some (b, f, d) => ∃ v, H b = some (.xd [(f, v)]) ∧ b ∉ μ ∧ RepV Γ.K μ H d v
theorem CurOk.mono {Γ : Gd} {μ μ' : List Addr} {H H' : Hp} {σ : St} {env : Env} (e : Ext μ H μ' H') (h : CurOk Γ μ H σ env) : CurOk Γ μ' H' σ env := by
  unfold CurOk at *
  split
  · trivial
  next i a o q =>
    rw [q] at h
    refine ⟨h.1, ?_⟩
    have h2 := h.2
    split
    · trivial
    next b f d =>
      obtain ⟨v, h1, h2, h3⟩ := h2
      refine ⟨v, e.keep _ _ h1 h2, fun z => ?_, h3.mono e⟩
      obtain ⟨t, rfl, ft⟩ := e.pre
      rcases List.mem_append.mp z with z | z
      · exact h2 z
      · rw [ft _ z] at h1; cases h1
theorem CurOk.set {Γ : Gd} {μ : List Addr} {H : Hp} {σ : St} {env : Env} {j : Nat} {v : Option V} {d : D} (h : CurOk Γ μ H σ env) : CurOk Γ μ H (σ.set j v) (env.set j (some d)) := by
  unfold CurOk at *
  split
  · trivial
  next i a o q =>
    rw [q] at h
    refine ⟨fun e => ?_, h.2⟩
    by_cases z : j = i
    · subst z
      by_cases hl : j < env.length
      · rw [List.getElem?_set_self hl] at e; cases e
      · rw [List.getElem?_eq_none (by simp; omega)] at e; cases e
    · rw [List.getElem?_set_ne z] at e ⊢
      exact h.1 e
theorem CurOk.no {Γ : Gd} {μ : List Addr} {H : Hp} {σ : St} {env : Env} (h : Γ.cx = none) : CurOk Γ μ H σ env := by unfold CurOk; rw [h]; trivial
structure RepE (Γ : Gd) (μ : List Addr) (H : Hp) (σ : St) (env : Env) : Prop where
  len : env.length = σ.length
  slot : ∀ (i : Nat) (d : D), env[i]? = some (some d) → ∃ v, σ[i]? = some (some v) ∧ RepV Γ.K μ H d v
  cur : CurOk Γ μ H σ env

section
variable {Γ : Gd} {K : PySem.W.Frag} {μ μ' : List Addr} {H H' : Hp} {S : Store} {σ : St} {env : Env} {p a : Addr} {xs vs : List V} {ds : List D}
/-- what a cell is -/
def CellO : HO → Prop
  | .lst _ => True
  | .dK _ => True
  | _ => False
theorem CellO.ntup {o : HO} (h : CellO o) (xs : List V) : o ≠ .tup xs := fun e => by subst e; exact h
theorem CellO.nfrz {o : HO} (h : CellO o) (b : Obj) (u : HO) : o ≠ .frz b u := fun e => by subst e; exact h
theorem RepC.there {c : Cell} (h : RepC K μ H c a) : ∃ o, H a = some o ∧ CellO o := by
  cases c with
  | lst ds => obtain ⟨vs, h, _⟩ := h; exact ⟨_, h, trivial⟩
  | dic kvs => obtain ⟨vs, h, _⟩ := h; exact ⟨_, h, trivial⟩
  | oth => exact h.elim
theorem RepS.there (r : RepS K μ H S) (h : a ∈ μ) : ∃ o, H a = some o ∧ CellO o := by
  obtain ⟨n, hn, e⟩ := List.getElem_of_mem h
  have hs : n < S.length := by rw [← r.len]; exact hn
  obtain ⟨b, e1, e2⟩ := r.cell n S[n] (by simp [hs])
  have : b = a := by
    rw [List.getElem?_eq_getElem hn] at e1
    rw [← e]; exact (Option.some.inj e1).symm
  subst this
  exact e2.there
theorem RepS.fresh (r : RepS K μ H S) (h : H p = none) : p ∉ μ := fun z => by
  obtain ⟨xs, q, _⟩ := r.there z
  rw [h] at q; cases q
theorem RepC.mono {c : Cell} (e : Ext μ H μ' H') (h : RepC K μ H c a) (k : H' a = H a) : RepC K μ' H' c a := by
  cases c with
  | lst ds => obtain ⟨vs, h, r⟩ := h; exact ⟨vs, by rw [k]; exact h, r.mono e⟩
  | dic kvs => obtain ⟨vs, h, r1, r2⟩ := h; exact ⟨vs, by rw [k]; exact h, r1, r2.mono e⟩
  | oth => exact h
/-- a new object that no cell is -/
theorem Ext.new {o : HO} (h : H p = none) : Ext μ H μ (upd H p o) := by
  have ne : ∀ b, H b ≠ none → b ≠ p := fun b hb z => hb (by rw [z]; exact h)
  refine ⟨⟨[], by simp, by simp⟩, fun b u e _ => ?_, fun b e => ?_, fun b xs e => ?_, fun b ob u e => ?_⟩
  · rw [upd_ne (ne b (by rw [e]; simp))]; exact e
  · rw [upd_ne (ne b e)]; exact e
  · rw [upd_ne (ne b (by rw [e]; simp))]; exact e
  · rw [upd_ne (ne b (by rw [e]; simp))]; exact e
theorem RepS.new {o : HO} (r : RepS K μ H S) (h : H p = none) : RepS K μ (upd H p o) S := by
  refine ⟨r.len, r.nd, fun n c e => ?_⟩
  obtain ⟨a, e1, e2⟩ := r.cell n c e
  refine ⟨a, e1, e2.mono (Ext.new h) ?_⟩
  obtain ⟨xs, q, _⟩ := e2.there
  exact upd_ne (ne_of_none q h)
/-- a new cell -/
theorem Ext.newCell {o : HO} (h : H p = none) : Ext μ H (μ ++ [p]) (upd H p o) := by
  obtain ⟨_, k, l, t, f⟩ := Ext.new (μ := μ) (o := o) h
  exact ⟨⟨[p], rfl, fun b hb => by simp at hb; subst hb; exact h⟩, k, l, t, f⟩
theorem RepS.newC {o : HO} {c0 : Cell} (r : RepS K μ H S) (h : H p = none) (rc : RepC K (μ ++ [p]) (upd H p o) c0 p) : RepS K (μ ++ [p]) (upd H p o) (S ++ [c0]) := by
  have e := Ext.newCell (μ := μ) (o := o) h
  refine ⟨by simp [r.len], ?_, fun n c q => ?_⟩
  · rw [List.nodup_append]
    refine ⟨r.nd, by simp, fun a ha b hb z => ?_⟩
    simp at hb; subst hb; subst z
    exact r.fresh h ha
  · by_cases hn : n < S.length
    · rw [List.getElem?_append_left hn] at q
      obtain ⟨a, e1, e2⟩ := r.cell n c q
      refine ⟨a, e.get e1, e2.mono e ?_⟩
      obtain ⟨ys, z, _⟩ := e2.there
      exact upd_ne (ne_of_none z h)
    · have hn' : n = S.length := by
        have := (List.getElem?_eq_some_iff.mp q).1
        simp at this; omega
      subst hn'
      rw [List.getElem?_append_right (Nat.le_refl _)] at q
      simp at q; subst q
      exact ⟨p, by rw [← r.len]; simp, rc⟩
theorem RepS.newCell (r : RepS K μ H S) (h : H p = none) (rv : RepVs K μ H ds xs) : RepS K (μ ++ [p]) (upd H p (.lst xs)) (S ++ [.lst ds]) :=
  r.newC h ⟨xs, upd_same, rv.mono (Ext.newCell h)⟩
theorem RepS.newDic (r : RepS K μ H S) (h : H p = none) : RepS K (μ ++ [p]) (upd H p (.dK [])) (S ++ [.dic []]) :=
  r.newC h ⟨[], upd_same, rfl, .nil⟩
theorem RepS.newRef (r : RepS K μ H S) : (μ ++ [p])[S.length]? = some p := by
  rw [← r.len]; simp
/-- a list that no cell is, changed -/
theorem RepS.other (r : RepS K μ H S) (h : H a = some (.lst xs)) (n : a ∉ μ) : RepS K μ (upd H a (.lst vs)) S := by
  refine ⟨r.len, r.nd, fun m c e => ?_⟩
  obtain ⟨b, e1, e2⟩ := r.cell m c e
  have hb : b ≠ a := fun z => n (by rw [← z]; exact List.mem_of_getElem? e1)
  refine ⟨b, e1, ?_⟩
  cases c with
  | lst ds => obtain ⟨ws, g1, g2⟩ := e2; exact ⟨ws, by rw [upd_ne hb]; exact g1, g2.wk (Wk.other h)⟩
  | dic kvs => obtain ⟨ws, g1, g2, g3⟩ := e2; exact ⟨ws, by rw [upd_ne hb]; exact g1, g2, g3.wk (Wk.other h)⟩
  | oth => exact e2
/-- a cell's list is changed -/
theorem RepS.lst (r : RepS K μ H S) {n : Nat} (h : S[n]? = some (.lst ds)) : ∃ a vs, μ[n]? = some a ∧ H a = some (.lst vs) ∧ RepVs K μ H ds vs := by
  obtain ⟨a, e1, vs, e2, e3⟩ := r.cell n _ h
  exact ⟨a, vs, e1, e2, e3⟩
theorem RepS.dic (r : RepS K μ H S) {n : Nat} {kvs : List (Key × D)} (h : S[n]? = some (.dic kvs)) : ∃ a vs, μ[n]? = some a ∧ H a = some (.dK vs) ∧ RepKV K μ H kvs vs := by
  obtain ⟨a, e1, vs, e2, e3⟩ := r.cell n _ h
  exact ⟨a, vs, e1, e2, e3⟩
theorem Ext.setC {o o' : HO} (h : H a = some o) (ho : CellO o) (hm : a ∈ μ) : Ext μ H μ (upd H a o') := by
  refine ⟨⟨[], by simp, by simp⟩, fun b u e n => ?_, fun b e => ?_, fun b ys e => ?_, fun b ob u e => ?_⟩
  · rw [upd_ne (fun z => n (by rw [z]; exact hm))]; exact e
  · by_cases z : b = a
    · subst z; rw [upd_same]; simp
    · rw [upd_ne z]; exact e
  · rw [upd_ne (fun z => by subst z; rw [e] at h; cases h; exact ho)]; exact e
  · rw [upd_ne (fun z => by subst z; rw [e] at h; cases h; exact ho)]; exact e
theorem Ext.set (h : H a = some (.lst xs)) (hm : a ∈ μ) : Ext μ H μ (upd H a (.lst vs)) := Ext.setC h trivial hm
theorem RepS.setC {o o' : HO} {c0 : Cell} (r : RepS K μ H S) {n : Nat} (hn : μ[n]? = some a) (h : H a = some o) (ho : CellO o) (rc : RepC K μ (upd H a o') c0 a) : RepS K μ (upd H a o') (S.set n c0) := by
  have hm : a ∈ μ := List.mem_of_getElem? hn
  have e := Ext.setC (μ := μ) (o' := o') h ho hm
  refine ⟨by simp [r.len], r.nd, fun m c q => ?_⟩
  by_cases z : n = m
  · subst z
    have hl : n < S.length := by rw [← r.len]; exact (List.getElem?_eq_some_iff.mp hn).1
    rw [List.getElem?_set_self hl] at q
    cases q
    exact ⟨a, hn, rc⟩
  · rw [List.getElem?_set_ne z] at q
    obtain ⟨b, e1, e2⟩ := r.cell m c q
    refine ⟨b, e1, e2.mono e (upd_ne fun w => z ?_)⟩
    subst w
    have h1 := List.getElem?_eq_some_iff.mp hn
    have h2 := List.getElem?_eq_some_iff.mp e1
    obtain ⟨l1, g1⟩ := h1
    obtain ⟨l2, g2⟩ := h2
    exact (List.getElem_inj r.nd).mp (g1.trans g2.symm)
theorem RepS.set (r : RepS K μ H S) {n : Nat} (hn : μ[n]? = some a) (h : H a = some (.lst xs)) (rv : RepVs K μ H ds vs) : RepS K μ (upd H a (.lst vs)) (S.set n (.lst ds)) :=
  r.setC hn h trivial ⟨vs, upd_same, rv.mono (Ext.set h (List.mem_of_getElem? hn))⟩
theorem RepS.setD (r : RepS K μ H S) {n : Nat} {kvs' : List (Key × D)} {us vs : List (Key × V)} (hn : μ[n]? = some a) (h : H a = some (.dK us)) (rv : RepKV K μ H kvs' vs) : RepS K μ (upd H a (.dK vs)) (S.set n (.dic kvs')) :=
  r.setC hn h trivial ⟨vs, upd_same, rv.1, rv.2.mono (Ext.setC h trivial (List.mem_of_getElem? hn))⟩
theorem RepKV.val {K : PySem.W.Frag} {k : Key} : ∀ {kvs : List (Key × D)} {vs : List (Key × V)}, RepKV K μ H kvs vs → (valD kvs k = none ∧ valV vs k = none) ∨ ∃ d v, valD kvs k = some d ∧ valV vs k = some v ∧ RepV K μ H d v
  | [], [], _ => .inl ⟨rfl, rfl⟩
  | (a, d) :: kvs, (b, v) :: vs, ⟨h1, h2⟩ => by
    simp only [List.map_cons, List.cons.injEq] at h1
    obtain ⟨rfl, h1⟩ := h1
    cases h2 with
    | cons r h2 =>
      by_cases e : a = k
      · exact .inr ⟨d, v, by simp [valD, List.find?_cons, e], by simp [valV, List.find?_cons, e], r⟩
      · have := RepKV.val (k := k) (⟨h1, h2⟩ : RepKV K μ H kvs vs)
        simpa [valD, valV, List.find?_cons, e] using this
  | [], _ :: _, ⟨h, _⟩ => by simp at h
  | _ :: _, [], ⟨h, _⟩ => by simp at h
theorem RepKV.any {K : PySem.W.Frag} {k : Key} {kvs : List (Key × D)} {vs : List (Key × V)} (h : RepKV K μ H kvs vs) : (kvs.any fun kv => decide (kv.1 = k)) = (vs.any fun kv => decide (kv.1 = k)) := by
  have e1 : (kvs.any fun kv => decide (kv.1 = k)) = ((kvs.map (·.1)).any fun a => decide (a = k)) := by rw [List.any_map]; rfl
  have e2 : (vs.any fun kv => decide (kv.1 = k)) = ((vs.map (·.1)).any fun a => decide (a = k)) := by rw [List.any_map]; rfl
  rw [e1, e2, h.1]
theorem RepKV.upd {K : PySem.W.Frag} {k : Key} {d : D} {v : V} (r : RepV K μ H d v) : ∀ {kvs : List (Key × D)} {vs : List (Key × V)}, RepKV K μ H kvs vs → RepKV K μ H (kvs.map fun kv => if kv.1 = k then (kv.1, d) else kv) (vs.map fun kv => if kv.1 = k then (kv.1, v) else kv)
  | [], [], _ => ⟨rfl, .nil⟩
  | (a, d') :: kvs, (b, v') :: vs, ⟨h1, h2⟩ => by
    simp only [List.map_cons, List.cons.injEq] at h1
    obtain ⟨rfl, h1⟩ := h1
    cases h2 with
    | cons q h2 =>
      have ih := RepKV.upd (k := k) r (⟨h1, h2⟩ : RepKV K μ H kvs vs)
      by_cases e : a = k
      · simp only [List.map_cons, e, if_true]
        exact ⟨by simp only [List.map_cons, ih.1], by simp only [List.map_cons]; exact .cons r ih.2⟩
      · simp only [List.map_cons, e, if_false]
        exact ⟨by simp only [List.map_cons, ih.1], by simp only [List.map_cons]; exact .cons q ih.2⟩
  | [], _ :: _, ⟨h, _⟩ => by simp at h
  | _ :: _, [], ⟨h, _⟩ => by simp at h
theorem RepKV.put {K : PySem.W.Frag} {k : Key} {d : D} {v : V} {kvs : List (Key × D)} {vs : List (Key × V)} (h : RepKV K μ H kvs vs) (r : RepV K μ H d v) : RepKV K μ H (putD kvs k d) (putK vs k v) := by
  unfold putD putK
  rw [h.any]
  split
  · exact h.upd r
  · exact ⟨by simp [h.1], by rw [List.map_append, List.map_append]; exact h.2.append (.cons r .nil)⟩
theorem RepKV.length {K : PySem.W.Frag} {kvs : List (Key × D)} {vs : List (Key × V)} (h : RepKV K μ H kvs vs) : kvs.length = vs.length := by
  have := congrArg List.length h.1
  simpa using this
theorem key_of {K : PySem.W.Frag} {d : D} {v : V} {k : Key} (r : RepV K μ H d v) (h : d.key = some k) : v = kV k := by
  cases r <;> simp [D.key] at h <;> subst h <;> rfl
theorem RepE.mono (e : Ext μ H μ' H') (r : RepE Γ μ H σ env) : RepE Γ μ' H' σ env :=
  ⟨r.len, fun i d q => let ⟨v, h1, h2⟩ := r.slot i d q; ⟨v, h1, h2.mono e⟩, r.cur.mono e⟩
theorem RepE.set {i : Nat} {d : D} {v : V} (r : RepE Γ μ H σ env) (h : RepV Γ.K μ H d v) : RepE Γ μ H (σ.set i (some v)) (env.set i (some d)) := by
  refine ⟨by simp [r.len], fun j d' q => ?_, r.cur.set⟩
  by_cases z : i = j
  · subst z
    by_cases hl : i < env.length
    · rw [List.getElem?_set_self hl] at q
      cases q
      exact ⟨v, by rw [List.getElem?_set_self (by rw [← r.len]; exact hl)], h⟩
    · rw [List.getElem?_eq_none (by simp; omega)] at q; cases q
  · rw [List.getElem?_set_ne z] at q ⊢
    exact r.slot j d' q
theorem RepE.setN {i : Nat} (hc : Γ.cx = none) (r : RepE Γ μ H σ env) : RepE Γ μ H (σ.set i none) (env.set i none) := by
  refine ⟨by simp [r.len], fun j d' q => ?_, .no hc⟩
  by_cases z : i = j
  · subst z
    by_cases hl : i < env.length
    · rw [List.getElem?_set_self hl] at q; cases q
    · rw [List.getElem?_eq_none (by simp; omega)] at q; cases q
  · rw [List.getElem?_set_ne z] at q ⊢
    exact r.slot j d' q
theorem RepE.wipe (hc : Γ.cx = none) (r : RepE Γ μ H σ env) : ∀ vs : List Nat, RepE Γ μ H (L2.wipe σ vs) (wipeE env vs)
  | [] => r
  | v :: vs => by
    unfold L2.wipe wipeE
    exact (RepE.wipe hc r vs).setN hc
end

/-- an exception in the heap -/
def RepX (Γ : Gd) (μ : List Addr) (H : Hp) (x : Exn) (cls : Value) (dd : Option Addr) : Prop :=
  ∃ C fo, Γ.xt x.cls = some (C, fo) ∧ cls = .ref C ∧
    ((x.fs = [] ∧ fo = none ∧ dd = none) ∨ ∃ d f a v, x.fs = [d] ∧ fo = some f ∧ dd = some a ∧ H a = some (.xd [(f, v)]) ∧ RepV Γ.K μ H d v)
def Aft {α : Type} (Γ : Gd) (E : XK) (μ : List Addr) (H : Hp) (P : α → Store → List Addr → Hp → Prop) (r : R α) : Prop :=
  match r with
  | .ok a S' => ∀ μ' H', Ext μ H μ' H' → RepS Γ.K μ' H' S' → P a S' μ' H'
  | .exc x S' => ∀ μ' H' cls dd, Ext μ H μ' H' → RepS Γ.K μ' H' S' → RepX Γ μ' H' x cls dd → E cls dd H'
  | .stuck => False
theorem Aft.mono {α : Type} {Γ : Gd} {E : XK} {μ μ1 : List Addr} {H H1 : Hp} {P : α → Store → List Addr → Hp → Prop} {r : R α} (h : Aft Γ E μ H P r) (e : Ext μ H μ1 H1) : Aft Γ E μ1 H1 P r := by
  cases r with
  | ok a S' => exact fun μ' H' e' r' => h μ' H' (e.trans e') r'
  | exc x S' => exact fun μ' H' cls dd e' r' => h μ' H' cls dd (e.trans e') r'
  | stuck => exact h
theorem Aft.bind {α β : Type} {Γ : Gd} {E : XK} {μ : List Addr} {H : Hp} {P : β → Store → List Addr → Hp → Prop} {P' : α → Store → List Addr → Hp → Prop} {r : R α} {f : α → Store → R β} (h : Aft Γ E μ H P (r.bind f))
    (k : ∀ a S' μ' H', Ext μ H μ' H' → RepS Γ.K μ' H' S' → Aft Γ E μ' H' P (f a S') → P' a S' μ' H') : Aft Γ E μ H P' r := by
  cases r with
  | ok a S' => exact fun μ' H' e r => k a S' μ' H' e r (Aft.mono h e)
  | exc x S' => exact h
  | stuck => exact h
theorem Aft.imp {α : Type} {Γ : Gd} {E : XK} {μ : List Addr} {H : Hp} {P P' : α → Store → List Addr → Hp → Prop} {r : R α} (h : Aft Γ E μ H P r)
    (k : ∀ a S' μ' H', Ext μ H μ' H' → RepS Γ.K μ' H' S' → P a S' μ' H' → P' a S' μ' H') : Aft Γ E μ H P' r := by
  cases r with
  | ok a S' => exact fun μ' H' e r => k a S' μ' H' e r (h μ' H' e r)
  | exc x S' => exact h
  | stuck => exact h
theorem Aft.map {α β : Type} {Γ : Gd} {E : XK} {μ : List Addr} {H : Hp} {P : β → Store → List Addr → Hp → Prop} {r : R α} {f : α → β} (h : Aft Γ E μ H P (r.map f)) : Aft Γ E μ H (fun a S' μ' H' => P (f a) S' μ' H') r :=
  Aft.bind (f := fun a S => .ok (f a) S) h fun a S' μ' H' _ rs z => z μ' H' (Ext.refl _ _) rs
/-- what is there now -/
theorem Aft.now {α : Type} {Γ : Gd} {E : XK} {μ : List Addr} {H : Hp} {P : α → Store → List Addr → Hp → Prop} {a : α} {S : Store} (h : Aft Γ E μ H P (.ok a S)) (r : RepS Γ.K μ H S) : P a S μ H := h μ H (Ext.refl _ _) r

/-! ### the readings -/
section
variable (Γ : Gd) (W : WX)
/-- exceptions at the slots as they stand -/
abbrev atS (σ : St) : XK := fun cls d H => W cls d σ H
def tE (c : E) : TE := fun σ H Q => ∃ μ env S, RepS Γ.K μ H S ∧ RepE Γ μ H σ env ∧ Aft Γ (atS W σ) μ H (fun d _ μ' H' => ∀ v, RepV Γ.K μ' H' d v → Q v H') (evE Γ.F env c S)
def tEs (c : Es) : TA := fun σ H Q => ∃ μ env S, RepS Γ.K μ H S ∧ RepE Γ μ H σ env ∧ Aft Γ (atS W σ) μ H (fun ds _ μ' H' => ∀ vs, RepVs Γ.K μ' H' ds vs → Q vs H') (evEs Γ.F env c S)
def tO (c : Oe) : TO := fun σ H Q => ∃ μ env S, RepS Γ.K μ H S ∧ RepE Γ μ H σ env ∧ Aft Γ (atS W σ) μ H (fun o _ _ H' => Q o H') (evO Γ.F env c S)
def tOT (c : Oe) : TT := fun σ H Q => ∃ μ env S, RepS Γ.K μ H S ∧ RepE Γ μ H σ env ∧ Aft Γ (atS W σ) μ H (fun o _ _ H' => Q o H') (evOT Γ.F env c S)
def tT (c : E) : TT := fun σ H Q => ∃ μ env S, RepS Γ.K μ H S ∧ RepE Γ μ H σ env ∧ Aft Γ (atS W σ) μ H (fun o _ _ H' => Q o H') (evT Γ.F env c S)
end

/-! ### from one reading to another -/
section
variable {X : Cx} {e : PySem.Expr}
theorem _root_.L2.PE.imp {t t' : TE} (h : PE X e t) (k : ∀ σ H Q, t' σ H Q → t σ H Q) : PE X e t' := ⟨fun pins s σ H Q I q => h.run pins s σ H Q I (k σ H Q q)⟩
theorem _root_.L2.PT.imp {t t' : TT} (h : PT X e t) (k : ∀ σ H Q, t' σ H Q → t σ H Q) : PT X e t' := ⟨fun pins s σ H Q I q => h.run pins s σ H Q I (k σ H Q q)⟩
theorem _root_.L2.PW.imp {t t' : TT} (h : PW X e t) (k : ∀ σ H Q, t' σ H Q → t σ H Q) : PW X e t' := ⟨fun wh pins s σ H Q I q => h.run wh pins s σ H Q I (k σ H Q q)⟩
theorem _root_.L2.PA.imp {es : List PySem.Expr} {t t' : TA} (h : PA X es t) (k : ∀ σ H Q, t' σ H Q → t σ H Q) : PA X es t' := ⟨fun pos pins s σ H Q I q => h.run pos pins s σ H Q I (k σ H Q q)⟩
theorem _root_.L2.PI.imp {tg : PySem.Expr} {t t' : TI} (h : PI X tg e t) (k : ∀ σ H R, t' σ H R → t σ H R) : PI X tg e t' := ⟨fun pins s σ H R I q => h.run pins s σ H R I (k σ H R q)⟩
theorem _root_.L2.PI.or {tg : PySem.Expr} {t t' : TI} (h : PI X tg e t) (h' : PI X tg e t') : PI X tg e (fun σ H R => t σ H R ∨ t' σ H R) := ⟨fun pins s σ H R I q => q.elim (h.run pins s σ H R I) (h'.run pins s σ H R I)⟩
theorem _root_.L2.PS.imp {st : PySem.Stmt} {t t' : TS} (h : PS X st t) (k : ∀ D σ H, t' D σ H → t D σ H) : PS X st t' := ⟨fun pins s σ H D I q => h.run pins s σ H D I (k D σ H q)⟩
end
end PD
end

section
set_option linter.all false
set_option maxRecDepth 100000
/-! PDmstr: a text so many times. -/
namespace PD
open PySem L2
/-- text * number -/
theorem op_mul_str {X : Cx} : OpR X (binaryOp .Mult) (fun x y H Q => ∃ a k, x = .str a ∧ y = .int k ∧ 2 ≤ k ∧ k ≤ 100000 ∧ 0 < a.length ∧ a.length ≤ 100 ∧ Q (.str (repS a k.toNat)) H) := by
  intro pins s σ H x y v u Q I rx ry ⟨a, k, ex, ey, h1, h2, h3, h4, q⟩
  subst ex ey
  obtain ⟨t, rfl⟩ := rx
  obtain ⟨t', rfl⟩ := ry
  have n1 : ¬ k < 1 := by omega
  have e1 : (k == 1) = false := by
    rw [beq_eq_false_iff_ne]
    omega
  have e2 : (a.length == 0) = false := by
    rw [beq_eq_false_iff_ne]
    omega
  have e3 : (k == 1 || a.length == 0) = false := by rw [e1, e2]; rfl
  have l1 : a.length * k.toNat ≤ 10000000 := by
    have : a.length * k.toNat ≤ 100 * 100000 := Nat.mul_le_mul h4 (by omega)
    omega
  refine PySem.P.mul_str ?_ (fun _ _ => ?_) (fun _ _ => ?_) ?_
  · rw [decide_eq_false (by omega : ¬ k < -(2 ^ 63 : Int)), decide_eq_false (by omega : ¬ k ≥ 2 ^ 63)]; rfl
  · have : (100 : Int) ≤ (2 ^ 63 - 1) / k := by
      rw [Int.le_ediv_iff_mul_le (by omega)]
      omega
    omega
  · unfold Builtin.Str.tooLong
    rw [decide_eq_false]
    rw [PySem.sizeLine_eq]
    omega
  · rw [if_neg n1, e3, if_neg (by decide)]
    have len : (repS a k.toNat).length = a.length * k.toNat := repS_len a k.toNat
    refine ⟨?_, ⟨.str (repS a k.toNat), H, I.tok _, ⟨_, rfl⟩, q⟩⟩
    show (repS a k.toNat).length ≤ sizeLine
    rw [len, PySem.sizeLine_eq]
    omega
end PD
end

section
set_option linter.all false
set_option maxRecDepth 100000
set_option maxHeartbeats 1000000
/-! PDops: each operation of the evaluator does what the model does. -/
namespace PD
open PySem L2

/-- what is wanted of a value's data -/
def QV (Γ : Gd) (Q : VK) : D → Store → List Addr → Hp → Prop := fun d _ μ' H' => ∀ v, RepV Γ.K μ' H' d v → Q v H'
def QB (Q : Bool → Hp → Prop) : Bool → Store → List Addr → Hp → Prop := fun b _ _ H' => Q b H'
/-- the reading of a two-place operation on data -/
def rBin (Γ : Gd) (f : D → D → Store → R D) : R2 := fun x y H Q => ∃ E μ S dx dy, RepS Γ.K μ H S ∧ RepV Γ.K μ H dx x ∧ RepV Γ.K μ H dy y ∧ Aft Γ E μ H (QV Γ Q) (f dx dy S)

section
variable {Γ : Gd} {E : XK} {μ : List Addr} {H : Hp} {S : Store} {Q : VK}
/-- a value that needs no object -/
theorem qv {d : D} {v : V} (h : Aft Γ E μ H (QV Γ Q) (.ok d S)) (rs : RepS Γ.K μ H S) (r : RepV Γ.K μ H d v) : Q v H := h.now rs v r
/-- a new tuple -/
theorem qv_tup {ds : List D} {xs : List V} (h : Aft Γ E μ H (QV Γ Q) (.ok (.tup ds) S)) (rs : RepS Γ.K μ H S) (r : RepVs Γ.K μ H ds xs) {p : Addr} (hp : H p = none) : Q (.ref p) (upd H p (.tup xs)) :=
  h μ (upd H p (.tup xs)) (Ext.new hp) (rs.new hp) _ (.tup (SqT.of upd_same) (r.mono (Ext.new hp)))
/-- a new list -/
theorem qv_lst {ds : List D} {xs : List V} (h : Aft Γ E μ H (QV Γ Q) (newL ds S)) (rs : RepS Γ.K μ H S) (r : RepVs Γ.K μ H ds xs) {p : Addr} (hp : H p = none) : Q (.ref p) (upd H p (.lst xs)) :=
  h (μ ++ [p]) (upd H p (.lst xs)) (Ext.newCell hp) (rs.newCell hp r) _ (.ref rs.newRef)
end

/-! ### tuple * int, the ways that make no new items -/
theorem tuple_mul_same (l : Addr) (items : Array Value) (n : Nat) (dd : Option Addr) (sl : Array (Option Value)) (x : Int) (u : Tok)
    (c0 : (decide (x < -(2 ^ 63)) || decide (x ≥ 2 ^ 63)) = false) (c1 : (items.isEmpty || x == 1) = true) :
    Meets (Builtin.«tuple.__mul__» ⟨[.ref l, .int x u], []⟩) (fun _ R s => s.heap.get? l = some { cls := .type "tuple", dict := dd, data := .seq items n, slots := sl } ∧ R (.ok (.ret (Value.ref l))) s) :=
  .of_wp fun prog w A R s h => by
    obtain ⟨hp, gg, dr, tk, oo⟩ := s
    obtain ⟨hl, h⟩ := h
    have f1 := AutoSeq1.idx_int
    wp_walk using wpAny_loadPart' hl
    repeat (first
      | (refine wpAny_ite_false (decide_eq_false (by rw [c0]; exact Bool.false_ne_true)) ?_; wp_walk using wpAny_loadPart' hl)
      | (refine wpAny_ite_true (decide_eq_true (by rw [c1])) ?_; wp_walk using wpAny_loadPart' hl))
    exact ⟨_, rfl, h⟩
theorem tuple_mul_none (l : Addr) (items : Array Value) (n : Nat) (dd : Option Addr) (sl : Array (Option Value)) (x : Int) (u : Tok)
    (c0 : (decide (x < -(2 ^ 63)) || decide (x ≥ 2 ^ 63)) = false) (c1 : (items.isEmpty || x == 1) = false) (c2 : (decide (x ≤ 0) || items.isEmpty) = true) :
    Meets (Builtin.«tuple.__mul__» ⟨[.ref l, .int x u], []⟩) (fun _ R s => s.heap.get? l = some { cls := .type "tuple", dict := dd, data := .seq items n, slots := sl } ∧
      R (.ok (.ret (Value.ref s.heap.objs.size))) { s with heap := s.heap.push { cls := Value.type "tuple", data := Data.seq #[] }, toks := s.toks }) :=
  .of_wp fun prog w A R s h => by
    obtain ⟨hp, gg, dr, tk, oo⟩ := s
    obtain ⟨hl, h⟩ := h
    have f1 := AutoSeq1.idx_int
    wp_walk using wpAny_loadPart' hl
    repeat (first
      | (refine wpAny_ite_false (decide_eq_false (by rw [c0]; exact Bool.false_ne_true)) ?_; wp_walk using wpAny_loadPart' hl)
      | (refine wpAny_ite_false (decide_eq_false (by rw [c1]; exact Bool.false_ne_true)) ?_; wp_walk using wpAny_loadPart' hl)
      | (refine wpAny_ite_true (decide_eq_true (by rw [c2])) ?_; wp_walk using wpAny_loadPart' hl))
    exact ⟨_, rfl, h⟩

def rRepA (K : PySem.W.Frag) : R2 := fun x y H Q => ∃ l k xs, x = .ref l ∧ y = .int k ∧ SqT K H l xs ∧ -1000 ≤ k ∧ k ≤ 1000 ∧ xs.length ≤ 1000 ∧
  (xs = [] ∨ k = 1 → Q (.ref l) H) ∧ ∀ p, H p = none → Q (.ref p) (upd H p (.tup (List.replicate k.toNat xs).flatten))
theorem op_repA {X : Cx} : OpR X (binaryOp .Mult) (rRepA X.K) := by
  intro pins s σ H x y v u Q I rx ry h
  obtain ⟨l, k, xs, rfl, rfl, hT, h1, h2, hz, q0, q1⟩ := h
  by_cases big : 2 ≤ k ∧ xs ≠ []
  · exact op_repT pins s σ H _ _ v u Q I rx ry ⟨l, k, xs, rfl, rfl, hT, big.2, big.1, h2, hz, q1⟩
  cases rx
  obtain ⟨t, rfl⟩ := ry
  obtain ⟨its, r, ⟨⟨cls, dd, data, sl⟩, ho, hc, n, hd⟩, hs⟩ := I.tuple hT
  simp only at hc hd
  subst hc; subst hd
  have c0 : (decide (k < -(2 ^ 63)) || decide (k ≥ 2 ^ 63)) = false := by
    rw [decide_eq_false (by omega), decide_eq_false (by omega)]; rfl
  have em : its.toArray.isEmpty = decide (xs = []) := by
    have hle := r.length
    cases its with
    | nil => cases r; rfl
    | cons a b => cases r; simp
  by_cases same : xs = [] ∨ k = 1
  · have c1 : (its.toArray.isEmpty || k == 1) = true := by
      rw [em]
      rcases same with e | e
      · simp [e]
      · simp [e]
    refine wpAny_binaryOp_repeat_ref (T := "tuple") (U := "int") (by decide) ⟨_, ho, rfl⟩ (fun s' => typeIs_int s' k t) noFill_tuple_mul F.fills_int_mul F.slot_int_rmul repeat_tuple F.slot_int_index.lookup
      (call_meets F.slot_int_rmul (typeIs_int s k t) F.entry_int_rmul (F.args_int_rmul_2 _ _) (int_rmul_tuple k t l its.toArray n dd sl)
        ⟨ho, rfl, ⟨_, ho, rfl⟩, call_meets F.slot_tuple_mul ⟨_, ho, rfl⟩ F.entry_tuple_mul (F.args_tuple_mul_2 _ _) (tuple_mul_same l its.toArray n dd sl k t c0 c1) ⟨ho, ?_⟩⟩)
    exact ⟨.ref l, H, I, rfl, q0 same⟩
  · have hx : xs ≠ [] := fun e => same (.inl e)
    have hk : k ≤ 0 := by
      have a1 : ¬ k = 1 := fun e => same (.inr e)
      have a2 : ¬ 2 ≤ k := fun e => big ⟨e, hx⟩
      omega
    have c1 : (its.toArray.isEmpty || k == 1) = false := by
      rw [em]; simp [hx]; omega
    have c2 : (decide (k ≤ 0) || its.toArray.isEmpty) = true := by simp [hk]
    refine wpAny_binaryOp_repeat_ref (T := "tuple") (U := "int") (by decide) ⟨_, ho, rfl⟩ (fun s' => typeIs_int s' k t) noFill_tuple_mul F.fills_int_mul F.slot_int_rmul repeat_tuple F.slot_int_index.lookup
      (call_meets F.slot_int_rmul (typeIs_int s k t) F.entry_int_rmul (F.args_int_rmul_2 _ _) (int_rmul_tuple k t l its.toArray n dd sl)
        ⟨ho, rfl, ⟨_, ho, rfl⟩, call_meets F.slot_tuple_mul ⟨_, ho, rfl⟩ F.entry_tuple_mul (F.args_tuple_mul_2 _ _) (tuple_mul_none l its.toArray n dd sl k t c0 c1 c2) ⟨ho, ?_⟩⟩)
    have q1' := q1 s.heap.objs.size (I.hok.fresh (Nat.le_refl _))
    have e0 : (List.replicate k.toNat xs).flatten = [] := by
      have : k.toNat = 0 := by omega
      rw [this]; rfl
    rw [e0] at q1'
    refine ⟨.ref s.heap.objs.size, _, I.laid (t' := s.toks) (o := .tup []) (fun b ob q => Heap.get?_push_of_some _ q) (Nat.le_refl _) ?_, rfl, q1'⟩
    exact ⟨by simp, [], .nil, PyProof.Rows.IsTup.new _ _⟩

theorem mul_ok {i j : Int} (h : mulOk i j = true) : CMul i j ∨ CMulW i j := by
  simp only [mulOk, Bool.or_eq_true, decide_eq_true_eq] at h
  rcases h with (h | h) | h
  · exact .inl (.inl ⟨by omega, by omega⟩)
  · exact .inl (.inr ⟨by omega, by omega⟩)
  · exact .inr h
theorem pow_ok {i j : Int} (h : powOk i j = true) : CPow i j := by
  simp only [powOk, Bool.and_eq_true, decide_eq_true_eq] at h
  exact ⟨h.1.1, h.1.2, h.2⟩

section
variable {Γ : Gd} {X : Cx}
theorem op_bin (hK : Γ.K = X.K) (o : Operator) : OpR X (binaryOp o) (rBin Γ (opBin o)) := by
  intro pins s σ H x y v u Q I rx ry h
  obtain ⟨E, μ, S, dx, dy, rs, hx, hy, h⟩ := h
  unfold opBin at h
  split at h
  · cases hx; cases hy
    exact op_add pins s σ H _ _ v u Q I rx ry ⟨_, _, rfl, rfl, qv h rs (.int _)⟩
  · cases hx; cases hy
    split at h
    · exact op_add_str pins s σ H _ _ v u Q I rx ry ⟨_, _, rfl, rfl, by assumption, qv h rs (.str _)⟩
    · exact h.elim
  · cases hx with
    | tup sa ra =>
      cases hy with
      | tup sb rb =>
        split at h
        next hl =>
          rw [hK] at sa sb
          refine op_catA pins s σ H _ _ v u Q I rx ry ⟨_, _, _, _, rfl, rfl, sa, sb, by rw [← ra.length, ← rb.length]; exact hl, fun e => ?_, fun _ e => ?_, fun _ _ p hp => ?_⟩
          · subst e
            cases ra
            exact qv h rs (.tup (by rw [hK]; exact sb) rb)
          · subst e
            cases rb
            rw [List.append_nil] at h
            exact qv h rs (.tup (by rw [hK]; exact sa) ra)
          · exact qv_tup h rs (ra.append rb) hp
        · exact h.elim
  · cases hx with
    | ref ea =>
      cases hy with
      | ref eb =>
        split at h
        next a b ha hb =>
          split at h
          next hl =>
            obtain ⟨p, xs, e1, e2, e3⟩ := rs.lst ha
            obtain ⟨q, ys, f1, f2, f3⟩ := rs.lst hb
            rw [ea] at e1; cases e1
            rw [eb] at f1; cases f1
            exact op_cat pins s σ H _ _ v u Q I rx ry ⟨_, _, _, _, rfl, rfl, e2, f2, by rw [← e3.length, ← f3.length]; exact hl, fun p hp => qv_lst h rs (e3.append f3) hp⟩
          · exact h.elim
        · exact h.elim
  · cases hx; cases hy
    exact op_sub pins s σ H _ _ v u Q I rx ry ⟨_, _, rfl, rfl, qv h rs (.int _)⟩
  · cases hx; cases hy
    split at h
    next hm =>
      rcases mul_ok hm with c | c
      · exact op_mul pins s σ H _ _ v u Q I rx ry ⟨_, _, rfl, rfl, c, qv h rs (.int _)⟩
      · exact op_mulW pins s σ H _ _ v u Q I rx ry ⟨_, _, rfl, rfl, c, qv h rs (.int _)⟩
    · exact h.elim
  · cases hx; cases hy
    split at h
    next hm => exact op_mul_str pins s σ H _ _ v u Q I rx ry ⟨_, _, rfl, rfl, hm.1, hm.2.1, hm.2.2.1, hm.2.2.2, qv h rs (.str _)⟩
    · exact h.elim
  · cases hx with
    | ref ea =>
      cases hy
      split at h
      next a ha =>
        split at h
        next hl =>
          obtain ⟨p, xs, e1, e2, e3⟩ := rs.lst ha
          rw [ea] at e1; cases e1
          exact op_rep pins s σ H _ _ v u Q I rx ry ⟨_, _, _, rfl, rfl, e2, hl.1, hl.2.1, by rw [← e3.length]; exact hl.2.2, fun p hp => qv_lst h rs (e3.rep _) hp⟩
        · exact h.elim
      · exact h.elim
  · cases hx with
    | tup sa ra =>
      cases hy
      split at h
      next hl =>
        obtain ⟨h1, h2, h3⟩ := hl
        rw [hK] at sa
        refine op_repA pins s σ H _ _ v u Q I rx ry ⟨_, _, _, rfl, rfl, sa, h3, h2, by rw [← ra.length]; exact h1, fun e => ?_, fun p hp => qv_tup h rs (ra.rep _) hp⟩
        rcases e with e | e
        · subst e
          cases ra
          rw [show (List.replicate (Int.toNat _) ([] : List D)).flatten = [] from by simp] at h
          exact qv h rs (.tup (by rw [hK]; exact sa) .nil)
        · subst e
          rw [show (List.replicate (Int.toNat 1) _).flatten = _ from by simp; rfl] at h
          exact qv h rs (.tup (by rw [hK]; exact sa) (by simpa using ra))
      · exact h.elim
  · cases hx; cases hy
    split at h
    next hm => exact op_fdivW pins s σ H _ _ v u Q I rx ry ⟨_, _, rfl, rfl, hm, qv h rs (.int _)⟩
    · exact h.elim
  · cases hx; cases hy
    split at h
    next hm => exact op_mod pins s σ H _ _ v u Q I rx ry ⟨_, _, rfl, rfl, hm, qv h rs (.int _)⟩
    · exact h.elim
  · cases hx; cases hy
    split at h
    next hm => exact op_pow pins s σ H _ _ v u Q I rx ry ⟨_, _, rfl, rfl, pow_ok hm, qv h rs (.int _)⟩
    · exact h.elim
  · cases hx; cases hy
    split at h
    next hm => exact op_shl pins s σ H _ _ v u Q I rx ry ⟨_, _, rfl, rfl, pow_ok hm, qv h rs (.int _)⟩
    · exact h.elim
  · cases hx; cases hy
    split at h
    next hm => exact op_shr pins s σ H _ _ v u Q I rx ry ⟨_, _, rfl, rfl, hm, qv h rs (.int _)⟩
    · exact h.elim
  · cases hx; cases hy
    exact op_and pins s σ H _ _ v u Q I rx ry ⟨_, _, rfl, rfl, qv h rs (.int _)⟩
  · cases hx; cases hy
    exact op_or pins s σ H _ _ v u Q I rx ry ⟨_, _, rfl, rfl, qv h rs (.int _)⟩
  · exact h.elim
end
end PD
end

section
set_option linter.all false
set_option maxRecDepth 100000
/-! PDeqn: == and != of a dict and a tuple. -/
namespace PySem.SeqAt
open PySem AutoSeq1 MeetsSeq
theorem dict_ne_declines_tuple (l b : Addr) (es : Array DictEntry) (n n2 : Nat) (items2 : Array Value) (dd dd2 : Option Addr) (sl sl2 : Array (Option Value)) :
    Meets (Builtin.«dict.__ne__» ⟨[.ref l, .ref b], []⟩) (fun _ R s => s.heap.get? l = some { cls := .type "dict", dict := dd, data := .dict es n, slots := sl } ∧ s.heap.get? b = some { cls := .type "tuple", dict := dd2, data := .seq items2 n2, slots := sl2 } ∧ R (.ok (.ret .notImplemented)) s) :=
  .of_wp fun prog w A R s h => by
    obtain ⟨hp, g, d, tk, os⟩ := s
    obtain ⟨hl, hb, h⟩ := h
    have f1 := F.sub_tuple_dict
    wp_walk using wpAny_loadPart' hl, wpAny_loadPart' hb
    exact ⟨_, rfl, h⟩
theorem tuple_ne_declines_dict (l b : Addr) (es : Array DictEntry) (n n2 : Nat) (items2 : Array Value) (dd dd2 : Option Addr) (sl sl2 : Array (Option Value)) :
    Meets (Builtin.«tuple.__ne__» ⟨[.ref b, .ref l], []⟩) (fun _ R s => s.heap.get? l = some { cls := .type "dict", dict := dd, data := .dict es n, slots := sl } ∧ s.heap.get? b = some { cls := .type "tuple", dict := dd2, data := .seq items2 n2, slots := sl2 } ∧ R (.ok (.ret .notImplemented)) s) :=
  .of_wp fun prog w A R s h => by
    obtain ⟨hp, g, d, tk, os⟩ := s
    obtain ⟨hl, hb, h⟩ := h
    have f1 := F.sub_dict_tuple
    wp_walk using wpAny_loadPart' hl, wpAny_loadPart' hb
    exact ⟨_, rfl, h⟩
theorem dict_eq_declines_tuple (l b : Addr) (es : Array DictEntry) (n n2 : Nat) (items2 : Array Value) (dd dd2 : Option Addr) (sl sl2 : Array (Option Value)) :
    Meets (Builtin.«dict.__eq__» ⟨[.ref l, .ref b], []⟩) (fun _ R s => s.heap.get? l = some { cls := .type "dict", dict := dd, data := .dict es n, slots := sl } ∧ s.heap.get? b = some { cls := .type "tuple", dict := dd2, data := .seq items2 n2, slots := sl2 } ∧ R (.ok (.ret .notImplemented)) s) :=
  .of_wp fun prog w A R s h => by
    obtain ⟨hp, g, d, tk, os⟩ := s
    obtain ⟨hl, hb, h⟩ := h
    have f1 := F.sub_tuple_dict
    wp_walk using wpAny_loadPart' hl, wpAny_loadPart' hb
    exact ⟨_, rfl, h⟩
theorem tuple_eq_declines_dict (l b : Addr) (es : Array DictEntry) (n n2 : Nat) (items2 : Array Value) (dd dd2 : Option Addr) (sl sl2 : Array (Option Value)) :
    Meets (Builtin.«tuple.__eq__» ⟨[.ref b, .ref l], []⟩) (fun _ R s => s.heap.get? l = some { cls := .type "dict", dict := dd, data := .dict es n, slots := sl } ∧ s.heap.get? b = some { cls := .type "tuple", dict := dd2, data := .seq items2 n2, slots := sl2 } ∧ R (.ok (.ret .notImplemented)) s) :=
  .of_wp fun prog w A R s h => by
    obtain ⟨hp, g, d, tk, os⟩ := s
    obtain ⟨hl, hb, h⟩ := h
    have f1 := F.sub_dict_tuple
    wp_walk using wpAny_loadPart' hl, wpAny_loadPart' hb
    exact ⟨_, rfl, h⟩
section
variable {A : Around} {s : Shared} {l b : Addr} {items2 : Array Value}
theorem RcNeAt.dict_tuple {o : Obj} {es : Array DictEntry} {n : Nat} (ho : s.heap.get? l = some o) (hc : o.cls = .type "dict") (hd : o.data = .dict es n) (hb : s.heap.IsTuple b items2) (hu : A.units < cLine) : RcNeAt A s (.ref l) (.ref b) true := fun prog w E Q h => by
  obtain ⟨cls, dd, data, sl⟩ := o
  obtain ⟨⟨cls2, dd2, data2, sl2⟩, ho2, hc2, n2, hd2⟩ := id hb
  simp only at hc hd hc2 hd2
  subst hc hd hc2 hd2
  have hne : l ≠ b := fun e => by subst e; rw [ho] at ho2; exact absurd (Option.some.inj ho2) (by simp)
  exact (rc_ne_decline_or (k := false) ⟨_, ho, rfl⟩ ⟨_, ho2, rfl⟩ (by decide) F.sub_tuple_dict F.slot_dict_ne F.slot_tuple_ne_refl
    (fun _ hq => call_meets F.slot_dict_ne ⟨_, ho, rfl⟩ F.entry_dict_ne (F.args_dict_ne_2 _ _) (dict_ne_declines_tuple l b es n n2 items2 dd dd2 sl sl2) ⟨ho, ho2, hq⟩)
    (fun _ hq => call_meets F.slot_tuple_ne_refl ⟨_, ho2, rfl⟩ F.entry_tuple_ne (F.args_tuple_ne_2 _ _) (tuple_ne_declines_dict l b es n n2 items2 dd dd2 sl sl2) ⟨ho, ho2, hq⟩)
    (fun _ hq => wpAny_isSame_ref_other hne ho ho2 (by simp) hq) (.inr hu) h)
theorem RcAt.dict_tuple {o : Obj} {es : Array DictEntry} {n : Nat} (ho : s.heap.get? l = some o) (hc : o.cls = .type "dict") (hd : o.data = .dict es n) (hb : s.heap.IsTuple b items2) (hu : A.units < cLine) : RcAt A s (.ref l) (.ref b) false := fun prog w E Q h => by
  obtain ⟨cls, dd, data, sl⟩ := o
  obtain ⟨⟨cls2, dd2, data2, sl2⟩, ho2, hc2, n2, hd2⟩ := id hb
  simp only at hc hd hc2 hd2
  subst hc hd hc2 hd2
  have hne : l ≠ b := fun e => by subst e; rw [ho] at ho2; exact absurd (Option.some.inj ho2) (by simp)
  exact (rc_eq_decline_or (k := false) ⟨_, ho, rfl⟩ ⟨_, ho2, rfl⟩ (by decide) F.sub_tuple_dict F.slot_dict_eq F.slot_tuple_eq_refl
    (fun _ hq => call_meets F.slot_dict_eq ⟨_, ho, rfl⟩ F.entry_dict_eq (F.args_dict_eq_2 _ _) (dict_eq_declines_tuple l b es n n2 items2 dd dd2 sl sl2) ⟨ho, ho2, hq⟩)
    (fun _ hq => call_meets F.slot_tuple_eq_refl ⟨_, ho2, rfl⟩ F.entry_tuple_eq (F.args_tuple_eq_2 _ _) (tuple_eq_declines_dict l b es n n2 items2 dd dd2 sl sl2) ⟨ho, ho2, hq⟩)
    (fun _ hq => wpAny_isSame_ref_other hne ho ho2 (by simp) hq) (.inr hu) h)
end
end PySem.SeqAt
namespace PD
open PySem L2
variable {X : Cx} {pins : List (Addr × Obj)} {σ : St} {H : Hp} {s : Shared}
/-- what is told of == and != with an empty tuple -/
theorem rc_nil {p q : Addr} (hu : X.A.units < cLine) (I : Inv X pins σ H s) (hy : SqT X.K H q []) (k : Bool) (hx : (∃ xs, SqT X.K H p xs ∧ k = xs.isEmpty) ∨ ((∃ xs, SqL X.K H p xs) ∧ k = false) ∨ ((∃ kvs, H p = some (.dK kvs)) ∧ k = false)) :
    SeqAt.RcAt X.A s (.ref p) (.ref q) k ∧ SeqAt.RcNeAt X.A s (.ref p) (.ref q) (!k) := by
  obtain ⟨its2, r2, ht2, _⟩ := I.tuple hy
  have e2 : its2 = [] := by have := r2.length; cases its2 with | nil => rfl | cons a t => simp at this
  subst e2
  have ht2' : s.heap.IsTuple q #[] := ht2
  rcases hx with ⟨xs, hx, rfl⟩ | ⟨⟨xs, hx⟩, rfl⟩ | ⟨⟨kvs, hx⟩, rfl⟩
  · obtain ⟨its, r, ht, _⟩ := I.tuple hx
    have hl := r.length
    have a := SeqAt.RcAt.tuples (e := fun _ => true) (show s.heap.IsTuple p its.toArray from ht) ht2' hu (fun j h1 h2 => absurd h2 (by simp))
    have b := SeqAt.RcNeAt.tuples (e := fun _ => true) (show s.heap.IsTuple p its.toArray from ht) ht2' hu (fun j h1 h2 => absurd h2 (by simp))
    have e : ((List.range (min its.toArray.size (#[] : Array Value).size)).all (fun _ => true) && its.toArray.size == (#[] : Array Value).size) = xs.isEmpty := by
      cases xs with
      | nil => simp at hl; simp [hl]
      | cons x xs => simp at hl; simp; intro z; simp [z] at hl
    rw [e] at a b
    exact ⟨a, b⟩
  · obtain ⟨its, r, ht, _⟩ := I.list hx
    exact ⟨SeqAt.RcAt.list_tuple (show s.heap.IsList p its.toArray from ht.isList) ht2' hu, SeqAt.RcNeAt.list_tuple (show s.heap.IsList p its.toArray from ht.isList) ht2' hu⟩
  · obtain ⟨z1, d1, vs, r1, dd1⟩ := dk_of I.hok hx
    obtain ⟨o2, g1, g2⟩ := dd1.typeIs
    obtain ⟨o, es, ep, ho, _, hd, _⟩ := dd1
    have eo : o2 = o := Option.some.inj (g1.symm.trans ho)
    have hc : o.cls = .type "dict" := eo ▸ g2
    exact ⟨SeqAt.RcAt.dict_tuple ho hc hd ht2' hu, SeqAt.RcNeAt.dict_tuple ho hc hd ht2' hu⟩
end PD
end

section
set_option linter.all false
set_option maxRecDepth 100000
set_option maxHeartbeats 1000000
/-! PDops2: comparisons, subscripts, built-ins, methods. -/
namespace PD
open PySem L2

section
variable {K : PySem.W.Frag} {μ : List Addr} {H : Hp} {S : Store}
/-! ### data at any depth -/
mutual
theorem dp_of {f : Nat → Option PyData} (hf : ∀ n a e, μ[n]? = some a → f n = some e → Dp K H (.ref a) e) : ∀ {d : D} {v : V} {e : PyData}, RepV K μ H d v → d.py f = some e → Dp K H v e
  | _, _, _, .non, h => by simp [D.py] at h; subst h; exact .non
  | _, _, _, .bl b, h => by simp [D.py] at h; subst h; exact .bl b
  | _, _, _, .int i, h => by simp [D.py] at h; subst h; exact .int i
  | _, _, _, .str x, h => by simp [D.py] at h; subst h; exact .str x
  | _, _, _, .tup q r, h => by
    simp only [D.py, Option.map_eq_some_iff] at h
    obtain ⟨es, h1, rfl⟩ := h
    exact .tup q (dps_of hf r h1)
  | _, _, _, .rol q r, h => by
    simp only [D.py, Option.map_eq_some_iff] at h
    obtain ⟨es, h1, rfl⟩ := h
    exact .lst q.sq (dps_of hf r h1)
  | _, _, _, .ref q, h => hf _ _ _ q (by simpa [D.py] using h)
theorem dps_of {f : Nat → Option PyData} (hf : ∀ n a e, μ[n]? = some a → f n = some e → Dp K H (.ref a) e) : ∀ {ds : List D} {vs : List V} {es : List PyData}, RepVs K μ H ds vs → D.pys f ds = some es → DpAll K H vs es
  | _, _, _, .nil, h => by simp [D.pys] at h; subst h; exact .nil
  | d :: ds, _, es, .cons q r, h => by
    simp only [D.pys] at h
    cases h1 : D.py f d with
    | none => rw [h1] at h; simp at h
    | some x =>
      cases h2 : D.pys f ds with
      | none => rw [h1, h2] at h; simp at h
      | some xs =>
        rw [h1, h2] at h
        simp at h; subst h
        exact .cons (dp_of hf q h1) (dps_of hf r h2)
end
theorem ref_py (rs : RepS K μ H S) : ∀ (k n : Nat) (a : Addr) (e : PyData), μ[n]? = some a → pyR S k n = some e → Dp K H (.ref a) e
  | 0, _, _, _, _, h => by simp [pyR] at h
  | k + 1, n, a, e, q, h => by
    simp only [pyR] at h
    split at h
    next ds hd =>
      simp only [Option.map_eq_some_iff] at h
      obtain ⟨es, h1, rfl⟩ := h
      obtain ⟨b, vs, e1, e2, e3⟩ := rs.lst hd
      rw [q] at e1; cases e1
      exact .lst (SqL.of e2) (dps_of (fun n a e => ref_py rs k n a e) e3 h1)
    · cases h
theorem toPy_dp (rs : RepS K μ H S) {d : D} {v : V} {e : PyData} (r : RepV K μ H d v) (h : toPy S d = some e) : Dp K H v e :=
  dp_of (fun n a e => ref_py rs 6 n a e) r h

/-! ### what stands in a list or a tuple -/
theorem items_of (rs : RepS K μ H S) {d : D} {v : V} {ds : List D} (r : RepV K μ H d v) (h : itemsOf S d = some ds) : ∃ p vs, v = .ref p ∧ (SqL K H p vs ∨ SqT K H p vs) ∧ RepVs K μ H ds vs ∧ ((∀ z, d ≠ .tup z) → SqL K H p vs) ∧ ((∃ z, d = .tup z) → SqT K H p vs ∧ d = .tup ds) := by
  cases r with
  | tup q r => simp [itemsOf] at h; subst h; exact ⟨_, _, rfl, .inr q, r, fun z => absurd rfl (z _), fun _ => ⟨q, rfl⟩⟩
  | rol q r => simp [itemsOf] at h; subst h; exact ⟨_, _, rfl, .inl q.sq, r, fun _ => q.sq, fun ⟨z, e⟩ => nomatch e⟩
  | ref q =>
    simp only [itemsOf] at h
    split at h
    next es hd =>
      cases h
      obtain ⟨b, vs, e1, e2, e3⟩ := rs.lst hd
      rw [q] at e1; cases e1
      exact ⟨_, _, rfl, .inl (SqL.of e2), e3, fun _ => SqL.of e2, fun ⟨z, e⟩ => nomatch e⟩
    · cases h
  | _ => simp [itemsOf] at h
theorem flat_of {d : D} {v : V} (r : RepV K μ H d v) : flatV v = isFlat d := by cases r <;> rfl
theorem flats_of : ∀ {ds : List D} {vs : List V}, RepVs K μ H ds vs → vs.all flatV = ds.all isFlat
  | _, _, .nil => rfl
  | _, _, .cons h r => by rw [List.all_cons, List.all_cons, flat_of h, flats_of r]
theorem eqV_of {d e : D} {v u : V} (r : RepV K μ H d v) (q : RepV K μ H e u) : eqV v u = flatEq d e := by
  cases r <;> cases q <;> rfl
theorem inV_of {d : D} {v : V} (q : RepV K μ H d v) : ∀ {ds : List D} {vs : List V}, RepVs K μ H ds vs → inV v vs = ds.any fun z => flatEq z d
  | _, _, .nil => rfl
  | _, _, .cons h r => by
    have := inV_of q r
    unfold inV at this ⊢
    rw [List.any_cons, List.any_cons, eqV_of h q, this]
theorem atI_of {ds : List D} {vs : List V} {i : Int} {d : D} (r : RepVs K μ H ds vs) (h : atI ds i = some d) : ∃ v, atI vs i = some v ∧ RepV K μ H d v := by
  unfold atI at h ⊢
  rw [← r.length]
  cases e : ixN ds.length i with
  | none => rw [e] at h; cases h
  | some j =>
    rw [e] at h
    exact r.get h
end

def rCmp (Γ : Gd) (f : D → D → Store → R Bool) : R2 := fun x y H Q => ∃ E μ S dx dy, RepS Γ.K μ H S ∧ RepV Γ.K μ H dx x ∧ RepV Γ.K μ H dy y ∧ Aft Γ E μ H (QB fun b H' => Q (.bl b) H') (f dx dy S)
section
variable {Γ : Gd} {X : Cx}
theorem eqNil_rc (hK : Γ.K = X.K) (hu : X.A.units + 64 < cLine) {pins : List (Addr × Obj)} {σ : St} {H : Hp} {s : Shared} {μ : List Addr} {S S' : Store} {dx dy : D} {x y : V} {v u : Value} {b : Bool} (rs : RepS Γ.K μ H S) (hx : RepV Γ.K μ H dx x) (hy : RepV Γ.K μ H dy y)
    (I : Inv X pins σ H s) (rx : RelV x v) (ry : RelV y u) (h : eqNil dx dy S = .ok b S') : S' = S ∧ SeqAt.RcAt X.A s v u b ∧ SeqAt.RcNeAt X.A s v u (!b) := by
  unfold eqNil at h
  split at h
  next ds =>
    cases hx with
    | tup q r =>
      cases hy with
      | tup q2 r2 =>
        cases r2
        cases rx
        cases ry
        cases h
        have hl := r.length
        refine ⟨rfl, rc_nil (by omega) I (hK ▸ q2) _ (.inl ⟨_, hK ▸ q, ?_⟩)⟩
        rename_i vs _
        cases ds <;> cases vs <;> first | rfl | simp at hl
  next n =>
    cases hx with
    | ref q =>
      cases hy with
      | tup q2 r2 =>
        cases r2
        cases rx
        cases ry
        split at h
        next ds hd =>
          cases h
          obtain ⟨c, vs, e1, e2, e3⟩ := rs.lst hd
          rw [q] at e1; cases e1
          exact ⟨rfl, rc_nil (by omega) I (hK ▸ q2) false (.inr (.inl ⟨⟨vs, SqL.of e2⟩, rfl⟩))⟩
        next kvs hd =>
          cases h
          obtain ⟨c, vs, e1, e2, e3⟩ := rs.dic hd
          rw [q] at e1; cases e1
          exact ⟨rfl, rc_nil (by omega) I (hK ▸ q2) false (.inr (.inr ⟨⟨vs, e2⟩, rfl⟩))⟩
        · cases h
  · cases h
theorem eqNil_exc {dx dy : D} {S S' : Store} {x : Exn} : eqNil dx dy S ≠ .exc x S' := fun h => by
  unfold eqNil at h
  split at h
  · cases h
  · split at h <;> cases h
  · cases h
theorem op_eqS (hK : Γ.K = X.K) (hu : X.A.units + 64 < cLine) : OpR X (compareOp .Eq) (rCmp Γ opEq) := by
  intro pins s σ H x y v u Q I rx ry ⟨E, μ, S, dx, dy, rs, hx, hy, h⟩
  unfold opEq at h
  split at h
  next a b ha hb =>
    split at h
    next hs =>
      simp only [Bool.and_eq_true] at hs
      have d1 := toPy_dp rs hx ha
      have d2 := toPy_dp rs hy hb
      rw [hK] at d1 d2
      exact op_eqD hu pins s σ H _ _ v u Q I rx ry ⟨_, _, d1, d2, hs.1, hs.2, h.now rs⟩
    · cases he : eqNil dx dy S with
      | ok b S' =>
        rw [he] at h
        obtain ⟨rfl, q1, _⟩ := eqNil_rc hK hu rs hx hy I rx ry he
        exact q1 _ _ _ _ ⟨.bl b, H, I, rfl, h.now rs⟩
      | exc x S' => exact absurd he eqNil_exc
      | stuck => rw [he] at h; exact h.elim
  · cases he : eqNil dx dy S with
    | ok b S' =>
      rw [he] at h
      obtain ⟨rfl, q1, _⟩ := eqNil_rc hK hu rs hx hy I rx ry he
      exact q1 _ _ _ _ ⟨.bl b, H, I, rfl, h.now rs⟩
    | exc x S' => exact absurd he eqNil_exc
    | stuck => rw [he] at h; exact h.elim
theorem op_neS (hK : Γ.K = X.K) (hu : X.A.units + 64 < cLine) : OpR X (compareOp .NotEq) (rCmp Γ fun x y S => (opEq x y S).map not) := by
  intro pins s σ H x y v u Q I rx ry ⟨E, μ, S, dx, dy, rs, hx, hy, h⟩
  replace h := Aft.map h
  unfold opEq at h
  split at h
  next a b ha hb =>
    split at h
    next hs =>
      simp only [Bool.and_eq_true] at hs
      have d1 := toPy_dp rs hx ha
      have d2 := toPy_dp rs hy hb
      rw [hK] at d1 d2
      exact op_neD hu pins s σ H _ _ v u Q I rx ry ⟨_, _, d1, d2, hs.1, hs.2, h.now rs⟩
    · cases he : eqNil dx dy S with
      | ok b S' =>
        rw [he] at h
        obtain ⟨rfl, _, q1⟩ := eqNil_rc hK hu rs hx hy I rx ry he
        exact q1 _ _ _ _ ⟨.bl (!b), H, I, rfl, h.now rs⟩
      | exc x S' => exact absurd he eqNil_exc
      | stuck => rw [he] at h; exact h.elim
  · cases he : eqNil dx dy S with
    | ok b S' =>
      rw [he] at h
      obtain ⟨rfl, _, q1⟩ := eqNil_rc hK hu rs hx hy I rx ry he
      exact q1 _ _ _ _ ⟨.bl (!b), H, I, rfl, h.now rs⟩
    | exc x S' => exact absurd he eqNil_exc
    | stuck => rw [he] at h; exact h.elim
theorem op_inS' (hK : Γ.K = X.K) (hu : X.A.units + 1 < cLine) : OpR X (compareOp .In) (rCmp Γ opIn) := by
  intro pins s σ H x y v u Q I rx ry ⟨E, μ, S, dx, dy, rs, hx, hy, h⟩
  unfold opIn at h
  split at h
  next kvs hd =>
    split at h
    next k hk =>
      unfold dicOf at hd
      split at hd
      next n =>
        split at hd
        next kvs' hS =>
          cases hd
          obtain ⟨a, vs, e1, e2, e3⟩ := rs.dic hS
          cases hy with
          | ref q =>
            rw [q] at e1; cases e1
            obtain rfl : u = Value.ref a := ry
            have ey := key_of hx hk
            subst ey
            have fin : ∀ s', L2.Inv X pins σ H s' → EP X pins σ Q (.bool ((valV vs k).isSome)) s' := fun s' I' => by
              have e4 : (valD kvs k).isSome = (valV vs k).isSome := by
                rcases e3.val (k := k) with ⟨g1, g2⟩ | ⟨d, w, g1, g2, _⟩ <;> rw [g1, g2] <;> rfl
              exact ⟨.bl ((valV vs k).isSome), H, I', rfl, by rw [← e4]; exact h.now rs⟩
            exact d_in hu I (DGet.k e2) rx fin
        · cases hd
      · cases hd
    · exact h.elim
  · unfold opIn0 at h
    split at h
    · cases hx; cases hy
      exact op_in_str pins s σ H _ _ v u Q I rx ry ⟨_, _, rfl, rfl, h.now rs⟩
    · split at h
      next ds hd =>
        split at h
        next hf =>
          simp only [Bool.and_eq_true] at hf
          obtain ⟨p, vs, rfl, hq, r, _⟩ := items_of rs hy hd
          rw [hK] at hq
          refine op_in_seq pins s σ H _ _ v u Q I rx ry ⟨p, vs, rfl, hq, by rw [flat_of hx]; exact hf.1, by rw [flats_of r]; exact hf.2, ?_⟩
          show Q (.bl (inV x vs)) H
          rw [inV_of hx r]
          exact h.now rs
        · exact h.elim
      · exact h.elim
theorem op_niS' (hK : Γ.K = X.K) (hu : X.A.units + 1 < cLine) : OpR X (compareOp .NotIn) (rCmp Γ fun x y S => (opIn x y S).map not) := by
  intro pins s σ H x y v u Q I rx ry ⟨E, μ, S, dx, dy, rs, hx, hy, h⟩
  replace h := Aft.map h
  unfold opIn at h
  split at h
  next kvs hd =>
    split at h
    next k hk =>
      unfold dicOf at hd
      split at hd
      next n =>
        split at hd
        next kvs' hS =>
          cases hd
          obtain ⟨a, vs, e1, e2, e3⟩ := rs.dic hS
          cases hy with
          | ref q =>
            rw [q] at e1; cases e1
            obtain rfl : u = Value.ref a := ry
            have ey := key_of hx hk
            subst ey
            have fin : ∀ s', L2.Inv X pins σ H s' → EP X pins σ Q (.bool (!(valV vs k).isSome)) s' := fun s' I' => by
              have e4 : (valD kvs k).isSome = (valV vs k).isSome := by
                rcases e3.val (k := k) with ⟨g1, g2⟩ | ⟨d, w, g1, g2, _⟩ <;> rw [g1, g2] <;> rfl
              exact ⟨.bl (!(valV vs k).isSome), H, I', rfl, by rw [← e4]; exact h.now rs⟩
            exact d_notIn hu I (DGet.k e2) rx fin
        · cases hd
      · cases hd
    · exact h.elim
  · unfold opIn0 at h
    split at h
    · cases hx; cases hy
      exact op_notIn_str pins s σ H _ _ v u Q I rx ry ⟨_, _, rfl, rfl, h.now rs⟩
    · split at h
      next ds hd =>
        split at h
        next hf =>
          simp only [Bool.and_eq_true] at hf
          obtain ⟨p, vs, rfl, hq, r, _⟩ := items_of rs hy hd
          rw [hK] at hq
          refine op_notIn_seq pins s σ H _ _ v u Q I rx ry ⟨p, vs, rfl, hq, by rw [flat_of hx]; exact hf.1, by rw [flats_of r]; exact hf.2, ?_⟩
          show Q (.bl (!inV x vs)) H
          rw [inV_of hx r]
          exact h.now rs
        · exact h.elim
      · exact h.elim
theorem dec_non {d : D} {v : V} {K : PySem.W.Frag} {μ : List Addr} {H : Hp} (r : RepV K μ H d v) : (d = .non → v = .non) ∧ (d ≠ .non → v ≠ .non) := by
  cases r <;> simp
theorem op_isS' (hK : Γ.K = X.K) : OpR X (compareOp .Is) (rCmp Γ opIs) := by
  intro pins s σ H x y v u Q I rx ry ⟨E, μ, S, dx, dy, rs, hx, hy, h⟩
  unfold opIs at h
  split at h
  · cases hx; cases hy
    exact op_isN pins s σ H _ _ v u Q I rx ry ⟨rfl, h.now rs⟩
  next hne =>
    cases hy
    have z := (dec_non hx).2 (fun e => hne e)
    refine op_isN pins s σ H _ _ v u Q I rx ry ⟨rfl, ?_⟩
    rw [decide_eq_false z]
    exact h.now rs
  · cases hx; cases hy
    exact op_isBl pins s σ H _ _ v u Q I rx ry ⟨_, _, rfl, rfl, h.now rs⟩
  · exact h.elim
theorem op_isntS' (hK : Γ.K = X.K) : OpR X (compareOp .IsNot) (rCmp Γ fun x y S => (opIs x y S).map not) := by
  intro pins s σ H x y v u Q I rx ry ⟨E, μ, S, dx, dy, rs, hx, hy, h⟩
  replace h := Aft.map h
  unfold opIs at h
  split at h
  · cases hx; cases hy
    exact op_notN pins s σ H _ _ v u Q I rx ry ⟨rfl, h.now rs⟩
  next hne =>
    cases hy
    have z := (dec_non hx).2 (fun e => hne e)
    refine op_notN pins s σ H _ _ v u Q I rx ry ⟨rfl, ?_⟩
    rw [decide_eq_false z]
    exact h.now rs
  · cases hx; cases hy
    exact op_notBl pins s σ H _ _ v u Q I rx ry ⟨_, _, rfl, rfl, h.now rs⟩
  · exact h.elim
theorem op_ltS (hK : Γ.K = X.K) (hu : X.A.units < cLine) : OpR X (compareOp .Lt) (rCmp Γ opLt) := by
  intro pins s σ H x y v u Q I rx ry ⟨E, μ, S, dx, dy, rs, hx, hy, h⟩
  unfold opLt at h
  split at h
  · cases hx; cases hy
    exact op_lt pins s σ H _ _ v u Q I rx ry ⟨_, _, rfl, rfl, h.now rs⟩
  · cases hx; cases hy
    exact op_lt_str pins s σ H _ _ v u Q I rx ry ⟨_, _, rfl, rfl, h.now rs⟩
  · split at h
    next m n hm hn =>
      cases hx with
      | tup qa ra =>
        cases hy with
        | tup qb rb =>
          have e1 := ra.ints hm
          have e2 := rb.ints hn
          subst e1; subst e2
          rw [hK] at qa qb
          exact op_ltT hu pins s σ H _ _ v u Q I rx ry ⟨_, _, _, _, rfl, rfl, qa, qb, h.now rs⟩
    · exact h.elim
  · exact h.elim
theorem op_cmp (hK : Γ.K = X.K) (hu : X.A.units + 64 < cLine) (o : CmpOp) : OpR X (compareOp o) (rCmp Γ (opCmp o)) := by
  cases o with
  | Eq => exact op_eqS hK hu
  | NotEq => exact op_neS hK hu
  | Lt => exact op_ltS hK (by omega)
  | In => exact op_inS' hK (by omega)
  | NotIn => exact op_niS' hK (by omega)
  | Is => exact op_isS' hK
  | IsNot => exact op_isntS' hK
  | LtE =>
    intro pins s σ H x y v u Q I rx ry ⟨E, μ, S, dx, dy, rs, hx, hy, h⟩
    simp only [opCmp, opLe] at h
    split at h
    · cases hx; cases hy
      exact op_le pins s σ H _ _ v u Q I rx ry ⟨_, _, rfl, rfl, h.now rs⟩
    · exact h.elim
  | Gt =>
    intro pins s σ H x y v u Q I rx ry ⟨E, μ, S, dx, dy, rs, hx, hy, h⟩
    simp only [opCmp] at h
    split at h
    · cases hx; cases hy
      exact op_gt pins s σ H _ _ v u Q I rx ry ⟨_, _, rfl, rfl, h.now rs⟩
    · exact h.elim
  | GtE =>
    intro pins s σ H x y v u Q I rx ry ⟨E, μ, S, dx, dy, rs, hx, hy, h⟩
    simp only [opCmp] at h
    split at h
    · cases hx; cases hy
      exact op_ge pins s σ H _ _ v u Q I rx ry ⟨_, _, rfl, rfl, h.now rs⟩
    · exact h.elim

/-! ### one-place operators, truth -/
def rUn (Γ : Gd) (f : D → Store → R D) : V → Hp → VK → Prop := fun x H Q => ∃ E μ S dx, RepS Γ.K μ H S ∧ RepV Γ.K μ H dx x ∧ Aft Γ E μ H (QV Γ Q) (f dx S)
theorem op_un (hK : Γ.K = X.K) (o : UnaryOp) : UnR X (unaryOp o) (rUn Γ (opUn o)) := by
  intro pins s σ H x v Q I rx ⟨E, μ, S, dx, rs, hx, h⟩
  unfold opUn at h
  split at h
  · cases hx
    exact un_neg pins s σ H _ v Q I rx ⟨_, rfl, qv h rs (.int _)⟩
  · cases hx
    exact un_inv pins s σ H _ v Q I rx ⟨_, rfl, qv h rs (.int _)⟩
  · exact h.elim
/-- truth -/
theorem tru_of {E : XK} {μ : List Addr} {H : Hp} {S : Store} {d : D} {v : V} {Q : Bool → Hp → Prop} (rs : RepS Γ.K μ H S) (r : RepV Γ.K μ H d v) (h : Aft Γ E μ H (QB Q) (opTru d S)) : ∃ k, TruV X.K v H k ∧ Q k H := by
  unfold opTru at h
  split at h
  · cases r; exact ⟨_, rfl, h.now rs⟩
  · cases r; exact ⟨_, rfl, h.now rs⟩
  · cases r; exact ⟨_, rfl, h.now rs⟩
  · exact h.elim

/-! ### subscripts -/
theorem op_ix (hK : Γ.K = X.K) : IxR X (rBin Γ opIx0) := by
  intro value slice pins s σ H x y v u Q I rx ry ⟨E, μ, S, dx, dy, rs, hx, hy, h⟩ hs
  unfold opIx0 at h
  split at h
  next i =>
    cases hy
    split at h
    next z =>
      cases hx
      split at h
      next d hd =>
        simp only [strAt] at hd
        split at hd
        next hl =>
          simp only [Option.map_eq_some_iff] at hd
          obtain ⟨c, hc, rfl⟩ := hd
          exact ix_str value slice pins s σ H _ _ v u Q I rx ry ⟨_, _, _, rfl, rfl, hl, hc, qv h rs (.str _)⟩ hs
        · cases hd
      · exact h.elim
    · split at h
      next ds hd =>
        split at h
        next d ha =>
          obtain ⟨p, vs, rfl, hq, r, _⟩ := items_of rs hx hd
          obtain ⟨w, hw, rw'⟩ := atI_of r ha
          rw [hK] at hq
          rcases hq with hq | hq
          · exact ix_list value slice pins s σ H _ _ v u Q I rx ry ⟨_, _, _, _, rfl, rfl, hq, hw, qv h rs rw'⟩ hs
          · exact ix_tup value slice pins s σ H _ _ v u Q I rx ry ⟨_, _, _, _, rfl, rfl, hq, hw, qv h rs rw'⟩ hs
        · exact h.elim
      · exact h.elim
  · exact h.elim
def rSlc (Γ : Gd) : V → Option Int → Option Int → Hp → VK → Prop := fun x lo hi H Q => ∃ E μ S dx, RepS Γ.K μ H S ∧ RepV Γ.K μ H dx x ∧ Aft Γ E μ H (QV Γ Q) (opSl dx lo hi S)
theorem op_sl (hK : Γ.K = X.K) : SlR X (rSlc Γ) := by
  intro pins s σ H x v vl vu lo hi sl Q I rx hsl pl pu h
  obtain ⟨E, μ, S, dx, rs, hx, h⟩ := h
  unfold opSl at h
  split at h
  next z =>
    cases hx
    split at h
    next hl => exact sl_str pins s σ H _ v vl vu lo hi sl Q I rx hsl pl pu ⟨z, rfl, hl, qv h rs (.str _)⟩
    · exact h.elim
  next ds =>
    cases hx with
    | tup q r =>
      rw [hK] at q
      refine sl_tupA pins s σ H _ v vl vu lo hi sl Q I rx hsl pl pu ⟨_, _, rfl, q, fun e => ?_, fun _ p hp => qv_tup h rs (r.cut lo hi) hp⟩
      rw [← r.length] at e
      have e2 : cutD ds lo hi = ds := by
        unfold cutD
        rw [e.1, e.2]; simp
      rw [e2] at h
      exact qv h rs (.tup (by rw [hK]; exact q) r)
  · cases hx with
    | rol q r =>
      have q' := q.sq
      rw [hK] at q'
      exact sl_list pins s σ H _ v vl vu lo hi sl Q I rx hsl pl pu ⟨_, _, rfl, q', fun p hp => qv_lst h rs (r.cut lo hi) hp⟩
  · split at h
    next ds hd =>
      cases hx with
      | ref q =>
        obtain ⟨b, vs, e1, e2, e3⟩ := rs.lst hd
        rw [q] at e1; cases e1
        exact sl_list pins s σ H _ v vl vu lo hi sl Q I rx hsl pl pu ⟨_, _, rfl, SqL.of e2, fun p hp => qv_lst h rs (e3.cut lo hi) hp⟩
    · exact h.elim
  · exact h.elim
end
end PD
end

section
set_option linter.all false
set_option maxRecDepth 100000
set_option maxHeartbeats 1000000
/-! PDops3: built-in functions, isinstance, methods, o[i] = v. -/
namespace PD
open PySem L2

def bltV : Blt → Value
  | .len => .builtin "len" | .abs => .builtin "abs" | .int => .type "int" | .str => .type "str" | .tuple => .type "tuple" | .list => .type "list"
  | .all => .builtin "all" | .any => .builtin "any" | .sum => .builtin "sum"
  | .max => .builtin "max" | .min => .builtin "min" | .sorted => .builtin "sorted" | .gcd => .builtin "math.gcd"
def rBlt (Γ : Gd) (f : List D → Store → R D) : List V → Hp → VK → Prop := fun xs H Q => ∃ E μ S ds, RepS Γ.K μ H S ∧ RepVs Γ.K μ H ds xs ∧ Aft Γ E μ H (QV Γ Q) (f ds S)
theorem dic_of {K : PySem.W.Frag} {μ : List Addr} {H : Hp} {S : Store} {d : D} {v : V} {kvs : List (Key × D)} (rs : RepS K μ H S) (r : RepV K μ H d v) (h : dicOf S d = some kvs) : ∃ a vs, v = .ref a ∧ H a = some (.dK vs) ∧ RepKV K μ H kvs vs := by
  unfold dicOf at h
  split at h
  next n =>
    split at h
    next kvs' hS =>
      cases h
      obtain ⟨a, vs, e1, e2, e3⟩ := rs.dic hS
      cases r with
      | ref q => rw [q] at e1; cases e1; exact ⟨_, vs, rfl, e2, e3⟩
    · cases h
  · cases h
section
variable {Γ : Gd} {X : Cx}
theorem op_len (hK : Γ.K = X.K) : CallR X (.builtin "len") (rBlt Γ (opBlt .len)) := by
  intro pins s σ H xs us Q I rv ⟨E, μ, S, ds, rs, hx, h⟩
  match ds, hx with
  | [], _ => exact h.elim
  | _ :: _ :: _, _ => exact (by simpa [opBlt, Aft] using h)
  | [d], .cons (v := v) r .nil =>
    cases r with
    | str z =>
      simp only [opBlt] at h
      split at h
      next hl => exact call_len_str pins s σ H _ us Q I rv ⟨_, rfl, hl, qv h rs (.int _)⟩
      · exact h.elim
    | tup q r =>
      simp only [opBlt, itemsOf] at h
      rw [hK] at q
      refine call_len_seq pins s σ H _ us Q I rv ⟨_, _, rfl, .inr q, ?_⟩
      rw [← r.length]
      exact qv h rs (.int _)
    | rol q r =>
      simp only [opBlt, itemsOf] at h
      have q' := q.sq
      rw [hK] at q'
      refine call_len_seq pins s σ H _ us Q I rv ⟨_, _, rfl, .inl q', ?_⟩
      rw [← r.length]
      exact qv h rs (.int _)
    | ref q =>
      simp only [opBlt] at h
      split at h
      next es hd =>
        obtain ⟨p, vs, e, _, r, hq, _⟩ := items_of rs (.ref q) hd
        cases e
        refine call_len_seq pins s σ H _ us Q I rv ⟨_, _, rfl, .inl (hK ▸ hq (fun z e => nomatch e)), ?_⟩
        rw [← r.length]
        exact qv h rs (.int _)
      · split at h
        next kvs hd =>
          obtain ⟨a, vs, e, e2, e3⟩ := dic_of rs (.ref q) hd
          cases e
          refine call_lenD pins s σ H _ us Q I rv ⟨_, _, rfl, e2, ?_⟩
          rw [← e3.length]
          exact qv h rs (.int _)
        · exact h.elim
    | _ => exact (by simpa [opBlt, itemsOf, dicOf, Aft] using h)
theorem op_abs : CallR X (.builtin "abs") (rBlt Γ (opBlt .abs)) := by
  intro pins s σ H xs us Q I rv ⟨E, μ, S, ds, rs, hx, h⟩
  unfold opBlt at h
  split at h <;> (try contradiction) <;> (try exact h.elim)
  match hx with
  | .cons (.int i) .nil => exact call_abs pins s σ H _ us Q I rv ⟨_, rfl, qv h rs (.int _)⟩
theorem op_int : CallR X (.type "int") (rBlt Γ (opBlt .int)) := by
  intro pins s σ H xs us Q I rv ⟨E, μ, S, ds, rs, hx, h⟩
  unfold opBlt at h
  split at h <;> (try contradiction) <;> (try exact h.elim)
  · match hx with
    | .cons (.int i) .nil => exact call_int1 pins s σ H _ us Q I rv (.inl ⟨_, rfl, qv h rs (.int _)⟩)
  · match hx with
    | .cons (.bl i) .nil => exact call_int1 pins s σ H _ us Q I rv (.inr ⟨_, rfl, qv h rs (.int _)⟩)
  · match hx with
    | .cons (.str z) .nil =>
      split at h
      next hl =>
        split at h
        next i hi => exact call_int_str pins s σ H _ us Q I rv ⟨_, _, rfl, hi, hl, qv h rs (.int _)⟩
        · exact h.elim
      · exact h.elim
theorem op_str : CallR X (.type "str") (rBlt Γ (opBlt .str)) := by
  intro pins s σ H xs us Q I rv ⟨E, μ, S, ds, rs, hx, h⟩
  unfold opBlt at h
  split at h <;> (try contradiction) <;> (try exact h.elim)
  match hx with
  | .cons (.int i) .nil =>
    split at h
    next hl => exact call_str_int pins s σ H _ us Q I rv ⟨_, rfl, hl, qv h rs (.str _)⟩
    · exact h.elim
theorem op_tuple (hK : Γ.K = X.K) : CallR X (.type "tuple") (rBlt Γ (opBlt .tuple)) := by
  intro pins s σ H xs us Q I rv ⟨E, μ, S, ds, rs, hx, h⟩
  unfold opBlt at h
  split at h <;> (try contradiction) <;> (try exact h.elim)
  · match hx with
    | .cons (.tup q r) .nil => exact call_tuple_of pins s σ H _ us Q I rv ⟨_, _, rfl, .inr ⟨hK ▸ q, qv h rs (.tup q r)⟩⟩
  next x hn _ =>
    match hx with
    | .cons (v := v) r .nil =>
      split at h
      next es hd =>
        obtain ⟨p, vs, e, _, r', hq, _⟩ := items_of rs r hd
        cases e
        exact call_tuple_of pins s σ H _ us Q I rv ⟨_, _, rfl, .inl ⟨hK ▸ hq (fun z e => hn z (by rw [e])), fun l hl => qv_tup h rs r' hl⟩⟩
      · exact h.elim
theorem op_list (hK : Γ.K = X.K) : CallR X (.type "list") (rBlt Γ (opBlt .list)) := by
  intro pins s σ H xs us Q I rv ⟨E, μ, S, ds, rs, hx, h⟩
  unfold opBlt at h
  split at h <;> (try contradiction) <;> (try exact h.elim)
  match hx with
  | .cons (v := v) r .nil =>
    split at h
    next es hd =>
      obtain ⟨p, vs, e, hq, r', _⟩ := items_of rs r hd
      cases e
      exact call_list_of pins s σ H _ us Q I rv ⟨_, _, rfl, hK ▸ hq, fun l hl => qv_lst h rs r' hl⟩
    · exact h.elim
theorem op_all (hK : Γ.K = X.K) (hc : X.calm = true) : CallR X (.builtin "all") (rBlt Γ (opBlt .all)) := by
  intro pins s σ H xs us Q I rv ⟨E, μ, S, ds, rs, hx, h⟩
  unfold opBlt at h
  split at h <;> (try contradiction) <;> (try exact h.elim)
  next x =>
    match hx with
    | .cons (v := v) r .nil =>
      split at h
      · exact h.elim
      next es hn hd =>
        split at h
        next bs hb =>
          obtain ⟨p, vs, e, _, r', hq, _⟩ := items_of rs r hd
          cases e
          have e2 := r'.bls hb
          subst e2
          exact cr_all hc pins s σ H _ us Q I rv ⟨_, _, rfl, hK ▸ hq (fun z e => hn z e), qv h rs (.bl _)⟩
        · exact h.elim
      · exact h.elim
theorem op_any (hK : Γ.K = X.K) (hc : X.calm = true) : CallR X (.builtin "any") (rBlt Γ (opBlt .any)) := by
  intro pins s σ H xs us Q I rv ⟨E, μ, S, ds, rs, hx, h⟩
  unfold opBlt at h
  split at h <;> (try contradiction) <;> (try exact h.elim)
  next x =>
    match hx with
    | .cons (v := v) r .nil =>
      split at h
      · exact h.elim
      next es hn hd =>
        split at h
        next bs hb =>
          obtain ⟨p, vs, e, _, r', hq, _⟩ := items_of rs r hd
          cases e
          have e2 := r'.bls hb
          subst e2
          exact cr_any hc pins s σ H _ us Q I rv ⟨_, _, rfl, hK ▸ hq (fun z e => hn z e), qv h rs (.bl _)⟩
        · exact h.elim
      · exact h.elim
theorem sum_tup (hc : X.calm = true) : CallR X (.builtin "sum") (fun vs H Q => ∃ (a : Addr) (ns : List Int), vs = [V.ref a] ∧ SqT X.K H a (ns.map V.int) ∧ Q (.int ns.sum) H) := by
  intro pins s σ H vs us Q I r h
  obtain ⟨a, ns, rfl, hs, q⟩ := h
  obtain ⟨its, rv, hl, _⟩ := I.tuple hs
  rw [Vals.ref1 r]
  have hi := rv.ints
  obtain ⟨xs, e⟩ := hi.allInts.items
  have hn : numsOf (intItems xs).toList = ns := by rw [← e]; exact hi.numsOf
  rw [nums_intItems] at hn
  rw [e] at hl
  refine PySem.W.ktm_sumG (I.ok.hd hc) hl fun h' tk t' hk => ?_
  rw [preSum_eq, List.take_of_length_le (by simp), hn]
  exact ⟨.int _, H, I.kept hk, ⟨_, rfl⟩, q⟩
theorem op_sum (hK : Γ.K = X.K) (hc : X.calm = true) : CallR X (.builtin "sum") (rBlt Γ (opBlt .sum)) := by
  intro pins s σ H xs us Q I rv ⟨E, μ, S, ds, rs, hx, h⟩
  unfold opBlt at h
  split at h <;> (try contradiction) <;> (try exact h.elim)
  next x =>
    match hx with
    | .cons (v := v) r .nil =>
      split at h
      · split at h
        next bs hb =>
          cases r with
          | tup q r' =>
            have e2 := r'.ints hb
            subst e2
            exact sum_tup hc pins s σ H _ us Q I rv ⟨_, _, rfl, hK ▸ q, qv h rs (.int _)⟩
        · exact h.elim
      next es hn hd =>
        split at h
        next bs hb =>
          obtain ⟨p, vs, e, _, r', hq, _⟩ := items_of rs r hd
          cases e
          have e2 := r'.ints hb
          subst e2
          exact cr_sum hc pins s σ H _ us Q I rv ⟨_, _, rfl, hK ▸ hq (fun z e => hn z e), qv h rs (.int _)⟩
        · exact h.elim
      · exact h.elim
theorem maxL_ok : ∀ (ns : List Int) (i : Int), maxL i ns ∈ i :: ns ∧ ∀ y ∈ i :: ns, y ≤ maxL i ns
  | [], i => by simp [maxL]
  | n :: ns, i => by
    have ih := maxL_ok ns (if i < n then n else i)
    have e : maxL i (n :: ns) = maxL (if i < n then n else i) ns := rfl
    rw [e]
    refine ⟨?_, fun y hy => ?_⟩
    · rcases List.mem_cons.1 ih.1 with h | h
      · rw [h]; split <;> simp
      · simp [h]
    · have h0 := ih.2 (if i < n then n else i) (by simp)
      have q1 : i ≤ (if i < n then n else i) := by split <;> omega
      have q2 : n ≤ (if i < n then n else i) := by split <;> omega
      rcases List.mem_cons.1 hy with h | hy
      · rw [h]; exact Int.le_trans q1 h0
      · rcases List.mem_cons.1 hy with h | hy
        · rw [h]; exact Int.le_trans q2 h0
        · exact ih.2 y (by simp [hy])
theorem minL_ok : ∀ (ns : List Int) (i : Int), minL i ns ∈ i :: ns ∧ ∀ y ∈ i :: ns, minL i ns ≤ y
  | [], i => by simp [minL]
  | n :: ns, i => by
    have ih := minL_ok ns (if n < i then n else i)
    have e : minL i (n :: ns) = minL (if n < i then n else i) ns := rfl
    rw [e]
    refine ⟨?_, fun y hy => ?_⟩
    · rcases List.mem_cons.1 ih.1 with h | h
      · rw [h]; split <;> simp
      · simp [h]
    · have h0 := ih.2 (if n < i then n else i) (by simp)
      have q1 : (if n < i then n else i) ≤ i := by split <;> omega
      have q2 : (if n < i then n else i) ≤ n := by split <;> omega
      rcases List.mem_cons.1 hy with h | hy
      · rw [h]; exact Int.le_trans h0 q1
      · rcases List.mem_cons.1 hy with h | hy
        · rw [h]; exact Int.le_trans h0 q2
        · exact ih.2 y (by simp [hy])
theorem leStr_trans (a b c : Str) (h1 : leStr a b = true) (h2 : leStr b c = true) : leStr a c = true := by
  simp only [leStr, Bool.not_eq_true', decide_eq_false_iff_not] at *
  exact List.le_trans h1 h2
theorem leStr_total (a b : Str) : (leStr a b || leStr b a) = true := by
  simp only [leStr, Bool.or_eq_true, Bool.not_eq_true', decide_eq_false_iff_not]
  exact List.le_total _ _
theorem leStr_antisymm {a b : Str} (h1 : leStr a b = true) (h2 : leStr b a = true) : a = b := by
  simp only [leStr, Bool.not_eq_true', decide_eq_false_iff_not] at *
  have := List.le_antisymm h1 h2
  cases a; cases b
  simp only [Array.toList_inj] at this
  simp_all
theorem rising_pw : ∀ (l : List Str) (p : Str), PyProof.Rows.risingS p l = true → (p :: l).Pairwise (fun a b => leStr a b = true)
  | [], p, _ => by simp
  | x :: r, p, h => by
    simp only [PyProof.Rows.risingS, Bool.and_eq_true, Bool.not_eq_true', PyProof.Rows.ltCps_eq, decide_eq_false_iff_not] at h
    have ih := rising_pw r x h.2
    have hpx : leStr p x = true := by simp only [leStr, Bool.not_eq_true', decide_eq_false_iff_not]; exact h.1
    refine List.pairwise_cons.2 ⟨fun y hy => ?_, ih⟩
    rcases List.mem_cons.1 hy with rfl | hy
    · exact hpx
    · exact leStr_trans _ _ _ hpx ((List.pairwise_cons.1 ih).1 y hy)
theorem sortStr_eq {ys xs : List Str} (hp : ys.Perm xs) (hs : PyProof.Rows.sortedS ys = true) : ys = sortStr xs := by
  have h1 : ys.Pairwise (fun a b => leStr a b = true) := by
    cases ys with
    | nil => simp
    | cons y r => exact rising_pw r y hs
  have h2 : (sortStr xs).Pairwise (fun a b => leStr a b = true) := List.pairwise_mergeSort leStr_trans leStr_total xs
  exact List.Perm.eq_of_pairwise (le := fun a b => leStr a b = true) (fun a b _ _ q r => leStr_antisymm q r) h1 h2 (hp.trans (List.mergeSort_perm xs leStr).symm)
theorem op_max (hK : Γ.K = X.K) (hc : X.calm = true) : CallR X (.builtin "max") (rBlt Γ (opBlt .max)) := by
  intro pins s σ H xs us Q I rv ⟨E, μ, S, ds, rs, hx, h⟩
  unfold opBlt at h
  split at h <;> (try contradiction) <;> (try exact h.elim)
  next i j =>
    match hx with
    | .cons (.int i) (.cons (.int j) .nil) => exact call_max2 hc pins s σ H _ us Q I rv ⟨i, j, rfl, qv h rs (.int _)⟩
  next x _ =>
    match hx with
    | .cons (v := v) r .nil =>
      split at h
      · exact h.elim
      next es hn hd =>
        split at h
        next i ns hb =>
          obtain ⟨p, vs, e, _, r', hq, _⟩ := items_of rs r hd
          cases e
          have e2 := r'.ints hb
          subst e2
          refine cr_max hc pins s σ H _ us Q I rv ⟨_, _, rfl, hK ▸ hq (fun z e => hn z e), by simp, fun m h1 h2 => ?_⟩
          have ok := maxL_ok ns i
          have e3 : m = maxL i ns := Int.le_antisymm (ok.2 m h1) (h2 _ ok.1)
          subst e3
          exact qv h rs (.int _)
        · exact h.elim
      · exact h.elim
theorem op_min (hK : Γ.K = X.K) (hc : X.calm = true) : CallR X (.builtin "min") (rBlt Γ (opBlt .min)) := by
  intro pins s σ H xs us Q I rv ⟨E, μ, S, ds, rs, hx, h⟩
  unfold opBlt at h
  split at h <;> (try contradiction) <;> (try exact h.elim)
  next i j =>
    match hx with
    | .cons (.int i) (.cons (.int j) .nil) => exact call_min2 hc pins s σ H _ us Q I rv ⟨i, j, rfl, qv h rs (.int _)⟩
  next i j k =>
    match hx with
    | .cons (.int i) (.cons (.int j) (.cons (.int k) .nil)) =>
      refine call_min3Nu hc pins s σ H _ us Q I rv ⟨.int i, .int j, .int k, .int (min3 i j k), rfl, ?_, qv h rs (.int _)⟩
      simp only [nuMin3, nuMin2, nuLt, nuCB, min3]
      by_cases h1 : j < i
      · by_cases h2 : k < j <;> simp [nuLt, nuCB, h1, h2]
      · by_cases h2 : k < i <;> simp [nuLt, nuCB, h1, h2]
  next x _ =>
    match hx with
    | .cons (v := v) r .nil =>
      split at h
      · exact h.elim
      next es hn hd =>
        split at h
        next i ns hb =>
          obtain ⟨p, vs, e, _, r', hq, _⟩ := items_of rs r hd
          cases e
          have e2 := r'.ints hb
          subst e2
          refine cr_min hc pins s σ H _ us Q I rv ⟨_, _, rfl, hK ▸ hq (fun z e => hn z e), by simp, fun m h1 h2 => ?_⟩
          have ok := minL_ok ns i
          have e3 : m = minL i ns := Int.le_antisymm (h2 _ ok.1) (ok.2 m h1)
          subst e3
          exact qv h rs (.int _)
        · exact h.elim
      · exact h.elim
theorem op_sorted (hK : Γ.K = X.K) (hc : X.calm = true) : CallR X (.builtin "sorted") (rBlt Γ (opBlt .sorted)) := by
  intro pins s σ H xs us Q I rv ⟨E, μ, S, ds, rs, hx, h⟩
  unfold opBlt at h
  split at h <;> (try contradiction) <;> (try exact h.elim)
  next x =>
    match hx with
    | .cons (v := v) r .nil =>
      split at h
      · exact h.elim
      next es hn hd =>
        split at h
        next ss hb =>
          split at h
          next hl =>
            obtain ⟨p, vs, e, _, r', hq, _⟩ := items_of rs r hd
            cases e
            have e2 := r'.strs hb
            subst e2
            refine cr_sortedS pins s σ H _ us Q I rv ⟨_, _, rfl, hK ▸ hq (fun z e => hn z e), hl, fun ys p hp hs hn2 => ?_⟩
            rw [sortStr_eq hp hs]
            exact qv_lst h rs (.ofStrs _) hn2
          · exact h.elim
        · exact h.elim
      · split at h
        next kvs hk =>
          split at h
          next ks hks =>
            split at h
            next hl =>
              obtain ⟨a, vs, e, e2, e3⟩ := dic_of rs r hk
              cases e
              refine call_sortedD hc pins s σ H _ us Q I rv ⟨a, vs, ks, rfl, .inl e2, by rw [← e3.1]; exact keysS_eq hks, hl, fun ys p hp hs hn2 => ?_⟩
              rw [sortStr_eq hp hs]
              exact qv_lst h rs (.ofStrs _) hn2
            · exact h.elim
          · exact h.elim
        · exact h.elim
theorem op_gcd : CallR X (.builtin "math.gcd") (rBlt Γ (opBlt .gcd)) := by
  intro pins s σ H xs us Q I rv ⟨E, μ, S, ds, rs, hx, h⟩
  unfold opBlt at h
  split at h <;> (try contradiction) <;> (try exact h.elim)
  next i j =>
    match hx with
    | .cons (.int i) (.cons (.int j) .nil) => exact cr_gcd pins s σ H _ us Q I rv ⟨i, j, rfl, qv h rs (.int _)⟩
/-- which of them want that no exception is handled -/
def bltC : Blt → Bool
  | .all => true | .any => true | .sum => true | .max => true | .min => true | .sorted => true
  | _ => false
theorem op_blt (hK : Γ.K = X.K) (b : Blt) (hb : bltC b = true → X.calm = true) : CallR X (bltV b) (rBlt Γ (opBlt b)) := by
  cases b with
  | len => exact op_len hK
  | abs => exact op_abs
  | int => exact op_int
  | str => exact op_str
  | tuple => exact op_tuple hK
  | list => exact op_list hK
  | all => exact op_all hK (hb rfl)
  | any => exact op_any hK (hb rfl)
  | sum => exact op_sum hK (hb rfl)
  | max => exact op_max hK (hb rfl)
  | min => exact op_min hK (hb rfl)
  | sorted => exact op_sorted hK (hb rfl)
  | gcd => exact op_gcd

/-! ### isinstance -/
def tyN : Ty → String
  | .int => "int" | .bool => "bool" | .str => "str" | .tuple => "tuple" | .list => "list"
theorem sqT_ty {K : PySem.W.Frag} {H : Hp} {a : Addr} {xs : List V} (h : SqT K H a xs) : TyX K H (.ref a) (.type "tuple") := by
  rcases h with (h | ⟨o, h⟩) | ⟨o, _, _, h, c, _⟩
  · exact .base (.tup h)
  · exact .fTuple h
  · exact .kTuple h c
theorem sqF_ty {K : PySem.W.Frag} {H : Hp} {a : Addr} {xs : List V} (h : SqF K H a xs) : TyX K H (.ref a) (.type "list") := by
  rcases h with ⟨o, h⟩ | ⟨o, _, _, h, c, _⟩
  · exact .base (.frz h)
  · exact .kList h c
theorem op_isi (hK : Γ.K = X.K) {μ : List Addr} {H : Hp} {S : Store} {d : D} {v : V} {t : Ty} {k : Bool} (rs : RepS Γ.K μ H S) (r : RepV Γ.K μ H d v) (h : isTy d t S = some k) :
    ∃ w, TyX X.K H v w ∧ PySem.W.kitOne X.K w (.type (tyN t)) = some k := by
  cases r with
  | non => simp only [isTy] at h; cases h; exact ⟨_, .base .non, by cases t <;> exact kit_ty (by decide +kernel)⟩
  | bl b => simp only [isTy] at h; cases h; exact ⟨_, .base (.bl _), by cases t <;> exact kit_ty (by decide +kernel)⟩
  | int i => simp only [isTy] at h; cases h; exact ⟨_, .base (.int _), by cases t <;> exact kit_ty (by decide +kernel)⟩
  | str z => simp only [isTy] at h; cases h; exact ⟨_, .base (.str _), by cases t <;> exact kit_ty (by decide +kernel)⟩
  | tup q r => simp only [isTy] at h; cases h; exact ⟨_, sqT_ty (hK ▸ q), by cases t <;> exact kit_ty (by decide +kernel)⟩
  | rol q r => simp only [isTy] at h; cases h; exact ⟨_, sqF_ty (hK ▸ q), by cases t <;> exact kit_ty (by decide +kernel)⟩
  | ref q =>
    simp only [isTy] at h
    split at h
    next ds hd =>
      cases h
      obtain ⟨b, vs, e1, e2, e3⟩ := rs.lst hd
      rw [q] at e1; cases e1
      exact ⟨_, .base (.lst e2), by cases t <;> exact kit_ty (by decide +kernel)⟩
    next kvs hd =>
      cases h
      obtain ⟨b, vs, e1, e2, e3⟩ := rs.dic hd
      rw [q] at e1; cases e1
      exact ⟨_, .base (.dK e2), by cases t <;> exact kit_ty (by decide +kernel)⟩
    · cases h

/-! ### methods -/
def mthT : Mth → String
  | .append | .pop | .extend => "list"
  | .update => "dict"
  | _ => "str"
def mthN : Mth → String
  | .append => "append" | .pop => "pop" | .extend => "extend" | .join => "join" | .split => "split" | .partition => "partition" | .startswith => "startswith" | .update => "update"
def mthId : Mth → String
  | .append => "list.append" | .pop => "list.pop" | .extend => "list.extend" | .join => "str.join" | .split => "str.split" | .partition => "str.partition" | .startswith => "str.startswith" | .update => "dict.update"
theorem length_mergeK : ∀ (more kvs : List (Key × V)), (mergeK kvs more).length ≤ kvs.length + more.length
  | [], kvs => by simp [mergeK]
  | kv :: more, kvs => by
    have h1 := length_mergeK more (putK kvs kv.1 kv.2)
    have h2 := length_putK kvs kv.1 kv.2
    show (mergeK (putK kvs kv.1 kv.2) more).length ≤ _
    simp only [List.length_cons]
    omega
theorem RepKV.merge {K : PySem.W.Frag} {μ : List Addr} {H : Hp} : ∀ {more : List (Key × D)} {ms : List (Key × V)} {kvs : List (Key × D)} {vs : List (Key × V)}, RepKV K μ H more ms → RepKV K μ H kvs vs → RepKV K μ H (mergeD kvs more) (mergeK vs ms)
  | [], [], kvs, vs, _, r => r
  | (a, d) :: more, (b, v) :: ms, kvs, vs, ⟨h1, h2⟩, r => by
    simp only [List.map_cons, List.cons.injEq] at h1
    obtain ⟨rfl, h1⟩ := h1
    cases h2 with
    | cons rd h2 => exact RepKV.merge (more := more) (ms := ms) ⟨h1, h2⟩ (r.put rd)
  | [], _ :: _, _, _, ⟨h, _⟩, _ => by simp at h
  | _ :: _, [], _, _, ⟨h, _⟩, _ => by simp at h
theorem mt_update : MtR X "dict.update" (fun x xs H Q => ∃ (a b : Addr) (kvs more : List (Key × V)), x = V.ref a ∧ xs = [V.ref b] ∧ a ≠ b ∧ H a = some (.dK kvs) ∧ H b = some (.dK more) ∧ kvs.length + more.length ≤ sizeLine ∧ Q .non (upd H a (.dK (mergeK kvs more)))) := by
  intro pins s σ H x xs v us Q I rx rxs ⟨a, b, kvs, more, ex, exs, hab, ha, hb, hl, q⟩
  subst ex exs
  cases rx
  obtain ⟨u, eu, ru⟩ := rxs.one
  subst eu
  cases ru
  obtain ⟨z1, d1, vs, r1, dd1⟩ := dk_of I.hok ha
  obtain ⟨z2, d2, rs, r2, dd2⟩ := dk_of I.hok hb
  refine call_meetsIn PySem.F.slot_dict_update dd1.typeIs PySem.F.entry_dict_update (PySem.F.args_dict_update_2 _ _) (meets_dict_update (mixKind X.prog X.w) a b hab d2) ⟨vs, rs, dd1, dd2, by rw [← r1.length, ← r2.length]; exact hl, fun h' dd' _ hs => ?_⟩
  have he : ∃ q, h'.get? a = some q := let ⟨q, _, _, hq, _⟩ := dd'; ⟨q, hq⟩
  have hz : (mergeK kvs more).length ≤ sizeLine := Nat.le_trans (length_mergeK _ _) hl
  exact ⟨.non, _, d_write I (by rw [ha]; exact True.intro) hs he (dk_new hz d1 (r2.merge r1) dd'), rfl, q⟩
def rMth (Γ : Gd) (f : D → List D → Store → R D) : V → List V → Hp → VK → Prop := fun x xs H Q => ∃ E μ S d ds, RepS Γ.K μ H S ∧ RepV Γ.K μ H d x ∧ RepVs Γ.K μ H ds xs ∧ Aft Γ E μ H (QV Γ Q) (f d ds S)
theorem op_mth (hK : Γ.K = X.K) (m : Mth) : MtR X (mthId m) (rMth Γ (opMth m)) := by
  intro pins s σ H x xs v us Q I rx rv ⟨E, μ, S, d, es, rs, hx, hxs, h⟩
  unfold opMth at h
  split at h
  next a =>
    cases hx
    split at h
    · match hxs with
      | .cons (v := w) r .nil =>
        unfold opJoin at h
        split at h
        next fs hf =>
          split at h
          next ys hy =>
            split at h
            next hl =>
              obtain ⟨p, vs, e, hq, r', _, _⟩ := items_of rs r hf
              cases e
              have e2 := r'.strs hy
              subst e2
              exact mt_join pins s σ H _ _ v us Q I rx rv ⟨_, _, _, rfl, rfl, hK ▸ hq, hl, qv h rs (.str _)⟩
            · exact h.elim
          · exact h.elim
        · exact h.elim
    · match hxs with
      | .cons (.str b) .nil =>
        split at h
        next hl => exact mt_split pins s σ H _ _ v us Q I rx rv ⟨_, _, rfl, rfl, hl.1, hl.2, fun p hp => qv_lst h rs (.ofStrs _) hp⟩
        · exact h.elim
    · match hxs with
      | .cons (.str b) .nil =>
        split at h
        next hl => exact mt_partition pins s σ H _ _ v us Q I rx rv ⟨_, _, rfl, rfl, hl.1, hl.2, fun p hp => qv_tup h rs (.cons (.str _) (.cons (.str _) (.cons (.str _) .nil))) hp⟩
        · exact h.elim
    · match hxs with
      | .cons (.str b) .nil => exact mt_startswith pins s σ H _ _ v us Q I rx rv ⟨_, _, rfl, rfl, qv h rs (.bl _)⟩
    · exact h.elim
  next n =>
    cases hx with
    | ref q =>
      split at h
      next ds hd =>
        obtain ⟨b, vs, e1, e2, e3⟩ := rs.lst hd
        rw [q] at e1; cases e1
        split at h
        · match hxs with
          | .cons r .nil =>
            split at h
            next hl =>
              refine mt_append pins s σ H _ _ v us Q I rx rv ⟨_, _, _, rfl, rfl, e2, by rw [← e3.length]; exact hl, ?_⟩
              exact h μ _ (Ext.set e2 (List.mem_of_getElem? q)) (rs.set q e2 (e3.append (.cons r .nil))) _ .non
            · exact h.elim
        · match hxs with
          | .nil =>
            split at h
            next y hy =>
              obtain ⟨w, hw, rw'⟩ := e3.get hy
              rw [e3.length] at hw
              refine mt_pop pins s σ H _ _ v us Q I rx rv ⟨_, _, _, rfl, rfl, e2, hw, ?_⟩
              have ex := Ext.set (vs := vs.dropLast) e2 (List.mem_of_getElem? q)
              exact h μ _ ex (rs.set q e2 e3.dropLast) _ (rw'.mono ex)
            · exact h.elim
        · match hxs with
          | .cons (.ref q2) .nil =>
            split at h
            next fs hf =>
              obtain ⟨c, ws, f1, f2, f3⟩ := rs.lst hf
              rw [q2] at f1; cases f1
              split at h
              next hl =>
                refine mt_extend pins s σ H _ _ v us Q I rx rv ⟨_, _, _, _, rfl, rfl, e2, f2, by rw [← e3.length, ← f3.length]; exact hl, ?_⟩
                exact h μ _ (Ext.set e2 (List.mem_of_getElem? q)) (rs.set q e2 (e3.append f3)) _ .non
              · exact h.elim
            · exact h.elim
        · exact h.elim
      next kvs hd =>
        obtain ⟨b, vs, e1, e2, e3⟩ := rs.dic hd
        rw [q] at e1; cases e1
        split at h
        · match hxs with
          | .cons (.ref q2) .nil =>
            split at h
            next more hf =>
              obtain ⟨c, ws, f1, f2, f3⟩ := rs.dic hf
              rw [q2] at f1; cases f1
              split at h
              next hl =>
                have hne : _ ≠ _ := fun e => hl.1 ((List.getElem_inj rs.nd).mp ((List.getElem?_eq_some_iff.mp q).2.trans (e.trans (List.getElem?_eq_some_iff.mp q2).2.symm)))
                refine mt_update pins s σ H _ _ v us Q I rx rv ⟨_, _, _, _, rfl, rfl, hne, e2, f2, by rw [← e3.length, ← f3.length]; exact hl.2, ?_⟩
                exact h μ _ (Ext.setC e2 trivial (List.mem_of_getElem? q)) (rs.setD q e2 (f3.merge e3)) _ .non
              · exact h.elim
            · exact h.elim
        · exact h.elim
      · exact h.elim
  · exact h.elim
theorem mth_ty (hK : Γ.K = X.K) {μ : List Addr} {H : Hp} {S : Store} {m : Mth} {d : D} {v : V} (rs : RepS Γ.K μ H S) (r : RepV Γ.K μ H d v) (h : rcvOk m d S = true) : tyV X.K (mthT m) v H := by
  have l : ∀ {n : Nat}, RepV Γ.K μ H (.ref n) v → (match S[n]? with | some (.lst _) => true | _ => false) = true → tyV X.K "list" v H := fun r h => by
    split at h
    next ds hd =>
      cases r with
      | ref q =>
        obtain ⟨b, vs, e1, e2, e3⟩ := rs.lst hd
        rw [q] at e1; cases e1
        exact .inl ⟨rfl, vs, SqL.of e2⟩
    · cases h
  cases m with
  | append => cases d <;> first | exact l r h | cases h
  | pop => cases d <;> first | exact l r h | cases h
  | extend => cases d <;> first | exact l r h | cases h
  | join => cases d <;> first | (cases r; exact rfl) | cases h
  | split => cases d <;> first | (cases r; exact rfl) | cases h
  | partition => cases d <;> first | (cases r; exact rfl) | cases h
  | startswith => cases d <;> first | (cases r; exact rfl) | cases h
  | update =>
    cases d with
    | ref n =>
      unfold rcvOk at h
      simp only at h
      split at h
      next kvs hd =>
        cases r with
        | ref q =>
          obtain ⟨b, vs, e1, e2, e3⟩ := rs.dic hd
          rw [q] at e1; cases e1
          exact .inr (.inr (.inl ⟨rfl, .inl ⟨vs, e2⟩⟩))
      · cases h
    | _ => cases h

/-! ### o[i] = v -/
def rSet (Γ : Gd) : TSet := fun o i v H Q => ∃ E μ S do' di dv, RepS Γ.K μ H S ∧ RepV Γ.K μ H do' o ∧ RepV Γ.K μ H di i ∧ RepV Γ.K μ H dv v ∧ Aft Γ E μ H (fun _ _ _ H' => Q H') (opSet do' di dv S)
theorem op_set (hu : X.A.units + 1 < cLine) : PSet X (rSet Γ) := by
  intro pins s σ H o i v ov iv u Q I ro ri rv ⟨E, μ, S, d1, d2, d3, rs, h1, h2, h3, h⟩
  unfold opSet at h
  split at h
  next kvs hd =>
    split at h
    next n k hk =>
      split at h
      next hl =>
        obtain ⟨a, vs, rfl, e2, e3⟩ := dic_of rs h1 hd
        cases h1 with
        | ref q =>
          have ey := key_of h2 hk
          subst ey
          refine set_dict hu pins s σ H _ _ _ ov iv u Q I ro ri rv ⟨a, _, rfl, DPut.k e2 (by rw [← e3.length]; exact hl), ?_⟩
          exact h μ _ (Ext.setC e2 trivial (List.mem_of_getElem? q)) (rs.setD q e2 (e3.put h3))
      · exact h.elim
    · exact h.elim
  · split at h
    next n k =>
      cases h1 with
      | ref q =>
        cases h2
        split at h
        next ds hd =>
          split at h
          next j hj =>
            obtain ⟨b, vs, e1, e2, e3⟩ := rs.lst hd
            rw [q] at e1; cases e1
            refine set_list pins s σ H _ _ _ ov iv u Q I ro ri rv ⟨_, _, _, j, rfl, rfl, e2, by rw [← e3.length]; exact hj, ?_⟩
            exact h μ _ (Ext.set e2 (List.mem_of_getElem? q)) (rs.set q e2 (e3.set h3 j))
          · exact h.elim
        · exact h.elim
    · exact h.elim
/-- name op= e on things that do not change -/
theorem op_aug (o : Operator) : OpR X (inplaceOp o) (rBin Γ (opAug o)) := by
  intro pins s σ H x y v u Q I rx ry ⟨E, μ, S, dx, dy, rs, hx, hy, h⟩
  unfold opAug at h
  split at h
  · cases hx; cases hy
    exact iop_add pins s σ H _ _ v u Q I rx ry ⟨_, _, rfl, rfl, qv h rs (.int _)⟩
  · cases hx; cases hy
    exact iop_sub pins s σ H _ _ v u Q I rx ry ⟨_, _, rfl, rfl, qv h rs (.int _)⟩
  · cases hx; cases hy
    split at h
    next hm =>
      simp only [Bool.or_eq_true, decide_eq_true_eq] at hm
      refine iop_mul pins s σ H _ _ v u Q I rx ry ⟨_, _, rfl, rfl, ?_, qv h rs (.int _)⟩
      rcases hm with hm | hm
      · exact .inl ⟨by omega, by omega⟩
      · exact .inr ⟨by omega, by omega⟩
    · exact h.elim
  · cases hx; cases hy
    split at h
    next hm => exact iop_fdiv pins s σ H _ _ v u Q I rx ry ⟨_, _, rfl, rfl, hm, qv h rs (.int _)⟩
    · exact h.elim
  · cases hx; cases hy
    split at h
    next hm => exact iop_mod pins s σ H _ _ v u Q I rx ry ⟨_, _, rfl, rfl, hm, qv h rs (.int _)⟩
    · exact h.elim
  · cases hx; cases hy
    split at h
    next hm => exact iop_add_str pins s σ H _ _ v u Q I rx ry ⟨_, _, rfl, rfl, hm, qv h rs (.str _)⟩
    · exact h.elim
  · exact h.elim
end
end PD
end

section
set_option linter.all false
set_option maxRecDepth 100000
set_option maxHeartbeats 2000000
/-! PDexc: except clauses with and without names, own errors made and asked, at the hand layer. -/
namespace PD
open PySem L2 PySem.Spec PyProof.Rows

/-! ### several except clauses, each with or without a name -/
structure Cl where
  c : Value
  i : Option Nat
  ts : Addr → Value → Option Addr → TS
def endsO (D : Ends) : Option Nat → Ends
  | none => D
  | some i => ⟨fun σ H => D.nx (σ.set i none) H, D.rt, fun σ H => D.bk (σ.set i none) H, fun σ H => D.ct (σ.set i none) H⟩
def atO (σ : L2.St) (a : Addr) : Option Nat → L2.St
  | none => σ
  | some i => σ.set i (some (.ref a))
/-- what the clauses ask, one behind the other -/
def wCls (K : PySem.W.Frag) (Wo : WX) (D : Ends) : List Cl → WX
  | [] => Wo
  | q :: r => fun cls d σ H => ∃ b, PySem.W.exmOne K cls q.c = some b ∧ (b = true → ∀ a, H a = none → q.ts a cls d (endsO D q.i) (atO σ a q.i) H) ∧ (b = false → wCls K Wo D r cls d σ H)
/-- a suite keeps what it is asked -/
def SuOk (X : Cx) (su : List PySem.Stmt) (ts : Addr → Value → Option Addr → TS) : Prop :=
  ∀ (a : Addr) (oe : Obj) (cls : Value) (d : Option Addr) (pn : List (Addr × Obj)), L2N.Zn cls d oe → (∃ fv, oe.data = .fields fv) → PSs (X.suite a ((a, oe) :: pn)) su (ts a cls d)
inductive ClsOk (X : Cx) : List ExceptHandler → List Cl → Prop
  | nil : ClsOk X [] []
  | bare {x : Str} {c : Value} {ts : Addr → Value → Option Addr → TS} {b0 : PySem.Stmt} {bs : List PySem.Stmt} {p1 p2 : Pos} {g : List ExceptHandler} {l : List Cl} (hc : Names X x c) (hs : SuOk X (b0 :: bs) ts) (r : ClsOk X g l) :
      ClsOk X (.ExceptHandler (some (.Name x p1)) none (b0 :: bs) p2 :: g) (⟨c, none, ts⟩ :: l)
  | named {x n : Str} {c : Value} {i : Nat} {ts : Addr → Value → Option Addr → TS} {b0 : PySem.Stmt} {bs : List PySem.Stmt} {p1 p2 : Pos} {g : List ExceptHandler} {l : List Cl} (hc : Names X x c) (hi : X.N[i]? = some n) (hl : X.env.kindOf n = some .local) (hs : SuOk X (b0 :: bs) ts) (r : ClsOk X g l) :
      ClsOk X (.ExceptHandler (some (.Name x p1)) (some n) (b0 :: bs) p2 :: g) (⟨c, some i, ts⟩ :: l)

section
variable {X : Cx} {pins : List (Addr × Obj)} {D : Ends} {Wo : WX}
theorem end_bare {a : Addr} {p : Addr × Obj} {f : Flow} {s : Shared} (ok : X.Ok) (h : SP (X.suite a (p :: (X.pn ++ pins))) [] D f s) : SP X pins D f s := by
  cases f with
  | next => let ⟨σ, H, I, q⟩ := h; exact ⟨σ, H, I.unsuite ok, q⟩
  | brk => let ⟨σ, H, I, q⟩ := h; exact ⟨σ, H, I.unsuite ok, q⟩
  | cont => let ⟨σ, H, I, q⟩ := h; exact ⟨σ, H, I.unsuite ok, q⟩
  | ret u => let ⟨v, σ, H, I, r, q⟩ := h; exact ⟨v, σ, H, I.unsuite ok, r, q⟩
theorem end_named {a : Addr} {p : Addr × Obj} {f : Flow} {s : Shared} {i : Nat} {n : Str} {p2 : Pos} (ok : X.Ok) (hN : X.N.Nodup) (hi : X.N[i]? = some n) (hl : X.env.kindOf n = some .local) (h : SP (X.suite a (p :: (X.pn ++ pins))) [] (endsO D (some i)) f s) :
    wpAny (model X.prog X.w) X.A (do bindName X.env n .none; unbindBehindTheSuite X.env n p2) (fun _ s' => SP X pins D f s') X.xe s := by
  cases f with
  | next => let ⟨σ, H, I, q⟩ := h; exact gone_ok (I.unsuite ok) hN hi hl fun s' J => ⟨_, _, J, q⟩
  | brk => let ⟨σ, H, I, q⟩ := h; exact gone_ok (I.unsuite ok) hN hi hl fun s' J => ⟨_, _, J, q⟩
  | cont => let ⟨σ, H, I, q⟩ := h; exact gone_ok (I.unsuite ok) hN hi hl fun s' J => ⟨_, _, J, q⟩
  | ret u => let ⟨v, σ, H, I, r, q⟩ := h; exact gone_ok (I.unsuite ok) hN hi hl fun s' J => ⟨v, _, _, J, r, q⟩
theorem end_try {f : Flow} {s : Shared} {pn : List (Addr × Obj)} {xe : Value → Shared → Prop} (ok : X.Ok) (h : SP (X.tr (X.pn ++ pins) xe) [] D f s) : SP X pins D f s := by
  cases f with
  | next => let ⟨σ, H, I, q⟩ := h; exact ⟨σ, H, I.ofTry ok, q⟩
  | brk => let ⟨σ, H, I, q⟩ := h; exact ⟨σ, H, I.ofTry ok, q⟩
  | cont => let ⟨σ, H, I, q⟩ := h; exact ⟨σ, H, I.ofTry ok, q⟩
  | ret u => let ⟨v, σ, H, I, r, q⟩ := h; exact ⟨v, σ, H, I.ofTry ok, r, q⟩

/-- an exception that has come down to its frame -/
structure Down (X : Cx) (pins : List (Addr × Obj)) (a : Addr) (B : Heap) (sI s : Shared) (σ : L2.St) (H : Hp) (cls : Value) (d : Option Addr) (h : Heap) : Prop where
  inv : Inv X pins σ H sI
  gr : ∀ b o, sI.heap.get? b = some o → b ∉ frs X.stack → B.get? b = some o
  up : sI.heap.UpToSlots h
  fly : HandSPX.FlyingZ B (X.env :: X.outer) a (L2N.Zn cls d) h
  na : H a = none
  os : s.os = sI.os
  ag : AllBare s.gens
variable {a : Addr} {B : Heap} {sI s : Shared} {σ : L2.St} {H : Hp} {cls : Value} {d : Option Addr} {h : Heap}
theorem Down.here (w : Down X pins a B sI s σ H cls d h) : Inv X pins σ H { s with heap := h } := w.inv.landed (s' := { s with heap := h }) w.gr w.fly.1 w.up w.os w.ag
theorem Down.pin (w : Down X pins a B sI s σ H cls d h) (hst : X.stack = X.env :: X.outer) (hfr : X.env.frame = some X.env.locals) : ∃ oe, L2N.Zn cls d oe ∧ (∃ fv, oe.data = .fields fv) ∧ h.get? a = some oe ∧ Inv (X.suite a ((a, oe) :: (X.pn ++ pins))) [] σ H { s with heap := h } := by
  obtain ⟨oe, fv, e1, e2, e3⟩ := w.fly.there
  have off : a ∉ frs (X.env :: X.outer) := fun m => by
    obtain ⟨_, o, e, nf⟩ := w.fly.2.2.1.mem m
    rw [e1] at e
    exact nf _ ((Option.some.inj e) ▸ e3)
  refine ⟨oe, e2, ⟨fv, e3⟩, e1, w.here.suite e1 e3 w.na (fun z => off ?_) fun z => off ?_⟩
  · exact List.mem_filterMap.2 ⟨X.env, .head _, hfr.trans (congrArg some z.symm)⟩
  · obtain ⟨e, he, q⟩ := List.mem_filterMap.1 z
    exact List.mem_filterMap.2 ⟨e, .tail _ he, q⟩
theorem Down.again (w : Down X pins a B sI s σ H cls d h) {h' : Heap} (fl : HandSPX.FlyingZ B (X.env :: X.outer) a (L2N.Zn cls d) h') (up : h.UpToSlots h') : Down X pins a B sI s σ H cls d h' := ⟨w.inv, w.gr, w.up.trans up, fl, w.na, w.os, w.ag⟩
/-- no clause takes it -/
theorem Down.on (w : Down X pins a B sI s σ H cls d h) (hst : X.stack = X.env :: X.outer) (hfr : X.env.frame = some X.env.locals) (tk : L2N.Takes X Wo) (q : Wo cls d σ H) : wpAny (model X.prog X.w) X.A (handleBy (.ref a) X.env []) (SP X pins D) X.xe { s with heap := h } := by
  refine wpAny_handleBy_nil ?_
  obtain ⟨oe, fv, T, oT, tv, e1, e2, e3, e4, e5⟩ := w.fly.2.2.2
  unfold PySem.passOn
  refine wpAny_bind (wpAny_field e1 e3 e4 ?_)
  rw [if_neg (by simp)]
  have last : wpAny (model X.prog X.w) X.A (setFlight (.ref a) X.env.frame) (fun _ s4 => wpAny (model X.prog X.w) X.A (throw (.ref a) : Sem Flow) (SP X pins D) X.xe s4) X.xe { s with heap := h } := by
    rw [hfr]
    exact HandSPX.setFlight_upZ w.fly fun h' hh up => wpAny_throw (tk _ _ ⟨a, B, sI, pins, σ, H, cls, d, rfl, w.inv, w.gr, w.up.trans up, hst ▸ .inr (.inr hh), w.na, w.os, w.ag, q⟩)
  first
    | exact wpAny_bind (wpAny_pure (wpAny_bind last))
    | exact wpAny_bind last
theorem Down.clauses (hst : X.stack = X.env :: X.outer) (hfr : X.env.frame = some X.env.locals) (hN : X.N.Nodup) (tk : L2N.Takes X Wo) (w : Down X pins a B sI s σ H cls d h) :
    ∀ {g : List ExceptHandler} {l : List Cl}, ClsOk X g l → wCls X.K Wo D l cls d σ H → wpAny (model X.prog X.w) X.A (handleBy (.ref a) X.env g) (SP X pins D) X.xe { s with heap := h } := by
  have ok := w.inv.ok
  obtain ⟨oe, z, zf, eg, S3⟩ := w.pin hst hfr
  have look : ∀ {c : Value} {b : Bool}, PySem.W.exmOne X.K cls c = some b → PySem.W.Looks (model X.prog X.w) h (excMatches (.ref a) c) b := fun e =>
    PySem.W.exm_one w.here.kIn (fun A Q E s k q => wpAny_typeOf_ref (k _ _ eg) (z.1.symm ▸ q)) e
  have test : ∀ {x : Str} {c : Value} {p : Pos} {Q E : Value → Shared → Prop}, Names X x c → Q c { s with heap := h } → wpAny (model X.prog X.w) (X.A.mark (some (.ref a))) (eval (.Name x p) X.env) Q E { s with heap := h } := fun {x c p Q E} hc q => by
    obtain ⟨g1, g2, g3 | ⟨g3, g4, g5⟩⟩ := hc
    · exact ld_glob (X := X.suite a ((a, oe) :: (X.pn ++ pins))) S3 g1 g3 q g2
    · exact ld_blt (X := X.suite a ((a, oe) :: (X.pn ++ pins))) S3 g1 g3 g4 q g5 g2
  intro g l k
  induction k with
  | nil => exact fun q => w.on hst hfr tk q
  | @bare x c ts b0 bs p1 p2 g l hc hs r ih =>
    rintro ⟨b, e, yes, no⟩
    refine wpAny_handleBy_cons (codeAny_handlers_test (test hc ((look e).here ?_))) (by intro q; cases q)
    cases b with
    | false =>
      show wpAny _ X.A (handleBy (.ref a) X.env g) _ _ _
      exact ih (no rfl)
    | true =>
      refine codeAny_handlers_suite (HandSPX.lands_againZ w.fly fun h4 fl up => ?_)
      obtain ⟨o4, z4, f4, _, S4⟩ := (w.again fl up).pin hst hfr
      exact wpAny_mono ((hs a o4 cls d _ z4 f4).run [] _ _ H _ S4 (yes rfl a w.na)) (fun f s6 q => end_bare ok q) fun _ _ z => z.elim
  | @named x n c i ts b0 bs p1 p2 g l hc hi hl hs r ih =>
    rintro ⟨b, e, yes, no⟩
    refine wpAny_handleBy_cons (codeAny_handlers_test (test hc ((look e).here ?_))) (by intro q; cases q)
    cases b with
    | false =>
      show wpAny _ X.A (handleBy (.ref a) X.env g) _ _ _
      exact ih (no rfl)
    | true =>
      refine codeAny_handlers_suite_as (HandSPX.lands_againZ w.fly fun h4 fl up => ?_)
      obtain ⟨o4, z4, f4, _, S4⟩ := (w.again fl up).pin hst hfr
      refine store_ok (X := X.suite a ((a, o4) :: (X.pn ++ pins))) (v := .ref a) S4 hN hi (.inl hl) rfl (fun s5 S5 => ?_) (.inr hl)
      exact wpAny_mono ((hs a o4 cls d _ z4 f4).run [] s5 _ H _ S5 (yes rfl a w.na)) (fun f s6 q => end_named ok hN hi hl q) fun _ _ z => z.elim
end
theorem ps_try_cls {X : Cx} {body : List PySem.Stmt} {g0 : ExceptHandler} {gs : List ExceptHandler} {l : List Cl} {pos : Pos} {tb : WX → TS} {Wo : WX} (hst : X.stack = X.env :: X.outer) (hfr : X.env.frame = some X.env.locals) (hN : X.N.Nodup) (tk : L2N.Takes X Wo)
    (hb : ∀ (W : WX) (pn : List (Addr × Obj)) (xe : Value → Shared → Prop), L2N.Takes (X.tr pn xe) W → PassesOwn (model X.prog X.w) X.A X.env xe → PSs (X.tr pn xe) body (tb W)) (hh : ClsOk X (g0 :: gs) l) :
    PS X (.Try body (g0 :: gs) [] [] pos) (fun D σ H => tb (wCls X.K Wo D l) D σ H) := by
  refine ⟨fun pins s σ H D I q => ?_⟩
  have ok := I.ok
  have frm : X.A.frames = some (X.env :: X.outer) := hst ▸ ok.frames
  refine wpAny_Try_except (wpAny_mono ((hb (wCls X.K Wo D l) (X.pn ++ pins) (fun e s1 => wpAny (model X.prog X.w) X.A (noteFrame e X.env) (fun _ s2 => wpAny (model X.prog X.w) X.A (setFlight e none)
    (fun _ s3 => wpAny (model X.prog X.w) X.A (handleBy e X.env (g0 :: gs)) (SP X pins D) X.xe s3) X.xe s2) X.xe s1) (fun u s' xx => ?_) PassesOwn.looking).run [] s σ H D (I.toTry _) q) (fun f s1 z => ?_) fun _ _ z => z)
  · obtain ⟨a, B, sI, pins', σ', H', cls, d, rfl, J, nb, up, sky, na, os, ag, w⟩ := xx
    rw [show (X.tr (X.pn ++ pins) _).stack = X.stack from rfl, hst] at sky
    exact L2N.Sky.land L2N.Zn.steady frm hfr sky fun h3 fl up3 => Down.clauses hst hfr hN tk ⟨J.ofTry ok, nb, up.trans up3, fl, na, os, ag⟩ hh w
  · have z' := end_try (pn := []) ok z
    cases f with
    | next => let ⟨σ', H', J, q'⟩ := z'; exact wpAny_execs_nil ⟨σ', H', J, q'⟩
    | brk => exact z'
    | cont => exact z'
    | ret u => exact z'
end PD
end

section
set_option linter.all false
set_option maxRecDepth 100000
set_option maxHeartbeats 4000000
/-! PDexc2: own errors made, with one field or none; what isinstance tells of a caught one. -/
namespace PD
open PySem L2 PySem.Spec PyProof.Rows

abbrev veL : List Value := [.type "ValueError", .type "Exception", .type "BaseException", .type "object"]
/-- what the written part says of an own error class -/
structure XcC (K : PySem.W.Frag) (C : Addr) : Prop where
  kC : PySem.W.keepIn K (.ref C) = true
  tyC : PySem.W.typeIn K (.ref C) = some (.type "type")
  xf : XfC K C
  ha : PySem.W.findIn K (.ref C) "__class__" = some (some (.builtin "object.__class__"))
  hm : PySem.W.mroIn K C (.type "object") = some true
  hn : PySem.W.specialIn K (.builtin "object.__class__") "__get__" = some (some (.builtin "getset_descriptor.__get__"))
  ht : PySem.W.takesIn K (.builtin "object.__class__") = some true
def xcB (K : PySem.W.Frag) (C : Addr) : Bool := PySem.W.keepIn K (.ref C) && (decide (PySem.W.typeIn K (.ref C) = some (.type "type")) && (xfB K C && (decide (PySem.W.findIn K (.ref C) "__class__" = some (some (.builtin "object.__class__"))) &&
  (decide (PySem.W.mroIn K C (.type "object") = some true) && (decide (PySem.W.specialIn K (.builtin "object.__class__") "__get__" = some (some (.builtin "getset_descriptor.__get__"))) && decide (PySem.W.takesIn K (.builtin "object.__class__") = some true))))))
theorem xcB_ok {K : PySem.W.Frag} {C : Addr} (h : xcB K C = true) : XcC K C := by
  simp only [xcB, Bool.and_eq_true, decide_eq_true_eq] at h
  obtain ⟨h1, h2, h3, h4, h5, h6, h7⟩ := h
  exact ⟨h1, h2, xfB_ok h3, h4, h5, h6, h7⟩
theorem XcC.raises {X : Cx} {C : Addr} (x : XcC X.K C) : Raises X (.ref C) := raises_own x.xf.exC x.tyC
theorem XcC.cls {K : PySem.W.Frag} {C : Addr} (x : XcC K C) : (PySem.W.clsIn K C).isSome = true := by
  have h := x.xf.hdC
  unfold PySem.W.hasDictIn at h
  cases e : PySem.W.clsIn K C with
  | none => rw [e] at h; cases h
  | some _ => rfl
theorem XcC.exm {K : PySem.W.Frag} {C : Addr} {cls : Value} {b : Bool} (x : XcC K C) (h : PySem.W.subIn K cls (.ref C) = some b) : PySem.W.exmOne K cls (.ref C) = some b := PySem.W.exm_ref x.xf.exC x.xf.hdC x.tyC h
theorem XcC.kit {K : PySem.W.Frag} {C C' : Addr} {b : Bool} (x : XcC K C) (h : PySem.W.subIn K (.ref C') (.ref C) = some b) (hs : C' = C → b = true) : PySem.W.kitOne K (.ref C') (.ref C) = some b := by
  unfold PySem.W.kitOne
  split
  next q =>
    have e : C' = C := Value.ref.inj (beq_iff_eq.1 q)
    rw [hs e]
  · have e := x.exm h
    unfold PySem.W.exmOne at e
    split at e
    · exact e
    · cases e

/-! ### C() -/
section
variable {X : Cx} {C : Addr} {x : Str} {p pos : Pos}
theorem pmk0 (c : XcC X.K C) (q : PySem.W.excIn X.K C veL "ValueError.__new__" = true) (hm : X.mg x = some (.ref C)) (hg : Gl X x) (hd : (x == ("__debug__" : Str)) = false) : L2N.PMk X (.Call (.Name x p) [] [] pos) (fun _ H Q => Q (.ref C) none H) := by
  intro pins s σ H Q I h
  obtain ⟨bm, N, nm, qn, bs, hdct, sn, sub, ab, col, dd, k0, k1, k2, k3, k5, mN, hC, hN, hni, T⟩ := exc_obj I.kIn q
  refine wpAny_Call_Name_kw (ld_glob I hg hm (PySem.W.callWith_K0 I.kIn c.kC ?_) hd)
  exact wpAny_call_exc_subT PySem.F.excBase_ValueError T hC hN hni (fun h' e m => L2N.mk_of I m c.raises h (I.hok.gone m.new)) (by show 0 ≤ sizeLine; omega)

/-! ### C(e), C's own __init__ keeping it -/
/-- what __init__ promises -/
def spI (C : Addr) (f : Str) : Sp := fun vs H Q _ => ∃ a v, vs = [.ref a, v] ∧ H a = some (exo a C none) ∧ ∀ dx, H dx = none → dx ≠ a → Q .non (upd (upd H dx (exd dx [(f, v)])) a (exo a C (some dx)))
theorem pmk1 {k : Nat} {fI : Addr} {fd : FuncData} {f n1 n2 : Str} {e : PySem.Expr} {ta : TA} (c : XcC X.K C) (T : OexC X.K C) (iC : PySem.W.findIn X.K (.ref C) "__init__" = some (some (.ref fI))) (tI : PySem.W.typeIn X.K (.ref fI) = some (.type "function"))
    (F1 : FnOk X.prog X.w X.K X.mg X.base (L2N.CX X.prog X.w) k fI fd [n1, n2] (spI C f)) (hr : Room (k + 1) X.A) (hb : Binds X.K fd [n1, n2] []) (hx : Passes (L2N.CX X.prog X.w) X (fun _ _ _ => False)) (hg : Gl X x) (hm : X.mg x = some (.ref C)) (ha : PA X [e] ta)
    (hd : (x == ("__debug__" : Str)) = false) (hs : starEach [e] X.env = (false, eval e X.env) :: starEach [] X.env) : L2N.PMk X (.Call (.Name x p) [e] [] pos) (fun σ H Q => ta σ H fun vs H1 => ∃ v, vs = [v] ∧ ∀ d, H1 d = none → Q (.ref C) (some d) (upd H1 d (.xd [(f, v)]))) := by
  intro pins s σ H Q I h
  obtain ⟨nm, q, N, bs, bm, sn, sub, ab, col, dd, k0, k1, k2, k3, k5, hC, hbm⟩ := T.cls
  refine wpAny_Call_Name_kw (ld_glob I hg hm ?_ hd)
  refine PySem.W.callWith_K (h₀ := X.base) I.ok.mod.kin c.kC (thn (ha.run pos pins s σ H _ I h) fun us s1 w => ?_) hs rfl
  obtain ⟨vs, H1, J, r, v, rfl, w⟩ := w
  refine ⟨J.kIn, ?_⟩
  match us, r with
  | [u], .cons ru .nil =>
    obtain ⟨h1, g1, d1, t1, o1⟩ := s1
    have low : h1.objs.size ≤ h1.objs.size + 1 := Nat.le_succ _
    have new : H1 (h1.objs.size + 1) = none := J.hok.fresh low
    obtain ⟨hE, eE⟩ : ∃ hE, hE = (h1.push (PySem.W.kdv_tup [u])).push (PySem.HandSPX.excO C h1.objs.size) := ⟨_, rfl⟩
    have stay : ∀ b o, h1.get? b = some o → hE.get? b = some o := fun b o z => by rw [eE]; exact Heap.get?_push_of_some _ (Heap.get?_push_of_some _ z)
    have there : hE.get? (h1.objs.size + 1) = some (PySem.HandSPX.excO C h1.objs.size) := by rw [eE]; heap_get
    have J2 : Inv X pins σ (upd H1 (h1.objs.size + 1) (exo (h1.objs.size + 1) C none)) ⟨hE, g1, d1, t1, o1⟩ := J.laid (t' := t1) (a := h1.objs.size + 1) (o := exo (h1.objs.size + 1) C none) (h' := hE) stay low (exo_ok there)
    have r2 : Vals [V.ref (h1.objs.size + 1), v] [Value.ref (h1.objs.size + 1), u] := .cons rfl (.cons ru .nil)
    have b2 := hb ⟨hE, g1, d1, t1, o1⟩ [Value.ref (h1.objs.size + 1), u] J2.kIn (by rfl)
    rw [List.append_nil] at b2
    have run := F1.run (X.A.under (.builtin "type.__call__" ⟨.ref C :: [u], []⟩)) X.stack ⟨hE, g1, d1, t1, o1⟩ _ ⟨[Value.ref (h1.objs.size + 1), u], []⟩ [Value.ref (h1.objs.size + 1), u] _
      (fun v2 H2 => v2 = .non ∧ ∃ (d : Addr), H2 (h1.objs.size + 1) = some (exo (h1.objs.size + 1) C (some d)) ∧ H2 d = some (exd d [(f, v)]) ∧ H1 d = none ∧ Q (.ref C) (some d) (upd (del H2 (h1.objs.size + 1)) d (.xd [(f, v)])))
      (fun _ _ _ => False) (hr.make C [u] []) (J2.env0.make C [u] []) b2 r2 ⟨_, v, rfl, upd_same, fun dx e1 e2 => by
        have e3 : H1 dx = none := by rw [upd_ne e2] at e1; exact e1
        refine ⟨rfl, dx, upd_same, by rw [upd_ne e2, upd_same], e3, ?_⟩
        have eq : upd (del (upd (upd (upd H1 (h1.objs.size + 1) (exo (h1.objs.size + 1) C none)) dx (exd dx [(f, v)])) (h1.objs.size + 1) (exo (h1.objs.size + 1) C (some dx))) (h1.objs.size + 1)) dx (.xd [(f, v)]) = upd H1 dx (.xd [(f, v)]) := by
          funext b
          by_cases z : b = dx
          · rw [z, upd_same, upd_same]
          · rw [upd_ne z, upd_ne z]
            by_cases y : b = h1.objs.size + 1
            · rw [y, del_same, new]
            · rw [del_ne y, upd_ne y, upd_ne z, upd_ne y]
        rw [eq]
        exact w dx e3⟩
    show wpAny _ _ (call (.ref C) [u]) _ _ _
    refine wpAny_call (PySem.HandSPX.call_own PySem.F.excBase_ValueError (fun Y => PySem.HandSPX.refsVE_contains Y bm hbm) (J.kIn _ _ hC) (PySem.W.looks_findIn J.kIn iC) (fun self => PySem.W.bind_fn J.kIn self tI) (by show 1 ≤ sizeLine; rw [sizeLine_eq]; omega) ?_)
    rw [← eE]
    refine codeAny_mono run fun r s' z => ?_
    match r, z with
    | .error er, z => exact hx pins σ _ _ er s' J2 z
    | .ok (.ret u2), z =>
      obtain ⟨v2, H2, os2, bare2, un2, hok2, rv, rfl, dx, ea, ed, e0, q2⟩ := z
      obtain ⟨h2, g2, d2, t2, o2⟩ := s'
      obtain ⟨t0, G, J3, kG, ge, hoe, na⟩ := mk_end0 (d2 := d2) (t2 := t2) J low stay un2 hok2 os2 bare2 ea ed e0
      exact ⟨rv, h1.objs.size + 1, _, _, ⟨G, g2, d2, t2, o2⟩, _, .ref C, some dx, rfl, J3, kG, ge, hoe, ⟨rfl, rfl, fun fv hv => by cases hv; rfl⟩, rfl, rfl, na, rfl, bare2, c.raises, q2⟩
end
/-- the text of such an __init__ -/
structure InitTxt (st : PySem.Stmt) (f n1 n2 : Str) : Prop where
  body : ∃ q1 q2 q3 q4, defBody st = [.Assign [.Attribute (.Name n1 q1) f q2] (.Name n2 q3) q4]
  sc : FnScope [n1, n2] [n1, n2] (defScope st)
  l1 : (defScope st).names.lookup n1 = some .local
  l2 : (defScope st).names.lookup n2 = some .local
  d1 : (n1 == ("__debug__" : Str)) = false ∧ (n1 == ("__classdict__" : Str)) = false
  d2 : (n2 == ("__debug__" : Str)) = false ∧ (n2 == ("__classdict__" : Str)) = false
theorem init_ok {P : Program} {w : World} {K : PySem.W.Frag} {mg : Str → Option Value} {base : Heap} {x qual : Str} {st : PySem.Stmt} {fI : Addr} {fd : FuncData} {C : Addr} {f n1 n2 : Str} (F : Fun K x qual st fI fd) (t : InitTxt st f n1 n2) (T : OexC K C) (hno : PySem.W.findIn K (.ref C) f = some none) :
    FnOk P w K mg base (L2N.CX P w) 1 fI fd [n1, n2] (spI C f) := by
  obtain ⟨oc, od, kV, doc, pm, an, cdv, ct, osl, rfl, lk, hcd⟩ := F.ex
  refine fn_of lk hcd t.sc (fun vs H Q E ⟨a, v, e, _⟩ => by rw [e]; rfl) fun A outer s H vs Q E hr ⟨a, v, e, ea, q⟩ => ?_
  obtain ⟨q1, q2, q3, q4, eb⟩ := t.body
  rw [eb]
  subst e
  obtain ⟨X, eX⟩ : ∃ X, X = cxOf (L2N.CX P w) P w K mg base [n1, n2] qual (defScope st) fI cdv A outer s H E := ⟨_, rfl⟩
  have o : PE X (.Name n1 q1) _ := pe_var (i := 0) (by rw [eX]; rfl) (by rw [eX]; exact .inl t.l1) t.d1.1 t.d1.2
  have e : PE X (.Name n2 q3) _ := pe_var (i := 1) (by rw [eX]; rfl) (by rw [eX]; exact .inl t.l2) t.d2.1 t.d2.2
  refine ⟨_, eX ▸ pss_cons (ps_ost o e rfl) pss_nil, ?_⟩
  refine ⟨v, rfl, .ref a, rfl, a, C, rfl, by rw [show (cxOf (L2N.CX P w) P w K mg base [n1, n2] qual (defScope st) fI cdv A outer s H E).K = K from rfl]; exact T, hno, .inl ⟨ea, fun dx h1 h2 => q dx h1 h2⟩⟩

/-! ### isinstance of a caught one -/
theorem call_isD {X : Cx} {a D : Addr} {d : Option Addr} {oe : Obj} {pn : List (Addr × Obj)} (c : XcC X.K D) (hz : Zc (.ref D) d oe) (hf : ∃ fv, oe.data = .fields fv) :
    CallR (X.suite a ((a, oe) :: pn)) (.builtin "isinstance") (fun xs H Q => ∃ (C : Addr) (b : Bool), xs = [.ref a, .ref C] ∧ PySem.W.kitOne X.K (.ref D) (.ref C) = some b ∧ (d = none ∨ ∃ dd fs, d = some dd ∧ H dd = some (.xd fs)) ∧ Q (.bl b) H) := by
  intro pins s σ H xs us Q I r ⟨C, b, e, hk, hd, q⟩
  subst e
  match us, r with
  | [_, _], .cons rfl (.cons rfl .nil) =>
    obtain ⟨hget, _⟩ := I.pin (a, oe) (List.mem_append.2 (.inl (.head _)))
    obtain ⟨fv, hv⟩ := hf
    have J : ∃ od, PySem.W.InstAt s.heap a oe D od := by
      rcases hd with rfl | ⟨dd, fs, rfl, hx⟩
      · exact ⟨none, hget, hz.1, by unfold PySem.W.notCls; rw [hv] <;> rfl, by rw [hz.2] <;> trivial⟩
      · have hx2 : ObjOk X.prog X.w H s.heap dd (.xd fs) := I.hok dd _ hx
        obtain ⟨mA, hns, _⟩ := hx2
        obtain ⟨od, ho, _⟩ := lookIn_ns hns
        exact ⟨some od, hget, hz.1, by unfold PySem.W.notCls; rw [hv] <;> rfl, by rw [hz.2]; exact ho⟩
    obtain ⟨od, J⟩ := J
    exact PySem.W.kia_one (PySem.W.kitx_exc c.cls c.xf.ga c.xf.gg c.xf.exC c.ha c.hn c.ht c.hm) I.kIn J hk (fun z => nomatch z) fun tk => ⟨.bl b, H, I.kept (t' := tk) fun _ _ z => z, rfl, q⟩
end PD
end

section
set_option linter.all false
set_option maxRecDepth 100000
set_option maxHeartbeats 1000000
/-! PDexp: a rule for each form of expression. -/
namespace PD
open PySem L2

/-- what a def promises: what the evaluator says -/
def spOf (Γ : Gd) (f : Nat) : Sp := fun vs H Q E => ∃ μ S ds, RepS Γ.K μ H S ∧ RepVs Γ.K μ H ds vs ∧ Aft Γ E μ H (QV Γ Q) (Γ.F f ds S)

/-- within an except suite (hot), or not; the caught exception's name, its slot and its field's name -/
structure Md where
  hot : Bool := false
  en : Option (Str × Nat × Option Str) := none
/-- where one stands: the caught exception, if it has a name there -/
def SuCx (Γ : Gd) (X : Cx) (n : Str) (i : Nat) (fo : Option Str) : Prop :=
  ∃ (X0 : Cx) (a : Addr) (oe : Obj) (C : Addr) (d : Option Addr) (pn : List (Addr × Obj)) (F0 : Fn) (x : Exn) (fx : Option Str),
    X = X0.suite a ((a, oe) :: pn) ∧ Zc (.ref C) d oe ∧ (∃ fv, oe.data = .fields fv) ∧ XcC X.K C ∧ X.N[i]? = some n ∧ X.env.scope.names.lookup n = some .local ∧ (n == ("__debug__" : Str)) = false ∧ (n == ("__classdict__" : Str)) = false ∧
      Γ.F = xF F0 x ∧ Γ.xt x.cls = some (C, fx) ∧ (∀ f, fo = some f → fx = some f) ∧ (∀ f, fx = some f → PySem.W.findIn X.K (.ref C) f = some none) ∧
      ((x.fs = [] ∧ fx = none ∧ d = none ∧ Γ.cx = some (i, a, none)) ∨ ∃ f dd dv, x.fs = [dv] ∧ fx = some f ∧ d = some dd ∧ Γ.cx = some (i, a, some (dd, f, dv)))
/-- where one stands -/
structure Hold (Γ : Gd) (W : WX) (md : Md) (k : Nat) (X : Cx) : Prop where
  hK : Γ.K = X.K
  nd : X.N.Nodup
  calm : md.hot = false → X.calm = true
  room : md.hot = false → Room k X.A
  roomH : L2H.RoomH k X.A
  warm : md.hot = true → L2H.HotC X
  k2 : 2 ≤ k
  pass : ∀ σ, PassesAt (L2N.CX X.prog X.w) X σ (atS W σ)
  cx : md.hot = false → Γ.cx = none
  en0 : md.hot = false → md.en = none
  en : ∀ n i fo, md.en = some (n, i, fo) → SuCx Γ X n i fo
theorem Hold.units {Γ : Gd} {W : WX} {md : Md} {k : Nat} {X : Cx} (h : Hold Γ W md k X) : X.A.units + 64 < cLine := by have := h.roomH.un; omega

def nst : PySem.Expr → Bool
  | .Starred .. => false
  | _ => true
theorem star_of {e : PySem.Expr} {es : List PySem.Expr} {env : PySem.Env} (h : nst e = true) : starEach (e :: es) env = (false, eval e env) :: starEach es env := by
  cases e <;> first | rfl | cases h
theorem stars_of {env : PySem.Env} {pos : Pos} : ∀ {es : List PySem.Expr}, (∀ e ∈ es, nst e = true) → (backTo pos (starEach es env)).any (·.1) = false
  | [], _ => rfl
  | e :: es, h => by
    rw [star_of (h e List.mem_cons_self)]
    have := stars_of (env := env) (pos := pos) fun e' he => h e' (List.mem_cons_of_mem _ he)
    unfold backTo at this ⊢
    rw [List.map_cons, List.any_cons, this]; rfl

section
variable {Γ : Gd} {W : WX} {md : Md} {k : Nat} {X : Cx} {pos : Pos} {a b c : PySem.Expr} {ca cb cc : E}
theorem e_slot {i : Nat} {x : Str} (hN : X.N[i]? = some x) (hv : Vis X.env.scope x) (hd : (x == ("__debug__" : Str)) = false) (hcd : (x == ("__classdict__" : Str)) = false) : PE X (.Name x pos) (tE Γ W (.slot i)) :=
  (pe_var hN hv hd hcd).imp fun σ H Q ⟨μ, env, S, rs, re, h⟩ => by
    simp only [evE] at h
    split at h
    next d hd =>
      obtain ⟨v, hv, r⟩ := re.slot i d hd
      exact ⟨v, hv, h.now rs v r⟩
    · exact h.elim
theorem e_cst {d : D} {v : V} {e : PySem.Expr} (h0 : PE X e (tC v)) (hr : ∀ μ H, RepV Γ.K μ H d v) : PE X e (tE Γ W (.cst d)) :=
  h0.imp fun σ H Q ⟨μ, env, S, rs, re, h⟩ => h.now rs v (hr μ H)
theorem e_bin (hH : Hold Γ W md k X) {o : Operator} (ha : PE X a (tE Γ W ca)) (hb : PE X b (tE Γ W cb)) : PE X (.BinOp a o b pos) (tE Γ W (.bin o ca cb)) :=
  (pe_op (op_bin hH.hK o) ha hb).imp fun σ H Q ⟨μ, env, S, rs, re, h⟩ =>
    ⟨μ, env, S, rs, re, h.bind fun d S1 μ1 H1 e1 r1 h1 v rv => ⟨μ1, env, S1, r1, re.mono e1, h1.bind fun d2 S2 μ2 H2 e2 r2 h2 w rw => ⟨_, μ2, S2, d, d2, r2, rv.mono e2, rw, h2⟩⟩⟩
theorem e_un (hH : Hold Γ W md k X) {o : UnaryOp} (ha : PE X a (tE Γ W ca)) : PE X (.UnaryOp o a pos) (tE Γ W (.un o ca)) :=
  (pe_un (op_un hH.hK o) ha).imp fun σ H Q ⟨μ, env, S, rs, re, h⟩ => ⟨μ, env, S, rs, re, h.bind fun d S1 μ1 H1 e1 r1 h1 v rv => ⟨_, μ1, S1, d, r1, rv, h1⟩⟩
theorem e_cmp (hH : Hold Γ W md k X) {o : CmpOp} (ha : PE X a (tE Γ W ca)) (hb : PE X b (tE Γ W cb)) (hm : behindInMarks o b = false) : PE X (.Compare a [o] [b] pos) (tE Γ W (.cmp o ca cb)) :=
  (pe_cmpR (op_cmp hH.hK hH.units o) ha hb hm).imp fun σ H Q ⟨μ, env, S, rs, re, h⟩ =>
    ⟨μ, env, S, rs, re, h.bind fun d S1 μ1 H1 e1 r1 h1 v rv => ⟨μ1, env, S1, r1, re.mono e1, h1.bind fun d2 S2 μ2 H2 e2 r2 h2 w rw =>
      ⟨_, μ2, S2, d, d2, r2, rv.mono e2, rw, (Aft.map h2).imp fun b S' μ' H' _ _ q => q _ (.bl b)⟩⟩⟩
theorem t_cmp (hH : Hold Γ W md k X) {o : CmpOp} (ha : PE X a (tE Γ W ca)) (hb : PE X b (tE Γ W cb)) (hm : behindInMarks o b = false) : PT X (.Compare a [o] [b] pos) (tT Γ W (.cmp o ca cb)) :=
  (pt_cmpR (op_cmp hH.hK hH.units o) ha hb hm).imp fun σ H Q ⟨μ, env, S, rs, re, h⟩ =>
    ⟨μ, env, S, rs, re, h.bind fun d S1 μ1 H1 e1 r1 h1 v rv => ⟨μ1, env, S1, r1, re.mono e1, h1.bind fun d2 S2 μ2 H2 e2 r2 h2 w rw =>
      ⟨_, μ2, S2, d, d2, r2, rv.mono e2, rw, h2.imp fun b S' μ' H' _ _ q => ⟨b, rfl, q⟩⟩⟩⟩
theorem e_chn (hH : Hold Γ W md k X) {o p : CmpOp} (ha : PE X a (tE Γ W ca)) (hb : PE X b (tE Γ W cb)) (hc : PE X c (tE Γ W cc)) (hm : lastMarks [o, p] [b, c] = false) : PE X (.Compare a [o, p] [b, c] pos) (tE Γ W (.chn o p ca cb cc)) :=
  (pe_chain (op_cmp hH.hK hH.units o) (op_cmp hH.hK hH.units p) ha hb hc hm).imp fun σ H Q ⟨μ, env, S, rs, re, h⟩ =>
    ⟨μ, env, S, rs, re, h.bind fun d S1 μ1 H1 e1 r1 h1 v rv => ⟨μ1, env, S1, r1, re.mono e1, h1.bind fun d2 S2 μ2 H2 e2 r2 h2 w rw =>
      ⟨_, μ2, S2, d, d2, r2, rv.mono e2, rw, h2.bind fun b S3 μ3 H3 e3 r3 h3 => ⟨b, rfl, by
        cases b with
        | true =>
          simp only [if_true] at h3 ⊢
          exact ⟨μ3, env, S3, r3, re.mono ((e1.trans e2).trans e3), h3.bind fun d4 S4 μ4 H4 e4 r4 h4 z rz =>
            ⟨_, μ4, S4, d2, d4, r4, rw.mono (e3.trans e4), rz, (Aft.map h4).imp fun b' S' μ' H' _ _ q => q _ (.bl b')⟩⟩
        | false =>
          simp only [Bool.false_eq_true, if_false] at h3 ⊢
          exact h3.now r3 _ (.bl false)⟩⟩⟩⟩
theorem t_chn (hH : Hold Γ W md k X) {o p : CmpOp} (ha : PE X a (tE Γ W ca)) (hb : PE X b (tE Γ W cb)) (hc : PE X c (tE Γ W cc)) (hm : lastMarks [o, p] [b, c] = false) : PT X (.Compare a [o, p] [b, c] pos) (tT Γ W (.chn o p ca cb cc)) :=
  (pt_chain (op_cmp hH.hK hH.units o) (op_cmp hH.hK hH.units p) ha hb hc hm).imp fun σ H Q ⟨μ, env, S, rs, re, h⟩ =>
    ⟨μ, env, S, rs, re, h.bind fun d S1 μ1 H1 e1 r1 h1 v rv => ⟨μ1, env, S1, r1, re.mono e1, h1.bind fun d2 S2 μ2 H2 e2 r2 h2 w rw =>
      ⟨_, μ2, S2, d, d2, r2, rv.mono e2, rw, h2.bind fun b S3 μ3 H3 e3 r3 h3 => ⟨b, rfl, by
        cases b with
        | true =>
          simp only [if_true] at h3 ⊢
          exact ⟨μ3, env, S3, r3, re.mono ((e1.trans e2).trans e3), h3.bind fun d4 S4 μ4 H4 e4 r4 h4 z rz =>
            ⟨_, μ4, S4, d2, d4, r4, rw.mono (e3.trans e4), rz, h4.imp fun b' S' μ' H' _ _ q => ⟨b', rfl, q⟩⟩⟩
        | false =>
          simp only [Bool.false_eq_true, if_false] at h3 ⊢
          exact ⟨false, rfl, h3.now r3⟩⟩⟩⟩⟩
theorem e_not (ha : PE X a (tE Γ W ca)) : PE X (.UnaryOp .Not a pos) (tE Γ W (.not ca)) :=
  (pe_not ha).imp fun σ H Q ⟨μ, env, S, rs, re, h⟩ => ⟨μ, env, S, rs, re, h.bind fun d S1 μ1 H1 e1 r1 h1 v rv => by
    split at h1
    · cases rv; exact ⟨_, rfl, h1.now r1 _ (.bl _)⟩
    · exact h1.elim⟩
theorem t_not (ha : PT X a (tT Γ W ca)) : PT X (.UnaryOp .Not a pos) (tT Γ W (.not ca)) :=
  (pt_not ha).imp fun σ H Q ⟨μ, env, S, rs, re, h⟩ => ⟨μ, env, S, rs, re, Aft.map h⟩
theorem e_ife (hc : PT X c (tT Γ W cc)) (ha : PE X a (tE Γ W ca)) (hb : PE X b (tE Γ W cb)) : PE X (.IfExp c a b pos) (tE Γ W (.ife cc ca cb)) :=
  (pe_ifExp hc ha hb).imp fun σ H Q ⟨μ, env, S, rs, re, h⟩ => ⟨μ, env, S, rs, re, h.bind fun d S1 μ1 H1 e1 r1 h1 => by
    cases d with
    | true => exact ⟨μ1, env, S1, r1, re.mono e1, h1⟩
    | false => exact ⟨μ1, env, S1, r1, re.mono e1, h1⟩⟩
/-- a test that is a value's truth -/
theorem t_val (hH : Hold Γ W md k X) (ha : PE X a (tE Γ W ca)) (he : ∀ whole, isTrue a X.env whole = (do let v ← whole; standAt a.pos; holding [v] (truthy v)))
    (hev : ∀ env S, evT Γ.F env ca S = (evE Γ.F env ca S).bind fun x S => opTru x S) : PT X a (tT Γ W ca) :=
  (pt_truth ha he).imp fun σ H Q ⟨μ, env, S, rs, re, h⟩ => ⟨μ, env, S, rs, re, (hev env S ▸ h).bind fun d S1 μ1 H1 e1 r1 h1 v rv => tru_of r1 rv h1⟩

/-! and, or -/
theorem e_and1 {rest : List PySem.Expr} (ha : PE X a (tE Γ W ca)) (hb : PE X (.BoolOp .And (b :: rest) pos) (tE Γ W cb)) : PE X (.BoolOp .And (a :: b :: rest) pos) (tE Γ W (.and ca cb)) :=
  (pe_and ha hb).imp fun σ H Q ⟨μ, env, S, rs, re, h⟩ => ⟨μ, env, S, rs, re, h.bind fun d S1 μ1 H1 e1 r1 h1 v rv => by
    split at h1
    · cases rv; exact ⟨true, rfl, μ1, env, S1, r1, re.mono e1, h1⟩
    · cases rv; exact ⟨false, rfl, h1.now r1 _ (.bl _)⟩
    · exact h1.elim⟩
theorem e_or1 {rest : List PySem.Expr} (ha : PE X a (tE Γ W ca)) (hb : PE X (.BoolOp .Or (b :: rest) pos) (tE Γ W cb)) : PE X (.BoolOp .Or (a :: b :: rest) pos) (tE Γ W (.or ca cb)) :=
  (pe_or ha hb).imp fun σ H Q ⟨μ, env, S, rs, re, h⟩ => ⟨μ, env, S, rs, re, h.bind fun d S1 μ1 H1 e1 r1 h1 v rv => by
    split at h1
    · cases rv; exact ⟨true, rfl, h1.now r1 _ (.bl _)⟩
    · cases rv; exact ⟨false, rfl, μ1, env, S1, r1, re.mono e1, h1⟩
    · exact h1.elim⟩
theorem w_and1 {rest : List PySem.Expr} (ha : PT X a (tT Γ W ca)) (hb : PW X (.BoolOp .And (b :: rest) pos) (tT Γ W cb)) : PW X (.BoolOp .And (a :: b :: rest) pos) (tT Γ W (.and ca cb)) :=
  (pw_and ha hb).imp fun σ H Q ⟨μ, env, S, rs, re, h⟩ => ⟨μ, env, S, rs, re, h.bind fun d S1 μ1 H1 e1 r1 h1 => by
    cases d with
    | true => exact ⟨μ1, env, S1, r1, re.mono e1, h1⟩
    | false => exact h1.now r1⟩
theorem w_or1 {rest : List PySem.Expr} (ha : PT X a (tT Γ W ca)) (hb : PW X (.BoolOp .Or (b :: rest) pos) (tT Γ W cb)) : PW X (.BoolOp .Or (a :: b :: rest) pos) (tT Γ W (.or ca cb)) :=
  (pw_or ha hb).imp fun σ H Q ⟨μ, env, S, rs, re, h⟩ => ⟨μ, env, S, rs, re, h.bind fun d S1 μ1 H1 e1 r1 h1 => by
    cases d with
    | true => exact h1.now r1
    | false => exact ⟨μ1, env, S1, r1, re.mono e1, h1⟩⟩

/-! arguments -/
theorem a_nil : PA X [] (tEs Γ W .nil) := PA.imp pa_nil fun σ H Q ⟨μ, env, S, rs, re, h⟩ => h.now rs [] .nil
theorem a_cons {es : List PySem.Expr} {ces : Es} (hs : nst a = true) (ha : PE X a (tE Γ W ca)) (hr : PA X es (tEs Γ W ces)) : PA X (a :: es) (tEs Γ W (.cons ca ces)) :=
  PA.imp (pa_cons ha hr (star_of hs)) fun σ H Q ⟨μ, env, S, rs, re, h⟩ => ⟨μ, env, S, rs, re, h.bind fun d S1 μ1 H1 e1 r1 h1 v rv =>
    ⟨μ1, env, S1, r1, re.mono e1, h1.bind fun ds S2 μ2 H2 e2 r2 h2 vs rvs => h2.now r2 _ (.cons (rv.mono e2) rvs)⟩⟩
theorem a_star {es : List PySem.Expr} {ces : Es} {p : Pos} (hH : Hold Γ W md k X) (ha : PE X a (tE Γ W ca)) (hr : PA X es (tEs Γ W ces)) : PA X (.Starred a p :: es) (tEs Γ W (.star ca ces)) :=
  PA.imp (StX.pa_star ha hr) fun σ H Q ⟨μ, env, S, rs, re, h⟩ => ⟨μ, env, S, rs, re, h.bind fun d S1 μ1 H1 e1 r1 h1 v rv => by
    split at h1
    next ds hd =>
      obtain ⟨q, vs, rfl, hq, rvs0, _, _⟩ := items_of r1 rv hd
      exact ⟨q, vs, rfl, hH.hK ▸ hq.symm, μ1, env, S1, r1, re.mono e1, h1.bind fun ds2 S2 μ2 H2 e2 r2 h2 vs2 rvs => h2.now r2 _ ((rvs0.mono e2).append rvs)⟩
    · exact h1.elim⟩
theorem e_tup {es : List PySem.Expr} {ces : Es} {x1 : Nat} (h : PA X es (tEs Γ W ces)) : PE X (.Tuple es x1 pos) (tE Γ W (.tup ces)) :=
  (pe_tup h).imp fun σ H Q ⟨μ, env, S, rs, re, h⟩ => ⟨μ, env, S, rs, re, h.bind fun ds S1 μ1 H1 e1 r1 h1 vs rvs => by
    split at h1
    next hl => exact ⟨by rw [← rvs.length]; exact hl, fun p hp => qv_tup h1 r1 rvs hp⟩
    · exact h1.elim⟩
theorem e_lst {es : List PySem.Expr} {ces : Es} (h : PA X es (tEs Γ W ces)) : PE X (.List es pos) (tE Γ W (.lst ces)) :=
  (pe_lst h).imp fun σ H Q ⟨μ, env, S, rs, re, h⟩ => ⟨μ, env, S, rs, re, h.bind fun ds S1 μ1 H1 e1 r1 h1 vs rvs => by
    split at h1
    next hl => exact ⟨by rw [← rvs.length]; exact hl, fun p hp => qv_lst h1 r1 rvs hp⟩
    · exact h1.elim⟩

/-! calls -/
theorem call_fin {f : Nat} {ces : Es} (σ : L2.St) (H : Hp) (Q : VK) : tE Γ W (.call f ces) σ H Q → tCallS (spOf Γ f) (fun σ => atS W σ) (tEs Γ W ces) σ H Q := fun ⟨μ, env, S, rs, re, h⟩ =>
  ⟨μ, env, S, rs, re, h.bind fun ds S1 μ1 H1 e1 r1 h1 vs rvs => ⟨μ1, S1, ds, r1, rvs, h1⟩⟩
/-- hot defs stand under numbers of their own -/
def hotOff : Nat := 100000
def fid (md : Md) (f : Nat) : Nat := if md.hot then f + hotOff else f
/-- a def, called where nothing is handled, or within an except suite -/
def FnG (hot : Bool) (P : Program) (w : World) (K : PySem.W.Frag) (mg : Str → Option Value) (base : Heap) (k : Nat) (ad : Addr) (fd : FuncData) (ps : List Str) (sp : Sp) : Prop :=
  (hot = false → FnOk P w K mg base (L2N.CX P w) k ad fd ps sp) ∧ (hot = true → L2H.FnH P w K mg base (L2N.CX P w) k ad fd ps sp)
theorem e_call (hH : Hold Γ W md k X) {x : Str} {f : Nat} {ad : Addr} {fd : FuncData} {ps : List Str} {e : PySem.Expr} {es : List PySem.Expr} {ces : Es} {p : Pos} (G : FnG md.hot X.prog X.w X.K X.mg X.base k ad fd ps (spOf Γ f)) (hg : Gl X x)
    (hm : X.mg x = some (.ref ad)) (hk : PySem.W.keepIn X.K (.ref ad) = true) (hb : Binds X.K fd ps []) (hd : (x == ("__debug__" : Str)) = false) (hs : ∀ e' ∈ e :: es, nst e' = true) (ha : PA X (e :: es) (tEs Γ W ces)) :
    PE X (.Call (.Name x p) (e :: es) [] pos) (tE Γ W (.call f ces)) := by
  have s1 := star_of (env := X.env) (es := es) (hs e List.mem_cons_self)
  have s2 := stars_of (env := X.env) (pos := pos) fun e' he => hs e' (List.mem_cons_of_mem _ he)
  cases h : md.hot with
  | false => exact (pe_callS (G.1 h) (hH.room h) hg hm hk hb hH.pass ha hd s1 s2).imp call_fin
  | true => exact (L2H.pe_callH (G.2 h) hH.roomH (hH.warm h) hg hm hk hb hH.pass ha hd s1 s2).imp call_fin
theorem e_call0 (hH : Hold Γ W md k X) {x : Str} {f : Nat} {ad : Addr} {fd : FuncData} {ps : List Str} {p : Pos} (G : FnG md.hot X.prog X.w X.K X.mg X.base k ad fd ps (spOf Γ f)) (hg : Gl X x)
    (hm : X.mg x = some (.ref ad)) (hk : PySem.W.keepIn X.K (.ref ad) = true) (hb : Binds X.K fd ps []) (hd : (x == ("__debug__" : Str)) = false) : PE X (.Call (.Name x p) [] [] pos) (tE Γ W (.call f .nil)) := by
  refine ⟨fun pins s σ H Q I ⟨μ, env, S, rs, re, h⟩ => ?_⟩
  cases q : md.hot with
  | false => exact wpAny_Call_Name_kw (ld_glob I hg hm (PySem.W.callWith_K0 I.kIn hk (run_fnS (G.1 q) (hH.room q) hb (hH.pass σ) I .nil ⟨μ, S, [], rs, .nil, h⟩)) hd)
  | true => exact wpAny_Call_Name_kw (ld_glob I hg hm (PySem.W.callWith_K0 I.kIn hk (L2H.run_fnH (G.2 q) hH.roomH (hH.warm q) hb (hH.pass σ) I .nil ⟨μ, S, [], rs, .nil, h⟩)) hd)
theorem any_has : ∀ (cs : List Nat) (x : Nat), ((cs.map fun (c : Nat) => D.int c).any fun d => D.eqb d (.int x)) = cs.contains x
  | [], x => rfl
  | c :: cs, x => by
    simp only [List.map_cons, List.any_cons, List.contains_cons, any_has cs x]
    have : D.eqb (.int c) (.int x) = (x == c) := by
      simp only [D.eqb]
      by_cases z : x = c
      · simp [z]
      · have z2 : ¬ ((c : Int) = (x : Int)) := fun q => z (by omega)
        have e1 : ((c : Int) == (x : Int)) = false := by simpa using z2
        have e2 : (x == c) = false := by simpa using z
        rw [e1, e2]
    rw [this]
/-- the caught exception, by its name -/
theorem pe_en {n : Str} {i : Nat} {fo : Option Str} {p : Pos} (hs : SuCx Γ X n i fo) : ∃ (X0 : Cx) (a : Addr) (oe : Obj) (C : Addr) (d : Option Addr) (pn : List (Addr × Obj)) (F0 : Fn) (x : Exn) (fx : Option Str),
    X = X0.suite a ((a, oe) :: pn) ∧ Zc (.ref C) d oe ∧ (∃ fv, oe.data = .fields fv) ∧ XcC X.K C ∧ Γ.F = xF F0 x ∧ Γ.xt x.cls = some (C, fx) ∧ (∀ f, fo = some f → fx = some f) ∧ (∀ f, fx = some f → PySem.W.findIn X.K (.ref C) f = some none) ∧
      PE X (.Name n p) (fun σ H Q => (∃ μ env S, RepS Γ.K μ H S ∧ RepE Γ μ H σ env ∧ env[i]? = some none ∧ Q (.ref a) H)) ∧
      ∀ {μ H σ env}, RepE Γ μ H σ env → (x.fs = [] ∧ fx = none ∧ d = none) ∨ ∃ f dd dv v, x.fs = [dv] ∧ fx = some f ∧ d = some dd ∧ H dd = some (.xd [(f, v)]) ∧ RepV Γ.K μ H dv v := by
  obtain ⟨X0, a, oe, C, d, pn, F0, x, fx, e1, e2, e3, e4, e5, e6, e7, e8, e9, e10, e11, e12, e13⟩ := hs
  refine ⟨X0, a, oe, C, d, pn, F0, x, fx, e1, e2, e3, e4, e9, e10, e11, e12, (pe_var e5 (.inl e6) e7 e8).imp fun σ H Q ⟨μ, env, S, rs, re, h0, q⟩ => ?_, fun {μ H σ env} re => ?_⟩
  · have c := re.cur
    unfold CurOk at c
    rcases e13 with ⟨_, _, _, g⟩ | ⟨f, dd, dv, _, _, _, g⟩
    · rw [g] at c; exact ⟨_, c.1 h0, q⟩
    · rw [g] at c; exact ⟨_, c.1 h0, q⟩
  · have c := re.cur
    unfold CurOk at c
    rcases e13 with ⟨h1, h2, h3, _⟩ | ⟨f, dd, dv, h1, h2, h3, g⟩
    · exact .inl ⟨h1, h2, h3⟩
    · rw [g] at c
      obtain ⟨v, g1, g2, g3⟩ := c.2
      exact .inr ⟨f, dd, dv, v, h1, h2, h3, g1, g3⟩
theorem e_xf (hH : Hold Γ W md k X) {n f : Str} {i : Nat} {p : Pos} (hs : SuCx Γ X n i (some f)) (hb : attributeBase (.Name n p) f X.env (eval (.Name n p) X.env) = eval (.Name n p) X.env) : PE X (.Attribute (.Name n p) f pos) (tE Γ W (.xf i)) := by
  obtain ⟨X0, a, oe, C, d, pn, F0, x, fx, rfl, e2, e3, e4, e9, e10, e11, e12, hn, cur⟩ := pe_en (p := p) hs
  have hf := e11 f rfl
  refine (pe_xf (pos := pos) e4.xf (e12 f hf) e2 e3 hn hb).imp fun σ H Q ⟨μ, env, S, rs, re, h⟩ => ?_
  simp only [evE] at h
  split at h
  next h0 =>
    refine ⟨μ, env, S, rs, re, h0, rfl, rfl, ?_⟩
    rw [e9] at h
    rcases cur re with ⟨h1, h2, _⟩ | ⟨f', dd, dv, v, h1, h2, h3, h4, h5⟩
    · rw [h2] at hf; cases hf
    · rw [h2] at hf; cases hf
      simp only [xF, if_true, h1] at h
      exact ⟨dd, _, v, h3, h4, by simp [List.lookup], h.now rs v h5⟩
  · exact h.elim
theorem e_xi (hH : Hold Γ W md k X) {n y : Str} {i : Nat} {fo : Option Str} {p q r : Pos} {cs : List Nat} {C : Addr} (hs : SuCx Γ X n i fo) (hg : Gl X "isinstance") (hm : X.mg "isinstance" = none) (hg2 : Gl X y) (hm2 : X.mg y = some (.ref C)) (hd : (y == ("__debug__" : Str)) = false)
    (hk : ∀ c' C' fo', Γ.xt c' = some (C', fo') → PySem.W.kitOne X.K (.ref C') (.ref C) = some (cs.contains c')) : PE X (.Call (.Name "isinstance" p) [.Name n q, .Name y r] [] pos) (tE Γ W (.xi i cs)) := by
  obtain ⟨X0, a, oe, C0, d, pn, F0, x, fx, rfl, e2, e3, e4, e9, e10, e11, e12, hn, cur⟩ := pe_en (p := q) hs
  have hy : PE (X0.suite a ((a, oe) :: pn)) (.Name y r) (tC (.ref C)) := pe_glob hg2 hm2 rfl hd
  refine (pe_callB (call_isD e4 e2 e3) hg hm (by decide +kernel) (pa_cons hn (pa_cons hy pa_nil)) (by decide) (by decide) rfl rfl).imp fun σ H Q ⟨μ, env, S, rs, re, h⟩ => ?_
  simp only [evE] at h
  split at h
  next h0 =>
    rw [e9] at h
    have h' : Aft Γ (atS W σ) μ H (fun d _ μ' H' => ∀ v, RepV Γ.K μ' H' d v → Q v H') (.ok (.bl (cs.contains x.cls)) S) := by
      have e : xF F0 x xiId [.tup (cs.map fun (c : Nat) => .int c)] S = .ok (.bl (cs.contains x.cls)) S := by
        have ne : xiId ≠ xfId := by decide
        simp only [xF, if_neg ne, if_true]
        rw [any_has]
      rwa [e] at h
    refine ⟨μ, env, S, rs, re, h0, C, cs.contains x.cls, rfl, hk _ _ _ e10, ?_, h'.now rs _ (.bl _)⟩
    rcases cur re with ⟨_, _, h3⟩ | ⟨f', dd, dv, v, h1, h2, h3, h4, h5⟩
    · exact .inl h3
    · exact .inr ⟨dd, _, h3, h4⟩
  · exact h.elim
theorem e_blt {x : Str} {b : Blt} {e : PySem.Expr} {es : List PySem.Expr} {ces : Es} {p : Pos} (hH : Hold Γ W md k X) (hc : md.hot = true → bltC b = false) (hg : Gl X x) (hm : X.mg x = none) (hv : bootBuiltins x = some (bltV b)) (hn : x ≠ "__name__") (hd : (x == ("__debug__" : Str)) = false)
    (hs : ∀ e' ∈ e :: es, nst e' = true) (ha : PA X (e :: es) (tEs Γ W ces)) : PE X (.Call (.Name x p) (e :: es) [] pos) (tE Γ W (.blt b ces)) := by
  have h := op_blt (Γ := Γ) (X := X) hH.hK b fun z => hH.calm (by
    cases q : md.hot with
    | false => rfl
    | true => rw [hc q] at z; cases z)
  have s1 := star_of (env := X.env) (es := es) (hs e List.mem_cons_self)
  have s2 := stars_of (env := X.env) (pos := pos) fun e' he => hs e' (List.mem_cons_of_mem _ he)
  have fin : ∀ σ H Q, tE Γ W (.blt b ces) σ H Q → tCB (rBlt Γ (opBlt b)) (tEs Γ W ces) σ H Q := fun σ H Q ⟨μ, env, S, rs, re, h⟩ =>
    ⟨μ, env, S, rs, re, h.bind fun ds S1 μ1 H1 e1 r1 h1 vs rvs => ⟨_, μ1, S1, ds, r1, rvs, h1⟩⟩
  cases b with
  | len => exact (pe_callB h hg hm hv ha hn hd s1 s2).imp fin
  | abs => exact (pe_callB h hg hm hv ha hn hd s1 s2).imp fin
  | all => exact (pe_callB h hg hm hv ha hn hd s1 s2).imp fin
  | any => exact (pe_callB h hg hm hv ha hn hd s1 s2).imp fin
  | sum => exact (pe_callB h hg hm hv ha hn hd s1 s2).imp fin
  | max => exact (pe_callB h hg hm hv ha hn hd s1 s2).imp fin
  | min => exact (pe_callB h hg hm hv ha hn hd s1 s2).imp fin
  | sorted => exact (pe_callB h hg hm hv ha hn hd s1 s2).imp fin
  | gcd => exact (pe_callB h hg hm hv ha hn hd s1 s2).imp fin
  | int => exact (pe_callTy h hg hm hv ha hn hd s1 s2).imp fin
  | str => exact (pe_callTy h hg hm hv ha hn hd s1 s2).imp fin
  | tuple => exact (pe_callTy h hg hm hv ha hn hd s1 s2).imp fin
  | list => exact (pe_callTy h hg hm hv ha hn hd s1 s2).imp fin
/-- a built-in function under a name of the module -/
theorem e_bfn {x : Str} {e : PySem.Expr} {es : List PySem.Expr} {ces : Es} {p : Pos} (hH : Hold Γ W md k X) (hg : Gl X x) (hm : X.mg x = some (.builtin "math.gcd")) (hd : (x == ("__debug__" : Str)) = false)
    (hs : ∀ e' ∈ e :: es, nst e' = true) (ha : PA X (e :: es) (tEs Γ W ces)) : PE X (.Call (.Name x p) (e :: es) [] pos) (tE Γ W (.blt .gcd ces)) :=
  (pe_callBfun (op_blt (Γ := Γ) (X := X) hH.hK .gcd fun z => nomatch z) hg hm ha hd (star_of (hs e List.mem_cons_self)) (stars_of fun e' he => hs e' (List.mem_cons_of_mem _ he))).imp fun σ H Q ⟨μ, env, S, rs, re, h⟩ =>
    ⟨μ, env, S, rs, re, h.bind fun ds S1 μ1 H1 e1 r1 h1 vs rvs => ⟨_, μ1, S1, ds, r1, rvs, h1⟩⟩
theorem e_isi {t : Ty} {y : Str} {p q : Pos} (hH : Hold Γ W md k X) (hg : Gl X "isinstance") (hm : X.mg "isinstance" = none) (hg2 : Gl X y) (hm2 : X.mg y = none) (hv2 : bootBuiltins y = some (.type (tyN t))) (hn : y ≠ "__name__") (hd : (y == ("__debug__" : Str)) = false)
    (hs : nst a = true) (ha : PE X a (tE Γ W ca)) : PE X (.Call (.Name "isinstance" p) [a, .Name y q] [] pos) (tE Γ W (.isi ca t)) := by
  have hy : PE X (.Name y q) (tC (.ty (tyN t))) := pe_bltn hg2 hm2 hv2 rfl hn hd
  refine (pe_callB call_isi hg hm (by decide +kernel) (pa_cons ha (pa_cons hy pa_nil) (star_of hs)) (by decide) (by decide) (star_of hs) rfl).imp fun σ H Q ⟨μ, env, S, rs, re, h⟩ => ?_
  refine ⟨μ, env, S, rs, re, h.bind fun d S1 μ1 H1 e1 r1 h1 v rv => ?_⟩
  split at h1
  next b hb =>
    obtain ⟨w, tw, kw⟩ := op_isi hH.hK r1 rv hb
    exact ⟨v, .ty (tyN t), w, _, b, rfl, .ty _, tw, kw, h1.now r1 _ (.bl b)⟩
  · exact h1.elim

/-! methods -/
theorem few_of {env : PySem.Env} {pos : Pos} {es : List PySem.Expr} (h : ∀ e ∈ es, nst e = true) (hl : es.length < 29) :
    ((backTo pos (starEach es env)).all (fun x => !x.1) && (backToKw pos (keywordEach [] env)).all (fun x => x.1.isSome) && decide (es.length + ([] : List Keyword).length + (if ([] : List Keyword).isEmpty then 0 else 1) < 30)) = true := by
  have h1 := stars_of (env := env) (pos := pos) h
  have h2 : (backTo pos (starEach es env)).all (fun x => !x.1) = true := by
    rw [List.all_eq_not_any_not]; simp [h1]
  rw [h2]
  simp [keywordEach, backToKw]
  omega
theorem mth_fin {m : Mth} {ces : Es} (hH : Hold Γ W md k X) (σ : L2.St) (H : Hp) (Q : VK) : tE Γ W (.mth m ca ces) σ H Q → tBM X.K (mthT m) (rMth Γ (opMth m)) (tE Γ W ca) (tEs Γ W ces) σ H Q := fun ⟨μ, env, S, rs, re, h⟩ =>
  ⟨μ, env, S, rs, re, h.bind fun d S1 μ1 H1 e1 r1 h1 v rv => by
    split at h1
    next hr => exact ⟨mth_ty hH.hK r1 rv hr, μ1, env, S1, r1, re.mono e1, h1.bind fun ds S2 μ2 H2 e2 r2 h2 vs rvs => ⟨_, μ2, S2, d, ds, r2, rv.mono e2, rvs, h2⟩⟩
    · exact h1.elim⟩
theorem e_mth {m : Mth} {e : PySem.Expr} {es : List PySem.Expr} {ces : Es} {apos : Pos} (hH : Hold Γ W md k X) (hbase : attributeBase a (mthN m) X.env (eval a X.env) = eval a X.env) (hline : (apos.endLine == pos.line) = true)
    (hs : ∀ e' ∈ e :: es, nst e' = true) (hl : (e :: es).length < 29) (ha : PE X a (tE Γ W ca)) (hA : PA X (e :: es) (tEs Γ W ces)) : PE X (.Call (.Attribute a (mthN m) apos) (e :: es) [] pos) (tE Γ W (.mth m ca ces)) := by
  have h := op_mth (Γ := Γ) (X := X) hH.hK m
  have s1 := star_of (env := X.env) (es := es) (hs e List.mem_cons_self)
  have s2 := stars_of (env := X.env) (pos := pos) fun e' he => hs e' (List.mem_cons_of_mem _ he)
  have s3 := few_of (env := X.env) (pos := pos) hs hl
  cases m with
  | append => exact (pe_bm PySem.F.plainAttrs_list PySem.F.slot_list_append PySem.F.type_list_append h ha hA hbase s3 hline s1 s2).imp (mth_fin hH)
  | pop => exact (pe_bm PySem.F.plainAttrs_list PySem.F.slot_list_pop PySem.F.type_list_pop h ha hA hbase s3 hline s1 s2).imp (mth_fin hH)
  | extend => exact (pe_bm PySem.F.plainAttrs_list PySem.F.slot_list_extend PySem.F.type_list_extend h ha hA hbase s3 hline s1 s2).imp (mth_fin hH)
  | join => exact (pe_bm PySem.F.plainAttrs_str PySem.F.slot_str_join PySem.F.type_str_join h ha hA hbase s3 hline s1 s2).imp (mth_fin hH)
  | split => exact (pe_bm PySem.F.plainAttrs_str PySem.F.slot_str_split PySem.F.type_str_split h ha hA hbase s3 hline s1 s2).imp (mth_fin hH)
  | partition => exact (pe_bm PySem.F.plainAttrs_str PySem.F.slot_str_partition PySem.F.type_str_partition h ha hA hbase s3 hline s1 s2).imp (mth_fin hH)
  | startswith => exact (pe_bm PySem.F.plainAttrs_str PySem.F.slot_str_startswith PySem.F.type_str_startswith h ha hA hbase s3 hline s1 s2).imp (mth_fin hH)
  | update => exact (pe_bm PySem.F.plainAttrs_dict PySem.F.slot_dict_update PySem.F.type_dict_update h ha hA hbase s3 hline s1 s2).imp (mth_fin hH)
theorem mth_fin0 {m : Mth} (hH : Hold Γ W md k X) (σ : L2.St) (H : Hp) (Q : VK) : tE Γ W (.mth m ca .nil) σ H Q → tBM0 X.K (mthT m) (rMth Γ (opMth m)) (tE Γ W ca) σ H Q := fun ⟨μ, env, S, rs, re, h⟩ =>
  ⟨μ, env, S, rs, re, h.bind fun d S1 μ1 H1 e1 r1 h1 v rv => by
    split at h1
    next hr => exact ⟨mth_ty hH.hK r1 rv hr, _, μ1, S1, d, [], r1, rv, .nil, h1⟩
    · exact h1.elim⟩
theorem e_mth0 {m : Mth} {apos : Pos} (hH : Hold Γ W md k X) (hbase : attributeBase a (mthN m) X.env (eval a X.env) = eval a X.env) (hline : (apos.endLine == pos.line) = true) (ha : PE X a (tE Γ W ca)) : PE X (.Call (.Attribute a (mthN m) apos) [] [] pos) (tE Γ W (.mth m ca .nil)) := by
  have h := op_mth (Γ := Γ) (X := X) hH.hK m
  cases m with
  | append => exact (pe_bm0 PySem.F.plainAttrs_list PySem.F.slot_list_append PySem.F.type_list_append h ha hbase hline).imp (mth_fin0 hH)
  | pop => exact (pe_bm0 PySem.F.plainAttrs_list PySem.F.slot_list_pop PySem.F.type_list_pop h ha hbase hline).imp (mth_fin0 hH)
  | extend => exact (pe_bm0 PySem.F.plainAttrs_list PySem.F.slot_list_extend PySem.F.type_list_extend h ha hbase hline).imp (mth_fin0 hH)
  | join => exact (pe_bm0 PySem.F.plainAttrs_str PySem.F.slot_str_join PySem.F.type_str_join h ha hbase hline).imp (mth_fin0 hH)
  | split => exact (pe_bm0 PySem.F.plainAttrs_str PySem.F.slot_str_split PySem.F.type_str_split h ha hbase hline).imp (mth_fin0 hH)
  | partition => exact (pe_bm0 PySem.F.plainAttrs_str PySem.F.slot_str_partition PySem.F.type_str_partition h ha hbase hline).imp (mth_fin0 hH)
  | startswith => exact (pe_bm0 PySem.F.plainAttrs_str PySem.F.slot_str_startswith PySem.F.type_str_startswith h ha hbase hline).imp (mth_fin0 hH)
  | update => exact (pe_bm0 PySem.F.plainAttrs_dict PySem.F.slot_dict_update PySem.F.type_dict_update h ha hbase hline).imp (mth_fin0 hH)

/-! subscripts -/
theorem _root_.L2.PE.or {e : PySem.Expr} {t t' : TE} (h : PE X e t) (h' : PE X e t') : PE X e (fun σ H Q => t σ H Q ∨ t' σ H Q) := ⟨fun pins s σ H Q I q => q.elim (h.run pins s σ H Q I) (h'.run pins s σ H Q I)⟩
theorem e_ix (hH : Hold Γ W md k X) (ha : PE X a (tE Γ W ca)) (hb : PE X b (tE Γ W cb)) (hs : PlainIx b) : PE X (.Subscript a b pos) (tE Γ W (.ix ca cb)) :=
  ((pe_ix (op_ix hH.hK) ha hb hs).or (pe_dget (by have := hH.units; omega) ha hb hs)).imp fun σ H Q ⟨μ, env, S, rs, re, h⟩ => by
    cases hE : evE Γ.F env ca S with
    | stuck => simp only [evE, hE] at h; exact h.elim
    | exc x S1 =>
      simp only [evE, hE] at h
      exact .inl ⟨μ, env, S, rs, re, by rw [hE]; exact h⟩
    | ok d S1 =>
      cases hE2 : evE Γ.F env cb S1 with
      | stuck => simp only [evE, hE, hE2, R.bind_ok] at h; exact h.elim
      | exc x S2 =>
        simp only [evE, hE, hE2, R.bind_ok] at h
        refine .inl ⟨μ, env, S, rs, re, ?_⟩
        rw [hE]
        exact fun μ1 H1 e1 r1 v rv => ⟨μ1, env, S1, r1, re.mono e1, by rw [hE2]; exact Aft.mono h e1⟩
      | ok d2 S2 =>
        simp only [evE, hE, hE2, R.bind_ok, opIx] at h
        split at h
        next kvs hd =>
          split at h
          next k hk =>
            split at h
            next dv hv =>
              refine .inr ⟨μ, env, S, rs, re, ?_⟩
              rw [hE]
              refine fun μ1 H1 e1 r1 v rv => ⟨μ1, env, S1, r1, re.mono e1, ?_⟩
              rw [hE2]
              intro μ2 H2 e2 r2 w rw'
              obtain ⟨a, vs, rfl, g2, g3⟩ := dic_of r2 (rv.mono e2) hd
              have ey := key_of rw' hk
              subst ey
              rcases g3.val (k := k) with ⟨q1, q2⟩ | ⟨d3, w3, q1, q2, q3⟩
              · rw [q1] at hv; cases hv
              · rw [q1] at hv; cases hv
                exact ⟨a, w3, rfl, q2 ▸ DGet.k g2, (Aft.mono h (e1.trans e2)).now r2 _ q3⟩
            · exact h.elim
          · exact h.elim
        · refine .inl ⟨μ, env, S, rs, re, ?_⟩
          rw [hE]
          refine fun μ1 H1 e1 r1 v rv => ⟨μ1, env, S1, r1, re.mono e1, ?_⟩
          rw [hE2]
          exact fun μ2 H2 e2 r2 w rw' => ⟨_, μ2, S2, d, d2, r2, rv.mono e2, rw', Aft.mono h (e1.trans e2)⟩
theorem e_dnew : PE X (.Dict [] [] pos) (tE Γ W .dnew) := pe_dnewK.imp fun σ H Q ⟨μ, env, S, rs, re, h⟩ p hp =>
  h (μ ++ [p]) (upd H p (.dK [])) (Ext.newCell hp) (rs.newDic hp) _ (.ref rs.newRef)
theorem _root_.L2.PO.imp {e : Option PySem.Expr} {t t' : TO} (h : PO X e t) (k : ∀ σ H Q, t' σ H Q → t σ H Q) : PO X e t' := ⟨fun pins s σ H Q I q => h.run pins s σ H Q I (k σ H Q q)⟩
theorem o_no : PO X none (tO Γ W .no) := po_none.imp fun σ H Q ⟨μ, env, S, rs, re, h⟩ => h.now rs
theorem o_so (ha : PE X a (tE Γ W ca)) : PO X (some a) (tO Γ W (.so ca)) := (po_some ha).imp fun σ H Q ⟨μ, env, S, rs, re, h⟩ =>
  ⟨μ, env, S, rs, re, h.bind fun d S1 μ1 H1 e1 r1 h1 v rv => by
    split at h1
    · cases rv; exact ⟨_, rfl, h1.now r1⟩
    · exact h1.elim⟩
theorem e_slc (hH : Hold Γ W md k X) {lo hi : Option PySem.Expr} {cl ch : Oe} {p2 : Pos} (ha : PE X a (tE Γ W ca)) (hl : PO X lo (tO Γ W cl)) (hh : PO X hi (tO Γ W ch)) : PE X (.Subscript a (.Slice lo hi none p2) pos) (tE Γ W (.slc ca cl ch)) :=
  (pe_slice (op_sl hH.hK) ha hl hh).imp fun σ H Q ⟨μ, env, S, rs, re, h⟩ =>
    ⟨μ, env, S, rs, re, h.bind fun d S1 μ1 H1 e1 r1 h1 v rv => ⟨μ1, env, S1, r1, re.mono e1, h1.bind fun l S2 μ2 H2 e2 r2 h2 =>
      ⟨μ2, env, S2, r2, re.mono (e1.trans e2), h2.bind fun u S3 μ3 H3 e3 r3 h3 => ⟨_, μ3, S3, d, r3, rv.mono (e2.trans e3), h3⟩⟩⟩⟩
end
end PD
end

section
set_option linter.all false
set_option maxRecDepth 100000
set_option maxHeartbeats 1000000
/-! PDenum: enumerate of a tuple. -/
namespace PD
open PySem L2 PyProof.Rows

/-- the cell of a new enumerate -/
def enObj (i : Addr) : Obj := ⟨.type "enumerate", none, .fields #[.none, .bool false, .ref i, rawInt 0, .none, .none], #[]⟩
theorem enumNew1 {v : Value} {ob : Obj} {Hd : Heap → Prop} (B : Begins v ob Hd) :
    Meets (Builtin.«enumerate.__new__» ⟨[.type "enumerate", v], []⟩) (fun _ R s => Hd s.heap ∧ R (.ok (.ret (.ref (s.heap.push ob).objs.size))) { s with heap := (s.heap.push ob).push (enObj s.heap.objs.size) }) :=
  .of_wp fun prog w A R s hh => by
    obtain ⟨hp, gg, dd, tk, oo⟩ := s; obtain ⟨hb, hr⟩ := hh
    have sub := sub_enumerate
    have qi : ∀ {A' : Around} {E' : Value → Shared → Prop} {Q' : Value → Shared → Prop}, Q' (.ref hp.objs.size) ⟨hp.push ob, gg, dd, tk, oo⟩ → wpAny (model prog w) A' (pyIter v) Q' E' ⟨hp, gg, dd, tk, oo⟩ :=
      fun q => B.iter prog w _ _ ⟨hp, gg, dd, tk, oo⟩ _ hb q
    wp_walk using qi
    refine wpAny_stack_any fun _ => wpAny_pure ?_
    split
    · rename_i cc _ _ _ _ _
      cases (cc == Value.type "enumerate")
      · (wp_walk using qi); exact ⟨_, rfl, hr⟩
      · (wp_walk using qi); exact ⟨_, rfl, hr⟩
    · (wp_walk using qi); exact ⟨_, rfl, hr⟩
section
variable {prog : Program} {w : World} {A : Around} {E : Value → Shared → Prop} {s : Shared}
/-- enumerate(t): its two new cells -/
theorem call_enumT {t : Addr} {items : Array Value} {Q : Value → Shared → Prop} (hT : s.heap.IsTuple t items)
    (hq : ∀ h', IsEnum h' (s.heap.objs.size + 1) s.heap.objs.size 0 .none → h'.IsTupleIter s.heap.objs.size t 0 → h'.objs.size = s.heap.objs.size + 2 → (∀ b ob, s.heap.get? b = some ob → h'.get? b = some ob) → Q (.ref (s.heap.objs.size + 1)) { s with heap := h' }) :
    wpAny (model prog w) A (call (.type "enumerate") [.ref t]) Q E s := by
  refine callType_new F.called_enumerate (by decide) (F.typeCall_enumerate_1 _) (F.newCall_enumerate_1 _) (fun ob => F.args_object_init_2 ob _) F.entry_enumerate_new (enumNew1 (begins_tuple t items)) ⟨hT, ?_⟩
  have hz : (s.heap.push { cls := .type "tuple_iterator", data := .fields #[.ref t, .int 0 0] }).objs.size = s.heap.objs.size + 1 := Heap.size_push ..
  show _ ∧ _
  rw [hz]
  have he : IsEnum ((s.heap.push { cls := .type "tuple_iterator", data := .fields #[.ref t, .int 0 0] }).push (enObj s.heap.objs.size)) (s.heap.objs.size + 1) s.heap.objs.size 0 .none := by
    have h0 := Heap.get?_push_size (s.heap.push { cls := .type "tuple_iterator", data := .fields #[.ref t, .int 0 0] }) (o := enObj s.heap.objs.size) rfl
    rw [hz] at h0; exact h0
  exact ⟨⟨_, he, rfl⟩, hq _ he ⟨_, Heap.get?_push_of_some _ (Heap.get?_push_size _ rfl), rfl, rfl⟩ (by rw [Heap.size_push, hz]) fun b ob x => Heap.get?_push_of_some _ (Heap.get?_push_of_some _ x)⟩
end
/-- the tuple at a, each item in a new pair -/
def IteT (K : PySem.W.Frag) (a : Addr) : It :=
  ⟨fun i H => ∃ (us : List V) (x : V), SqT K H a us ∧ us[i]? = some x, fun i H v H' => ∃ T x, v = .ref T ∧ H T = none ∧ H' = upd H T (.tup [.int (i : Nat), x]) ∧ ∀ us, SqT K H a us → us[i]? = some x, fun i H => ∃ us : List V, SqT K H a us ∧ us.length ≤ i⟩
theorem tup_ne_it {h : Heap} {a it t : Addr} {i : Nat} {items : Array Value} (p : h.IsTuple a items) (q : h.IsTupleIter it t i) : a ≠ it := by
  rintro rfl
  obtain ⟨o1, e1, c1, _⟩ := p
  obtain ⟨o2, e2, c2, _⟩ := q
  rw [e1] at e2; cases e2
  rw [c1] at c2
  exact absurd c2 (by decide)
theorem tup_ne_en {h : Heap} {a e it : Addr} {k : Int} {old : Value} {items : Array Value} (p : h.IsTuple a items) (q : IsEnum h e it k old) : e ≠ a := by
  rintro rfl
  obtain ⟨o1, e1, c1, _⟩ := p
  have e2 := e1.symm.trans q
  cases e2
  exact absurd (show Value.type "enumerate" = Value.type "tuple" from c1) (by decide)
theorem drawsEnd {prog : Program} {w : World} {A : Around} (hh : A.handled = none) (it t : Addr) (items : Array Value) (i : Nat) (hn : items[i]? = none) :
    Draws prog w A it [it, t] i (fun _ _ => False) (fun j h => j = i ∧ h.IsTupleIter it t i ∧ h.IsTuple t items) where
  live := fun _ _ st => let ⟨ob, ho, _⟩ := st.2.1; ⟨ob, ho⟩
  frame := fun _ _ _ st hk => ⟨st.1, st.2.1.at fun ob e => hk it (by simp) ob e, st.2.2.at fun ob e => hk t (by simp) ob e⟩
  item := fun j s Q E hj st _ => absurd st.1 (Nat.ne_of_lt hj)
  done := fun s Q E st hE => wpAny_nextOf_tuple_end hh st.2.1 st.2.2 hn hE
theorem turn_enumT {P : Program} {w : World} {K : PySem.W.Frag} {elts : List PySem.Expr} {kk : Nat} {tpos : Pos} (a e it : Addr) :
    Turn P w K (.Tuple elts kk tpos) (IteT K a) [e, it] e (fun i h => (∃ old, IsEnum h e it ((i : Nat) : Int) old) ∧ h.IsTupleIter it a i ∧ e ≠ it) where
  mem := by simp
  obj := fun i h st b hb => by
    obtain ⟨⟨old, he⟩, ⟨ob, ho, _, hd⟩, _⟩ := st
    have hor : b = e ∨ b = it := by simpa using hb
    rcases hor with z | z
    · rw [z]; exact ⟨_, he, fun v q => nomatch q⟩
    · rw [z]; exact ⟨ob, ho, fun v q => by rw [hd] at q; cases q⟩
  keep := fun i h h' ⟨⟨old, he⟩, hi, hne⟩ k => ⟨⟨old, k e (by simp) _ he⟩, hi.at fun ob q => k it (by simp) ob q, hne⟩
  item := by
    rintro X hP hw hK hc i pins s σ H E I hf ⟨⟨old, he⟩, hit, hne⟩ ⟨us, x, hq, hx⟩
    subst hP hw hK
    obtain ⟨its, rv, p, _⟩ := I.tuple hq
    obtain ⟨u, hu, ru⟩ := rv.get hx
    have hel : e < s.heap.objs.size := Heap.lt_size he
    have hil : it < s.heap.objs.size := by obtain ⟨_, q, _⟩ := hit; exact Heap.lt_size q
    have hd : X.A.in1.handled = none := I.ok.hd hc
    have hi : i < its.toArray.size := by
      have := (List.getElem?_eq_some_iff.mp hu).1
      simpa using this
    refine wpAny_pyNext_enum_itemD (Draws.tuple hd it a (tup_ne_it p hit) its.toArray) he ⟨hit, p⟩ hi hne (by simp [hne, tup_ne_en p he]) fun y h' tk hy ho st' hT hsz hk => ?_
    have : y = u := by
      have e2 : its[i]? = some y := by simpa using hy
      rw [hu] at e2; exact (Option.some.inj e2).symm
    subst this
    refine ⟨_, rfl, wpAny_letOwnedTupleGo_enum (s := { s with heap := h', toks := tk + 1 }) ho fun h2 he' sb => ?_⟩
    have hT2 : h2.get? s.heap.objs.size = some ⟨.type "tuple", none, .seq #[.int i tk, y], #[]⟩ := (sb.2 _ (Nat.ne_of_gt hel)).trans hT
    have nw : ObjOk X.prog X.w (upd H s.heap.objs.size (.tup [.int (i : Nat), x])) h2 s.heap.objs.size (.tup [.int (i : Nat), x]) :=
      ⟨by show 2 ≤ sizeLine; decide, [.int i tk, y], .cons ⟨_, rfl⟩ (.cons ru .nil), ⟨_, hT2, rfl, _, rfl⟩⟩
    have I1 := I.turnedNew (t' := tk + 1) (h' := h2) (ch := [e, it]) (fun b ob hb q => (sb.2 b (fun z => hb (by simp [z]))).trans (hk b ob (fun z => hb (by simp [z])) (fun z => hb (by simp [z])) q)) hf (Nat.le_refl _) nw
    refine ⟨.ref s.heap.objs.size, _, I1, rfl, ⟨_, x, rfl, I.hok.fresh (Nat.le_refl _), rfl, fun ys hy => by rw [I.tuple_inj hy hq]; exact hx⟩, ⟨⟨y, ?_⟩, st'.1.at fun ob q => (sb.2 it (Ne.symm hne)).trans q, hne⟩, fun b hb => ?_⟩
    · have e1 : ((i + 1 : Nat) : Int) = (i : Int) + 1 := by omega
      rw [e1]; exact he'
    · have hlt : b < s.heap.objs.size := by
        have hor : b = e ∨ b = it := by simpa using hb
        rcases hor with z | z <;> rw [z] <;> assumption
      rw [upd_ne (Nat.ne_of_lt hlt)]
      exact (hf b hb).1
  done := by
    rintro X hP hw hK hc i pins s σ H E I hf ⟨⟨old, he⟩, hit, hne⟩ ⟨us, hq, hx⟩
    subst hP hw hK
    obtain ⟨its, rv, p, _⟩ := I.tuple hq
    obtain ⟨f0, f1, f2, f3, f4, f5⟩ := hf it (by simp)
    have hlen := rv.length
    have hnone : its.toArray[i]? = none := by simp; omega
    have hd : X.A.in1.handled = none := I.ok.hd hc
    exact wpAny_pyNext_enum_endD (drawsEnd hd it a its.toArray i hnone) he ⟨rfl, hit, p⟩ fun h' eb => ⟨rfl, I.turned (t' := s.toks) (fun b ob hb q => eb b ob hb q) f0 f1 f3 f4 f5⟩
  self := fun A i s Q E ⟨⟨_, he⟩, _⟩ h => wpAny_pyIter_enum he h
def iEnumT (K : PySem.W.Frag) (ta : TA) : TI := fun σ H R => ta σ H fun vs H1 => ∃ a us, vs = [.ref a] ∧ SqT K H1 a us ∧ R (IteT K a) H1
theorem pi_enumT {X : Cx} {e : PySem.Expr} {ta : TA} {p pos tpos : Pos} {elts : List PySem.Expr} {kk : Nat} (hg : Gl X "enumerate") (hm : X.mg "enumerate" = none) (ha : PA X [e] ta) (hs : starEach [e] X.env = [(false, eval e X.env)] := by rfl) :
    PI X (.Tuple elts kk tpos) (.Call (.Name "enumerate" p) [e] [] pos) (iEnumT X.K ta) := by
  refine ⟨fun pins s σ H Rr I hr => ?_⟩
  refine Call_ (ld_blt I hg hm boot_enumerate (PyProof.Rows.callWith_type1 (thn (ha.run pos pins s σ H _ I hr) fun us s1 ⟨vs, H1, I1, r1, a, xs, ex, hq, q⟩ => ?_) hs rfl))
  subst ex
  cases r1 with
  | cons r rr =>
    cases rr
    cases r
    obtain ⟨its, rv, p1, _⟩ := I1.tuple hq
    refine call_enumT p1 fun h' he hit hsz hk => wpAny_pyIter_enum he ?_
    have I2 := I1.kept (h' := h') (t' := s1.toks) hk
    refine ⟨s1.heap.objs.size + 1, [s1.heap.objs.size + 1, s1.heap.objs.size], _, _, H1, rfl, I2, turn_enumT a _ _, ⟨⟨.none, he⟩, hit, Nat.succ_ne_self _⟩, fun b hb => ?_, q⟩
    have hle : s1.heap.objs.size ≤ b := by
      have hor : b = s1.heap.objs.size + 1 ∨ b = s1.heap.objs.size := by simpa using hb
      rcases hor with z | z <;> rw [z]
      · exact Nat.le_succ _
      · exact Nat.le_refl _
    exact I1.fpOk hle (I1.hok.fresh hle)
end PD
end

section
set_option linter.all false
set_option maxRecDepth 100000
set_option maxHeartbeats 1000000
/-! PDenumS: enumerate of a text. -/
namespace PD
open PySem L2 PyProof.Rows
/-- the text x, each sign in a new pair -/
def IteS (x : Str) : It :=
  ⟨fun i H => i < x.cps.size, fun i H v H' => ∃ T c, v = .ref T ∧ H T = none ∧ x.cps[i]? = some c ∧ H' = upd H T (.tup [.int (i : Nat), .str ⟨#[c]⟩]), fun i H => x.cps.size ≤ i⟩
theorem drawsEndS {prog : Program} {w : World} {A : Around} (hh : A.handled = none) (it : Addr) (x : Str) (t : Tok) (ty : String) (hty : ty = "str_ascii_iterator" ∨ ty = "str_iterator") (i : Nat) (hn : x.cps[i]? = none) :
    Draws prog w A it [it] i (fun _ _ => False) (fun j h => j = i ∧ h.IsStrIter it ty x t i) where
  live := fun _ _ st => let ⟨ob, ho, _⟩ := st.2; ⟨ob, ho⟩
  frame := fun _ _ _ st hk => let ⟨o, ho, r⟩ := st.2; ⟨st.1, o, hk it (by simp) o ho, r⟩
  item := fun j s Q E hj st _ => absurd st.1 (Nat.ne_of_lt hj)
  done := fun s Q E st hE => by
    rcases hty with e | e
    · subst e; exact wpAny_nextOf_ascii_end hh st.2 hn hE
    · subst e; exact wpAny_nextOf_wide_end hh st.2 hn hE
theorem turn_enumS {P : Program} {w : World} {K : PySem.W.Frag} {elts : List PySem.Expr} {kk : Nat} {tpos : Pos} (x : Str) (t : Tok) (ty : String) (hty : ty = "str_ascii_iterator" ∨ ty = "str_iterator") (e it : Addr) :
    Turn P w K (.Tuple elts kk tpos) (IteS x) [e, it] e (fun i h => (∃ old, IsEnum h e it ((i : Nat) : Int) old) ∧ h.IsStrIter it ty x t i ∧ e ≠ it) where
  mem := by simp
  obj := fun i h st b hb => by
    obtain ⟨⟨old, he⟩, ⟨ob, ho, _, hd⟩, _⟩ := st
    have hor : b = e ∨ b = it := by simpa using hb
    rcases hor with z | z
    · rw [z]; exact ⟨_, he, fun v q => nomatch q⟩
    · rw [z]; exact ⟨ob, ho, fun v q => by rw [hd] at q; cases q⟩
  keep := fun i h h' ⟨⟨old, he⟩, ⟨o, ho, r⟩, hne⟩ k => ⟨⟨old, k e (by simp) _ he⟩, ⟨o, k it (by simp) o ho, r⟩, hne⟩
  item := by
    rintro X hP hw hK hc i pins s σ H E I hf ⟨⟨old, he⟩, hit, hne⟩ hi
    subst hP hw hK
    have hel : e < s.heap.objs.size := Heap.lt_size he
    have hil : it < s.heap.objs.size := by obtain ⟨_, q, _⟩ := hit; exact Heap.lt_size q
    have hd : X.A.in1.handled = none := I.ok.hd hc
    have D : Draws X.prog X.w X.A.in1 it [it] x.cps.size (fun i v => ∃ c u, x.cps[i]? = some c ∧ v = .str ⟨#[c]⟩ u) (fun i h => h.IsStrIter it ty x t i) := by
      rcases hty with z | z
      · subst z; exact Draws.strAscii hd it x t
      · subst z; exact Draws.strWide hd it x t
    refine wpAny_pyNext_enum_itemD D he hit hi hne (by simp [hne]) fun y h' tk hy ho st' hT hsz hk => ?_
    obtain ⟨c, u, hcx, rfl⟩ := hy
    refine ⟨_, rfl, wpAny_letOwnedTupleGo_enum (s := { s with heap := h', toks := tk + 1 }) ho fun h2 he' sb => ?_⟩
    have hT2 : h2.get? s.heap.objs.size = some ⟨.type "tuple", none, .seq #[.int i tk, .str ⟨#[c]⟩ u], #[]⟩ := (sb.2 _ (Nat.ne_of_gt hel)).trans hT
    have nw : ObjOk X.prog X.w (upd H s.heap.objs.size (.tup [.int (i : Nat), .str ⟨#[c]⟩])) h2 s.heap.objs.size (.tup [.int (i : Nat), .str ⟨#[c]⟩]) :=
      ⟨by show 2 ≤ sizeLine; decide, [.int i tk, .str ⟨#[c]⟩ u], .cons ⟨_, rfl⟩ (.cons ⟨_, rfl⟩ .nil), ⟨_, hT2, rfl, _, rfl⟩⟩
    have I1 := I.turnedNew (t' := tk + 1) (h' := h2) (ch := [e, it]) (fun b ob hb q => (sb.2 b (fun z => hb (by simp [z]))).trans (hk b ob (fun z => hb (by simp [z])) (fun z => hb (by simp [z])) q)) hf (Nat.le_refl _) nw
    refine ⟨.ref s.heap.objs.size, _, I1, rfl, ⟨_, c, rfl, I.hok.fresh (Nat.le_refl _), hcx, rfl⟩, ⟨⟨.str ⟨#[c]⟩ u, ?_⟩, ?_, hne⟩, fun b hb => ?_⟩
    · have e1 : ((i + 1 : Nat) : Int) = (i : Int) + 1 := by omega
      rw [e1]; exact he'
    · obtain ⟨o, ho2, r⟩ := st'
      exact ⟨o, (sb.2 it (Ne.symm hne)).trans ho2, r⟩
    · have hlt : b < s.heap.objs.size := by
        have hor : b = e ∨ b = it := by simpa using hb
        rcases hor with z | z <;> rw [z] <;> assumption
      rw [upd_ne (Nat.ne_of_lt hlt)]
      exact (hf b hb).1
  done := by
    rintro X hP hw hK hc i pins s σ H E I hf ⟨⟨old, he⟩, hit, hne⟩ hx
    subst hP hw hK
    obtain ⟨f0, f1, f2, f3, f4, f5⟩ := hf it (by simp)
    have hnone : x.cps[i]? = none := Array.getElem?_eq_none hx
    have hd : X.A.in1.handled = none := I.ok.hd hc
    exact wpAny_pyNext_enum_endD (drawsEndS hd it x t ty hty i hnone) he ⟨rfl, hit⟩ fun h' eb => ⟨rfl, I.turned (t' := s.toks) (fun b ob hb q => eb b ob hb q) f0 f1 f3 f4 f5⟩
  self := fun A i s Q E ⟨⟨_, he⟩, _⟩ h => wpAny_pyIter_enum he h
def iEnumS (ta : TA) : TI := fun σ H R => ta σ H fun vs H1 => ∃ x, vs = [.str x] ∧ R (IteS x) H1
theorem strIter_or (x : Str) : strIterType x = "str_ascii_iterator" ∨ strIterType x = "str_iterator" := by
  unfold strIterType
  split
  · exact .inl rfl
  · exact .inr rfl
theorem pi_enumS {X : Cx} {e : PySem.Expr} {ta : TA} {p pos tpos : Pos} {elts : List PySem.Expr} {kk : Nat} (hg : Gl X "enumerate") (hm : X.mg "enumerate" = none) (ha : PA X [e] ta) (hs : starEach [e] X.env = [(false, eval e X.env)] := by rfl) :
    PI X (.Tuple elts kk tpos) (.Call (.Name "enumerate" p) [e] [] pos) (iEnumS ta) := by
  refine ⟨fun pins s σ H Rr I hr => ?_⟩
  refine Call_ (ld_blt I hg hm boot_enumerate (PyProof.Rows.callWith_type1 (thn (ha.run pos pins s σ H _ I hr) fun us s1 ⟨vs, H1, I1, r1, x, ex, q⟩ => ?_) hs rfl))
  subst ex
  cases r1 with
  | cons r rr =>
    cases rr
    obtain ⟨t, rfl⟩ := r
    refine call_enumerate_str fun h' he hit hsz hk => wpAny_pyIter_enum he ?_
    have I2 := I1.kept (h' := h') (t' := s1.toks) hk
    refine ⟨s1.heap.objs.size + 1, [s1.heap.objs.size + 1, s1.heap.objs.size], _, _, H1, rfl, I2, turn_enumS x t _ (strIter_or x) _ _, ⟨⟨.none, he⟩, hit, Nat.succ_ne_self _⟩, fun b hb => ?_, q⟩
    have hle : s1.heap.objs.size ≤ b := by
      have hor : b = s1.heap.objs.size + 1 ∨ b = s1.heap.objs.size := by simpa using hb
      rcases hor with z | z <;> rw [z]
      · exact Nat.le_succ _
      · exact Nat.le_refl _
    exact I1.fpOk hle (I1.hok.fresh hle)
end PD
end

section
set_option linter.all false
set_option maxRecDepth 100000
set_option maxHeartbeats 1000000
/-! PDloop: targets, what is walked, comprehensions. -/
namespace PD
open PySem L2

/-! ### targets -/
mutual
def slT : Tg → List Nat
  | .nm i => [i]
  | .tp ts => slTs ts
def slTs : Tgs → List Nat
  | .nil => []
  | .cons t ts => slT t ++ slTs ts
end
/-- the same but for some slots -/
def Sm (l : List Nat) (σ σ' : L2.St) : Prop := σ'.length = σ.length ∧ ∀ i, i ∉ l → σ'[i]? = σ[i]?
theorem Sm.trans {l m : List Nat} {σ σ1 σ2 : L2.St} (a : Sm l σ σ1) (b : Sm m σ1 σ2) : Sm (l ++ m) σ σ2 :=
  ⟨b.1.trans a.1, fun i h => by
    simp only [List.mem_append, not_or] at h
    rw [b.2 i h.2, a.2 i h.1]⟩
def tG (Γ : Gd) (t : Tg) : TG := fun v σ H Q => ∃ μ env S d env', RepS Γ.K μ H S ∧ RepE Γ μ H σ env ∧ RepV Γ.K μ H d v ∧ asgT S t d env = some env' ∧ ∀ σ', RepE Γ μ H σ' env' → Sm (slT t) σ σ' → Q σ' H
def tGs (Γ : Gd) (ts : Tgs) : TGs := fun vs σ H Q => ∃ μ env S ds env', RepS Γ.K μ H S ∧ RepE Γ μ H σ env ∧ RepVs Γ.K μ H ds vs ∧ asgTs S ts ds env = some env' ∧ ∀ σ', RepE Γ μ H σ' env' → Sm (slTs ts) σ σ' → Q σ' H
def lenTs : Tgs → Nat
  | .nil => 0
  | .cons _ ts => lenTs ts + 1
theorem asgTs_len {S : Store} : ∀ {ts : Tgs} {ds : List D} {env env' : Env}, asgTs S ts ds env = some env' → ds.length = lenTs ts
  | .nil, [], _, _, _ => rfl
  | .nil, _ :: _, _, _, h => by simp [asgTs] at h
  | .cons _ _, [], _, _, h => by simp [asgTs] at h
  | .cons t ts, d :: ds, env, env', h => by
    simp only [asgTs] at h
    split at h
    · simp [lenTs, asgTs_len h]
    · cases h
section
variable {X : Cx} {Γ : Gd} {pos : Pos}
theorem _root_.L2.PG.imp {e : PySem.Expr} {t t' : TG} (h : PG X e t) (k : ∀ v σ H Q, t' v σ H Q → t v σ H Q) : PG X e t' := ⟨fun pins s σ H v u Q I r q => h.run pins s σ H v u Q I r (k v σ H Q q)⟩
theorem _root_.L2.PGs.imp {e : List PySem.Expr} {t t' : TGs} (h : PGs X e t) (k : ∀ v σ H Q, t' v σ H Q → t v σ H Q) : PGs X e t' := ⟨fun pins s σ H v u Q I r q => h.run pins s σ H v u Q I r (k v σ H Q q)⟩
theorem _root_.L2.PG.or {e : PySem.Expr} {t t' : TG} (h : PG X e t) (h' : PG X e t') : PG X e (fun v σ H Q => t v σ H Q ∨ t' v σ H Q) := ⟨fun pins s σ H v u Q I r q => q.elim (h.run pins s σ H v u Q I r) (h'.run pins s σ H v u Q I r)⟩
theorem g_nm {i : Nat} {x : Str} (hN : X.N.Nodup) (hi : X.N[i]? = some x) (hx : Loc X.env.scope x) (hf : X.fn x = true ∨ X.env.scope.names.lookup x = some .local) : PG X (.Name x pos) (tG Γ (.nm i)) :=
  (pg_name hN hi hx hf).imp fun v σ H Q ⟨μ, env, S, d, env', rs, re, r, e, q⟩ => by
    simp only [asgT] at e; cases e
    exact q _ (re.set r) ⟨by simp, fun j hj => List.getElem?_set_ne (fun z => hj (by simp [slT, z]))⟩
theorem g_nil : PGs X [] (tGs Γ .nil) := pgs_nil.imp fun vs σ H Q ⟨μ, env, S, ds, env', rs, re, r, e, q⟩ => by
  cases r with
  | nil => simp only [asgTs] at e; cases e; exact ⟨rfl, q _ re ⟨rfl, fun _ _ => rfl⟩⟩
  | cons _ _ => simp [asgTs] at e
theorem asgEach_cons {e : PySem.Expr} {es : List PySem.Expr} {env : PySem.Env} (h : nst e = true) : assignEach (e :: es) env = (false, assign e env) :: assignEach es env := by
  cases e <;> first | rfl | cases h
theorem g_cons {e : PySem.Expr} {es : List PySem.Expr} {t : Tg} {ts : Tgs} (hs : nst e = true) (h1 : PG X e (tG Γ t)) (h2 : PGs X es (tGs Γ ts)) : PGs X (e :: es) (tGs Γ (.cons t ts)) :=
  (pgs_cons h1 h2 (by rw [asgEach_cons hs]; rfl)).imp fun vs σ H Q ⟨μ, env, S, ds, env', rs, re, r, e, q⟩ => by
    cases r with
    | nil => simp [asgTs] at e
    | cons r rr =>
      simp only [asgTs] at e
      split at e
      next env1 he => exact ⟨_, _, rfl, μ, env, S, _, env1, rs, re, r, he, fun σ' re' sm => ⟨μ, env1, S, _, env', rs, re', rr, e, fun σ2 re2 sm2 => q σ2 re2 (sm.trans sm2)⟩⟩
      · cases e
theorem asgEach_ok {env : PySem.Env} : ∀ {es : List PySem.Expr}, (∀ e ∈ es, nst e = true) → (assignEach es env).length = es.length ∧ (assignEach es env).findIdx? (·.1) = none
  | [], _ => ⟨rfl, rfl⟩
  | e :: es, h => by
    obtain ⟨h1, h2⟩ := asgEach_ok (env := env) fun e' he => h e' (List.mem_cons_of_mem _ he)
    rw [asgEach_cons (h e List.mem_cons_self)]
    refine ⟨by simp [h1], ?_⟩
    rw [List.findIdx?_cons]
    simp [h2]
theorem g_tp {es : List PySem.Expr} {ts : Tgs} {j : Nat} (hK : Γ.K = X.K) (hc : X.calm = true) (hs : ∀ e ∈ es, nst e = true) (hl : es.length = lenTs ts) (h : PGs X es (tGs Γ ts)) : PG X (.Tuple es j pos) (tG Γ (.tp ts)) :=
  ((pg_tup hc h (n := es.length) (asgEach_ok hs).1 (asgEach_ok hs).2).or (pg_unl hc h (n := es.length) (asgEach_ok hs).1 (asgEach_ok hs).2)).imp fun v σ H Q ⟨μ, env, S, d, env', rs, re, r, e, q⟩ => by
    simp only [asgT] at e
    split at e
    next ds hd =>
      obtain ⟨p, vs, rfl, hq, rv, _⟩ := items_of rs r hd
      rw [hK] at hq
      rcases hq with hq | hq
      · exact .inr ⟨_, _, rfl, hq, by rw [hl, ← rv.length, asgTs_len e], μ, env, S, _, env', rs, re, rv, e, fun σ' re' sm => q σ' re' sm⟩
      · exact .inl ⟨_, _, rfl, hq, by rw [hl, ← rv.length, asgTs_len e], μ, env, S, _, env', rs, re, rv, e, fun σ' re' sm => q σ' re' sm⟩
    · cases e
end

/-! ### what is walked -/
structure SrcOk (Γ : Gd) (src : Src) (J : It) (μ0 : List Addr) (H0 : Hp) : Prop where
  stop : ∀ i μ H S S', Ext μ0 H0 μ H → RepS Γ.K μ H S → src.nx i S = .ok none S' → J.stop i H
  go : ∀ i μ H S S' d, Ext μ0 H0 μ H → RepS Γ.K μ H S → src.nx i S = .ok (some d) S' → J.go i H ∧ ∀ x H', J.yld i H x H' → Ext μ H μ H' ∧ RepS Γ.K μ H' S ∧ RepV Γ.K μ H' d x ∧ ∀ a, H a ≠ none → H' a = H a
theorem nx_same {src : Src} {i : Nat} {S S' : Store} {o : Option D} (h : src.nx i S = .ok o S') : S' = S := by
  unfold Src.nx at h
  split at h
  · cases h; rfl
  · split at h
    · cases h; rfl
    · cases h
  · split at h
    · cases h; rfl
    · cases h
theorem nx_noexc {src : Src} {i : Nat} {S S' : Store} {x : Exn} : src.nx i S ≠ .exc x S' := by
  intro h
  unfold Src.nx at h
  split at h
  · cases h
  · split at h <;> cases h
  · split at h <;> cases h
section
variable {Γ : Gd} {μ : List Addr} {H : Hp} {a : Addr} {ds : List D} {vs : List V}
theorem src_tup (q : SqT Γ.K H a vs) (r : RepVs Γ.K μ H ds vs) : SrcOk Γ (.st ds) (Itt Γ.K a) μ H where
  stop := fun i μ' H' S S' e rs h => by
    simp only [Src.nx, R.ok.injEq] at h
    exact ⟨vs, e.sqT q, by rw [← r.length]; exact List.getElem?_eq_none_iff.mp h.1⟩
  go := fun i μ' H' S S' d e rs h => by
    simp only [Src.nx, R.ok.injEq] at h
    obtain ⟨v, hv, rv⟩ := r.get h.1
    refine ⟨⟨vs, v, e.sqT q, hv⟩, fun x H2 y => ?_⟩
    obtain ⟨rfl, y⟩ := y
    have := y vs (e.sqT q)
    rw [hv] at this; cases this
    exact ⟨Ext.refl _ _, rs, rv.mono e, fun _ _ => rfl⟩
theorem src_rol (q : SqF Γ.K H a vs) (r : RepVs Γ.K μ H ds vs) : SrcOk Γ (.st ds) (Itl Γ.K a) μ H where
  stop := fun i μ' H' S S' e rs h => by
    simp only [Src.nx, R.ok.injEq] at h
    exact ⟨vs, (e.sqF q).sq, by rw [← r.length]; exact List.getElem?_eq_none_iff.mp h.1⟩
  go := fun i μ' H' S S' d e rs h => by
    simp only [Src.nx, R.ok.injEq] at h
    obtain ⟨v, hv, rv⟩ := r.get h.1
    refine ⟨⟨vs, v, (e.sqF q).sq, hv⟩, fun x H2 y => ?_⟩
    obtain ⟨rfl, y⟩ := y
    have := y vs (e.sqF q).sq
    rw [hv] at this; cases this
    exact ⟨Ext.refl _ _, rs, rv.mono e, fun _ _ => rfl⟩
theorem src_str (z : Str) : SrcOk Γ (.st (strItems z)) (Its z) μ H where
  stop := fun i μ' H' S S' e rs h => by
    simp only [Src.nx, R.ok.injEq, strItems] at h
    have := List.getElem?_eq_none_iff.mp h.1
    show z.cps.size ≤ i
    simpa using this
  go := fun i μ' H' S S' d e rs h => by
    simp only [Src.nx, R.ok.injEq, strItems, List.getElem?_map, Option.map_eq_some_iff] at h
    obtain ⟨⟨c, hc, rfl⟩, _⟩ := h
    have hi := (List.getElem?_eq_some_iff.mp hc).1
    refine ⟨by show i < z.cps.size; simpa using hi, fun x H2 y => ?_⟩
    obtain ⟨rfl, c', hc', rfl⟩ := y
    have : c' = c := by
      have e2 : z.cps.toList[i]? = some c' := by simpa using hc'
      rw [hc] at e2; exact (Option.some.inj e2).symm
    subst this
    exact ⟨Ext.refl _ _, rs, .str _, fun _ _ => rfl⟩
theorem range_none {lo c : Int} {n i : Nat} (h : (rangeD lo c n)[i]? = none) : n ≤ i := by
  have := List.getElem?_eq_none_iff.mp h
  simpa [rangeD] using this
theorem range_some {lo c : Int} {n i : Nat} {d : D} (h : (rangeD lo c n)[i]? = some d) : i < n ∧ d = .int (lo + (i : Int) * c) := by
  simp only [rangeD, List.getElem?_map, Option.map_eq_some_iff] at h
  obtain ⟨j, hj, rfl⟩ := h
  have hi := (List.getElem?_eq_some_iff.mp hj).1
  simp at hi
  rw [List.getElem?_range hi] at hj
  cases hj
  exact ⟨hi, rfl⟩
theorem src_rng (lo : Int) (n : Nat) : SrcOk Γ (.st (rangeD lo 1 n)) (Itr lo n) μ H where
  stop := fun i μ' H' S S' e rs h => by
    simp only [Src.nx, R.ok.injEq] at h
    exact range_none h.1
  go := fun i μ' H' S S' d e rs h => by
    simp only [Src.nx, R.ok.injEq] at h
    obtain ⟨hi, rfl⟩ := range_some h.1
    refine ⟨hi, fun x H2 y => ?_⟩
    obtain ⟨rfl, rfl⟩ := y
    rw [Int.mul_one]
    exact ⟨Ext.refl _ _, rs, .int _, fun _ _ => rfl⟩
theorem src_rngC (lo c : Int) (n : Nat) : SrcOk Γ (.st (rangeD lo c n)) (Itc lo c n) μ H where
  stop := fun i μ' H' S S' e rs h => by
    simp only [Src.nx, R.ok.injEq] at h
    exact range_none h.1
  go := fun i μ' H' S S' d e rs h => by
    simp only [Src.nx, R.ok.injEq] at h
    obtain ⟨hi, rfl⟩ := range_some h.1
    refine ⟨hi, fun x H2 y => ?_⟩
    obtain ⟨rfl, rfl⟩ := y
    exact ⟨Ext.refl _ _, rs, .int _, fun _ _ => rfl⟩
theorem src_ls {n : Nat} (q : μ[n]? = some a) : SrcOk Γ (.ls n) (Itl Γ.K a) μ H where
  stop := fun i μ' H' S S' e rs h => by
    simp only [Src.nx] at h
    split at h
    next es hd =>
      simp only [R.ok.injEq] at h
      obtain ⟨b, ws, e1, e2, e3⟩ := rs.lst hd
      rw [e.get q] at e1; cases e1
      exact ⟨ws, SqL.of e2, by rw [← e3.length]; exact List.getElem?_eq_none_iff.mp h.1⟩
    · cases h
  go := fun i μ' H' S S' d e rs h => by
    simp only [Src.nx] at h
    split at h
    next es hd =>
      simp only [R.ok.injEq] at h
      obtain ⟨b, ws, e1, e2, e3⟩ := rs.lst hd
      rw [e.get q] at e1; cases e1
      obtain ⟨v, hv, rv⟩ := e3.get h.1
      refine ⟨⟨ws, v, SqL.of e2, hv⟩, fun x H2 y => ?_⟩
      obtain ⟨rfl, y⟩ := y
      have := y ws (SqL.of e2)
      rw [hv] at this; cases this
      exact ⟨Ext.refl _ _, rs, rv, fun _ _ => rfl⟩
    · cases h
/-- a new pair -/
theorem pair_new {S : Store} {T : Addr} {d1 d2 : D} {v1 v2 : V} {K : PySem.W.Frag} (rs : RepS K μ H S) (h : H T = none) (r1 : RepV K μ H d1 v1) (r2 : RepV K μ H d2 v2) :
    Ext μ H μ (upd H T (.tup [v1, v2])) ∧ RepS K μ (upd H T (.tup [v1, v2])) S ∧ RepV K μ (upd H T (.tup [v1, v2])) (.tup [d1, d2]) (.ref T) ∧ ∀ a, H a ≠ none → upd H T (.tup [v1, v2]) a = H a :=
  ⟨Ext.new h, rs.new h, .tup (SqT.of upd_same) (.cons (r1.mono (Ext.new h)) (.cons (r2.mono (Ext.new h)) .nil)), fun a ha => upd_ne fun z => ha (by rw [z]; exact h)⟩
theorem src_en {n : Nat} (q : μ[n]? = some a) : SrcOk Γ (.en n) (Ite Γ.K a) μ H where
  stop := fun i μ' H' S S' e rs h => by
    simp only [Src.nx] at h
    split at h
    next es hd =>
      simp only [R.ok.injEq, Option.map_eq_none_iff] at h
      obtain ⟨b, ws, e1, e2, e3⟩ := rs.lst hd
      rw [e.get q] at e1; cases e1
      exact ⟨ws, SqL.of e2, by rw [← e3.length]; exact List.getElem?_eq_none_iff.mp h.1⟩
    · cases h
  go := fun i μ' H' S S' d e rs h => by
    simp only [Src.nx] at h
    split at h
    next es hd =>
      simp only [R.ok.injEq, Option.map_eq_some_iff] at h
      obtain ⟨⟨d', h1, rfl⟩, _⟩ := h
      obtain ⟨b, ws, e1, e2, e3⟩ := rs.lst hd
      rw [e.get q] at e1; cases e1
      obtain ⟨v, hv, rv⟩ := e3.get h1
      refine ⟨⟨ws, v, SqL.of e2, hv⟩, fun x H2 y => ?_⟩
      obtain ⟨T, x', rfl, hT, rfl, y⟩ := y
      have := y ws (SqL.of e2)
      rw [hv] at this; cases this
      exact pair_new rs hT (.int _) rv
    · cases h
theorem src_zipT {b : Addr} {es : List D} {us : List V} (q : SqT Γ.K H a vs) (r : RepVs Γ.K μ H ds vs) (q2 : SqT Γ.K H b us) (r2 : RepVs Γ.K μ H es us) : SrcOk Γ (.st (zipD ds es)) (RZ.ItzT Γ.K a b) μ H where
  stop := fun i μ' H' S S' e rs h => by
    simp only [Src.nx, R.ok.injEq] at h
    have := List.getElem?_eq_none_iff.mp h.1
    simp only [zipD, List.length_map, List.length_zip] at this
    refine ⟨vs, us, e.sqT q, e.sqT q2, ?_⟩
    rw [← r.length, ← r2.length]
    omega
  go := fun i μ' H' S S' d e rs h => by
    simp only [Src.nx, R.ok.injEq, zipD, List.getElem?_map, Option.map_eq_some_iff] at h
    obtain ⟨⟨⟨d1, d2⟩, h1, rfl⟩, _⟩ := h
    rw [List.getElem?_zip_eq_some] at h1
    obtain ⟨v, hv, rv⟩ := r.get h1.1
    obtain ⟨u, hu, ru⟩ := r2.get h1.2
    refine ⟨⟨vs, us, v, u, e.sqT q, e.sqT q2, hv, hu⟩, fun x H2 y => ?_⟩
    obtain ⟨T, x', y', rfl, hT, rfl, y1, y2⟩ := y
    have a1 := y1 vs (e.sqT q)
    have a2 := y2 us (e.sqT q2)
    rw [hv] at a1; cases a1
    rw [hu] at a2; cases a2
    exact pair_new rs hT (rv.mono e) (ru.mono e)
end

def tI (Γ : Gd) (W : WX) (s : I) : TI := fun σ H Rr => ∃ μ env S, RepS Γ.K μ H S ∧ RepE Γ μ H σ env ∧ Aft Γ (atS W σ) μ H (fun src S' μ' H' => ∀ J, SrcOk Γ src J μ' H' → Rr J H') (evI Γ.F env s S)
section
variable {Γ : Gd} {W : WX} {md : Md} {k : Nat} {X : Cx} {pos : Pos} {tg a b c : PySem.Expr} {ca cb cc : E}
/-- what evaluates to one thing, then what is made of it -/
theorem aft_at {α : Type} {E : XK} {μ : List Addr} {H : Hp} {P : α → Store → List Addr → Hp → Prop} {r : R D} {f : D → Store → R α} {P' : D → Store → List Addr → Hp → Prop} (h : Aft Γ E μ H P (r.bind f))
    (k : ∀ d S' μ' H', r = .ok d S' → Ext μ H μ' H' → RepS Γ.K μ' H' S' → Aft Γ E μ' H' P (f d S') → P' d S' μ' H') : Aft Γ E μ H P' r := by
  cases r with
  | ok a S' => exact fun μ' H' e r => k a S' μ' H' rfl e r (Aft.mono h e)
  | exc x S' => exact h
  | stuck => exact h
theorem aft_pair {α : Type} {E : XK} {F : Fn} {env : Env} {S : Store} {μ : List Addr} {H : Hp} {P : α → Store → List Addr → Hp → Prop} {f : D → D → Store → R α} {Q : List V → Hp → Prop}
    (h : Aft Γ E μ H P ((evE F env ca S).bind fun x S => (evE F env cb S).bind fun y S => f x y S))
    (k : ∀ d d2 S2 μ2 H2, RepS Γ.K μ2 H2 S2 → Aft Γ E μ2 H2 P (f d d2 S2) → ∀ vs, RepVs Γ.K μ2 H2 [d, d2] vs → Q vs H2) :
    Aft Γ E μ H (fun ds _ μ' H' => ∀ vs, RepVs Γ.K μ' H' ds vs → Q vs H') ((evE F env ca S).bind fun x S => ((evE F env cb S).bind fun y S => (R.ok [] S : R (List D)).bind fun xs S => .ok (y :: xs) S).bind fun xs S => .ok (x :: xs) S) := by
  cases hE : evE F env ca S with
  | stuck => rw [hE] at h; exact h.elim
  | exc x S1 => rw [hE] at h; exact h
  | ok d S1 =>
    rw [hE] at h
    simp only [R.bind_ok] at h ⊢
    cases hE2 : evE F env cb S1 with
    | stuck => rw [hE2] at h; exact h.elim
    | exc x S2 => rw [hE2] at h; exact h
    | ok d2 S2 =>
      rw [hE2] at h
      simp only [R.bind_ok] at h ⊢
      intro μ2 H2 e2 r2 vs rvs
      exact k d d2 S2 μ2 H2 r2 (Aft.mono h e2) vs rvs
theorem i_any (hH : Hold Γ W md k X) (ha : PE X a (tE Γ W ca)) : PI X tg a (tI Γ W (.any ca)) :=
  ((pi_list ha).or ((pi_tup ha).or (pi_str ha))).imp fun σ H Rr ⟨μ, env, S, rs, re, h⟩ => by
    simp only [evI] at h
    cases hE : evE Γ.F env ca S with
    | stuck => rw [hE] at h; exact h.elim
    | exc x S1 =>
      rw [hE] at h
      exact .inl ⟨μ, env, S, rs, re, by rw [hE]; exact h⟩
    | ok d S1 =>
      rw [hE] at h
      cases d with
      | tup ds =>
        refine .inr (.inl ⟨μ, env, S, rs, re, ?_⟩)
        rw [hE]
        refine aft_at h fun d' S' μ1 H1 eq e1 r1 h1 v rv => ?_
        cases eq
        cases rv with
        | tup q r => exact ⟨_, rfl, ⟨_, hH.hK ▸ q⟩, hH.hK ▸ h1.now r1 _ (src_tup q r)⟩
      | rol ds =>
        refine .inl ⟨μ, env, S, rs, re, ?_⟩
        rw [hE]
        refine aft_at h fun d' S' μ1 H1 eq e1 r1 h1 v rv => ?_
        cases eq
        cases rv with
        | rol q r => exact ⟨_, rfl, ⟨_, hH.hK ▸ q.sq⟩, hH.hK ▸ h1.now r1 _ (src_rol q r)⟩
      | str z =>
        refine .inr (.inr ⟨μ, env, S, rs, re, ?_⟩)
        rw [hE]
        refine aft_at h fun d' S' μ1 H1 eq e1 r1 h1 v rv => ?_
        cases eq
        cases rv
        exact ⟨_, rfl, h1.now r1 _ (src_str z)⟩
      | ref n =>
        refine .inl ⟨μ, env, S, rs, re, ?_⟩
        rw [hE]
        refine aft_at h fun d' S' μ1 H1 eq e1 r1 h1 v rv => ?_
        cases eq
        simp only at h1
        split at h1
        next es hd =>
          cases rv with
          | ref q =>
            obtain ⟨b, ws, g1, g2, g3⟩ := r1.lst hd
            rw [q] at g1; cases g1
            exact ⟨_, rfl, ⟨_, SqL.of g2⟩, hH.hK ▸ h1.now r1 _ (src_ls q)⟩
        · exact h1.elim
      | _ => exact h.elim
theorem i_rng1 {p : Pos} (hg : Gl X "range") (hm : X.mg "range" = none) (hs : nst a = true) (ha : PE X a (tE Γ W ca)) : PI X tg (.Call (.Name "range" p) [a] [] pos) (tI Γ W (.rng1 ca)) :=
  (pi_range1 hg hm (a_cons hs ha a_nil) (by rw [star_of hs]; rfl)).imp fun σ H Rr ⟨μ, env, S, rs, re, h⟩ => by
    refine ⟨μ, env, S, rs, re, ?_⟩
    simp only [evI] at h
    simp only [evEs]
    cases hE : evE Γ.F env ca S with
    | stuck => rw [hE] at h; exact h.elim
    | exc x S1 => rw [hE] at h; exact h
    | ok d S1 =>
      rw [hE] at h
      simp only [R.bind_ok] at h ⊢
      intro μ1 H1 e1 r1 vs rvs
      have h1 := Aft.mono h e1
      split at h1
      next j =>
        split at h1
        next hj =>
          simp only [rngOk, Bool.and_eq_true, decide_eq_true_eq] at hj
          cases rvs with
          | cons rv rn =>
            cases rv; cases rn
            exact ⟨j, rfl, by omega, by omega, h1.now r1 _ (src_rng 0 _)⟩
        · exact h1.elim
      · exact h1.elim
theorem i_rng2 {p : Pos} (hg : Gl X "range") (hm : X.mg "range" = none) (hs : nst a = true) (hs2 : nst b = true) (ha : PE X a (tE Γ W ca)) (hb : PE X b (tE Γ W cb)) : PI X tg (.Call (.Name "range" p) [a, b] [] pos) (tI Γ W (.rng2 ca cb)) :=
  (pi_range2 hg hm (a_cons hs ha (a_cons hs2 hb a_nil)) (by rw [star_of hs, star_of hs2]; rfl) (by rw [star_of hs2]; rfl)).imp fun σ H Rr ⟨μ, env, S, rs, re, h⟩ => by
    refine ⟨μ, env, S, rs, re, ?_⟩
    simp only [evI] at h
    simp only [evEs]
    refine aft_pair h fun d d2 S2 μ2 H2 r2 h2 vs rvs => ?_
    split at h2
    next i j =>
      split at h2
      next hj =>
        simp only [rngOk, Bool.and_eq_true, decide_eq_true_eq] at hj
        cases rvs with
        | cons rv rn =>
          cases rn with
          | cons rv2 rn =>
            cases rv; cases rv2; cases rn
            exact ⟨i, j, rfl, ⟨by omega, by omega, by omega, by omega⟩, h2.now r2 _ (src_rng i _)⟩
      · exact h2.elim
    · exact h2.elim
theorem i_rng3 {p : Pos} {c : PySem.Expr} (hg : Gl X "range") (hm : X.mg "range" = none) (hs : nst a = true) (hs2 : nst b = true) (hs3 : nst c = true) (hc : PE X c (tC (.int (-1)))) (ha : PE X a (tE Γ W ca)) (hb : PE X b (tE Γ W cb)) :
    PI X tg (.Call (.Name "range" p) [a, b, c] [] pos) (tI Γ W (.rng3 ca cb (-1))) :=
  (pi_range3 hg hm (pa_cons ha (pa_cons hb (pa_cons hc pa_nil (star_of hs3)) (star_of hs2)) (star_of hs)) (star_of hs) (stars_of fun e he => by simp at he; rcases he with rfl | rfl <;> assumption)).imp fun σ H Rr ⟨μ, env, S, rs, re, h⟩ => by
    refine ⟨μ, env, S, rs, re, ?_⟩
    simp only [evI] at h
    refine h.bind fun d S1 μ1 H1 e1 r1 h1 v rv => ⟨μ1, env, S1, r1, re.mono e1, h1.bind fun d2 S2 μ2 H2 e2 r2 h2 v2 rv2 => ?_⟩
    split at h2
    next i j =>
      split at h2
      next hj =>
        simp only [rngOk, Bool.and_eq_true, decide_eq_true_eq] at hj
        cases rv; cases rv2
        exact ⟨i, j, -1, _, rfl, RgC.neg (by omega) (by omega) (by omega) (by omega), h2.now r2 _ (src_rngC i (-1) _)⟩
      · exact h2.elim
    · exact h2.elim
theorem src_enT {a : Addr} {ds : List D} {vs : List V} {μ : List Addr} {H : Hp} (q : SqT Γ.K H a vs) (r : RepVs Γ.K μ H ds vs) : SrcOk Γ (.st (enumD ds)) (IteT Γ.K a) μ H where
  stop := fun i μ' H' S S' e rs h => by
    simp only [Src.nx, R.ok.injEq, enumD] at h
    have := List.getElem?_eq_none_iff.mp h.1
    simp only [List.length_map, List.length_zipIdx] at this
    exact ⟨vs, e.sqT q, by rw [← r.length]; exact this⟩
  go := fun i μ' H' S S' d e rs h => by
    simp only [Src.nx, R.ok.injEq, enumD, List.getElem?_map, List.getElem?_zipIdx, Option.map_map, Option.map_eq_some_iff, Function.comp_def, Nat.zero_add] at h
    obtain ⟨⟨d', h1, rfl⟩, _⟩ := h
    obtain ⟨v, hv, rv⟩ := r.get h1
    refine ⟨⟨vs, v, e.sqT q, hv⟩, fun x H2 y => ?_⟩
    obtain ⟨T, x', rfl, hT, rfl, y⟩ := y
    have := y vs (e.sqT q)
    rw [hv] at this; cases this
    exact pair_new rs hT (.int _) (rv.mono e)
theorem src_enS {x : Str} {μ : List Addr} {H : Hp} : SrcOk Γ (.st (enumD (strItems x))) (IteS x) μ H where
  stop := fun i μ' H' S S' e rs h => by
    simp only [Src.nx, R.ok.injEq, enumD, strItems] at h
    have := List.getElem?_eq_none_iff.mp h.1
    simp only [List.length_map, List.length_zipIdx, Array.length_toList] at this
    exact this
  go := fun i μ' H' S S' d e rs h => by
    simp only [Src.nx, R.ok.injEq, enumD, strItems, List.getElem?_map, List.getElem?_zipIdx, Option.map_map, Option.map_eq_some_iff, Function.comp_def, Nat.zero_add, Array.getElem?_toList] at h
    obtain ⟨⟨d', h1, rfl⟩, _⟩ := h
    refine ⟨(Array.getElem?_eq_some_iff.mp h1).1, fun v H2 y => ?_⟩
    obtain ⟨T, c, rfl, hT, hc, rfl⟩ := y
    rw [h1] at hc; cases hc
    exact pair_new rs hT (.int _) (.str _)
/-- enumerate of a list, of a tuple, of a text -/
theorem i_enu {p tpos : Pos} {elts : List PySem.Expr} {kk : Nat} (hH : Hold Γ W md k X) (hg : Gl X "enumerate") (hm : X.mg "enumerate" = none) (hs : nst a = true) (ha : PE X a (tE Γ W ca)) :
    PI X (.Tuple elts kk tpos) (.Call (.Name "enumerate" p) [a] [] pos) (tI Γ W (.enu ca)) :=
  ((pi_enum hg hm (a_cons hs ha a_nil) (by rw [star_of hs]; rfl)).or ((pi_enumT hg hm (a_cons hs ha a_nil) (by rw [star_of hs]; rfl)).or (pi_enumS hg hm (a_cons hs ha a_nil) (by rw [star_of hs]; rfl)))).imp fun σ H Rr ⟨μ, env, S, rs, re, h⟩ => by
    simp only [evI] at h
    cases hE : evE Γ.F env ca S with
    | stuck => rw [hE] at h; exact h.elim
    | exc x S1 =>
      rw [hE] at h
      exact .inl ⟨μ, env, S, rs, re, by simp only [evEs]; rw [hE]; exact h⟩
    | ok d S1 =>
      rw [hE] at h
      simp only [R.bind_ok] at h
      cases d with
      | str z =>
        refine .inr (.inr ⟨μ, env, S, rs, re, ?_⟩)
        simp only [evEs]
        rw [hE]
        simp only [R.bind_ok]
        intro μ1 H1 e1 r1 vs rvs
        have h1 := Aft.mono h e1
        cases rvs with
        | cons rv rn =>
          cases rn
          cases rv
          exact ⟨_, rfl, h1.now r1 _ src_enS⟩
      | tup ds =>
        refine .inr (.inl ⟨μ, env, S, rs, re, ?_⟩)
        simp only [evEs]
        rw [hE]
        simp only [R.bind_ok]
        intro μ1 H1 e1 r1 vs rvs
        have h1 := Aft.mono h e1
        cases rvs with
        | cons rv rn =>
          cases rn
          cases rv with
          | tup q r => exact ⟨_, _, rfl, hH.hK ▸ q, hH.hK ▸ h1.now r1 _ (src_enT q r)⟩
      | ref n =>
        refine .inl ⟨μ, env, S, rs, re, ?_⟩
        simp only [evEs]
        rw [hE]
        simp only [R.bind_ok]
        intro μ1 H1 e1 r1 vs rvs
        have h1 := Aft.mono h e1
        simp only at h1
        split at h1
        next es hd =>
          cases rvs with
          | cons rv rn =>
            cases rn
            cases rv with
            | ref q =>
              obtain ⟨b, ws, g1, g2, g3⟩ := r1.lst hd
              rw [q] at g1; cases g1
              exact ⟨_, _, rfl, SqL.of g2, hH.hK ▸ h1.now r1 _ (src_en q)⟩
        · exact h1.elim
      | _ => exact h.elim
/-- zip of two tuples -/
theorem i_zip {p tpos : Pos} {elts : List PySem.Expr} {kk : Nat} (hH : Hold Γ W md k X) (hg : Gl X "zip") (hm : X.mg "zip" = none) (hs : nst a = true) (hs2 : nst b = true) (ha : PE X a (tE Γ W ca)) (hb : PE X b (tE Γ W cb)) :
    PI X (.Tuple elts kk tpos) (.Call (.Name "zip" p) [a, b] [] pos) (tI Γ W (.zip ca cb)) :=
  (RZ.pi_zipA hg hm (a_cons hs ha (a_cons hs2 hb a_nil)) (by rw [star_of hs, star_of hs2]; try rfl) (by rw [star_of hs2]; try rfl)).imp fun σ H Rr ⟨μ, env, S, rs, re, h⟩ => by
    refine ⟨μ, env, S, rs, re, ?_⟩
    simp only [evI] at h
    simp only [evEs]
    refine aft_pair h fun d d2 S2 μ2 H2 r2 h2 vs rvs => ?_
    split at h2
    next us ws =>
      cases rvs with
      | cons rv rn =>
        cases rn with
        | cons rv2 rn =>
          cases rn
          cases rv with
          | tup q r =>
            cases rv2 with
            | tup q2 r2' => exact ⟨_, _, _, _, rfl, .inr ⟨hH.hK ▸ q, hH.hK ▸ q2, hH.hK ▸ h2.now r2 _ (src_zipT q r q2 r2')⟩⟩
    · exact h2.elim

/-! ### comprehensions -/
theorem wipe_len (env : Env) : ∀ vs, (wipeE env vs).length = env.length
  | [] => rfl
  | v :: vs => by unfold wipeE; rw [List.length_set, wipe_len env vs]
theorem noexc_bind {α β γ : Type} (r : R α) (f : α → Store → R β) (g : β → Store → R γ) : (r.bind f).noexc.bind g = r.noexc.bind fun a S => (f a S).noexc.bind g := by
  cases r <;> rfl
/-- no exception comes of a comprehension's block -/
theorem aft_blk {α β : Type} {E E' : XK} {μ μ1 : List Addr} {H H1 : Hp} {P : β → Store → List Addr → Hp → Prop} {P' : α → Store → List Addr → Hp → Prop} {r : R α} {f : α → Store → R β} (h : Aft Γ E μ H P (r.noexc.bind f)) (e : Ext μ H μ1 H1)
    (k : ∀ a S' μ' H', Ext μ1 H1 μ' H' → RepS Γ.K μ' H' S' → Aft Γ E μ H P (f a S') → P' a S' μ' H') : Aft Γ E' μ1 H1 P' r := by
  cases r with
  | ok a S' => exact fun μ' H' e' r => k a S' μ' H' e' r h
  | exc x S' => exact h.elim
  | stuck => exact h.elim
abbrev W0 : WX := fun _ _ _ _ => False
theorem wipe_get (σ : L2.St) : ∀ (vs : List Nat) (i : Nat), (L2.wipe σ vs)[i]? = if i ∈ vs then (if i < σ.length then some none else none) else σ[i]?
  | [], i => by simp [L2.wipe]
  | v :: vs, i => by
    unfold L2.wipe
    by_cases h : v = i
    · subst h
      by_cases hl : v < σ.length
      · rw [List.getElem?_set_self (by rw [wipe_length]; exact hl)]; simp [hl]
      · rw [List.getElem?_eq_none (by simp [wipe_length]; omega)]; simp [hl]
    · rw [List.getElem?_set_ne h, wipe_get σ vs i]
      have : (i ∈ v :: vs) ↔ i ∈ vs := by simp [Ne.symm h]
      simp only [this]
theorem wipe_sm {l vs : List Nat} {σ σ' : L2.St} (h : Sm l (L2.wipe σ vs) σ') (hl : ∀ i ∈ l, i ∈ vs) : L2.wipe σ' vs = L2.wipe σ vs := by
  apply List.ext_getElem?
  intro i
  have hlen := h.1
  rw [wipe_length] at hlen
  rw [wipe_get, wipe_get, hlen]
  by_cases hi : i ∈ vs
  · simp [hi]
  · simp only [hi, if_false]
    rw [h.2 i fun z => hi (hl i z), wipe_get]
    simp [hi]

theorem e_lc (hH : Hold Γ W md k X) (hcx : Γ.cx = none) {elt tgt iter : PySem.Expr} {ifs : List PySem.Expr} {scope : Scope} {own : List (Str × Nat)} {ce : E} {ct : Tg} {cs : I} {cc : Oe} (hi : PI X tgt iter (tI Γ W cs)) (ok : BlkOk X.N X.env.scope scope own) (hsl : ∀ i ∈ slT ct, i ∈ own.map (·.2))
    (hg : ∀ (s : Shared) (H : Hp) (C : Addr) (cl : List (Str × Addr)) (fp : List Addr), PG (X.blk s H scope (compEnvC scope cl C X.env) fp) tgt (tG Γ ct))
    (ht : ∀ (s : Shared) (H : Hp) (C : Addr) (cl : List (Str × Addr)) (fp : List Addr), PTs (X.blk s H scope (compEnvC scope cl C X.env) fp) ifs (tOT Γ W0 cc))
    (he : ∀ (s : Shared) (H : Hp) (C : Addr) (cl : List (Str × Addr)) (fp : List Addr), PE (X.blk s H scope (compEnvC scope cl C X.env) fp) elt (tE Γ W0 ce)) (hs : ∀ x, foldedSetIterable iter X.env x = pure x) :
    (∀ σ H Q, tE Γ W (.lc ce ct cs cc (own.map (·.2))) σ H Q → tLc (tI Γ W cs) (tG Γ ct) (tOT Γ W0 cc) (tE Γ W0 ce) (own.map (·.2)) σ H Q) := by
  rintro σ H Q ⟨μ, env, S, rs, re, h⟩
  refine ⟨μ, env, S, rs, re, h.bind fun src S1 μ1 H1 e1 r1 h1 J hJ Dl hD => ?_⟩
  -- the block's turns: n left, i gone, acc told so far
  refine ⟨fun i m Hc => ∃ acc vs μc Sc, RepS Γ.K μc Hc Sc ∧ Ext μ1 H1 μc Hc ∧ Hc Dl = some (.lst vs) ∧ RepVs Γ.K μc Hc acc vs ∧ Dl ∉ μc ∧
    Aft Γ (atS W σ) μ1 H1 (QV Γ Q) ((lcGo src.nx (fun d S => asgT S ct d (wipeE env (own.map (·.2)))) (fun env S => evOT Γ.F env cc S) (fun env S => evE Γ.F env ce S) m i acc Sc).noexc.bind fun ds S => newL ds S), ?_, ?_⟩
  · refine ⟨wmax, [], [], μ1, S1, r1.new hD, Ext.new hD, upd_same, .nil, r1.fresh hD, h1⟩
  · rintro i m Hc ⟨acc, vs, μc, Sc, rc, ec, hDl, ra, nD, hA⟩
    cases m with
    | zero => exact hA.elim
    | succ m =>
      have rE : RepE Γ μc Hc (L2.wipe σ (own.map (·.2))) (wipeE env (own.map (·.2))) := RepE.wipe hcx ((re.mono e1).mono ec) _
      simp only [lcGo] at hA
      cases hn : src.nx i Sc with
      | stuck => rw [hn] at hA; exact hA.elim
      | exc x S' => exact absurd hn nx_noexc
      | ok o S' =>
        have := nx_same hn
        subst this
        rw [hn] at hA
        simp only [R.bind_ok] at hA
        cases o with
        | none =>
          refine .inl ⟨hJ.stop i μc Hc _ _ ec rc hn, ?_⟩
          simp only [R.noexc_ok, R.bind_ok] at hA
          -- the list at Dl becomes a cell
          have e3 : Ext μ1 H1 (μc ++ [Dl]) Hc := by
            obtain ⟨t, rfl, ft⟩ := ec.pre
            exact ⟨⟨t ++ [Dl], by simp, fun b hb => by
              rcases List.mem_append.mp hb with hb | hb
              · exact ft b hb
              · simp at hb; subst hb; exact hD⟩, ec.keep, ec.live, ec.tups, ec.frzs⟩
          have w3 : Wk μc Hc (μc ++ [Dl]) Hc := ⟨fun n a q => List.getElem?_append_left (List.getElem?_eq_some_iff.mp q).1 ▸ q, fun _ _ q => q, fun _ _ _ q => q⟩
          have r3 : RepS Γ.K (μc ++ [Dl]) Hc (S' ++ [.lst acc]) := by
            refine ⟨by simp [rc.len], ?_, fun n c q => ?_⟩
            · rw [List.nodup_append]
              refine ⟨rc.nd, by simp, fun a ha b hb z => ?_⟩
              simp at hb; subst hb; subst z
              exact nD ha
            · by_cases hl : n < S'.length
              · rw [List.getElem?_append_left hl] at q
                obtain ⟨a, g1, g2⟩ := rc.cell n c q
                refine ⟨a, w3.get n a g1, ?_⟩
                cases c with
                | lst ds => obtain ⟨ws, g3, g4⟩ := g2; exact ⟨ws, g3, g4.wk w3⟩
                | dic kvs => obtain ⟨ws, g3, g4, g5⟩ := g2; exact ⟨ws, g3, g4, g5.wk w3⟩
                | oth => exact g2
              · have hn' : n = S'.length := by
                  have := (List.getElem?_eq_some_iff.mp q).1
                  simp at this; omega
                subst hn'
                rw [List.getElem?_append_right (Nat.le_refl _)] at q
                simp at q; subst q
                exact ⟨Dl, by rw [← rc.len]; simp, vs, hDl, ra.wk w3⟩
          exact hA (μc ++ [Dl]) Hc e3 r3 _ (.ref (by rw [← rc.len]; simp))
        | some d =>
          obtain ⟨hgo, hyld⟩ := hJ.go i μc Hc _ _ d ec rc hn
          refine .inr ⟨hgo, fun H' => ∃ acc vs μc Sc, RepS Γ.K μc H' Sc ∧ Ext μ1 H1 μc H' ∧ H' Dl = some (.lst vs) ∧ RepVs Γ.K μc H' acc vs ∧ Dl ∉ μc ∧
            Aft Γ (atS W σ) μ1 H1 (QV Γ Q) ((lcGo src.nx (fun d S => asgT S ct d (wipeE env (own.map (·.2)))) (fun env S => evOT Γ.F env cc S) (fun env S => evE Γ.F env ce S) m (i + 1) acc Sc).noexc.bind fun ds S => newL ds S), fun H' w => ⟨m, Nat.lt_succ_self m, w⟩, fun x H' y => ?_⟩
          obtain ⟨e4, r4, rd, same⟩ := hyld x H' y
          have hD4 : H' Dl = some (.lst vs) := by rw [same Dl (by rw [hDl]; simp)]; exact hDl
          simp only at hA
          split at hA
          · exact hA.elim
          next env1 hasg =>
            refine ⟨μc, _, _, d, env1, r4, rE.mono e4, rd, hasg, fun σ2 re2 sm2 => ⟨wipe_sm sm2 hsl, μc, env1, _, r4, re2, ?_⟩⟩
            rw [noexc_bind] at hA
            refine aft_blk hA (ec.trans e4) fun b S5 μ5 H5 e5 r5 hA5 => ?_
            have hD5 : H5 Dl = some (.lst vs) := e5.keep Dl _ hD4 nD
            have nD5 : Dl ∉ μ5 := by
              obtain ⟨t, rfl, ft⟩ := e5.pre
              intro z
              rcases List.mem_append.mp z with z | z
              · exact nD z
              · rw [ft Dl z] at hD4; cases hD4
            cases b with
            | false =>
              simp only [Bool.false_eq_true, if_false] at hA5 ⊢
              exact ⟨acc, vs, μ5, S5, r5, (ec.trans e4).trans e5, hD5, ra.mono (e4.trans e5), nD5, hA5⟩
            | true =>
              simp only [if_true] at hA5 ⊢
              rw [noexc_bind] at hA5
              refine ⟨μ5, env1, S5, r5, re2.mono e5, ?_⟩
              refine aft_blk hA5 ((ec.trans e4).trans e5) fun dx S6 μ6 H6 e6 r6 hA6 y6 ry => ?_
              have hD6 : H6 Dl = some (.lst vs) := e6.keep Dl _ hD5 nD5
              have nD6 : Dl ∉ μ6 := by
                obtain ⟨t, rfl, ft⟩ := e6.pre
                intro z
                rcases List.mem_append.mp z with z | z
                · exact nD5 z
                · rw [ft Dl z] at hD5; cases hD5
              split at hA6
              next hlen =>
                have ra6 := ra.mono ((e4.trans e5).trans e6)
                refine ⟨vs, hD6, by rw [← ra6.length]; exact hlen, acc ++ [dx], vs ++ [y6], μ6, S6, r6.other hD6 nD6, ?_, upd_same, ?_, nD6, hA6⟩
                · have e7 := ((ec.trans e4).trans e5).trans e6
                  refine ⟨e7.pre, fun b o q n => ?_, fun b q => ?_, fun b xs q => ?_, fun b o u q => ?_⟩
                  · rw [upd_ne (fun z => by rw [z, hD] at q; cases q)]; exact e7.keep b o q n
                  · by_cases z : b = Dl
                    · subst z; rw [upd_same]; simp
                    · rw [upd_ne z]; exact e7.live b q
                  · rw [upd_ne (fun z => by rw [z, hD] at q; cases q)]; exact e7.tups b xs q
                  · rw [upd_ne (fun z => by rw [z, hD] at q; cases q)]; exact e7.frzs b o u q
                · exact (ra6.append (.cons ry .nil)).wk (Wk.other hD6)
              · exact hA6.elim
end
end PD
end

section
set_option linter.all false
set_option maxRecDepth 100000
set_option maxHeartbeats 1000000
/-! PDstm: a rule for each form of statement. -/
namespace PD
open PySem L2

def AftS (Γ : Gd) (W : WX) (μ : List Addr) (H : Hp) (D : Ends) (o : Out) : Prop :=
  match o with
  | .nx env S' => ∀ μ' H' σ', Ext μ H μ' H' → RepS Γ.K μ' H' S' → RepE Γ μ' H' σ' env → D.nx σ' H'
  | .bk env S' => ∀ μ' H' σ', Ext μ H μ' H' → RepS Γ.K μ' H' S' → RepE Γ μ' H' σ' env → D.bk σ' H'
  | .ct env S' => ∀ μ' H' σ', Ext μ H μ' H' → RepS Γ.K μ' H' S' → RepE Γ μ' H' σ' env → D.ct σ' H'
  | .rt d S' => ∀ μ' H' v, Ext μ H μ' H' → RepS Γ.K μ' H' S' → RepV Γ.K μ' H' d v → D.rt v H'
  | .ex x env S' => ∀ μ' H' σ' cls dd, Ext μ H μ' H' → RepS Γ.K μ' H' S' → RepE Γ μ' H' σ' env → RepX Γ μ' H' x cls dd → W cls dd σ' H'
  | .stuck => False
def tS (Γ : Gd) (W : WX) (st : T) : TS := fun D σ H => ∃ μ env S, RepS Γ.K μ H S ∧ RepE Γ μ H σ env ∧ AftS Γ W μ H D (exT Γ.F st env S)
def tSs (Γ : Gd) (W : WX) (st : Ts) : TS := fun D σ H => ∃ μ env S, RepS Γ.K μ H S ∧ RepE Γ μ H σ env ∧ AftS Γ W μ H D (exTs Γ.F st env S)

section
variable {Γ : Gd} {W : WX} {μ μ1 : List Addr} {H H1 : Hp} {D : Ends}
theorem AftS.mono {o : Out} (h : AftS Γ W μ H D o) (e : Ext μ H μ1 H1) : AftS Γ W μ1 H1 D o := by
  cases o with
  | nx env S' => exact fun μ' H' σ' e' => h μ' H' σ' (e.trans e')
  | bk env S' => exact fun μ' H' σ' e' => h μ' H' σ' (e.trans e')
  | ct env S' => exact fun μ' H' σ' e' => h μ' H' σ' (e.trans e')
  | rt d S' => exact fun μ' H' v e' => h μ' H' v (e.trans e')
  | ex x env S' => exact fun μ' H' σ' cls dd e' => h μ' H' σ' cls dd (e.trans e')
  | stuck => exact h
/-- a value ahead of a statement's end -/
theorem AftS.out {α : Type} {r : R α} {env : Env} {σ : L2.St} {f : α → Store → Out} {P : α → Store → List Addr → Hp → Prop} (re : RepE Γ μ H σ env) (h : AftS Γ W μ H D (r.out env f))
    (k : ∀ a S' μ' H', Ext μ H μ' H' → RepS Γ.K μ' H' S' → AftS Γ W μ' H' D (f a S') → P a S' μ' H') : Aft Γ (atS W σ) μ H P r := by
  cases r with
  | ok a S' => exact fun μ' H' e r => k a S' μ' H' e r (AftS.mono h e)
  | exc x S' => exact fun μ' H' cls dd e r rx => h μ' H' σ cls dd e r (re.mono e) rx
  | stuck => exact h
theorem AftS.nxt {env : Env} {S : Store} {σ : L2.St} (h : AftS Γ W μ H D (.nx env S)) (rs : RepS Γ.K μ H S) (re : RepE Γ μ H σ env) : D.nx σ H := h μ H σ (Ext.refl _ _) rs re
end

section
variable {Γ : Gd} {W : WX} {md : Md} {k : Nat} {X : Cx} {pos : Pos} {a b c tg : PySem.Expr} {ca cb cc : E} {st : PySem.Stmt} {ct : T} {cs : Ts}
/-! blocks -/
theorem ss_nil : PSs X [] (tSs Γ W .nil) := ⟨fun pins s σ H D I ⟨μ, env, S, rs, re, h⟩ => pss_nil.run pins s σ H D I (AftS.nxt h rs re)⟩
theorem _root_.L2.PSs.imp {st : List PySem.Stmt} {t t' : TS} (h : PSs X st t) (k : ∀ D σ H, t' D σ H → t D σ H) : PSs X st t' := ⟨fun pins s σ H D I q => h.run pins s σ H D I (k D σ H q)⟩
theorem ss_cons {rest : List PySem.Stmt} (h1 : PS X st (tS Γ W ct)) (h2 : PSs X rest (tSs Γ W cs)) : PSs X (st :: rest) (tSs Γ W (.cons ct cs)) :=
  (pss_cons h1 h2).imp fun D σ H ⟨μ, env, S, rs, re, h⟩ => ⟨μ, env, S, rs, re, by
    simp only [exTs] at h
    cases hO : exT Γ.F ct env S with
    | nx env' S' => rw [hO] at h; exact fun μ' H' σ' e r re' => ⟨μ', env', S', r, re', AftS.mono h e⟩
    | rt d S' => rw [hO] at h; exact h
    | bk env' S' => rw [hO] at h; exact h
    | ct env' S' => rw [hO] at h; exact h
    | ex x env' S' => rw [hO] at h; exact h
    | stuck => rw [hO] at h; exact h.elim⟩

/-! small statements -/
theorem s_pas : PS X (.Pass pos) (tS Γ W .pas) := ps_pass.imp fun D σ H ⟨μ, env, S, rs, re, h⟩ => AftS.nxt h rs re
theorem s_brk : PS X (.Break pos) (tS Γ W .brk) := ps_break.imp fun D σ H ⟨μ, env, S, rs, re, h⟩ => h μ H σ (Ext.refl _ _) rs re
theorem s_cnt : PS X (.Continue pos) (tS Γ W .cnt) := ps_continue.imp fun D σ H ⟨μ, env, S, rs, re, h⟩ => h μ H σ (Ext.refl _ _) rs re
theorem s_nev : PS X st (tS Γ W .nev) := ps_never.imp fun D σ H ⟨μ, env, S, rs, re, h⟩ => h
theorem s_exp (ha : PE X a (tE Γ W ca)) (hs : swapsWith a none pos.line X.env = pure false) : PS X (.Expr a pos) (tS Γ W (.exp ca)) :=
  (ps_expr ha hs).imp fun D σ H ⟨μ, env, S, rs, re, h⟩ => ⟨μ, env, S, rs, re, AftS.out re h fun d S1 μ1 H1 e1 r1 h1 v rv => AftS.nxt h1 r1 (re.mono e1)⟩
theorem s_ret (ha : PE X a (tE Γ W ca)) : PS X (.Return (some a) pos) (tS Γ W (.ret ca)) :=
  (ps_ret ha).imp fun D σ H ⟨μ, env, S, rs, re, h⟩ => ⟨μ, env, S, rs, re, AftS.out re h fun d S1 μ1 H1 e1 r1 h1 v rv => h1 μ1 H1 v (Ext.refl _ _) r1 rv⟩
theorem s_retN : PS X (.Return none pos) (tS Γ W .retN) := ps_retN.imp fun D σ H ⟨μ, env, S, rs, re, h⟩ => h μ H _ (Ext.refl _ _) rs .non
theorem s_if {sa sb : List PySem.Stmt} {csa csb : Ts} (hc : PT X c (tT Γ W cc)) (ha : PSs X sa (tSs Γ W csa)) (hb : PSs X sb (tSs Γ W csb)) : PS X (.If c sa sb pos) (tS Γ W (.iff cc csa csb)) :=
  (ps_if hc ha hb).imp fun D σ H ⟨μ, env, S, rs, re, h⟩ => ⟨μ, env, S, rs, re, AftS.out re h fun b S1 μ1 H1 e1 r1 h1 => by
    cases b with
    | true => exact ⟨μ1, env, S1, r1, re.mono e1, h1⟩
    | false => exact ⟨μ1, env, S1, r1, re.mono e1, h1⟩⟩

/-! stores -/
theorem asg_of {t : Tg} {D : Ends} {σ : L2.St} {H : Hp} {μ : List Addr} {env : Env} {S : Store} (rs : RepS Γ.K μ H S) (re : RepE Γ μ H σ env) (h : AftS Γ W μ H D (exT Γ.F (.asg t ca) env S)) : tAsg (tE Γ W ca) (tG Γ t) D σ H :=
  ⟨μ, env, S, rs, re, AftS.out re h fun d S1 μ1 H1 e1 r1 h1 v rv => by
    split at h1
    next env' he => exact ⟨μ1, env, S1, d, env', r1, re.mono e1, rv, he, fun σ' re' _ => AftS.nxt h1 r1 re'⟩
    · exact h1.elim⟩
theorem s_asg {t : Tg} (ha : PE X a (tE Γ W ca)) (hg : PG X tg (tG Γ t)) (hn : nst tg = true) (hs : swapsWithSole [tg] a pos.line X.env = pure false) (hw : swappedStores [tg] a X.env = pure none) : PS X (.Assign [tg] a pos) (tS Γ W (.asg t ca)) :=
  (ps_asg ha hg hs hw (by rw [asgEach_cons hn]; rfl)).imp fun D σ H ⟨μ, env, S, rs, re, h⟩ => asg_of rs re h
theorem s_seti (hH : Hold Γ W md k X) (ho : PE X a (tE Γ W ca)) (hi : PE X b (tE Γ W cb)) (he : PE X c (tE Γ W cc)) {ipos : Pos} (hs : swapsWithSole [.Subscript a b ipos] c pos.line X.env = pure false) (hw : swappedStores [.Subscript a b ipos] c X.env = pure none)
    (hx : ∀ v, assign (.Subscript a b ipos) X.env v = (do
      let ov ← holding [v] (eval a X.env)
      let iv ← holding [v, ov] (eval b X.env)
      standAt ipos
      holding [v, ov, iv] (setItem ov iv v)
      release [v, ov, iv] [])) : PS X (.Assign [.Subscript a b ipos] c pos) (tS Γ W (.seti ca cb cc)) :=
  (ps_asg he (pg_sub ho hi (op_set (Γ := Γ) (by have := hH.units; omega)) hx) hs hw rfl).imp fun D σ H ⟨μ, env, S, rs, re, h⟩ =>
    ⟨μ, env, S, rs, re, AftS.out re h fun d S1 μ1 H1 e1 r1 h1 v rv => ⟨μ1, env, S1, r1, re.mono e1, AftS.out (re.mono e1) h1 fun d2 S2 μ2 H2 e2 r2 h2 o ro =>
      ⟨μ2, env, S2, r2, re.mono (e1.trans e2), AftS.out (re.mono (e1.trans e2)) h2 fun d3 S3 μ3 H3 e3 r3 h3 i ri =>
        ⟨_, μ3, S3, d2, d3, d, r3, ro.mono e3, ri, rv.mono (e2.trans e3), AftS.out (σ := σ) (re.mono ((e1.trans e2).trans e3)) h3 fun _ S4 μ4 H4 e4 r4 h4 => AftS.nxt h4 r4 (re.mono (((e1.trans e2).trans e3).trans e4))⟩⟩⟩⟩
theorem s_aug (hH : Hold Γ W md k X) {i : Nat} {x : Str} {o : Operator} {p : Pos} (hi : X.N[i]? = some x) (hx : Loc X.env.scope x) (hf : X.fn x = true ∨ X.env.scope.names.lookup x = some .local) (ha : PE X a (tE Γ W ca)) : PS X (.AugAssign (.Name x p) o a pos) (tS Γ W (.aug i o ca)) :=
  (ps_aug hH.nd hi hx ha (op_aug (Γ := Γ) o) hf).imp fun D σ H ⟨μ, env, S, rs, re, h⟩ => by
    simp only [exT] at h
    split at h
    next d hd =>
      obtain ⟨v, hv, rv⟩ := re.slot i d hd
      exact ⟨v, hv, μ, env, S, rs, re, AftS.out re h fun d2 S1 μ1 H1 e1 r1 h1 w rw => ⟨_, μ1, S1, d, d2, r1, rv.mono e1, rw, AftS.out (σ := σ) (re.mono e1) h1 fun z S2 μ2 H2 e2 r2 h2 u ru =>
        AftS.nxt h2 r2 ((re.mono (e1.trans e2)).set ru)⟩⟩
    · exact h.elim
/-- name = [comprehension] on one line -/
theorem s_lc (hH : Hold Γ W md k X) (hh : md.hot = false) {i : Nat} {y : Str} {py pc : Pos} {elt tgt iter : PySem.Expr} {ifs : List PySem.Expr} {scope : Scope} {own : List (Str × Nat)} {ce : E} {ctg : Tg} {csr : I} {cif : Oe} (hy : X.N[i]? = some y) (hyl : X.env.scope.names.lookup y = some .local)
    (hsw : swapsWith (.ListComp elt [⟨tgt, iter, ifs, 0⟩] scope pc) (some (.Name y py)) pos.line X.env = pure true)
    (hi : PI X tgt iter (tI Γ W csr)) (ok : BlkOk X.N X.env.scope scope own) (hsl : ∀ i ∈ slT ctg, i ∈ own.map (·.2))
    (hg : ∀ (s : Shared) (H : Hp) (C : Addr) (cl : List (Str × Addr)) (fp : List Addr), PG (X.blk s H scope (compEnvC scope cl C X.env) fp) tgt (tG Γ ctg))
    (ht : ∀ (s : Shared) (H : Hp) (C : Addr) (cl : List (Str × Addr)) (fp : List Addr), PTs (X.blk s H scope (compEnvC scope cl C X.env) fp) ifs (tOT Γ W0 cif))
    (he : ∀ (s : Shared) (H : Hp) (C : Addr) (cl : List (Str × Addr)) (fp : List Addr), PE (X.blk s H scope (compEnvC scope cl C X.env) fp) elt (tE Γ W0 ce)) (hs : ∀ x, foldedSetIterable iter X.env x = pure x) :
    PS X (.Assign [.Name y py] (.ListComp elt [⟨tgt, iter, ifs, 0⟩] scope pc) pos) (tS Γ W (.asg (.nm i) (.lc ce ctg csr cif (own.map (·.2))))) :=
  (ps_setLc (hH.calm hh) hH.nd hy hyl hsw hi ok hg ht he hs).imp fun D σ H ⟨μ, env, S, rs, re, h⟩ =>
    e_lc hH (hH.cx hh) hi ok hsl hg ht he hs σ H _ ⟨μ, env, S, rs, re, AftS.out re h fun d S1 μ1 H1 e1 r1 h1 v rv => by
      simp only [asgT] at h1
      exact AftS.nxt h1 r1 ((re.mono e1).set rv)⟩
theorem e_lcv (hH : Hold Γ W md k X) (hh : md.hot = false) {elt tgt iter : PySem.Expr} {ifs : List PySem.Expr} {scope : Scope} {own : List (Str × Nat)} {ce : E} {ctg : Tg} {csr : I} {cif : Oe}
    (hi : PI X tgt iter (tI Γ W csr)) (ok : BlkOk X.N X.env.scope scope own) (hsl : ∀ i ∈ slT ctg, i ∈ own.map (·.2))
    (hg : ∀ (s : Shared) (H : Hp) (C : Addr) (cl : List (Str × Addr)) (fp : List Addr), PG (X.blk s H scope (compEnvC scope cl C X.env) fp) tgt (tG Γ ctg))
    (ht : ∀ (s : Shared) (H : Hp) (C : Addr) (cl : List (Str × Addr)) (fp : List Addr), PTs (X.blk s H scope (compEnvC scope cl C X.env) fp) ifs (tOT Γ W0 cif))
    (he : ∀ (s : Shared) (H : Hp) (C : Addr) (cl : List (Str × Addr)) (fp : List Addr), PE (X.blk s H scope (compEnvC scope cl C X.env) fp) elt (tE Γ W0 ce)) (hs : ∀ x, foldedSetIterable iter X.env x = pure x) :
    PE X (.ListComp elt [⟨tgt, iter, ifs, 0⟩] scope pos) (tE Γ W (.lc ce ctg csr cif (own.map (·.2)))) :=
  (pe_lc (hH.calm hh) hH.nd hi ok hg ht he hs).imp fun σ H Q q => e_lc hH (hH.cx hh) hi ok hsl hg ht he hs σ H Q q

/-! a, b = x, y -/
theorem s_par {i j : Nat} {x y : Str} {px py pt : Pos} {kt k2 : Nat} {pt2 : Pos} {ces : Es} (hH : Hold Γ W md k X) (hh : md.hot = false) (hi : X.N[i]? = some x) (hj : X.N[j]? = some y) (hij : i ≠ j)
    (hx : X.env.scope.names.lookup x = some .local) (hy : X.env.scope.names.lookup y = some .local) (ha : PA X [a, b] (tEs Γ W ces))
    (hw : swappedStores [.Tuple [.Name x px, .Name y py] kt pt] (.Tuple [a, b] k2 pt2) X.env = pure (some [x, y])) :
    PS X (.Assign [.Tuple [.Name x px, .Name y py] kt pt] (.Tuple [a, b] k2 pt2) pos) (tS Γ W (.asg (.tp (.cons (.nm i) (.cons (.nm j) .nil))) (.tup ces))) :=
  (ps_par (hH.calm hh) hH.nd hi hj hij hx hy ha hw).imp fun D σ H ⟨μ, env, S, rs, re, h⟩ => ⟨μ, env, S, rs, re, by
    simp only [exT, evE] at h
    cases hE : evEs Γ.F env ces S with
    | stuck => rw [hE] at h; exact h.elim
    | exc x S1 => rw [hE] at h; exact fun μ' H' cls dd e r rx => h μ' H' σ cls dd e r (re.mono e) rx
    | ok ds S1 =>
      rw [hE] at h
      intro μ1 H1 e1 r1 vs rvs
      replace h := AftS.mono h e1
      simp only [R.bind_ok] at h
      split at h
      next hl =>
        simp only [R.out_ok] at h
        split at h
        next env' he =>
          simp only [asgT, itemsOf] at he
          match ds, rvs with
          | [], _ => simp [asgTs] at he
          | [_], _ => simp [asgTs, asgT] at he
          | _ :: _ :: _ :: _, _ => simp [asgTs, asgT] at he
          | [d1, d2], .cons rv1 (.cons rv2 .nil) =>
            simp only [asgTs, asgT, Option.some.injEq] at he
            subst he
            exact ⟨_, _, rfl, AftS.nxt h r1 (((re.mono e1).set rv1).set rv2)⟩
        · exact h.elim
      · exact h.elim⟩

/-! loops -/
theorem whl_of {cb' : Ts} {D : Ends} {σ : L2.St} {H : Hp} {μ : List Addr} {env : Env} {S : Store} (rs : RepS Γ.K μ H S) (re : RepE Γ μ H σ env)
    (h : AftS Γ W μ H D (whlGo (fun env S => evT Γ.F env cc S) (fun env S => exTs Γ.F cb' env S) wmax env S)) : tWhile (tT Γ W cc) (tSs Γ W cb') D σ H := by
  refine ⟨fun m σ H => ∃ μ env S, RepS Γ.K μ H S ∧ RepE Γ μ H σ env ∧ AftS Γ W μ H D (whlGo (fun env S => evT Γ.F env cc S) (fun env S => exTs Γ.F cb' env S) m env S), ⟨_, μ, env, S, rs, re, h⟩, ?_⟩
  rintro m σ H ⟨μ, env, S, rs, re, h⟩
  cases m with
  | zero => exact h.elim
  | succ m =>
    simp only [whlGo] at h
    refine ⟨μ, env, S, rs, re, AftS.out re h fun b S1 μ1 H1 e1 r1 h1 => ?_⟩
    cases b with
    | false =>
      simp only [Bool.false_eq_true, if_false] at h1 ⊢
      exact AftS.nxt h1 r1 (re.mono e1)
    | true =>
      simp only [if_true] at h1 ⊢
      refine ⟨fun σ H => ∃ μ env S, RepS Γ.K μ H S ∧ RepE Γ μ H σ env ∧ AftS Γ W μ H D (whlGo (fun env S => evT Γ.F env cc S) (fun env S => exTs Γ.F cb' env S) m env S), fun σ' H' w => ⟨m, Nat.lt_succ_self m, w⟩, μ1, env, S1, r1, re.mono e1, ?_⟩
      cases hO : exTs Γ.F cb' env S1 with
      | nx env' S' => rw [hO] at h1; exact fun μ' H' σ' e r re' => ⟨μ', env', S', r, re', AftS.mono h1 e⟩
      | ct env' S' => rw [hO] at h1; exact fun μ' H' σ' e r re' => ⟨μ', env', S', r, re', AftS.mono h1 e⟩
      | bk env' S' => rw [hO] at h1; exact h1
      | rt d S' => rw [hO] at h1; exact h1
      | ex x env' S' => rw [hO] at h1; exact h1
      | stuck => rw [hO] at h1; exact h1.elim
theorem s_whl {sb : List PySem.Stmt} {cb' : Ts} (hp : PassesOwn (model X.prog X.w) X.A X.env X.xe) (hc : PT X c (tT Γ W cc)) (hb : PSs X sb (tSs Γ W cb')) : PS X (.While c sb [] pos) (tS Γ W (.whl cc cb')) :=
  (ps_while hp hc hb).imp fun D σ H ⟨μ, env, S, rs, re, h⟩ => whl_of rs re h
theorem for_of {t : Tg} {cs : I} {cb' : Ts} {D : Ends} {σ : L2.St} {H : Hp} {μ : List Addr} {env : Env} {S : Store} (rs : RepS Γ.K μ H S) (re : RepE Γ μ H σ env)
    (h : AftS Γ W μ H D (exT Γ.F (.for_ t cs cb') env S)) : tFor (tI Γ W cs) (tG Γ t) (tSs Γ W cb') D σ H := by
  refine ⟨μ, env, S, rs, re, AftS.out re h fun src S1 μ1 H1 e1 r1 h1 J hJ => ?_⟩
  refine ⟨fun i m σ H => ∃ μ env S, RepS Γ.K μ H S ∧ RepE Γ μ H σ env ∧ Ext μ1 H1 μ H ∧ AftS Γ W μ H D (forGo src.nx t (fun env S => exTs Γ.F cb' env S) m i env S), ⟨_, μ1, env, S1, r1, re.mono e1, Ext.refl _ _, h1⟩, ?_⟩
  rintro i m σ H ⟨μ, env, S, rs, re, ex, h⟩
  cases m with
  | zero => exact h.elim
  | succ m =>
    simp only [forGo] at h
    cases hn : src.nx i S with
    | stuck => rw [hn] at h; exact h.elim
    | exc x S' => exact absurd hn nx_noexc
    | ok o S' =>
      have := nx_same hn
      subst this
      rw [hn] at h
      simp only [R.out_ok] at h
      cases o with
      | none => exact .inl ⟨hJ.stop i μ H _ _ ex rs hn, AftS.nxt h rs re⟩
      | some d =>
        obtain ⟨hgo, hyld⟩ := hJ.go i μ H _ _ d ex rs hn
        refine .inr ⟨hgo, fun σ H => ∃ μ env S, RepS Γ.K μ H S ∧ RepE Γ μ H σ env ∧ Ext μ1 H1 μ H ∧ AftS Γ W μ H D (forGo src.nx t (fun env S => exTs Γ.F cb' env S) m (i + 1) env S), fun σ' H' w => ⟨m, Nat.lt_succ_self m, w⟩, fun x H' y => ?_⟩
        obtain ⟨e4, r4, rd, _⟩ := hyld x H' y
        simp only at h
        split at h
        · exact h.elim
        next env1 hasg =>
          refine ⟨μ, env, S', d, env1, r4, re.mono e4, rd, hasg, fun σ2 re2 _ => ⟨μ, env1, S', r4, re2, ?_⟩⟩
          replace h := AftS.mono h e4
          cases hO : exTs Γ.F cb' env1 S' with
          | nx env' S' => rw [hO] at h; exact fun μ' H' σ' e r re' => ⟨μ', env', S', r, re', (ex.trans e4).trans e, AftS.mono h e⟩
          | ct env' S' => rw [hO] at h; exact fun μ' H' σ' e r re' => ⟨μ', env', S', r, re', (ex.trans e4).trans e, AftS.mono h e⟩
          | bk env' S' => rw [hO] at h; exact h
          | rt d S' => rw [hO] at h; exact h
          | ex x env' S' => rw [hO] at h; exact h
          | stuck => rw [hO] at h; exact h.elim
theorem s_for {t : Tg} {cs : I} {iter : PySem.Expr} {sb : List PySem.Stmt} {cb' : Ts} (hH : Hold Γ W md k X) (hh : md.hot = false) (hp : PassesOwn (model X.prog X.w) X.A X.env X.xe) (hi : PI X tg iter (tI Γ W cs)) (hg : PG X tg (tG Γ t)) (hb : PSs X sb (tSs Γ W cb')) (hs : ∀ x, foldedSetIterable iter X.env x = pure x) :
    PS X (.For tg iter sb [] pos) (tS Γ W (.for_ t cs cb')) :=
  (ps_for hp (hH.calm hh) hi hg hb hs).imp fun D σ H ⟨μ, env, S, rs, re, h⟩ => for_of rs re h
end
end PD
end

section
set_option linter.all false
set_option maxRecDepth 100000
set_option maxHeartbeats 1000000
/-! PDtry: raise, try with except clauses. -/
namespace PD
open PySem L2

section
variable {Γ : Gd} {W : WX} {md : Md} {k : Nat} {X : Cx} {pos : Pos}
/-! ### raise -/
theorem s_rai0 (hc : X.calm = true) (tk : L2N.Takes X W) {x : Str} {c : Nat} {C : Addr} {p q : Pos} (xc : XcC X.K C) (xi : PySem.W.excIn X.K C veL "ValueError.__new__" = true) (hm : X.mg x = some (.ref C)) (hg : Gl X x) (hd : (x == ("__debug__" : Str)) = false) (hx : Γ.xt c = some (C, none)) :
    PS X (.Raise (some (.Call (.Name x p) [] [] q)) none pos) (tS Γ W (.rai c .nil)) :=
  (L2N.ps_raise hc tk (pmk0 xc xi hm hg hd)).imp fun D σ H ⟨μ, env, S, rs, re, h⟩ => by
    simp only [exT, evEs, R.out_ok] at h
    exact h μ H σ _ _ (Ext.refl _ _) rs re ⟨C, none, hx, rfl, .inl ⟨rfl, rfl, rfl⟩⟩
theorem s_rai1 (hc : X.calm = true) (tk : L2N.Takes X W) {x f n1 n2 : Str} {c : Nat} {C fI : Addr} {fd : FuncData} {p q : Pos} {e : PySem.Expr} {ce : E} {j : Nat} (xc : XcC X.K C) (T : OexC X.K C) (iC : PySem.W.findIn X.K (.ref C) "__init__" = some (some (.ref fI))) (tI : PySem.W.typeIn X.K (.ref fI) = some (.type "function"))
    (F1 : FnOk X.prog X.w X.K X.mg X.base (L2N.CX X.prog X.w) j fI fd [n1, n2] (spI C f)) (hr : Room (j + 1) X.A) (hb : Binds X.K fd [n1, n2] []) (hm : X.mg x = some (.ref C)) (hg : Gl X x) (hd : (x == ("__debug__" : Str)) = false) (hx : Γ.xt c = some (C, some f)) (hs : nst e = true) (he : PE X e (tE Γ W ce)) :
    PS X (.Raise (some (.Call (.Name x p) [e] [] q)) none pos) (tS Γ W (.rai c (.cons ce .nil))) :=
  (L2N.ps_raise hc tk (pmk1 xc T iC tI F1 hr hb (fun pins σ H s e s' I w => by
    obtain ⟨_, _, _, _, _, _, _, _, _, _, _, _, z⟩ := w
    exact z.elim) hg hm (a_cons hs he a_nil) hd (star_of hs))).imp fun D σ H ⟨μ, env, S, rs, re, h⟩ => ⟨μ, env, S, rs, re, by
    simp only [exT, evEs] at h
    simp only [evEs]
    cases hE : evE Γ.F env ce S with
    | stuck => rw [hE] at h; exact h.elim
    | exc y S1 => rw [hE] at h; exact fun μ' H' cls dd e r rx => h μ' H' σ cls dd e r (re.mono e) rx
    | ok d S1 =>
      rw [hE] at h
      intro μ1 H1 e1 r1 vs rvs
      cases rvs with
      | cons rv rr =>
        cases rr
        refine ⟨_, rfl, fun dd hd => ?_⟩
        exact h μ1 _ σ _ _ (e1.trans (Ext.new hd)) (r1.new hd) ((re.mono e1).mono (Ext.new hd)) ⟨C, some f, hx, rfl, .inr ⟨d, f, dd, _, rfl, rfl, rfl, upd_same, rv.mono (Ext.new hd)⟩⟩⟩

/-! ### try -/
/-- within a suite: the caught exception -/
def Gd.su (Γ : Gd) (x : Exn) (i : Option Nat) (a : Addr) (o : Option (Addr × Str × D)) : Gd := { Γ with F := xF Γ.F x, cx := i.map fun i => (i, a, o) }
/-- how an exception's parts stand to its dict -/
def SuRel (x : Exn) (fx : Option Str) (d : Option Addr) (o : Option (Addr × Str × D)) : Prop :=
  (x.fs = [] ∧ fx = none ∧ d = none ∧ o = none) ∨ ∃ f dd dv, x.fs = [dv] ∧ fx = some f ∧ d = some dd ∧ o = some (dd, f, dv)
def tsX (Γ : Gd) (cs : List Nat) (i : Option Nat) (s : Ts) : Addr → Value → Option Addr → TS := fun a cls d D σ H => ∃ x C fx o, cs.contains x.cls = true ∧ cls = .ref C ∧ Γ.xt x.cls = some (C, fx) ∧ SuRel x fx d o ∧ tSs (Γ.su x i a o) W0 s D σ H
inductive HsOk (Γ : Gd) (X : Cx) : List ExceptHandler → Hs → List Cl → Prop
  | nil : HsOk Γ X [] .nil []
  | bare {x : Str} {C : Addr} {cs : List Nat} {s : Ts} {b0 : PySem.Stmt} {bs : List PySem.Stmt} {p1 p2 : Pos} {g : List ExceptHandler} {r : Hs} {l : List Cl} (hc : Names X x (.ref C)) (hk : ∀ c' C' fo', Γ.xt c' = some (C', fo') → PySem.W.exmOne X.K (.ref C') (.ref C) = some (cs.contains c'))
      (hs : SuOk X (b0 :: bs) (tsX Γ cs none s)) (hr : HsOk Γ X g r l) : HsOk Γ X (.ExceptHandler (some (.Name x p1)) none (b0 :: bs) p2 :: g) (.cons cs none s r) (⟨.ref C, none, tsX Γ cs none s⟩ :: l)
  | named {x n : Str} {i : Nat} {C : Addr} {cs : List Nat} {s : Ts} {b0 : PySem.Stmt} {bs : List PySem.Stmt} {p1 p2 : Pos} {g : List ExceptHandler} {r : Hs} {l : List Cl} (hc : Names X x (.ref C)) (hk : ∀ c' C' fo', Γ.xt c' = some (C', fo') → PySem.W.exmOne X.K (.ref C') (.ref C) = some (cs.contains c'))
      (hi : X.N[i]? = some n) (hl : X.env.kindOf n = some .local) (hs : SuOk X (b0 :: bs) (tsX Γ cs (some i) s)) (hr : HsOk Γ X g r l) : HsOk Γ X (.ExceptHandler (some (.Name x p1)) (some n) (b0 :: bs) p2 :: g) (.cons cs (some i) s r) (⟨.ref C, some i, tsX Γ cs (some i) s⟩ :: l)
theorem HsOk.cls {g : List ExceptHandler} {h : Hs} {l : List Cl} (w : HsOk Γ X g h l) : ClsOk X g l := by
  induction w with
  | nil => exact .nil
  | bare hc hk hs hr ih => exact .bare hc hs ih
  | named hc hk hi hl hs hr ih => exact .named hc hi hl hs ih
theorem RepX.rel {μ : List Addr} {H : Hp} {S : Store} {x : Exn} {cls : Value} {d : Option Addr} (rs : RepS Γ.K μ H S) (r : RepX Γ μ H x cls d) : ∃ C fx o, cls = .ref C ∧ Γ.xt x.cls = some (C, fx) ∧ SuRel x fx d o ∧
    ∀ b f dv, o = some (b, f, dv) → ∃ v, H b = some (.xd [(f, v)]) ∧ b ∉ μ ∧ RepV Γ.K μ H dv v := by
  obtain ⟨C, fx, e1, e2, ⟨e3, e4, e5⟩ | ⟨dv, f, a, v, e3, e4, e5, e6, e7⟩⟩ := r
  · exact ⟨C, fx, none, e2, e1, .inl ⟨e3, e4, e5, rfl⟩, fun _ _ _ z => nomatch z⟩
  · refine ⟨C, fx, some (a, f, dv), e2, e1, .inr ⟨f, a, dv, e3, e4, e5, rfl⟩, fun _ _ _ z => ?_⟩
    cases z
    refine ⟨v, e6, fun m => ?_, e7⟩
    obtain ⟨o, z1, z2⟩ := rs.there m
    rw [e6] at z1
    cases z1
    exact z2
/-- what stands around a suite -/
theorem RepE.su {μ : List Addr} {H : Hp} {σ : L2.St} {env : Env} {x : Exn} {i : Option Nat} {a : Addr} {o : Option (Addr × Str × D)} (re : RepE Γ μ H σ env) (ho : ∀ b f dv, o = some (b, f, dv) → ∃ v, H b = some (.xd [(f, v)]) ∧ b ∉ μ ∧ RepV Γ.K μ H dv v) :
    RepE (Γ.su x i a o) μ H (atO σ a i) (wipeO env i) := by
  cases i with
  | none => exact ⟨re.len, re.slot, .no rfl⟩
  | some i =>
    refine ⟨by simp [atO, wipeO, re.len], fun j dj q => ?_, ?_⟩
    · simp only [wipeO] at q
      by_cases z : i = j
      · subst z
        by_cases hl : i < env.length
        · rw [List.getElem?_set_self hl] at q; cases q
        · rw [List.getElem?_eq_none (by simp; omega)] at q; cases q
      · rw [List.getElem?_set_ne z] at q
        simp only [atO]
        rw [List.getElem?_set_ne z]
        exact re.slot j dj q
    · show (_ ∧ _)
      refine ⟨fun q => ?_, ?_⟩
      · simp only [wipeO] at q
        have hl : i < env.length := by
          have := (List.getElem?_eq_some_iff.mp q).1
          simpa using this
        simp only [atO]
        rw [List.getElem?_set_self (by rw [← re.len]; exact hl)]
      · cases o with
        | none => trivial
        | some b => exact ho _ _ _ rfl
theorem RepE.unsu {μ : List Addr} {H : Hp} {σ : L2.St} {env : Env} {x : Exn} {i : Option Nat} {a : Addr} {o : Option (Addr × Str × D)} (hc : Γ.cx = none) (re : RepE (Γ.su x i a o) μ H σ env) :
    RepE Γ μ H (match i with | none => σ | some i => σ.set i none) (wipeO env i) := by
  have re' : RepE Γ μ H σ env := ⟨re.len, re.slot, .no hc⟩
  cases i with
  | none => exact re'
  | some i => exact re'.setN hc
theorem AftS.su {μ : List Addr} {H : Hp} {Z : Ends} {o : Out} {x : Exn} {i : Option Nat} {a : Addr} {b : Option (Addr × Str × D)} (hc : Γ.cx = none) (h : AftS Γ W μ H Z (o.aftX i)) : AftS (Γ.su x i a b) W0 μ H (endsO Z i) o := by
  cases o with
  | nx env S => intro μ' H' σ' e r re; have z := h μ' H' _ e r (re.unsu hc); cases i <;> exact z
  | bk env S => intro μ' H' σ' e r re; have z := h μ' H' _ e r (re.unsu hc); cases i <;> exact z
  | ct env S => intro μ' H' σ' e r re; have z := h μ' H' _ e r (re.unsu hc); cases i <;> exact z
  | rt d S => intro μ' H' v e r rv; have z := h μ' H' v e r rv; cases i <;> exact z
  | ex x env S => exact h.elim
  | stuck => exact h.elim
theorem HsOk.asks {μ : List Addr} {H : Hp} {D : Ends} {S : Store} {σ : L2.St} {env : Env} {x : Exn} {cls : Value} {d : Option Addr} (hc : Γ.cx = none) (rs : RepS Γ.K μ H S) (re : RepE Γ μ H σ env) (rx : RepX Γ μ H x cls d) {g : List ExceptHandler} {hs : Hs} {l : List Cl} (w : HsOk Γ X g hs l) :
    AftS Γ W μ H D (exH Γ.F hs x env S) → wCls X.K W D l cls d σ H := by
  obtain ⟨C, fx, o, e1, e2, e3, e4⟩ := rx.rel rs
  induction w with
  | nil => exact fun h => h μ H σ cls d (Ext.refl _ _) rs re rx
  | @bare y C' cs s b0 bs p1 p2 g r l hc' hk hs hr ih =>
    intro h
    simp only [exH] at h
    refine ⟨_, by rw [e1]; exact hk _ _ _ e2, fun t a na => ?_, fun t => ?_⟩
    · rw [if_pos t] at h
      exact ⟨x, C, fx, o, t, e1, e2, e3, μ, _, S, rs, re.su e4, h.su hc⟩
    · rw [if_neg (by rw [t]; simp)] at h
      exact ih h
  | @named y n i C' cs s b0 bs p1 p2 g r l hc' hk hi hl hs hr ih =>
    intro h
    simp only [exH] at h
    refine ⟨_, by rw [e1]; exact hk _ _ _ e2, fun t a na => ?_, fun t => ?_⟩
    · rw [if_pos t] at h
      exact ⟨x, C, fx, o, t, e1, e2, e3, μ, _, S, rs, re.su e4, h.su hc⟩
    · rw [if_neg (by rw [t]; simp)] at h
      exact ih h
theorem s_try {g0 : ExceptHandler} {gs : List ExceptHandler} {body : List PySem.Stmt} {cb : Ts} {ch : Hs} {l : List Cl} (hc : Γ.cx = none) (hst : X.stack = X.env :: X.outer) (hfr : X.env.frame = some X.env.locals) (hN : X.N.Nodup) (tk : L2N.Takes X W)
    (hb : ∀ (W' : WX) (pn : List (Addr × Obj)) (xe : Value → Shared → Prop), L2N.Takes (X.tr pn xe) W' → PassesOwn (model X.prog X.w) X.A X.env xe → PSs (X.tr pn xe) body (tSs Γ W' cb)) (w : HsOk Γ X (g0 :: gs) ch l) :
    PS X (.Try body (g0 :: gs) [] [] pos) (tS Γ W (.try_ cb ch)) :=
  (ps_try_cls hst hfr hN tk hb w.cls).imp fun D σ H ⟨μ, env, S, rs, re, h⟩ => ⟨μ, env, S, rs, re, by
    simp only [exT] at h
    cases hO : exTs Γ.F cb env S with
    | ex x env' S' =>
      rw [hO] at h
      exact fun μ' H' σ' cls dd e r re' rx => w.asks hc r re' rx (AftS.mono h e)
    | nx env' S' => rw [hO] at h; exact h
    | rt d S' => rw [hO] at h; exact h
    | bk env' S' => rw [hO] at h; exact h
    | ct env' S' => rw [hO] at h; exact h
    | stuck => rw [hO] at h; exact h⟩
end
end PD
end

section
set_option linter.all false
set_option maxRecDepth 100000
set_option maxHeartbeats 2000000
/-! PDcomp: from the model's syntax to ours, and that this is sound. -/
namespace PD
open PySem L2

/-- what a name of the module stands for -/
inductive Gl' where
  | fn (f np : Nat) | cst (d : D) | gcd
  | exc (c : Nat) (fo : Option Str) (subs : List Nat)
abbrev GTab := List (Str × Gl')
def bltTab : List (Str × Blt) := [("len", .len), ("abs", .abs), ("int", .int), ("str", .str), ("tuple", .tuple), ("list", .list), ("all", .all), ("any", .any), ("sum", .sum), ("max", .max), ("min", .min), ("sorted", .sorted)]
def tyTab : List (Str × Ty) := [("int", .int), ("bool", .bool), ("str", .str), ("tuple", .tuple), ("list", .list)]
def mthTab : List (Str × Mth) := [("append", .append), ("pop", .pop), ("extend", .extend), ("join", .join), ("split", .split), ("partition", .partition), ("startswith", .startswith), ("update", .update)]
def bltNames : List Str := ["len", "abs", "int", "str", "tuple", "list", "all", "any", "sum", "bool", "isinstance", "range", "enumerate", "zip", "max", "min", "sorted"]

def slotOf (N : List Str) (sc : Scope) (x : Str) : Option Nat :=
  match sc.names.lookup x with
  | some .local | some .cell | some .free =>
    if N[N.findIdx (· == x)]? = some x ∧ (x == ("__debug__" : Str)) = false ∧ (x == ("__classdict__" : Str)) = false then some (N.findIdx (· == x)) else none
  | _ => none
def isGl (sc : Scope) (x : Str) : Bool := decide (sc.names.lookup x = some .globalImplicit) && !(x == ("__debug__" : Str))
/-- a name that is stored -/
def stoOf (N : List Str) (sto : Str → Bool) (x : Str) : Option Nat :=
  if N[N.findIdx (· == x)]? = some x ∧ sto x = true then some (N.findIdx (· == x)) else none
def compL (f : PySem.Expr → Option E) : List PySem.Expr → Option Es
  | [] => some .nil
  | e :: es => match nst e, f e, compL f es with
    | true, some c, some cs => some (.cons c cs)
    | _, _, _ => none
def compLS (f : PySem.Expr → Option E) : List PySem.Expr → Option Es
  | [] => some .nil
  | e :: es => match e with
    | .Starred a _ => match f a, compLS f es with
      | some c, some cs => some (.star c cs)
      | _, _ => none
    | _ => match nst e, f e, compLS f es with
      | true, some c, some cs => some (.cons c cs)
      | _, _, _ => none
def compB (op : BoolOp) (f : PySem.Expr → Option E) : List PySem.Expr → Option E
  | [] => none
  | [e] => f e
  | e :: e2 :: r => match f e, compB op f (e2 :: r) with
    | some a, some b => some (match op with | .And => .and a b | .Or => .or a b)
    | _, _ => none
def compO (f : PySem.Expr → Option E) : Option PySem.Expr → Option Oe
  | none => some .no
  | some e => (f e).map .so
def compTg (N : List Str) (sto : Str → Bool) : Nat → PySem.Expr → Option Tg
  | 0, _ => none
  | n + 1, e => match e with
    | .Name x _ => (stoOf N sto x).map .nm
    | .Tuple es _ _ => (go (compTg N sto n) es).map .tp
    | _ => none
where go (f : PySem.Expr → Option Tg) : List PySem.Expr → Option Tgs
  | [] => some .nil
  | e :: es => match nst e, f e, go f es with
    | true, some t, some ts => some (.cons t ts)
    | _, _, _ => none
def notSet : PySem.Expr → Bool
  | .Set .. => false
  | _ => true
def isM1 : PySem.Expr → Bool
  | .UnaryOp .USub (.Constant (.int 1) _ _) _ => true
  | _ => false
def tupTg : PySem.Expr → Bool
  | .Tuple .. => true
  | _ => false
theorem tupTg_ok {e : PySem.Expr} (h : tupTg e = true) : ∃ es k p, e = .Tuple es k p := by
  cases e <;> first | exact ⟨_, _, _, rfl⟩ | cases h
def compI (tab : GTab) (sc : Scope) (f : PySem.Expr → Option E) (tg : PySem.Expr) (e : PySem.Expr) : Option I :=
  match e with
  | .Call (.Name x _) args [] _ =>
    if isGl sc x = true ∧ (tab.lookup x).isNone = true ∧ x = ("range" : Str) then
      match args with
      | [a] => match nst a, f a with
        | true, some ca => some (.rng1 ca)
        | _, _ => none
      | [a, b] => match nst a, nst b, f a, f b with
        | true, true, some ca, some cb => some (.rng2 ca cb)
        | _, _, _, _ => none
      | [a, b, c] => match nst a, nst b, isM1 c, f a, f b with
        | true, true, true, some ca, some cb => some (.rng3 ca cb (-1))
        | _, _, _, _, _ => none
      | _ => none
    else if isGl sc x = true ∧ (tab.lookup x).isNone = true ∧ tupTg tg = true ∧ x = ("enumerate" : Str) then
      match args with
      | [a] => match nst a, f a with
        | true, some ca => some (.enu ca)
        | _, _ => none
      | _ => none
    else if isGl sc x = true ∧ (tab.lookup x).isNone = true ∧ tupTg tg = true ∧ x = ("zip" : Str) then
      match args with
      | [a, b] => match nst a, nst b, f a, f b with
        | true, true, some ca, some cb => some (.zip ca cb)
        | _, _, _, _ => none
      | _ => none
    else (f e).map .any
  | .Set .. => none
  | e => (f e).map .any
def ownOf (N : List Str) (scope : Scope) : List (Str × Nat) := scope.names.filterMap fun y => match y.2 with
  | .local | .cell => if y.1 ∈ N then some (y.1, N.findIdx (· == y.1)) else none
  | _ => none
def stoIn (scope : Scope) (x : Str) : Bool := decide (scope.names.lookup x = some .local) || decide (scope.names.lookup x = some .cell)
def notSl : PySem.Expr → Bool
  | .Slice .. => false
  | _ => true
def notCall : PySem.Expr → Bool
  | .Call .. => false
  | _ => true
/-- what the evaluator does not know -/
def stuckE : E := .un .Not (.cst .non)
/-- isinstance of the caught exception -/
def compXi (tab : GTab) (sc : Scope) (md : Md) (a : PySem.Expr) (y : Str) : Option E :=
  match a, md.en with
  | .Name n _, some (m, i, _) => if n = m then (match isGl sc y, tab.lookup y with
    | true, some (.exc _ _ subs) => some (.xi i subs)
    | _, _ => none) else none
  | _, _ => none
def compE (tab : GTab) (N : List Str) (md : Md) : Nat → Scope → PySem.Expr → Option E
  | 0, _, _ => none
  | n + 1, sc, e => match e with
    | .Constant .none _ _ => some (.cst .non)
    | .Constant (.bool b) _ _ => some (.cst (.bl b))
    | .Constant (.int i) _ _ => some (.cst (.int i))
    | .Constant (.str s) _ _ => some (.cst (.str s))
    | .Name x _ => match slotOf N sc x with
      | some i => some (.slot i)
      | none => match isGl sc x, tab.lookup x with
        | true, some (.cst d) => some (.cst d)
        | _, _ => none
    | .BinOp a o b _ => match compE tab N md n sc a, compE tab N md n sc b with
      | some x, some y => some (.bin o x y)
      | _, _ => none
    | .UnaryOp .Not a _ => (compE tab N md n sc a).map .not
    | .UnaryOp o a _ => (compE tab N md n sc a).map (.un o)
    | .Compare a [o] [b] _ => match behindInMarks o b, compE tab N md n sc a, compE tab N md n sc b with
      | false, some x, some y => some (.cmp o x y)
      | _, _, _ => none
    | .Compare a [o, p] [b, c] _ => match lastMarks [o, p] [b, c], compE tab N md n sc a, compE tab N md n sc b, compE tab N md n sc c with
      | false, some x, some y, some z => some (.chn o p x y z)
      | _, _, _, _ => none
    | .BoolOp op vs _ => compB op (compE tab N md n sc) vs
    | .IfExp c a b _ => match compE tab N md n sc c, compE tab N md n sc a, compE tab N md n sc b with
      | some z, some x, some y => some (.ife z x y)
      | _, _, _ => none
    | .Call (.Name x _) args [] _ => match isGl sc x, tab.lookup x with
      | true, some (.fn f np) => match compL (compE tab N md n sc) args, decide (args.length = np) with
        | some cs, true => some (.call (fid md f) cs)
        | _, _ => none
      | true, some .gcd => match args with
        | a :: as => (compL (compE tab N md n sc) (a :: as)).map (.blt .gcd)
        | [] => none
      | true, none => match decide (x = ("isinstance" : Str)), args with
        | true, [a, .Name y _] => match compXi tab sc md a y with
          | some c => some c
          | none => match isGl sc y, tab.lookup y, tyTab.lookup y, nst a, compE tab N md n sc a with
            | true, none, some t, true, some ca => some (.isi ca t)
            | _, _, _, _, _ => none
        | _, a :: as => match bltTab.lookup x, compL (compE tab N md n sc) (a :: as) with
          | some b, some cs => if md.hot = true ∧ bltC b = true then some stuckE else some (.blt b cs)
          | _, _ => none
        | _, [] => none
      | _, _ => none
    | .Call (.Attribute o m apos) args [] pos => match mthTab.lookup m, notCall o, apos.endLine == pos.line, decide (args.length < 29), compE tab N md n sc o, compL (compE tab N md n sc) args with
      | some mm, true, true, true, some co, some cs => some (.mth mm co cs)
      | _, _, _, _, _, _ => none
    | .Subscript a (.Slice lo hi none _) _ => match compE tab N md n sc a, compO (compE tab N md n sc) lo, compO (compE tab N md n sc) hi with
      | some x, some l, some h => some (.slc x l h)
      | _, _, _ => none
    | .Subscript a i _ => match notSl i, compE tab N md n sc a, compE tab N md n sc i with
      | true, some x, some y => some (.ix x y)
      | _, _, _ => none
    | .Tuple es _ _ => (compL (compE tab N md n sc) es).map .tup
    | .Dict [] [] _ => some .dnew
    | .List es _ => (compLS (compE tab N md n sc) es).map .lst
    | .Attribute (.Name x _) f _ => match md.en with
      | some (m, i, some g) => if x = m ∧ f = g then some (.xf i) else none
      | _ => none
    | .ListComp elt [⟨tg, iter, ifs, 0⟩] scope _ =>
      if md.hot = true then some stuckE else
      let own := ownOf N scope
      match blkC N sc scope own, notSet iter, compI tab sc (compE tab N md n sc) tg iter, compTg N (stoIn scope) 4 tg, compE tab N md n (relS scope sc) elt with
      | true, true, some ci, some ct, some ce =>
        if (slT ct).all (fun i => (own.map (·.2)).contains i) then
          match ifs with
          | [] => some (.lc ce ct ci .no (own.map (·.2)))
          | [c] => match compE tab N md n (relS scope sc) c with
            | some cc => some (.lc ce ct ci (.so cc) (own.map (·.2)))
            | none => none
          | _ => none
        else none
      | _, _, _, _, _ => none
    | _ => none

/-! ### soundness -/
/-- how an error of this class is made -/
def MkAt (P : Program) (w : World) (K : PySem.W.Frag) (mg : Str → Option Value) (base : Heap) (C : Addr) : Option Str → Prop
  | none => PySem.W.excIn K C veL "ValueError.__new__" = true
  | some f => OexC K C ∧ ∃ fI fd n1 n2, PySem.W.findIn K (.ref C) "__init__" = some (some (.ref fI)) ∧ PySem.W.typeIn K (.ref fI) = some (.type "function") ∧ FnOk P w K mg base (L2N.CX P w) 1 fI fd [n1, n2] (spI C f) ∧ Binds K fd [n1, n2] []
structure Tabs (tab : GTab) (Γ : Gd) (k : Nat) (P : Program) (w : World) (K : PySem.W.Frag) (mg : Str → Option Value) (base : Heap) : Prop where
  fn : ∀ x f np, tab.lookup x = some (.fn f np) → f < 1000 ∧ ∃ a fd ps, mg x = some (.ref a) ∧ PySem.W.keepIn K (.ref a) = true ∧ Binds K fd ps [] ∧ FnOk P w K mg base (L2N.CX P w) k a fd ps (spOf Γ f) ∧ L2H.FnH P w K mg base (L2N.CX P w) k a fd ps (spOf Γ (f + hotOff))
  cst : ∀ x d, tab.lookup x = some (.cst d) → ∃ u v, mg x = some u ∧ RelV v u ∧ ∀ μ H, RepV K μ H d v
  gcd : ∀ x, tab.lookup x = some .gcd → mg x = some (.builtin "math.gcd")
  blt : ∀ x ∈ bltNames, mg x = none
  exc : ∀ x c fo subs, tab.lookup x = some (.exc c fo subs) → ∃ C, mg x = some (.ref C) ∧ Γ.xt c = some (C, fo) ∧ MkAt P w K mg base C fo ∧ XcC K C ∧
    ∀ c' C' fo', Γ.xt c' = some (C', fo') → PySem.W.subIn K (.ref C') (.ref C) = some (subs.contains c') ∧ (C' = C → subs.contains c' = true)
  xts : ∀ c C fo, Γ.xt c = some (C, fo) → XcC K C ∧ ∀ f, fo = some f → PySem.W.findIn K (.ref C) f = some none
theorem Tabs.su {tab : GTab} {Γ : Gd} {k : Nat} {P : Program} {w : World} {K : PySem.W.Frag} {mg : Str → Option Value} {base : Heap} {x : Exn} {i : Option Nat} {a : Addr} {o : Option (Addr × Str × D)} (h : Tabs tab Γ k P w K mg base) : Tabs tab (Γ.su x i a o) k P w K mg base where
  fn := fun y f np e => by
    obtain ⟨hl, ad, fd, ps, h1, h2, h3, h4, h5⟩ := h.fn y f np e
    have e1 : ∀ j, j ≠ xfId → j ≠ xiId → spOf (Γ.su x i a o) j = spOf Γ j := fun j n1 n2 => by
      have : xF Γ.F x j = Γ.F j := by
        funext xs S
        simp only [xF, if_neg n1, if_neg n2]
      show (fun vs H Q E => ∃ μ S ds, RepS Γ.K μ H S ∧ RepVs Γ.K μ H ds vs ∧ Aft (Γ.su x i a o) E μ H (QV (Γ.su x i a o) Q) (xF Γ.F x j ds S)) = _
      rw [this]
      rfl
    refine ⟨hl, ad, fd, ps, h1, h2, h3, ?_, ?_⟩
    · rw [e1 f (by unfold xfId; omega) (by unfold xiId; omega)]; exact h4
    · rw [e1 (f + hotOff) (by unfold xfId hotOff; omega) (by unfold xiId hotOff; omega)]; exact h5
  cst := h.cst
  gcd := h.gcd
  blt := h.blt
  exc := h.exc
  xts := h.xts
theorem Tabs.fnG {tab : GTab} {Γ : Gd} {k : Nat} {P : Program} {w : World} {K : PySem.W.Frag} {mg : Str → Option Value} {base : Heap} (h : Tabs tab Γ k P w K mg base) (md : Md) {x : Str} {f np : Nat} (e : tab.lookup x = some (.fn f np)) :
    ∃ a fd ps, mg x = some (.ref a) ∧ PySem.W.keepIn K (.ref a) = true ∧ Binds K fd ps [] ∧ FnG md.hot P w K mg base k a fd ps (spOf Γ (fid md f)) := by
  obtain ⟨_, ad, fd, ps, h1, h2, h3, h4, h5⟩ := h.fn x f np e
  refine ⟨ad, fd, ps, h1, h2, h3, fun q => ?_, fun q => ?_⟩
  · unfold fid; rw [q]; exact h4
  · unfold fid; rw [q]; exact h5
theorem blt_boot : ∀ p ∈ bltTab, bootBuiltins p.1 = some (bltV p.2) ∧ p.1 ≠ "__name__" ∧ (p.1 == ("__debug__" : Str)) = false ∧ p.1 ∈ bltNames := by decide +kernel
theorem ty_boot : ∀ p ∈ tyTab, bootBuiltins p.1 = some (.type (tyN p.2)) ∧ p.1 ≠ "__name__" ∧ (p.1 == ("__debug__" : Str)) = false ∧ p.1 ∈ bltNames := by decide +kernel
theorem mth_name : ∀ p ∈ mthTab, p.1 = (mthN p.2 : Str) := by decide +kernel

section
variable {X : Cx}
theorem slotOf_ok {sc : Scope} {x : Str} {i : Nat} (h : slotOf X.N sc x = some i) (hs : X.env.scope = sc) : X.N[i]? = some x ∧ Vis X.env.scope x ∧ (x == ("__debug__" : Str)) = false ∧ (x == ("__classdict__" : Str)) = false := by
  unfold slotOf at h
  subst hs
  split at h
  · split at h
    next q => cases h; exact ⟨q.1, .inl (by assumption), q.2.1, q.2.2⟩
    · cases h
  · split at h
    next q => cases h; exact ⟨q.1, .inr (.inl (by assumption)), q.2.1, q.2.2⟩
    · cases h
  · split at h
    next q => cases h; exact ⟨q.1, .inr (.inr (by assumption)), q.2.1, q.2.2⟩
    · cases h
  · cases h
theorem isGl_ok {sc : Scope} {x : Str} (h : isGl sc x = true) (hs : X.env.scope = sc) : L2.Gl X x ∧ (x == ("__debug__" : Str)) = false := by
  subst hs
  unfold isGl at h
  simp only [Bool.and_eq_true, decide_eq_true_eq, Bool.not_eq_true'] at h
  exact ⟨h.1, h.2⟩
end
theorem base_ok {o : PySem.Expr} {m : Str} {env : PySem.Env} (h : notCall o = true) : attributeBase o m env (eval o env) = eval o env := by
  cases o <;> first | rfl | cases h
theorem set_ok {e : PySem.Expr} {env : PySem.Env} (h : notSet e = true) : ∀ x, foldedSetIterable e env x = pure x := by
  cases e <;> first | (intro _; rfl) | cases h
theorem plain_ok {i : PySem.Expr} (h : notSl i = true) : PlainIx i := by
  cases i <;> first | (intro _ _; rfl) | cases h

section
variable {Γ : Gd} {W : WX} {md : Md} {k : Nat} {X : Cx} {pos : Pos}
theorem compL_nst {f : PySem.Expr → Option E} : ∀ {es : List PySem.Expr} {cs : Es}, compL f es = some cs → ∀ e ∈ es, nst e = true
  | [], _, _, _, he => nomatch he
  | e :: es, cs, h, e', he => by
    simp only [compL] at h
    split at h
    next h1 h2 h3 =>
      rcases List.mem_cons.mp he with rfl | he
      · exact h1
      · exact compL_nst h3 e' he
    · cases h
theorem compL_ok {f : PySem.Expr → Option E} (hf : ∀ e c, f e = some c → PE X e (tE Γ W c)) : ∀ {es : List PySem.Expr} {cs : Es}, compL f es = some cs → PA X es (tEs Γ W cs)
  | [], cs, h => by simp only [compL] at h; cases h; exact a_nil
  | e :: es, cs, h => by
    simp only [compL] at h
    split at h
    next h1 h2 h3 => cases h; exact a_cons h1 (hf _ _ h2) (compL_ok hf h3)
    · cases h
theorem compLS_ok (hH : Hold Γ W md k X) {f : PySem.Expr → Option E} (hf : ∀ e c, f e = some c → PE X e (tE Γ W c)) : ∀ {es : List PySem.Expr} {cs : Es}, compLS f es = some cs → PA X es (tEs Γ W cs)
  | [], cs, h => by simp only [compLS] at h; cases h; exact a_nil
  | e :: es, cs, h => by
    unfold compLS at h
    split at h
    · split at h
      next h2 h3 => cases h; exact a_star hH (hf _ _ h2) (compLS_ok hH hf h3)
      · cases h
    · split at h
      next h1 h2 h3 => cases h; exact a_cons h1 (hf _ _ h2) (compLS_ok hH hf h3)
      · cases h
theorem compB_e {op : BoolOp} {f : PySem.Expr → Option E} (hf : ∀ e c, f e = some c → PE X e (tE Γ W c)) : ∀ {es : List PySem.Expr} {c : E}, compB op f es = some c → PE X (.BoolOp op es pos) (tE Γ W c)
  | [], c, h => by simp [compB] at h
  | [e], c, h => by simp only [compB] at h; exact pe_one (hf _ _ h)
  | e :: e2 :: r, c, h => by
    simp only [compB] at h
    split at h
    next h1 h2 =>
      cases h
      cases op with
      | And => exact e_and1 (hf _ _ h1) (compB_e hf h2)
      | Or => exact e_or1 (hf _ _ h1) (compB_e hf h2)
    · cases h
theorem compB_t {op : BoolOp} {f : PySem.Expr → Option E} (hf : ∀ e c, f e = some c → PT X e (tT Γ W c)) : ∀ {es : List PySem.Expr} {c : E}, compB op f es = some c → PW X (.BoolOp op es pos) (tT Γ W c)
  | [], c, h => by simp [compB] at h
  | [e], c, h => by
    simp only [compB] at h
    cases op with
    | And => exact pw_and1 (hf _ _ h)
    | Or => exact pw_or1 (hf _ _ h)
  | e :: e2 :: r, c, h => by
    simp only [compB] at h
    split at h
    next h1 h2 =>
      cases h
      cases op with
      | And => exact w_and1 (hf _ _ h1) (compB_t hf h2)
      | Or => exact w_or1 (hf _ _ h1) (compB_t hf h2)
    · cases h
theorem compO_ok {f : PySem.Expr → Option E} (hf : ∀ e c, f e = some c → PE X e (tE Γ W c)) : ∀ {o : Option PySem.Expr} {c : Oe}, compO f o = some c → PO X o (tO Γ W c)
  | none, c, h => by simp only [compO] at h; cases h; exact o_no
  | some e, c, h => by
    simp only [compO, Option.map_eq_some_iff] at h
    obtain ⟨a, h1, rfl⟩ := h
    exact o_so (hf _ _ h1)
theorem compTg_ok {sto : Str → Bool} (hK : Γ.K = X.K) (hN : X.N.Nodup) (hs : ∀ x, sto x = true → Loc X.env.scope x ∧ (X.fn x = true ∨ X.env.scope.names.lookup x = some .local)) :
    ∀ (n : Nat) (e : PySem.Expr) (t : Tg), compTg X.N sto n e = some t → (tupTg e = true → X.calm = true) → PG X e (tG Γ t)
  | 0, _, _, h, _ => by simp [compTg] at h
  | n + 1, e, t, h, hc => by
    unfold compTg at h
    split at h
    · simp only [Option.map_eq_some_iff, stoOf] at h
      obtain ⟨i, h1, rfl⟩ := h
      split at h1
      next q => cases h1; exact g_nm hN q.1 (hs _ q.2).1 (hs _ q.2).2
      · cases h1
    next es _ _ =>
      simp only [Option.map_eq_some_iff] at h
      obtain ⟨ts, h1, rfl⟩ := h
      have go : ∀ (es : List PySem.Expr) (ts : Tgs), compTg.go (compTg X.N sto n) es = some ts → PGs X es (tGs Γ ts) ∧ (∀ e ∈ es, nst e = true) ∧ es.length = lenTs ts := by
        intro es
        induction es with
        | nil => intro ts h; simp only [compTg.go] at h; cases h; exact ⟨g_nil, (fun _ h => nomatch h), rfl⟩
        | cons e es ih =>
          intro ts h
          simp only [compTg.go] at h
          split at h
          next h1 h2 h3 =>
            cases h
            obtain ⟨i1, i2, i3⟩ := ih _ h3
            refine ⟨g_cons h1 (compTg_ok hK hN hs n e _ h2 fun _ => hc rfl) i1, fun e' he => ?_, by simp [lenTs, i3]⟩
            rcases List.mem_cons.mp he with rfl | he
            · exact h1
            · exact i2 e' he
          · cases h
      obtain ⟨i1, i2, i3⟩ := go es ts h1
      exact g_tp hK (hc rfl) i2 i3 i1
    · cases h
/-- a test that the evaluator does not know -/
theorem t_stuck {e : PySem.Expr} {c : E} (h : ∀ F env S, evT F env c S = .stuck) : PT X e (tT Γ W c) := ⟨fun pins s σ H Q I ⟨μ, env, S, rs, re, q⟩ => by
  rw [h] at q; exact q.elim⟩
theorem pts_of_no : PTs X [] (tOT Γ W .no) := ⟨fun pins s σ H Q I ⟨μ, env, S, rs, re, h⟩ => pts_nil.run pins s σ H Q I (h.now rs)⟩
theorem pts_of_so {c : PySem.Expr} {cc : E} (h : PT X c (tT Γ W cc)) : PTs X [c] (tOT Γ W (.so cc)) := pts_one h
theorem blk_pass {s : Shared} {H : Hp} {scope : Scope} {ce : PySem.Env} {fp : List Addr} (σ : L2.St) : PassesAt (L2N.CX (X.blk s H scope ce fp).prog (X.blk s H scope ce fp).w) (X.blk s H scope ce fp) σ (atS W0 σ) :=
  fun _ _ _ _ _ _ ⟨_, _, _, _, _, _, _, _, _, _, _, _, z⟩ => z
theorem Hold.blk {s : Shared} {H : Hp} {scope : Scope} {ce : PySem.Env} {fp : List Addr} (h : Hold Γ W md k X) (hh : md.hot = false) : Hold Γ W0 md k (X.blk s H scope ce fp) :=
  ⟨h.hK, h.nd, h.calm, h.room, h.roomH, (fun q => by rw [hh] at q; cases q), h.k2, blk_pass, h.cx, h.en0, fun n i fo q => by rw [h.en0 hh] at q; cases q⟩
theorem stoIn_ok {scope : Scope} {s : Shared} {H : Hp} {C : Addr} {cl : List (Str × Addr)} {fp : List Addr} {x : Str} (h : stoIn scope x = true) :
    Loc (X.blk s H scope (compEnvC scope cl C X.env) fp).env.scope x ∧ ((X.blk s H scope (compEnvC scope cl C X.env) fp).fn x = true ∨ (X.blk s H scope (compEnvC scope cl C X.env) fp).env.scope.names.lookup x = some .local) := by
  have e : (X.blk s H scope (compEnvC scope cl C X.env) fp).env.scope = relS scope X.env.scope := rfl
  simp only [stoIn, Bool.or_eq_true, decide_eq_true_eq] at h
  rcases h with h | h
  · have q : (relS scope X.env.scope).names.lookup x = some .local := lookup_relS_keep (by decide) h
    exact ⟨.inl q, .inr q⟩
  · have q : (relS scope X.env.scope).names.lookup x = some .cell := lookup_relS_keep (by decide) h
    exact ⟨.inr q, .inl (by show (scope.names.lookup x == some .cell) = true; rw [h]; rfl)⟩
end

theorem isM1_ok {X : Cx} {c : PySem.Expr} (h : isM1 c = true) : nst c = true ∧ PE X c (tC (.int (-1))) := by
  unfold isM1 at h
  split at h
  · exact ⟨rfl, (pe_un un_neg pe_int).imp fun σ H Q q => ⟨1, rfl, q⟩⟩
  · cases h

section
variable {Γ : Gd} {md : Md} {k : Nat} {tab : GTab} {N : List Str} {P : Program} {w : World} {K : PySem.W.Frag} {mg : Str → Option Value} {base : Heap}
theorem compI_ok {X : Cx} {W : WX} {sc : Scope} {f : PySem.Expr → Option E} {tg e : PySem.Expr} {ci : I} (h : compI tab sc f tg e = some ci) (hs : X.env.scope = sc) (hH : Hold Γ W md k X) (hT : Tabs tab Γ k X.prog X.w X.K X.mg X.base)
    (hf : ∀ e c, f e = some c → PE X e (tE Γ W c)) : PI X tg e (tI Γ W ci) := by
  unfold compI at h
  have any : ∀ {e' : PySem.Expr}, (f e').map I.any = some ci → PI X tg e' (tI Γ W ci) := fun {e'} q => by
    simp only [Option.map_eq_some_iff] at q
    obtain ⟨c, q1, rfl⟩ := q
    exact i_any hH (hf _ _ q1)
  split at h
  next x p args pos =>
    split at h
    next hx =>
      obtain ⟨h1, h2, rfl⟩ := hx
      obtain ⟨g1, g2⟩ := isGl_ok h1 hs
      have m1 : X.mg "range" = none := hT.blt _ (by decide)
      split at h
      · split at h
        next a1 a2 => cases h; exact i_rng1 g1 m1 a1 (hf _ _ a2)
        · cases h
      · split at h
        next a1 a2 a3 a4 => cases h; exact i_rng2 g1 m1 a1 a2 (hf _ _ a3) (hf _ _ a4)
        · cases h
      · split at h
        next a1 a2 a3 a4 a5 => cases h; exact i_rng3 g1 m1 a1 a2 (isM1_ok (X := X) a3).1 (isM1_ok (X := X) a3).2 (hf _ _ a4) (hf _ _ a5)
        · cases h
      · cases h
    · split at h
      next hx =>
        obtain ⟨h1, h2, h3, rfl⟩ := hx
        obtain ⟨es, ek, ep, rfl⟩ := tupTg_ok h3
        obtain ⟨g1, g2⟩ := isGl_ok h1 hs
        have m1 : X.mg "enumerate" = none := hT.blt _ (by decide)
        split at h
        · split at h
          next a1 a2 => cases h; exact i_enu hH g1 m1 a1 (hf _ _ a2)
          · cases h
        · cases h
      · split at h
        next hx =>
          obtain ⟨h1, h2, h3, rfl⟩ := hx
          obtain ⟨es, ek, ep, rfl⟩ := tupTg_ok h3
          obtain ⟨g1, g2⟩ := isGl_ok h1 hs
          have m1 : X.mg "zip" = none := hT.blt _ (by decide)
          split at h
          · split at h
            next a1 a2 a3 a4 => cases h; exact i_zip hH g1 m1 a1 a2 (hf _ _ a3) (hf _ _ a4)
            · cases h
          · cases h
        · exact any h
  · cases h
  · exact any h

theorem with_t {X : Cx} {W : WX} {e : PySem.Expr} {c : E} (hH : Hold Γ W md k X) (q : PE X e (tE Γ W c)) (he : ∀ whole, isTrue e X.env whole = (do let v ← whole; standAt e.pos; holding [v] (truthy v)))
    (hev : ∀ env S, evT Γ.F env c S = (evE Γ.F env c S).bind fun x S => opTru x S) : PE X e (tE Γ W c) ∧ PT X e (tT Γ W c) := ⟨q, t_val hH q he hev⟩
theorem stuckE_ok {X : Cx} {W : WX} {e : PySem.Expr} : PE X e (tE Γ W stuckE) ∧ PT X e (tT Γ W stuckE) :=
  ⟨⟨fun pins s σ H Q I ⟨μ, env, S, rs, re, h⟩ => h.elim⟩, t_stuck fun _ _ _ => rfl⟩
theorem compXi_ok {X : Cx} {W : WX} {sc : Scope} {a : PySem.Expr} {y : Str} {c : E} {p q pos : Pos} (h : compXi tab sc md a y = some c) (hs : X.env.scope = sc) (hH : Hold Γ W md k X) (hT : Tabs tab Γ k X.prog X.w X.K X.mg X.base) (g1 : L2.Gl X "isinstance") :
    PE X (.Call (.Name "isinstance" p) [a, .Name y q] [] pos) (tE Γ W c) ∧ PT X (.Call (.Name "isinstance" p) [a, .Name y q] [] pos) (tT Γ W c) := by
  unfold compXi at h
  split at h
  next n pn m i fo hen =>
    split at h
    next hn =>
      subst hn
      split at h
      next hg htab =>
        cases h
        obtain ⟨b1, b2⟩ := isGl_ok hg hs
        obtain ⟨C, m1, m2, m3, m4, m5⟩ := hT.exc _ _ _ _ htab
        exact with_t hH (e_xi hH (hH.en _ _ _ hen) g1 (hT.blt _ (by decide)) b1 m1 b2 fun c' C' fo' q => m4.kit (m5 c' C' fo' q).1 (m5 c' C' fo' q).2) (fun _ => rfl) fun env S => by
          simp only [evT, evE]
      · cases h
    · cases h
  · cases h
theorem e_callL {X : Cx} {W : WX} {x : Str} {fi : Nat} {ad : Addr} {fd : FuncData} {ps : List Str} {p pos : Pos} {f : PySem.Expr → Option E} (hH : Hold Γ W md k X) (G : FnG md.hot X.prog X.w X.K X.mg X.base k ad fd ps (spOf Γ fi)) (hg : L2.Gl X x)
    (hm : X.mg x = some (.ref ad)) (hk : PySem.W.keepIn X.K (.ref ad) = true) (hb : Binds X.K fd ps []) (hd : (x == ("__debug__" : Str)) = false) (hf : ∀ e c, f e = some c → PE X e (tE Γ W c)) :
    ∀ {args : List PySem.Expr} {cs : Es}, compL f args = some cs → PE X (.Call (.Name x p) args [] pos) (tE Γ W (.call fi cs))
  | [], cs, h => by simp only [compL] at h; cases h; exact e_call0 hH G hg hm hk hb hd
  | a :: as, cs, h => e_call hH G hg hm hk hb hd (compL_nst h) (compL_ok hf h)
theorem e_mthL {X : Cx} {W : WX} {m : Mth} {a : PySem.Expr} {ca : E} {apos pos : Pos} {f : PySem.Expr → Option E} (hH : Hold Γ W md k X) (hbase : attributeBase a (mthN m) X.env (eval a X.env) = eval a X.env) (hline : (apos.endLine == pos.line) = true) (ha : PE X a (tE Γ W ca))
    (hf : ∀ e c, f e = some c → PE X e (tE Γ W c)) : ∀ {args : List PySem.Expr} {cs : Es}, args.length < 29 → compL f args = some cs → PE X (.Call (.Attribute a (mthN m) apos) args [] pos) (tE Γ W (.mth m ca cs))
  | [], cs, _, h => by simp only [compL] at h; cases h; exact e_mth0 hH hbase hline ha
  | b :: bs, cs, hl, h => e_mth hH hbase hline (compL_nst h) hl ha (compL_ok hf h)
theorem compE_ok (md : Md) : ∀ (n : Nat) (X : Cx) (W : WX) (sc : Scope) (e : PySem.Expr) (c : E), compE tab X.N md n sc e = some c → X.env.scope = sc → Hold Γ W md k X → Tabs tab Γ k X.prog X.w X.K X.mg X.base → PE X e (tE Γ W c) ∧ PT X e (tT Γ W c)
  | 0, _, _, _, _, _, h, _, _, _ => by simp [compE] at h
  | n + 1, X, W, sc, e, c, h, hs, hH, hT => by
    have ih : ∀ e c, compE tab X.N md n sc e = some c → PE X e (tE Γ W c) := fun e c q => (compE_ok md n X W sc e c q hs hH hT).1
    have iht : ∀ e c, compE tab X.N md n sc e = some c → PT X e (tT Γ W c) := fun e c q => (compE_ok md n X W sc e c q hs hH hT).2
    unfold compE at h
    split at h
    · cases h; exact ⟨e_cst pe_non fun _ _ => .non, t_stuck fun _ _ _ => rfl⟩
    · cases h; exact ⟨e_cst pe_bl fun _ _ => .bl _, t_stuck fun _ _ _ => rfl⟩
    · cases h; exact ⟨e_cst pe_int fun _ _ => .int _, t_stuck fun _ _ _ => rfl⟩
    · cases h; exact ⟨e_cst pe_str fun _ _ => .str _, t_stuck fun _ _ _ => rfl⟩
    · split at h
      next hsl =>
        cases h
        obtain ⟨h1, h2, h3, h4⟩ := slotOf_ok hsl hs
        exact with_t hH (e_slot h1 h2 h3 h4) (fun _ => rfl) fun _ _ => rfl
      · split at h
        next h1 h2 =>
          cases h
          obtain ⟨g1, g2⟩ := isGl_ok h1 hs
          obtain ⟨u, v, m1, r1, r2⟩ := hT.cst _ _ h2
          exact ⟨e_cst (pe_glob g1 m1 r1 g2) fun μ H => hH.hK ▸ r2 μ H, t_stuck fun _ _ _ => rfl⟩
        · cases h
    · split at h
      next h1 h2 => cases h; exact ⟨e_bin hH (ih _ _ h1) (ih _ _ h2), t_stuck fun _ _ _ => rfl⟩
      · cases h
    · simp only [Option.map_eq_some_iff] at h
      obtain ⟨a, h1, rfl⟩ := h
      exact ⟨e_not (ih _ _ h1), t_not (iht _ _ h1)⟩
    · simp only [Option.map_eq_some_iff] at h
      obtain ⟨a, h1, rfl⟩ := h
      exact ⟨e_un hH (ih _ _ h1), t_stuck fun _ _ _ => rfl⟩
    · split at h
      next h1 h2 h3 => cases h; exact ⟨e_cmp hH (ih _ _ h2) (ih _ _ h3) h1, t_cmp hH (ih _ _ h2) (ih _ _ h3) h1⟩
      · cases h
    · split at h
      next h1 h2 h3 h4 => cases h; exact ⟨e_chn hH (ih _ _ h2) (ih _ _ h3) (ih _ _ h4) h1, t_chn hH (ih _ _ h2) (ih _ _ h3) (ih _ _ h4) h1⟩
      · cases h
    · exact ⟨compB_e ih h, (compB_t iht h).pt⟩
    · split at h
      next h1 h2 h3 => cases h; exact ⟨e_ife (iht _ _ h1) (ih _ _ h2) (ih _ _ h3), t_stuck fun _ _ _ => rfl⟩
      · cases h
    · split at h
      next hg htab =>
        obtain ⟨g1, g2⟩ := isGl_ok hg hs
        split at h
        next cs hcs hnp =>
          cases h
          obtain ⟨ad, fd, ps, m1, m2, m3, m4⟩ := hT.fnG md htab
          exact with_t hH (e_callL hH m4 g1 m1 m2 m3 g2 ih hcs) (fun _ => rfl) fun _ _ => rfl
        · cases h
      next hg htab =>
        obtain ⟨g1, g2⟩ := isGl_ok hg hs
        split at h
        next a as =>
          simp only [Option.map_eq_some_iff] at h
          obtain ⟨cs, hcs, rfl⟩ := h
          exact with_t hH (e_bfn hH g1 (hT.gcd _ htab) g2 (compL_nst hcs) (compL_ok ih hcs)) (fun _ => rfl) fun _ _ => rfl
        · cases h
      next hg htab =>
        obtain ⟨g1, g2⟩ := isGl_ok hg hs
        split at h
        next hx =>
          simp only [decide_eq_true_eq] at hx
          subst hx
          split at h
          next c0 hxi =>
            cases h
            exact compXi_ok hxi hs hH hT g1
          · split at h
            next t ca a1 a2 a3 a4 a5 =>
              cases h
              obtain ⟨b1, b2⟩ := isGl_ok a1 hs
              obtain ⟨t1, t2, t3, t4⟩ := ty_boot _ (PySem.mem_of_lookup a3)
              exact with_t hH (e_isi hH g1 (hT.blt _ (by decide)) b1 (hT.blt _ t4) t1 t2 t3 a4 (ih _ _ a5)) (fun _ => rfl) fun env S => by
                simp only [evT, evE]
                cases evE Γ.F env ca S with
                | ok x S1 => simp only [R.bind_ok]; split <;> rfl
                | exc x S1 => rfl
                | stuck => rfl
            · cases h
        · split at h
          next b cs hb hcs =>
            split at h
            · cases h; exact stuckE_ok
            next hbc =>
            cases h
            obtain ⟨t1, t2, t3, t4⟩ := blt_boot _ (PySem.mem_of_lookup hb)
            exact with_t hH (e_blt hH (fun q => by
              cases z : bltC b with
              | false => rfl
              | true => exact (hbc ⟨q, z⟩).elim) g1 (hT.blt _ t4) t1 t2 t3 (compL_nst hcs) (compL_ok ih hcs)) (fun _ => rfl) fun _ _ => rfl
          · cases h
        · cases h
      · cases h
    · split at h
      next mm co cs h1 h2 h3 h4 h5 h6 =>
        cases h
        have e1 := mth_name _ (PySem.mem_of_lookup h1)
        simp only at e1
        subst e1
        exact with_t hH (e_mthL hH (base_ok h2) h3 (ih _ _ h5) ih (by simpa using h4) h6) (fun _ => rfl) fun _ _ => rfl
      · cases h
    · split at h
      next h1 h2 h3 => cases h; exact ⟨e_slc hH (ih _ _ h1) (compO_ok ih h2) (compO_ok ih h3), t_stuck fun _ _ _ => rfl⟩
      · cases h
    · split at h
      next h1 h2 h3 =>
        cases h
        exact with_t hH (e_ix hH (ih _ _ h2) (ih _ _ h3) (plain_ok h1)) (fun _ => rfl) fun _ _ => rfl
      · cases h
    · simp only [Option.map_eq_some_iff] at h
      obtain ⟨a, h1, rfl⟩ := h
      exact ⟨e_tup (compL_ok ih h1), t_stuck fun _ _ _ => rfl⟩
    · cases h; exact ⟨e_dnew, t_stuck fun _ _ _ => rfl⟩
    · simp only [Option.map_eq_some_iff] at h
      obtain ⟨a, h1, rfl⟩ := h
      exact ⟨e_lst (compLS_ok hH ih h1), t_stuck fun _ _ _ => rfl⟩
    · split at h
      next hen =>
        split at h
        next hxf =>
          obtain ⟨rfl, rfl⟩ := hxf
          cases h
          exact ⟨e_xf hH (hH.en _ _ _ hen) rfl, t_stuck fun _ _ _ => rfl⟩
        · cases h
      · cases h
    next elt tg iter ifs scope _ =>
      split at h
      · cases h; exact stuckE_ok
      next hhot =>
      have hh : md.hot = false := by simpa using hhot
      simp only at h
      split at h
      next ci ct ce h1 h2 h3 h4 h5 =>
        split at h
        next hsl =>
          have sl : ∀ i ∈ slT ct, i ∈ (ownOf X.N _).map (·.2) := fun i hi => by
            have := List.all_eq_true.mp hsl i hi
            simpa using this
          have ok : BlkOk X.N X.env.scope _ _ := blkOk_by (by rw [hs]; exact h1)
          have hi := compI_ok h3 hs hH hT ih
          have hg : ∀ (s : Shared) (H : Hp) (C : Addr) (cl : List (Str × Addr)) (fp : List Addr), PG (X.blk s H scope (compEnvC scope cl C X.env) fp) _ (tG Γ ct) := fun s H C cl fp => by
            exact compTg_ok (X := X.blk s H _ (compEnvC _ cl C X.env) fp) hH.hK hH.nd (fun x hx => stoIn_ok hx) 4 _ _ h4 fun _ => hH.calm hh
          have he : ∀ (s : Shared) (H : Hp) (C : Addr) (cl : List (Str × Addr)) (fp : List Addr), PE (X.blk s H scope (compEnvC scope cl C X.env) fp) _ (tE Γ W0 ce) := fun s H C cl fp =>
            (compE_ok md n (X.blk s H scope (compEnvC scope cl C X.env) fp) W0 _ _ _ h5 (by rw [← hs]; rfl) (hH.blk hh) hT).1
          split at h
          · cases h
            exact ⟨e_lcv hH hh hi ok sl hg (fun _ _ _ _ _ => pts_of_no) he (set_ok h2), t_stuck fun _ _ _ => rfl⟩
          · split at h
            next hc =>
              cases h
              exact ⟨e_lcv hH hh hi ok sl hg (fun s H C cl fp => pts_of_so (compE_ok md n (X.blk s H scope (compEnvC scope cl C X.env) fp) W0 _ _ _ hc (by rw [← hs]; rfl) (hH.blk hh) hT).2) he (set_ok h2), t_stuck fun _ _ _ => rfl⟩
            · cases h
          · cases h
        · cases h
      · cases h
    · cases h
end
end PD
end

section
set_option linter.all false
set_option maxRecDepth 100000
set_option maxHeartbeats 2000000
/-! PDdef: statements compiled, defs, the whole table. -/
namespace PD
open PySem L2

def notComp : PySem.Expr → Bool
  | .ListComp .. => false
  | .SetComp .. => false
  | .DictComp .. => false
  | _ => true
theorem swaps_ok {e : PySem.Expr} {t : Option PySem.Expr} {l : Nat} {env : PySem.Env} (h : notComp e = true) : swapsWith e t l env = pure false := by
  cases e <;> first | rfl | cases h
theorem sole_ok {e t : PySem.Expr} {l : Nat} {env : PySem.Env} (h : notComp e = true) : swapsWithSole [t] e l env = pure false := swaps_ok (t := some t) (l := l) (env := env) h
def notTup : PySem.Expr → Bool
  | .Tuple .. => false
  | .List .. => false
  | _ => true
theorem stores_ok {t e : PySem.Expr} {env : PySem.Env} (h : notTup t = true ∨ notTup e = true) : swappedStores [t] e env = pure none := by
  rcases h with h | h
  · cases t <;> first | rfl | cases h
  · cases e <;> first | (cases t <;> rfl) | cases h
theorem sole_any {e tg : PySem.Expr} {l : Nat} {env : PySem.Env} (h3 : (notComp e || !notTup tg) = true) : swapsWithSole [tg] e l env = pure false := by
  rw [Bool.or_eq_true] at h3
  rcases h3 with h3 | h3
  · exact sole_ok h3
  · cases tg with
    | Tuple ts k p => cases e <;> rfl
    | List ts p => cases e <;> rfl
    | _ => simp [notTup] at h3
theorem stores_folded {ts vs : List PySem.Expr} {env : PySem.Env} {k k2 : Nat} {p p2 : Pos} (h : vs.all (foldedForSure 8) = true) : swappedStores [.Tuple ts k p] (.Tuple vs k2 p2) env = pure none := by
  unfold swappedStores
  simp only [h, if_true]
  repeat' split
  all_goals first | rfl | (simp_all; done)
theorem stores_long {ts vs : List PySem.Expr} {env : PySem.Env} {k k2 : Nat} {p p2 : Pos} (h : (!(ts.length == 2 || ts.length == 3) || vs.length != ts.length) = true) : swappedStores [.Tuple ts k p] (.Tuple vs k2 p2) env = pure none := by
  unfold swappedStores
  simp only [h, Bool.true_or, if_true]
theorem stores_cell2 {x y : Str} {px py pt pt2 : Pos} {kt k2 : Nat} {vs : List PySem.Expr} {env : PySem.Env} (h : env.scope.names.lookup x = some .cell ∨ env.scope.names.lookup y = some .cell) :
    swappedStores [.Tuple [.Name x px, .Name y py] kt pt] (.Tuple vs k2 pt2) env = pure none := by
  have key : ∀ l, ([PySem.Expr.Name x px, .Name y py].filterMap fun | .Name id pos => if env.kindOf id == some .local && pos.line == l then some id else none | _ => none).length ≠ 2 := by
    intro l
    rcases h with h | h
    · have k : env.kindOf x = some .cell := h
      simp only [List.filterMap_cons, List.filterMap_nil, k]
      have : (some NameKind.cell == some NameKind.local) = false := rfl
      simp only [this, Bool.false_and, Bool.false_eq_true, if_false]
      split <;> simp
    · have k : env.kindOf y = some .cell := h
      simp only [List.filterMap_cons, List.filterMap_nil, k]
      have : (some NameKind.cell == some NameKind.local) = false := rfl
      simp only [this, Bool.false_and, Bool.false_eq_true, if_false]
      split <;> simp
  unfold swappedStores
  simp only [pure_bind]
  split
  · rfl
  · split
    · rfl
    · have k2 := key px.line
      rw [if_pos]
      simp only [Bool.or_eq_true, bne_iff_ne, ne_eq, List.length_cons, List.length_nil]
      exact .inl k2
theorem stores_cell3 {x y z : Str} {px py pz pt pt2 : Pos} {kt k2 : Nat} {vs : List PySem.Expr} {env : PySem.Env} (h : env.scope.names.lookup x = some .cell ∨ env.scope.names.lookup y = some .cell ∨ env.scope.names.lookup z = some .cell) :
    swappedStores [.Tuple [.Name x px, .Name y py, .Name z pz] kt pt] (.Tuple vs k2 pt2) env = pure none := by
  have key : ∀ l, ([PySem.Expr.Name x px, .Name y py, .Name z pz].filterMap fun | .Name id pos => if env.kindOf id == some .local && pos.line == l then some id else none | _ => none).length ≠ 3 := by
    intro l
    have f : (some NameKind.cell == some NameKind.local) = false := rfl
    rcases h with h | h | h
    · have k : env.kindOf x = some .cell := h
      simp only [List.filterMap_cons, List.filterMap_nil, k, f, Bool.false_and, Bool.false_eq_true, if_false]
      split <;> split <;> simp
    · have k : env.kindOf y = some .cell := h
      simp only [List.filterMap_cons, List.filterMap_nil, k, f, Bool.false_and, Bool.false_eq_true, if_false]
      split <;> split <;> simp
    · have k : env.kindOf z = some .cell := h
      simp only [List.filterMap_cons, List.filterMap_nil, k, f, Bool.false_and, Bool.false_eq_true, if_false]
      split <;> split <;> simp
  unfold swappedStores
  simp only [pure_bind]
  split
  · rfl
  · split
    · rfl
    · have k2 := key px.line
      rw [if_pos]
      simp only [Bool.or_eq_true, bne_iff_ne, ne_eq, List.length_cons, List.length_nil]
      exact .inl k2
theorem stores_par2 {x y : Str} {px py pt pt2 : Pos} {kt k2 : Nat} {a b : PySem.Expr} {env : PySem.Env} (hk : env.scope.kind = .function) (hx : env.scope.names.lookup x = some .local) (hy : env.scope.names.lookup y = some .local) (hl : (py.line == px.line) = true) (hne : (x == y) = false)
    (ha : nst a = true) (hb : nst b = true) (h1 : [a, b].all (foldedForSure 8) = false) (h2 : [a, b].all (constantsAlone 8) = false) :
    swappedStores [.Tuple [.Name x px, .Name y py] kt pt] (.Tuple [a, b] k2 pt2) env = pure (some [x, y]) := by
  have hb' : env.blockKind = .function := by unfold Env.blockKind; rw [hk]; rfl
  have kx : env.kindOf x = some .local := hx
  have ky : env.kindOf y = some .local := hy
  have ne2 : (y == x) = false := by
    cases q : (y == x) with
    | false => rfl
    | true => rw [beq_iff_eq] at q; subst q; simp at hne
  unfold swappedStores
  simp only [h1, h2, hb', List.any_cons, List.any_nil, List.filterMap_cons, List.filterMap_nil, kx, ky, Expr.pos, List.head?_cons, Option.map_some, Option.getD_some, hl]
  simp [List.eraseDups, List.eraseDupsBy, List.eraseDupsBy.loop, hne, ne2]
  intro z
  exfalso
  clear h1 h2
  rcases z with z | z
  · cases a <;> first | (cases z; done) | (cases ha; done)
  · cases b <;> first | (cases z; done) | (cases hb; done)
theorem stores_par3 {x y z : Str} {px py pz pt pt2 : Pos} {kt k2 : Nat} {a b c : PySem.Expr} {env : PySem.Env} (hk : env.scope.kind = .function) (hx : env.scope.names.lookup x = some .local) (hy : env.scope.names.lookup y = some .local) (hz : env.scope.names.lookup z = some .local)
    (hl : (py.line == px.line) = true) (hl2 : (pz.line == px.line) = true) (hne : (x == y) = false) (hne2 : (x == z) = false) (hne3 : (y == z) = false)
    (ha : nst a = true) (hb : nst b = true) (hc : nst c = true) (h1 : [a, b, c].all (foldedForSure 8) = false) (h2 : [a, b, c].all (constantsAlone 8) = false) :
    swappedStores [.Tuple [.Name x px, .Name y py, .Name z pz] kt pt] (.Tuple [a, b, c] k2 pt2) env = pure (some [x, y, z]) := by
  have hb' : env.blockKind = .function := by unfold Env.blockKind; rw [hk]; rfl
  have kx : env.kindOf x = some .local := hx
  have ky : env.kindOf y = some .local := hy
  have kz : env.kindOf z = some .local := hz
  have sw : ∀ {u v : Str}, (u == v) = false → (v == u) = false := fun {u v} h => by
    cases q : (v == u) with
    | false => rfl
    | true => rw [beq_iff_eq] at q; subst q; simp at h
  unfold swappedStores
  simp only [h1, h2, hb', List.any_cons, List.any_nil, List.filterMap_cons, List.filterMap_nil, kx, ky, kz, Expr.pos, List.head?_cons, Option.map_some, Option.getD_some, hl, hl2]
  simp [List.eraseDups, List.eraseDupsBy, List.eraseDupsBy.loop, hne, hne2, hne3, sw hne, sw hne2, sw hne3]
  intro q
  exfalso
  clear h1 h2
  rcases q with q | q | q
  · cases a <;> first | (cases q; done) | (cases ha; done)
  · cases b <;> first | (cases q; done) | (cases hb; done)
  · cases c <;> first | (cases q; done) | (cases hc; done)
theorem s_par3 {Γ : Gd} {W : WX} {md : Md} {k : Nat} {X : Cx} {pos : Pos} {a b c : PySem.Expr} {i j l : Nat} {x y z : Str} {px py pz pt : Pos} {kt k2 : Nat} {pt2 : Pos} {ces : Es} (hH : Hold Γ W md k X) (hh : md.hot = false) (hi : X.N[i]? = some x) (hj : X.N[j]? = some y) (hl : X.N[l]? = some z) (hij : i ≠ j) (hil : i ≠ l) (hjl : j ≠ l)
    (hx : X.env.scope.names.lookup x = some .local) (hy : X.env.scope.names.lookup y = some .local) (hz : X.env.scope.names.lookup z = some .local) (ha : PA X [a, b, c] (tEs Γ W ces))
    (hw : swappedStores [.Tuple [.Name x px, .Name y py, .Name z pz] kt pt] (.Tuple [a, b, c] k2 pt2) X.env = pure (some [x, y, z])) :
    PS X (.Assign [.Tuple [.Name x px, .Name y py, .Name z pz] kt pt] (.Tuple [a, b, c] k2 pt2) pos) (tS Γ W (.asg (.tp (.cons (.nm i) (.cons (.nm j) (.cons (.nm l) .nil)))) (.tup ces))) :=
  (ps_par3 (hH.calm hh) hH.nd hi hj hl hij hil hjl hx hy hz ha hw).imp fun D σ H ⟨μ, env, S, rs, re, h⟩ => ⟨μ, env, S, rs, re, by
    simp only [exT, evE] at h
    cases hE : evEs Γ.F env ces S with
    | stuck => rw [hE] at h; exact h.elim
    | exc x S1 => rw [hE] at h; exact fun μ' H' cls dd e r rx => h μ' H' σ cls dd e r (re.mono e) rx
    | ok ds S1 =>
      rw [hE] at h
      intro μ1 H1 e1 r1 vs rvs
      replace h := AftS.mono h e1
      simp only [R.bind_ok] at h
      split at h
      next hl =>
        simp only [R.out_ok] at h
        split at h
        next env' he =>
          simp only [asgT, itemsOf] at he
          match ds, rvs with
          | [], _ => simp [asgTs] at he
          | [_], _ => simp [asgTs, asgT] at he
          | [_, _], _ => simp [asgTs, asgT] at he
          | _ :: _ :: _ :: _ :: _, _ => simp [asgTs, asgT] at he
          | [d1, d2, d3], .cons rv1 (.cons rv2 (.cons rv3 .nil)) =>
            simp only [asgTs, asgT, Option.some.injEq] at he
            subst he
            exact ⟨_, _, _, rfl, AftS.nxt h r1 ((((re.mono e1).set rv1).set rv2).set rv3)⟩
        · exact h.elim
      · exact h.elim⟩

/-! ### statements compiled -/
theorem seti_ok {a i : PySem.Expr} {p : Pos} {env : PySem.Env} (h : notSl i = true) : ∀ v, assign (.Subscript a i p) env v = (do
      let ov ← holding [v] (eval a env)
      let iv ← holding [v, ov] (eval i env)
      standAt p
      holding [v, ov, iv] (setItem ov iv v)
      release [v, ov, iv] []) := by
  cases i <;> first | (intro _; rfl) | cases h
def stoFn (sc : Scope) (x : Str) : Bool := stoIn sc x
def compSs (f : PySem.Stmt → Option T) : List PySem.Stmt → Option Ts
  | [] => some .nil
  | s :: r => match f s, compSs f r with
    | some a, some b => some (.cons a b)
    | _, _ => none
/-- the target and value of an assignment that goes the plain way -/
def plainAsg (tg e : PySem.Expr) : Bool :=
  match tg, e with
  | .Tuple ts _ _, .Tuple vs _ _ => vs.all (foldedForSure 8) || (!(ts.length == 2 || ts.length == 3) || vs.length != ts.length)
  | .List .., .Tuple .. => false
  | _, _ => true
theorem plainAsg_ok {tg e : PySem.Expr} {env : PySem.Env} (h : plainAsg tg e = true) : swappedStores [tg] e env = pure none := by
  unfold plainAsg at h
  split at h
  · rw [Bool.or_eq_true] at h
    rcases h with h | h
    · exact stores_folded h
    · exact stores_long h
  · cases h
  next h1 h2 =>
    by_cases q : notTup tg = true ∨ notTup e = true
    · exact stores_ok q
    · simp only [not_or, Bool.not_eq_true] at q
      cases tg with
      | Tuple ts k p =>
        cases e with
        | Tuple vs k2 p2 => exact (h1 _ _ _ _ _ _ rfl rfl).elim
        | List es p2 => rfl
        | _ => simp [notTup] at q
      | List ts p =>
        cases e with
        | Tuple vs k2 p2 => exact (h2 _ _ _ _ _ rfl rfl).elim
        | List es p2 => rfl
        | _ => simp [notTup] at q
      | _ => simp [notTup] at q
/-- a comprehension given to a name: stored within its own frame (true), as any value (false) -/
def lcWay (sc : Scope) (y : Str) (py pc : Pos) (scope : Scope) : Option Bool :=
  if sc.names.lookup y = some .local then
    if (py.line == pc.line) = true ∧ (scope.names.any fun (n, k) => n == y && (k == .local || k == .cell)) = false then some true else none
  else if sc.names.lookup y = some .cell then some false else none
/-- what is not told within an except suite -/
def hotBad : PySem.Stmt → Bool
  | .For .. => true
  | .Raise .. => true
  | .Try .. => true
  | .Assign [.Tuple ..] _ _ => true
  | .Assign [.List ..] _ _ => true
  | .Assign [.Name ..] (.ListComp ..) _ => true
  | _ => false
/-- the name of an except clause -/
def enOf (N : List Str) (sc : Scope) (c : Nat) (fo : Option Str) (subs : List Nat) (n : Str) : Option (Str × Nat × Option Str) :=
  if sc.names.lookup n = some .local ∧ N[N.findIdx (· == n)]? = some n ∧ (n == ("__debug__" : Str)) = false ∧ (n == ("__classdict__" : Str)) = false then some (n, N.findIdx (· == n), if subs = [c] then fo else none) else none
def compH (tab : GTab) (N : List Str) (sc : Scope) (f : Md → PySem.Stmt → Option T) : List ExceptHandler → Option Hs
  | [] => some .nil
  | g :: gs => match g with
    | .ExceptHandler (some (.Name x _)) no (b0 :: bs) _ => match isGl sc x, tab.lookup x with
      | true, some (.exc c fo subs) => match no with
        | none => match compSs (f ⟨true, none⟩) (b0 :: bs), compH tab N sc f gs with
          | some s, some r => some (.cons subs none s r)
          | _, _ => none
        | some n => match enOf N sc c fo subs n with
          | some e => match compSs (f ⟨true, some e⟩) (b0 :: bs), compH tab N sc f gs with
            | some s, some r => some (.cons subs (some e.2.1) s r)
            | _, _ => none
          | none => none
      | _, _ => none
    | _ => none
def compS (tab : GTab) (N : List Str) (sc : Scope) : Nat → Md → PySem.Stmt → Option T
  | 0, _, _ => none
  | n + 1, md, st => if md.hot = true ∧ hotBad st = true then some .nev else match st with
    | .Pass _ => some .pas
    | .Break _ => some .brk
    | .Continue _ => some .cnt
    | .Raise (some (.Call (.Name x _) args [] _)) none _ => match isGl sc x, tab.lookup x, args with
      | true, some (.exc c none _), [] => some (.rai c .nil)
      | true, some (.exc c (some _) _), [a] => match nst a, compE tab N md n sc a with
        | true, some ca => some (.rai c (.cons ca .nil))
        | _, _ => some .nev
      | _, _, _ => some .nev
    | .Raise .. => some .nev
    | .Try b (g :: gs) [] [] _ => match compSs (compS tab N sc n md) b, compH tab N sc (fun m => compS tab N sc n m) (g :: gs) with
      | some cb, some ch => some (.try_ cb ch)
      | _, _ => none
    | .Return none _ => some .retN
    | .Return (some e) _ => (compE tab N md n sc e).map .ret
    | .Expr e _ => if notComp e then (compE tab N md n sc e).map .exp else none
    | .If c a b _ => match compE tab N md n sc c, compSs (compS tab N sc n md) a, compSs (compS tab N sc n md) b with
      | some cc, some ca, some cb => some (.iff cc ca cb)
      | _, _, _ => none
    | .While c b [] _ => match compE tab N md n sc c, compSs (compS tab N sc n md) b with
      | some cc, some cb => some (.whl cc cb)
      | _, _ => none
    | .For tg it b [] _ => match compTg N (stoIn sc) 4 tg, notSet it, compI tab sc (compE tab N md n sc) tg it, compSs (compS tab N sc n md) b with
      | some ct, true, some ci, some cb => some (.for_ ct ci cb)
      | _, _, _, _ => none
    | .AugAssign (.Name x _) o e _ => match stoOf N (stoIn sc) x, compE tab N md n sc e with
      | some i, some ce => some (.aug i o ce)
      | _, _ => none
    | .Assign [.Subscript a i _] e _ => match notSl i, notComp e, compE tab N md n sc a, compE tab N md n sc i, compE tab N md n sc e with
      | true, true, some ca, some ci, some ce => some (.seti ca ci ce)
      | _, _, _, _, _ => none
    | .Assign [.Name y py] (.ListComp elt gens scope pc) _ => match lcWay sc y py pc scope, stoOf N (stoIn sc) y, compE tab N md n sc (.ListComp elt gens scope pc) with
      | some _, some i, some ce => some (.asg (.nm i) ce)
      | _, _, _ => none
    | .Assign [.Tuple [.Name x px, .Name y py] kt pt] (.Tuple [a, b] k2 pt2) _ =>
      match decide ([a, b].all (foldedForSure 8) = true), stoOf N (stoIn sc) x, stoOf N (stoIn sc) y, compE tab N md n sc (.Tuple [a, b] k2 pt2) with
      | true, some i, some j, some ce => some (.asg (.tp (.cons (.nm i) (.cons (.nm j) .nil))) ce)
      | false, some i, some j, some ce =>
        if sc.names.lookup x = some .local ∧ sc.names.lookup y = some .local ∧ (py.line == px.line) = true ∧ (x == y) = false ∧ nst a = true ∧ nst b = true ∧ [a, b].all (constantsAlone 8) = false ∧ i ≠ j then
          some (.asg (.tp (.cons (.nm i) (.cons (.nm j) .nil))) ce)
        else if sc.names.lookup x = some .cell ∨ sc.names.lookup y = some .cell then some (.asg (.tp (.cons (.nm i) (.cons (.nm j) .nil))) ce) else none
      | _, _, _, _ => none
    | .Assign [.Tuple [.Name x px, .Name y py, .Name z pz] kt pt] (.Tuple [a, b, c] k2 pt2) _ =>
      match decide ([a, b, c].all (foldedForSure 8) = true), stoOf N (stoIn sc) x, stoOf N (stoIn sc) y, stoOf N (stoIn sc) z, compE tab N md n sc (.Tuple [a, b, c] k2 pt2) with
      | true, some i, some j, some l, some ce => some (.asg (.tp (.cons (.nm i) (.cons (.nm j) (.cons (.nm l) .nil)))) ce)
      | false, some i, some j, some l, some ce =>
        if sc.names.lookup x = some .local ∧ sc.names.lookup y = some .local ∧ sc.names.lookup z = some .local ∧ (py.line == px.line) = true ∧ (pz.line == px.line) = true ∧ (x == y) = false ∧ (x == z) = false ∧ (y == z) = false ∧ nst a = true ∧ nst b = true ∧ nst c = true ∧
            [a, b, c].all (constantsAlone 8) = false ∧ i ≠ j ∧ i ≠ l ∧ j ≠ l then
          some (.asg (.tp (.cons (.nm i) (.cons (.nm j) (.cons (.nm l) .nil)))) ce)
        else if sc.names.lookup x = some .cell ∨ sc.names.lookup y = some .cell ∨ sc.names.lookup z = some .cell then some (.asg (.tp (.cons (.nm i) (.cons (.nm j) (.cons (.nm l) .nil)))) ce) else none
      | _, _, _, _, _ => none
    | .Assign [tg] e _ => match plainAsg tg e, nst tg, notComp e || !notTup tg, compTg N (stoIn sc) 4 tg, compE tab N md n sc e with
      | true, true, true, some ct, some ce => some (.asg ct ce)
      | _, _, _, _, _ => none
    | _ => none

section
variable {Γ : Gd} {W : WX} {md : Md} {k : Nat} {X : Cx} {tab : GTab}
/-- a def's own frame -/
structure Own (X : Cx) (W : WX) (md : Md) : Prop where
  kind : X.env.scope.kind = .function
  fn : ∀ x, X.fn x = true
  own : PassesOwn (model X.prog X.w) X.A X.env X.xe
  takes : md.hot = false → L2N.Takes X W
  st : md.hot = false → X.stack = X.env :: X.outer
  fr : md.hot = false → X.env.frame = some X.env.locals
theorem stoOf_ok {sto : Str → Bool} {x : Str} {i : Nat} (h : stoOf X.N sto x = some i) : X.N[i]? = some x ∧ sto x = true := by
  unfold stoOf at h
  split at h
  next q => cases h; exact q
  · cases h
theorem stoIn_loc {sc : Scope} {x : Str} (h : stoIn sc x = true) : Loc sc x := by
  simp only [stoIn, Bool.or_eq_true, decide_eq_true_eq] at h
  exact h
theorem swaps_cell {elt : PySem.Expr} {gs : List Comprehension} {scope : Scope} {pos py : Pos} {y : Str} {l : Nat} {env : PySem.Env} (hy : env.scope.names.lookup y = some .cell) : swapsWith (.ListComp elt gs scope pos) (some (.Name y py)) l env = pure false := by
  have ky : env.kindOf y = some .cell := hy
  unfold swapsWith
  simp only [ky]
  have : (some NameKind.cell == some NameKind.local) = false := rfl
  simp [this]
theorem sole_cell {elt : PySem.Expr} {gs : List Comprehension} {scope : Scope} {pos py : Pos} {y : Str} {l : Nat} {env : PySem.Env} (hy : env.scope.names.lookup y = some .cell) : swapsWithSole [.Name y py] (.ListComp elt gs scope pos) l env = pure false := swaps_cell (l := l) hy
theorem compSs_ok {f : PySem.Stmt → Option T} (hf : ∀ s c, f s = some c → PS X s (tS Γ W c)) : ∀ {l : List PySem.Stmt} {c : Ts}, compSs f l = some c → PSs X l (tSs Γ W c)
  | [], c, h => by simp only [compSs] at h; cases h; exact ss_nil
  | s :: r, c, h => by
    simp only [compSs] at h
    split at h
    next h1 h2 => cases h; exact ss_cons (hf _ _ h1) (compSs_ok hf h2)
    · cases h
/-- a comprehension's parts -/
theorem lc_parts (hh : md.hot = false) {n : Nat} {sc : Scope} {elt : PySem.Expr} {gens : List Comprehension} {scope : Scope} {pc : Pos} {c : E} (h : compE tab X.N md n sc (.ListComp elt gens scope pc) = some c) (hs : X.env.scope = sc) (hH : Hold Γ W md k X) (hT : Tabs tab Γ k X.prog X.w X.K X.mg X.base)
    {y : Str} {py pos : Pos} {i : Nat} (hy : X.N[i]? = some y) (hyl : X.env.scope.names.lookup y = some .local) (hsw : swapsWith (.ListComp elt gens scope pc) (some (.Name y py)) pos.line X.env = pure true) : PS X (.Assign [.Name y py] (.ListComp elt gens scope pc) pos) (tS Γ W (.asg (.nm i) c)) := by
  cases n with
  | zero => simp [compE] at h
  | succ n =>
    have ih : ∀ e c, compE tab X.N md n sc e = some c → PE X e (tE Γ W c) := fun e c q => (compE_ok md n X W sc e c q hs hH hT).1
    have hg0 : ∃ tg iter ifs, gens = [⟨tg, iter, ifs, 0⟩] := by
      unfold compE at h
      split at h
      all_goals first
        | cases h; done
        | (rename_i heq; cases heq; done)
        | skip
      rename_i heq
      cases heq
      exact ⟨_, _, _, rfl⟩
    obtain ⟨tg, iter, ifs, rfl⟩ := hg0
    · simp only [compE, hh, Bool.false_eq_true, if_false] at h
      split at h
      next ci ct ce h1 h2 h3 h4 h5 =>
        split at h
        next hsl =>
          have sl : ∀ i ∈ slT ct, i ∈ (ownOf X.N scope).map (·.2) := fun i hi => by
            have := List.all_eq_true.mp hsl i hi
            simpa using this
          have ok : BlkOk X.N X.env.scope scope (ownOf X.N scope) := blkOk_by (by rw [hs]; exact h1)
          have hi := compI_ok h3 hs hH hT ih
          have hg : ∀ (s : Shared) (H : Hp) (C : Addr) (cl : List (Str × Addr)) (fp : List Addr), PG (X.blk s H scope (compEnvC scope cl C X.env) fp) tg (tG Γ ct) := fun s H C cl fp => by
            exact compTg_ok (X := X.blk s H scope (compEnvC scope cl C X.env) fp) hH.hK hH.nd (fun x hx => stoIn_ok hx) 4 _ _ h4 fun _ => hH.calm hh
          have he : ∀ (s : Shared) (H : Hp) (C : Addr) (cl : List (Str × Addr)) (fp : List Addr), PE (X.blk s H scope (compEnvC scope cl C X.env) fp) elt (tE Γ W0 ce) := fun s H C cl fp =>
            (compE_ok md n (X.blk s H scope (compEnvC scope cl C X.env) fp) W0 _ _ _ h5 (by rw [← hs]; rfl) (hH.blk hh) hT).1
          split at h
          · cases h
            exact s_lc hH hh hy hyl hsw hi ok sl hg (fun _ _ _ _ _ => pts_of_no) he (set_ok h2)
          · split at h
            next hc =>
              cases h
              exact s_lc hH hh hy hyl hsw hi ok sl hg (fun s H C cl fp => pts_of_so (compE_ok md n (X.blk s H scope (compEnvC scope cl C X.env) fp) W0 _ _ _ hc (by rw [← hs]; rfl) (hH.blk hh) hT).2) he (set_ok h2)
            · cases h
          · cases h
        · cases h
      · cases h
theorem tup_args {n : Nat} {sc : Scope} {es : List PySem.Expr} {k2 : Nat} {p : Pos} {c : E} (h : compE tab X.N md n sc (.Tuple es k2 p) = some c) (hs : X.env.scope = sc) (hH : Hold Γ W md k X) (hT : Tabs tab Γ k X.prog X.w X.K X.mg X.base) : ∃ cs, c = .tup cs ∧ PA X es (tEs Γ W cs) := by
  cases n with
  | zero => simp [compE] at h
  | succ n =>
    unfold compE at h
    simp only [Option.map_eq_some_iff] at h
    obtain ⟨cs, h1, rfl⟩ := h
    exact ⟨cs, rfl, compL_ok (fun e c q => (compE_ok md n X W sc e c q hs hH hT).1) h1⟩
/-- the frame within an except suite -/
theorem Hold.suite {x : Exn} {i : Option Nat} {a : Addr} {o : Option (Addr × Str × D)} {oe : Obj} {pn : List (Addr × Obj)} {C : Addr} {d : Option Addr} {en : Option (Str × Nat × Option Str)} (hH : Hold Γ W md k X) (hh : md.hot = false) (zn : L2N.Zn (.ref C) d oe) (hf : ∃ fv, oe.data = .fields fv)
    (he : ∀ n j fo, en = some (n, j, fo) → SuCx (Γ.su x i a o) (X.suite a ((a, oe) :: pn)) n j fo) : Hold (Γ.su x i a o) W0 ⟨true, en⟩ k (X.suite a ((a, oe) :: pn)) where
  hK := hH.hK
  nd := hH.nd
  calm := fun q => nomatch q
  room := fun q => nomatch q
  roomH := L2H.roomH_mark (hH.room hh) _
  warm := fun _ => by
    obtain ⟨fv, e⟩ := hf
    exact ⟨(a, oe), ⟨rfl, fv, e, zn.2.2 fv e⟩, .head _⟩
  k2 := hH.k2
  pass := fun _ _ _ _ _ _ _ ⟨_, _, _, _, _, _, _, _, _, _, _, _, z⟩ => z
  cx := fun q => nomatch q
  en0 := fun q => nomatch q
  en := he
theorem Own.suite {a : Addr} {pn : List (Addr × Obj)} {en : Option (Str × Nat × Option Str)} (hO : Own X W md) : Own (X.suite a pn) W0 ⟨true, en⟩ := ⟨hO.kind, hO.fn, PassesOwn.never, (fun q => nomatch q), (fun q => nomatch q), fun q => nomatch q⟩
theorem Hold.tr {W' : WX} {pn : List (Addr × Obj)} {xe : Value → Shared → Prop} (hH : Hold Γ W md k X) (hh : md.hot = false) (tk : L2N.Takes (X.tr pn xe) W') : Hold Γ W' md k (X.tr pn xe) :=
  ⟨hH.hK, hH.nd, hH.calm, hH.room, hH.roomH, (fun q => by rw [hh] at q; cases q), hH.k2, fun σ => L2N.passAt tk σ, hH.cx, hH.en0, fun n i fo q => by rw [hH.en0 hh] at q; cases q⟩
theorem Own.tr {W' : WX} {pn : List (Addr × Obj)} {xe : Value → Shared → Prop} (hO : Own X W md) (tk : L2N.Takes (X.tr pn xe) W') (hp : PassesOwn (model X.prog X.w) X.A X.env xe) : Own (X.tr pn xe) W' md := ⟨hO.kind, hO.fn, hp, fun _ => tk, hO.st, hO.fr⟩
theorem compH_ok {f : Md → PySem.Stmt → Option T} (hO : Own X W md) (hH : Hold Γ W md k X) (hh : md.hot = false) (hT : Tabs tab Γ k X.prog X.w X.K X.mg X.base)
    (hf : ∀ (Γ' : Gd) (m : Md) (X' : Cx) (s : PySem.Stmt) (c : T), f m s = some c → X'.N = X.N → X'.env = X.env → Own X' W0 m → Hold Γ' W0 m k X' → Tabs tab Γ' k X'.prog X'.w X'.K X'.mg X'.base → PS X' s (tS Γ' W0 c)) :
    ∀ {gs : List ExceptHandler} {h : Hs}, compH tab X.N X.env.scope f gs = some h → ∃ l, HsOk Γ X gs h l
  | [], h, e => by simp only [compH] at e; cases e; exact ⟨_, .nil⟩
  | g :: gs, h, e => by
    unfold compH at e
    split at e
    next x p1 no b0 bs p2 =>
      split at e
      next c fo subs hg htab =>
        obtain ⟨g1, g2⟩ := isGl_ok (X := X) hg rfl
        obtain ⟨C, m1, m2, m3, m4, m5⟩ := hT.exc _ _ _ _ htab
        have nm : Names X x (.ref C) := ⟨g1, g2, .inl m1⟩
        have hk : ∀ c' C' fo', Γ.xt c' = some (C', fo') → PySem.W.exmOne X.K (.ref C') (.ref C) = some (subs.contains c') := fun c' C' fo' q => m4.exm (m5 c' C' fo' q).1
        have su : ∀ {en : Option (Str × Nat × Option Str)} {i : Option Nat} {s : Ts}, compSs (f ⟨true, en⟩) (b0 :: bs) = some s →
            (∀ (x : Exn) (a : Addr) (oe : Obj) (C : Addr) (d : Option Addr) (fx : Option Str) (o : Option (Addr × Str × D)) (pn : List (Addr × Obj)), L2N.Zn (.ref C) d oe → (∃ fv, oe.data = .fields fv) → Γ.xt x.cls = some (C, fx) → subs.contains x.cls = true → SuRel x fx d o →
              ∀ n j fo, en = some (n, j, fo) → SuCx (Γ.su x i a o) (X.suite a ((a, oe) :: pn)) n j fo) → SuOk X (b0 :: bs) (tsX Γ subs i s) := fun {en i s} e1 e2 a oe cls d pn zn hfv =>
          ⟨fun pins s0 σ H D I ⟨x, C', fx, o, q0, q1, q2, q3, q4⟩ => by
            subst q1
            exact (compSs_ok (fun st c q => hf (Γ.su x i a o) ⟨true, en⟩ (X.suite a ((a, oe) :: pn)) st c q rfl rfl hO.suite (hH.suite hh zn hfv (e2 x a oe C' d fx o pn zn hfv q2 q0 q3)) hT.su) e1).run pins s0 σ H D I q4⟩
        split at e
        · split at e
          next s r e1 e2 =>
            cases e
            obtain ⟨l, ih⟩ := compH_ok hO hH hh hT hf e2
            exact ⟨_, .bare nm hk (su e1 fun _ _ _ _ _ _ _ _ _ _ _ _ _ _ _ _ q => nomatch q) ih⟩
          · cases e
        next n =>
          split at e
          next en hen =>
            split at e
            next s r e1 e2 =>
              cases e
              obtain ⟨l, ih⟩ := compH_ok hO hH hh hT hf e2
              unfold enOf at hen
              split at hen
              next hc =>
                obtain ⟨c1, c2, c3, c4⟩ := hc
                cases hen
                refine ⟨_, .named nm hk c2 c1 (su e1 fun x a oe C' d fx o pn zn hfv q2 q0 q3 n' j fo' q => ?_) ih⟩
                cases q
                refine ⟨X, a, oe, C', d, pn, Γ.F, x, fx, rfl, zn.zc, hfv, (hT.xts _ _ _ q2).1, c2, c1, c3, c4, rfl, q2, fun f hfo => ?_, (hT.xts _ _ _ q2).2, ?_⟩
                · split at hfo
                  next hs =>
                    rw [hs] at q0
                    have e3 : x.cls = c := by simpa using q0
                    rw [e3, m2] at q2
                    cases q2
                    exact hfo
                  · cases hfo
                · rcases q3 with ⟨a1, a2, a3, a4⟩ | ⟨f, dd, dv, a1, a2, a3, a4⟩
                  · exact .inl ⟨a1, a2, a3, by rw [a4]; rfl⟩
                  · exact .inr ⟨f, dd, dv, a1, a2, a3, by rw [a4]; rfl⟩
              · cases hen
            · cases e
          · cases e
      · cases e
    · cases e
theorem compS_ok : ∀ (n : Nat) (Γ : Gd) (W : WX) (md : Md) (X : Cx) (st : PySem.Stmt) (c : T), compS tab X.N X.env.scope n md st = some c → Own X W md → Hold Γ W md k X → Tabs tab Γ k X.prog X.w X.K X.mg X.base → PS X st (tS Γ W c)
  | 0, _, _, _, _, _, _, h, _, _, _ => by simp [compS] at h
  | n + 1, Γ, W, md, X, st, c, h, hO, hH, hT => by
    have ih : ∀ st c, compS tab X.N X.env.scope n md st = some c → PS X st (tS Γ W c) := fun st c q => compS_ok n Γ W md X st c q hO hH hT
    have ihs : ∀ {l : List PySem.Stmt} {c : Ts}, compSs (compS tab X.N X.env.scope n md) l = some c → PSs X l (tSs Γ W c) := compSs_ok ih
    have ie : ∀ e c, compE tab X.N md n X.env.scope e = some c → PE X e (tE Γ W c) := fun e c q => (compE_ok md n X W _ e c q rfl hH hT).1
    have it : ∀ e c, compE tab X.N md n X.env.scope e = some c → PT X e (tT Γ W c) := fun e c q => (compE_ok md n X W _ e c q rfl hH hT).2
    have sto : ∀ x, stoIn X.env.scope x = true → Loc X.env.scope x ∧ (X.fn x = true ∨ X.env.scope.names.lookup x = some .local) := fun x hx => ⟨stoIn_loc hx, .inl (hO.fn x)⟩
    have tgt : ∀ {tg : PySem.Expr} {t : Tg}, compTg X.N (stoIn X.env.scope) 4 tg = some t → (tupTg tg = true → md.hot = false) → PG X tg (tG Γ t) := fun q hq => compTg_ok hH.hK hH.nd sto 4 _ _ q fun z => hH.calm (hq z)
    unfold compS at h
    split at h
    · cases h; exact s_nev
    next hhb =>
    have cold : hotBad st = true → md.hot = false := fun q => by
      cases z : md.hot with
      | false => rfl
      | true => exact (hhb ⟨z, q⟩).elim
    split at h
    · cases h; exact s_pas
    · cases h; exact s_brk
    · cases h; exact s_cnt
    · split at h
      next hg htab =>
        cases h
        obtain ⟨g1, g2⟩ := isGl_ok (X := X) hg rfl
        obtain ⟨C, m1, m2, m3, m4, m5⟩ := hT.exc _ _ _ _ htab
        exact s_rai0 (hH.calm (cold rfl)) (hO.takes (cold rfl)) m4 m3 m1 g1 g2 m2
      next hg htab =>
        obtain ⟨g1, g2⟩ := isGl_ok (X := X) hg rfl
        obtain ⟨C, m1, m2, ⟨m6, fI, fd, n1, n2, m7, m8, m9, m10⟩, m4, m5⟩ := hT.exc _ _ _ _ htab
        split at h
        next h1 h2 =>
          cases h
          exact s_rai1 (hH.calm (cold rfl)) (hO.takes (cold rfl)) m4 m6 m7 m8 m9 ((hH.room (cold rfl)).mono hH.k2) m10 m1 g1 g2 m2 h1 (ie _ _ h2)
        · cases h; exact s_nev
      · cases h; exact s_nev
    · cases h; exact s_nev
    · split at h
      next cb ch h1 h2 =>
        cases h
        have hh := cold rfl
        obtain ⟨l, hl⟩ := compH_ok hO hH hh hT (fun Γ' m X' s c q e1 e2 hO' hH' hT' => compS_ok n Γ' W0 m X' s c (by rw [e1, e2]; exact q) hO' hH' hT') h2
        exact s_try (hH.cx hh) (hO.st hh) (hO.fr hh) hH.nd (hO.takes hh) (fun W' pn xe tk hp => compSs_ok (fun s c q => compS_ok n Γ W' md (X.tr pn xe) s c q (hO.tr tk hp) (hH.tr hh tk) hT) h1) hl
      · cases h
    · cases h; exact s_retN
    · simp only [Option.map_eq_some_iff] at h
      obtain ⟨a, h1, rfl⟩ := h
      exact s_ret (ie _ _ h1)
    · split at h
      next hc =>
        simp only [Option.map_eq_some_iff] at h
        obtain ⟨a, h1, rfl⟩ := h
        exact s_exp (ie _ _ h1) (swaps_ok hc)
      · cases h
    · split at h
      next h1 h2 h3 => cases h; exact s_if (it _ _ h1) (ihs h2) (ihs h3)
      · cases h
    · split at h
      next h1 h2 => cases h; exact s_whl hO.own (it _ _ h1) (ihs h2)
      · cases h
    · split at h
      next h1 h2 h3 h4 => cases h; exact s_for hH (cold rfl) hO.own (compI_ok h3 rfl hH hT ie) (tgt h1 fun _ => cold rfl) (ihs h4) (set_ok h2)
      · cases h
    · split at h
      next h1 h2 =>
        cases h
        obtain ⟨q1, q2⟩ := stoOf_ok h1
        exact s_aug hH q1 (sto _ q2).1 (sto _ q2).2 (ie _ _ h2)
      · cases h
    · split at h
      next h1 h2 h3 h4 h5 =>
        cases h
        exact s_seti hH (ie _ _ h3) (ie _ _ h4) (ie _ _ h5) (sole_ok h2) (stores_ok (.inl rfl)) (seti_ok h1)
      · cases h
    · split at h
      next w i ce h1 h2 h3 =>
        cases h
        obtain ⟨q1, q2⟩ := stoOf_ok h2
        unfold lcWay at h1
        split at h1
        next hl =>
          split at h1
          next hc => exact lc_parts (cold rfl) h3 rfl hH hT q1 hl (sw_true hO.kind hl hc.1 hc.2)
          · cases h1
        · split at h1
          next hl => exact s_asg (ie _ _ h3) (g_nm hH.nd q1 (sto _ q2).1 (sto _ q2).2) rfl (sole_cell hl) (stores_ok (.inl rfl))
          · cases h1
      · cases h
    · split at h
      next i j ce h0 h1 h2 h3 =>
        cases h
        obtain ⟨q1, q2⟩ := stoOf_ok h1
        obtain ⟨r1, r2⟩ := stoOf_ok h2
        simp only [decide_eq_true_eq] at h0
        exact s_asg (ie _ _ h3) (g_tp hH.hK (hH.calm (cold rfl)) (by simp [nst]) rfl (g_cons rfl (g_nm hH.nd q1 (sto _ q2).1 (sto _ q2).2) (g_cons rfl (g_nm hH.nd r1 (sto _ r2).1 (sto _ r2).2) g_nil))) rfl (sole_ok rfl) (stores_folded h0)
      next i j ce h0 h1 h2 h3 =>
        split at h
        next hc =>
          cases h
          obtain ⟨c1, c2, c3, c4, c5, c6, c7, c8⟩ := hc
          obtain ⟨q1, q2⟩ := stoOf_ok h1
          obtain ⟨r1, r2⟩ := stoOf_ok h2
          obtain ⟨cs, rfl, hA⟩ := tup_args h3 rfl hH hT
          exact s_par hH (cold rfl) q1 r1 c8 c1 c2 hA (stores_par2 hO.kind c1 c2 c3 c4 c5 c6 (by simpa using h0) c7)
        · split at h
          next hc =>
            cases h
            obtain ⟨q1, q2⟩ := stoOf_ok h1
            obtain ⟨r1, r2⟩ := stoOf_ok h2
            exact s_asg (ie _ _ h3) (g_tp hH.hK (hH.calm (cold rfl)) (by simp [nst]) rfl (g_cons rfl (g_nm hH.nd q1 (sto _ q2).1 (sto _ q2).2) (g_cons rfl (g_nm hH.nd r1 (sto _ r2).1 (sto _ r2).2) g_nil))) rfl (sole_ok rfl) (stores_cell2 hc)
          · cases h
      · cases h
    · split at h
      next i j l ce h0 h1 h2 h3 h4 =>
        cases h
        obtain ⟨q1, q2⟩ := stoOf_ok h1
        obtain ⟨r1, r2⟩ := stoOf_ok h2
        obtain ⟨u1, u2⟩ := stoOf_ok h3
        simp only [decide_eq_true_eq] at h0
        exact s_asg (ie _ _ h4) (g_tp hH.hK (hH.calm (cold rfl)) (by simp [nst]) rfl (g_cons rfl (g_nm hH.nd q1 (sto _ q2).1 (sto _ q2).2) (g_cons rfl (g_nm hH.nd r1 (sto _ r2).1 (sto _ r2).2) (g_cons rfl (g_nm hH.nd u1 (sto _ u2).1 (sto _ u2).2) g_nil)))) rfl (sole_ok rfl) (stores_folded h0)
      next i j l ce h0 h1 h2 h3 h4 =>
        split at h
        next hc =>
          cases h
          obtain ⟨c1, c2, c3, c4, c5, c6, c7, c8, c9, c10, c11, c12, c13, c14, c15⟩ := hc
          obtain ⟨q1, q2⟩ := stoOf_ok h1
          obtain ⟨r1, r2⟩ := stoOf_ok h2
          obtain ⟨u1, u2⟩ := stoOf_ok h3
          obtain ⟨cs, rfl, hA⟩ := tup_args h4 rfl hH hT
          exact s_par3 hH (cold rfl) q1 r1 u1 c13 c14 c15 c1 c2 c3 hA (stores_par3 hO.kind c1 c2 c3 c4 c5 c6 c7 c8 c9 c10 c11 (by simpa using h0) c12)
        · split at h
          next hc =>
            cases h
            obtain ⟨q1, q2⟩ := stoOf_ok h1
            obtain ⟨r1, r2⟩ := stoOf_ok h2
            obtain ⟨u1, u2⟩ := stoOf_ok h3
            exact s_asg (ie _ _ h4) (g_tp hH.hK (hH.calm (cold rfl)) (by simp [nst]) rfl (g_cons rfl (g_nm hH.nd q1 (sto _ q2).1 (sto _ q2).2) (g_cons rfl (g_nm hH.nd r1 (sto _ r2).1 (sto _ r2).2) (g_cons rfl (g_nm hH.nd u1 (sto _ u2).1 (sto _ u2).2) g_nil)))) rfl (sole_ok rfl) (stores_cell3 hc)
          · cases h
      · cases h
    · split at h
      next h1 h2 h3 h4 h5 =>
        cases h
        exact s_asg (ie _ _ h5) (tgt h4 fun z => by
          obtain ⟨es, kk, pp, rfl⟩ := tupTg_ok z
          exact cold rfl) h2 (sole_any h3) (plainAsg_ok h1)
      · cases h
    · cases h
end
end PD
end

section
set_option linter.all false
set_option maxRecDepth 100000
set_option maxHeartbeats 2000000
/-! PDtop: all defs of a table at once; the law. -/
namespace PD
open PySem L2

section
variable {K : PySem.W.Frag} {μ t : List Addr} {H : Hp}
mutual
theorem RepV.lt : ∀ {d : D} {v : V}, RepV K μ H d v → D.lt μ.length d = true
  | _, _, .non => rfl
  | _, _, .bl _ => rfl
  | _, _, .int _ => rfl
  | _, _, .str _ => rfl
  | _, _, .tup _ r => by simp only [D.lt]; exact RepVs.lt r
  | _, _, .rol _ r => by simp only [D.lt]; exact RepVs.lt r
  | _, _, .ref h => by simp only [D.lt]; exact decide_eq_true (List.getElem?_eq_some_iff.mp h).1
theorem RepVs.lt : ∀ {ds : List D} {vs : List V}, RepVs K μ H ds vs → D.lts μ.length ds = true
  | _, _, .nil => rfl
  | _, _, .cons h r => by simp only [D.lts, RepV.lt h, RepVs.lt r, Bool.and_self]
end
mutual
theorem RepV.cutN : ∀ {d : D} {v : V}, RepV K (μ ++ t) H d v → D.lt μ.length d = true → RepV K μ H d v
  | _, _, .non, _ => .non
  | _, _, .bl b, _ => .bl b
  | _, _, .int i, _ => .int i
  | _, _, .str s, _ => .str s
  | _, _, .tup q r, h => .tup q (RepVs.cutN r (by simpa only [D.lt] using h))
  | _, _, .rol q r, h => .rol q (RepVs.cutN r (by simpa only [D.lt] using h))
  | _, _, .ref q, h => .ref (by
    simp only [D.lt, decide_eq_true_eq] at h
    rw [List.getElem?_append_left h] at q
    exact q)
theorem RepVs.cutN : ∀ {ds : List D} {vs : List V}, RepVs K (μ ++ t) H ds vs → D.lts μ.length ds = true → RepVs K μ H ds vs
  | _, _, .nil, _ => .nil
  | _, _, .cons q r, h => by
    simp only [D.lts, Bool.and_eq_true] at h
    exact .cons (RepV.cutN q h.1) (RepVs.cutN r h.2)
end
/-- what a call made and nobody holds is dropped -/
theorem gc_ok {μ' : List Addr} {H' : Hp} {S S' : Store} {d : D} (rs : RepS K μ H S) (e : Ext μ H μ' H') (r : RepS K μ' H' S') : ∃ μ2, Ext μ H μ2 H' ∧ RepS K μ2 H' (gcS S d S') ∧ ∀ v, RepV K μ' H' d v → RepV K μ2 H' d v := by
  unfold gcS
  split
  next h =>
    simp only [Bool.and_eq_true, Bool.or_eq_true] at h
    obtain ⟨t, rfl, ft⟩ := e.pre
    have hl := rs.len
    refine ⟨μ, ⟨⟨[], by simp, by simp⟩, e.keep, e.live, e.tups, e.frzs⟩, ?_, fun v rv => rv.cutN (by rw [hl]; exact h.1)⟩
    have hlen : μ.length ≤ S'.length := by rw [← r.len]; simp
    refine ⟨by rw [List.length_take, ← hl]; omega, rs.nd, fun m c q => ?_⟩
    rw [List.getElem?_take] at q
    split at q
    next hm =>
      obtain ⟨a, e1, e2⟩ := r.cell m c q
      have e1' : μ[m]? = some a := by rw [List.getElem?_append_left (by omega)] at e1; exact e1
      refine ⟨a, e1', ?_⟩
      cases c with
      | oth => exact e2
      | lst ds =>
        obtain ⟨vs, g1, g2⟩ := e2
        refine ⟨vs, g1, g2.cutN ?_⟩
        rcases h.2 with z | z
        · have z2 := eqStore_eq z
          have q2 : S[m]? = some (.lst ds) := by rw [← z2, List.getElem?_take]; simp [hm, q]
          obtain ⟨b, ws, f1, f2, f3⟩ := rs.lst q2
          exact f3.lt
        · have q3 : (S'.take S.length)[m]? = some (.lst ds) := by rw [List.getElem?_take]; simp only [hm, if_true]; exact q
          have z2 := List.all_eq_true.mp z (.lst ds) (List.mem_of_getElem? q3)
          rw [hl]; exact z2
      | dic kvs =>
        obtain ⟨vs, g1, g2, g3⟩ := e2
        refine ⟨vs, g1, g2, g3.cutN ?_⟩
        rcases h.2 with z | z
        · have z2 := eqStore_eq z
          have q2 : S[m]? = some (.dic kvs) := by rw [← z2, List.getElem?_take]; simp [hm, q]
          obtain ⟨b, ws, f1, f2, f3, f4⟩ := rs.dic q2
          exact f4.lt
        · have q3 : (S'.take S.length)[m]? = some (.dic kvs) := by rw [List.getElem?_take]; simp only [hm, if_true]; exact q
          have z2 := List.all_eq_true.mp z (.dic kvs) (List.mem_of_getElem? q3)
          rw [hl]; exact z2
    · cases q
  · exact ⟨μ', e, r, fun _ h => h⟩
end

/-- a def of the text; dh: how it goes within an except suite, if it is called there -/
structure Row where
  id : Nat
  name : Str
  st : PySem.Stmt
  N : List Str
  ps : List Str
  d : Def
  dh : Option Def := none
structure DefOk (tab : GTab) (r : Row) (md : Md) (d : Def) : Prop where
  comp : compSs (compS tab r.N (defScope r.st) 60 md) (defBody r.st) = some d.body
  np : d.np = r.ps.length
  ns : d.ns = r.N.length
structure RowOk (tab : GTab) (r : Row) : Prop where
  d : DefOk tab r {} r.d
  sc : FnScope r.N r.ps (defScope r.st)
  dh : ∀ d, r.dh = some d → DefOk tab r ⟨true, none⟩ d
/-- where the defs stand -/
structure Stand (rows : List Row) (tab : GTab) (T : Tab) (K : PySem.W.Frag) (mg : Str → Option Value) (xt : Nat → Option (Addr × Option Str)) : Prop where
  row : ∀ r ∈ rows, RowOk tab r
  tb : ∀ r ∈ rows, T r.id = some r.d
  tbh : ∀ r ∈ rows, T (r.id + hotOff) = r.dh
  at_ : ∀ r ∈ rows, ∃ a fd, Fun K r.name r.name r.st a fd ∧ mg r.name = some (.ref a) ∧ Binds K fd r.ps []
  fn : ∀ x f np, tab.lookup x = some (.fn f np) → f < 1000 ∧ ∃ r ∈ rows, r.name = x ∧ r.id = f
  cst : ∀ x d, tab.lookup x = some (.cst d) → ∃ u v, mg x = some u ∧ RelV v u ∧ ∀ μ H, RepV K μ H d v
  gcd : ∀ x, tab.lookup x = some .gcd → mg x = some (.builtin "math.gcd")
  blt : ∀ x ∈ bltNames, mg x = none
  exc : ∀ x c fo subs, tab.lookup x = some (.exc c fo subs) → ∃ C, mg x = some (.ref C) ∧ xt c = some (C, fo) ∧ (∀ P w base, MkAt P w K mg base C fo) ∧ XcC K C ∧
    ∀ c' C' fo', xt c' = some (C', fo') → PySem.W.subIn K (.ref C') (.ref C) = some (subs.contains c') ∧ (C' = C → subs.contains c' = true)
  xts : ∀ c C fo, xt c = some (C, fo) → XcC K C ∧ ∀ f, fo = some f → PySem.W.findIn K (.ref C) f = some none

section
variable {rows : List Row} {tab : GTab} {T : Tab} {P : Program} {w : World} {K : PySem.W.Frag} {mg : Str → Option Value} {base : Heap} {xt : Nat → Option (Addr × Option Str)}
theorem fn_zero {f : Addr} {fd : FuncData} {ps : List Str} {CX : CXT} {k : Nat} {sp : Sp} (no : ∀ vs H Q E, ¬ sp vs H Q E) : FnOk P w K mg base CX k f fd ps sp :=
  ⟨fun vs H Q E h => absurd h (no vs H Q E), fun A outer s H args us vs Q E _ _ _ _ h => absurd h (no vs H Q E)⟩
theorem fn_zeroH {f : Addr} {fd : FuncData} {ps : List Str} {CX : CXT} {k : Nat} {sp : Sp} (no : ∀ vs H Q E, ¬ sp vs H Q E) : L2H.FnH P w K mg base CX k f fd ps sp :=
  ⟨fun vs H Q E h => absurd h (no vs H Q E), fun A outer s H args us vs Q E p _ _ _ _ _ _ h => absurd h (no vs H Q E)⟩
/-- a def's run, as a body's reading -/
theorem run_body {F : Fn} {d : Def} {N : List Str} {μ : List Addr} {S : Store} {ds : List D} {vs : List V} {H : Hp} {Q : VK} {E : XK} {F' : Fn} (hn : d.ns = N.length) (rs : RepS K μ H S) (rv : RepVs K μ H ds vs) (h : Aft ⟨K, xt, F', none⟩ E μ H (QV ⟨K, xt, F', none⟩ Q) (runDef F d ds S)) :
    vs.length = d.np ∧ tSs ⟨K, xt, F, none⟩ (fun cls d _ H => E cls d H) d.body { nx := fun _ H' => Q .non H', rt := Q } (L2.start N vs) H := by
  unfold runDef at h
  split at h
  next hl =>
    refine ⟨rv.length ▸ hl, μ, ds.map some ++ List.replicate (d.ns - ds.length) none, S, rs, ⟨?_, fun i d' q => ?_, trivial⟩, ?_⟩
    · unfold L2.start
      rw [List.length_append, List.length_append, List.length_map, List.length_map, List.length_replicate, List.length_replicate, rv.length, hn]
    · unfold L2.start
      by_cases hi : i < ds.length
      · rw [List.getElem?_append_left (by simpa using hi), List.getElem?_map] at q
        cases e : ds[i]? with
        | none => rw [e] at q; cases q
        | some d2 =>
          rw [e] at q; cases q
          obtain ⟨v, hv, r1⟩ := rv.get e
          refine ⟨v, ?_, r1⟩
          rw [List.getElem?_append_left (by simp; rw [← rv.length]; exact hi), List.getElem?_map, hv]; rfl
      · rw [List.getElem?_append_right (by simpa using hi), List.getElem?_replicate] at q
        split at q <;> cases q
    · show AftS _ _ _ _ _ (exTs F d.body _ S)
      cases hO : exTs F d.body (ds.map some ++ List.replicate (d.ns - ds.length) none) S with
      | nx env S' =>
        rw [hO] at h
        intro μ' H' σ' e r' _
        obtain ⟨μ2, e2, r2, rv2⟩ := gc_ok (d := .non) rs e r'
        exact h μ2 H' e2 r2 _ .non
      | rt v S' =>
        rw [hO] at h
        intro μ' H' u e r' ru
        obtain ⟨μ2, e2, r2, rv2⟩ := gc_ok (d := v) rs e r'
        exact h μ2 H' e2 r2 _ (rv2 _ ru)
      | ex x env S' => rw [hO] at h; exact fun μ' H' σ' cls dd e r' _ rx => h μ' H' cls dd e r' rx
      | bk env S' => rw [hO] at h; exact h.elim
      | ct env S' => rw [hO] at h; exact h.elim
      | stuck => rw [hO] at h; exact h.elim
  · exact h.elim
theorem body_go {Γ : Gd} {W : WX} {md : Md} {k : Nat} {X : Cx} {r : Row} {d : Def} (hN : X.N = r.N) (hs : X.env.scope = defScope r.st) (hO : Own X W md) (hH : Hold Γ W md k X) (hT : Tabs tab Γ k X.prog X.w X.K X.mg X.base) (h : DefOk tab r md d) : PSs X (defBody r.st) (tSs Γ W d.body) :=
  compSs_ok (f := compS tab X.N X.env.scope 60 md) (fun st c q => compS_ok 60 Γ W md X st c q hO hH hT) (by rw [hN, hs]; exact h.comp)
theorem step_ok {k : Nat} {r : Row} {a : Addr} {fd : FuncData} {F : Fn} {F' : Fn} {id' : Nat} (ro : RowOk tab r) (hT : Tabs tab ⟨K, xt, F, none⟩ (k + 2) P w K mg base) (F1 : Fun K r.name r.name r.st a fd) (hF : ∀ ds S, F' id' ds S = runDef F r.d ds S) :
    FnOk P w K mg base (L2N.CX P w) (k + 1 + 2) a fd r.ps (spOf ⟨K, xt, F', none⟩ id') := by
  obtain ⟨oc, od, kV, doc, pm, an, cdv, ct, osl, rfl, lk, hcd⟩ := F1.ex
  refine fn_of lk hcd ro.sc (fun vs H Q E ⟨μ, S, ds, rs, rv, h⟩ => ?_) fun A outer s H vs Q E room ⟨μ, S, ds, rs, rv, h⟩ => ?_
  · rw [show Gd.F ⟨K, xt, F', none⟩ = F' from rfl, hF] at h
    rw [(run_body ro.d.ns rs rv h).1, ro.d.np]
  · rw [show Gd.F ⟨K, xt, F', none⟩ = F' from rfl, hF] at h
    refine ⟨tSs ⟨K, xt, F, none⟩ (fun cls d _ H => E cls d H) r.d.body, ?_, (run_body ro.d.ns rs rv h).2⟩
    have tk : L2N.Takes (cxOf (L2N.CX P w) P w K mg base r.N r.name (defScope r.st) a cdv A outer s H E) (fun cls d _ H => E cls d H) := L2N.takes_of rfl rfl rfl rfl
    have hH : Hold ⟨K, xt, F, none⟩ (fun cls d _ H => E cls d H) {} (k + 2) (cxOf (L2N.CX P w) P w K mg base r.N r.name (defScope r.st) a cdv A outer s H E) :=
      ⟨rfl, ro.sc.nd, fun _ => rfl, fun _ => room, L2H.roomH_of room, (fun q => nomatch q), by omega, fun σ => L2N.passAt tk σ, fun _ => rfl, fun _ => rfl, fun _ _ _ q => nomatch q⟩
    have hO : Own (cxOf (L2N.CX P w) P w K mg base r.N r.name (defScope r.st) a cdv A outer s H E) (fun cls d _ H => E cls d H) {} := ⟨ro.sc.kind, fun _ => rfl, passes_of rfl, fun _ => tk, fun _ => rfl, fun _ => rfl⟩
    exact body_go rfl rfl hO hH hT ro.d
theorem step_okH {k : Nat} {r : Row} {a : Addr} {fd : FuncData} {F : Fn} {F' : Fn} {id' : Nat} {dh : Def} (ro : RowOk tab r) (rh : DefOk tab r ⟨true, none⟩ dh) (hT : Tabs tab ⟨K, xt, F, none⟩ (k + 2) P w K mg base) (F1 : Fun K r.name r.name r.st a fd) (hF : ∀ ds S, F' id' ds S = runDef F dh ds S) :
    L2H.FnH P w K mg base (L2N.CX P w) (k + 1 + 2) a fd r.ps (spOf ⟨K, xt, F', none⟩ id') := by
  obtain ⟨oc, od, kV, doc, pm, an, cdv, ct, osl, rfl, lk, hcd⟩ := F1.ex
  refine L2H.fn_ofH lk hcd ro.sc (fun vs H Q E ⟨μ, S, ds, rs, rv, h⟩ => ?_) fun A outer s H vs Q E p hot room ⟨μ, S, ds, rs, rv, h⟩ => ?_
  · rw [show Gd.F ⟨K, xt, F', none⟩ = F' from rfl, hF] at h
    rw [(run_body rh.ns rs rv h).1, rh.np]
  · rw [show Gd.F ⟨K, xt, F', none⟩ = F' from rfl, hF] at h
    refine ⟨tSs ⟨K, xt, F, none⟩ (fun cls d _ H => E cls d H) dh.body, ?_, (run_body rh.ns rs rv h).2⟩
    have tk : L2N.Takes (L2H.cxH (L2N.CX P w) P w K mg base r.N r.name (defScope r.st) a cdv A outer s H E p) (fun cls d _ H => E cls d H) := L2N.takes_of rfl rfl rfl rfl
    have hH : Hold ⟨K, xt, F, none⟩ (fun cls d _ H => E cls d H) ⟨true, none⟩ (k + 2) (L2H.cxH (L2N.CX P w) P w K mg base r.N r.name (defScope r.st) a cdv A outer s H E p) :=
      ⟨rfl, ro.sc.nd, (fun q => nomatch q), (fun q => nomatch q), room, (fun _ => ⟨p, hot, .head _⟩), by omega, fun σ => L2N.passAt tk σ, (fun q => nomatch q), (fun q => nomatch q), fun _ _ _ q => nomatch q⟩
    have hO : Own (L2H.cxH (L2N.CX P w) P w K mg base r.N r.name (defScope r.st) a cdv A outer s H E p) (fun cls d _ H => E cls d H) ⟨true, none⟩ := ⟨ro.sc.kind, fun _ => rfl, passes_of rfl, (fun q => nomatch q), (fun q => nomatch q), fun q => nomatch q⟩
    exact body_go rfl rfl hO hH hT rh
theorem callN_some {T : Tab} {k j : Nat} {d : Def} (h : T j = some d) (ds : List D) (S : Store) : callN T (k + 1) j ds S = runDef (callN T k) d ds S := by
  simp only [callN, h]
theorem callN_none {T : Tab} {k j : Nat} (h : T j = none) (ds : List D) (S : Store) : callN T k j ds S = .stuck := by
  cases k with
  | zero => rfl
  | succ k => simp only [callN, h]
theorem all_ok (St : Stand rows tab T K mg xt) : ∀ (k : Nat) (r : Row), r ∈ rows → ∀ (a : Addr) (fd : FuncData), Fun K r.name r.name r.st a fd →
    FnOk P w K mg base (L2N.CX P w) (k + 2) a fd r.ps (spOf ⟨K, xt, callN T k, none⟩ r.id) ∧ L2H.FnH P w K mg base (L2N.CX P w) (k + 2) a fd r.ps (spOf ⟨K, xt, callN T k, none⟩ (r.id + hotOff))
  | 0, r, hr, a, fd, F => ⟨fn_zero fun vs H Q E ⟨μ, S, ds, rs, rv, h⟩ => h, fn_zeroH fun vs H Q E ⟨μ, S, ds, rs, rv, h⟩ => h⟩
  | k + 1, r, hr, a, fd, F => by
    have ro := St.row r hr
    have hT : Tabs tab ⟨K, xt, callN T k, none⟩ (k + 2) P w K mg base := ⟨fun x f np hx => by
      obtain ⟨hl, r2, h2, rfl, rfl⟩ := St.fn x f np hx
      obtain ⟨b, fd2, F2, m2, b2⟩ := St.at_ r2 h2
      obtain ⟨i1, i2⟩ := all_ok St k r2 h2 b fd2 F2
      exact ⟨hl, b, fd2, r2.ps, m2, F2.kp, b2, i1, i2⟩, St.cst, St.gcd, St.blt, fun x c fo subs q => by
      obtain ⟨C, h1, h2, h3, h4, h5⟩ := St.exc x c fo subs q
      exact ⟨C, h1, h2, h3 P w base, h4, h5⟩, St.xts⟩
    refine ⟨step_ok ro hT F (callN_some (St.tb r hr)), ?_⟩
    have htb := St.tbh r hr
    generalize r.id + hotOff = j at htb ⊢
    cases hd : r.dh with
    | none =>
      rw [hd] at htb
      refine fn_zeroH fun vs H Q E ⟨μ, S, ds, rs, rv, h⟩ => ?_
      rw [show Gd.F ⟨K, xt, callN T (k + 1), none⟩ = callN T (k + 1) from rfl, callN_none htb] at h
      exact h
    | some dh => exact step_okH ro (ro.dh dh hd) hT F (callN_some (htb.trans hd))

/-- the law's promise -/
def spLaw (K : PySem.W.Frag) : Sp := fun vs H Q _ => ∃ (a : Addr) (ns : List Int), vs = [.ref a] ∧ Only H ∧ SqL K H a (ns.map V.int) ∧ ns.length ≤ 63 ∧ ∀ H', Q (.bl true) H'
theorem sqF_only {H : Hp} {a : Addr} {xs : List V} (o : Only H) (h : SqL K H a xs) : SqF K H a xs := by
  rcases h with (h | ⟨ob, h⟩) | h
  · rcases o a with z | ⟨ob, ys, z⟩
    · rw [z] at h; cases h
    · rw [z] at h; cases h
  · exact .inl ⟨ob, h⟩
  · exact .inr h
/-- the law, when the evaluator says True -/
theorem law_ok (St : Stand rows tab T K mg xt) {k : Nat} {r : Row} (hr : r ∈ rows) {a : Addr} {fd : FuncData} (F : Fun K r.name r.name r.st a fd)
    (run : ∀ ns : List Int, ns.length ≤ 63 → ∃ S', callN T k r.id [.rol (ns.map .int)] [] = .ok (.bl true) S') : FnOk P w K mg base (L2N.CX P w) (k + 2) a fd r.ps (spLaw K) :=
  (all_ok St k r hr a fd F).1.imp fun vs H Q E ⟨b, ns, e, o, q, hl, hq⟩ => by
    subst e
    obtain ⟨S', hS⟩ := run ns hl
    refine ⟨[], [], [.rol (ns.map .int)], ⟨rfl, List.nodup_nil, fun n c h => by simp at h⟩, .cons (.rol (sqF_only o q) (.ofInts ns)) .nil, ?_⟩
    show Aft _ E [] H (QV _ Q) (callN T k r.id [.rol (ns.map .int)] [])
    rw [hS]
    intro μ' H' e r' v rv
    cases rv
    exact hq H'
end

/-! ### the end of a law's text -/
/-- a def as it stands behind the top -/
def DefAt (K : PySem.W.Frag) (x : Str) (st : PySem.Stmt) : Prop := ∃ (f : Addr) (oc : Value) (od : Option Addr) (kV doc pm : Value) (an : Option Addr) (cdv ct : Value) (osl : Array (Option Value)),
  PySem.W.nsIn K mainGlobals x = some (some (.ref f)) ∧ K.lookup f = some ⟨oc, od, .func (PySem.W.fnOf x x (defArgs st) (defBody st) (defScope st) .none kV doc pm an cdv ct), osl⟩ ∧ PySem.W.codeIn K cdv x = true ∧ PySem.W.keepIn K (.ref f) = true
theorem def_mk {K : PySem.W.Frag} {x : Str} {st : PySem.Stmt} {f : Addr} {oc : Value} {od : Option Addr} {kV doc pm : Value} {an : Option Addr} {cdv ct : Value} {osl : Array (Option Value)} (a : PySem.W.nsIn K mainGlobals x = some (some (.ref f)))
    (l : K.lookup f = some ⟨oc, od, .func (PySem.W.fnOf x x (defArgs st) (defBody st) (defScope st) .none kV doc pm an cdv ct), osl⟩) (c : PySem.W.codeIn K cdv x = true) (k : PySem.W.keepIn K (.ref f) = true) : DefAt K x st := ⟨f, oc, od, kV, doc, pm, an, cdv, ct, osl, a, l, c, k⟩
theorem int_mk {K : PySem.W.Frag} {x : Str} {i : Int} {t : Tok} (a : PySem.W.nsIn K mainGlobals x = some (some (.int i t))) : ∃ t, PySem.W.nsIn K mainGlobals x = some (some (.int i t)) := ⟨t, a⟩
theorem str_mk {K : PySem.W.Frag} {x : Str} {i : Str} {t : Tok} (a : PySem.W.nsIn K mainGlobals x = some (some (.str i t))) : ∃ t, PySem.W.nsIn K mainGlobals x = some (some (.str i t)) := ⟨t, a⟩
/-- how a def binds its parameters, all of them given -/
def BindAt (st : PySem.Stmt) (ps : List Str) : Prop := ∀ (x : Str) (kV doc pm : Value) (an : Option Addr) (cdv ct : Value) (us : List Value), us.length = ps.length → bindArgs (PySem.W.fnOf x x (defArgs st) (defBody st) (defScope st) .none kV doc pm an cdv ct) ⟨us, []⟩ = pure (ps.zip us)
theorem def_at {K : PySem.W.Frag} {h : Heap} {mg : Str → Option Value} (X : K.In h) (G : h.Ns mainGlobals mg) {x : Str} {st : PySem.Stmt} {ps : List Str} (d : DefAt K x st) (b : BindAt st ps) : ∃ a fd, Fun K x x st a fd ∧ mg x = some (.ref a) ∧ Binds K fd ps [] := by
  obtain ⟨f, oc, od, kV, doc, pm, an, cdv, ct, osl, a, l, c, k⟩ := d
  have F := fun_mk (st := st) l c k
  exact ⟨f, _, F, PySem.W.mg_of X G a, F.binds fun kV doc pm an cdv ct us hl => b x kV doc pm an cdv ct us hl⟩
/-- an own error class: its number, its address, its field with its __init__ -/
structure XRow where
  c : Nat
  name : Str
  C : Addr
  fo : Option Str
  subs : List Nat
def xtOf (xs : List XRow) : Nat → Option (Addr × Option Str) := fun n => (xs.find? fun r => r.c == n).map fun r => (r.C, r.fo)
structure XRowOk (K : PySem.W.Frag) (mg : Str → Option Value) (r : XRow) : Prop where
  at_ : mg r.name = some (.ref r.C)
  made : ∀ P w base, MkAt P w K mg base r.C r.fo
  xc : XcC K r.C
  hf : ∀ f, r.fo = some f → PySem.W.findIn K (.ref r.C) f = some none
/-- which class is of which -/
def SubsOk (K : PySem.W.Frag) (xs : List XRow) : Prop := ∀ r ∈ xs, ∀ q ∈ xs, PySem.W.subIn K (.ref r.C) (.ref q.C) = some (q.subs.contains r.c)
theorem subs_ok {K : PySem.W.Frag} {xs : List XRow} (h : SubsOk K xs) (hs : ∀ r ∈ xs, r.subs.contains r.c = true) {r q : XRow} (hr : r ∈ xs) (hq : q ∈ xs) : PySem.W.subIn K (.ref r.C) (.ref q.C) = some (q.subs.contains r.c) ∧ (r.C = q.C → q.subs.contains r.c = true) := by
  refine ⟨h r hr q hq, fun e => ?_⟩
  have h1 := h r hr q hq
  rw [← e, h r hr r hr, hs r hr] at h1
  exact (Option.some.inj h1).symm
def GlOk (mg : Str → Option Value) (K : PySem.W.Frag) (xs : List XRow) (p : Str × Gl') : Prop :=
  match p.2 with
  | .fn _ _ => True
  | .cst d => ∃ u v, mg p.1 = some u ∧ RelV v u ∧ ∀ μ H, RepV K μ H d v
  | .gcd => mg p.1 = some (.builtin "math.gcd")
  | .exc c fo subs => ∃ r ∈ xs, r.name = p.1 ∧ r.c = c ∧ r.fo = fo ∧ r.subs = subs ∧ xs.find? (fun r => r.c == c) = some r
theorem gl_gcd {xs : List XRow} {K : PySem.W.Frag} {h : Heap} {mg : Str → Option Value} (X : K.In h) (G : h.Ns mainGlobals mg) {x : Str} (e : PySem.W.nsIn K mainGlobals x = some (some (.builtin "math.gcd"))) : GlOk mg K xs (x, .gcd) := PySem.W.mg_of X G e
theorem gl_int {xs : List XRow} {K : PySem.W.Frag} {h : Heap} {mg : Str → Option Value} (X : K.In h) (G : h.Ns mainGlobals mg) {x : Str} {i : Int} (e : ∃ t, PySem.W.nsIn K mainGlobals x = some (some (.int i t))) : GlOk mg K xs (x, .cst (.int i)) := by
  obtain ⟨t, e⟩ := e
  exact ⟨_, .int i, PySem.W.mg_of X G e, ⟨t, rfl⟩, fun _ _ => .int i⟩
theorem gl_str {xs : List XRow} {K : PySem.W.Frag} {h : Heap} {mg : Str → Option Value} (X : K.In h) (G : h.Ns mainGlobals mg) {x : Str} {i : Str} (e : ∃ t, PySem.W.nsIn K mainGlobals x = some (some (.str i t))) : GlOk mg K xs (x, .cst (.str i)) := by
  obtain ⟨t, e⟩ := e
  exact ⟨_, .str i, PySem.W.mg_of X G e, ⟨t, rfl⟩, fun _ _ => .str i⟩
def fnCheck (tab : GTab) (rows : List Row) : Bool := tab.all fun p => match p.2 with
  | .fn f _ => decide (f < 1000) && rows.any fun r => decide (r.name = p.1) && decide (r.id = f)
  | _ => true
theorem xt_mem {xs : List XRow} {c : Nat} {C : Addr} {fo : Option Str} (h : xtOf xs c = some (C, fo)) : ∃ r ∈ xs, r.c = c ∧ r.C = C ∧ r.fo = fo := by
  unfold xtOf at h
  simp only [Option.map_eq_some_iff, Prod.mk.injEq] at h
  obtain ⟨r, h1, h2, h3⟩ := h
  exact ⟨r, List.mem_of_find?_eq_some h1, by simpa using List.find?_some h1, h2, h3⟩
theorem stand_of {rows : List Row} {tab : GTab} {T : Tab} {K : PySem.W.Frag} {mg : Str → Option Value} {xs : List XRow} (h1 : ∀ r ∈ rows, RowOk tab r) (h2 : ∀ r ∈ rows, T r.id = some r.d) (h2' : ∀ r ∈ rows, T (r.id + hotOff) = r.dh)
    (h3 : ∀ r ∈ rows, ∃ a fd, Fun K r.name r.name r.st a fd ∧ mg r.name = some (.ref a) ∧ Binds K fd r.ps [])
    (h4 : fnCheck tab rows = true) (h5 : ∀ p ∈ tab, GlOk mg K xs p) (h6 : ∀ x ∈ bltNames, mg x = none) (h7 : ∀ r ∈ xs, XRowOk K mg r) (h8 : SubsOk K xs) (h9 : ∀ r ∈ xs, r.subs.contains r.c = true) : Stand rows tab T K mg (xtOf xs) where
  row := h1
  tb := h2
  tbh := h2'
  at_ := h3
  fn := fun x f np h => by
    have q := List.all_eq_true.mp h4 _ (PySem.mem_of_lookup h)
    simp only [List.any_eq_true, Bool.and_eq_true, decide_eq_true_eq] at q
    obtain ⟨h0, r, h1, h2, h3⟩ := q
    exact ⟨h0, r, h1, h2, h3⟩
  cst := fun x d h => h5 _ (PySem.mem_of_lookup h)
  gcd := fun x h => h5 _ (PySem.mem_of_lookup h)
  blt := h6
  exc := fun x c fo subs h => by
    obtain ⟨r, hr, rfl, rfl, rfl, rfl, hf⟩ := h5 _ (PySem.mem_of_lookup h)
    have o := h7 r hr
    refine ⟨r.C, o.at_, by unfold xtOf; rw [hf]; rfl, o.made, o.xc, fun c' C' fo' q => ?_⟩
    obtain ⟨r', hr', rfl, rfl, rfl⟩ := xt_mem q
    exact subs_ok h8 h9 hr' hr
  xts := fun c C fo h => by
    obtain ⟨r, hr, rfl, rfl, rfl⟩ := xt_mem h
    exact ⟨(h7 r hr).xc, (h7 r hr).hf⟩
/-- the n-th statement of a class's text -/
def clsAt (n : Nat) (s : PySem.Stmt) : PySem.Stmt := match s with
  | .ClassDef _ _ _ body _ _ _ _ _ _ _ => body.getD n (.Pass ⟨0, 0, 0, 0⟩)
  | _ => .Pass ⟨0, 0, 0, 0⟩
theorem init_txt {st : PySem.Stmt} {f n1 n2 : Str} (b : ∃ q1 q2 q3 q4, defBody st = [.Assign [.Attribute (.Name n1 q1) f q2] (.Name n2 q3) q4]) (s : FnScope [n1, n2] [n1, n2] (defScope st)) (h : ((defScope st).names.lookup n1 == some .local && (defScope st).names.lookup n2 == some .local &&
    !(n1 == ("__debug__" : Str)) && !(n1 == ("__classdict__" : Str)) && !(n2 == ("__debug__" : Str)) && !(n2 == ("__classdict__" : Str))) = true) : InitTxt st f n1 n2 := by
  simp only [Bool.and_eq_true, beq_iff_eq, Bool.not_eq_true'] at h
  obtain ⟨⟨⟨⟨⟨h1, h2⟩, h3⟩, h4⟩, h5⟩, h6⟩ := h
  exact ⟨b, s, h1, h2, ⟨h3, h4⟩, ⟨h5, h6⟩⟩
/-! an own error class, behind the top -/
def X0At (K : PySem.W.Frag) (x : Str) (C : Addr) : Prop := PySem.W.nsIn K mainGlobals x = some (some (.ref C)) ∧ XcC K C ∧ PySem.W.excIn K C veL "ValueError.__new__" = true
theorem xc_mk {K : PySem.W.Frag} {C : Addr} (k : PySem.W.keepIn K (.ref C) = true) (t : PySem.W.typeIn K (.ref C) = some (.type "type")) (g1 : PySem.W.findIn K (.ref C) "__getattribute__" = some (some (.builtin "BaseException.__getattribute__"))) (g2 : PySem.W.findIn K (.ref C) "__getattr__" = some none)
    (e : PySem.W.subIn K (.ref C) (.type "BaseException") = some true) (d : PySem.W.hasDictIn K C = true) (c : PySem.W.findIn K (.ref C) "__class__" = some (some (.builtin "object.__class__"))) (m : PySem.W.mroIn K C (.type "object") = some true)
    (n : PySem.W.specialIn K (.builtin "object.__class__") "__get__" = some (some (.builtin "getset_descriptor.__get__"))) (u : PySem.W.takesIn K (.builtin "object.__class__") = some true) : XcC K C := ⟨k, t, ⟨g1, g2, e, d⟩, c, m, n, u⟩
theorem x0_mk {K : PySem.W.Frag} {x : Str} {C : Addr} (a : PySem.W.nsIn K mainGlobals x = some (some (.ref C))) (b : XcC K C) (c : PySem.W.excIn K C veL "ValueError.__new__" = true) : X0At K x C := ⟨a, b, c⟩
theorem x0_ok {K : PySem.W.Frag} {h : Heap} {mg : Str → Option Value} (X : K.In h) (G : h.Ns mainGlobals mg) {x : Str} {C : Addr} {c : Nat} {subs : List Nat} (d : X0At K x C) : XRowOk K mg ⟨c, x, C, none, subs⟩ :=
  ⟨PySem.W.mg_of X G d.1, fun _ _ _ => d.2.2, d.2.1, fun f q => nomatch q⟩
/-- with a field that its __init__ keeps; st the class's text -/
def X1At (K : PySem.W.Frag) (x qual f : Str) (st : PySem.Stmt) (C : Addr) : Prop := PySem.W.nsIn K mainGlobals x = some (some (.ref C)) ∧ XcC K C ∧
  (∃ nm q N bs bm sn sub ab col dd k0 k1 k2 k3 k5, K.lookup C = some (excClassObj nm q C N bs bm true sn sub ab col dd k0 k1 k2 k3 k5 "ValueError.__new__") ∧ PySem.HandSPX.refsVE bm = true) ∧
  PySem.W.findIn K (.ref C) "__setattr__" = some (some (.builtin "object.__setattr__")) ∧ PySem.W.findIn K (.ref C) f = some none ∧
  ∃ (fI : Addr) (oc : Value) (od : Option Addr) (kV doc pm : Value) (an : Option Addr) (cdv ct : Value) (osl : Array (Option Value)),
    PySem.W.findIn K (.ref C) "__init__" = some (some (.ref fI)) ∧ PySem.W.typeIn K (.ref fI) = some (.type "function") ∧
    K.lookup fI = some ⟨oc, od, .func (PySem.W.fnOf "__init__" qual (defArgs st) (defBody st) (defScope st) .none kV doc pm an cdv ct), osl⟩ ∧ PySem.W.codeIn K cdv qual = true ∧ PySem.W.keepIn K (.ref fI) = true
theorem x1_mk {K : PySem.W.Frag} {x qual f : Str} {st : PySem.Stmt} {C : Addr} {nm q : Str} {N : Addr} {bs bm sn sub ab col dd k0 k1 k2 k3 k5} {fI : Addr} {oc : Value} {od : Option Addr} {kV doc pm : Value} {an : Option Addr} {cdv ct : Value} {osl : Array (Option Value)}
    (a : PySem.W.nsIn K mainGlobals x = some (some (.ref C))) (b : XcC K C) (l : K.lookup C = some (excClassObj nm q C N bs bm true sn sub ab col dd k0 k1 k2 k3 k5 "ValueError.__new__")) (m : PySem.HandSPX.refsVE bm = true)
    (s : PySem.W.findIn K (.ref C) "__setattr__" = some (some (.builtin "object.__setattr__"))) (n : PySem.W.findIn K (.ref C) f = some none) (i : PySem.W.findIn K (.ref C) "__init__" = some (some (.ref fI))) (t : PySem.W.typeIn K (.ref fI) = some (.type "function"))
    (g : K.lookup fI = some ⟨oc, od, .func (PySem.W.fnOf "__init__" qual (defArgs st) (defBody st) (defScope st) .none kV doc pm an cdv ct), osl⟩) (c : PySem.W.codeIn K cdv qual = true) (k : PySem.W.keepIn K (.ref fI) = true) : X1At K x qual f st C :=
  ⟨a, b, ⟨_, _, _, _, _, _, _, _, _, _, _, _, _, _, _, l, m⟩, s, n, fI, oc, od, kV, doc, pm, an, cdv, ct, osl, i, t, g, c, k⟩
theorem x1_ok {K : PySem.W.Frag} {h : Heap} {mg : Str → Option Value} (X : K.In h) (G : h.Ns mainGlobals mg) {x qual f n1 n2 : Str} {st : PySem.Stmt} {C : Addr} {c : Nat} {subs : List Nat} (t : InitTxt st f n1 n2)
    (hb : ∀ (y z : Str) (kV doc pm : Value) (an : Option Addr) (cdv ct : Value) (us : List Value), us.length = 2 → bindArgs (PySem.W.fnOf y z (defArgs st) (defBody st) (defScope st) .none kV doc pm an cdv ct) ⟨us, []⟩ = pure ([n1, n2].zip us)) (d : X1At K x qual f st C) :
    XRowOk K mg ⟨c, x, C, some f, subs⟩ := by
  obtain ⟨a, b, l, s, n, fI, oc, od, kV, doc, pm, an, cdv, ct, osl, i, ty, g, cd, k⟩ := d
  have xc := b
  refine ⟨PySem.W.mg_of X G a, fun P w base => ?_, xc, fun f' q => by cases q; exact n⟩
  have T : OexC K C := ⟨l, s, xc.xf.exC, xc.tyC, xc.kC⟩
  have F := fun_mk (x := "__init__") (st := st) g cd k
  exact ⟨T, fI, _, n1, n2, i, ty, init_ok F t T n, F.binds fun kV doc pm an cdv ct us hl => hb _ _ kV doc pm an cdv ct us hl⟩
theorem none_of {K : PySem.W.Frag} {h : Heap} {mg : Str → Option Value} (X : K.In h) (G : h.Ns mainGlobals mg) (e : ∀ x ∈ bltNames, PySem.W.nsIn K mainGlobals x = some none) : ∀ x ∈ bltNames, mg x = none := fun x hx => PySem.W.mg_none_of X G (e x hx)
theorem walk_law {l : PySem.W.OpenLaw} {q : Program} {loose : List Str} {XP : (Str → Option Value) → Heap → Prop} {YP : World → Heap → Prop} {d : DefRec} {K : Params → PySem.W.Frag} (hn : l.most = some 63) (hdf : d.params.defaults = [])
    (hY : ∀ (w : World) (h : Heap), YP w h → (K w.params).In h) (k : Nat) (hr : Room k callerA)
    (F : ∀ (w : World) (mg : Str → Option Value) (fa : Addr) (h : Heap), (K w.params).In h → h.Ns mainGlobals mg → mg d.name = some (.ref fa) →
      ∃ fd : FuncData, (∀ (s : Shared) (u : Value), BindsTo s fd ⟨[u], []⟩ [("script", u)]) ∧ ∀ base : Heap, (K w.params).In base → base.Ns mainGlobals mg → FnOk l.prog w (K w.params) mg base (L2N.CX l.prog w) k fa fd ["script"] (spLaw (K w.params))) :
    PySem.W.WalkO q loose XP YP l.row.toRowW d [] (fun f vs => PySem.call f vs) :=
  L2.walk_of (n := 63) (k := k) (x := "script") (CX := fun w => L2N.CX l.prog w) (sp := fun w => spLaw (K w.params)) hn (by decide) hdf hr hY F (fun _ _ a ns hl ho hS => ⟨a, ns, rfl, ho, hS, hl, fun _ => rfl⟩)
    fun _ _ _ _ _ ⟨_, _, _, _, _, _, _, _, _, _, _, _, z⟩ => z
end PD
end

section
set_option linter.all false
set_option Elab.async false
set_option maxRecDepth 100000
set_option maxHeartbeats 4000000
namespace K08
open PySem L2 PD
def d_figures_of : Def := ⟨2, 3, (.cons (.iff (.or (.not (.chn .LtE .LtE (.cst (.int 1)) (.blt .len (.cons (.slot 0) .nil)) (.slot 1))) (.cmp .Eq (.ix (.slot 0) (.cst (.int 0))) (.cst (.str ("0" : PySem.Str))))) (.cons (.ret (.cst .non)) .nil) .nil) (.cons (.ret (.ife (.blt .all (.cons (.lc (.cmp .In (.slot 2) (.cst (.str ("0123456789" : PySem.Str)))) (.nm 2) (.any (.slot 0)) .no [2]) .nil)) (.blt .int (.cons (.slot 0) .nil)) (.cst .non))) .nil))⟩
def d_read_part : Def := ⟨1, 6, (.cons (.iff (.not (.mth .startswith (.slot 0) (.cons (.cst (.str ("w" : PySem.Str))) .nil))) (.cons (.asg (.nm 1) (.call 99 (.cons (.slot 0) (.cons (.cst (.int 40)) .nil)))) (.cons (.ret (.ife (.cmp .Is (.slot 1) (.cst .non)) (.cst .non) (.tup (.cons (.slot 1) (.cons (.cst (.int 0)) .nil))))) .nil)) .nil) (.cons (.asg (.tp (.cons (.nm 3) (.cons (.nm 4) (.cons (.nm 5) .nil)))) (.mth .partition (.slot 0) (.cons (.cst (.str ("*" : PySem.Str))) .nil))) (.cons (.asg (.nm 1) (.ife (.cmp .Eq (.slot 4) (.cst (.str ("*" : PySem.Str)))) (.call 99 (.cons (.slot 5) (.cons (.cst (.int 40)) .nil))) (.cst (.int 1)))) (.cons (.iff (.or (.cmp .Is (.slot 1) (.cst .non)) (.and (.cmp .Eq (.slot 4) (.cst (.str ("*" : PySem.Str)))) (.cmp .Eq (.slot 1) (.cst (.int 1))))) (.cons (.ret (.cst .non)) .nil) .nil) (.cons (.iff (.cmp .Eq (.slot 3) (.cst (.str ("w" : PySem.Str)))) (.cons (.ret (.tup (.cons (.slot 1) (.cons (.cst (.int 1)) .nil)))) .nil) .nil) (.cons (.asg (.nm 2) (.ife (.mth .startswith (.slot 3) (.cons (.cst (.str ("w^" : PySem.Str))) .nil)) (.call 99 (.cons (.slc (.slot 3) (.so (.cst (.int 2))) .no) (.cons (.cst (.int 2)) .nil))) (.cst .non))) (.cons (.iff (.or (.cmp .Is (.slot 2) (.cst .non)) (.not (.chn .LtE .Lt (.cst (.int 2)) (.slot 2) (.cst (.int 16))))) (.cons (.ret (.cst .non)) .nil) .nil) (.cons (.ret (.tup (.cons (.slot 1) (.cons (.slot 2) .nil)))) .nil))))))))⟩
def d_read_ordinal : Def := ⟨1, 9, (.cons (.iff (.not (.isi (.slot 0) .str)) (.cons (.rai 16 (.cons (.cst (.int 0)) .nil)) .nil) .nil) (.cons (.iff (.cmp .Eq (.slot 0) (.cst (.str ("0" : PySem.Str)))) (.cons (.ret (.tup .nil)) .nil) .nil) (.cons (.asg (.nm 1) (.lst .nil)) (.cons (.asg (.nm 2) (.cst (.int 16))) (.cons (.for_ (.tp (.cons (.nm 4) (.cons (.nm 5) .nil))) (.enu (.mth .split (.slot 0) (.cons (.cst (.str ("+" : PySem.Str))) .nil))) (.cons (.asg (.nm 6) (.call 100 (.cons (.slot 5) .nil))) (.cons (.iff (.or (.cmp .Is (.slot 6) (.cst .non)) (.cmp .GtE (.ix (.slot 6) (.cst (.int 1))) (.slot 2))) (.cons (.rai 16 (.cons (.bin .Add (.slot 4) (.cst (.int 1))) .nil)) .nil) .nil) (.cons (.exp (.mth .append (.slot 1) (.cons (.slot 6) .nil))) (.cons (.asg (.nm 2) (.ix (.slot 6) (.cst (.int 1)))) .nil))))) (.cons (.asg (.nm 3) (.bin .Mult (.lst (.cons (.cst (.int 0)) .nil)) (.bin .Add (.ix (.ix (.slot 1) (.cst (.int 0))) (.cst (.int 1))) (.cst (.int 1))))) (.cons (.for_ (.tp (.cons (.nm 7) (.cons (.nm 8) .nil))) (.any (.slot 1)) (.cons (.seti (.slot 3) (.bin .Sub (.bin .Sub (.blt .len (.cons (.slot 3) .nil)) (.cst (.int 1))) (.slot 8)) (.slot 7)) .nil)) (.cons (.ret (.blt .tuple (.cons (.slot 3) .nil))) .nil))))))))⟩
def d__law_hand : Def := ⟨1, 3, (.cons (.asg (.nm 1) (.lc (.blt .abs (.cons (.blt .int (.cons (.slot 2) .nil)) .nil)) (.nm 2) (.any (.slc (.slot 0) .no (.so (.cst (.int 63))))) .no [2])) (.cons (.ret (.lst (.cons (.slot 1) (.cons (.cst (.int 0)) (.cons (.cst (.int 0)) (.cons (.bin .Add (.cst (.int 31)) (.bin .Mult (.cst (.int 7)) (.blt .len (.cons (.slot 1) .nil)))) (.cons (.cst (.int 0)) .nil))))))) .nil))⟩
def d__law_draw : Def := ⟨2, 5, (.cons (.iff (.and (.cmp .Eq (.ix (.slot 0) (.cst (.int 2))) (.cst (.int 0))) (.cmp .Lt (.ix (.slot 0) (.cst (.int 1))) (.blt .len (.cons (.ix (.slot 0) (.cst (.int 0))) .nil)))) (.cons (.asg (.nm 3) (.ix (.ix (.slot 0) (.cst (.int 0))) (.ix (.slot 0) (.cst (.int 1))))) (.cons (.seti (.slot 0) (.cst (.int 1)) (.bin .Add (.ix (.slot 0) (.cst (.int 1))) (.cst (.int 1)))) (.cons (.seti (.slot 0) (.cst (.int 3)) (.bin .Mod (.blt .int (.cons (.bin .Add (.bin .Add (.bin .Mult (.ix (.slot 0) (.cst (.int 3))) (.cst (.int 48271))) (.slot 3)) (.cst (.int 11))) .nil)) (.cst (.int 2147483647)))) (.cons (.iff (.cmp .GtE (.slot 3) (.bin .Pow (.cst (.int 10)) (.cst (.int 18)))) (.cons (.seti (.slot 0) (.cst (.int 2)) (.slot 3)) .nil) .nil) .nil)))) .nil) (.cons (.iff (.cmp .Gt (.ix (.slot 0) (.cst (.int 2))) (.cst (.int 0))) (.cons (.asg (.nm 4) (.bin .Mod (.blt .int (.cons (.ix (.slot 0) (.cst (.int 2))) .nil)) (.slot 1))) (.cons (.seti (.slot 0) (.cst (.int 2)) (.bin .FloorDiv (.ix (.slot 0) (.cst (.int 2))) (.slot 1))) (.cons (.ret (.slot 4)) .nil))) .nil) (.cons (.seti (.slot 0) (.cst (.int 4)) (.bin .Add (.ix (.slot 0) (.cst (.int 4))) (.cst (.int 1)))) (.cons (.asg (.nm 2) (.bin .Mod (.blt .int (.cons (.bin .Mult (.blt .int (.cons (.bin .Add (.ix (.slot 0) (.cst (.int 3))) (.bin .Mult (.cst (.int 6007)) (.ix (.slot 0) (.cst (.int 4))))) .nil)) (.cst (.int 69621))) .nil)) (.cst (.int 2147483629)))) (.cons (.asg (.nm 2) (.bin .Mod (.blt .int (.cons (.bin .Mult (.slot 2) (.bin .Add (.bin .FloorDiv (.slot 2) (.cst (.int 1013))) (.cst (.int 48271)))) .nil)) (.cst (.int 2147483647)))) (.cons (.asg (.nm 2) (.bin .Mod (.blt .int (.cons (.bin .Mult (.slot 2) (.bin .Add (.bin .FloorDiv (.slot 2) (.cst (.int 2011))) (.cst (.int 16807)))) .nil)) (.cst (.int 2147483587)))) (.cons (.ret (.bin .Mod (.blt .int (.cons (.bin .FloorDiv (.slot 2) (.cst (.int 32))) .nil)) (.slot 1))) .nil)))))))⟩
def d__law_big : Def := ⟨2, 4, (.cons (.asg (.nm 2) (.cst (.int 0))) (.cons (.for_ (.nm 3) (.rng1 (.bin .Add (.cst (.int 1)) (.bin .FloorDiv (.blt .len (.cons (.blt .str (.cons (.slot 1) .nil)) .nil)) (.cst (.int 6))))) (.cons (.asg (.nm 2) (.bin .Add (.bin .Mult (.slot 2) (.bin .Pow (.cst (.int 10)) (.cst (.int 6)))) (.call 9 (.cons (.slot 0) (.cons (.bin .Pow (.cst (.int 10)) (.cst (.int 6))) .nil))))) .nil)) (.cons (.ret (.bin .Mod (.blt .int (.cons (.slot 2) .nil)) (.slot 1))) .nil)))⟩
def d__law_some : Def := ⟨2, 2, (.cons (.ret (.ix (.slot 1) (.call 9 (.cons (.slot 0) (.cons (.blt .len (.cons (.slot 1) .nil)) .nil))))) .nil)⟩
def d__law_kept : Def := ⟨2, 3, (.cons (.iff (.or (.isi (.slot 1) .tuple) (.isi (.slot 1) .list)) (.cons (.iff (.or (.cmp .NotEq (.isi (.slot 0) .tuple) (.isi (.slot 1) .tuple)) (.cmp .NotEq (.isi (.slot 0) .list) (.isi (.slot 1) .list))) (.cons (.ret (.cst (.bl false))) .nil) .nil) (.cons (.ret (.and (.cmp .Eq (.blt .len (.cons (.slot 0) .nil)) (.blt .len (.cons (.slot 1) .nil))) (.blt .all (.cons (.lc (.call 15 (.cons (.ix (.slot 0) (.slot 2)) (.cons (.ix (.slot 1) (.slot 2)) .nil))) (.nm 2) (.rng1 (.blt .len (.cons (.slot 1) .nil))) .no [2]) .nil)))) .nil)) .nil) (.cons (.iff (.cmp .Is (.slot 1) (.cst .non)) (.cons (.ret (.cmp .Is (.slot 0) (.cst .non))) .nil) .nil) (.cons (.iff (.isi (.slot 1) .bool) (.cons (.ret (.ife (.slot 1) (.cmp .Is (.slot 0) (.cst (.bl true))) (.cmp .Is (.slot 0) (.cst (.bl false))))) .nil) .nil) (.cons (.iff (.isi (.slot 1) .int) (.cons (.ret (.and (.isi (.slot 0) .int) (.and (.not (.isi (.slot 0) .bool)) (.cmp .Eq (.slot 0) (.slot 1))))) .nil) .nil) (.cons (.ret (.and (.isi (.slot 0) .str) (.cmp .Eq (.slot 0) (.slot 1)))) .nil)))))⟩
def dh__law_kept : Def := ⟨2, 3, (.cons (.iff (.or (.isi (.slot 1) .tuple) (.isi (.slot 1) .list)) (.cons (.iff (.or (.cmp .NotEq (.isi (.slot 0) .tuple) (.isi (.slot 1) .tuple)) (.cmp .NotEq (.isi (.slot 0) .list) (.isi (.slot 1) .list))) (.cons (.ret (.cst (.bl false))) .nil) .nil) (.cons (.ret (.and (.cmp .Eq (.blt .len (.cons (.slot 0) .nil)) (.blt .len (.cons (.slot 1) .nil))) (.un .Not (.cst .non)))) .nil)) .nil) (.cons (.iff (.cmp .Is (.slot 1) (.cst .non)) (.cons (.ret (.cmp .Is (.slot 0) (.cst .non))) .nil) .nil) (.cons (.iff (.isi (.slot 1) .bool) (.cons (.ret (.ife (.slot 1) (.cmp .Is (.slot 0) (.cst (.bl true))) (.cmp .Is (.slot 0) (.cst (.bl false))))) .nil) .nil) (.cons (.iff (.isi (.slot 1) .int) (.cons (.ret (.and (.isi (.slot 0) .int) (.and (.not (.isi (.slot 0) .bool)) (.cmp .Eq (.slot 0) (.slot 1))))) .nil) .nil) (.cons (.ret (.and (.isi (.slot 0) .str) (.cmp .Eq (.slot 0) (.slot 1)))) .nil)))))⟩
def d__law_wrong : Def := ⟨3, 5, (.cons (.asg (.nm 3) (.call 9 (.cons (.slot 0) (.cons (.cst (.int 14)) .nil)))) (.cons (.iff (.and (.cmp .Lt (.slot 3) (.cst (.int 3))) (.cmp .Lt (.slot 2) (.cst (.int 16)))) (.cons (.ret (.ife (.cmp .Lt (.slot 2) (.cst (.int 3))) (.ix (.lst (.cons (.cst (.str ("5" : PySem.Str))) (.cons (.cst (.str ("w*7" : PySem.Str))) (.cons (.cst (.str ("w^2" : PySem.Str))) .nil)))) (.blt .min (.cons (.slot 2) (.cons (.cst (.int 2)) .nil)))) (.bin .Add (.cst (.str ("w^" : PySem.Str))) (.blt .str (.cons (.slot 2) .nil))))) .nil) .nil) (.cons (.asg (.nm 4) (.lst (.cons (.cst (.str ("w^1" : PySem.Str))) (.cons (.cst (.str ("w^0" : PySem.Str))) (.cons (.cst (.str ("w*1" : PySem.Str))) (.cons (.cst (.str ("w^16" : PySem.Str))) (.cons (.cst (.str ("w^3*1" : PySem.Str))) (.cons (.cst (.str ("w^02" : PySem.Str))) (.cons (.cst (.str ("07" : PySem.Str))) (.cons (.cst (.str ("0" : PySem.Str))) (.cons (.cst (.str ("" : PySem.Str))) (.cons (.cst (.str ("w*" : PySem.Str))) (.cons (.cst (.str ("w^" : PySem.Str))) (.cons (.cst (.str ("+5" : PySem.Str))) (.cons (.cst (.str ("w 2" : PySem.Str))) (.cons (.cst (.str ("W" : PySem.Str))) (.cons (.cst (.str ("x" : PySem.Str))) (.cons (.cst (.str ("w^2*" : PySem.Str))) (.cons (.cst (.str ("w**2" : PySem.Str))) .nil))))))))))))))))))) (.cons (.asg (.nm 4) (.bin .Add (.slot 4) (.lst (.cons (.cst (.str ("-3" : PySem.Str))) (.cons (.cst (.str ("w*05" : PySem.Str))) (.cons (.cst (.str ("3w" : PySem.Str))) (.cons (.cst (.str ("w^2^2" : PySem.Str))) (.cons (.cst (.str ("1.5" : PySem.Str))) (.cons (.cst (.str (" 4" : PySem.Str))) (.cons (.cst (.str ("4 " : PySem.Str))) (.cons (.cst (.str ("w\n" : PySem.Str))) (.cons (.bin .Add (.cst (.str ("1" : PySem.Str))) (.bin .Mult (.cst (.str ("0" : PySem.Str))) (.cst (.int 40)))) (.cons (.bin .Add (.cst (.str ("w*1" : PySem.Str))) (.bin .Mult (.cst (.str ("0" : PySem.Str))) (.cst (.int 40)))) (.cons (.cst (.str ("w^003" : PySem.Str))) (.cons (.cst (.str ("1_0" : PySem.Str))) .nil))))))))))))))) (.cons (.ret (.ix (.slot 4) (.call 9 (.cons (.slot 0) (.cons (.blt .len (.cons (.slot 4) .nil)) .nil))))) .nil)))))⟩
def d__law_part : Def := ⟨2, 3, (.cons (.asg (.nm 2) (.ife (.cmp .Lt (.slot 0) (.cst (.int 2))) (.ix (.lst (.cons (.cst (.str ("" : PySem.Str))) (.cons (.cst (.str ("w" : PySem.Str))) .nil))) (.slot 0)) (.bin .Add (.cst (.str ("w^" : PySem.Str))) (.blt .str (.cons (.slot 0) .nil))))) (.cons (.ret (.ife (.cmp .Eq (.slot 2) (.cst (.str ("" : PySem.Str)))) (.blt .str (.cons (.slot 1) .nil)) (.bin .Add (.slot 2) (.ife (.cmp .Eq (.slot 1) (.cst (.int 1))) (.cst (.str ("" : PySem.Str))) (.bin .Add (.cst (.str ("*" : PySem.Str))) (.blt .str (.cons (.slot 1) .nil))))))) .nil))⟩
def d_law : Def := ⟨1, 11, (.cons (.asg (.nm 1) (.call 16 (.cons (.slot 0) .nil))) (.cons (.for_ (.nm 2) (.any (.lst (.cons (.cst .non) (.cons (.cst (.int 5)) (.cons (.cst (.bl true)) (.cons (.tup (.cons (.cst (.str ("w" : PySem.Str))) .nil)) (.cons (.lst (.cons (.cst (.str ("w" : PySem.Str))) .nil)) (.cons .dnew .nil)))))))) (.cons (.try_ (.cons (.exp (.call 101 (.cons (.slot 2) .nil))) (.cons (.ret (.cst (.bl false))) .nil)) (.cons [16] (some 4) (.cons (.iff (.cmp .NotEq (.xf 4) (.cst (.int 0))) (.cons (.ret (.cst (.bl false))) .nil) .nil) .nil) .nil)) .nil)) (.cons (.for_ (.nm 3) (.rng1 (.cst (.int 30))) (.cons (.asg (.tp (.cons (.nm 8) (.cons (.nm 9) (.cons (.nm 10) .nil)))) (.tup (.cons (.lst .nil) (.cons (.cst (.int 16)) (.cons (.call 9 (.cons (.slot 1) (.cons (.cst (.int 5)) .nil))) .nil))))) (.cons (.whl (.and (.cmp .Lt (.blt .len (.cons (.slot 8) .nil)) (.slot 10)) (.cmp .Gt (.slot 9) (.cst (.int 1)))) (.cons (.asg (.nm 9) (.bin .Sub (.bin .Sub (.slot 9) (.cst (.int 1))) (.call 9 (.cons (.slot 1) (.cons (.blt .min (.cons (.cst (.int 3)) (.cons (.bin .Sub (.slot 9) (.cst (.int 1))) .nil))) .nil))))) (.cons (.exp (.mth .append (.slot 8) (.cons (.call 102 (.cons (.slot 9) (.cons (.bin .Add (.cst (.int 1)) (.call 14 (.cons (.slot 1) (.cons (.ix (.lst (.cons (.cst (.int 3)) (.cons (.bin .Pow (.cst (.int 10)) (.cst (.int 30))) .nil))) (.call 9 (.cons (.slot 1) (.cons (.cst (.int 2)) .nil)))) .nil)))) .nil))) .nil))) .nil))) (.cons (.asg (.nm 5) (.bin .Add (.blt .len (.cons (.slot 8) .nil)) (.cst (.int 1)))) (.cons (.exp (.mth .append (.slot 8) (.cons (.call 103 (.cons (.slot 1) (.cons (.slot 9) (.cons (.slot 9) .nil)))) .nil))) (.cons (.iff (.cmp .Eq (.slot 8) (.lst (.cons (.cst (.str ("0" : PySem.Str))) .nil))) (.cons .cnt .nil) .nil) (.cons (.for_ (.nm 6) (.rng1 (.call 9 (.cons (.slot 1) (.cons (.cst (.int 3)) .nil)))) (.cons (.exp (.mth .append (.slot 8) (.cons (.call 24 (.cons (.slot 1) (.cons (.lst (.cons (.cst (.str ("w" : PySem.Str))) (.cons (.cst (.str ("7" : PySem.Str))) (.cons (.cst (.str ("w^9" : PySem.Str))) (.cons (.cst (.str ("?" : PySem.Str))) .nil))))) .nil))) .nil))) .nil)) (.cons (.asg (.nm 7) (.mth .join (.cst (.str ("+" : PySem.Str))) (.cons (.slot 8) .nil))) (.cons (.try_ (.cons (.exp (.call 101 (.cons (.slot 7) .nil))) (.cons (.ret (.cst (.bl false))) .nil)) (.cons [16] (some 4) (.cons (.iff (.not (.call 100015 (.cons (.xf 4) (.cons (.slot 5) .nil)))) (.cons (.ret (.cst (.bl false))) .nil) .nil) .nil) .nil)) .nil))))))))) (.cons (.ret (.cst (.bl true))) .nil))))⟩
def top (i : Nat) : PySem.Stmt := PySem.Challenge.pw_pastever_k08_wrong_texts_of_ordinals.main.body.getD i (.Pass ⟨0, 0, 0, 0⟩)
def gtab : GTab := [(("figures_of", .fn 99 2) : PySem.Str × PD.Gl'),
  (("read_part", .fn 100 1) : PySem.Str × PD.Gl'),
  (("read_ordinal", .fn 101 1) : PySem.Str × PD.Gl'),
  (("_law_hand", .fn 16 1) : PySem.Str × PD.Gl'),
  (("_law_draw", .fn 9 2) : PySem.Str × PD.Gl'),
  (("_law_big", .fn 14 2) : PySem.Str × PD.Gl'),
  (("_law_some", .fn 24 2) : PySem.Str × PD.Gl'),
  (("_law_kept", .fn 15 2) : PySem.Str × PD.Gl'),
  (("_law_wrong", .fn 103 3) : PySem.Str × PD.Gl'),
  (("_law_part", .fn 102 2) : PySem.Str × PD.Gl'),
  (("law", .fn 22 1) : PySem.Str × PD.Gl'),
  (("MOST_NUMBERS", .cst (.int 16)) : PySem.Str × PD.Gl'),
  (("MOST_DIGITS", .cst (.int 40)) : PySem.Str × PD.Gl'),
  (("FIGURES", .cst (.str ("0123456789" : PySem.Str))) : PySem.Str × PD.Gl'),
  (("BadText", .exc 16 (some "place") [16]) : PySem.Str × PD.Gl')]
def r_figures_of : Row := ⟨99, "figures_of", top 7, ["word", "most", "sign"], ["word", "most"], d_figures_of, none⟩
theorem ok_figures_of : RowOk gtab r_figures_of := ⟨⟨by kernel_rfl, rfl, rfl⟩, ⟨rfl, rfl, rfl, by decide +kernel, rfl, by decide +kernel, by decide +kernel⟩, fun d h => by cases h⟩
def r_read_part : Row := ⟨100, "read_part", top 8, ["word", "many", "exponent", "head", "star", "tail"], ["word"], d_read_part, none⟩
theorem ok_read_part : RowOk gtab r_read_part := ⟨⟨by kernel_rfl, rfl, rfl⟩, ⟨rfl, rfl, rfl, by decide +kernel, rfl, by decide +kernel, by decide +kernel⟩, fun d h => by cases h⟩
def r_read_ordinal : Row := ⟨101, "read_ordinal", top 9, ["text", "found", "last", "numbers", "at", "word", "part", "many", "exponent"], ["text"], d_read_ordinal, none⟩
theorem ok_read_ordinal : RowOk gtab r_read_ordinal := ⟨⟨by kernel_rfl, rfl, rfl⟩, ⟨rfl, rfl, rfl, by decide +kernel, rfl, by decide +kernel, by decide +kernel⟩, fun d h => by cases h⟩
def r__law_hand : Row := ⟨16, "_law_hand", top 11, ["script", "cells", "cell"], ["script"], d__law_hand, none⟩
theorem ok__law_hand : RowOk gtab r__law_hand := ⟨⟨by kernel_rfl, rfl, rfl⟩, ⟨rfl, rfl, rfl, by decide +kernel, rfl, by decide +kernel, by decide +kernel⟩, fun d h => by cases h⟩
def r__law_draw : Row := ⟨9, "_law_draw", top 12, ["hand", "many", "number", "cell", "digit"], ["hand", "many"], d__law_draw, none⟩
theorem ok__law_draw : RowOk gtab r__law_draw := ⟨⟨by kernel_rfl, rfl, rfl⟩, ⟨rfl, rfl, rfl, by decide +kernel, rfl, by decide +kernel, by decide +kernel⟩, fun d h => by cases h⟩
def r__law_big : Row := ⟨14, "_law_big", top 13, ["hand", "most", "found", "turn"], ["hand", "most"], d__law_big, none⟩
theorem ok__law_big : RowOk gtab r__law_big := ⟨⟨by kernel_rfl, rfl, rfl⟩, ⟨rfl, rfl, rfl, by decide +kernel, rfl, by decide +kernel, by decide +kernel⟩, fun d h => by cases h⟩
def r__law_some : Row := ⟨24, "_law_some", top 14, ["hand", "things"], ["hand", "things"], d__law_some, none⟩
theorem ok__law_some : RowOk gtab r__law_some := ⟨⟨by kernel_rfl, rfl, rfl⟩, ⟨rfl, rfl, rfl, by decide +kernel, rfl, by decide +kernel, by decide +kernel⟩, fun d h => by cases h⟩
def r__law_kept : Row := ⟨15, "_law_kept", top 15, ["told", "due", "at"], ["told", "due"], d__law_kept, some dh__law_kept⟩
theorem ok__law_kept : RowOk gtab r__law_kept := ⟨⟨by kernel_rfl, rfl, rfl⟩, ⟨rfl, rfl, rfl, by decide +kernel, rfl, by decide +kernel, by decide +kernel⟩, fun d h => by cases h; exact ⟨by kernel_rfl, rfl, rfl⟩⟩
def r__law_wrong : Row := ⟨103, "_law_wrong", top 16, ["hand", "exponent", "ahead", "kind", "odd"], ["hand", "exponent", "ahead"], d__law_wrong, none⟩
theorem ok__law_wrong : RowOk gtab r__law_wrong := ⟨⟨by kernel_rfl, rfl, rfl⟩, ⟨rfl, rfl, rfl, by decide +kernel, rfl, by decide +kernel, by decide +kernel⟩, fun d h => by cases h⟩
def r__law_part : Row := ⟨102, "_law_part", top 17, ["exponent", "many", "head"], ["exponent", "many"], d__law_part, none⟩
theorem ok__law_part : RowOk gtab r__law_part := ⟨⟨by kernel_rfl, rfl, rfl⟩, ⟨rfl, rfl, rfl, by decide +kernel, rfl, by decide +kernel, by decide +kernel⟩, fun d h => by cases h⟩
def r_law : Row := ⟨22, "law", top 18, ["script", "hand", "thing", "turn", "e", "at", "again", "text", "parts", "exponent", "where"], ["script"], d_law, none⟩
theorem ok_law : RowOk gtab r_law := ⟨⟨by kernel_rfl, rfl, rfl⟩, ⟨rfl, rfl, rfl, by decide +kernel, rfl, by decide +kernel, by decide +kernel⟩, fun d h => by cases h⟩
def rows : List Row := [r_figures_of, r_read_part, r_read_ordinal, r__law_hand, r__law_draw, r__law_big, r__law_some, r__law_kept, r__law_wrong, r__law_part, r_law]
def tb : Tab := fun n => match n with
  | 99 => some d_figures_of
  | 100 => some d_read_part
  | 101 => some d_read_ordinal
  | 16 => some d__law_hand
  | 9 => some d__law_draw
  | 14 => some d__law_big
  | 24 => some d__law_some
  | 15 => some d__law_kept
  | 103 => some d__law_wrong
  | 102 => some d__law_part
  | 22 => some d_law
  | 100015 => some dh__law_kept
  | _ => none
theorem rows_ok : ∀ r ∈ rows, RowOk gtab r := List.forall_mem_cons.2 ⟨ok_figures_of, List.forall_mem_cons.2 ⟨ok_read_part, List.forall_mem_cons.2 ⟨ok_read_ordinal, List.forall_mem_cons.2 ⟨ok__law_hand, List.forall_mem_cons.2 ⟨ok__law_draw, List.forall_mem_cons.2 ⟨ok__law_big, List.forall_mem_cons.2 ⟨ok__law_some, List.forall_mem_cons.2 ⟨ok__law_kept, List.forall_mem_cons.2 ⟨ok__law_wrong, List.forall_mem_cons.2 ⟨ok__law_part, List.forall_mem_cons.2 ⟨ok_law, List.forall_mem_nil _⟩⟩⟩⟩⟩⟩⟩⟩⟩⟩⟩
theorem rows_tb : ∀ r ∈ rows, tb r.id = some r.d := List.forall_mem_cons.2 ⟨rfl, List.forall_mem_cons.2 ⟨rfl, List.forall_mem_cons.2 ⟨rfl, List.forall_mem_cons.2 ⟨rfl, List.forall_mem_cons.2 ⟨rfl, List.forall_mem_cons.2 ⟨rfl, List.forall_mem_cons.2 ⟨rfl, List.forall_mem_cons.2 ⟨rfl, List.forall_mem_cons.2 ⟨rfl, List.forall_mem_cons.2 ⟨rfl, List.forall_mem_cons.2 ⟨rfl, List.forall_mem_nil _⟩⟩⟩⟩⟩⟩⟩⟩⟩⟩⟩
theorem rows_tbh : ∀ r ∈ rows, tb (r.id + hotOff) = r.dh := List.forall_mem_cons.2 ⟨(by kernel_rfl), List.forall_mem_cons.2 ⟨(by kernel_rfl), List.forall_mem_cons.2 ⟨(by kernel_rfl), List.forall_mem_cons.2 ⟨(by kernel_rfl), List.forall_mem_cons.2 ⟨(by kernel_rfl), List.forall_mem_cons.2 ⟨(by kernel_rfl), List.forall_mem_cons.2 ⟨(by kernel_rfl), List.forall_mem_cons.2 ⟨(by kernel_rfl), List.forall_mem_cons.2 ⟨(by kernel_rfl), List.forall_mem_cons.2 ⟨(by kernel_rfl), List.forall_mem_cons.2 ⟨(by kernel_rfl), List.forall_mem_nil _⟩⟩⟩⟩⟩⟩⟩⟩⟩⟩⟩
theorem fns_ok : fnCheck gtab rows = true := by decide +kernel
theorem it_BadText : InitTxt (clsAt 0 (top 2)) "place" "self" "place" := init_txt ⟨_, _, _, _, rfl⟩ ⟨rfl, rfl, rfl, by decide +kernel, rfl, by decide +kernel, by decide +kernel⟩ (by decide +kernel)
theorem stand {K : PySem.W.Frag} {h : Heap} {mg : Str → Option Value} (X : K.In h) (G : h.Ns mainGlobals mg) (h_figures_of : DefAt K "figures_of" (top 7))
    (h_read_part : DefAt K "read_part" (top 8))
    (h_read_ordinal : DefAt K "read_ordinal" (top 9))
    (h__law_hand : DefAt K "_law_hand" (top 11))
    (h__law_draw : DefAt K "_law_draw" (top 12))
    (h__law_big : DefAt K "_law_big" (top 13))
    (h__law_some : DefAt K "_law_some" (top 14))
    (h__law_kept : DefAt K "_law_kept" (top 15))
    (h__law_wrong : DefAt K "_law_wrong" (top 16))
    (h__law_part : DefAt K "_law_part" (top 17))
    (h_law : DefAt K "law" (top 18))
    (c_MOST_NUMBERS : ∃ t, PySem.W.nsIn K mainGlobals "MOST_NUMBERS" = some (some (.int 16 t)))
    (c_MOST_DIGITS : ∃ t, PySem.W.nsIn K mainGlobals "MOST_DIGITS" = some (some (.int 40 t)))
    (c_FIGURES : ∃ t, PySem.W.nsIn K mainGlobals "FIGURES" = some (some (.str ("0123456789" : PySem.Str) t)))
    (z_len : PySem.W.nsIn K mainGlobals "len" = some none)
    (z_abs : PySem.W.nsIn K mainGlobals "abs" = some none)
    (z_int : PySem.W.nsIn K mainGlobals "int" = some none)
    (z_str : PySem.W.nsIn K mainGlobals "str" = some none)
    (z_tuple : PySem.W.nsIn K mainGlobals "tuple" = some none)
    (z_list : PySem.W.nsIn K mainGlobals "list" = some none)
    (z_all : PySem.W.nsIn K mainGlobals "all" = some none)
    (z_any : PySem.W.nsIn K mainGlobals "any" = some none)
    (z_sum : PySem.W.nsIn K mainGlobals "sum" = some none)
    (z_bool : PySem.W.nsIn K mainGlobals "bool" = some none)
    (z_isinstance : PySem.W.nsIn K mainGlobals "isinstance" = some none)
    (z_range : PySem.W.nsIn K mainGlobals "range" = some none)
    (z_enumerate : PySem.W.nsIn K mainGlobals "enumerate" = some none)
    (z_zip : PySem.W.nsIn K mainGlobals "zip" = some none)
    (z_max : PySem.W.nsIn K mainGlobals "max" = some none)
    (z_min : PySem.W.nsIn K mainGlobals "min" = some none)
    (z_sorted : PySem.W.nsIn K mainGlobals "sorted" = some none)
    {C_BadText : Addr}
    (e_BadText : X1At K "BadText" "BadText.__init__" "place" (clsAt 0 (top 2)) C_BadText)
    (s_BadText_BadText : PySem.W.subIn K (.ref C_BadText) (.ref C_BadText) = some true) : Stand rows gtab tb K mg (xtOf [⟨16, "BadText", C_BadText, (some "place"), [16]⟩]) :=
  stand_of rows_ok rows_tb rows_tbh (List.forall_mem_cons.2 ⟨def_at X G h_figures_of (fun _ _ _ _ _ _ _ us hl => match us, hl with | [_, _], _ => rfl), List.forall_mem_cons.2 ⟨def_at X G h_read_part (fun _ _ _ _ _ _ _ us hl => match us, hl with | [_], _ => rfl), List.forall_mem_cons.2 ⟨def_at X G h_read_ordinal (fun _ _ _ _ _ _ _ us hl => match us, hl with | [_], _ => rfl), List.forall_mem_cons.2 ⟨def_at X G h__law_hand (fun _ _ _ _ _ _ _ us hl => match us, hl with | [_], _ => rfl), List.forall_mem_cons.2 ⟨def_at X G h__law_draw (fun _ _ _ _ _ _ _ us hl => match us, hl with | [_, _], _ => rfl), List.forall_mem_cons.2 ⟨def_at X G h__law_big (fun _ _ _ _ _ _ _ us hl => match us, hl with | [_, _], _ => rfl), List.forall_mem_cons.2 ⟨def_at X G h__law_some (fun _ _ _ _ _ _ _ us hl => match us, hl with | [_, _], _ => rfl), List.forall_mem_cons.2 ⟨def_at X G h__law_kept (fun _ _ _ _ _ _ _ us hl => match us, hl with | [_, _], _ => rfl), List.forall_mem_cons.2 ⟨def_at X G h__law_wrong (fun _ _ _ _ _ _ _ us hl => match us, hl with | [_, _, _], _ => rfl), List.forall_mem_cons.2 ⟨def_at X G h__law_part (fun _ _ _ _ _ _ _ us hl => match us, hl with | [_, _], _ => rfl), List.forall_mem_cons.2 ⟨def_at X G h_law (fun _ _ _ _ _ _ _ us hl => match us, hl with | [_], _ => rfl), List.forall_mem_nil _⟩⟩⟩⟩⟩⟩⟩⟩⟩⟩⟩) fns_ok (List.forall_mem_cons.2 ⟨True.intro, List.forall_mem_cons.2 ⟨True.intro, List.forall_mem_cons.2 ⟨True.intro, List.forall_mem_cons.2 ⟨True.intro, List.forall_mem_cons.2 ⟨True.intro, List.forall_mem_cons.2 ⟨True.intro, List.forall_mem_cons.2 ⟨True.intro, List.forall_mem_cons.2 ⟨True.intro, List.forall_mem_cons.2 ⟨True.intro, List.forall_mem_cons.2 ⟨True.intro, List.forall_mem_cons.2 ⟨True.intro, List.forall_mem_cons.2 ⟨gl_int X G c_MOST_NUMBERS, List.forall_mem_cons.2 ⟨gl_int X G c_MOST_DIGITS, List.forall_mem_cons.2 ⟨gl_str X G c_FIGURES, List.forall_mem_cons.2 ⟨⟨_, List.mem_cons_self, rfl, rfl, rfl, rfl, rfl⟩, List.forall_mem_nil _⟩⟩⟩⟩⟩⟩⟩⟩⟩⟩⟩⟩⟩⟩⟩) (none_of X G (List.forall_mem_cons.2 ⟨z_len, List.forall_mem_cons.2 ⟨z_abs, List.forall_mem_cons.2 ⟨z_int, List.forall_mem_cons.2 ⟨z_str, List.forall_mem_cons.2 ⟨z_tuple, List.forall_mem_cons.2 ⟨z_list, List.forall_mem_cons.2 ⟨z_all, List.forall_mem_cons.2 ⟨z_any, List.forall_mem_cons.2 ⟨z_sum, List.forall_mem_cons.2 ⟨z_bool, List.forall_mem_cons.2 ⟨z_isinstance, List.forall_mem_cons.2 ⟨z_range, List.forall_mem_cons.2 ⟨z_enumerate, List.forall_mem_cons.2 ⟨z_zip, List.forall_mem_cons.2 ⟨z_max, List.forall_mem_cons.2 ⟨z_min, List.forall_mem_cons.2 ⟨z_sorted, List.forall_mem_nil _⟩⟩⟩⟩⟩⟩⟩⟩⟩⟩⟩⟩⟩⟩⟩⟩⟩)) (List.forall_mem_cons.2 ⟨x1_ok X G it_BadText (fun _ _ _ _ _ _ _ _ us hl => match us, hl with | [_, _], _ => rfl) e_BadText, List.forall_mem_nil _⟩) (List.forall_mem_cons.2 ⟨List.forall_mem_cons.2 ⟨s_BadText_BadText, List.forall_mem_nil _⟩, List.forall_mem_nil _⟩) (List.forall_mem_cons.2 ⟨rfl, List.forall_mem_nil _⟩)
theorem all_mk {l : PySem.W.OpenLaw} {w : World} {K : PySem.W.Frag} {h : Heap} {mg : Str → Option Value} {fa : Addr} {k : Nat} (run : ∀ ns : List Int, ns.length ≤ 63 → ∃ S', callN tb k 22 [.rol (ns.map .int)] [] = .ok (.bl true) S') (X : K.In h) (G : h.Ns mainGlobals mg) (hfa : mg "law" = some (.ref fa))
    (h_figures_of : DefAt K "figures_of" (top 7))
    (h_read_part : DefAt K "read_part" (top 8))
    (h_read_ordinal : DefAt K "read_ordinal" (top 9))
    (h__law_hand : DefAt K "_law_hand" (top 11))
    (h__law_draw : DefAt K "_law_draw" (top 12))
    (h__law_big : DefAt K "_law_big" (top 13))
    (h__law_some : DefAt K "_law_some" (top 14))
    (h__law_kept : DefAt K "_law_kept" (top 15))
    (h__law_wrong : DefAt K "_law_wrong" (top 16))
    (h__law_part : DefAt K "_law_part" (top 17))
    (h_law : DefAt K "law" (top 18))
    (c_MOST_NUMBERS : ∃ t, PySem.W.nsIn K mainGlobals "MOST_NUMBERS" = some (some (.int 16 t)))
    (c_MOST_DIGITS : ∃ t, PySem.W.nsIn K mainGlobals "MOST_DIGITS" = some (some (.int 40 t)))
    (c_FIGURES : ∃ t, PySem.W.nsIn K mainGlobals "FIGURES" = some (some (.str ("0123456789" : PySem.Str) t)))
    (z_len : PySem.W.nsIn K mainGlobals "len" = some none)
    (z_abs : PySem.W.nsIn K mainGlobals "abs" = some none)
    (z_int : PySem.W.nsIn K mainGlobals "int" = some none)
    (z_str : PySem.W.nsIn K mainGlobals "str" = some none)
    (z_tuple : PySem.W.nsIn K mainGlobals "tuple" = some none)
    (z_list : PySem.W.nsIn K mainGlobals "list" = some none)
    (z_all : PySem.W.nsIn K mainGlobals "all" = some none)
    (z_any : PySem.W.nsIn K mainGlobals "any" = some none)
    (z_sum : PySem.W.nsIn K mainGlobals "sum" = some none)
    (z_bool : PySem.W.nsIn K mainGlobals "bool" = some none)
    (z_isinstance : PySem.W.nsIn K mainGlobals "isinstance" = some none)
    (z_range : PySem.W.nsIn K mainGlobals "range" = some none)
    (z_enumerate : PySem.W.nsIn K mainGlobals "enumerate" = some none)
    (z_zip : PySem.W.nsIn K mainGlobals "zip" = some none)
    (z_max : PySem.W.nsIn K mainGlobals "max" = some none)
    (z_min : PySem.W.nsIn K mainGlobals "min" = some none)
    (z_sorted : PySem.W.nsIn K mainGlobals "sorted" = some none)
    {C_BadText : Addr}
    (e_BadText : X1At K "BadText" "BadText.__init__" "place" (clsAt 0 (top 2)) C_BadText)
    (s_BadText_BadText : PySem.W.subIn K (.ref C_BadText) (.ref C_BadText) = some true) :
    ∃ fd : FuncData, (∀ (s : Shared) (v : Value), BindsTo s fd ⟨[v], []⟩ [("script", v)]) ∧ ∀ base : Heap, K.In base → base.Ns mainGlobals mg → FnOk l.prog w K mg base (L2N.CX l.prog w) (k + 2) fa fd ["script"] (spLaw K) := by
  have St := stand X G h_figures_of h_read_part h_read_ordinal h__law_hand h__law_draw h__law_big h__law_some h__law_kept h__law_wrong h__law_part h_law c_MOST_NUMBERS c_MOST_DIGITS c_FIGURES z_len z_abs z_int z_str z_tuple z_list z_all z_any z_sum z_bool z_isinstance z_range z_enumerate z_zip z_max z_min z_sorted e_BadText s_BadText_BadText
  obtain ⟨f, oc, od, kV, doc, pm, an, cdv, ct, osl, a, l', c, kp⟩ := h_law
  have e := hfa.symm.trans (PySem.W.mg_of X G a)
  cases e
  exact ⟨_, fun s v => .of_eq rfl, fun base _ _ => law_ok St (r := r_law) (by simp [rows]) (fun_mk (st := top 18) l' c kp) run⟩
end K08
end

section
set_option linter.all false
set_option maxRecDepth 100000
set_option maxHeartbeats 1000000
/-! PDsim: how the evaluator is run in proofs. -/
namespace PD.PS
open PySem

theorem call_rt {T : Tab} {n f : Nat} {d : Def} {xs : List D} {S S' : Store} {v : D} (hT : T f = some d) (hl : xs.length = d.np) (h : exTs (callN T n) d.body (xs.map some ++ List.replicate (d.ns - xs.length) none) S = .rt v S') : callN T (n + 1) f xs S = .ok v (gcS S v S') := by
  simp only [callN, hT, runDef, hl, if_true, h, gc]
  rw [← hl, h]
theorem call_nx {T : Tab} {n f : Nat} {d : Def} {xs : List D} {S S' : Store} {env : Env} (hT : T f = some d) (hl : xs.length = d.np) (h : exTs (callN T n) d.body (xs.map some ++ List.replicate (d.ns - xs.length) none) S = .nx env S') : callN T (n + 1) f xs S = .ok .non (gcS S .non S') := by
  simp only [callN, hT, runDef, hl, if_true]
  rw [← hl, h]
  rfl
/-- an exception leaves a def -/
theorem call_ex {T : Tab} {n f : Nat} {d : Def} {xs : List D} {S S' : Store} {x : Exn} {env : Env} (hT : T f = some d) (hl : xs.length = d.np) (h : exTs (callN T n) d.body (xs.map some ++ List.replicate (d.ns - xs.length) none) S = .ex x env S') : callN T (n + 1) f xs S = .exc x S' := by
  simp only [callN, hT, runDef, hl, if_true]
  rw [← hl, h]
/-- a value that holds no cell, from a run that leaves what was there -/
theorem call_pure {T : Tab} {n f : Nat} {d : Def} {xs : List D} {S G : Store} {v : D} (hT : T f = some d) (hl : xs.length = d.np) (hv : D.lt S.length v = true) (h : exTs (callN T n) d.body (xs.map some ++ List.replicate (d.ns - xs.length) none) S = .rt v (S ++ G)) : callN T (n + 1) f xs S = .ok v S := by
  rw [call_rt hT hl h, gcS_same hv]

/-! data without cells -/
def tupI (xs : List Int) : D := .tup (xs.map .int)
@[simp] theorem lts_ints (n : Nat) : ∀ xs : List Int, D.lts n (xs.map .int) = true
  | [] => rfl
  | x :: xs => by simp [D.lts, D.lt, lts_ints n xs]
@[simp] theorem lt_tupI (n : Nat) (xs : List Int) : D.lt n (tupI xs) = true := by simp [tupI, D.lt]
@[simp] theorem pys_ints (f : Nat → Option PyData) : ∀ xs : List Int, D.pys f (xs.map .int) = some (xs.map .int)
  | [] => rfl
  | x :: xs => by simp [D.pys, D.py, pys_ints f xs]
@[simp] theorem ints_ints : ∀ xs : List Int, ints? (xs.map .int) = some xs
  | [] => rfl
  | x :: xs => by simp [ints?, ints_ints xs]
@[simp] theorem bls_bls : ∀ xs : List Bool, bls? (xs.map .bl) = some xs
  | [] => rfl
  | x :: xs => by simp [bls?, bls_bls xs]
theorem canAll_ints : ∀ xs : List Int, PyData.canLayAll0 (xs.map .int) = true
  | [] => by simp [PyData.canLayAll0]
  | x :: xs => by simp [PyData.canLayAll0, PyData.canLay0, canAll_ints xs]
theorem depthAll_ints : ∀ xs : List Int, PyData.depthAll (xs.map .int) ≤ 1
  | [] => by simp [PyData.depthAll]
  | x :: xs => by
    have := depthAll_ints xs
    simp [PyData.depthAll, PyData.depth]
    try omega
theorem eqvAll_ints : ∀ xs ys : List Int, PyData.eqvAll (xs.map .int) (ys.map .int) = decide (xs = ys)
  | [], [] => by simp [PyData.eqvAll]
  | x :: xs, y :: ys => by
    simp only [List.map_cons, PyData.eqvAll, PyData.eqv, eqvAll_ints xs ys]
    by_cases h : x = y <;> by_cases h' : xs = ys <;> simp [h, h']
  | [], _ :: _ => by simp [PyData.eqvAll]
  | _ :: _, [] => by simp [PyData.eqvAll]
@[simp] theorem opEq_int (i j : Int) (S : Store) : opEq (.int i) (.int j) S = .ok (decide (i = j)) S := by
  simp [opEq, toPy, D.py, SeqAt.shaped, PyData.canLay0, PyData.depth, PyData.eqv]
  exact Bool.beq_eq_decide_eq ..
@[simp] theorem opEq_bl (i j : Bool) (S : Store) : opEq (.bl i) (.bl j) S = .ok (decide (i = j)) S := by
  simp [opEq, toPy, D.py, SeqAt.shaped, PyData.canLay0, PyData.depth, PyData.eqv]
  exact Bool.beq_eq_decide_eq ..
@[simp] theorem opEq_tupI (xs ys : List Int) (S : Store) : opEq (tupI xs) (tupI ys) S = .ok (decide (xs = ys)) S := by
  have h1 := depthAll_ints xs
  have h2 := depthAll_ints ys
  simp [opEq, toPy, tupI, D.py, SeqAt.shaped, PyData.canLay0, canAll_ints, PyData.depth, PyData.eqv, eqvAll_ints]
  omega
end PD.PS
end

section
set_option linter.all false
set_option maxRecDepth 100000
set_option maxHeartbeats 1000000
/-! PDsim2: the evaluator's equations, and loops. -/
namespace PD.PS
open PySem
section eqs
variable {F : Fn} {env : Env} {S : Store}
@[simp] theorem e_slot (i : Nat) : evE F env (.slot i) S = match env[i]? with
    | some (some d) => .ok d S
    | _ => .stuck := by { rw [evE]; try rfl }
@[simp] theorem e_cst (d : D) : evE F env (.cst d) S = .ok d S := by { rw [evE]; try rfl }
@[simp] theorem e_bin (o : Operator) (a b : E) : evE F env (.bin o a b) S = (evE F env a S).bind fun x S => (evE F env b S).bind fun y S => opBin o x y S := by { rw [evE]; try rfl }
@[simp] theorem e_un (o : UnaryOp) (a : E) : evE F env (.un o a) S = (evE F env a S).bind fun x S => opUn o x S := by { rw [evE]; try rfl }
@[simp] theorem e_cmp (o : CmpOp) (a b : E) : evE F env (.cmp o a b) S = (evE F env a S).bind fun x S => (evE F env b S).bind fun y S => (opCmp o x y S).map .bl := by { rw [evE]; try rfl }
@[simp] theorem e_chn (o p : CmpOp) (a b c : E) : evE F env (.chn o p a b c) S = (evE F env a S).bind fun x S => (evE F env b S).bind fun y S => (opCmp o x y S).bind fun k S =>
      if k then (evE F env c S).bind fun z S => (opCmp p y z S).map .bl else .ok (.bl false) S := by { rw [evE]; try rfl }
@[simp] theorem e_and (a b : E) : evE F env (.and a b) S = (evE F env a S).bind fun x S => match x with
    | .bl true => evE F env b S
    | .bl false => .ok (.bl false) S
    | _ => .stuck := by { rw [evE]; try rfl }
@[simp] theorem e_or (a b : E) : evE F env (.or a b) S = (evE F env a S).bind fun x S => match x with
    | .bl true => .ok (.bl true) S
    | .bl false => evE F env b S
    | _ => .stuck := by { rw [evE]; try rfl }
@[simp] theorem e_not (a : E) : evE F env (.not a) S = (evE F env a S).bind fun x S => match x with
    | .bl k => .ok (.bl (!k)) S
    | _ => .stuck := by { rw [evE]; try rfl }
@[simp] theorem e_ife (c a b : E) : evE F env (.ife c a b) S = (evT F env c S).bind fun k S => if k then evE F env a S else evE F env b S := by { rw [evE]; try rfl }
@[simp] theorem e_call (f : Nat) (as : Es) : evE F env (.call f as) S = (evEs F env as S).bind fun xs S => F f xs S := by { rw [evE]; try rfl }
@[simp] theorem e_blt (f : Blt) (as : Es) : evE F env (.blt f as) S = (evEs F env as S).bind fun xs S => opBlt f xs S := by { rw [evE]; try rfl }
@[simp] theorem e_isi (a : E) (t : Ty) : evE F env (.isi a t) S = (evE F env a S).bind fun x S => match isTy x t S with
    | some k => .ok (.bl k) S
    | none => .stuck := by { rw [evE]; try rfl }
@[simp] theorem e_mth (m : Mth) (o : E) (as : Es) : evE F env (.mth m o as) S = (evE F env o S).bind fun x S => if rcvOk m x S then (evEs F env as S).bind fun xs S => opMth m x xs S else .stuck := by { rw [evE]; try rfl }
@[simp] theorem e_ix (a i : E) : evE F env (.ix a i) S = (evE F env a S).bind fun x S => (evE F env i S).bind fun y S => opIx x y S := by { rw [evE]; try rfl }
@[simp] theorem e_slc (a : E) (lo hi : Oe) : evE F env (.slc a lo hi) S = (evE F env a S).bind fun x S => (evO F env lo S).bind fun l S => (evO F env hi S).bind fun h S => opSl x l h S := by { rw [evE]; try rfl }
@[simp] theorem e_tup (as : Es) : evE F env (.tup as) S = (evEs F env as S).bind fun xs S => if xs.length ≤ sizeLine then .ok (.tup xs) S else .stuck := by { rw [evE]; try rfl }
@[simp] theorem e_dnew : evE F env .dnew S = .ok (.ref S.length) (S ++ [.dic []]) := by { rw [evE]; try rfl }
@[simp] theorem e_lst (as : Es) : evE F env (.lst as) S = (evEs F env as S).bind fun xs S => if xs.length ≤ sizeLine then newL xs S else .stuck := by { rw [evE]; try rfl }
theorem e_lc (e : E) (t : Tg) (s : I) (c : Oe) (own : List Nat) : evE F env (.lc e t s c own) S = (evI F env s S).bind fun src S =>
      ((lcGo src.nx (fun d S => asgT S t d (wipeE env own)) (fun env S => evOT F env c S) (fun env S => evE F env e S) wmax 0 [] S).noexc).bind fun ds S => newL ds S := by { rw [evE]; try rfl }
@[simp] theorem es_nil : evEs F env .nil S = .ok [] S := by { rw [evEs]; try rfl }
@[simp] theorem es_cons (e : E) (es : Es) : evEs F env (.cons e es) S = (evE F env e S).bind fun x S => (evEs F env es S).bind fun xs S => .ok (x :: xs) S := by { rw [evEs]; try rfl }
@[simp] theorem es_star (e : E) (es : Es) : evEs F env (.star e es) S = (evE F env e S).bind fun x S => match itemsOf S x with
    | some ds => (evEs F env es S).bind fun xs S => .ok (ds ++ xs) S
    | none => .stuck := by { rw [evEs]; try rfl }
@[simp] theorem o_no : evO F env .no S = .ok none S := by { rw [evO]; try rfl }
@[simp] theorem o_so (e : E) : evO F env (.so e) S = (evE F env e S).bind fun x S => match x with
    | .int i => .ok (some i) S
    | _ => .stuck := by { rw [evO]; try rfl }
@[simp] theorem ot_no : evOT F env .no S = .ok true S := by { rw [evOT]; try rfl }
@[simp] theorem ot_so (e : E) : evOT F env (.so e) S = evT F env e S := by { rw [evOT]; try rfl }
@[simp] theorem t_and (a b : E) : evT F env (.and a b) S = (evT F env a S).bind fun k S => if k then evT F env b S else .ok false S := by { rw [evT]; try rfl }
@[simp] theorem t_or (a b : E) : evT F env (.or a b) S = (evT F env a S).bind fun k S => if k then .ok true S else evT F env b S := by { rw [evT]; try rfl }
@[simp] theorem t_not (a : E) : evT F env (.not a) S = (evT F env a S).map not := by { rw [evT]; try rfl }
@[simp] theorem t_cmp (o : CmpOp) (a b : E) : evT F env (.cmp o a b) S = (evE F env a S).bind fun x S => (evE F env b S).bind fun y S => opCmp o x y S := by { rw [evT]; try rfl }
@[simp] theorem t_chn (o p : CmpOp) (a b c : E) : evT F env (.chn o p a b c) S = (evE F env a S).bind fun x S => (evE F env b S).bind fun y S => (opCmp o x y S).bind fun k S =>
      if k then (evE F env c S).bind fun z S => opCmp p y z S else .ok false S := by { rw [evT]; try rfl }
@[simp] theorem t_slot (i : Nat) : evT F env (.slot i) S = (match env[i]? with
    | some (some d) => .ok d S
    | _ => .stuck : R D).bind fun x S => opTru x S := by { rw [evT]; try rfl }
@[simp] theorem t_call (f : Nat) (as : Es) : evT F env (.call f as) S = ((evEs F env as S).bind fun xs S => F f xs S).bind fun x S => opTru x S := by { rw [evT]; try rfl }
@[simp] theorem t_blt (f : Blt) (as : Es) : evT F env (.blt f as) S = ((evEs F env as S).bind fun xs S => opBlt f xs S).bind fun x S => opTru x S := by { rw [evT]; try rfl }
@[simp] theorem t_isi (a : E) (t : Ty) : evT F env (.isi a t) S = (evE F env a S).bind fun x S => match isTy x t S with
    | some k => .ok k S
    | none => .stuck := by { rw [evT]; try rfl }
@[simp] theorem t_mth (m : Mth) (o : E) (as : Es) : evT F env (.mth m o as) S = ((evE F env o S).bind fun x S => if rcvOk m x S then (evEs F env as S).bind fun xs S => opMth m x xs S else .stuck).bind fun x S => opTru x S := by { rw [evT]; try rfl }
@[simp] theorem t_ix (a i : E) : evT F env (.ix a i) S = ((evE F env a S).bind fun x S => (evE F env i S).bind fun y S => opIx x y S).bind fun x S => opTru x S := by { rw [evT]; try rfl }
@[simp] theorem i_any (e : E) : evI F env (.any e) S = (evE F env e S).bind fun x S => match x with
    | .tup ds => .ok (.st ds) S
    | .rol ds => .ok (.st ds) S
    | .str s => .ok (.st (strItems s)) S
    | .ref n => match S[n]? with
      | some (.lst _) => .ok (.ls n) S
      | _ => .stuck
    | _ => .stuck := by { rw [evI]; try rfl }
@[simp] theorem i_rng1 (a : E) : evI F env (.rng1 a) S = (evE F env a S).bind fun x S => match x with
    | .int j => if rngOk j then .ok (.st (rangeD 0 1 j.toNat)) S else .stuck
    | _ => .stuck := by { rw [evI]; try rfl }
@[simp] theorem i_rng2 (a b : E) : evI F env (.rng2 a b) S = (evE F env a S).bind fun x S => (evE F env b S).bind fun y S => match x, y with
    | .int i, .int j => if rngOk i && rngOk j then .ok (.st (rangeD i 1 (j - i).toNat)) S else .stuck
    | _, _ => .stuck := by { rw [evI]; try rfl }
@[simp] theorem i_rng3 (a b : E) (c : Int) : evI F env (.rng3 a b c) S = (evE F env a S).bind fun x S => (evE F env b S).bind fun y S => match x, y with
    | .int i, .int j => if rngOk i && rngOk j && decide (c = -1) then .ok (.st (rangeD i (-1) (i - j).toNat)) S else .stuck
    | _, _ => .stuck := by { rw [evI]; try rfl }
@[simp] theorem x_asg (t : Tg) (e : E) : exT F (.asg t e) env S = (evE F env e S).out env fun d S => match asgT S t d env with
    | some env' => .nx env' S
    | none => .stuck := by { rw [exT]; try rfl }
@[simp] theorem x_seti (a i e : E) : exT F (.seti a i e) env S = (evE F env e S).out env fun v S => (evE F env a S).out env fun o S => (evE F env i S).out env fun k S => (opSet o k v S).out env fun _ S => .nx env S := by { rw [exT]; try rfl }
@[simp] theorem x_aug (i : Nat) (o : Operator) (e : E) : exT F (.aug i o e) env S = match env[i]? with
    | some (some x) => (evE F env e S).out env fun y S => (opAug o x y S).out env fun z S => .nx (env.set i (some z)) S
    | _ => .stuck := by { rw [exT]; try rfl }
@[simp] theorem x_exp (e : E) : exT F (.exp e) env S = (evE F env e S).out env fun _ S => .nx env S := by { rw [exT]; try rfl }
@[simp] theorem x_ret (e : E) : exT F (.ret e) env S = (evE F env e S).out env fun d S => .rt d S := by { rw [exT]; try rfl }
@[simp] theorem x_retN : exT F .retN env S = .rt .non S := by { rw [exT]; try rfl }
@[simp] theorem x_iff (c : E) (a b : Ts) : exT F (.iff c a b) env S = (evT F env c S).out env fun k S => if k then exTs F a env S else exTs F b env S := by { rw [exT]; try rfl }
theorem x_whl (c : E) (b : Ts) : exT F (.whl c b) env S = whlGo (fun env S => evT F env c S) (fun env S => exTs F b env S) wmax env S := by { rw [exT]; try rfl }
theorem x_for (t : Tg) (s : I) (b : Ts) : exT F (.for_ t s b) env S = (evI F env s S).out env fun src S => forGo src.nx t (fun env S => exTs F b env S) wmax 0 env S := by { rw [exT]; try rfl }
@[simp] theorem x_pas : exT F .pas env S = .nx env S := by { rw [exT]; try rfl }
@[simp] theorem x_brk : exT F .brk env S = .bk env S := by { rw [exT]; try rfl }
@[simp] theorem x_cnt : exT F .cnt env S = .ct env S := by { rw [exT]; try rfl }
theorem x_rai (x : Nat) (as : Es) : exT F (.rai x as) env S = (evEs F env as S).out env fun ds S => .ex ⟨x, ds⟩ env S := by { rw [exT]; try rfl }
theorem x_try (b : Ts) (h : PD.Hs) : exT F (.try_ b h) env S = match exTs F b env S with
    | .ex x env' S' => exH F h x env' S'
    | o => o := by { rw [exT]; try rfl }
theorem h_nil (x : Exn) : exH F .nil x env S = .ex x env S := by { rw [exH]; try rfl }
theorem h_cons (cs : List Nat) (i : Option Nat) (s : Ts) (r : PD.Hs) (x : Exn) : exH F (.cons cs i s r) x env S = if cs.contains x.cls then (exTs (xF F x) s (wipeO env i) S).aftX i else exH F r x env S := by { rw [exH]; try rfl }
/-- a try whose body raises what its first clause takes -/
theorem x_tryX {b s : Ts} {cs : List Nat} {i : Option Nat} {r : PD.Hs} {x : Exn} {env' : Env} {S' : Store} (h : exTs F b env S = .ex x env' S') (hc : cs.contains x.cls = true) : exT F (.try_ b (.cons cs i s r)) env S = (exTs (xF F x) s (wipeO env' i) S').aftX i := by
  rw [x_try, h]
  show exH F _ x env' S' = _
  rw [h_cons, if_pos hc]
theorem e_xf (i : Nat) : evE F env (.xf i) S = match env[i]? with
    | some none => F xfId [] S
    | _ => .stuck := by { rw [evE]; try rfl }
theorem e_xi (i : Nat) (cs : List Nat) : evE F env (.xi i cs) S = match env[i]? with
    | some none => F xiId [.tup (cs.map fun (c : Nat) => .int c)] S
    | _ => .stuck := by { rw [evE]; try rfl }
theorem t_xi (i : Nat) (cs : List Nat) : evT F env (.xi i cs) S = (match env[i]? with
    | some none => F xiId [.tup (cs.map fun (c : Nat) => .int c)] S
    | _ => .stuck : R D).bind fun x S => opTru x S := by { rw [evT]; try rfl }
/-- other callees within a suite -/
theorem xF_at {x : Exn} {j : Nat} (h : j ≠ xfId ∧ j ≠ xiId) : xF F x j = F j := by
  funext xs S
  simp only [xF, if_neg h.1, if_neg h.2]
theorem xF_fld {x : Exn} {d : D} (h : x.fs = [d]) : xF F x xfId [] S = .ok d S := by simp [xF, h]
@[simp] theorem xs_nil : exTs F .nil env S = .nx env S := by { rw [exTs]; try rfl }
@[simp] theorem xs_cons (s : T) (r : Ts) : exTs F (.cons s r) env S = (exT F s env S).thn fun env S => exTs F r env S := by { rw [exTs]; try rfl }
@[simp] theorem g_nm (i : Nat) (d : D) : asgT S (.nm i) d env = some (env.set i (some d)) := by { rw [asgT]; try rfl }
@[simp] theorem g_tp (ts : Tgs) (d : D) : asgT S (.tp ts) d env = match itemsOf S d with
    | some ds => asgTs S ts ds env
    | none => none := by { rw [asgT]; try rfl }
@[simp] theorem gs_nil : asgTs S .nil [] env = some env := by { rw [asgTs]; try rfl }
@[simp] theorem gs_cons (t : Tg) (ts : Tgs) (d : D) (ds : List D) : asgTs S (.cons t ts) (d :: ds) env = match asgT S t d env with
    | some env' => asgTs S ts ds env'
    | none => none := by { rw [asgTs]; try rfl }
end eqs

/-! ### loops -/
/-- how a run of statements may end -/
def _root_.PD.Out.sat (o : Out) (N : Env → Store → Prop) (Q : D → Store → Prop) : Prop :=
  match o with
  | .nx e S => N e S
  | .rt d S => Q d S
  | _ => False
/-- the end of a loop's body -/
def _root_.PD.Out.satB (o : Out) (N B : Env → Store → Prop) (Q : D → Store → Prop) : Prop :=
  match o with
  | .nx e S => N e S
  | .ct e S => N e S
  | .bk e S => B e S
  | .rt d S => Q d S
  | _ => False
theorem forGo_st {items : List D} {t : Tg} {b : Env → Store → Out} (I : Nat → Env → Store → Prop) (N : Env → Store → Prop) (Q : D → Store → Prop)
    (step : ∀ i d env S, items[i]? = some d → I i env S → ∃ env1, asgT S t d env = some env1 ∧ (b env1 S).satB (I (i + 1)) N Q)
    (fin : ∀ env S, I items.length env S → N env S) :
    ∀ n i env S, i ≤ items.length → items.length < n + i → I i env S → (forGo (Src.st items).nx t b n i env S).sat N Q
  | 0, i, env, S, h1, h2, h => by omega
  | n + 1, i, env, S, h1, h2, h => by
    simp only [forGo, Src.nx, R.out_ok]
    rcases Nat.lt_or_ge i items.length with hl | hl
    · have hd : items[i]? = some items[i] := List.getElem?_eq_getElem hl
      obtain ⟨env1, ha, hb⟩ := step i _ env S hd h
      simp only [hd, ha]
      cases hbe : b env1 S <;> simp only [hbe, Out.satB] at hb
      · exact forGo_st I N Q step fin n (i + 1) _ _ (by omega) (by omega) hb
      · exact hb
      · exact hb
      · exact forGo_st I N Q step fin n (i + 1) _ _ (by omega) (by omega) hb
    · have : items.length = i := by omega
      rw [List.getElem?_eq_none hl]
      simp only [Out.sat]
      exact fin _ _ (this ▸ h)
theorem forGo_ls {c : Nat} {items : List D} {t : Tg} {b : Env → Store → Out} (I : Nat → Env → Store → Prop) (N : Env → Store → Prop) (Q : D → Store → Prop)
    (hc : ∀ i env S, I i env S → S[c]? = some (.lst items))
    (step : ∀ i d env S, items[i]? = some d → I i env S → ∃ env1, asgT S t d env = some env1 ∧ (b env1 S).satB (I (i + 1)) N Q)
    (fin : ∀ env S, I items.length env S → N env S) :
    ∀ n i env S, i ≤ items.length → items.length < n + i → I i env S → (forGo (Src.ls c).nx t b n i env S).sat N Q
  | 0, i, env, S, h1, h2, h => by omega
  | n + 1, i, env, S, h1, h2, h => by
    simp only [forGo, Src.nx, hc i env S h, R.out_ok]
    rcases Nat.lt_or_ge i items.length with hl | hl
    · have hd : items[i]? = some items[i] := List.getElem?_eq_getElem hl
      obtain ⟨env1, ha, hb⟩ := step i _ env S hd h
      simp only [hd, ha]
      cases hbe : b env1 S <;> simp only [hbe, Out.satB] at hb
      · exact forGo_ls I N Q hc step fin n (i + 1) _ _ (by omega) (by omega) hb
      · exact hb
      · exact hb
      · exact forGo_ls I N Q hc step fin n (i + 1) _ _ (by omega) (by omega) hb
    · have : items.length = i := by omega
      rw [List.getElem?_eq_none hl]
      simp only [Out.sat]
      exact fin _ _ (this ▸ h)
theorem whlGo_sat {c : Env → Store → R Bool} {b : Env → Store → Out} (I : Nat → Env → Store → Prop) (N : Env → Store → Prop) (Q : D → Store → Prop)
    (step : ∀ m env S, I m env S → (∃ S', c env S = .ok false S' ∧ N env S') ∨ (∃ S', c env S = .ok true S' ∧ (b env S').satB (fun e S => ∃ m', m' < m ∧ I m' e S) N Q)) :
    ∀ n m env S, m < n → I m env S → (whlGo c b n env S).sat N Q
  | 0, m, env, S, h2, h => by omega
  | n + 1, m, env, S, h2, h => by
    simp only [whlGo]
    rcases step m env S h with ⟨S', hc, hN⟩ | ⟨S', hc, hb⟩
    · simp only [hc, R.out_ok]
      simpa [Out.sat] using hN
    · simp only [hc, R.out_ok, if_true]
      cases hbe : b env S' <;> simp only [hbe, Out.satB] at hb
      · obtain ⟨m', hm, hI⟩ := hb
        exact whlGo_sat I N Q step n m' _ _ (by omega) hI
      · exact hb
      · exact hb
      · obtain ⟨m', hm, hI⟩ := hb
        exact whlGo_sat I N Q step n m' _ _ (by omega) hI
/-- a comprehension whose elements leave the store -/
theorem lcGo_map {items : List D} {tgt : D → Store → Option Env} {tst : Env → Store → R Bool} {elt : Env → Store → R D} {S : Store} (g : Nat → D)
    (step : ∀ i d, items[i]? = some d → ∃ e, tgt d S = some e ∧ tst e S = .ok true S ∧ elt e S = .ok (g i) S) (hl : items.length ≤ sizeLine) :
    ∀ n i acc, i ≤ items.length → items.length < n + i → acc.length = i → lcGo (Src.st items).nx tgt tst elt n i acc S = .ok (acc ++ ((List.range (items.length - i)).map fun k => g (i + k))) S
  | 0, i, acc, h1, h2, h => by omega
  | n + 1, i, acc, h1, h2, h => by
    simp only [lcGo, Src.nx, R.bind_ok]
    rcases Nat.lt_or_ge i items.length with hi | hi
    · have hd : items[i]? = some items[i] := List.getElem?_eq_getElem hi
      obtain ⟨e, h3, h4, h5⟩ := step i _ hd
      simp only [hd, h3, h4, h5, R.bind_ok, if_true]
      rw [if_pos (by omega), lcGo_map g step hl n (i + 1) _ (by omega) (by omega) (by simp [h])]
      have : items.length - i = (items.length - (i + 1)) + 1 := by omega
      rw [this, List.range_succ_eq_map]
      simp [Function.comp_def, Nat.add_assoc, Nat.add_comm 1]
    · rw [List.getElem?_eq_none hi]
      have : items.length - i = 0 := by omega
      simp [this]
/-- a comprehension whose elements may draw -/
theorem lcGo_inv {items : List D} {tgt : D → Store → Option Env} {tst : Env → Store → R Bool} {elt : Env → Store → R D} (I : Nat → List D → Store → Prop)
    (step : ∀ i d acc S, items[i]? = some d → acc.length = i → I i acc S → ∃ e x S', tgt d S = some e ∧ tst e S = .ok true S ∧ elt e S = .ok x S' ∧ I (i + 1) (acc ++ [x]) S') (hl : items.length ≤ sizeLine) :
    ∀ n i acc S, i ≤ items.length → items.length < n + i → acc.length = i → I i acc S → ∃ ds S', lcGo (Src.st items).nx tgt tst elt n i acc S = .ok ds S' ∧ ds.length = items.length ∧ I items.length ds S'
  | 0, i, acc, S, h1, h2, h, hI => by omega
  | n + 1, i, acc, S, h1, h2, h, hI => by
    simp only [lcGo, Src.nx, R.bind_ok]
    rcases Nat.lt_or_ge i items.length with hi | hi
    · have hd : items[i]? = some items[i] := List.getElem?_eq_getElem hi
      obtain ⟨e, x, S', h3, h4, h5, h6⟩ := step i _ acc S hd h hI
      simp only [hd, h3, h4, h5, R.bind_ok, if_true]
      rw [if_pos (by omega)]
      exact lcGo_inv I step hl n (i + 1) _ _ (by omega) (by omega) (by simp [h]) h6
    · have : items.length = i := by omega
      rw [List.getElem?_eq_none hi]
      exact ⟨acc, S, rfl, by omega, this ▸ hI⟩
theorem wmax_lt {n : Nat} (h : n ≤ sizeLine) : n < wmax := Nat.lt_of_le_of_lt h (by decide)
theorem lc_map {F : Fn} {env : Env} {e : E} {t : Tg} {s : I} {c : Oe} {own : List Nat} {S S' : Store} {items : List D} (g : Nat → D)
    (hs : evI F env s S = .ok (.st items) S') (hl : items.length ≤ sizeLine)
    (step : ∀ i d, items[i]? = some d → ∃ e', asgT S' t d (wipeE env own) = some e' ∧ evOT F e' c S' = .ok true S' ∧ evE F e' e S' = .ok (g i) S') :
    evE F env (.lc e t s c own) S = .ok (.ref S'.length) (S' ++ [.lst ((List.range items.length).map g)]) := by
  rw [e_lc, hs, R.bind_ok, lcGo_map g step hl wmax 0 [] (Nat.zero_le _) (by have := wmax_lt hl; omega) rfl]
  simp [newL]
theorem lc_inv {F : Fn} {env : Env} {e : E} {t : Tg} {s : I} {c : Oe} {own : List Nat} {S S' : Store} {items : List D} (I : Nat → List D → Store → Prop)
    (hs : evI F env s S = .ok (.st items) S') (hl : items.length ≤ sizeLine) (h0 : I 0 [] S')
    (step : ∀ i d acc S, items[i]? = some d → acc.length = i → I i acc S → ∃ e' x S', asgT S t d (wipeE env own) = some e' ∧ evOT F e' c S = .ok true S ∧ evE F e' e S = .ok x S' ∧ I (i + 1) (acc ++ [x]) S') :
    ∃ ds S2, evE F env (.lc e t s c own) S = .ok (.ref S2.length) (S2 ++ [.lst ds]) ∧ ds.length = items.length ∧ I items.length ds S2 := by
  obtain ⟨ds, S2, h1, h2, h3⟩ := lcGo_inv I step hl wmax 0 [] S' (Nat.zero_le _) (by have := wmax_lt hl; omega) rfl h0
  refine ⟨ds, S2, ?_, h2, h3⟩
  rw [e_lc, hs, R.bind_ok, h1]
  rfl
@[simp] theorem rangeD_len (lo c : Int) (n : Nat) : (rangeD lo c n).length = n := by simp [rangeD]
@[simp] theorem rangeD_get (lo c : Int) (n i : Nat) : (rangeD lo c n)[i]? = if i < n then some (.int (lo + i * c)) else none := by
  simp only [rangeD, List.getElem?_map]
  split <;> rename_i h
  · simp [List.getElem?_range h]
  · simp [h]
/-! ### tuples of numbers -/
section tups
variable {S : Store}
@[simp] theorem len_tupI (xs : List Int) : opBlt .len [tupI xs] S = .ok (.int xs.length) S := by simp [opBlt, tupI, itemsOf]
@[simp] theorem tuple_tupI (xs : List Int) : opBlt .tuple [tupI xs] S = .ok (tupI xs) S := by simp [opBlt, tupI]
@[simp] theorem items_tupI (xs : List Int) : itemsOf S (tupI xs) = some (xs.map .int) := by simp [tupI, itemsOf]
theorem atI_nat {α : Type} (xs : List α) (k : Nat) (x : α) (h : xs[k]? = some x) : L2.atI xs (k : Int) = some x := by
  have hk : k < xs.length := by
    rcases Nat.lt_or_ge k xs.length with h1 | h1
    · exact h1
    · rw [List.getElem?_eq_none h1] at h; cases h
  simp [L2.atI, L2.ixN, hk]
  rw [List.getElem?_eq_getElem hk] at h
  exact Option.some.inj h
theorem ix_tupI {xs : List Int} {k : Nat} {x : Int} {i : Int} (hi : i = k) (h : xs[k]? = some x) : opIx (tupI xs) (.int i) S = .ok (.int x) S := by
  subst hi
  simp [opIx, dicOf, opIx0, tupI, itemsOf, atI_nat (xs.map D.int) k (.int x) (by simp [h])]
theorem sl_tupI (xs : List Int) (lo hi : Option Int) : opSl (tupI xs) lo hi S = .ok (tupI (cutD xs lo hi)) S := by
  simp [opSl, tupI, cutD, List.map_take, List.map_drop]
theorem cut_hi (xs : List Int) (k : Nat) : cutD xs none (some (k : Int)) = xs.take k := by
  simp only [cutD, HT.sIx_nat, HT.sIx_none, List.drop_zero, Nat.sub_zero]
  rw [List.take_eq_take_iff]
  omega
theorem cut_lo (xs : List Int) (k : Nat) : cutD xs (some (k : Int)) none = xs.drop k := by
  simp only [cutD, HT.sIx_nat, HT.sIx_none]
  rcases Nat.le_total k xs.length with h | h
  · rw [Nat.min_eq_left h, List.take_of_length_le (by simp)]
  · rw [Nat.min_eq_right h, List.drop_of_length_le (Nat.le_refl _), List.drop_of_length_le h]
    simp
theorem add_tupI (xs ys : List Int) (h : xs.length + ys.length ≤ sizeLine) : opBin .Add (tupI xs) (tupI ys) S = .ok (tupI (xs ++ ys)) S := by
  simp [opBin, tupI, h]
@[simp] theorem lt_tupI2 (xs ys : List Int) : opLt (tupI xs) (tupI ys) S = .ok (HT.lexLt xs ys) S := by
  simp [opLt, tupI]
theorem tupI_mk (xs : List Int) : D.tup (xs.map .int) = tupI xs := rfl
@[simp] theorem tupI_nil : D.tup [] = tupI [] := rfl
@[simp] theorem tupI_one (x : Int) : D.tup [.int x] = tupI [x] := rfl
end tups
/-! ### single operations -/
section ops
variable {S : Store}
@[simp] theorem b_add (i j : Int) : opBin .Add (.int i) (.int j) S = .ok (.int (i + j)) S := rfl
@[simp] theorem b_sub (i j : Int) : opBin .Sub (.int i) (.int j) S = .ok (.int (i - j)) S := rfl
@[simp] theorem b_mul (i j : Int) : opBin .Mult (.int i) (.int j) S = if mulOk i j then .ok (.int (i * j)) S else .stuck := rfl
@[simp] theorem b_fdiv (i j : Int) : opBin .FloorDiv (.int i) (.int j) S = if 0 < j ∧ j.natAbs.log2 < 9000 then .ok (.int (i / j)) S else .stuck := rfl
@[simp] theorem b_mod (i j : Int) : opBin .Mod (.int i) (.int j) S = if 0 < j then .ok (.int (i % j)) S else .stuck := rfl
@[simp] theorem b_pow (i j : Int) : opBin .Pow (.int i) (.int j) S = if powOk i j then .ok (.int (i ^ j.toNat)) S else .stuck := rfl
@[simp] theorem a_add (i j : Int) : opAug .Add (.int i) (.int j) S = .ok (.int (i + j)) S := rfl
@[simp] theorem a_sub (i j : Int) : opAug .Sub (.int i) (.int j) S = .ok (.int (i - j)) S := rfl
@[simp] theorem u_neg (i : Int) : opUn .USub (.int i) S = .ok (.int (-i)) S := rfl
@[simp] theorem c_eq (x y : D) : opCmp .Eq x y S = opEq x y S := rfl
@[simp] theorem c_ne (x y : D) : opCmp .NotEq x y S = (opEq x y S).map not := rfl
@[simp] theorem c_lt (i j : Int) : opCmp .Lt (.int i) (.int j) S = .ok (decide (i < j)) S := rfl
@[simp] theorem c_gt (i j : Int) : opCmp .Gt (.int i) (.int j) S = .ok (decide (j < i)) S := rfl
@[simp] theorem c_le (i j : Int) : opCmp .LtE (.int i) (.int j) S = .ok (decide (i ≤ j)) S := rfl
@[simp] theorem c_ge (i j : Int) : opCmp .GtE (.int i) (.int j) S = .ok (decide (j ≤ i)) S := rfl
@[simp] theorem c_ltT (xs ys : List Int) : opCmp .Lt (tupI xs) (tupI ys) S = .ok (HT.lexLt xs ys) S := lt_tupI2 xs ys
@[simp] theorem c_in (x y : D) : opCmp .In x y S = opIn x y S := rfl
@[simp] theorem c_nin (x y : D) : opCmp .NotIn x y S = (opIn x y S).map not := rfl
@[simp] theorem c_is (x y : D) : opCmp .Is x y S = opIs x y S := rfl
@[simp] theorem c_isn (x y : D) : opCmp .IsNot x y S = (opIs x y S).map not := rfl
@[simp] theorem is_nn : opIs .non .non S = .ok true S := rfl
@[simp] theorem is_tn (xs : List Int) : opIs (tupI xs) .non S = .ok false S := rfl
@[simp] theorem is_int (x : Int) : opIs (.int x) .non S = .ok false S := rfl
@[simp] theorem is_bn (x : Bool) : opIs (.bl x) .non S = .ok false S := rfl
@[simp] theorem is_sn (x : Str) : opIs (.str x) .non S = .ok false S := rfl
@[simp] theorem is_bb (x y : Bool) : opIs (.bl x) (.bl y) S = .ok (decide (x = y)) S := rfl
@[simp] theorem tru_b (b : Bool) : opTru (.bl b) S = .ok b S := rfl
@[simp] theorem f_int (i : Int) : opBlt .int [.int i] S = .ok (.int i) S := rfl
@[simp] theorem f_abs (i : Int) : opBlt .abs [.int i] S = .ok (.int (if i < 0 then -i else i)) S := rfl
@[simp] theorem f_gcd (i j : Int) : opBlt .gcd [.int i, .int j] S = .ok (.int ((Nat.gcd i.natAbs j.natAbs : Nat) : Int)) S := rfl
@[simp] theorem f_min3 (i j k : Int) : opBlt .min [.int i, .int j, .int k] S = .ok (.int (min3 i j k)) S := rfl
theorem f_sumT (xs : List Int) : opBlt .sum [tupI xs] S = .ok (.int xs.sum) S := by
  show (match ints? (xs.map D.int) with | some bs => .ok (.int bs.sum) S | none => .stuck : R D) = _
  rw [ints_ints]
@[simp] theorem f_lenr (n : Nat) : opBlt .len [.ref n] S = match itemsOf S (.ref n) with | some ds => .ok (.int ds.length) S | none => match dicOf S (.ref n) with | some kvs => .ok (.int kvs.length) S | none => .stuck := rfl
@[simp] theorem f_tupr (n : Nat) : opBlt .tuple [.ref n] S = match itemsOf S (.ref n) with | some ds => .ok (.tup ds) S | none => .stuck := rfl
@[simp] theorem f_allr (n : Nat) : opBlt .all [.ref n] S = match itemsOf S (.ref n) with
    | some ds => match bls? ds with | some bs => .ok (.bl (bs.all id)) S | none => .stuck
    | none => .stuck := by
  show (match D.ref n, itemsOf S (.ref n) with
    | .tup _, _ => .stuck
    | _, some ds => match bls? ds with | some bs => .ok (.bl (bs.all id)) S | none => .stuck
    | _, none => .stuck : R D) = _
  cases itemsOf S (.ref n) <;> rfl
@[simp] theorem f_anyr (n : Nat) : opBlt .any [.ref n] S = match itemsOf S (.ref n) with
    | some ds => match bls? ds with | some bs => .ok (.bl (bs.any id)) S | none => .stuck
    | none => .stuck := by
  show (match D.ref n, itemsOf S (.ref n) with
    | .tup _, _ => .stuck
    | _, some ds => match bls? ds with | some bs => .ok (.bl (bs.any id)) S | none => .stuck
    | _, none => .stuck : R D) = _
  cases itemsOf S (.ref n) <;> rfl
@[simp] theorem f_listT (xs : List Int) : opBlt .list [tupI xs] S = newL (xs.map .int) S := by simp [opBlt]
@[simp] theorem f_listr (n : Nat) : opBlt .list [.ref n] S = match itemsOf S (.ref n) with | some ds => newL ds S | none => .stuck := rfl
@[simp] theorem items_ref (n : Nat) : itemsOf S (.ref n) = match S[n]? with
    | some (.lst ds) => some ds
    | _ => none := rfl
@[simp] theorem items_tup (ds : List D) : itemsOf S (.tup ds) = some ds := rfl
@[simp] theorem items_rol (ds : List D) : itemsOf S (.rol ds) = some ds := rfl
@[simp] theorem ix_ref (n : Nat) (i : Int) : opIx (.ref n) (.int i) S = match S[n]? with
    | some (.lst ds) => (match L2.atI ds i with | some d => .ok d S | none => .stuck)
    | some (.dic kvs) => (match valD kvs (.inl i) with | some d => .ok d S | none => .stuck)
    | _ => .stuck := by
  simp only [opIx, dicOf, opIx0, itemsOf, D.key]
  rcases S[n]? with _ | c <;> first | rfl | (cases c <;> rfl)
@[simp] theorem newL_eq (ds : List D) : newL ds S = .ok (.ref S.length) (S ++ [.lst ds]) := rfl
@[simp] theorem slc_rol (ds : List D) (lo hi : Option Int) : opSl (.rol ds) lo hi S = newL (cutD ds lo hi) S := rfl
@[simp] theorem slc_ref (n : Nat) (lo hi : Option Int) : opSl (.ref n) lo hi S = match S[n]? with
    | some (.lst ds) => newL (cutD ds lo hi) S
    | _ => .stuck := rfl
@[simp] theorem set_ref (n : Nat) (k : Int) (v : D) : opSet (.ref n) (.int k) v S = match S[n]? with
    | some (.lst ds) => (match L2.ixN ds.length k with
      | some j => .ok () (S.set n (.lst (ds.set j v)))
      | none => .stuck)
    | some (.dic kvs) => if kvs.length < sizeLine then .ok () (S.set n (.dic (putD kvs (.inl k) v))) else .stuck
    | _ => .stuck := by
  simp only [opSet, dicOf, D.key]
  rcases S[n]? with _ | c <;> first | rfl | (cases c <;> rfl)
@[simp] theorem rcv_app (n : Nat) : rcvOk .append (.ref n) S = match S[n]? with
    | some (.lst _) => true
    | _ => false := rfl
@[simp] theorem rcv_pop (n : Nat) : rcvOk .pop (.ref n) S = match S[n]? with
    | some (.lst _) => true
    | _ => false := rfl
@[simp] theorem rcv_ext (n : Nat) : rcvOk .extend (.ref n) S = match S[n]? with
    | some (.lst _) => true
    | _ => false := rfl
@[simp] theorem rcv_join (a : Str) : rcvOk .join (.str a) S = true := rfl
@[simp] theorem rcv_split (a : Str) : rcvOk .split (.str a) S = true := rfl
@[simp] theorem rcv_partition (a : Str) : rcvOk .partition (.str a) S = true := rfl
@[simp] theorem rcv_startswith (a : Str) : rcvOk .startswith (.str a) S = true := rfl
@[simp] theorem m_app (n : Nat) (x : D) : opMth .append (.ref n) [x] S = match S[n]? with
    | some (.lst ds) => if ds.length < sizeLine then .ok .non (S.set n (.lst (ds ++ [x]))) else .stuck
    | _ => .stuck := by
  simp only [opMth]
  try (rcases S[n]? with _ | c <;> first | rfl | (cases c <;> rfl))
@[simp] theorem ty_non (t : Ty) : isTy .non t S = some false := rfl
@[simp] theorem ty_int (i : Int) (t : Ty) : isTy (.int i) t S = some (match t with | .int => true | _ => false) := by cases t <;> rfl
@[simp] theorem ty_bl (i : Bool) (t : Ty) : isTy (.bl i) t S = some (match t with | .bool => true | .int => true | _ => false) := by cases t <;> rfl
@[simp] theorem ty_str (i : Str) (t : Ty) : isTy (.str i) t S = some (match t with | .str => true | _ => false) := by cases t <;> rfl
@[simp] theorem ty_tup (i : List D) (t : Ty) : isTy (.tup i) t S = some (match t with | .tuple => true | _ => false) := by cases t <;> rfl
@[simp] theorem ty_tupI (i : List Int) (t : Ty) : isTy (tupI i) t S = some (match t with | .tuple => true | _ => false) := by cases t <;> rfl
end ops
end PD.PS
end

section
set_option linter.all false
/-! PDlaw: defs that many laws share (printed by gen.py from the linked texts). -/
namespace PD
open PySem
def d_is_below : Def := ⟨2, 2, (.cons (.iff (.cmp .NotEq (.blt .len (.cons (.slot 0) .nil)) (.blt .len (.cons (.slot 1) .nil))) (.cons (.ret (.cmp .Lt (.blt .len (.cons (.slot 0) .nil)) (.blt .len (.cons (.slot 1) .nil)))) .nil) .nil) (.cons (.ret (.cmp .Lt (.slot 0) (.slot 1))) .nil))⟩
def d_summed : Def := ⟨2, 3, (.cons (.iff (.cmp .Eq (.blt .len (.cons (.slot 1) .nil)) (.cst (.int 0))) (.cons (.ret (.slot 0)) .nil) .nil) (.cons (.iff (.cmp .Lt (.blt .len (.cons (.slot 0) .nil)) (.blt .len (.cons (.slot 1) .nil))) (.cons (.ret (.slot 1)) .nil) .nil) (.cons (.asg (.nm 2) (.bin .Sub (.blt .len (.cons (.slot 0) .nil)) (.blt .len (.cons (.slot 1) .nil)))) (.cons (.ret (.bin .Add (.bin .Add (.slc (.slot 0) .no (.so (.slot 2))) (.tup (.cons (.bin .Add (.ix (.slot 0) (.slot 2)) (.ix (.slot 1) (.cst (.int 0)))) .nil))) (.slc (.slot 1) (.so (.cst (.int 1))) .no))) .nil))))⟩
def d_left_over : Def := ⟨2, 3, (.cons (.iff (.call 1 (.cons (.slot 1) (.cons (.slot 0) .nil))) (.cons (.ret (.cst .non)) .nil) .nil) (.cons (.iff (.cmp .Lt (.blt .len (.cons (.slot 0) .nil)) (.blt .len (.cons (.slot 1) .nil))) (.cons (.ret (.slot 1)) .nil) .nil) (.cons (.asg (.nm 2) (.cst (.int 0))) (.cons (.whl (.and (.cmp .Lt (.slot 2) (.blt .len (.cons (.slot 0) .nil))) (.cmp .Eq (.ix (.slot 0) (.slot 2)) (.ix (.slot 1) (.slot 2)))) (.cons (.aug 2 .Add (.cst (.int 1))) .nil)) (.cons (.iff (.cmp .Eq (.slot 2) (.blt .len (.cons (.slot 0) .nil))) (.cons (.ret (.tup .nil)) .nil) .nil) (.cons (.ret (.bin .Add (.tup (.cons (.bin .Sub (.ix (.slot 1) (.slot 2)) (.ix (.slot 0) (.slot 2))) .nil)) (.slc (.slot 1) (.so (.bin .Add (.slot 2) (.cst (.int 1)))) .no))) .nil))))))⟩
def d_is_integer : Def := ⟨1, 1, (.cons (.ret (.and (.isi (.slot 0) .int) (.not (.isi (.slot 0) .bool)))) .nil)⟩
def d_is_between : Def := ⟨3, 3, (.cons (.ret (.and (.call 2 (.cons (.slot 0) .nil)) (.chn .LtE .LtE (.slot 1) (.slot 0) (.slot 2)))) .nil)⟩
def d_is_ordinal : Def := ⟨1, 2, (.cons (.iff (.or (.not (.isi (.slot 0) .tuple)) (.cmp .Gt (.blt .len (.cons (.slot 0) .nil)) (.cst (.int 16)))) (.cons (.ret (.cst (.bl false))) .nil) .nil) (.cons (.iff (.not (.blt .all (.cons (.lc (.call 3 (.cons (.slot 1) (.cons (.cst (.int 0)) (.cons (.cst (.int 9999999999999999999999999999999999999999)) .nil)))) (.nm 1) (.any (.slot 0)) .no [1]) .nil))) (.cons (.ret (.cst (.bl false))) .nil) .nil) (.cons (.ret (.or (.cmp .Eq (.blt .len (.cons (.slot 0) .nil)) (.cst (.int 0))) (.cmp .Gt (.ix (.slot 0) (.cst (.int 0))) (.cst (.int 0))))) .nil)))⟩
def d_need_ordinals : Def := ⟨1, 2, (.cons (.for_ (.nm 1) (.any (.slot 0)) (.cons (.iff (.not (.call 4 (.cons (.slot 1) .nil))) (.cons .nev .nil) .nil) .nil)) .nil)⟩
def d_bounded : Def := ⟨1, 2, (.cons (.iff (.cmp .Gt (.blt .len (.cons (.slot 0) .nil)) (.cst (.int 16))) (.cons .nev .nil) .nil) (.cons (.iff (.not (.blt .all (.cons (.lc (.cmp .LtE (.slot 1) (.cst (.int 9999999999999999999999999999999999999999))) (.nm 1) (.any (.slot 0)) .no [1]) .nil))) (.cons .nev .nil) .nil) (.cons (.ret (.slot 0)) .nil)))⟩
def d_plus : Def := ⟨2, 2, (.cons (.exp (.call 5 (.cons (.lst (.cons (.slot 0) (.cons (.slot 1) .nil))) .nil))) (.cons (.ret (.call 6 (.cons (.call 7 (.cons (.slot 0) (.cons (.slot 1) .nil))) .nil))) .nil))⟩
def d_rest : Def := ⟨2, 2, (.cons (.exp (.call 5 (.cons (.lst (.cons (.slot 0) (.cons (.slot 1) .nil))) .nil))) (.cons (.ret (.call 8 (.cons (.slot 0) (.cons (.slot 1) .nil)))) .nil))⟩
def d__law_hand : Def := ⟨1, 3, (.cons (.asg (.nm 1) (.lc (.blt .abs (.cons (.blt .int (.cons (.slot 2) .nil)) .nil)) (.nm 2) (.any (.slc (.slot 0) .no (.so (.cst (.int 63))))) .no [2])) (.cons (.ret (.lst (.cons (.slot 1) (.cons (.cst (.int 0)) (.cons (.cst (.int 0)) (.cons (.bin .Add (.cst (.int 31)) (.bin .Mult (.cst (.int 7)) (.blt .len (.cons (.slot 1) .nil)))) (.cons (.cst (.int 0)) .nil))))))) .nil))⟩
def d__law_draw : Def := ⟨2, 5, (.cons (.iff (.and (.cmp .Eq (.ix (.slot 0) (.cst (.int 2))) (.cst (.int 0))) (.cmp .Lt (.ix (.slot 0) (.cst (.int 1))) (.blt .len (.cons (.ix (.slot 0) (.cst (.int 0))) .nil)))) (.cons (.asg (.nm 3) (.ix (.ix (.slot 0) (.cst (.int 0))) (.ix (.slot 0) (.cst (.int 1))))) (.cons (.seti (.slot 0) (.cst (.int 1)) (.bin .Add (.ix (.slot 0) (.cst (.int 1))) (.cst (.int 1)))) (.cons (.seti (.slot 0) (.cst (.int 3)) (.bin .Mod (.blt .int (.cons (.bin .Add (.bin .Add (.bin .Mult (.ix (.slot 0) (.cst (.int 3))) (.cst (.int 48271))) (.slot 3)) (.cst (.int 11))) .nil)) (.cst (.int 2147483647)))) (.cons (.iff (.cmp .GtE (.slot 3) (.bin .Pow (.cst (.int 10)) (.cst (.int 18)))) (.cons (.seti (.slot 0) (.cst (.int 2)) (.slot 3)) .nil) .nil) .nil)))) .nil) (.cons (.iff (.cmp .Gt (.ix (.slot 0) (.cst (.int 2))) (.cst (.int 0))) (.cons (.asg (.nm 4) (.bin .Mod (.blt .int (.cons (.ix (.slot 0) (.cst (.int 2))) .nil)) (.slot 1))) (.cons (.seti (.slot 0) (.cst (.int 2)) (.bin .FloorDiv (.ix (.slot 0) (.cst (.int 2))) (.slot 1))) (.cons (.ret (.slot 4)) .nil))) .nil) (.cons (.seti (.slot 0) (.cst (.int 4)) (.bin .Add (.ix (.slot 0) (.cst (.int 4))) (.cst (.int 1)))) (.cons (.asg (.nm 2) (.bin .Mod (.blt .int (.cons (.bin .Mult (.blt .int (.cons (.bin .Add (.ix (.slot 0) (.cst (.int 3))) (.bin .Mult (.cst (.int 6007)) (.ix (.slot 0) (.cst (.int 4))))) .nil)) (.cst (.int 69621))) .nil)) (.cst (.int 2147483629)))) (.cons (.asg (.nm 2) (.bin .Mod (.blt .int (.cons (.bin .Mult (.slot 2) (.bin .Add (.bin .FloorDiv (.slot 2) (.cst (.int 1013))) (.cst (.int 48271)))) .nil)) (.cst (.int 2147483647)))) (.cons (.asg (.nm 2) (.bin .Mod (.blt .int (.cons (.bin .Mult (.slot 2) (.bin .Add (.bin .FloorDiv (.slot 2) (.cst (.int 2011))) (.cst (.int 16807)))) .nil)) (.cst (.int 2147483587)))) (.cons (.ret (.bin .Mod (.blt .int (.cons (.bin .FloorDiv (.slot 2) (.cst (.int 32))) .nil)) (.slot 1))) .nil)))))))⟩
def d__law_big : Def := ⟨2, 4, (.cons (.asg (.nm 2) (.cst (.int 0))) (.cons (.for_ (.nm 3) (.rng1 (.bin .Add (.cst (.int 1)) (.bin .FloorDiv (.blt .len (.cons (.blt .str (.cons (.slot 1) .nil)) .nil)) (.cst (.int 6))))) (.cons (.asg (.nm 2) (.bin .Add (.bin .Mult (.slot 2) (.bin .Pow (.cst (.int 10)) (.cst (.int 6)))) (.call 9 (.cons (.slot 0) (.cons (.bin .Pow (.cst (.int 10)) (.cst (.int 6))) .nil))))) .nil)) (.cons (.ret (.bin .Mod (.blt .int (.cons (.slot 2) .nil)) (.slot 1))) .nil)))⟩
def d__law_less : Def := ⟨2, 2, (.cons (.ret (.ife (.cmp .NotEq (.blt .len (.cons (.slot 0) .nil)) (.blt .len (.cons (.slot 1) .nil))) (.cmp .Lt (.blt .len (.cons (.slot 0) .nil)) (.blt .len (.cons (.slot 1) .nil))) (.cmp .Lt (.slot 0) (.slot 1)))) .nil)⟩
def d__law_trim : Def := ⟨1, 2, (.cons (.asg (.nm 1) (.blt .list (.cons (.slot 0) .nil))) (.cons (.whl (.and (.cmp .Gt (.blt .len (.cons (.slot 1) .nil)) (.cst (.int 0))) (.cmp .Eq (.ix (.slot 1) (.cst (.int 0))) (.cst (.int 0)))) (.cons (.asg (.nm 1) (.slc (.slot 1) (.so (.cst (.int 1))) .no)) .nil)) (.cons (.ret (.blt .tuple (.cons (.slot 1) .nil))) .nil)))⟩
def d__law_at_power : Def := ⟨2, 2, (.cons (.ret (.ife (.cmp .Lt (.slot 1) (.blt .len (.cons (.slot 0) .nil))) (.ix (.slot 0) (.bin .Sub (.bin .Sub (.blt .len (.cons (.slot 0) .nil)) (.cst (.int 1))) (.slot 1))) (.cst (.int 0)))) .nil)⟩
def d__law_made : Def := ⟨1, 2, (.cons (.ret (.call 10 (.cons (.lc (.ix (.slot 0) (.bin .Sub (.bin .Sub (.blt .len (.cons (.slot 0) .nil)) (.cst (.int 1))) (.slot 1))) (.nm 1) (.rng1 (.blt .len (.cons (.slot 0) .nil))) .no [1]) .nil))) .nil)⟩
def d__law_plus : Def := ⟨2, 5, (.cons (.iff (.cmp .Eq (.blt .len (.cons (.slot 1) .nil)) (.cst (.int 0))) (.cons (.ret (.slot 0)) .nil) .nil) (.cons (.asg (.nm 2) (.bin .Sub (.blt .len (.cons (.slot 1) .nil)) (.cst (.int 1)))) (.cons (.asg (.nm 3) (.lc (.call 11 (.cons (.slot 1) (.cons (.slot 4) .nil))) (.nm 4) (.rng1 (.slot 2)) .no [4])) (.cons (.exp (.mth .append (.slot 3) (.cons (.bin .Add (.call 11 (.cons (.slot 0) (.cons (.slot 2) .nil))) (.ix (.slot 1) (.cst (.int 0)))) .nil))) (.cons (.for_ (.nm 4) (.rng2 (.bin .Add (.slot 2) (.cst (.int 1))) (.blt .len (.cons (.slot 0) .nil))) (.cons (.exp (.mth .append (.slot 3) (.cons (.call 11 (.cons (.slot 0) (.cons (.slot 4) .nil))) .nil))) .nil)) (.cons (.ret (.call 12 (.cons (.slot 3) .nil))) .nil))))))⟩
def d__law_rest : Def := ⟨2, 7, (.cons (.iff (.call 13 (.cons (.slot 1) (.cons (.slot 0) .nil))) (.cons (.ret (.cst .non)) .nil) .nil) (.cons (.for_ (.nm 2) (.rng3 (.bin .Sub (.blt .len (.cons (.slot 1) .nil)) (.cst (.int 1))) (.un .USub (.cst (.int 1))) (-1)) (.cons (.asg (.tp (.cons (.nm 3) (.cons (.nm 4) .nil))) (.tup (.cons (.call 11 (.cons (.slot 0) (.cons (.slot 2) .nil))) (.cons (.call 11 (.cons (.slot 1) (.cons (.slot 2) .nil))) .nil)))) (.cons (.iff (.cmp .NotEq (.slot 3) (.slot 4)) (.cons (.asg (.nm 5) (.lc (.call 11 (.cons (.slot 1) (.cons (.slot 6) .nil))) (.nm 6) (.rng1 (.slot 2)) .no [6])) (.cons (.ret (.call 12 (.cons (.bin .Add (.slot 5) (.lst (.cons (.bin .Sub (.slot 4) (.slot 3)) .nil))) .nil))) .nil)) .nil) .nil))) (.cons (.ret (.tup .nil)) .nil)))⟩
def d__law_numbers : Def := ⟨3, 5, (.cons (.asg (.nm 3) (.lst .nil)) (.cons (.for_ (.nm 4) (.rng1 (.call 9 (.cons (.slot 0) (.cons (.bin .Add (.slot 1) (.cst (.int 1))) .nil)))) (.cons (.exp (.mth .append (.slot 3) (.cons (.ix (.lst (.cons (.cst (.int 0)) (.cons (.call 9 (.cons (.slot 0) (.cons (.cst (.int 4)) .nil))) (.cons (.bin .Add (.cst (.int 1)) (.call 9 (.cons (.slot 0) (.cons (.cst (.int 9)) .nil)))) (.cons (.call 14 (.cons (.slot 0) (.cons (.slot 2) .nil))) .nil))))) (.call 9 (.cons (.slot 0) (.cons (.cst (.int 4)) .nil)))) .nil))) .nil)) (.cons (.ret (.call 10 (.cons (.slot 3) .nil))) .nil)))⟩
def d__law_kept : Def := ⟨2, 3, (.cons (.iff (.or (.isi (.slot 1) .tuple) (.isi (.slot 1) .list)) (.cons (.iff (.or (.cmp .NotEq (.isi (.slot 0) .tuple) (.isi (.slot 1) .tuple)) (.cmp .NotEq (.isi (.slot 0) .list) (.isi (.slot 1) .list))) (.cons (.ret (.cst (.bl false))) .nil) .nil) (.cons (.ret (.and (.cmp .Eq (.blt .len (.cons (.slot 0) .nil)) (.blt .len (.cons (.slot 1) .nil))) (.blt .all (.cons (.lc (.call 15 (.cons (.ix (.slot 0) (.slot 2)) (.cons (.ix (.slot 1) (.slot 2)) .nil))) (.nm 2) (.rng1 (.blt .len (.cons (.slot 1) .nil))) .no [2]) .nil)))) .nil)) .nil) (.cons (.iff (.cmp .Is (.slot 1) (.cst .non)) (.cons (.ret (.cmp .Is (.slot 0) (.cst .non))) .nil) .nil) (.cons (.iff (.isi (.slot 1) .bool) (.cons (.ret (.ife (.slot 1) (.cmp .Is (.slot 0) (.cst (.bl true))) (.cmp .Is (.slot 0) (.cst (.bl false))))) .nil) .nil) (.cons (.iff (.isi (.slot 1) .int) (.cons (.ret (.and (.isi (.slot 0) .int) (.and (.not (.isi (.slot 0) .bool)) (.cmp .Eq (.slot 0) (.slot 1))))) .nil) .nil) (.cons (.ret (.and (.isi (.slot 0) .str) (.cmp .Eq (.slot 0) (.slot 1)))) .nil)))))⟩
end PD
end

section
set_option linter.all false
set_option maxRecDepth 100000
set_option maxHeartbeats 1000000
/-! PDhand: the hand from which the laws draw. -/
namespace PD.PS
open PySem
/-- a hand's state -/
structure Hs where
  sl : List Int
  cs : List Int
  i : Nat
  l : Int
  m : Int
  k : Int
def hS (h : Hs) (G : Store) : Store := .lst (h.sl.map .int) :: .lst (h.cs.map .int) :: .lst [.ref 1, .int h.i, .int h.l, .int h.m, .int h.k] :: G
@[simp] theorem hS_len (h : Hs) (G : Store) : (hS h G).length = G.length + 3 := rfl
@[simp] theorem hS_app (h : Hs) (G G' : Store) : hS h G ++ G' = hS h (G ++ G') := rfl
theorem hS_take (h : Hs) (G : Store) (n : Nat) : (hS h G).take (n + 3) = hS h (G.take n) := rfl
@[simp high] theorem hS_get (h : Hs) (G : Store) (n : Nat) : (hS h G)[n + 3]? = G[n]? := rfl
@[simp high] theorem hS_set (h : Hs) (G : Store) (n : Nat) (c : Cell) : (hS h G).set (n + 3) c = hS h (G.set n c) := rfl
@[simp high] theorem get_len (G G' : Store) (c : Cell) : (G ++ c :: G')[G.length]? = some c := by simp
@[simp high] theorem set_len (G G' : Store) (c x : Cell) : (G ++ c :: G').set G.length x = G ++ x :: G' := by
  rw [List.set_append_right _ _ (Nat.le_refl _)]
  simp
theorem gcS_hand (h h' : Hs) (G : Store) (d : D) : gcS (hS h G) d (hS h' G) = hS h' G := by
  unfold gcS
  split
  · exact List.take_of_length_le (by simp)
  · rfl
theorem gcS_hand2 (h h' : Hs) (G G' : Store) (d : D) : ∃ G2, gcS (hS h G) d (hS h' (G ++ G')) = hS h' (G ++ G2) := by
  unfold gcS
  split
  · exact ⟨[], by simp [hS_take]⟩
  · exact ⟨G', rfl⟩
theorem call_hand {T : Tab} {n f : Nat} {d : Def} {xs : List D} {h h' : Hs} {G G' : Store} {v : D} (hT : T f = some d) (hl : xs.length = d.np) (hr : exTs (callN T n) d.body (xs.map some ++ List.replicate (d.ns - xs.length) none) (hS h G) = .rt v (hS h' (G ++ G'))) : ∃ G2, callN T (n + 1) f xs (hS h G) = .ok v (hS h' (G ++ G2)) := by
  rw [call_rt hT hl hr]
  obtain ⟨G2, e⟩ := gcS_hand2 h h' G G' v
  exact ⟨G2, by rw [e]⟩
theorem call_hand0 {T : Tab} {n f : Nat} {d : Def} {xs : List D} {h h' : Hs} {G : Store} {v : D} (hT : T f = some d) (hl : xs.length = d.np) (hr : exTs (callN T n) d.body (xs.map some ++ List.replicate (d.ns - xs.length) none) (hS h G) = .rt v (hS h' G)) : callN T (n + 1) f xs (hS h G) = .ok v (hS h' G) := by
  rw [call_rt hT hl hr, gcS_hand]

theorem mulOk_r {i j : Int} (h : j.natAbs < 2 ^ 63) : mulOk i j = true := by simp [mulOk, h]
theorem mulOk_l {i j : Int} (h : i.natAbs < 2 ^ 63) : mulOk i j = true := by simp [mulOk, h]
theorem powOk_lit {i j : Int} (h : powOk i j = true) : powOk i j = true := h
theorem log2_lt {m : Int} (h : m < 10 ^ 50) (h0 : 0 < m) : m.natAbs.log2 < 9000 := by
  have : m.natAbs ≠ 0 := by omega
  rw [Nat.log2_lt this]
  have h1 : m.natAbs < 10 ^ 50 := by omega
  exact Nat.lt_trans h1 (by decide)

theorem mulOk_emod (x y k : Int) (h0 : 0 < k) (h1 : k < 9223372036854775808) : mulOk (x % k) y = true := by
  have h2 := Int.emod_nonneg x (by omega : k ≠ 0)
  have h3 := Int.emod_lt_of_pos x h0
  exact mulOk_l (by omega)
/-- what is mixed where nothing is left -/
def mixN (m k : Int) : Int :=
  let a := (m + 6007 * k) * 69621 % 2147483629
  let b := a * (a / 1013 + 48271) % 2147483647
  (b * (b / 2011 + 16807) % 2147483587) / 32
/-- the statements of draw behind the first one -/
def drawRest : Ts := match d__law_draw.body with
  | .cons _ r => r
  | .nil => .nil
theorem draw_rest {F : Fn} (h : Hs) (G : Store) (m : Int) (h0 : 0 < m) (h1 : m.natAbs.log2 < 9000) (a b c : Option D) :
    ∃ d h', 0 ≤ d ∧ d < m ∧ exTs F drawRest [some (.ref 2), some (.int m), a, b, c] (hS h G) = .rt (.int d) (hS h' G) := by
  by_cases hl : 0 < h.l
  · refine ⟨h.l % m, ⟨h.sl, h.cs, h.i, h.l / m, h.m, h.k⟩, Int.emod_nonneg _ (by omega), Int.emod_lt_of_pos _ h0, ?_⟩
    simp [drawRest, d__law_draw, hS, L2.atI, L2.ixN, hl, h0, h1]
  · refine ⟨mixN h.m (h.k + 1) % m, ⟨h.sl, h.cs, h.i, h.l, h.m, h.k + 1⟩, Int.emod_nonneg _ (by omega), Int.emod_lt_of_pos _ h0, ?_⟩
    have e1 : ∀ x : Int, mulOk x 69621 = true := fun x => mulOk_r (by decide)
    have e2 : ∀ x : Int, mulOk 6007 x = true := fun x => mulOk_l (by decide)
    simp [drawRest, d__law_draw, hS, L2.atI, L2.ixN, hl, h0, h1, e1, e2, mulOk_emod, mixN, (by decide : Nat.log2 1013 < 9000), (by decide : Nat.log2 2011 < 9000), (by decide : Nat.log2 32 < 9000)]
theorem draw_spec {T : Tab} (hT : T 9 = some d__law_draw) {n : Nat} (h : Hs) (G : Store) (m : Int) (h0 : 0 < m) (h1 : m < 10 ^ 50) :
    ∃ d h', 0 ≤ d ∧ d < m ∧ callN T (n + 1) 9 [.ref 2, .int m] (hS h G) = .ok (.int d) (hS h' G) := by
  have hl := log2_lt h1 h0
  have key : ∃ d h', 0 ≤ d ∧ d < m ∧ exTs (callN T n) d__law_draw.body [some (.ref 2), some (.int m), none, none, none] (hS h G) = .rt (.int d) (hS h' G) := by
    have e0 : d__law_draw.body = .cons (match d__law_draw.body with | .cons x _ => x | .nil => .pas) drawRest := rfl
    by_cases hz : h.l = 0 ∧ h.i < h.cs.length
    · obtain ⟨hz, hi⟩ := hz
      obtain ⟨sl, cs, i, l, mm, k⟩ := h
      simp only at hz hi
      subst hz
      obtain ⟨c, hc⟩ : ∃ c, cs[i] = c := ⟨_, rfl⟩
      by_cases hg : 1000000000000000000 ≤ c
      · obtain ⟨d, h', p1, p2, p3⟩ := draw_rest (F := callN T n) ⟨sl, cs, i + 1, c, (mm * 48271 + c + 11) % 2147483647, k⟩ G m h0 hl none (some (.int c)) none
        refine ⟨d, h', p1, p2, ?_⟩
        rw [e0, xs_cons, ← p3]
        have e1 : ∀ x : Int, mulOk x 48271 = true := fun x => mulOk_r (by decide)
        simp [d__law_draw, hS, L2.atI, L2.ixN, e1, hi, hc, hg, powOk, opEq_int]
      · obtain ⟨d, h', p1, p2, p3⟩ := draw_rest (F := callN T n) ⟨sl, cs, i + 1, 0, (mm * 48271 + c + 11) % 2147483647, k⟩ G m h0 hl none (some (.int c)) none
        refine ⟨d, h', p1, p2, ?_⟩
        rw [e0, xs_cons, ← p3]
        have e1 : ∀ x : Int, mulOk x 48271 = true := fun x => mulOk_r (by decide)
        simp [d__law_draw, hS, L2.atI, L2.ixN, e1, hi, hc, hg, powOk, opEq_int]
    · obtain ⟨d, h', p1, p2, p3⟩ := draw_rest (F := callN T n) h G m h0 hl none none none
      refine ⟨d, h', p1, p2, ?_⟩
      rw [e0, xs_cons, ← p3]
      by_cases hz1 : h.l = 0
      · have hz2 : ¬ h.i < h.cs.length := fun x => hz ⟨hz1, x⟩
        simp [d__law_draw, hS, L2.atI, L2.ixN, hz1, hz2]
      · simp [d__law_draw, hS, L2.atI, L2.ixN, hz1]
  obtain ⟨d, h', p1, p2, p3⟩ := key
  exact ⟨d, h', p1, p2, call_hand0 hT rfl p3⟩
end PD.PS
end

section
set_option linter.all false
set_option maxRecDepth 100000
set_option maxHeartbeats 1000000
/-! PDhand2: what the laws draw: great numbers, trimmed rows, ordinals. -/
namespace PD.PS
open PySem
theorem sat_thn {o : Out} {f : Env → Store → Out} {N N' : Env → Store → Prop} {Q : D → Store → Prop} (h : o.sat N Q) (hf : ∀ e S, N e S → (f e S).sat N' Q) : (o.thn f).sat N' Q := by
  cases o <;> simp only [Out.sat] at h
  · exact hf _ _ h
  · exact h
theorem sat_rt {o : Out} {Q : D → Store → Prop} (h : o.sat (fun _ _ => False) Q) : ∃ d S, o = .rt d S ∧ Q d S := by
  cases o <;> simp only [Out.sat] at h
  exact ⟨_, _, rfl, h⟩
theorem sat_rtI {o : Out} {N : Env → Store → Prop} {Q : D → Store → Prop} {d : D} {S : Store} (h : o = .rt d S) (hQ : Q d S) : o.sat N Q := by subst h; exact hQ
theorem sat_nxI {o : Out} {N : Env → Store → Prop} {Q : D → Store → Prop} {e : Env} {S : Store} (h : o = .nx e S) (hQ : N e S) : o.sat N Q := by subst h; exact hQ
theorem satB_nx {o : Out} {N B : Env → Store → Prop} {Q : D → Store → Prop} {e : Env} {S : Store} (h : o = .nx e S) (hQ : N e S) : o.satB N B Q := by subst h; exact hQ
theorem satB_rt {o : Out} {N B : Env → Store → Prop} {Q : D → Store → Prop} {d : D} {S : Store} (h : o = .rt d S) (hQ : Q d S) : o.satB N B Q := by subst h; exact hQ
theorem for_sat {F : Fn} {t : Tg} {s : I} {b : Ts} {env : Env} {S S' : Store} {items : List D} {N : Env → Store → Prop} {Q : D → Store → Prop}
    (hs : evI F env s S = .ok (.st items) S') (hl : items.length ≤ sizeLine) (I : Nat → Env → Store → Prop) (h0 : I 0 env S')
    (step : ∀ i d env S, items[i]? = some d → I i env S → ∃ env1, asgT S t d env = some env1 ∧ (exTs F b env1 S).satB (I (i + 1)) N Q)
    (fin : ∀ env S, I items.length env S → N env S) : (exT F (.for_ t s b) env S).sat N Q := by
  rw [x_for, hs, R.out_ok]
  exact forGo_st I N Q step fin wmax 0 env S' (Nat.zero_le _) (by have := wmax_lt hl; omega) h0
theorem whl_sat {F : Fn} {c : E} {b : Ts} {env : Env} {S : Store} {N : Env → Store → Prop} {Q : D → Store → Prop}
    (I : Nat → Env → Store → Prop) (m : Nat) (hm : m ≤ sizeLine) (h0 : I m env S)
    (step : ∀ m env S, I m env S → (∃ S', evT F env c S = .ok false S' ∧ N env S') ∨ (∃ S', evT F env c S = .ok true S' ∧ (exTs F b env S').satB (fun e S => ∃ m', m' < m ∧ I m' e S) N Q)) :
    (exT F (.whl c b) env S).sat N Q := by
  rw [x_whl]
  exact whlGo_sat I N Q step wmax m env S (wmax_lt hm) h0
theorem f_str (i : Int) (S : Store) (h : i.natAbs.log2 < 1920) : opBlt .str [.int i] S = .ok (.str (toString i)) S := by simp only [opBlt, h, if_true]
theorem f_lens (s : Str) (S : Store) (h : s.length ≤ sizeLine) : opBlt .len [.str s] S = .ok (.int s.length) S := by simp only [opBlt, h, if_true]
def lenStr (m : Int) : Nat := (toString m : Str).length
theorem rng_small (k : Nat) (h : k ≤ 16777216) : rngOk (k : Int) = true := by
  simp only [rngOk, Bool.and_eq_true, decide_eq_true_eq]
  omega
theorem six_ok : (0 : Int) < 6 ∧ (6 : Int).natAbs.log2 < 9000 := ⟨by decide, by decide⟩
theorem fdiv6 (x : Int) (S : Store) : opBin .FloorDiv (.int x) (.int 6) S = .ok (.int (x / 6)) S := by
  rw [b_fdiv, if_pos six_ok]
theorem rngE (k : Nat) (h : k ≤ 600) (S : Store) : (match D.int (1 + (k : Int) / 6) with
    | .int j => if rngOk j then .ok (.st (rangeD 0 1 j.toNat)) S else .stuck
    | _ => .stuck : R Src) = .ok (.st (rangeD 0 1 (1 + k / 6))) S := by
  have e2 : (1 + ((k : Nat) : Int) / 6) = ((1 + k / 6 : Nat) : Int) := by omega
  have e3 : rngOk ((1 + k / 6 : Nat) : Int) = true := rng_small _ (by omega)
  rw [e2]
  show (if rngOk ((1 + k / 6 : Nat) : Int) then _ else _) = _
  rw [e3, Int.toNat_natCast]
  rfl
theorem lenE (F : Fn) (m : Int) (S : Store) (h1 : m.natAbs.log2 < 1920) (s : Str) (hs : s = toString m) (hl2 : s.length ≤ sizeLine) : evE F [some (.ref 2), some (.int m), some (.int 0), none] (.bin .Add (.cst (.int 1)) (.bin .FloorDiv (.blt .len (.cons (.blt .str (.cons (.slot 1) .nil)) .nil)) (.cst (.int 6)))) S = .ok (.int (1 + (s.length : Int) / 6)) S := by
  simp only [e_bin, e_cst, e_blt, es_cons, es_nil, e_slot, List.getElem?_cons_succ, List.getElem?_cons_zero, R.bind_ok, f_str m _ h1, f_lens _ _ (hs ▸ hl2)]
  rw [← hs, fdiv6]
  rfl
theorem big_spec {T : Tab} (hT : T 9 = some d__law_draw) (hB : T 14 = some d__law_big) {n : Nat} (h : Hs) (G : Store) (m : Int) (h0 : 0 < m) (h1 : m.natAbs.log2 < 1920) (h2 : lenStr m ≤ 600) :
    ∃ d h', 0 ≤ d ∧ d < m ∧ callN T (n + 2) 14 [.ref 2, .int m] (hS h G) = .ok (.int d) (hS h' G) := by
  have key : (exTs (callN T (n + 1)) d__law_big.body [some (.ref 2), some (.int m), none, none] (hS h G)).sat (fun _ _ => False) (fun v S => ∃ d h', 0 ≤ d ∧ d < m ∧ v = .int d ∧ S = hS h' G) := by
    have hls : (toString m : Str).length ≤ sizeLine := Nat.le_trans h2 (by decide)
    simp only [d__law_big, xs_cons]
    simp only [x_asg, e_cst, R.out_ok, g_nm, List.set_cons_succ, List.set_cons_zero, Out.thn_nx]
    refine sat_thn (N := fun e S => ∃ f t h', e = [some (.ref 2), some (.int m), some (.int f), t] ∧ S = hS h' G)
      (for_sat (items := rangeD 0 1 (1 + lenStr m / 6)) (S' := hS h G) ?_ ?_ (fun _ e S => ∃ f t h', e = [some (.ref 2), some (.int m), some (.int f), t] ∧ S = hS h' G) ⟨0, none, h, rfl, rfl⟩ ?_ ?_) ?_
    · rw [i_rng1, lenE _ m _ h1 _ rfl hls, R.bind_ok]
      exact rngE _ h2 _
    · simp; unfold sizeLine; omega
    · rintro i d env S hd ⟨f, t, h', rfl, rfl⟩
      obtain ⟨x, h'', x0, x1, hx⟩ := draw_spec hT (n := n) h' G 1000000 (by decide) (by decide)
      refine ⟨_, g_nm _ _, satB_nx (e := _) (S := hS h'' G) ?_ ⟨f * 1000000 + x, some d, h'', rfl, rfl⟩⟩
      simp [powOk, mulOk_r, hx]
    · rintro env S ⟨f, t, h', rfl, rfl⟩
      exact ⟨f, t, h', rfl, rfl⟩
    · rintro env S ⟨f, t, h', rfl, rfl⟩
      refine sat_rtI (d := .int (f % m)) (S := hS h' G) ?_ ⟨f % m, h', Int.emod_nonneg _ (by omega), Int.emod_lt_of_pos _ h0, rfl, rfl⟩
      simp [h0]
  obtain ⟨v, S, e, d, h', p0, p1, rfl, rfl⟩ := sat_rt key
  exact ⟨d, h', p0, p1, call_hand0 hB rfl e⟩
/-- a row without noughts ahead -/
def trimI (xs : List Int) : List Int := xs.dropWhile (· == 0)
theorem trim_spec {T : Tab} (hT : T 10 = some d__law_trim) {n : Nat} (S : Store) (c : Nat) (xs : List Int) (hc : S[c]? = some (.lst (xs.map .int))) (hl : xs.length ≤ sizeLine) :
    callN T (n + 1) 10 [.ref c] S = .ok (tupI (trimI xs)) S := by
  have key : (exTs (callN T n) d__law_trim.body [some (.ref c), none] S).sat (fun _ _ => False) (fun v S' => v = tupI (trimI xs) ∧ ∃ G, S' = S ++ G) := by
    simp only [d__law_trim, xs_cons]
    simp only [x_asg, e_blt, es_cons, es_nil, e_slot, List.getElem?_cons_zero, R.bind_ok, f_listr, items_ref, hc, newL_eq, R.out_ok, g_nm, List.set_cons_succ, List.set_cons_zero, Out.thn_nx]
    refine sat_thn (N := fun e S' => ∃ r G, e = [some (.ref c), some (.ref r)] ∧ S' = S ++ G ∧ S'[r]? = some (.lst ((trimI xs).map .int)))
      (whl_sat (fun m e S' => ∃ r G ys, e = [some (.ref c), some (.ref r)] ∧ S' = S ++ G ∧ S'[r]? = some (.lst (List.map .int ys)) ∧ ys.length = m ∧ trimI ys = trimI xs) xs.length hl ⟨S.length, _, xs, rfl, rfl, by simp, rfl, rfl⟩ ?_) ?_
    · rintro m env S' ⟨r, G, ys, rfl, rfl, hr, rfl, ht⟩
      cases ys with
      | nil =>
        left
        refine ⟨S ++ G, ?_, r, G, rfl, rfl, ?_⟩
        · simp [hr]
        · rw [hr, ← ht]; rfl
      | cons y ys =>
        by_cases hy : y = 0
        · right
          subst hy
          refine ⟨S ++ G, by simp [hr, L2.atI, L2.ixN], satB_nx (e := [some (.ref c), some (.ref (S ++ G).length)]) (S := S ++ G ++ [.lst (ys.map .int)]) ?_ ⟨ys.length, by simp, (S ++ G).length, G ++ [.lst (ys.map .int)], ys, rfl, by simp, by simp, rfl, ?_⟩⟩
          · simp [hr, cutD, HT.sIx, List.take_of_length_le]
          · rw [← ht]; simp [trimI]
        · left
          refine ⟨S ++ G, by simp [hr, L2.atI, L2.ixN, hy], r, G, rfl, rfl, ?_⟩
          rw [hr, ← ht]
          simp [trimI, hy]
    · rintro env S' ⟨r, G, rfl, rfl, hr⟩
      refine sat_rtI (d := tupI (trimI xs)) (S := S ++ G) ?_ ⟨rfl, G, rfl⟩
      simp [hr, tupI]
  obtain ⟨v, S', e, rfl, G, rfl⟩ := sat_rt key
  exact call_pure hT rfl (lt_tupI _ _) e
end PD.PS
end

section
set_option linter.all false
set_option maxRecDepth 100000
set_option maxHeartbeats 1000000
/-! PDhand3: drawn ordinals. -/
namespace PD.PS
open PySem
@[simp high] theorem get_len2 (G G' G2 : Store) (a c : Cell) : (G ++ a :: (G' ++ c :: G2))[G.length + (G'.length + 1)]? = some c := by
  rw [List.getElem?_append_right (by omega)]
  simp
theorem rng1_sat {F : Fn} {env : Env} {e : E} {S S' : Store} {k : Int} (h : evE F env e S = .ok (.int k) S') (hk : k ≤ 16777216) (h0 : -16777216 ≤ k) : evI F env (.rng1 e) S = .ok (.st (rangeD 0 1 k.toNat)) S' := by
  rw [i_rng1, h, R.bind_ok]
  show (if rngOk k then _ else _) = _
  rw [show rngOk k = true by simp only [rngOk, Bool.and_eq_true, decide_eq_true_eq]; omega]
  rfl
/-- no nought ahead -/
def noNought (xs : List Int) : Prop := xs.head? ≠ some 0
theorem trimI_ok : ∀ xs : List Int, noNought (trimI xs)
  | [] => by simp [trimI, noNought]
  | x :: xs => by
    by_cases h : x = 0
    · subst h; simpa [trimI] using trimI_ok xs
    · simp [trimI, noNought, h]
theorem trimI_mem {xs : List Int} {x : Int} (h : x ∈ trimI xs) : x ∈ xs := (List.dropWhile_sublist _).subset h
theorem trimI_len (xs : List Int) : (trimI xs).length ≤ xs.length := (List.dropWhile_sublist _).length_le
theorem trimI_id : ∀ {xs : List Int}, noNought xs → trimI xs = xs
  | [], _ => rfl
  | x :: xs, h => by
    have : x ≠ 0 := fun e => h (by simp [e])
    simp [trimI, this]
theorem numbers_spec {T : Tab} (hT : T 9 = some d__law_draw) (hB : T 14 = some d__law_big) (hR : T 10 = some d__law_trim) (hN : T 17 = some d__law_numbers) {n : Nat} (h : Hs) (G : Store) (many great B : Int)
    (m0 : 0 ≤ many) (m1 : many ≤ 1000) (g0 : 0 < great) (g1 : great.natAbs.log2 < 1920) (g2 : lenStr great ≤ 600) (hb : great ≤ B) (hb2 : 10 ≤ B) :
    ∃ xs h' G', (xs.length : Int) ≤ many ∧ noNought xs ∧ (∀ x ∈ xs, 0 ≤ x ∧ x < B) ∧ callN T (n + 3) 17 [.ref 2, .int many, .int great] (hS h G) = .ok (tupI xs) (hS h' (G ++ G')) := by
  obtain ⟨k, h1, k0, k1, hk⟩ := draw_spec hT (n := n + 1) h (G ++ [.lst []]) (many + 1) (by omega) (by omega)
  have key : (exTs (callN T (n + 2)) d__law_numbers.body [some (.ref 2), some (.int many), some (.int great), none, none] (hS h G)).sat (fun _ _ => False) (fun v S => ∃ xs h' G', (xs.length : Int) ≤ many ∧ noNought xs ∧ (∀ x ∈ xs, 0 ≤ x ∧ x < B) ∧ v = tupI xs ∧ S = hS h' (G ++ G')) := by
    simp only [d__law_numbers, xs_cons]
    simp only [x_asg, e_lst, es_nil, R.bind_ok, newL_eq, R.out_ok, g_nm, List.set_cons_succ, List.set_cons_zero, Out.thn_nx, List.length_nil, Nat.zero_le, if_true, hS_len, hS_app]
    refine sat_thn (N := fun e S => ∃ (fs : List Int) (t : Option D) (h' : Hs) (G' : Store), e = [some (.ref 2), some (.int many), some (.int great), some (.ref (G.length + 3)), t] ∧ S = hS h' (G ++ .lst (fs.map .int) :: G') ∧ (fs.length : Int) ≤ many ∧ ∀ x ∈ fs, 0 ≤ x ∧ x < B)
      (for_sat (items := rangeD 0 1 k.toNat) (S' := hS h1 (G ++ [.lst []])) (rng1_sat ?_ (by omega) (by omega)) (by simp; unfold sizeLine; omega) (fun i e S => ∃ (fs : List Int) (t : Option D) (h' : Hs) (G' : Store), e = [some (.ref 2), some (.int many), some (.int great), some (.ref (G.length + 3)), t] ∧ S = hS h' (G ++ .lst (List.map .int fs) :: G') ∧ fs.length = i ∧ ∀ x ∈ fs, 0 ≤ x ∧ x < B) ⟨[], none, h1, [], rfl, rfl, rfl, by simp⟩ ?_ ?_) ?_
    · simp [hk]
    · rintro i d env S hd ⟨fs, t, h', G', rfl, rfl, hl, hx⟩
      have hi : i < k.toNat := by
        simp at hd; omega
      obtain ⟨d1, h2, a0, a1, e1⟩ := draw_spec hT (n := n + 1) h' (G ++ .lst (fs.map .int) :: G') 4 (by decide) (by decide)
      obtain ⟨d2, h3, b0, b1, e2⟩ := draw_spec hT (n := n + 1) h2 (G ++ .lst (fs.map .int) :: G') 9 (by decide) (by decide)
      obtain ⟨d3, h4, c0, c1, e3⟩ := big_spec hT hB (n := n) h3 (G ++ .lst (fs.map .int) :: G') great g0 g1 g2
      obtain ⟨d4, h5, f0, f1, e4⟩ := draw_spec hT (n := n + 1) h4 (G ++ .lst (fs.map .int) :: (G' ++ [.lst [.int 0, .int d1, .int (1 + d2), .int d3]])) 4 (by decide) (by decide)
      have hsz : fs.length < 16777216 := by omega
      obtain ⟨y, hy, hy0, hy1⟩ : ∃ y, L2.atI [D.int 0, .int d1, .int (1 + d2), .int d3] d4 = some (.int y) ∧ 0 ≤ y ∧ y < B := by
        rcases (by omega : d4 = 0 ∨ d4 = 1 ∨ d4 = 2 ∨ d4 = 3) with rfl | rfl | rfl | rfl
        · exact ⟨0, by simp [L2.atI, L2.ixN], by omega, by omega⟩
        · exact ⟨d1, by simp [L2.atI, L2.ixN], by omega, by omega⟩
        · exact ⟨1 + d2, by simp [L2.atI, L2.ixN], by omega, by omega⟩
        · exact ⟨d3, by simp [L2.atI, L2.ixN], by omega, by omega⟩
      refine ⟨_, g_nm _ _, satB_nx (e := [some (.ref 2), some (.int many), some (.int great), some (.ref (G.length + 3)), some d]) (S := hS h5 (G ++ .lst ((fs ++ [y]).map .int) :: (G' ++ [.lst [.int 0, .int d1, .int (1 + d2), .int d3]]))) ?_ ⟨fs ++ [y], some d, h5, _, rfl, rfl, by simp [hl], ?_⟩⟩
      · simp [e1, e2, e3, e4, hy, hsz, sizeLine]
      · intro x hx'
        simp at hx'
        rcases hx' with hx' | rfl
        · exact hx x hx'
        · exact ⟨hy0, hy1⟩
    · rintro env S ⟨fs, t, h', G', rfl, rfl, hl, hx⟩
      refine ⟨fs, t, h', G', rfl, rfl, ?_, hx⟩
      simp at hl
      omega
    · rintro env S ⟨fs, t, h', G', rfl, rfl, hl, hx⟩
      have ht := trim_spec hR (n := n + 1) (hS h' (G ++ .lst (fs.map .int) :: G')) (G.length + 3) fs (by simp) (by unfold sizeLine; omega)
      refine sat_rtI (d := tupI (trimI fs)) (S := hS h' (G ++ .lst (fs.map .int) :: G')) ?_ ⟨trimI fs, h', _, ?_, trimI_ok _, fun x hx' => hx x (trimI_mem hx'), rfl, rfl⟩
      · simp [ht]
      · have := trimI_len fs
        omega
  obtain ⟨v, S, e, xs, h', G', p1, p2, p3, rfl, rfl⟩ := sat_rt key
  obtain ⟨G2, e2⟩ := call_hand (xs := [.ref 2, .int many, .int great]) hN rfl e
  exact ⟨xs, h', G2, p1, p2, p3, e2⟩
end PD.PS
end

section
set_option linter.all false
set_option maxRecDepth 100000
set_option maxHeartbeats 1000000
/-! PDord: ordinals as rows of numbers; plain laws. -/
namespace PD.PS
open PySem
/-- the number of a power -/
def cO (xs : List Int) (e : Nat) : Int := xs.reverse.getD e 0
def lessO (xs ys : List Int) : Bool := if xs.length ≠ ys.length then decide (xs.length < ys.length) else HT.lexLt xs ys
def sumO (xs ys : List Int) : List Int :=
  match ys with
  | [] => xs
  | y :: t => if xs.length < ys.length then ys else xs.take (xs.length - ys.length) ++ ((xs.getD (xs.length - ys.length) 0 + y) :: t)
def diffO : List Int → List Int → List Int
  | x :: xs, y :: ys => if x = y then diffO xs ys else (y - x) :: ys
  | _, _ => []
def restO (xs ys : List Int) : Option (List Int) := if lessO ys xs then none else if xs.length < ys.length then some ys else some (diffO xs ys)
def optD : Option (List Int) → D
  | none => .non
  | some xs => tupI xs
@[simp] theorem sumO_nil (xs : List Int) : sumO xs [] = xs := rfl
theorem sumO_lt {xs ys : List Int} (h : xs.length < ys.length) : sumO xs ys = ys := by
  cases ys with
  | nil => simp at h
  | cons y t => simp [sumO] at *; intro h'; omega
theorem sumO_dec (xs1 xs2 t : List Int) (x y : Int) (h : xs2.length = t.length) : sumO (xs1 ++ x :: xs2) (y :: t) = xs1 ++ (x + y) :: t := by
  have e : (xs1 ++ x :: xs2).length - (y :: t).length = xs1.length := by simp; omega
  simp only [sumO, e]
  rw [if_neg (by simp; omega)]
  simp
theorem dec_at {xs : List Int} {c : Nat} (h : c < xs.length) : ∃ xs1 x xs2, xs = xs1 ++ x :: xs2 ∧ xs2.length = c := by
  refine ⟨xs.take (xs.length - 1 - c), xs[xs.length - 1 - c], xs.drop (xs.length - 1 - c + 1), ?_, by simp; omega⟩
  simp
theorem sumO_len (xs ys : List Int) : (sumO xs ys).length = max xs.length ys.length := by
  cases ys with
  | nil => simp
  | cons y t =>
    rcases Nat.lt_or_ge xs.length (y :: t).length with h | h
    · rw [sumO_lt h]; omega
    · obtain ⟨a, x, b, rfl, hb⟩ := dec_at (xs := xs) (c := t.length) (by simp at h; omega)
      rw [sumO_dec _ _ _ _ _ hb]
      simp; omega
theorem sumO_assoc (xs ys zs : List Int) : sumO (sumO xs ys) zs = sumO xs (sumO ys zs) := by
  cases zs with
  | nil => simp
  | cons z zt =>
    cases ys with
    | nil =>
      simp only [sumO_nil]
      rw [sumO_lt (xs := []) (ys := z :: zt) (by simp)]
    | cons y yt =>
      rcases Nat.lt_or_ge xs.length (y :: yt).length with h1 | h1
      · rw [sumO_lt h1, sumO_lt (xs := xs) (ys := sumO (y :: yt) (z :: zt))]
        rw [sumO_len]; omega
      · obtain ⟨a, x, b, rfl, hb⟩ := dec_at (xs := xs) (c := yt.length) (by simp at h1; omega)
        rw [sumO_dec _ _ _ _ _ hb]
        rcases Nat.lt_or_ge (y :: yt).length (z :: zt).length with h2 | h2
        · rw [sumO_lt h2]
          rcases Nat.lt_or_ge (a ++ x :: b).length (z :: zt).length with h3 | h3
          · rw [sumO_lt h3, sumO_lt]
            simp at *; omega
          · obtain ⟨c, w, d, e, hd⟩ := dec_at (xs := a) (c := zt.length - b.length - 1) (by simp at h2 h3; omega)
            subst e
            have e1 : c ++ w :: d ++ x :: b = c ++ w :: (d ++ x :: b) := by simp
            have e2 : c ++ w :: d ++ (x + y) :: yt = c ++ w :: (d ++ (x + y) :: yt) := by simp
            rw [e1, e2, sumO_dec, sumO_dec] <;> simp at * <;> omega
        · rcases Nat.eq_or_lt_of_le h2 with h3 | h3
          · have e1 : sumO (y :: yt) (z :: zt) = (y + z) :: zt := sumO_dec [] yt zt y z (by simp at h3; omega)
            rw [e1, sumO_dec, sumO_dec, Int.add_assoc] <;> simp at * <;> omega
          · obtain ⟨c, w, d, e, hd⟩ := dec_at (xs := yt) (c := zt.length) (by simp at h3; omega)
            subst e
            have e1 : sumO (y :: (c ++ w :: d)) (z :: zt) = y :: (c ++ (w + z) :: zt) := sumO_dec (y :: c) d zt w z hd
            have e2 : a ++ (x + y) :: (c ++ w :: d) = (a ++ (x + y) :: c) ++ w :: d := by simp
            rw [e1, e2, sumO_dec _ _ _ _ _ hd, sumO_dec]
            · simp
            · simp at *; omega
theorem lexLt_irr : ∀ xs : List Int, HT.lexLt xs xs = false
  | [] => by simp [HT.lexLt]
  | x :: xs => by simp [HT.lexLt, lexLt_irr xs]
theorem diffO_self : ∀ xs : List Int, diffO xs xs = []
  | [] => rfl
  | x :: xs => by simp [diffO, diffO_self xs]
theorem diffO_app (a t b : List Int) (x y : Int) (h : x ≠ y) : diffO (a ++ x :: b) (a ++ y :: t) = (y - x) :: t := by
  induction a with
  | nil => simp [diffO, h]
  | cons c a ih => simp [diffO, ih]
theorem lexLt_app (a t b : List Int) (x y : Int) (h : x < y) : HT.lexLt (a ++ y :: t) (a ++ x :: b) = false := by
  induction a with
  | nil => simp [HT.lexLt, show ¬ y < x by omega, show ¬ y = x by omega, show x < y by omega]
  | cons c a ih => simp [HT.lexLt, ih]
theorem restO_sumO (xs zs : List Int) (h : noNought zs) (h0 : ∀ z ∈ zs, 0 ≤ z) : restO xs (sumO xs zs) = some zs := by
  cases zs with
  | nil => simp [restO, lessO, lexLt_irr, diffO_self]
  | cons z t =>
    have hz : 0 < z := by
      have h1 := h0 z (by simp)
      have h2 : z ≠ 0 := fun e => h (by simp [e])
      omega
    rcases Nat.lt_or_ge xs.length (z :: t).length with h1 | h1
    · rw [sumO_lt h1]
      have h2 : ¬ (z :: t).length < xs.length := by omega
      simp [restO, lessO] at *
      simp [show ¬ (t.length + 1 = xs.length) by omega, h2, h1]
      omega
    · obtain ⟨a, x, b, rfl, hb⟩ := dec_at (xs := xs) (c := t.length) (by simp at h1; omega)
      rw [sumO_dec _ _ _ _ _ hb]
      have e := diffO_app a t b x (x + z) (by omega)
      have e2 := lexLt_app a t b x (x + z) (by omega)
      have e3 : x + z - x = z := by omega
      simp [restO, lessO, hb, e, e2, e3]
theorem sumO_mem {xs ys : List Int} {B C : Int} (hx : ∀ x ∈ xs, 0 ≤ x ∧ x < B) (hy : ∀ x ∈ ys, 0 ≤ x ∧ x < C) (hB : 0 ≤ B) (hC : 0 ≤ C) : ∀ x ∈ sumO xs ys, 0 ≤ x ∧ x < B + C := by
  cases ys with
  | nil => intro x h; have := hx x h; omega
  | cons y t =>
    rcases Nat.lt_or_ge xs.length (y :: t).length with h1 | h1
    · rw [sumO_lt h1]; intro x h; have := hy x h; omega
    · obtain ⟨a, x, b, rfl, hb⟩ := dec_at (xs := xs) (c := t.length) (by simp at h1; omega)
      rw [sumO_dec _ _ _ _ _ hb]
      intro w hw
      have h2 := hx x (by simp)
      have h3 := hy y (by simp)
      simp at hw
      rcases hw with hw | rfl | hw
      · have := hx w (by simp [hw]); omega
      · omega
      · have := hy w (by simp [hw]); omega
theorem sumO_head {xs ys : List Int} (hx : noNought xs) (hy : noNought ys) (h0 : ∀ x ∈ xs, 0 ≤ x) (h1 : ∀ x ∈ ys, 0 ≤ x) : noNought (sumO xs ys) := by
  cases ys with
  | nil => exact hx
  | cons y t =>
    rcases Nat.lt_or_ge xs.length (y :: t).length with h2 | h2
    · rw [sumO_lt h2]; exact hy
    · obtain ⟨a, x, b, rfl, hb⟩ := dec_at (xs := xs) (c := t.length) (by simp at h2; omega)
      rw [sumO_dec _ _ _ _ _ hb]
      cases a with
      | nil =>
        have h3 := h0 x (by simp)
        have h4 := h1 y (by simp)
        have h5 : y ≠ 0 := fun e => hy (by simp [e])
        simp [noNought]; omega
      | cons c a => simpa [noNought] using hx
end PD.PS
end

section
set_option linter.all false
set_option maxRecDepth 100000
set_option maxHeartbeats 1000000
/-! PDord2: what the program's and the laws' functions of ordinals compute. -/
namespace PD.PS
open PySem
theorem call_pure0 {T : Tab} {n f : Nat} {d : Def} {xs : List D} {S : Store} {v : D} (hT : T f = some d) (hl : xs.length = d.np) (h : exTs (callN T n) d.body (xs.map some ++ List.replicate (d.ns - xs.length) none) S = .rt v S) : callN T (n + 1) f xs S = .ok v S := by
  rw [call_rt hT hl h, gcS_self]
@[simp] theorem lt_bl (n : Nat) (b : Bool) : D.lt n (.bl b) = true := rfl
@[simp] theorem lt_int (n : Nat) (b : Int) : D.lt n (.int b) = true := rfl
@[simp] theorem lt_non (n : Nat) : D.lt n .non = true := rfl
@[simp] theorem get_end (S : Store) (c : Cell) (G : Store) : (S ++ c :: G)[S.length]? = some c := by simp
section
variable {T : Tab} {n : Nat} {S : Store}
theorem is_below_spec (hT : T 1 = some d_is_below) (xs ys : List Int) : callN T (n + 1) 1 [tupI xs, tupI ys] S = .ok (.bl (lessO xs ys)) S := by
  apply call_pure0 hT rfl
  by_cases h : xs.length = ys.length
  · simp [d_is_below, lessO, h]
  · have h2 : ¬ ((xs.length : Int) = ys.length) := by omega
    simp [d_is_below, lessO, h, h2]
theorem law_less_spec (hT : T 13 = some d__law_less) (xs ys : List Int) : callN T (n + 1) 13 [tupI xs, tupI ys] S = .ok (.bl (lessO xs ys)) S := by
  apply call_pure0 hT rfl
  by_cases h : xs.length = ys.length
  · simp [d__law_less, lessO, h]
  · have h2 : ¬ ((xs.length : Int) = ys.length) := by omega
    simp [d__law_less, lessO, h, h2]
theorem is_integer_int (hT : T 2 = some d_is_integer) (x : Int) : callN T (n + 1) 2 [.int x] S = .ok (.bl true) S := by
  apply call_pure0 hT rfl
  simp [d_is_integer]
theorem is_between_int (hT2 : T 2 = some d_is_integer) (hT : T 3 = some d_is_between) (x a b : Int) : callN T (n + 2) 3 [.int x, .int a, .int b] S = .ok (.bl (decide (a ≤ x) && decide (x ≤ b))) S := by
  apply call_pure0 hT rfl
  by_cases h : a ≤ x <;> simp [d_is_between, is_integer_int hT2, h]
/-- an ordinal -/
def OrdP (xs : List Int) : Prop := xs.length ≤ 16 ∧ noNought xs ∧ ∀ x ∈ xs, 0 ≤ x ∧ x < 10 ^ 40
theorem map_const_range {α : Type} (k : Nat) (x : α) : (List.range k).map (fun _ => x) = List.replicate k x := by
  rw [List.map_const', List.length_range]
theorem all_map_true (k : Nat) (g : Nat → Bool) (h : ∀ i, i < k → g i = true) : ((List.range k).map g).all id = true := by
  simp; exact h
theorem is_ordinal_ok (hT2 : T 2 = some d_is_integer) (hT3 : T 3 = some d_is_between) (hT : T 4 = some d_is_ordinal) (xs : List Int) (h : OrdP xs) : callN T (n + 3) 4 [tupI xs] S = .ok (.bl true) S := by
  obtain ⟨h1, h2, h3⟩ := h
  apply call_pure hT rfl (lt_bl _ _) (G := [.lst (List.map D.bl (List.replicate xs.length true))])
  have e1 : ¬ (16 < (xs.length : Int)) := by omega
  simp only [d_is_ordinal, xs_cons, x_iff, t_or, t_not, t_isi, t_cmp, e_slot, e_blt, es_cons, es_nil, e_cst, List.map_cons, List.map_nil, List.cons_append, List.nil_append, List.getElem?_cons_zero, R.bind_ok, ty_tupI, len_tupI, c_gt, e1, decide_false, R.map_ok, Bool.not_true, Bool.false_eq_true, if_false, R.out_ok, xs_nil, Out.thn_nx, t_blt]
  rw [lc_map (items := xs.map .int) (S' := S) (fun i => .bl true) (by simp [tupI]) (by simp; unfold sizeLine; omega) ?_]
  · have : xs = [] ∨ ∃ x t, xs = x :: t := by cases xs <;> simp
    rcases this with rfl | ⟨x, t, rfl⟩
    · simp [bls?]
    · have hx := h3 x (by simp)
      have hx2 : x ≠ 0 := fun e => h2 (by simp [e])
      have hx3 : 0 < x := by omega
      have e5 : (List.range (t.length + 1)).map (fun _ => D.bl true) = (List.replicate (t.length + 1) true).map D.bl := by rw [map_const_range, List.map_replicate]
      have e4 := ix_tupI (S := S ++ [.lst (List.map D.bl (List.replicate (t.length + 1) true))]) (xs := x :: t) (k := 0) (x := x) (i := 0) rfl rfl
      simp only [List.length_map, List.length_cons, e5]
      have e6 : ¬ ((t.length : Int) + 1 = 0) := by omega
      simp [e4, e6, hx3, -List.map_replicate]
  · intro i d hd
    obtain ⟨x, hx, rfl⟩ : ∃ x, xs[i]? = some x ∧ d = .int x := by
      simp at hd; obtain ⟨x, a, b⟩ := hd; exact ⟨x, a, b.symm⟩
    have := h3 x (List.mem_of_getElem? hx)
    refine ⟨_, g_nm _ _, by simp, ?_⟩
    simp [wipeE, is_between_int hT2 hT3, this.1]
    omega
theorem need_ordinals_ok (hT2 : T 2 = some d_is_integer) (hT3 : T 3 = some d_is_between) (hT4 : T 4 = some d_is_ordinal) (hT : T 5 = some d_need_ordinals) (c : Nat) (os : List (List Int)) (hc : S[c]? = some (.lst (os.map tupI))) (hl : os.length ≤ 1000) (h : ∀ o ∈ os, OrdP o) : callN T (n + 4) 5 [.ref c] S = .ok .non S := by
  have key : (exTs (callN T (n + 3)) d_need_ordinals.body [some (.ref c), none] S).sat (fun e S' => S' = S) (fun _ _ => False) := by
    simp only [d_need_ordinals, xs_cons]
    refine sat_thn (N := fun e S' => S' = S) ?_ (fun e S' h => by simpa [Out.sat] using h)
    rw [x_for, i_any, e_slot]
    simp only [List.getElem?_cons_zero, R.bind_ok, hc, R.out_ok]
    refine forGo_ls (items := os.map tupI) (fun i e S' => S' = S ∧ ∃ t, e = [some (.ref c), t]) _ _ ?_ ?_ ?_ wmax 0 _ S (Nat.zero_le _) (by simp; have := wmax_lt (n := 1000) (by decide); omega) ⟨rfl, _, rfl⟩
    · rintro i e S' ⟨rfl, _⟩; exact hc
    · rintro i d env S' hd ⟨rfl, t, rfl⟩
      obtain ⟨o, ho, rfl⟩ : ∃ o, os[i]? = some o ∧ d = tupI o := by
        simp at hd; obtain ⟨x, a, b⟩ := hd; exact ⟨x, a, b.symm⟩
      refine ⟨_, g_nm _ _, satB_nx (e := [some (.ref c), some (tupI o)]) (S := S') ?_ ⟨rfl, _, rfl⟩⟩
      simp [is_ordinal_ok hT2 hT3 hT4 o (h o (List.mem_of_getElem? ho))]
    · rintro e S' ⟨h, _⟩; exact h
  cases ho : exTs (callN T (n + 3)) d_need_ordinals.body [some (.ref c), none] S <;> simp only [ho, Out.sat] at key
  subst key
  rw [call_nx hT rfl (by exact ho), gcS_self]
theorem bounded_ok (hT : T 6 = some d_bounded) (xs : List Int) (h1 : xs.length ≤ 16) (h3 : ∀ x ∈ xs, x < 10 ^ 40) : callN T (n + 1) 6 [tupI xs] S = .ok (tupI xs) S := by
  apply call_pure hT rfl (lt_tupI _ _) (G := [.lst (List.map D.bl (List.replicate xs.length true))])
  have e1 : ¬ (16 < (xs.length : Int)) := by omega
  simp only [d_bounded, xs_cons, x_iff, t_not, t_cmp, e_slot, e_blt, es_cons, es_nil, e_cst, List.map_cons, List.map_nil, List.cons_append, List.nil_append, List.getElem?_cons_zero, R.bind_ok, len_tupI, c_gt, e1, decide_false, Bool.false_eq_true, if_false, R.out_ok, xs_nil, Out.thn_nx, t_blt]
  rw [lc_map (items := xs.map .int) (S' := S) (fun i => .bl true) (by simp [tupI]) (by simp; unfold sizeLine; omega) ?_]
  · have e5 : (List.range (xs.map D.int).length).map (fun _ => D.bl true) = (List.replicate xs.length true).map D.bl := by rw [map_const_range, List.map_replicate, List.length_map]
    rw [e5]
    simp [-List.map_replicate]
  · intro i d hd
    obtain ⟨x, hx, rfl⟩ : ∃ x, xs[i]? = some x ∧ d = .int x := by
      simp at hd; obtain ⟨x, a, b⟩ := hd; exact ⟨x, a, b.symm⟩
    have := h3 x (List.mem_of_getElem? hx)
    refine ⟨_, g_nm _ _, by simp, ?_⟩
    simp [wipeE]
    omega
theorem summed_spec (hT : T 7 = some d_summed) (xs ys : List Int) (hx : xs.length ≤ 1000) (hy : ys.length ≤ 1000) : callN T (n + 1) 7 [tupI xs, tupI ys] S = .ok (tupI (sumO xs ys)) S := by
  apply call_pure0 hT rfl
  cases ys with
  | nil => simp [d_summed]
  | cons y t =>
    rcases Nat.lt_or_ge xs.length (y :: t).length with h | h
    · have h' : (xs.length : Int) < ((y :: t).length : Int) := by omega
      rw [sumO_lt h]
      have e4 : ¬ ((t.length : Int) + 1 = 0) := by omega
      have e5 : (xs.length : Int) < (t.length : Int) + 1 := by simp at h; omega
      simp [d_summed, e4, e5]
    · have h' : ¬ (xs.length : Int) < ((y :: t).length : Int) := by omega
      obtain ⟨a, x, b, rfl, hb⟩ := dec_at (xs := xs) (c := t.length) (by simp at h; omega)
      rw [sumO_dec _ _ _ _ _ hb]
      have e1 : (((a ++ x :: b).length : Nat) : Int) - ((y :: t).length : Nat) = (a.length : Int) := by simp; omega
      have e2 := ix_tupI (S := S) (xs := a ++ x :: b) (k := a.length) (x := x) (i := a.length) rfl (by simp)
      have e3 := ix_tupI (S := S) (xs := y :: t) (k := 0) (x := y) (i := 0) rfl rfl
      have e4 : ¬ (((y :: t).length : Nat) : Int) = 0 := by simp; omega
      have e5 := cut_lo (y :: t) 1
      have e6 := add_tupI (S := S) a [x + y] (by simp at hx ⊢; unfold sizeLine; omega)
      have e7 := add_tupI (S := S) (a ++ [x + y]) t (by simp at hx hy ⊢; unfold sizeLine; omega)
      have e8 := cut_hi (a ++ x :: b) a.length
      simp only [List.take_left] at e8
      simp only [d_summed, xs_cons, x_iff, t_cmp, e_blt, es_cons, es_nil, e_slot, List.map_cons, List.map_nil, List.cons_append, List.nil_append, List.getElem?_cons_succ, List.getElem?_cons_zero, R.bind_ok, len_tupI, e_cst, c_eq, opEq_int, e4, decide_false, R.out_ok, Bool.false_eq_true, if_false, xs_nil, Out.thn_nx, c_lt, h', x_asg, e_bin, b_sub, e1, g_nm]
      simp [sl_tupI, e2, e3, e8, sizeLine]
      rw [e6]
      simp only [R.bind_ok]
      rw [show (1 : Int) = ((1 : Nat) : Int) from rfl, e5]
      simp [e7]
end
end PD.PS
end

section
set_option linter.all false
set_option maxRecDepth 100000
set_option maxHeartbeats 1000000
/-! PDord3: left_over, plus, rest and the laws' own sums. -/
namespace PD.PS
open PySem
theorem lexLt_same (ys : List Int) : ∀ xs : List Int, xs.length = ys.length → HT.lexLt ys xs = false → ∀ k : Nat, (∀ i : Nat, i < k → xs[i]? = ys[i]?) → ∀ x y, xs[k]? = some x → ys[k]? = some y → x ≠ y → x < y := by
  induction ys with
  | nil => intro xs h; simp
  | cons w t ih =>
    intro xs h hl k hk x y hx hy hne
    cases xs with
    | nil => simp at h
    | cons v u =>
      cases k with
      | zero =>
        simp at hx hy
        subst hx; subst hy
        simp [HT.lexLt, hne.symm] at hl
        omega
      | succ k =>
        have h0 := hk 0 (by omega)
        simp at h0
        subst h0
        simp [HT.lexLt] at hl
        refine ih u (by simpa using h) hl k (fun i hi => ?_) x y (by simpa using hx) (by simpa using hy) hne
        have := hk (i + 1) (by omega)
        simpa using this
theorem diffO_all : ∀ (xs ys : List Int), xs.length = ys.length → (∀ i : Nat, i < xs.length → xs[i]? = ys[i]?) → diffO xs ys = [] := by
  intro xs ys h hk
  have : xs = ys := List.ext_getElem? fun i => by
    rcases Nat.lt_or_ge i xs.length with h1 | h1
    · exact hk i h1
    · rw [List.getElem?_eq_none h1, List.getElem?_eq_none (by omega)]
  subst this
  exact diffO_self xs
theorem diffO_at : ∀ (k : Nat) (xs ys : List Int) (x y : Int), (∀ i : Nat, i < k → xs[i]? = ys[i]?) → xs[k]? = some x → ys[k]? = some y → x ≠ y → diffO xs ys = (y - x) :: ys.drop (k + 1)
  | 0, x' :: xs, y' :: ys, x, y, _, hx, hy, hne => by
    simp at hx hy
    subst hx; subst hy
    simp [diffO, hne]
  | 0, [], _, x, y, _, hx, hy, hne => by simp at hx
  | 0, _ :: _, [], x, y, _, hx, hy, hne => by simp at hy
  | k + 1, [], ys, x, y, hk, hx, hy, hne => by simp at hx
  | k + 1, _ :: _, [], x, y, hk, hx, hy, hne => by simp at hy
  | k + 1, v :: xs, w :: ys, x, y, hk, hx, hy, hne => by
    have h0 := hk 0 (by omega)
    simp at h0
    subst h0
    simp only [diffO, if_true, List.drop_succ_cons]
    exact diffO_at k xs ys x y (fun i hi => by simpa using hk (i + 1) (by omega)) (by simpa using hx) (by simpa using hy) hne
section
variable {T : Tab} {n : Nat} {S : Store}
theorem left_over_spec (hT1 : T 1 = some d_is_below) (hT : T 8 = some d_left_over) (xs ys : List Int) (hx : xs.length ≤ 1000) (hy : ys.length ≤ 1000) : callN T (n + 2) 8 [tupI xs, tupI ys] S = .ok (optD (restO xs ys)) S := by
  have key : (exTs (callN T (n + 1)) d_left_over.body [some (tupI xs), some (tupI ys), none] S).sat (fun _ _ => False) (fun v S' => S' = S ∧ v = optD (restO xs ys)) := by
    simp only [d_left_over, xs_cons, x_iff, t_call, es_cons, es_nil, e_slot, List.getElem?_cons_succ, List.getElem?_cons_zero, R.bind_ok, is_below_spec hT1, tru_b, R.out_ok]
    by_cases h1 : lessO ys xs = true
    · simp [h1, restO, optD, Out.sat]
    · by_cases h2 : xs.length < ys.length
      · have h3 : (xs.length : Int) < ys.length := by omega
        simp [h1, h3, restO, optD, h2, Out.sat]
      · have h3 : ¬ (xs.length : Int) < ys.length := by omega
        have h4 : xs.length = ys.length := by
          simp only [lessO] at h1
          by_cases h5 : ys.length = xs.length
          · exact h5.symm
          · rw [if_pos h5] at h1; simp at h1; omega
        have h5 : restO xs ys = some (diffO xs ys) := by simp [restO, h1, h2]
        rw [h5]
        simp only [Bool.not_eq_true] at h1
        simp only [h1, Bool.false_eq_true, if_false, xs_nil, Out.thn_nx, t_cmp, e_blt, es_cons, es_nil, e_slot, List.getElem?_cons_succ, List.getElem?_cons_zero, R.bind_ok, len_tupI, c_lt, h3, decide_false, R.out_ok, x_asg, e_cst, g_nm, List.set_cons_succ, List.set_cons_zero]
        refine sat_thn (N := fun e S' => S' = S ∧ ∃ k : Nat, e = [some (tupI xs), some (tupI ys), some (.int k)] ∧ k ≤ xs.length ∧ (∀ i : Nat, i < k → xs[i]? = ys[i]?) ∧ ∀ x y, xs[k]? = some x → ys[k]? = some y → x ≠ y)
          (whl_sat (fun m e S' => S' = S ∧ ∃ k : Nat, e = [some (tupI xs), some (tupI ys), some (.int k)] ∧ k + m = xs.length ∧ (∀ i : Nat, i < k → xs[i]? = ys[i]?)) xs.length (by unfold sizeLine; omega) ⟨rfl, 0, rfl, by omega, fun i hi => by omega⟩ ?_) ?_
        · rintro m e S' ⟨rfl, k, rfl, hk, hs⟩
          rcases Nat.lt_or_ge k xs.length with hl | hl
          · have hx' : xs[k]? = some xs[k] := List.getElem?_eq_getElem hl
            have hy' : ys[k]? = some ys[k] := List.getElem?_eq_getElem (by omega)
            generalize xs[k] = x at hx'
            generalize ys[k] = y at hy'
            have i1 := ix_tupI (S := S') (i := k) rfl hx'
            have i2 := ix_tupI (S := S') (i := k) rfl hy'
            by_cases he : x = y
            · right
              subst he
              refine ⟨S', by simp [hl, i1, i2], satB_nx (e := [some (tupI xs), some (tupI ys), some (.int (k + 1))]) (S := S') (by simp) ⟨m - 1, by omega, rfl, k + 1, rfl, by omega, fun i hi => ?_⟩⟩
              rcases Nat.lt_or_eq_of_le (Nat.lt_succ_iff.1 hi) with h | rfl
              · exact hs i h
              · rw [hx', hy']
            · left
              refine ⟨S', by simp [hl, i1, i2, he], rfl, k, rfl, by omega, hs, fun a b ha hb => ?_⟩
              rw [hx'] at ha; rw [hy'] at hb
              cases ha; cases hb
              exact he
          · left
            refine ⟨S', by simp [show ¬ k < xs.length by omega], rfl, k, rfl, by omega, hs, fun a b ha hb => ?_⟩
            rw [List.getElem?_eq_none hl] at ha; cases ha
        · rintro e S' ⟨rfl, k, rfl, hk, hs, hne⟩
          rcases Nat.lt_or_ge k xs.length with hl | hl
          · have hx' : xs[k]? = some xs[k] := List.getElem?_eq_getElem hl
            have hy' : ys[k]? = some ys[k] := List.getElem?_eq_getElem (by omega)
            generalize xs[k] = x at hx'
            generalize ys[k] = y at hy'
            have i1 := ix_tupI (S := S') (i := k) rfl hx'
            have i2 := ix_tupI (S := S') (i := k) rfl hy'
            have h6 : ¬ ((k : Int) = xs.length) := by omega
            have e5 := cut_lo ys (k + 1)
            have e6 := add_tupI (S := S') [y - x] (ys.drop (k + 1)) (by simp; unfold sizeLine; omega)
            refine sat_rtI (d := tupI (diffO xs ys)) (S := S') ?_ ⟨rfl, rfl⟩
            rw [diffO_at k xs ys x y hs hx' hy' (hne x y hx' hy')]
            simp [h6, i1, i2, sizeLine, sl_tupI]
            rw [show (k : Int) + 1 = ((k + 1 : Nat) : Int) from rfl, e5, e6]
            simp
          · have : k = xs.length := by omega
            refine sat_rtI (d := tupI (diffO xs ys)) (S := S') ?_ ⟨rfl, rfl⟩
            rw [diffO_all xs ys h4 (by rw [← this]; exact hs)]
            simp [this, sizeLine]
  obtain ⟨v, S', e, rfl, rfl⟩ := sat_rt key
  exact call_pure0 hT rfl e
structure Ords (T : Tab) : Prop where
  h2 : T 2 = some d_is_integer
  h3 : T 3 = some d_is_between
  h4 : T 4 = some d_is_ordinal
  h5 : T 5 = some d_need_ordinals
  h6 : T 6 = some d_bounded
  h7 : T 7 = some d_summed
theorem need2 (hT : Ords T) (xs ys : List Int) (G : Store) (hx : OrdP xs) (hy : OrdP ys) : callN T (n + 4) 5 [.ref S.length] (S ++ [.lst [tupI xs, tupI ys]]) = .ok .non (S ++ [.lst [tupI xs, tupI ys]]) :=
  need_ordinals_ok hT.h2 hT.h3 hT.h4 hT.h5 S.length [xs, ys] (by simp) (by simp) (by simp [hx, hy])
theorem plus_spec (hT : Ords T) (hP : T 18 = some d_plus) (xs ys : List Int) (hx : OrdP xs) (hy : OrdP ys) (hb : ∀ x ∈ sumO xs ys, x < 10 ^ 40) : callN T (n + 5) 18 [tupI xs, tupI ys] S = .ok (tupI (sumO xs ys)) S := by
  apply call_pure hP rfl (lt_tupI _ _) (G := [.lst [tupI xs, tupI ys]])
  have h1 := need2 (n := n) (S := S) hT xs ys [] hx hy
  have h2 := summed_spec (n := n + 3) (S := S ++ [.lst [tupI xs, tupI ys]]) hT.h7 xs ys (by have := hx.1; omega) (by have := hy.1; omega)
  have h3 := bounded_ok (n := n + 3) (S := S ++ [.lst [tupI xs, tupI ys]]) hT.h6 (sumO xs ys) (by rw [sumO_len]; have := hx.1; have := hy.1; omega) hb
  simp [d_plus, h1, h2, h3, sizeLine]
theorem rest_spec (hT : Ords T) (h1' : T 1 = some d_is_below) (h8 : T 8 = some d_left_over) (hP : T 20 = some d_rest) (xs ys : List Int) (hx : OrdP xs) (hy : OrdP ys) : callN T (n + 5) 20 [tupI xs, tupI ys] S = .ok (optD (restO xs ys)) S := by
  apply call_pure hP rfl (by cases restO xs ys <;> simp [optD]) (G := [.lst [tupI xs, tupI ys]])
  have h1 := need2 (n := n) (S := S) hT xs ys [] hx hy
  have h2 := left_over_spec (n := n + 2) (S := S ++ [.lst [tupI xs, tupI ys]]) h1' h8 xs ys (by have := hx.1; omega) (by have := hy.1; omega)
  simp [d_rest, h1, h2, sizeLine]
end
end PD.PS
end

section
set_option linter.all false
set_option maxRecDepth 100000
set_option maxHeartbeats 1000000
/-! PDord4: the laws' own sums and rests. -/
namespace PD.PS
open PySem
theorem le_sz {k : Nat} (h : k ≤ 16000000) : k ≤ sizeLine := Nat.le_trans h (by decide)
theorem lt_sz {k : Nat} (h : k < 16000000) : k < sizeLine := Nat.lt_of_lt_of_le h (by decide)
theorem cO_lt {xs : List Int} {e : Nat} (h : e < xs.length) : xs[xs.length - 1 - e]? = some (cO xs e) := by
  have h1 : xs.length - 1 - e < xs.length := by omega
  rw [List.getElem?_eq_getElem h1, cO, List.getD_eq_getElem?_getD, List.getElem?_reverse h, List.getElem?_eq_getElem h1]
  rfl
theorem cO_ge {xs : List Int} {e : Nat} (h : xs.length ≤ e) : cO xs e = 0 := by
  rw [cO, List.getD_eq_getElem?_getD, List.getElem?_eq_none (by simpa using h)]
  rfl
theorem map_cO (xs : List Int) (k : Nat) (h : k ≤ xs.length) : (List.range k).map (cO xs) = (xs.drop (xs.length - k)).reverse := by
  rw [← List.take_reverse]
  apply List.ext_getElem?
  intro i
  rcases Nat.lt_or_ge i k with h1 | h1
  · rw [List.getElem?_map, List.getElem?_range h1, List.getElem?_take_of_lt h1, List.getElem?_eq_getElem (by simp; omega)]
    simp only [Option.map_some, cO, List.getD_eq_getElem?_getD]
    rw [List.getElem?_eq_getElem (by simp; omega)]
    rfl
  · rw [List.getElem?_eq_none (by simpa using h1), List.getElem?_eq_none (by simp; omega)]
theorem rng2_sat {F : Fn} {env : Env} {a b : E} {S S1 S2 : Store} {i j : Int} (h : evE F env a S = .ok (.int i) S1) (h2 : evE F env b S1 = .ok (.int j) S2) (i0 : -16777216 ≤ i) (i1 : i ≤ 16777216) (j0 : -16777216 ≤ j) (j1 : j ≤ 16777216) :
    evI F env (.rng2 a b) S = .ok (.st (rangeD i 1 (j - i).toNat)) S2 := by
  rw [i_rng2, h, R.bind_ok, h2, R.bind_ok]
  show (if rngOk i && rngOk j then _ else _) = _
  rw [show rngOk i = true by simp only [rngOk, Bool.and_eq_true, decide_eq_true_eq]; omega, show rngOk j = true by simp only [rngOk, Bool.and_eq_true, decide_eq_true_eq]; omega]
  rfl
theorem rng3_sat {F : Fn} {env : Env} {a b : E} {S S1 S2 : Store} {i j : Int} (h : evE F env a S = .ok (.int i) S1) (h2 : evE F env b S1 = .ok (.int j) S2) (i0 : -16777216 ≤ i) (i1 : i ≤ 16777216) (j0 : -16777216 ≤ j) (j1 : j ≤ 16777216) :
    evI F env (.rng3 a b (-1)) S = .ok (.st (rangeD i (-1) (i - j).toNat)) S2 := by
  rw [i_rng3, h, R.bind_ok, h2, R.bind_ok]
  show (if rngOk i && rngOk j && decide ((-1 : Int) = -1) then _ else _) = _
  rw [show rngOk i = true by simp only [rngOk, Bool.and_eq_true, decide_eq_true_eq]; omega, show rngOk j = true by simp only [rngOk, Bool.and_eq_true, decide_eq_true_eq]; omega]
  rfl
section
variable {T : Tab} {n : Nat} {S : Store}
theorem at_power_spec (hT : T 11 = some d__law_at_power) (xs : List Int) (e : Nat) {i : Int} (hi : i = e) : callN T (n + 1) 11 [tupI xs, .int i] S = .ok (.int (cO xs e)) S := by
  subst hi
  apply call_pure0 hT rfl
  rcases Nat.lt_or_ge e xs.length with h | h
  · have h1 : (e : Int) < xs.length := by omega
    have h2 := ix_tupI (S := S) (xs := xs) (k := xs.length - 1 - e) (i := (xs.length : Int) - 1 - e) (by omega) (cO_lt h)
    simp [d__law_at_power, h, h2]
  · have h1 : ¬ (e : Int) < xs.length := by omega
    simp [d__law_at_power, h1, show ¬ e < xs.length by omega, cO_ge h]
theorem made_spec (hT : T 10 = some d__law_trim) (hM : T 12 = some d__law_made) (c : Nat) (xs : List Int) (hc : S[c]? = some (.lst (xs.map .int))) (hl : xs.length ≤ 1000000) : callN T (n + 2) 12 [.ref c] S = .ok (tupI (trimI xs.reverse)) S := by
  apply call_pure hM rfl (lt_tupI _ _) (G := [.lst (xs.reverse.map .int)])
  have ht := trim_spec hT (n := n) (S ++ [.lst (xs.reverse.map .int)]) S.length xs.reverse (by simp) (by rw [List.length_reverse]; exact le_sz (by omega))
  show exTs (callN T (n + 1)) d__law_made.body [some (.ref c), none] S = _
  simp only [d__law_made, xs_cons, x_ret, e_call, es_cons, es_nil]
  rw [lc_map (items := rangeD 0 1 xs.length) (S' := S) (fun i => .int (xs.reverse.getD i 0)) (by rw [rng1_sat (k := xs.length) (S' := S) (by simp [hc]) (by omega) (by omega)]; simp) (by rw [rangeD_len]; exact le_sz (by omega)) ?_]
  · have e5 : (List.range (rangeD 0 1 xs.length).length).map (fun i => D.int (xs.reverse.getD i 0)) = xs.reverse.map D.int := by
      rw [rangeD_len]
      have := map_cO xs xs.length (Nat.le_refl _)
      simp only [Nat.sub_self, List.drop_zero] at this
      conv => rhs; rw [← this, List.map_map]
      rfl
    rw [e5]
    simp only [R.bind_ok, ht, R.out_ok, Out.thn_rt]
  · intro i d hd
    simp at hd
    obtain ⟨hi, rfl⟩ := hd
    refine ⟨_, g_nm _ _, by simp, ?_⟩
    have h1 := atI_nat (xs.map D.int) (xs.length - 1 - i) (.int (xs.reverse.getD i 0)) (by
      have := cO_lt hi
      simp [this, cO])
    have h2 : (xs.length : Int) - 1 - i = ((xs.length - 1 - i : Nat) : Int) := by omega
    simp only [wipeE, e_ix, e_bin, e_blt, es_cons, es_nil, e_slot, e_cst, List.length_cons, List.length_nil, List.set_cons_succ, List.set_cons_zero, List.getElem?_cons_succ, List.getElem?_cons_zero, R.bind_ok, f_lenr, items_ref, hc, b_sub, List.length_map, ix_ref, h2]
    simp only [hc, h1]
theorem plus_found (xs ys : List Int) (hy : 0 < ys.length) : ((List.range (ys.length - 1)).map (cO ys) ++ [cO xs (ys.length - 1) + ys.getD 0 0] ++ (List.range (xs.length - ys.length)).map (fun i => cO xs (ys.length + i))).reverse = if xs.length < ys.length then ys else sumO xs ys := by
  cases ys with
  | nil => simp at hy
  | cons y t =>
    have e1 := map_cO (y :: t) t.length (by simp)
    simp only [List.length_cons, Nat.add_sub_cancel] at e1 ⊢
    rw [e1]
    have e2 : t.length + 1 - t.length = 1 := by omega
    simp only [e2, List.drop_succ_cons, List.drop_zero]
    by_cases h : xs.length < t.length + 1
    · have h2 : xs.length - (t.length + 1) = 0 := by omega
      rw [cO_ge (by omega)]
      simp [h, h2]
    · obtain ⟨a, x, b, rfl, hb⟩ := dec_at (xs := xs) (c := t.length) (by omega)
      rw [sumO_dec _ _ _ _ _ hb]
      have e3 : cO (a ++ x :: b) t.length = x := by
        simp [cO, List.getElem?_append_right, hb]
      have e4 : (List.range ((a ++ x :: b).length - (t.length + 1))).map (fun i => cO (a ++ x :: b) (t.length + 1 + i)) = a.reverse := by
        have h5 : (a ++ x :: b).length - (t.length + 1) = a.length := by simp; omega
        rw [h5]
        have := map_cO a a.length (Nat.le_refl _)
        simp only [Nat.sub_self, List.drop_zero] at this
        rw [← this]
        apply List.map_congr_left
        intro i hi
        simp only [cO, List.reverse_append, List.reverse_cons, List.append_assoc, List.getD_eq_getElem?_getD]
        rw [List.getElem?_append_right (by simp; omega), List.getElem?_append_right (by simp; omega)]
        simp only [List.length_reverse, List.length_cons, List.length_nil]
        congr 2
        omega
      rw [e3, e4]
      simp at h
      simp [show ¬ (a.length + (b.length + 1) < t.length + 1) by omega]
theorem law_plus_spec (hA : T 11 = some d__law_at_power) (hR : T 10 = some d__law_trim) (hM : T 12 = some d__law_made) (hT : T 19 = some d__law_plus) (xs ys : List Int) (hx : xs.length ≤ 1000) (hy : ys.length ≤ 1000)
    (nx : noNought xs) (ny : noNought ys) (px : ∀ x ∈ xs, 0 ≤ x) (py : ∀ x ∈ ys, 0 ≤ x) : callN T (n + 3) 19 [tupI xs, tupI ys] S = .ok (tupI (sumO xs ys)) S := by
  have key : (exTs (callN T (n + 2)) d__law_plus.body [some (tupI xs), some (tupI ys), none, none, none] S).sat (fun _ _ => False) (fun v S' => v = tupI (sumO xs ys) ∧ ∃ G, S' = S ++ G) := by
    by_cases h0 : ys.length = 0
    · have : ys = [] := List.length_eq_zero_iff.1 h0
      subst this
      refine sat_rtI (d := tupI xs) (S := S) (by simp [d__law_plus]) ⟨by simp, [], by simp⟩
    · have h0' : ¬ ((ys.length : Int) = 0) := by omega
      have h1 : (ys.length : Int) - 1 = ((ys.length - 1 : Nat) : Int) := by omega
      have h1n : ((ys.length : Int) - 1).toNat = ys.length - 1 := by omega
      have e1 : (List.range (rangeD 0 1 (ys.length - 1)).length).map (fun i => D.int (cO ys i)) = ((List.range (ys.length - 1)).map (cO ys)).map D.int := by
        rw [rangeD_len, List.map_map]; rfl
      simp only [d__law_plus, xs_cons, x_iff, t_cmp, e_blt, es_cons, es_nil, e_slot, List.getElem?_cons_succ, List.getElem?_cons_zero, R.bind_ok, len_tupI, e_cst, c_eq, opEq_int, h0', decide_false, R.out_ok, Bool.false_eq_true, if_false, xs_nil, Out.thn_nx, x_asg, e_bin, b_sub, g_nm, List.set_cons_succ, List.set_cons_zero]
      rw [lc_map (items := rangeD 0 1 (ys.length - 1)) (S' := S) (fun i => .int (cO ys i)) (by have := rng1_sat (F := callN T (n + 2)) (env := [some (tupI xs), some (tupI ys), some (.int ((ys.length : Int) - 1)), none, none]) (e := .slot 2) (k := (ys.length : Int) - 1) (S := S) (S' := S) (by simp) (by omega) (by omega); rwa [h1n] at this) (by rw [rangeD_len]; exact le_sz (by omega)) ?_]
      · rw [e1]
        generalize hlow : (List.range (ys.length - 1)).map (cO ys) = low
        have hlowl : low.length = ys.length - 1 := by rw [← hlow]; simp
        obtain ⟨y0, hy0⟩ : ∃ y0, ys[0]? = some y0 := ⟨_, List.getElem?_eq_getElem (by omega)⟩
        have i1 := fun S => ix_tupI (S := S) (xs := ys) (k := 0) (i := 0) rfl hy0
        have i2 := fun S => at_power_spec (n := n + 1) (S := S) hA xs (ys.length - 1) h1
        have h2 : low.length < sizeLine := lt_sz (by omega)
        simp only [R.out_ok, g_nm, List.set_cons_succ, List.set_cons_zero, Out.thn_nx, x_exp, e_mth, e_slot, List.getElem?_cons_succ, List.getElem?_cons_zero, R.bind_ok, rcv_app, get_end, if_true, es_cons, es_nil, e_bin, e_call, e_ix, e_cst, i1, i2, b_add, m_app, List.length_map, h2]
        have e2 : (S ++ [Cell.lst (low.map D.int)]).set S.length (.lst (low.map D.int ++ [D.int (cO xs (ys.length - 1) + y0)])) = S ++ [.lst ((low ++ [cO xs (ys.length - 1) + y0]).map D.int)] := by simp
        rw [e2]
        generalize hlow2 : low ++ [cO xs (ys.length - 1) + y0] = low2
        have hl2 : low2.length = ys.length := by rw [← hlow2]; simp; omega
        refine sat_thn (N := fun e S' => (∃ a b c t, e = [a, b, c, some (.ref S.length), t]) ∧ S' = S ++ [.lst ((low2 ++ (List.range (xs.length - ys.length)).map (fun i => cO xs (ys.length + i))).map D.int)]) ?_ ?_
        · have q4 := fun t s b env N Q hs hl => @for_sat (callN T (n + 2)) t s b env (S ++ [.lst (low2.map D.int)])  (S ++ [.lst (low2.map D.int)]) (rangeD ys.length 1 (xs.length - ys.length)) N Q hs hl (fun i e S' => ∃ t : Option D, e = [some (tupI xs), some (tupI ys), some (.int ((ys.length : Int) - 1)), some (.ref S.length), t] ∧ S' = S ++ [.lst ((low2 ++ (List.range i).map (fun i => cO xs (ys.length + i))).map D.int)])
          refine q4 _ _ _ _ _ _ ?_ ?_ ?_ ?_ ?_
          · have h3 : (ys.length : Int) - 1 + 1 = (ys.length : Int) := by omega
            have h4 : ((xs.length : Int) - ys.length).toNat = xs.length - ys.length := by omega
            rw [← h4]
            exact rng2_sat (S1 := S ++ [.lst (low2.map D.int)]) (by simp only [e_bin, e_slot, e_cst, List.getElem?_cons_succ, List.getElem?_cons_zero, R.bind_ok, b_add]; rw [h3]) (by simp only [e_blt, es_cons, es_nil, e_slot, List.getElem?_cons_succ, List.getElem?_cons_zero, R.bind_ok, len_tupI]) (by omega) (by omega) (by omega) (by omega)
          · rw [rangeD_len]; exact le_sz (by omega)
          · exact ⟨none, rfl, by simp⟩
          · rintro i d env S' hd ⟨t, rfl, rfl⟩
            simp at hd
            obtain ⟨hi, rfl⟩ := hd
            have i3 := fun S => at_power_spec (n := n + 1) (S := S) hA xs (ys.length + i) (i := (ys.length : Int) + i) (by omega)
            have h5 : (low2 ++ (List.range i).map (fun i => cO xs (ys.length + i))).length < sizeLine := by simp; exact lt_sz (by omega)
            refine ⟨_, g_nm _ _, satB_nx (e := [some (tupI xs), some (tupI ys), some (.int ((ys.length : Int) - 1)), some (.ref S.length), some (.int (ys.length + i))]) (S := S ++ [.lst ((low2 ++ (List.range (i + 1)).map (fun i => cO xs (ys.length + i))).map D.int)]) ?_ ⟨_, rfl, rfl⟩⟩
            simp only [List.length_append, List.length_map, List.length_range] at h5
            simp [i3, h5, List.range_succ]
          · rintro env S' ⟨t, rfl, rfl⟩
            exact ⟨⟨_, _, _, _, rfl⟩, by simp⟩
        · rintro env S' ⟨⟨a, b, c, t, rfl⟩, rfl⟩
          have hm := made_spec (n := n) (S := S ++ [.lst ((low2 ++ (List.range (xs.length - ys.length)).map (fun i => cO xs (ys.length + i))).map D.int)]) hR hM S.length (low2 ++ (List.range (xs.length - ys.length)).map (fun i => cO xs (ys.length + i))) (get_end _ _ _) (by rw [List.length_append, List.length_map, List.length_range]; omega)
          have hf := plus_found xs ys (by omega)
          have hy1 : ys.getD 0 0 = y0 := by simp [List.getD_eq_getElem?_getD, hy0]
          rw [hlow, hy1, hlow2] at hf
          rw [hf] at hm
          refine sat_rtI (d := tupI (sumO xs ys)) (S := S ++ [.lst ((low2 ++ (List.range (xs.length - ys.length)).map (fun i => cO xs (ys.length + i))).map D.int)]) ?_ ⟨rfl, _, rfl⟩
          have ht : trimI (if xs.length < ys.length then ys else sumO xs ys) = sumO xs ys := by
            split
            · rename_i h; rw [sumO_lt h, trimI_id ny]
            · exact trimI_id (sumO_head nx ny px py)
          rw [ht] at hm
          simp only [x_ret, e_call, es_cons, es_nil, e_slot, List.getElem?_cons_succ, List.getElem?_cons_zero, R.bind_ok, hm, R.out_ok, Out.thn_rt]
      · intro i d hd
        simp at hd
        obtain ⟨hi, rfl⟩ := hd
        refine ⟨_, g_nm _ _, by simp, ?_⟩
        have i3 := fun S => at_power_spec (n := n + 1) (S := S) hA ys i (i := (i : Int)) rfl
        simp [wipeE, i3]
  obtain ⟨v, S', e, rfl, G, rfl⟩ := sat_rt key
  exact call_pure hT rfl (lt_tupI _ _) e
end
end PD.PS
end

section
set_option linter.all false
set_option maxRecDepth 100000
set_option maxHeartbeats 1000000
/-! PDord5: the laws' own rest, what is kept, the hand. -/
namespace PD.PS
open PySem
theorem satB_thn {o : Out} {f : Env → Store → Out} {N N' B : Env → Store → Prop} {Q : D → Store → Prop} (h : o.sat N Q) (hf : ∀ e S, N e S → (f e S).satB N' B Q) : (o.thn f).satB N' B Q := by
  cases o <;> simp only [Out.sat] at h
  · exact hf _ _ h
  · exact h
theorem lcGo_map_ls {c : Nat} {items : List D} {tgt : D → Store → Option Env} {tst : Env → Store → R Bool} {elt : Env → Store → R D} {S : Store} (g : Nat → D) (hc : S[c]? = some (.lst items))
    (step : ∀ i d, items[i]? = some d → ∃ e, tgt d S = some e ∧ tst e S = .ok true S ∧ elt e S = .ok (g i) S) (hl : items.length ≤ sizeLine) :
    ∀ n i acc, i ≤ items.length → items.length < n + i → acc.length = i → lcGo (Src.ls c).nx tgt tst elt n i acc S = .ok (acc ++ ((List.range (items.length - i)).map fun k => g (i + k))) S
  | 0, i, acc, h1, h2, h => by omega
  | n + 1, i, acc, h1, h2, h => by
    simp only [lcGo, Src.nx, hc, R.bind_ok]
    rcases Nat.lt_or_ge i items.length with hi | hi
    · have hd : items[i]? = some items[i] := List.getElem?_eq_getElem hi
      obtain ⟨e, h3, h4, h5⟩ := step i _ hd
      simp only [hd, h3, h4, h5, R.bind_ok, if_true]
      rw [if_pos (by omega), lcGo_map_ls g hc step hl n (i + 1) _ (by omega) (by omega) (by simp [h])]
      have : items.length - i = (items.length - (i + 1)) + 1 := by omega
      rw [this, List.range_succ_eq_map]
      simp [Function.comp_def, Nat.add_assoc, Nat.add_comm 1]
    · rw [List.getElem?_eq_none hi]
      have : items.length - i = 0 := by omega
      simp [this]
theorem lc_map_ls {F : Fn} {env : Env} {e : E} {t : Tg} {s : I} {cn : Oe} {own : List Nat} {S S' : Store} {c : Nat} {items : List D} (g : Nat → D)
    (hs : evI F env s S = .ok (.ls c) S') (hc : S'[c]? = some (.lst items)) (hl : items.length ≤ sizeLine)
    (step : ∀ i d, items[i]? = some d → ∃ e', asgT S' t d (wipeE env own) = some e' ∧ evOT F e' cn S' = .ok true S' ∧ evE F e' e S' = .ok (g i) S') :
    evE F env (.lc e t s cn own) S = .ok (.ref S'.length) (S' ++ [.lst ((List.range items.length).map g)]) := by
  rw [e_lc, hs, R.bind_ok, lcGo_map_ls g hc step hl wmax 0 [] (Nat.zero_le _) (by have := wmax_lt hl; omega) rfl]
  simp [newL]
theorem cO_head {ys : List Int} (h : 0 < ys.length) (hn : noNought ys) : cO ys (ys.length - 1) ≠ 0 := by
  cases ys with
  | nil => simp at h
  | cons y t =>
    have := cO_lt (xs := y :: t) (e := (y :: t).length - 1) (by simp)
    have h2 : (y :: t).length - 1 - ((y :: t).length - 1) = 0 := by omega
    rw [h2] at this
    simp at this
    simp only [List.length_cons, Nat.add_sub_cancel]
    rw [← this]
    intro e
    exact hn (by simp [e])
theorem rest_at {xs ys : List Int} (hn : noNought ys) (hl : lessO ys xs = false) (i : Nat) (hi : i < ys.length) (hs : ∀ j : Nat, j < i → cO xs (ys.length - 1 - j) = cO ys (ys.length - 1 - j)) (hne : cO xs (ys.length - 1 - i) ≠ cO ys (ys.length - 1 - i)) :
    restO xs ys = some ((cO ys (ys.length - 1 - i) - cO xs (ys.length - 1 - i)) :: ys.drop (i + 1)) := by
  by_cases h1 : xs.length < ys.length
  · have h0 : cO xs (ys.length - 1) = 0 := cO_ge (by omega)
    cases i with
    | zero =>
      simp only [restO, hl, Bool.false_eq_true, if_false, h1, if_true, Nat.sub_zero, h0]
      have h2 := cO_lt (xs := ys) (e := ys.length - 1) (by omega)
      have h3 : ys.length - 1 - (ys.length - 1) = 0 := by omega
      rw [h3] at h2
      cases ys with
      | nil => simp at hi
      | cons y t =>
        simp only [List.getElem?_cons_zero, Option.some.injEq] at h2
        rw [← h2]
        simp
    | succ i =>
      have := hs 0 (by omega)
      simp only [Nat.sub_zero, h0] at this
      exact absurd this.symm (cO_head (by omega) hn)
  · have h2 : xs.length = ys.length := by
      simp only [lessO] at hl
      by_cases h5 : ys.length = xs.length
      · exact h5.symm
      · rw [if_pos h5] at hl; simp at hl; omega
    have g1 : ∀ j : Nat, j < ys.length → xs[j]? = some (cO xs (ys.length - 1 - j)) := fun j hj => by
      have := cO_lt (xs := xs) (e := ys.length - 1 - j) (by omega)
      rwa [show xs.length - 1 - (ys.length - 1 - j) = j by omega] at this
    have g2 : ∀ j : Nat, j < ys.length → ys[j]? = some (cO ys (ys.length - 1 - j)) := fun j hj => by
      have := cO_lt (xs := ys) (e := ys.length - 1 - j) (by omega)
      rwa [show ys.length - 1 - (ys.length - 1 - j) = j by omega] at this
    simp only [restO, hl, Bool.false_eq_true, if_false, h1]
    rw [diffO_at i xs ys _ _ (fun j hj => by rw [g1 j (by omega), g2 j (by omega), hs j hj]) (g1 i hi) (g2 i hi) hne]
theorem rest_end {xs ys : List Int} (hn : noNought ys) (hl : lessO ys xs = false) (hs : ∀ j : Nat, j < ys.length → cO xs (ys.length - 1 - j) = cO ys (ys.length - 1 - j)) : restO xs ys = some [] := by
  have h2 : xs.length = ys.length := by
    by_cases h5 : ys.length = xs.length
    · exact h5.symm
    · simp only [lessO] at hl
      rw [if_pos h5] at hl; simp at hl
      have h0 : cO xs (ys.length - 1) = 0 := cO_ge (by omega)
      have := hs 0 (by omega)
      simp only [Nat.sub_zero, h0] at this
      exact absurd this.symm (cO_head (by omega) hn)
  have g1 : ∀ j : Nat, j < ys.length → xs[j]? = some (cO xs (ys.length - 1 - j)) := fun j hj => by
    have := cO_lt (xs := xs) (e := ys.length - 1 - j) (by omega)
    rwa [show xs.length - 1 - (ys.length - 1 - j) = j by omega] at this
  have g2 : ∀ j : Nat, j < ys.length → ys[j]? = some (cO ys (ys.length - 1 - j)) := fun j hj => by
    have := cO_lt (xs := ys) (e := ys.length - 1 - j) (by omega)
    rwa [show ys.length - 1 - (ys.length - 1 - j) = j by omega] at this
  simp only [restO, hl, Bool.false_eq_true, if_false, h2, Nat.lt_irrefl]
  rw [diffO_all xs ys h2 (fun j hj => by rw [g1 j (by omega), g2 j (by omega), hs j (by omega)])]
section
variable {T : Tab} {n : Nat} {S : Store}
theorem law_rest_spec (hL : T 13 = some d__law_less) (hA : T 11 = some d__law_at_power) (hR : T 10 = some d__law_trim) (hM : T 12 = some d__law_made) (hT : T 21 = some d__law_rest) (xs ys : List Int) (hx : xs.length ≤ 1000) (hy : ys.length ≤ 1000)
    (ny : noNought ys) : callN T (n + 3) 21 [tupI xs, tupI ys] S = .ok (optD (restO xs ys)) S := by
  have key : (exTs (callN T (n + 2)) d__law_rest.body [some (tupI xs), some (tupI ys), none, none, none, none, none] S).sat (fun _ _ => False) (fun v S' => v = optD (restO xs ys) ∧ ∃ G, S' = S ++ G) := by
    simp only [d__law_rest, xs_cons, x_iff, t_call, es_cons, es_nil, e_slot, List.getElem?_cons_succ, List.getElem?_cons_zero, R.bind_ok, law_less_spec hL, tru_b, R.out_ok]
    by_cases h1 : lessO ys xs = true
    · have : restO xs ys = none := by simp [restO, h1]
      simp only [h1, if_true]
      refine sat_rtI (d := .non) (S := S) (by simp) ⟨by rw [this]; rfl, [], by simp⟩
    · simp only [Bool.not_eq_true] at h1
      simp only [h1, Bool.false_eq_true, if_false, xs_nil, Out.thn_nx]
      have hd : (((ys.length : Int) - 1) - (-1)).toNat = ys.length := by omega
      refine sat_thn (N := fun e S' => S' = S ∧ ∀ j : Nat, j < ys.length → cO xs (ys.length - 1 - j) = cO ys (ys.length - 1 - j)) ?_ ?_
      · have q4 := fun t s b env N Q hs hl => @for_sat (callN T (n + 2)) t s b env S S (rangeD ((ys.length : Int) - 1) (-1) ys.length) N Q hs hl (fun i e S' => S' = S ∧ (∃ a b c d f : Option D, e = [some (tupI xs), some (tupI ys), a, b, c, d, f]) ∧ ∀ j : Nat, j < i → cO xs (ys.length - 1 - j) = cO ys (ys.length - 1 - j))
        refine q4 _ _ _ _ _ _ ?_ ?_ ?_ ?_ ?_
        · have := rng3_sat (F := callN T (n + 2)) (env := [some (tupI xs), some (tupI ys), none, none, none, none, none]) (a := .bin .Sub (.blt .len (.cons (.slot 1) .nil)) (.cst (.int 1))) (b := .un .USub (.cst (.int 1))) (i := (ys.length : Int) - 1) (j := -1) (S := S) (S1 := S) (S2 := S) (by simp) (by simp) (by omega) (by omega) (by omega) (by omega)
          rwa [hd] at this
        · rw [rangeD_len]; exact le_sz (by omega)
        · exact ⟨rfl, ⟨_, _, _, _, _, rfl⟩, fun j hj => by omega⟩
        · rintro i d env S' hd ⟨rfl, ⟨a, b, c, d', f, rfl⟩, hs⟩
          simp at hd
          obtain ⟨hi, rfl⟩ := hd
          have hi1 : (ys.length : Int) - 1 + -(i : Int) = ((ys.length - 1 - i : Nat) : Int) := by omega
          have i1 := at_power_spec (n := n + 1) (S := S') hA xs (ys.length - 1 - i) hi1
          have i2 := at_power_spec (n := n + 1) (S := S') hA ys (ys.length - 1 - i) hi1
          refine ⟨_, g_nm _ _, ?_⟩
          by_cases he : cO xs (ys.length - 1 - i) = cO ys (ys.length - 1 - i)
          · refine satB_nx (e := [some (tupI xs), some (tupI ys), some (.int ((ys.length : Int) - 1 + -(i : Int))), some (.int (cO xs (ys.length - 1 - i))), some (.int (cO ys (ys.length - 1 - i))), d', f]) (S := S') ?_ ⟨rfl, ⟨_, _, _, _, _, rfl⟩, fun j hj => ?_⟩
            · simp [i1, i2, he, sizeLine]
            · rcases Nat.lt_or_eq_of_le (Nat.lt_succ_iff.1 hj) with h | rfl
              · exact hs j h
              · exact he
          · have hr := rest_at ny h1 i hi hs he
            generalize hm : cO xs (ys.length - 1 - i) = mine at *
            generalize ht : cO ys (ys.length - 1 - i) = theirs at *
            have hlow : (List.range (ys.length - 1 - i)).map (cO ys) = (ys.drop (i + 1)).reverse := by
              rw [map_cO ys _ (by omega)]
              congr 2
              omega
            have hlc : evE (callN T (n + 2)) [some (tupI xs), some (tupI ys), some (.int ((ys.length : Int) - 1 + -(i : Int))), some (.int mine), some (.int theirs), d', f] (.lc (.call 11 (.cons (.slot 1) (.cons (.slot 6) .nil))) (.nm 6) (.rng1 (.slot 2)) .no [6]) S' = .ok (.ref S'.length) (S' ++ [.lst ((ys.drop (i + 1)).reverse.map .int)]) := by
              have hk : ((ys.length : Int) - 1 + -(i : Int)).toNat = ys.length - 1 - i := by omega
              have hrg := rng1_sat (F := callN T (n + 2)) (env := [some (tupI xs), some (tupI ys), some (.int ((ys.length : Int) - 1 + -(i : Int))), some (.int mine), some (.int theirs), d', f]) (e := .slot 2) (k := (ys.length : Int) - 1 + -(i : Int)) (S := S') (S' := S') (by simp) (by omega) (by omega)
              rw [hk] at hrg
              rw [lc_map (fun k => .int (cO ys k)) hrg (by rw [rangeD_len]; exact le_sz (by omega)) ?_, rangeD_len, ← hlow, List.map_map]
              · rfl
              · intro k d hd
                simp at hd
                obtain ⟨hk2, rfl⟩ := hd
                refine ⟨_, g_nm _ _, by simp, ?_⟩
                have i3 := fun S => at_power_spec (n := n + 1) (S := S) hA ys k (i := (k : Int)) rfl
                simp [wipeE, i3]
            have hmd := made_spec (n := n) (S := S' ++ [.lst ((ys.drop (i + 1)).reverse.map .int), .lst [.int (theirs - mine)], .lst (((ys.drop (i + 1)).reverse ++ [theirs - mine]).map .int)]) hR hM (S'.length + 2) ((ys.drop (i + 1)).reverse ++ [theirs - mine]) (by simp) (by simp; omega)
            have htr : trimI ((ys.drop (i + 1)).reverse ++ [theirs - mine]).reverse = (theirs - mine) :: ys.drop (i + 1) := by
              rw [List.reverse_append, List.reverse_reverse]
              refine trimI_id ?_
              simp [noNought]
              omega
            rw [htr] at hmd
            refine satB_rt (d := tupI ((theirs - mine) :: ys.drop (i + 1))) (S := S' ++ [.lst ((ys.drop (i + 1)).reverse.map .int), .lst [.int (theirs - mine)], .lst (((ys.drop (i + 1)).reverse ++ [theirs - mine]).map .int)]) ?_ ⟨by rw [hr]; rfl, _, rfl⟩
            have hsz : ((ys.drop (i + 1)).reverse.map D.int).length + 1 ≤ sizeLine := by simp; exact le_sz (by omega)
            have hadd : opBin .Add (.ref S'.length) (.ref (S'.length + 1)) (S' ++ [.lst ((ys.drop (i + 1)).reverse.map .int), .lst [.int (theirs - mine)]]) = .ok (.ref (S'.length + 2)) (S' ++ [.lst ((ys.drop (i + 1)).reverse.map .int), .lst [.int (theirs - mine)], .lst (((ys.drop (i + 1)).reverse ++ [theirs - mine]).map .int)]) := by
              simp only [opBin]
              rw [show (S' ++ [Cell.lst ((ys.drop (i + 1)).reverse.map .int), .lst [.int (theirs - mine)]])[S'.length + 1]? = some (.lst [.int (theirs - mine)]) by simp]
              rw [show (S' ++ [Cell.lst ((ys.drop (i + 1)).reverse.map .int), .lst [.int (theirs - mine)]])[S'.length]? = some (.lst ((ys.drop (i + 1)).reverse.map .int)) by simp]
              simp only [List.length_cons, List.length_nil, Nat.zero_add, hsz, if_true, newL_eq]
              simp
            have h13 : evE (callN T (n + 2)) [some (tupI xs), some (tupI ys), some (.int ((ys.length : Int) - 1 + -(i : Int))), some (.int mine), some (.int theirs), some (.ref S'.length), f] (.bin .Add (.slot 5) (.lst (.cons (.bin .Sub (.slot 4) (.slot 3)) .nil))) (S' ++ [.lst ((ys.drop (i + 1)).reverse.map .int)]) = .ok (.ref (S'.length + 2)) (S' ++ [.lst ((ys.drop (i + 1)).reverse.map .int), .lst [.int (theirs - mine)], .lst (((ys.drop (i + 1)).reverse ++ [theirs - mine]).map .int)]) := by
              rw [← hadd]
              simp [sizeLine]
            simp only [xs_cons, x_asg, e_tup, es_cons, es_nil, e_call, e_slot, List.set_cons_succ, List.set_cons_zero, List.getElem?_cons_succ, List.getElem?_cons_zero, R.bind_ok, i1, i2, List.length_cons, List.length_nil, show (0 + 1 + 1 ≤ sizeLine) from le_sz (by omega), if_true, R.out_ok, g_tp, items_tup, gs_cons, gs_nil, g_nm, Out.thn_nx, x_iff, t_cmp, c_ne, opEq_int, R.map_ok, he, decide_false, Bool.not_false, hlc, x_ret, h13, hmd, Out.thn_rt]
        · rintro e S' ⟨rfl, _, hs⟩
          rw [rangeD_len] at hs
          exact ⟨rfl, hs⟩
      · rintro e S' ⟨rfl, hs⟩
        refine sat_rtI (d := tupI []) (S := S') (by simp [sizeLine]) ⟨by rw [rest_end ny h1 hs]; rfl, [], by simp⟩
  obtain ⟨v, S', e, rfl, G, rfl⟩ := sat_rt key
  refine call_pure hT rfl ?_ e
  cases restO xs ys <;> simp [optD]
end
end PD.PS
end

section
set_option linter.all false
set_option maxRecDepth 100000
set_option maxHeartbeats 1000000
/-! PDkept: what is kept, and how a hand is dealt. -/
namespace PD.PS
open PySem
section
variable {T : Tab} {n : Nat} {S : Store}
theorem opEq_self (i : Int) (S : Store) : opEq (.int i) (.int i) S = .ok true S := by
  rw [opEq_int, decide_eq_true rfl]
theorem e_and_true {F : Fn} {env : Env} {a b : E} {S' : Store} (h : evE F env a S = .ok (.bl true) S') : evE F env (.and a b) S = evE F env b S' := by
  rw [e_and, h]
  rfl
theorem e_and_false {F : Fn} {env : Env} {a b : E} {S' : Store} (h : evE F env a S = .ok (.bl false) S') : evE F env (.and a b) S = .ok (.bl false) S' := by
  rw [e_and, h]
  rfl
theorem kept_non (hT : T 15 = some d__law_kept) : callN T (n + 1) 15 [.non, .non] S = .ok (.bl true) S := by
  apply call_pure0 hT rfl
  simp [d__law_kept]
theorem kept_int (hT : T 15 = some d__law_kept) (x : Int) : callN T (n + 1) 15 [.int x, .int x] S = .ok (.bl true) S := by
  apply call_pure0 hT rfl
  simp [d__law_kept]
theorem kept_tup (hT : T 15 = some d__law_kept) (xs : List Int) (hl : xs.length ≤ 1000000) : callN T (n + 2) 15 [tupI xs, tupI xs] S = .ok (.bl true) S := by
  have hrg := rng1_sat (F := callN T (n + 1)) (env := [some (tupI xs), some (tupI xs), none]) (e := .blt .len (.cons (.slot 1) .nil)) (k := xs.length) (S := S) (S' := S) (by simp) (by omega) (by omega)
  rw [Int.toNat_natCast] at hrg
  have hlc : evE (callN T (n + 1)) [some (tupI xs), some (tupI xs), none] (.lc (.call 15 (.cons (.ix (.slot 0) (.slot 2)) (.cons (.ix (.slot 1) (.slot 2)) .nil))) (.nm 2) (.rng1 (.blt .len (.cons (.slot 1) .nil))) .no [2]) S = .ok (.ref S.length) (S ++ [.lst ((List.replicate xs.length true).map .bl)]) := by
    rw [lc_map (fun k => .bl true) hrg (by rw [rangeD_len]; exact le_sz (by omega)) ?_, rangeD_len, map_const_range, List.map_replicate]
    intro k d hd
    simp at hd
    obtain ⟨hk, rfl⟩ := hd
    refine ⟨_, g_nm _ _, by simp, ?_⟩
    have h1 := fun S => ix_tupI (S := S) (xs := xs) (k := k) (i := (k : Int)) rfl (List.getElem?_eq_getElem hk)
    have h2 := kept_int (n := n) (S := S) hT xs[k]
    simp [wipeE, h1, h2]
  apply call_pure hT rfl (lt_bl _ _) (G := [.lst ((List.replicate xs.length true).map .bl)])
  have h5 : (List.replicate xs.length true).all id = true := by simp
  have h6 : evE (callN T (n + 1)) [some (tupI xs), some (tupI xs), none] (.cmp .Eq (.blt .len (.cons (.slot 0) .nil)) (.blt .len (.cons (.slot 1) .nil))) S = .ok (.bl true) S := by
    simp only [e_cmp, e_blt, es_cons, es_nil, e_slot, List.getElem?_cons_succ, List.getElem?_cons_zero, R.bind_ok, len_tupI, c_eq, opEq_self, R.map_ok]
  show exTs (callN T (n + 1)) d__law_kept.body [some (tupI xs), some (tupI xs), none] S = _
  simp only [d__law_kept, xs_cons, x_iff, t_or, t_isi, t_cmp, e_isi, e_slot, List.getElem?_cons_succ, List.getElem?_cons_zero, R.bind_ok, ty_tupI, if_true, R.out_ok, c_ne, opEq_bl, R.map_ok, decide_true, Bool.not_true, Bool.false_eq_true, if_false, Out.thn_nx, xs_nil, x_ret]
  rw [e_and_true h6]
  simp only [e_blt, es_cons, es_nil, R.bind_ok, hlc, f_allr, items_ref, get_end, bls_bls, h5, R.out_ok, Out.thn_rt]
def hand0 (ns : List Int) : Hs := ⟨ns.take 63, (ns.take 63).map fun i => if i < 0 then -i else i, 0, 0, 31 + 7 * (ns.take 63).length, 0⟩
theorem hand_spec (hT : T 16 = some d__law_hand) (ns : List Int) : callN T (n + 1) 16 [.rol (ns.map .int)] [] = .ok (.ref 2) (hS (hand0 ns) []) := by
  have key : exTs (callN T n) d__law_hand.body [some (.rol (ns.map .int)), none, none] [] = .rt (.ref 2) (hS (hand0 ns) []) := by
    have hcut : cutD (ns.map D.int) none (some 63) = (ns.take 63).map D.int := by
      simp only [cutD, show (some (63 : Int)) = some ((63 : Nat) : Int) from rfl, HT.sIx_nat, HT.sIx_none, List.drop_zero, Nat.sub_zero, List.map_take]
      rw [List.take_eq_take_iff]
      omega
    have hev : evI (callN T n) [some (.rol (ns.map .int)), none, none] (.any (.slc (.slot 0) .no (.so (.cst (.int 63))))) [] = .ok (.ls 0) [.lst ((ns.take 63).map .int)] := by
      simp [hcut]
    have hlc : evE (callN T n) [some (.rol (ns.map .int)), none, none] (.lc (.blt .abs (.cons (.blt .int (.cons (.slot 2) .nil)) .nil)) (.nm 2) (.any (.slc (.slot 0) .no (.so (.cst (.int 63))))) .no [2]) [] = .ok (.ref 1) [.lst ((ns.take 63).map .int), .lst ((hand0 ns).cs.map .int)] := by
      rw [lc_map_ls (S' := [.lst ((ns.take 63).map .int)]) (c := 0) (items := (ns.take 63).map .int) (fun k => .int ((hand0 ns).cs.getD k 0)) hev rfl (by simp; exact Nat.le_trans (Nat.min_le_left _ _) (le_sz (by omega))) ?_]
      · have : (List.range ((ns.take 63).map D.int).length).map (fun k => D.int ((hand0 ns).cs.getD k 0)) = (hand0 ns).cs.map .int := by
          apply List.ext_getElem?
          intro i
          by_cases hi : i < (ns.take 63).length
          · rw [List.getElem?_map, List.getElem?_range (by simpa using hi), List.getElem?_map]
            have h2 : i < (hand0 ns).cs.length := by simpa [hand0] using hi
            rw [List.getElem?_eq_getElem h2]
            simp [List.getD_eq_getElem?_getD, List.getElem?_eq_getElem h2]
          · rw [List.getElem?_eq_none (by simpa using hi), List.getElem?_eq_none (by simpa [hand0] using hi)]
        rw [this]
        rfl
      · intro k d hd
        obtain ⟨x, hx, rfl⟩ : ∃ x, (ns.take 63)[k]? = some x ∧ d = .int x := by
          rw [List.getElem?_map] at hd
          cases h : (ns.take 63)[k]? with
          | none => rw [h] at hd; cases hd
          | some x => rw [h] at hd; cases hd; exact ⟨x, rfl, rfl⟩
        refine ⟨_, g_nm _ _, by simp, ?_⟩
        have : (hand0 ns).cs.getD k 0 = if x < 0 then -x else x := by
          simp only [hand0, List.getD_eq_getElem?_getD, List.getElem?_map, hx, Option.map_some, Option.getD_some]
        rw [this]
        simp [wipeE]
    have h7 : ∀ x : Int, mulOk 7 x = true := fun x => mulOk_l (by decide)
    have hn : (hand0 ns).cs.length = (ns.take 63).length := by simp [hand0]
    simp only [d__law_hand, xs_cons, x_asg, hlc, R.out_ok, g_nm, List.set_cons_succ, List.set_cons_zero, Out.thn_nx]
    simp [h7, sizeLine, hS, hn]
    simp [hand0]
  rw [call_rt hT rfl key]
  rfl
end
end PD.PS
end

section
set_option linter.all false
set_option maxRecDepth 100000
set_option maxHeartbeats 1000000
/-! PDdraw: draws as functions; what a call drops; comprehensions and loops by lists. -/
namespace PD.PS
open PySem
/-! ### a draw -/
def stepH (h : Hs) : Hs := if h.l = 0 ∧ h.i < h.cs.length then ⟨h.sl, h.cs, h.i + 1, if 1000000000000000000 ≤ h.cs.getD h.i 0 then h.cs.getD h.i 0 else 0, (h.m * 48271 + h.cs.getD h.i 0 + 11) % 2147483647, h.k⟩ else h
def restV (h : Hs) (m : Int) : Int := if 0 < h.l then h.l % m else mixN h.m (h.k + 1) % m
def restH (h : Hs) (m : Int) : Hs := if 0 < h.l then ⟨h.sl, h.cs, h.i, h.l / m, h.m, h.k⟩ else ⟨h.sl, h.cs, h.i, h.l, h.m, h.k + 1⟩
def drawV (h : Hs) (m : Int) : Int := restV (stepH h) m
def drawH (h : Hs) (m : Int) : Hs := restH (stepH h) m
theorem drawV_nn (h : Hs) {m : Int} (h0 : 0 < m) : 0 ≤ drawV h m := by
  unfold drawV restV
  split <;> exact Int.emod_nonneg _ (by omega)
theorem drawV_lt (h : Hs) {m : Int} (h0 : 0 < m) : drawV h m < m := by
  unfold drawV restV
  split <;> exact Int.emod_lt_of_pos _ h0
theorem draw_restE {F : Fn} (h : Hs) (G : Store) (m : Int) (h0 : 0 < m) (h1 : m.natAbs.log2 < 9000) (a b c : Option D) :
    exTs F drawRest [some (.ref 2), some (.int m), a, b, c] (hS h G) = .rt (.int (restV h m)) (hS (restH h m) G) := by
  by_cases hl : 0 < h.l
  · simp [drawRest, d__law_draw, hS, L2.atI, L2.ixN, hl, h0, h1, restV, restH]
  · have e1 : ∀ x : Int, mulOk x 69621 = true := fun x => mulOk_r (by decide)
    have e2 : ∀ x : Int, mulOk 6007 x = true := fun x => mulOk_l (by decide)
    simp [drawRest, d__law_draw, hS, L2.atI, L2.ixN, hl, h0, h1, e1, e2, mulOk_emod, mixN, restV, restH, (by decide : Nat.log2 1013 < 9000), (by decide : Nat.log2 2011 < 9000), (by decide : Nat.log2 32 < 9000)]
theorem draw_key {F : Fn} (h : Hs) (G : Store) (m : Int) (h0 : 0 < m) (h1 : m < 10 ^ 50) :
    exTs F d__law_draw.body [some (.ref 2), some (.int m), none, none, none] (hS h G) = .rt (.int (drawV h m)) (hS (drawH h m) G) := by
    have hl := log2_lt h1 h0
    have e0 : d__law_draw.body = .cons (match d__law_draw.body with | .cons x _ => x | .nil => .pas) drawRest := rfl
    by_cases hz : h.l = 0 ∧ h.i < h.cs.length
    · obtain ⟨hz, hi⟩ := hz
      obtain ⟨sl, cs, i, l, mm, k⟩ := h
      simp only at hz hi
      subst hz
      obtain ⟨c, hc⟩ : ∃ c, cs[i] = c := ⟨_, rfl⟩
      have hc2 : cs.getD i 0 = c := by simp [List.getD_eq_getElem?_getD, hi, hc]
      have e1 : ∀ x : Int, mulOk x 48271 = true := fun x => mulOk_r (by decide)
      by_cases hg : 1000000000000000000 ≤ c
      · have hs : stepH ⟨sl, cs, i, 0, mm, k⟩ = ⟨sl, cs, i + 1, c, (mm * 48271 + c + 11) % 2147483647, k⟩ := by simp [stepH, hi, hc, hg]
        rw [e0, xs_cons, drawV, drawH, hs, ← draw_restE (F := F) ⟨sl, cs, i + 1, c, (mm * 48271 + c + 11) % 2147483647, k⟩ G m h0 hl none (some (.int c)) none]
        simp [d__law_draw, hS, L2.atI, L2.ixN, e1, hi, hc, hg, powOk, opEq_int]
      · have hs : stepH ⟨sl, cs, i, 0, mm, k⟩ = ⟨sl, cs, i + 1, 0, (mm * 48271 + c + 11) % 2147483647, k⟩ := by simp [stepH, hi, hc, hg]
        rw [e0, xs_cons, drawV, drawH, hs, ← draw_restE (F := F) ⟨sl, cs, i + 1, 0, (mm * 48271 + c + 11) % 2147483647, k⟩ G m h0 hl none (some (.int c)) none]
        simp [d__law_draw, hS, L2.atI, L2.ixN, e1, hi, hc, hg, powOk, opEq_int]
    · have hs : stepH h = h := if_neg hz
      rw [e0, xs_cons, drawV, drawH, hs, ← draw_restE (F := F) h G m h0 hl none none none]
      by_cases hz1 : h.l = 0
      · have hz2 : ¬ h.i < h.cs.length := fun x => hz ⟨hz1, x⟩
        simp [d__law_draw, hS, L2.atI, L2.ixN, hz1, hz2]
      · simp [d__law_draw, hS, L2.atI, L2.ixN, hz1]
theorem draw_eq {T : Tab} (hT : T 9 = some d__law_draw) {n : Nat} (h : Hs) (G : Store) (m : Int) (h0 : 0 < m) (h1 : m < 10 ^ 50) :
    callN T (n + 1) 9 [.ref 2, .int m] (hS h G) = .ok (.int (drawV h m)) (hS (drawH h m) G) := call_hand0 hT rfl (draw_key h G m h0 h1)
/-- within an except suite -/
theorem draw_eqH {T : Tab} {i : Nat} (hT : T i = some d__law_draw) {n : Nat} (h : Hs) (G : Store) (m : Int) (h0 : 0 < m) (h1 : m < 10 ^ 50) :
    callN T (n + 1) i [.ref 2, .int m] (hS h G) = .ok (.int (drawV h m)) (hS (drawH h m) G) := call_hand0 hT rfl (draw_key h G m h0 h1)
/-! ### garbage -/
mutual
theorem D.lt_mono {m n : Nat} (h : m ≤ n) : ∀ d : D, D.lt m d = true → D.lt n d = true
  | .non, _ => rfl
  | .bl _, _ => rfl
  | .int _, _ => rfl
  | .str _, _ => rfl
  | .tup ds, q => by simp only [D.lt] at q ⊢; exact D.lts_mono h ds q
  | .rol ds, q => by simp only [D.lt] at q ⊢; exact D.lts_mono h ds q
  | .ref k, q => by simp only [D.lt, decide_eq_true_eq] at q ⊢; omega
theorem D.lts_mono {m n : Nat} (h : m ≤ n) : ∀ ds : List D, D.lts m ds = true → D.lts n ds = true
  | [], _ => rfl
  | d :: ds, q => by
    simp only [D.lts, Bool.and_eq_true] at q ⊢
    exact ⟨D.lt_mono h d q.1, D.lts_mono h ds q.2⟩
end
theorem Cell.lt_mono {m n : Nat} (h : m ≤ n) : ∀ c : Cell, Cell.lt m c = true → Cell.lt n c = true
  | .lst ds, q => D.lts_mono h ds q
  | .dic kvs, q => by simp only [Cell.lt] at q ⊢; exact D.lts_mono h _ q
  | .oth, _ => rfl
/-- no cell holds what is made later -/
def GW (G : Store) : Prop := cellsLt (G.length + 3) G = true
theorem GW.nil : GW [] := rfl
theorem GW.app {G X : Store} (h : GW G) (hX : cellsLt (G.length + X.length + 3) X = true) : GW (G ++ X) := by
  unfold GW cellsLt at *
  rw [List.length_append, List.all_append, Bool.and_eq_true]
  refine ⟨List.all_eq_true.2 fun c hc => Cell.lt_mono (by omega) c (List.all_eq_true.1 h c hc), hX⟩
theorem lts_of {n : Nat} : ∀ {ds : List D}, (∀ d ∈ ds, D.lt n d = true) → D.lts n ds = true
  | [], _ => rfl
  | d :: ds, h => by
    simp only [D.lts, Bool.and_eq_true]
    exact ⟨h d (List.mem_cons_self), lts_of fun e he => h e (List.mem_cons_of_mem _ he)⟩
theorem GW.lst {G : Store} {ds : List D} (h : GW G) (hd : D.lts 0 ds = true) : GW (G ++ [.lst ds]) := h.app (by simp [cellsLt, Cell.lt, D.lts_mono (Nat.zero_le _) ds hd])
theorem GW.set {G : Store} {n : Nat} {c : Cell} (h : GW G) (hc : Cell.lt (G.length + 3) c = true) : GW (G.set n c) := by
  unfold GW cellsLt at *
  rw [List.length_set]
  refine List.all_eq_true.2 fun x hx => ?_
  rcases List.mem_or_eq_of_mem_set hx with q | q
  · exact List.all_eq_true.1 h x q
  · rw [q]; exact hc
theorem cells_hS {h : Hs} {G : Store} (g : GW G) : cellsLt (G.length + 3) (hS h G) = true := by
  unfold GW at g
  simp only [hS, cellsLt, List.all_cons, Cell.lt, lts_ints, Bool.true_and, D.lts, D.lt, Bool.and_true, Bool.and_eq_true] at *
  exact ⟨by simp, g⟩
theorem gcS_GW {h h' : Hs} {G X : Store} {v : D} (g : GW G) (hv : D.lt (G.length + 3) v = true) : gcS (hS h G) v (hS h' (G ++ X)) = hS h' G := by
  rw [← hS_app]
  exact gcS_wf (by simp) (by simpa using hv) (by simpa using cells_hS g)
theorem call_GW {T : Tab} {n f : Nat} {d : Def} {xs : List D} {h h' : Hs} {G X : Store} {v : D} (hT : T f = some d) (hl : xs.length = d.np) (g : GW G) (hv : D.lt (G.length + 3) v = true) (hr : exTs (callN T n) d.body (xs.map some ++ List.replicate (d.ns - xs.length) none) (hS h G) = .rt v (hS h' (G ++ X))) : callN T (n + 1) f xs (hS h G) = .ok v (hS h' G) := by
  rw [call_rt hT hl hr, gcS_GW g hv]
/-! ### comprehensions by lists -/
theorem lcGo_fm {α : Type} (dd : α → D) (g : α → Option D) {nx : Nat → Store → R (Option D)} {tgt : D → Store → Option Env} {tst : Env → Store → R Bool} {elt : Env → Store → R D} {S : Store} (l : List α)
    (hn : ∀ i : Nat, nx i S = .ok ((l.map dd)[i]?) S)
    (step : ∀ x ∈ l, ∃ e, tgt (dd x) S = some e ∧ ((∃ y, g x = some y ∧ tst e S = .ok true S ∧ elt e S = .ok y S) ∨ (g x = none ∧ tst e S = .ok false S))) (hl : l.length ≤ sizeLine) :
    ∀ n i acc, i ≤ l.length → l.length < n + i → acc.length ≤ i → lcGo nx tgt tst elt n i acc S = .ok (acc ++ (l.drop i).filterMap g) S
  | 0, i, acc, h1, h2, h => by omega
  | n + 1, i, acc, h1, h2, h => by
    simp only [lcGo, hn, R.bind_ok]
    rcases Nat.lt_or_ge i l.length with hi | hi
    · have hd : (l.map dd)[i]? = some (dd l[i]) := by simp [hi]
      have hdr : l.drop i = l[i] :: l.drop (i + 1) := List.drop_eq_getElem_cons hi
      obtain ⟨e, h3, h4⟩ := step l[i] (List.getElem_mem hi)
      rcases h4 with ⟨y, h5, h6, h7⟩ | ⟨h5, h6⟩
      · simp only [hd, h3, h6, h7, R.bind_ok, if_true]
        rw [if_pos (by omega), lcGo_fm dd g l hn step hl n (i + 1) _ (by omega) (by omega) (by simp; omega), hdr]
        simp only [List.filterMap_cons, h5, List.append_assoc, List.cons_append, List.nil_append]
      · simp only [hd, h3, h6, R.bind_ok, Bool.false_eq_true, if_false]
        rw [lcGo_fm dd g l hn step hl n (i + 1) _ (by omega) (by omega) (by omega), hdr]
        simp only [List.filterMap_cons, h5]
    · have : (l.map dd)[i]? = none := by simp [hi]
      rw [this, List.drop_eq_nil_of_le hi]
      simp
theorem lc_fm {α : Type} (dd : α → D) (g : α → Option D) (l : List α) {F : Fn} {env : Env} {e : E} {t : Tg} {s : I} {c : Oe} {own : List Nat} {S S' : Store}
    (hs : evI F env s S = .ok (.st (l.map dd)) S') (hl : l.length ≤ sizeLine)
    (step : ∀ x ∈ l, ∃ e', asgT S' t (dd x) (wipeE env own) = some e' ∧ ((∃ y, g x = some y ∧ evOT F e' c S' = .ok true S' ∧ evE F e' e S' = .ok y S') ∨ (g x = none ∧ evOT F e' c S' = .ok false S'))) :
    evE F env (.lc e t s c own) S = .ok (.ref S'.length) (S' ++ [.lst (l.filterMap g)]) := by
  rw [e_lc, hs, R.bind_ok, lcGo_fm dd g l (nx := (Src.st (l.map dd)).nx) (fun i => rfl) step hl wmax 0 [] (Nat.zero_le _) (by have := wmax_lt hl; omega) (by simp)]
  simp [newL]
theorem lc_fm_ls {α : Type} (dd : α → D) (g : α → Option D) (l : List α) {F : Fn} {env : Env} {e : E} {t : Tg} {s : I} {c : Oe} {own : List Nat} {S S' : Store} {k : Nat}
    (hs : evI F env s S = .ok (.ls k) S') (hk : S'[k]? = some (.lst (l.map dd))) (hl : l.length ≤ sizeLine)
    (step : ∀ x ∈ l, ∃ e', asgT S' t (dd x) (wipeE env own) = some e' ∧ ((∃ y, g x = some y ∧ evOT F e' c S' = .ok true S' ∧ evE F e' e S' = .ok y S') ∨ (g x = none ∧ evOT F e' c S' = .ok false S'))) :
    evE F env (.lc e t s c own) S = .ok (.ref S'.length) (S' ++ [.lst (l.filterMap g)]) := by
  rw [e_lc, hs, R.bind_ok, lcGo_fm dd g l (nx := (Src.ls k).nx) (fun i => by simp [Src.nx, hk]) step hl wmax 0 [] (Nat.zero_le _) (by have := wmax_lt hl; omega) (by simp)]
  simp [newL]
/-- all elements are kept -/
theorem lc_m {α : Type} (dd : α → D) (g : α → D) (l : List α) {F : Fn} {env : Env} {e : E} {t : Tg} {s : I} {own : List Nat} {S S' : Store}
    (hs : evI F env s S = .ok (.st (l.map dd)) S') (hl : l.length ≤ sizeLine)
    (step : ∀ x ∈ l, ∃ e', asgT S' t (dd x) (wipeE env own) = some e' ∧ evE F e' e S' = .ok (g x) S') :
    evE F env (.lc e t s .no own) S = .ok (.ref S'.length) (S' ++ [.lst (l.map g)]) := by
  rw [lc_fm dd (fun x => some (g x)) l hs hl fun x hx => ?_]
  · simp
  · obtain ⟨e', h1, h2⟩ := step x hx
    exact ⟨e', h1, .inl ⟨_, rfl, ot_no, h2⟩⟩
theorem lc_m_ls {α : Type} (dd : α → D) (g : α → D) (l : List α) {F : Fn} {env : Env} {e : E} {t : Tg} {s : I} {own : List Nat} {S S' : Store} {k : Nat}
    (hs : evI F env s S = .ok (.ls k) S') (hk : S'[k]? = some (.lst (l.map dd))) (hl : l.length ≤ sizeLine)
    (step : ∀ x ∈ l, ∃ e', asgT S' t (dd x) (wipeE env own) = some e' ∧ evE F e' e S' = .ok (g x) S') :
    evE F env (.lc e t s .no own) S = .ok (.ref S'.length) (S' ++ [.lst (l.map g)]) := by
  rw [lc_fm_ls dd (fun x => some (g x)) l hs hk hl fun x hx => ?_]
  · simp
  · obtain ⟨e', h1, h2⟩ := step x hx
    exact ⟨e', h1, .inl ⟨_, rfl, ot_no, h2⟩⟩
/-! ### loops by lists -/
theorem for_pre {α : Type} (dd : α → D) (l : List α) {F : Fn} {t : Tg} {s : I} {b : Ts} {env : Env} {S S' : Store} {N : Env → Store → Prop} {Q : D → Store → Prop}
    (hs : evI F env s S = .ok (.st (l.map dd)) S') (hl : l.length ≤ sizeLine) (I : List α → Env → Store → Prop) (h0 : I [] env S')
    (step : ∀ pre x post env S, l = pre ++ x :: post → I pre env S → ∃ env1, asgT S t (dd x) env = some env1 ∧ (exTs F b env1 S).satB (I (pre ++ [x])) N Q)
    (fin : ∀ env S, I l env S → N env S) : (exT F (.for_ t s b) env S).sat N Q := by
  refine for_sat hs (by simpa using hl) (fun i e S => I (l.take i) e S) (by simpa using h0) (fun i d e S hd hI => ?_) (fun e S hI => fin e S (by simpa using hI))
  have hi : i < l.length := by
    rcases Nat.lt_or_ge i l.length with h | h
    · exact h
    · rw [List.getElem?_eq_none (by simpa using h)] at hd; cases hd
  have hx : d = dd l[i] := by simp [hi] at hd; exact hd.symm
  subst hx
  obtain ⟨env1, h1, h2⟩ := step (l.take i) l[i] (l.drop (i + 1)) e S (by rw [List.getElem_cons_drop, List.take_append_drop]) hI
  rw [← List.take_succ_eq_append_getElem hi] at h2
  exact ⟨env1, h1, h2⟩
end PD.PS
end

section
set_option linter.all false
set_option maxRecDepth 100000
set_option maxHeartbeats 1000000
/-! PDnum: the law's numbers, in a well-formed store; trim of a tuple; loops over lists. -/
namespace PD.PS
open PySem
/-- the law's numbers leave a well-formed store as it was -/
theorem numbers_GW {T : Tab} (hT : T 9 = some d__law_draw) (hB : T 14 = some d__law_big) (hR : T 10 = some d__law_trim) (hN : T 17 = some d__law_numbers) {n : Nat} (h : Hs) (G : Store) (g : GW G) (many great B : Int)
    (m0 : 0 ≤ many) (m1 : many ≤ 1000) (g0 : 0 < great) (g1 : great.natAbs.log2 < 1920) (g2 : lenStr great ≤ 600) (hb : great ≤ B) (hb2 : 10 ≤ B) :
    ∃ xs h', (xs.length : Int) ≤ many ∧ noNought xs ∧ (∀ x ∈ xs, 0 ≤ x ∧ x < B) ∧ callN T (n + 3) 17 [.ref 2, .int many, .int great] (hS h G) = .ok (tupI xs) (hS h' G) := by
  obtain ⟨k, h1, k0, k1, hk⟩ := draw_spec hT (n := n + 1) h (G ++ [.lst []]) (many + 1) (by omega) (by omega)
  have key : (exTs (callN T (n + 2)) d__law_numbers.body [some (.ref 2), some (.int many), some (.int great), none, none] (hS h G)).sat (fun _ _ => False) (fun v S => ∃ xs h' G', (xs.length : Int) ≤ many ∧ noNought xs ∧ (∀ x ∈ xs, 0 ≤ x ∧ x < B) ∧ v = tupI xs ∧ S = hS h' (G ++ G')) := by
    simp only [d__law_numbers, xs_cons]
    simp only [x_asg, e_lst, es_nil, R.bind_ok, newL_eq, R.out_ok, g_nm, List.set_cons_succ, List.set_cons_zero, Out.thn_nx, List.length_nil, Nat.zero_le, if_true, hS_len, hS_app]
    refine sat_thn (N := fun e S => ∃ (fs : List Int) (t : Option D) (h' : Hs) (G' : Store), e = [some (.ref 2), some (.int many), some (.int great), some (.ref (G.length + 3)), t] ∧ S = hS h' (G ++ .lst (fs.map .int) :: G') ∧ (fs.length : Int) ≤ many ∧ ∀ x ∈ fs, 0 ≤ x ∧ x < B)
      (for_sat (items := rangeD 0 1 k.toNat) (S' := hS h1 (G ++ [.lst []])) (rng1_sat ?_ (by omega) (by omega)) (by simp; unfold sizeLine; omega) (fun i e S => ∃ (fs : List Int) (t : Option D) (h' : Hs) (G' : Store), e = [some (.ref 2), some (.int many), some (.int great), some (.ref (G.length + 3)), t] ∧ S = hS h' (G ++ .lst (List.map .int fs) :: G') ∧ fs.length = i ∧ ∀ x ∈ fs, 0 ≤ x ∧ x < B) ⟨[], none, h1, [], rfl, rfl, rfl, by simp⟩ ?_ ?_) ?_
    · simp [hk]
    · rintro i d env S hd ⟨fs, t, h', G', rfl, rfl, hl, hx⟩
      have hi : i < k.toNat := by
        simp at hd; omega
      obtain ⟨d1, h2, a0, a1, e1⟩ := draw_spec hT (n := n + 1) h' (G ++ .lst (fs.map .int) :: G') 4 (by decide) (by decide)
      obtain ⟨d2, h3, b0, b1, e2⟩ := draw_spec hT (n := n + 1) h2 (G ++ .lst (fs.map .int) :: G') 9 (by decide) (by decide)
      obtain ⟨d3, h4, c0, c1, e3⟩ := big_spec hT hB (n := n) h3 (G ++ .lst (fs.map .int) :: G') great g0 g1 g2
      obtain ⟨d4, h5, f0, f1, e4⟩ := draw_spec hT (n := n + 1) h4 (G ++ .lst (fs.map .int) :: (G' ++ [.lst [.int 0, .int d1, .int (1 + d2), .int d3]])) 4 (by decide) (by decide)
      have hsz : fs.length < 16777216 := by omega
      obtain ⟨y, hy, hy0, hy1⟩ : ∃ y, L2.atI [D.int 0, .int d1, .int (1 + d2), .int d3] d4 = some (.int y) ∧ 0 ≤ y ∧ y < B := by
        rcases (by omega : d4 = 0 ∨ d4 = 1 ∨ d4 = 2 ∨ d4 = 3) with rfl | rfl | rfl | rfl
        · exact ⟨0, by simp [L2.atI, L2.ixN], by omega, by omega⟩
        · exact ⟨d1, by simp [L2.atI, L2.ixN], by omega, by omega⟩
        · exact ⟨1 + d2, by simp [L2.atI, L2.ixN], by omega, by omega⟩
        · exact ⟨d3, by simp [L2.atI, L2.ixN], by omega, by omega⟩
      refine ⟨_, g_nm _ _, satB_nx (e := [some (.ref 2), some (.int many), some (.int great), some (.ref (G.length + 3)), some d]) (S := hS h5 (G ++ .lst ((fs ++ [y]).map .int) :: (G' ++ [.lst [.int 0, .int d1, .int (1 + d2), .int d3]]))) ?_ ⟨fs ++ [y], some d, h5, _, rfl, rfl, by simp [hl], ?_⟩⟩
      · simp [e1, e2, e3, e4, hy, hsz, sizeLine]
      · intro x hx'
        simp at hx'
        rcases hx' with hx' | rfl
        · exact hx x hx'
        · exact ⟨hy0, hy1⟩
    · rintro env S ⟨fs, t, h', G', rfl, rfl, hl, hx⟩
      refine ⟨fs, t, h', G', rfl, rfl, ?_, hx⟩
      simp at hl
      omega
    · rintro env S ⟨fs, t, h', G', rfl, rfl, hl, hx⟩
      have ht := trim_spec hR (n := n + 1) (hS h' (G ++ .lst (fs.map .int) :: G')) (G.length + 3) fs (by simp) (by unfold sizeLine; omega)
      refine sat_rtI (d := tupI (trimI fs)) (S := hS h' (G ++ .lst (fs.map .int) :: G')) ?_ ⟨trimI fs, h', _, ?_, trimI_ok _, fun x hx' => hx x (trimI_mem hx'), rfl, rfl⟩
      · simp [ht]
      · have := trimI_len fs
        omega
  obtain ⟨v, S, e, xs, h', G', p1, p2, p3, rfl, rfl⟩ := sat_rt key
  exact ⟨xs, h', p1, p2, p3, call_GW (xs := [.ref 2, .int many, .int great]) hN rfl g (lt_tupI _ _) e⟩
section
variable {T : Tab} {n : Nat} {S : Store}
theorem trim_tup (hT : T 10 = some PD.d__law_trim) (xs : List Int) (hl : xs.length ≤ sizeLine) : callN T (n + 1) 10 [tupI xs] S = .ok (tupI (trimI xs)) S := by
  have key : (exTs (callN T n) PD.d__law_trim.body [some (tupI xs), none] S).sat (fun _ _ => False) (fun v S' => v = tupI (trimI xs) ∧ ∃ G, S' = S ++ G) := by
    simp only [PD.d__law_trim, xs_cons]
    simp only [x_asg, e_blt, es_cons, es_nil, e_slot, List.getElem?_cons_zero, R.bind_ok, f_listT, newL_eq, R.out_ok, g_nm, List.set_cons_succ, List.set_cons_zero, Out.thn_nx]
    refine sat_thn (N := fun e S' => ∃ r G, e = [some (tupI xs), some (.ref r)] ∧ S' = S ++ G ∧ S'[r]? = some (.lst ((trimI xs).map .int)))
      (whl_sat (fun m e S' => ∃ r G ys, e = [some (tupI xs), some (.ref r)] ∧ S' = S ++ G ∧ S'[r]? = some (.lst (List.map .int ys)) ∧ ys.length = m ∧ trimI ys = trimI xs) xs.length hl ⟨S.length, _, xs, rfl, rfl, by simp, rfl, rfl⟩ ?_) ?_
    · rintro m env S' ⟨r, G, ys, rfl, rfl, hr, rfl, ht⟩
      cases ys with
      | nil =>
        left
        refine ⟨S ++ G, ?_, r, G, rfl, rfl, ?_⟩
        · simp [hr]
        · rw [hr, ← ht]; rfl
      | cons y ys =>
        by_cases hy : y = 0
        · right
          subst hy
          refine ⟨S ++ G, by simp [hr, L2.atI, L2.ixN], satB_nx (e := [some (tupI xs), some (.ref (S ++ G).length)]) (S := S ++ G ++ [.lst (ys.map .int)]) ?_ ⟨ys.length, by simp, (S ++ G).length, G ++ [.lst (ys.map .int)], ys, rfl, by simp, by simp, rfl, ?_⟩⟩
          · simp [hr, cutD, HT.sIx, List.take_of_length_le]
          · rw [← ht]; simp [trimI]
        · left
          refine ⟨S ++ G, by simp [hr, L2.atI, L2.ixN, hy], r, G, rfl, rfl, ?_⟩
          rw [hr, ← ht]
          simp [trimI, hy]
    · rintro e S' ⟨r, G, rfl, rfl, hr⟩
      exact sat_rtI (d := tupI (trimI xs)) (S := S ++ G) (by simp [hr]; rfl) ⟨rfl, G, rfl⟩
  obtain ⟨v, S', e, rfl, G, rfl⟩ := sat_rt key
  exact call_pure hT rfl (lt_tupI _ _) e
end
theorem for_ls_sat {F : Fn} {t : Tg} {s : I} {b : Ts} {env : Env} {S S' : Store} {c : Nat} {items : List D} {N : Env → Store → Prop} {Q : D → Store → Prop}
    (hs : evI F env s S = .ok (.ls c) S') (hl : items.length ≤ sizeLine) (I : Nat → Env → Store → Prop) (hc : ∀ i env S, I i env S → S[c]? = some (.lst items)) (h0 : I 0 env S')
    (step : ∀ i d env S, items[i]? = some d → I i env S → ∃ env1, asgT S t d env = some env1 ∧ (exTs F b env1 S).satB (I (i + 1)) N Q)
    (fin : ∀ env S, I items.length env S → N env S) : (exT F (.for_ t s b) env S).sat N Q := by
  rw [x_for, hs, R.out_ok]
  exact forGo_ls I N Q hc step fin wmax 0 env S' (Nat.zero_le _) (by have := wmax_lt hl; omega) h0
end PD.PS
end

section
set_option linter.all false
set_option maxRecDepth 100000
set_option maxHeartbeats 2000000
/-! PDex: runs that may end with an exception. -/
namespace PD.PS
open PySem
def _root_.PD.Out.satX (o : Out) (N : Env → Store → Prop) (Q : D → Store → Prop) (X : Exn → Store → Prop) : Prop :=
  match o with
  | .nx e S => N e S
  | .rt d S => Q d S
  | .ex x _ S => X x S
  | _ => False
def _root_.PD.Out.satBX (o : Out) (N B : Env → Store → Prop) (Q : D → Store → Prop) (X : Exn → Store → Prop) : Prop :=
  match o with
  | .nx e S => N e S
  | .ct e S => N e S
  | .bk e S => B e S
  | .rt d S => Q d S
  | .ex x _ S => X x S
  | _ => False
theorem satX_thn {o : Out} {f : Env → Store → Out} {N N' : Env → Store → Prop} {Q : D → Store → Prop} {X : Exn → Store → Prop} (h : o.satX N Q X) (hf : ∀ e S, N e S → (f e S).satX N' Q X) : (o.thn f).satX N' Q X := by
  cases o <;> simp only [Out.satX] at h
  · exact hf _ _ h
  · exact h
  · exact h
theorem satX_rt {o : Out} {N : Env → Store → Prop} {Q : D → Store → Prop} {X : Exn → Store → Prop} {d : D} {S : Store} (h : o = .rt d S) (hQ : Q d S) : o.satX N Q X := by subst h; exact hQ
theorem satX_nx {o : Out} {N : Env → Store → Prop} {Q : D → Store → Prop} {X : Exn → Store → Prop} {e : Env} {S : Store} (h : o = .nx e S) (hQ : N e S) : o.satX N Q X := by subst h; exact hQ
theorem satX_ex {o : Out} {N : Env → Store → Prop} {Q : D → Store → Prop} {X : Exn → Store → Prop} {x : Exn} {e : Env} {S : Store} (h : o = .ex x e S) (hQ : X x S) : o.satX N Q X := by subst h; exact hQ
theorem satBX_rt {o : Out} {N B : Env → Store → Prop} {Q : D → Store → Prop} {X : Exn → Store → Prop} {d : D} {S : Store} (h : o = .rt d S) (hQ : Q d S) : o.satBX N B Q X := by subst h; exact hQ
theorem satBX_nx {o : Out} {N B : Env → Store → Prop} {Q : D → Store → Prop} {X : Exn → Store → Prop} {e : Env} {S : Store} (h : o = .nx e S) (hQ : N e S) : o.satBX N B Q X := by subst h; exact hQ
theorem satBX_ex {o : Out} {N B : Env → Store → Prop} {Q : D → Store → Prop} {X : Exn → Store → Prop} {x : Exn} {e : Env} {S : Store} (h : o = .ex x e S) (hQ : X x S) : o.satBX N B Q X := by subst h; exact hQ
/-- how such a run ends -/
theorem satX_end {o : Out} {Q : D → Store → Prop} {X : Exn → Store → Prop} (h : o.satX (fun _ _ => False) Q X) : (∃ d S, o = .rt d S ∧ Q d S) ∨ ∃ x e S, o = .ex x e S ∧ X x S := by
  cases o <;> simp only [Out.satX] at h
  · exact .inl ⟨_, _, rfl, h⟩
  · exact .inr ⟨_, _, _, rfl, h⟩
theorem satX_endN {o : Out} {N : Env → Store → Prop} {X : Exn → Store → Prop} (h : o.satX N (fun _ _ => False) X) : (∃ e S, o = .nx e S ∧ N e S) ∨ ∃ x e S, o = .ex x e S ∧ X x S := by
  cases o <;> simp only [Out.satX] at h
  · exact .inl ⟨_, _, rfl, h⟩
  · exact .inr ⟨_, _, _, rfl, h⟩
theorem satX_sat {o : Out} {N : Env → Store → Prop} {Q : D → Store → Prop} {X : Exn → Store → Prop} (h : o.sat N Q) : o.satX N Q X := by
  cases o <;> simp only [Out.sat] at h <;> exact h
theorem forGo_stX {items : List D} {t : Tg} {b : Env → Store → Out} (I : Nat → Env → Store → Prop) (N : Env → Store → Prop) (Q : D → Store → Prop) (X : Exn → Store → Prop)
    (step : ∀ i d env S, items[i]? = some d → I i env S → ∃ env1, asgT S t d env = some env1 ∧ (b env1 S).satBX (I (i + 1)) N Q X)
    (fin : ∀ env S, I items.length env S → N env S) :
    ∀ n i env S, i ≤ items.length → items.length < n + i → I i env S → (forGo (Src.st items).nx t b n i env S).satX N Q X
  | 0, i, env, S, h1, h2, h => by omega
  | n + 1, i, env, S, h1, h2, h => by
    simp only [forGo, Src.nx, R.out_ok]
    rcases Nat.lt_or_ge i items.length with hl | hl
    · have hd : items[i]? = some items[i] := List.getElem?_eq_getElem hl
      obtain ⟨env1, ha, hb⟩ := step i _ env S hd h
      simp only [hd, ha]
      cases hbe : b env1 S <;> simp only [hbe, Out.satBX] at hb
      · exact forGo_stX I N Q X step fin n (i + 1) _ _ (by omega) (by omega) hb
      · exact hb
      · exact hb
      · exact forGo_stX I N Q X step fin n (i + 1) _ _ (by omega) (by omega) hb
      · exact hb
    · have : items.length = i := by omega
      rw [List.getElem?_eq_none hl]
      simp only [Out.satX]
      exact fin _ _ (this ▸ h)
theorem forGo_lsX {c : Nat} {items : List D} {t : Tg} {b : Env → Store → Out} (I : Nat → Env → Store → Prop) (N : Env → Store → Prop) (Q : D → Store → Prop) (X : Exn → Store → Prop)
    (hc : ∀ i env S, I i env S → S[c]? = some (.lst items))
    (step : ∀ i d env S, items[i]? = some d → I i env S → ∃ env1, asgT S t d env = some env1 ∧ (b env1 S).satBX (I (i + 1)) N Q X)
    (fin : ∀ env S, I items.length env S → N env S) :
    ∀ n i env S, i ≤ items.length → items.length < n + i → I i env S → (forGo (Src.ls c).nx t b n i env S).satX N Q X
  | 0, i, env, S, h1, h2, h => by omega
  | n + 1, i, env, S, h1, h2, h => by
    simp only [forGo, Src.nx, hc i env S h, R.out_ok]
    rcases Nat.lt_or_ge i items.length with hl | hl
    · have hd : items[i]? = some items[i] := List.getElem?_eq_getElem hl
      obtain ⟨env1, ha, hb⟩ := step i _ env S hd h
      simp only [hd, ha]
      cases hbe : b env1 S <;> simp only [hbe, Out.satBX] at hb
      · exact forGo_lsX I N Q X hc step fin n (i + 1) _ _ (by omega) (by omega) hb
      · exact hb
      · exact hb
      · exact forGo_lsX I N Q X hc step fin n (i + 1) _ _ (by omega) (by omega) hb
      · exact hb
    · have : items.length = i := by omega
      rw [List.getElem?_eq_none hl]
      simp only [Out.satX]
      exact fin _ _ (this ▸ h)
theorem for_satX {F : Fn} {t : Tg} {s : I} {b : Ts} {env : Env} {S S' : Store} {items : List D} {N : Env → Store → Prop} {Q : D → Store → Prop} {X : Exn → Store → Prop}
    (hs : evI F env s S = .ok (.st items) S') (hl : items.length ≤ sizeLine) (I : Nat → Env → Store → Prop) (h0 : I 0 env S')
    (step : ∀ i d env S, items[i]? = some d → I i env S → ∃ env1, asgT S t d env = some env1 ∧ (exTs F b env1 S).satBX (I (i + 1)) N Q X)
    (fin : ∀ env S, I items.length env S → N env S) : (exT F (.for_ t s b) env S).satX N Q X := by
  rw [x_for, hs, R.out_ok]
  exact forGo_stX I N Q X step fin wmax 0 env S' (Nat.zero_le _) (by have := wmax_lt hl; omega) h0
theorem for_ls_satX {F : Fn} {t : Tg} {s : I} {b : Ts} {env : Env} {S S' : Store} {c : Nat} {items : List D} {N : Env → Store → Prop} {Q : D → Store → Prop} {X : Exn → Store → Prop}
    (hs : evI F env s S = .ok (.ls c) S') (hl : items.length ≤ sizeLine) (I : Nat → Env → Store → Prop) (hc : ∀ i env S, I i env S → S[c]? = some (.lst items)) (h0 : I 0 env S')
    (step : ∀ i d env S, items[i]? = some d → I i env S → ∃ env1, asgT S t d env = some env1 ∧ (exTs F b env1 S).satBX (I (i + 1)) N Q X)
    (fin : ∀ env S, I items.length env S → N env S) : (exT F (.for_ t s b) env S).satX N Q X := by
  rw [x_for, hs, R.out_ok]
  exact forGo_lsX I N Q X hc step fin wmax 0 env S' (Nat.zero_le _) (by have := wmax_lt hl; omega) h0
end PD.PS
end

section
set_option linter.all false
/-! PDlaw2: more defs that many laws share (printed by gen.py from the linked texts). -/
namespace PD
open PySem
def d_counted : Def := ⟨2, 2, (.cons (.ret (.ife (.cmp .Gt (.slot 0) (.cst (.int 0))) (.bin .Add (.tup (.cons (.slot 0) .nil)) (.bin .Mult (.tup (.cons (.cst (.int 0)) .nil)) (.slot 1))) (.tup .nil))) .nil)⟩
def d_added_up : Def := ⟨1, 3, (.cons (.asg (.nm 1) (.tup .nil)) (.cons (.for_ (.nm 2) (.any (.slot 0)) (.cons (.asg (.nm 1) (.call 7 (.cons (.slot 1) (.cons (.slot 2) .nil)))) .nil)) (.cons (.ret (.slot 1)) .nil)))⟩
def d_degree_of : Def := ⟨1, 1, (.cons (.ret (.bin .Sub (.blt .len (.cons (.slot 0) .nil)) (.cst (.int 1)))) .nil)⟩
def d_often_number : Def := ⟨2, 2, (.cons (.iff (.or (.cmp .Eq (.slot 1) (.cst (.int 0))) (.cmp .Eq (.blt .len (.cons (.slot 0) .nil)) (.cst (.int 0)))) (.cons (.ret (.tup .nil)) .nil) .nil) (.cons (.ret (.bin .Add (.tup (.cons (.bin .Mult (.ix (.slot 0) (.cst (.int 0))) (.slot 1)) .nil)) (.slc (.slot 0) (.so (.cst (.int 1))) .no))) .nil))⟩
def d_product : Def := ⟨2, 6, (.cons (.iff (.or (.cmp .Eq (.blt .len (.cons (.slot 0) .nil)) (.cst (.int 0))) (.cmp .Eq (.blt .len (.cons (.slot 1) .nil)) (.cst (.int 0)))) (.cons (.ret (.tup .nil)) .nil) .nil) (.cons (.asg (.nm 2) (.lst .nil)) (.cons (.for_ (.tp (.cons (.nm 3) (.cons (.nm 4) .nil))) (.enu (.slot 1)) (.cons (.asg (.nm 5) (.bin .Sub (.bin .Sub (.blt .len (.cons (.slot 1) .nil)) (.cst (.int 1))) (.slot 3))) (.cons (.iff (.and (.cmp .Gt (.slot 4) (.cst (.int 0))) (.cmp .Gt (.slot 5) (.cst (.int 0)))) (.cons (.exp (.mth .append (.slot 2) (.cons (.call 25 (.cons (.slot 4) (.cons (.bin .Add (.call 26 (.cons (.slot 0) .nil)) (.slot 5)) .nil))) .nil))) .nil) (.cons (.iff (.cmp .Gt (.slot 4) (.cst (.int 0))) (.cons (.exp (.mth .append (.slot 2) (.cons (.call 27 (.cons (.slot 0) (.cons (.slot 4) .nil))) .nil))) .nil) .nil) .nil)) .nil))) (.cons (.ret (.call 28 (.cons (.slot 2) .nil))) .nil))))⟩
def d_times : Def := ⟨2, 2, (.cons (.exp (.call 5 (.cons (.lst (.cons (.slot 0) (.cons (.slot 1) .nil))) .nil))) (.cons (.ret (.call 6 (.cons (.call 29 (.cons (.slot 0) (.cons (.slot 1) .nil))) .nil))) .nil))⟩
def d__law_ones : Def := ⟨2, 2, (.cons (.ret (.ife (.cmp .Gt (.slot 1) (.cst (.int 0))) (.bin .Add (.tup (.cons (.slot 1) .nil)) (.bin .Mult (.tup (.cons (.cst (.int 0)) .nil)) (.slot 0))) (.tup .nil))) .nil)⟩
def d__law_times : Def := ⟨2, 5, (.cons (.asg (.nm 2) (.tup .nil)) (.cons (.iff (.cmp .Eq (.blt .len (.cons (.slot 0) .nil)) (.cst (.int 0))) (.cons (.ret (.slot 2)) .nil) .nil) (.cons (.for_ (.nm 3) (.rng1 (.blt .len (.cons (.slot 1) .nil))) (.cons (.asg (.nm 4) (.bin .Sub (.bin .Sub (.blt .len (.cons (.slot 1) .nil)) (.cst (.int 1))) (.slot 3))) (.cons (.iff (.cmp .Gt (.slot 4) (.cst (.int 0))) (.cons (.asg (.nm 2) (.call 19 (.cons (.slot 2) (.cons (.call 30 (.cons (.bin .Add (.bin .Sub (.blt .len (.cons (.slot 0) .nil)) (.cst (.int 1))) (.slot 4)) (.cons (.ix (.slot 1) (.slot 3)) .nil))) .nil)))) .nil) (.cons (.iff (.cmp .Gt (.ix (.slot 1) (.slot 3)) (.cst (.int 0))) (.cons (.asg (.nm 2) (.call 19 (.cons (.slot 2) (.cons (.bin .Add (.tup (.cons (.bin .Mult (.ix (.slot 0) (.cst (.int 0))) (.ix (.slot 1) (.slot 3))) .nil)) (.slc (.slot 0) (.so (.cst (.int 1))) .no)) .nil)))) .nil) .nil) .nil)) .nil))) (.cons (.ret (.slot 2)) .nil))))⟩
end PD
end

section
set_option linter.all false
/-! PDlaw3: defs of terms that many laws share (printed by gen.py from the linked texts). -/
namespace PD
open PySem
def d_is_sign : Def := ⟨1, 1, (.cons (.ret (.and (.isi (.slot 0) .str) (.and (.cmp .Eq (.blt .len (.cons (.slot 0) .nil)) (.cst (.int 1))) (.cmp .In (.slot 0) (.cst (.str ("abcdefghijklmnopqrstuvwxyz" : PySem.Str))))))) .nil)⟩
def d_signs_below : Def := ⟨3, 6, (.cons (.iff (.not (.isi (.slot 0) .tuple)) (.cons (.ret (.cst .non)) .nil) .nil) (.cons (.asg (.nm 3) (.cst (.int 0))) (.cons (.for_ (.nm 4) (.any (.slot 0)) (.cons (.iff (.isi (.slot 4) .str) (.cons (.iff (.not (.call 33 (.cons (.slot 4) .nil))) (.cons (.ret (.cst .non)) .nil) .nil) (.cons (.aug 3 .Add (.cst (.int 1))) .nil)) (.cons (.asg (.nm 5) (.ife (.and (.cmp .Gt (.slot 1) (.cst (.int 0))) (.cmp .NotEq (.slot 4) (.tup .nil))) (.call 34 (.cons (.slot 4) (.cons (.bin .Sub (.slot 1) (.cst (.int 1))) (.cons (.bin .Sub (.slot 2) (.slot 3)) .nil)))) (.cst .non))) (.cons (.iff (.cmp .Is (.slot 5) (.cst .non)) (.cons (.ret (.cst .non)) .nil) .nil) (.cons (.aug 3 .Add (.slot 5)) .nil)))) (.cons (.iff (.cmp .Gt (.slot 3) (.slot 2)) (.cons (.ret (.cst .non)) .nil) .nil) .nil))) (.cons (.ret (.slot 3)) .nil))))⟩
def d_is_long_term : Def := ⟨2, 2, (.cons (.ret (.cmp .IsNot (.call 34 (.cons (.slot 0) (.cons (.cst (.int 6)) (.cons (.slot 1) .nil)))) (.cst .non))) .nil)⟩
def d_is_term : Def := ⟨1, 1, (.cons (.ret (.call 35 (.cons (.slot 0) (.cons (.cst (.int 400)) .nil)))) .nil)⟩
def d_need_terms : Def := ⟨1, 2, (.cons (.for_ (.nm 1) (.any (.slot 0)) (.cons (.iff (.not (.call 36 (.cons (.slot 1) .nil))) (.cons .nev .nil) .nil) .nil)) .nil)⟩
def d_item_length : Def := ⟨1, 1, (.cons (.ret (.ife (.isi (.slot 0) .str) (.tup (.cons (.cst (.int 1)) .nil)) (.call 29 (.cons (.call 37 (.cons (.slot 0) .nil)) (.cons (.tup (.cons (.cst (.int 1)) (.cons (.cst (.int 0)) .nil))) .nil))))) .nil)⟩
def d_row_length : Def := ⟨1, 2, (.cons (.ret (.call 28 (.cons (.lc (.call 38 (.cons (.slot 1) .nil)) (.nm 1) (.any (.slot 0)) .no [1]) .nil))) .nil)⟩
def d_length : Def := ⟨1, 1, (.cons (.exp (.call 39 (.cons (.lst (.cons (.slot 0) .nil)) .nil))) (.cons (.ret (.call 37 (.cons (.slot 0) .nil))) .nil))⟩
def d_height : Def := ⟨1, 1, (.cons (.exp (.call 39 (.cons (.lst (.cons (.slot 0) .nil)) .nil))) (.cons (.ret (.call 26 (.cons (.call 37 (.cons (.slot 0) .nil)) .nil))) .nil))⟩
def d__law_some : Def := ⟨2, 2, (.cons (.ret (.ix (.slot 1) (.call 9 (.cons (.slot 0) (.cons (.blt .len (.cons (.slot 1) .nil)) .nil))))) .nil)⟩
def d__law_long : Def := ⟨1, 3, (.cons (.asg (.nm 1) (.tup .nil)) (.cons (.for_ (.nm 2) (.any (.slot 0)) (.cons (.asg (.nm 1) (.call 19 (.cons (.slot 1) (.cons (.ife (.isi (.slot 2) .str) (.tup (.cons (.cst (.int 1)) .nil)) (.call 30 (.cons (.blt .len (.cons (.call 40 (.cons (.slot 2) .nil)) .nil)) (.cons (.cst (.int 1)) .nil)))) .nil)))) .nil)) (.cons (.ret (.slot 1)) .nil)))⟩
def d__law_count : Def := ⟨1, 2, (.cons (.ret (.blt .sum (.cons (.lc (.ife (.isi (.slot 1) .str) (.cst (.int 1)) (.call 41 (.cons (.slot 1) .nil))) (.nm 1) (.any (.slot 0)) .no [1]) .nil))) .nil)⟩
def d__law_deep : Def := ⟨1, 2, (.cons (.ret (.blt .max (.cons (.bin .Add (.lst (.cons (.cst (.int 0)) .nil)) (.lc (.bin .Add (.cst (.int 1)) (.call 42 (.cons (.slot 1) .nil))) (.nm 1) (.any (.slot 0)) (.so (.not (.isi (.slot 1) .str))) [1])) .nil))) .nil)⟩
def d__law_row : Def := ⟨4, 8, (.cons (.asg (.tp (.cons (.nm 5) (.cons (.nm 6) .nil))) (.tup (.cons (.lst .nil) (.cons (.slot 3) .nil)))) (.cons (.for_ (.nm 4) (.rng1 (.bin .Add (.cst (.int 1)) (.call 9 (.cons (.slot 0) (.cons (.cst (.int 4)) .nil))))) (.cons (.iff (.and (.cmp .Gt (.slot 6) (.cst (.int 0))) (.and (.cmp .Gt (.slot 2) (.cst (.int 0))) (.cmp .Lt (.call 9 (.cons (.slot 0) (.cons (.cst (.int 5)) .nil))) (.cst (.int 2))))) (.cons (.asg (.nm 7) (.call 43 (.cons (.slot 0) (.cons (.slot 1) (.cons (.bin .Sub (.slot 2) (.cst (.int 1))) (.cons (.bin .Add (.cst (.int 1)) (.call 9 (.cons (.slot 0) (.cons (.slot 6) .nil)))) .nil)))))) (.cons (.exp (.mth .append (.slot 5) (.cons (.slot 7) .nil))) (.cons (.asg (.nm 6) (.bin .Sub (.slot 6) (.call 41 (.cons (.slot 7) .nil)))) .nil))) (.cons (.iff (.cmp .Gt (.slot 6) (.cst (.int 0))) (.cons (.exp (.mth .append (.slot 5) (.cons (.call 24 (.cons (.slot 0) (.cons (.slot 1) .nil))) .nil))) (.cons (.asg (.nm 6) (.bin .Sub (.slot 6) (.cst (.int 1)))) .nil)) .nil) .nil)) .nil)) (.cons (.ret (.blt .tuple (.cons (.slot 5) .nil))) .nil)))⟩
def d__law_signs : Def := ⟨2, 6, (.cons (.asg (.tp (.cons (.nm 3) (.cons (.nm 4) .nil))) (.tup (.cons (.cst (.str ("abcdefghijklmnopqrstuvwxyz" : PySem.Str))) (.cons (.lst .nil) .nil)))) (.cons (.for_ (.nm 2) (.rng1 (.bin .Add (.cst (.int 1)) (.call 9 (.cons (.slot 0) (.cons (.slot 1) .nil))))) (.cons (.asg (.nm 5) (.ix (.slot 3) (.call 9 (.cons (.slot 0) (.cons (.cst (.int 26)) .nil))))) (.cons (.iff (.cmp .NotIn (.slot 5) (.slot 4)) (.cons (.exp (.mth .append (.slot 4) (.cons (.slot 5) .nil))) .nil) .nil) .nil))) (.cons (.ret (.blt .sorted (.cons (.slot 4) .nil))) .nil)))⟩
def d__law_term : Def := ⟨4, 7, (.cons (.asg (.nm 4) (.call 9 (.cons (.slot 0) (.cons (.cst (.int 12)) .nil)))) (.cons (.iff (.cmp .Eq (.slot 4) (.cst (.int 0))) (.cons (.ret (.tup .nil)) .nil) .nil) (.cons (.iff (.cmp .Lt (.slot 4) (.cst (.int 3))) (.cons (.ret (.blt .tuple (.cons (.lc (.call 24 (.cons (.slot 0) (.cons (.slot 1) .nil))) (.nm 6) (.rng1 (.bin .Add (.cst (.int 1)) (.call 9 (.cons (.slot 0) (.cons (.blt .min (.cons (.cst (.int 5)) (.cons (.slot 3) .nil))) .nil))))) .no [6]) .nil))) .nil) .nil) (.cons (.asg (.nm 5) (.call 43 (.cons (.slot 0) (.cons (.slot 1) (.cons (.slot 2) (.cons (.ife (.cmp .Lt (.slot 4) (.cst (.int 6))) (.blt .max (.cons (.cst (.int 1)) (.cons (.bin .FloorDiv (.slot 3) (.cst (.int 2))) .nil))) (.slot 3)) .nil)))))) (.cons (.iff (.cmp .Eq (.slot 4) (.cst (.int 3))) (.cons (.ret (.bin .Add (.slot 5) (.slot 5))) .nil) .nil) (.cons (.ret (.ife (.and (.cmp .Lt (.slot 4) (.cst (.int 6))) (.cmp .Gt (.slot 2) (.call 42 (.cons (.slot 5) .nil)))) (.tup (.cons (.slot 5) .nil)) (.slot 5))) .nil))))))⟩
def d__law_wide_term : Def := ⟨2, 7, (.cons (.asg (.nm 2) (.call 44 (.cons (.slot 0) (.cons (.cst (.int 5)) .nil)))) (.cons (.asg (.nm 3) (.call 9 (.cons (.slot 0) (.cons (.cst (.int 6)) .nil)))) (.cons (.iff (.cmp .Lt (.slot 3) (.cst (.int 3))) (.cons (.ret (.call 45 (.cons (.slot 0) (.cons (.slot 2) (.cons (.call 9 (.cons (.slot 0) (.cons (.cst (.int 7)) .nil))) (.cons (.bin .Add (.cst (.int 1)) (.call 9 (.cons (.slot 0) (.cons (.blt .min (.cons (.slot 1) (.cons (.cst (.int 40)) .nil))) .nil)))) .nil)))))) .nil) .nil) (.cons (.asg (.nm 4) (.call 43 (.cons (.slot 0) (.cons (.slot 2) (.cons (.call 9 (.cons (.slot 0) (.cons (.cst (.int 4)) .nil))) (.cons (.bin .Add (.cst (.int 1)) (.call 9 (.cons (.slot 0) (.cons (.cst (.int 8)) .nil)))) .nil)))))) (.cons (.asg (.nm 5) (.bin .Add (.cst (.int 1)) (.call 9 (.cons (.slot 0) (.cons (.blt .max (.cons (.cst (.int 1)) (.cons (.bin .FloorDiv (.slot 1) (.call 41 (.cons (.slot 4) .nil))) .nil))) .nil))))) (.cons (.iff (.cmp .Eq (.slot 3) (.cst (.int 3))) (.cons (.ret (.ife (.cmp .LtE (.bin .Mult (.call 41 (.cons (.slot 4) .nil)) (.slot 5)) (.slot 1)) (.bin .Mult (.slot 4) (.slot 5)) (.slot 4))) .nil) .nil) (.cons (.for_ (.nm 6) (.rng1 (.call 9 (.cons (.slot 0) (.cons (.bin .Sub (.cst (.int 7)) (.call 42 (.cons (.slot 4) .nil))) .nil)))) (.cons (.asg (.nm 4) (.ife (.or (.cmp .Eq (.call 9 (.cons (.slot 0) (.cons (.cst (.int 2)) .nil))) (.cst (.int 0))) (.cmp .GtE (.call 41 (.cons (.slot 4) .nil)) (.slot 1))) (.tup (.cons (.slot 4) .nil)) (.tup (.cons (.bin .Add (.slot 4) (.tup (.cons (.call 24 (.cons (.slot 0) (.cons (.slot 2) .nil))) .nil))) .nil)))) .nil)) (.cons (.ret (.ife (.cmp .LtE (.call 41 (.cons (.slot 4) .nil)) (.slot 1)) (.slot 4) (.tup .nil))) .nil))))))))⟩
def d_count_signs : Def := ⟨1, 2, (.cons (.ret (.blt .sum (.cons (.lc (.ife (.isi (.slot 1) .str) (.cst (.int 1)) (.call 49 (.cons (.slot 1) .nil))) (.nm 1) (.any (.slot 0)) .no [1]) .nil))) .nil)⟩
def d_signs_in : Def := ⟨1, 1, (.cons (.exp (.call 39 (.cons (.lst (.cons (.slot 0) .nil)) .nil))) (.cons (.ret (.call 49 (.cons (.slot 0) .nil))) .nil))⟩
def d_deep_of : Def := ⟨1, 2, (.cons (.ret (.blt .max (.cons (.lst (.cons (.cst (.int 0)) (.star (.lc (.bin .Add (.cst (.int 1)) (.call 50 (.cons (.slot 1) .nil))) (.nm 1) (.any (.slot 0)) (.so (.not (.isi (.slot 1) .str))) [1]) .nil))) .nil))) .nil)⟩
def d_deep : Def := ⟨1, 1, (.cons (.exp (.call 39 (.cons (.lst (.cons (.slot 0) .nil)) .nil))) (.cons (.ret (.call 50 (.cons (.slot 0) .nil))) .nil))⟩
def d_row_text : Def := ⟨1, 2, (.cons (.ret (.mth .join (.cst (.str ("" : PySem.Str))) (.cons (.lc (.ife (.isi (.slot 1) .str) (.slot 1) (.bin .Add (.bin .Add (.cst (.str ("(" : PySem.Str))) (.call 51 (.cons (.slot 1) .nil))) (.cst (.str (")" : PySem.Str))))) (.nm 1) (.any (.slot 0)) .no [1]) .nil))) .nil)⟩
def d_term_text : Def := ⟨1, 1, (.cons (.exp (.call 39 (.cons (.lst (.cons (.slot 0) .nil)) .nil))) (.cons (.ret (.call 51 (.cons (.slot 0) .nil))) .nil))⟩
def d_read_term : Def := ⟨1, 6, (.cons (.iff (.not (.isi (.slot 0) .str)) (.cons .nev .nil) .nil) (.cons (.asg (.nm 1) (.lst (.cons (.lst .nil) .nil))) (.cons (.for_ (.tp (.cons (.nm 3) (.cons (.nm 4) .nil))) (.enu (.slot 0)) (.cons (.iff (.cmp .Eq (.slot 4) (.cst (.str ("(" : PySem.Str)))) (.cons (.exp (.mth .append (.slot 1) (.cons (.lst .nil) .nil))) .nil) (.cons (.iff (.cmp .Eq (.slot 4) (.cst (.str (")" : PySem.Str)))) (.cons (.iff (.or (.cmp .Eq (.blt .len (.cons (.slot 1) .nil)) (.cst (.int 1))) (.cmp .Eq (.blt .len (.cons (.ix (.slot 1) (.un .USub (.cst (.int 1)))) .nil)) (.cst (.int 0)))) (.cons .nev .nil) .nil) (.cons (.asg (.nm 5) (.blt .tuple (.cons (.mth .pop (.slot 1) .nil) .nil))) (.cons (.exp (.mth .append (.ix (.slot 1) (.un .USub (.cst (.int 1)))) (.cons (.slot 5) .nil))) .nil))) (.cons (.iff (.call 33 (.cons (.slot 4) .nil)) (.cons (.exp (.mth .append (.ix (.slot 1) (.un .USub (.cst (.int 1)))) (.cons (.slot 4) .nil))) .nil) (.cons .nev .nil)) .nil)) .nil)) .nil)) (.cons (.iff (.cmp .Gt (.blt .len (.cons (.slot 1) .nil)) (.cst (.int 1))) (.cons .nev .nil) .nil) (.cons (.asg (.nm 2) (.blt .tuple (.cons (.ix (.slot 1) (.cst (.int 0))) .nil))) (.cons (.exp (.call 39 (.cons (.lst (.cons (.slot 2) .nil)) .nil))) (.cons (.ret (.slot 2)) .nil)))))))⟩
def d__law_text : Def := ⟨1, 2, (.cons (.ret (.mth .join (.cst (.str ("" : PySem.Str))) (.cons (.lc (.ife (.isi (.slot 1) .str) (.slot 1) (.bin .Add (.bin .Add (.cst (.str ("(" : PySem.Str))) (.call 52 (.cons (.slot 1) .nil))) (.cst (.str (")" : PySem.Str))))) (.nm 1) (.any (.slot 0)) .no [1]) .nil))) .nil)⟩
def d__law_is_ordinal : Def := ⟨1, 2, (.cons (.iff (.or (.not (.isi (.slot 0) .tuple)) (.cmp .Gt (.blt .len (.cons (.slot 0) .nil)) (.cst (.int 16)))) (.cons (.ret (.cst (.bl false))) .nil) .nil) (.cons (.for_ (.nm 1) (.any (.slot 0)) (.cons (.iff (.or (.not (.isi (.slot 1) .int)) (.or (.isi (.slot 1) .bool) (.or (.cmp .Lt (.slot 1) (.cst (.int 0))) (.cmp .GtE (.slot 1) (.bin .Pow (.cst (.int 10)) (.cst (.int 40))))))) (.cons (.ret (.cst (.bl false))) .nil) .nil) .nil)) (.cons (.ret (.or (.cmp .Eq (.blt .len (.cons (.slot 0) .nil)) (.cst (.int 0))) (.cmp .Gt (.ix (.slot 0) (.cst (.int 0))) (.cst (.int 0))))) .nil)))⟩
end PD
end

section
set_option linter.all false
set_option maxRecDepth 100000
set_option maxHeartbeats 1000000
/-! PDtm: terms as data; what is kept of any plain data; counts and depths. -/
namespace PD.PS
open PySem
/-! ### plain data is kept -/
mutual
def D.dp : D → Nat
  | .tup ds => D.dps ds + 1
  | _ => 0
def D.dps : List D → Nat
  | [] => 0
  | d :: ds => max (D.dp d) (D.dps ds)
end
mutual
def D.pl : D → Bool
  | .tup ds => decide (ds.length ≤ 1000000) && D.pls ds
  | .rol _ => false
  | .ref _ => false
  | .str s => PyData.strOk s
  | _ => true
def D.pls : List D → Bool
  | [] => true
  | d :: ds => D.pl d && D.pls ds
end
theorem dps_mem {d : D} : ∀ {ds : List D}, d ∈ ds → D.dp d ≤ D.dps ds
  | e :: ds, h => by
    simp only [D.dps]
    rcases List.mem_cons.1 h with rfl | h
    · omega
    · have := dps_mem h; omega
theorem pls_mem {d : D} : ∀ {ds : List D}, d ∈ ds → D.pls ds = true → D.pl d = true
  | e :: ds, h, q => by
    simp only [D.pls, Bool.and_eq_true] at q
    rcases List.mem_cons.1 h with rfl | h
    · exact q.1
    · exact pls_mem h q.2
theorem opEq_str (s t : Str) (S : Store) (hs : PyData.strOk s = true) (ht : PyData.strOk t = true) : opEq (.str s) (.str t) S = .ok (decide (s = t)) S := by
  simp [opEq, toPy, D.py, SeqAt.shaped, PyData.canLay0, PyData.depth, PyData.eqv, hs, ht]
  by_cases h : s = t <;> simp [h]
theorem opEq_strS (s : Str) (S : Store) (hs : PyData.strOk s = true) : opEq (.str s) (.str s) S = .ok true S := by
  rw [opEq_str _ _ _ hs hs, decide_eq_true rfl]
theorem opEq_blS (s : Bool) (S : Store) : opEq (.bl s) (.bl s) S = .ok true S := by
  rw [opEq_bl, decide_eq_true rfl]
section
variable {T : Tab} {n : Nat} {S : Store}
theorem kept_bl (hT : T 15 = some d__law_kept) (x : Bool) : callN T (n + 1) 15 [.bl x, .bl x] S = .ok (.bl true) S := by
  apply call_pure0 hT rfl
  cases x <;> simp [d__law_kept]
theorem kept_str (hT : T 15 = some d__law_kept) (x : Str) (hx : PyData.strOk x = true) : callN T (n + 1) 15 [.str x, .str x] S = .ok (.bl true) S := by
  apply call_pure0 hT rfl
  simp [d__law_kept, opEq_strS x _ hx]
theorem kept_data (hT : T 15 = some d__law_kept) : ∀ (k : Nat) (d : D) (S : Store), D.dp d ≤ k → D.pl d = true → callN T (n + k + 1) 15 [d, d] S = .ok (.bl true) S
  | k, .non, S, _, _ => kept_non hT
  | k, .bl b, S, _, _ => kept_bl hT b
  | k, .int i, S, _, _ => kept_int hT i
  | k, .str s, S, _, h => kept_str hT s (by simpa [D.pl] using h)
  | k, .rol _, S, _, h => by simp [D.pl] at h
  | k, .ref _, S, _, h => by simp [D.pl] at h
  | 0, .tup ds, S, h, _ => by simp [D.dp] at h
  | k + 1, .tup ds, S, h, hp => by
    simp only [D.pl, Bool.and_eq_true, decide_eq_true_eq] at hp
    obtain ⟨hl, hp⟩ := hp
    simp only [D.dp] at h
    have hlen : ∀ S, opBlt .len [.tup ds] S = .ok (.int ds.length) S := fun S => rfl
    have hrg := rng1_sat (F := callN T (n + k + 1)) (env := [some (.tup ds), some (.tup ds), none]) (e := .blt .len (.cons (.slot 1) .nil)) (k := ds.length) (S := S) (S' := S) (by simp [hlen]) (by omega) (by omega)
    rw [Int.toNat_natCast] at hrg
    have hlc : evE (callN T (n + k + 1)) [some (.tup ds), some (.tup ds), none] (.lc (.call 15 (.cons (.ix (.slot 0) (.slot 2)) (.cons (.ix (.slot 1) (.slot 2)) .nil))) (.nm 2) (.rng1 (.blt .len (.cons (.slot 1) .nil))) .no [2]) S = .ok (.ref S.length) (S ++ [.lst ((List.replicate ds.length true).map .bl)]) := by
      rw [lc_map (fun k => .bl true) hrg (by rw [rangeD_len]; exact le_sz (by omega)) ?_, rangeD_len, map_const_range, List.map_replicate]
      intro j d hd
      simp at hd
      obtain ⟨hk, rfl⟩ := hd
      refine ⟨_, g_nm _ _, by simp, ?_⟩
      have h1 : ∀ S, opIx (.tup ds) (.int (j : Int)) S = .ok ds[j] S := fun S => by
        simp [opIx, dicOf, opIx0, atI_nat ds j ds[j] (List.getElem?_eq_getElem hk)]
      have hm : ds[j] ∈ ds := List.getElem_mem hk
      have h2 := kept_data hT k ds[j] S (by have := dps_mem hm; omega) (pls_mem hm hp)
      simp [wipeE, h1, h2]
    apply call_pure hT rfl (lt_bl _ _) (G := [.lst ((List.replicate ds.length true).map .bl)])
    have h5 : (List.replicate ds.length true).all id = true := by simp
    have h6 : evE (callN T (n + k + 1)) [some (.tup ds), some (.tup ds), none] (.cmp .Eq (.blt .len (.cons (.slot 0) .nil)) (.blt .len (.cons (.slot 1) .nil))) S = .ok (.bl true) S := by
      simp only [e_cmp, e_blt, es_cons, es_nil, e_slot, List.getElem?_cons_succ, List.getElem?_cons_zero, R.bind_ok, hlen, c_eq, opEq_self, R.map_ok]
    show exTs (callN T (n + k + 1)) d__law_kept.body [some (.tup ds), some (.tup ds), none] S = _
    simp only [d__law_kept, xs_cons, x_iff, t_or, t_isi, t_cmp, e_isi, e_slot, List.getElem?_cons_succ, List.getElem?_cons_zero, R.bind_ok, ty_tup, if_true, R.out_ok, c_ne, opEq_bl, R.map_ok, decide_true, Bool.not_true, Bool.false_eq_true, if_false, Out.thn_nx, xs_nil, x_ret]
    rw [e_and_true h6]
    simp only [e_blt, es_cons, es_nil, R.bind_ok, hlc, f_allr, items_ref, get_end, bls_bls, h5, R.out_ok, Out.thn_rt]
end
/-! ### terms -/
inductive It where
  | sg (s : Str) | ev (r : List It)
abbrev Rw := List It
mutual
def It.d : It → D
  | .sg s => .str s
  | .ev r => .tup (rowDs r)
def rowDs : List It → List D
  | [] => []
  | x :: xs => It.d x :: rowDs xs
end
def rowD (r : Rw) : D := .tup (rowDs r)
theorem rowDs_map : ∀ r : Rw, rowDs r = r.map It.d
  | [] => by simp [rowDs]
  | x :: r => by simp [rowDs, rowDs_map r]
@[simp] theorem rowDs_len (r : Rw) : (rowDs r).length = r.length := by simp [rowDs_map]
@[simp] theorem rowDs_app (r q : Rw) : rowDs (r ++ q) = rowDs r ++ rowDs q := by simp [rowDs_map]
@[simp] theorem rowDs_nil : rowDs [] = [] := by simp [rowDs]
@[simp] theorem rowDs_cons (x : It) (r : Rw) : rowDs (x :: r) = x.d :: rowDs r := by simp [rowDs]
@[simp] theorem It.d_sg (s : Str) : (It.sg s).d = .str s := by simp [It.d]
@[simp] theorem It.d_ev (r : Rw) : (It.ev r).d = rowD r := by simp [It.d, rowD]
mutual
def It.cnt : It → Nat
  | .sg _ => 1
  | .ev r => cntR r
def cntR : List It → Nat
  | [] => 0
  | x :: xs => It.cnt x + cntR xs
end
mutual
def It.dep : It → Nat
  | .sg _ => 0
  | .ev r => depR r + 1
def depR : List It → Nat
  | [] => 0
  | x :: xs => max (It.dep x) (depR xs)
end
/-- a sign -/
def isSg (s : Str) : Prop := ∃ c : Nat, 97 ≤ c ∧ c < 123 ∧ s = ⟨#[c]⟩
mutual
def It.ok : It → Prop
  | .sg s => isSg s
  | .ev r => r ≠ [] ∧ okR r
def okR : List It → Prop
  | [] => True
  | x :: xs => It.ok x ∧ okR xs
end
@[simp] theorem cnt_sg (s : Str) : (It.sg s).cnt = 1 := by simp [It.cnt]
@[simp] theorem cnt_ev (r : Rw) : (It.ev r).cnt = cntR r := by simp [It.cnt]
@[simp] theorem cnt_nil : cntR [] = 0 := by simp [cntR]
@[simp] theorem cnt_cons (x : It) (r : Rw) : cntR (x :: r) = x.cnt + cntR r := by simp [cntR]
@[simp] theorem cnt_app : ∀ r q : Rw, cntR (r ++ q) = cntR r + cntR q
  | [], q => by simp
  | x :: r, q => by simp [cnt_app r q, Nat.add_assoc]
theorem cnt_sum : ∀ r : Rw, cntR r = (r.map It.cnt).sum
  | [] => by simp
  | x :: r => by simp [cnt_sum r]
@[simp] theorem dep_sg (s : Str) : (It.sg s).dep = 0 := by simp [It.dep]
@[simp] theorem dep_ev (r : Rw) : (It.ev r).dep = depR r + 1 := by simp [It.dep]
@[simp] theorem dep_nil : depR [] = 0 := by simp [depR]
@[simp] theorem dep_cons (x : It) (r : Rw) : depR (x :: r) = max x.dep (depR r) := by simp [depR]
@[simp] theorem dep_app : ∀ r q : Rw, depR (r ++ q) = max (depR r) (depR q)
  | [], q => by simp
  | x :: r, q => by simp [dep_app r q]; try omega
theorem dep_mem {x : It} : ∀ {r : Rw}, x ∈ r → x.dep ≤ depR r
  | y :: r, h => by
    simp only [dep_cons]
    rcases List.mem_cons.1 h with rfl | h
    · omega
    · have := dep_mem h; omega
theorem cnt_mem {x : It} : ∀ {r : Rw}, x ∈ r → x.cnt ≤ cntR r
  | y :: r, h => by
    simp only [cnt_cons]
    rcases List.mem_cons.1 h with rfl | h
    · omega
    · have := cnt_mem h; omega
@[simp] theorem ok_sg (s : Str) : (It.sg s).ok ↔ isSg s := by simp [It.ok]
@[simp] theorem ok_ev (r : Rw) : (It.ev r).ok ↔ r ≠ [] ∧ okR r := by simp [It.ok]
@[simp] theorem ok_nil : okR [] := by simp [okR]
@[simp] theorem ok_cons (x : It) (r : Rw) : okR (x :: r) ↔ x.ok ∧ okR r := by simp [okR]
theorem ok_iff : ∀ r : Rw, okR r ↔ ∀ x ∈ r, x.ok
  | [] => by simp
  | x :: r => by simp [ok_iff r]
theorem ok_app (r q : Rw) : okR (r ++ q) ↔ okR r ∧ okR q := by
  simp only [ok_iff, List.mem_append]
  exact ⟨fun h => ⟨fun x hx => h x (.inl hx), fun x hx => h x (.inr hx)⟩, fun ⟨a, b⟩ x hx => hx.elim (a x) (b x)⟩
theorem ok_mem {x : It} {r : Rw} (h : okR r) (hx : x ∈ r) : x.ok := (ok_iff r).1 h x hx
mutual
theorem It.cnt_pos : ∀ x : It, x.ok → 1 ≤ x.cnt
  | .sg s, _ => by simp
  | .ev r, h => by
    simp only [ok_ev] at h
    have := len_le_cnt r h.2
    have : r.length ≠ 0 := fun e => h.1 (List.eq_nil_of_length_eq_zero e)
    simp only [cnt_ev]
    omega
theorem len_le_cnt : ∀ r : List It, okR r → r.length ≤ cntR r
  | [], _ => by simp
  | x :: r, h => by
    simp only [ok_cons] at h
    have h1 := It.cnt_pos x h.1
    have h2 := len_le_cnt r h.2
    simp only [List.length_cons, cnt_cons]
    omega
end
mutual
theorem It.lt0 : ∀ (n : Nat) (x : It), D.lt n x.d = true
  | n, .sg s => by simp [D.lt]
  | n, .ev r => by simp only [It.d_ev, rowD, D.lt]; exact rows_lt n r
theorem rows_lt : ∀ (n : Nat) (r : List It), D.lts n (rowDs r) = true
  | n, [] => by simp [D.lts]
  | n, x :: r => by simp [D.lts, It.lt0 n x, rows_lt n r]
end
@[simp] theorem row_lt (n : Nat) (r : Rw) : D.lt n (rowD r) = true := by simp only [rowD, D.lt]; exact rows_lt n r
mutual
theorem It.dpd : ∀ x : It, D.dp x.d ≤ x.dep
  | .sg s => by simp [D.dp]
  | .ev r => by simp only [It.d_ev, rowD, D.dp, dep_ev]; have := rows_dp r; omega
theorem rows_dp : ∀ r : List It, D.dps (rowDs r) ≤ depR r
  | [] => by simp [D.dps]
  | x :: r => by
    have h1 := It.dpd x
    have h2 := rows_dp r
    simp only [rowDs_cons, D.dps, dep_cons]
    omega
end
theorem sg_ok {s : Str} (h : isSg s) : PyData.strOk s = true := by
  obtain ⟨c, h1, h2, rfl⟩ := h
  simp [PyData.strOk]
  omega
mutual
theorem It.pld : ∀ x : It, x.ok → x.cnt ≤ 1000000 → D.pl x.d = true
  | .sg s, h, _ => by simp [D.pl]; exact sg_ok (by simpa using h)
  | .ev r, h, hc => by
    simp only [ok_ev, cnt_ev] at h hc
    have := len_le_cnt r h.2
    simp only [It.d_ev, rowD, D.pl, rowDs_len, Bool.and_eq_true, decide_eq_true_eq]
    exact ⟨by omega, rows_pl r h.2 hc⟩
theorem rows_pl : ∀ r : List It, okR r → cntR r ≤ 1000000 → D.pls (rowDs r) = true
  | [], _, _ => by simp [D.pls]
  | x :: r, h, hc => by
    simp only [ok_cons, cnt_cons] at h hc
    simp only [rowDs_cons, D.pls, Bool.and_eq_true]
    exact ⟨It.pld x h.1 (by omega), rows_pl r h.2 (by omega)⟩
end
theorem kept_row {T : Tab} {n : Nat} (hT : T 15 = some d__law_kept) (r : Rw) (h : okR r) (hc : cntR r ≤ 1000000) (hd : depR r ≤ 8) (S : Store) : callN T (n + 10) 15 [rowD r, rowD r] S = .ok (.bl true) S := by
  have h1 := rows_dp r
  have h2 := len_le_cnt r h
  exact kept_data (n := n) hT 9 (rowD r) S (by simp only [rowD, D.dp]; omega) (by simp only [rowD, D.pl, rowDs_len, Bool.and_eq_true, decide_eq_true_eq]; exact ⟨by omega, rows_pl r h hc⟩)
/-! ### signs -/
theorem sign_in : ∀ c : Fin 26, (!(Builtin.Str.occurrences ("abcdefghijklmnopqrstuvwxyz" : Str) (⟨#[97 + c.val]⟩ : Str) 0 ("abcdefghijklmnopqrstuvwxyz" : Str).length 1).isEmpty) = true := by decide +kernel
theorem sg_len {s : Str} (h : isSg s) : s.length = 1 := by
  obtain ⟨c, h1, h2, rfl⟩ := h
  rfl
theorem sg_in {s : Str} (h : isSg s) (S : Store) : opIn (.str s) (.str ("abcdefghijklmnopqrstuvwxyz" : Str)) S = .ok true S := by
  obtain ⟨c, h1, h2, rfl⟩ := h
  have := sign_in ⟨c - 97, by omega⟩
  simp only [show 97 + (c - 97) = c by omega] at this
  simp only [opIn, dicOf, opIn0, this]
section
variable {T : Tab} {n : Nat} {S : Store}
theorem is_sign_ok (hT : T 33 = some d_is_sign) {s : Str} (h : isSg s) : callN T (n + 1) 33 [.str s] S = .ok (.bl true) S := by
  apply call_pure0 hT rfl
  have h1 := f_lens s S (by rw [sg_len h]; exact le_sz (by omega))
  simp [d_is_sign, h1, sg_len h, sg_in h]
/-! ### counts, depths -/
theorem evI_row {F : Fn} {env : Env} {e : E} {S S' : Store} {r : Rw} (h : evE F env e S = .ok (rowD r) S') : evI F env (.any e) S = .ok (.st (r.map It.d)) S' := by
  rw [i_any, h, R.bind_ok, rowD, rowDs_map]
theorem ints_map {α : Type} (f : α → Int) : ∀ l : List α, ints? (l.map fun x => .int (f x)) = some (l.map f)
  | [] => rfl
  | x :: l => by simp [ints?, ints_map f l]
@[simp] theorem f_sumr (k : Nat) (S : Store) : opBlt .sum [.ref k] S = match itemsOf S (.ref k) with
    | some ds => match ints? ds with | some bs => .ok (.int bs.sum) S | none => .stuck
    | none => .stuck := by
  show (match D.ref k, itemsOf S (.ref k) with
    | .tup ds, _ => match ints? ds with | some bs => .ok (.int bs.sum) S | none => .stuck
    | _, some ds => match ints? ds with | some bs => .ok (.int bs.sum) S | none => .stuck
    | _, none => .stuck : R D) = _
  cases itemsOf S (.ref k) <;> rfl
@[simp] theorem f_maxr (k : Nat) (S : Store) : opBlt .max [.ref k] S = match itemsOf S (.ref k) with
    | some ds => match ints? ds with | some (i :: ns) => .ok (.int (maxL i ns)) S | _ => .stuck
    | none => .stuck := by
  show (match D.ref k, itemsOf S (.ref k) with
    | .tup _, _ => .stuck
    | _, some ds => match ints? ds with | some (i :: ns) => .ok (.int (maxL i ns)) S | _ => .stuck
    | _, none => .stuck : R D) = _
  cases itemsOf S (.ref k) <;> rfl
@[simp] theorem f_max2 (i j : Int) (S : Store) : opBlt .max [.int i, .int j] S = .ok (.int (if j > i then j else i)) S := rfl
@[simp] theorem f_min2 (i j : Int) (S : Store) : opBlt .min [.int i, .int j] S = .ok (.int (if j < i then j else i)) S := rfl
theorem cast_sum : ∀ l : List Nat, (l.map fun (x : Nat) => (x : Int)).sum = (l.sum : Int)
  | [] => rfl
  | x :: l => by simp [cast_sum l]
/-- _law_count, count_signs: one text, two names -/
def countB (f : Nat) : Ts := .cons (.ret (.blt .sum (.cons (.lc (.ife (.isi (.slot 1) .str) (.cst (.int 1)) (.call f (.cons (.slot 1) .nil))) (.nm 1) (.any (.slot 0)) .no [1]) .nil))) .nil
theorem count_gen {f : Nat} (hT : T f = some ⟨1, 2, countB f⟩) : ∀ (k : Nat) (r : Rw) (S : Store), depR r ≤ k → okR r → cntR r ≤ 1000000 → callN T (n + k + 1) f [rowD r] S = .ok (.int (cntR r)) S := by
  intro k
  induction k with
  | zero =>
    intro r S hd ho hc
    have hl := len_le_cnt r ho
    have e : evE (callN T n) [some (rowD r), none] (.lc (.ife (.isi (.slot 1) .str) (.cst (.int 1)) (.call f (.cons (.slot 1) .nil))) (.nm 1) (.any (.slot 0)) .no [1]) S = .ok (.ref S.length) (S ++ [.lst (r.map fun x => .int (x.cnt : Int))]) := by
      refine lc_m It.d (fun x => .int (x.cnt : Int)) r (evI_row (by simp)) (le_sz (by omega)) fun x hx => ⟨_, g_nm _ _, ?_⟩
      cases x with
      | sg s => simp [wipeE]
      | ev q => have := dep_mem hx; simp at this; omega
    apply call_pure hT rfl (v := .int (cntR r)) (by rfl) (G := [.lst (r.map fun x => .int (x.cnt : Int))])
    show exTs _ _ [some (rowD r), none] _ = _
    simp only [countB, xs_cons, x_ret, e_blt, es_cons, es_nil, e, R.bind_ok, f_sumr, items_ref, get_end, ints_map, R.out_ok, Out.thn_rt]
    rw [cnt_sum, ← cast_sum, List.map_map]
    rfl
  | succ k ih =>
    intro r S hd ho hc
    have hl := len_le_cnt r ho
    have e : evE (callN T (n + k + 1)) [some (rowD r), none] (.lc (.ife (.isi (.slot 1) .str) (.cst (.int 1)) (.call f (.cons (.slot 1) .nil))) (.nm 1) (.any (.slot 0)) .no [1]) S = .ok (.ref S.length) (S ++ [.lst (r.map fun x => .int (x.cnt : Int))]) := by
      refine lc_m It.d (fun x => .int (x.cnt : Int)) r (evI_row (by simp)) (le_sz (by omega)) fun x hx => ⟨_, g_nm _ _, ?_⟩
      cases x with
      | sg s => simp [wipeE]
      | ev q =>
        have h1 := dep_mem hx
        have h2 := cnt_mem hx
        have h3 := ok_mem ho hx
        simp only [dep_ev, cnt_ev, ok_ev] at h1 h2 h3
        have h4 := ih q S (by omega) h3.2 (by omega)
        have h5 : isTy (rowD q) .str S = some false := rfl
        simp [wipeE, h4, h5]
    apply call_pure hT rfl (v := .int (cntR r)) (by rfl) (G := [.lst (r.map fun x => .int (x.cnt : Int))])
    show exTs (callN T (n + k + 1)) _ [some (rowD r), none] _ = _
    simp only [countB, xs_cons, x_ret, e_blt, es_cons, es_nil, e, R.bind_ok, f_sumr, items_ref, get_end, ints_map, R.out_ok, Out.thn_rt]
    rw [cnt_sum, ← cast_sum, List.map_map]
    rfl
theorem count_ok (hT : T 41 = some d__law_count) : ∀ (k : Nat) (r : Rw) (S : Store), depR r ≤ k → okR r → cntR r ≤ 1000000 → callN T (n + k + 1) 41 [rowD r] S = .ok (.int (cntR r)) S := count_gen hT
def depsL (r : Rw) : List Int := r.filterMap fun x => match x with | .sg _ => none | .ev q => some ((1 : Int) + depR q)
theorem maxL_deps : ∀ (r : Rw) (i : Nat), maxL (i : Int) (depsL r) = ((max i (depR r) : Nat) : Int)
  | [], i => by simp [depsL, maxL]
  | .sg s :: r, i => by
    have := maxL_deps r i
    simp only [depsL, List.filterMap_cons_none, dep_cons, dep_sg] at this ⊢
    rw [this]
    congr 1
    try omega
  | .ev q :: r, i => by
    have := maxL_deps r (max i (depR q + 1))
    simp only [depsL, List.filterMap_cons, dep_cons, dep_ev] at this ⊢
    simp only [maxL, List.foldl_cons] at this ⊢
    have e : (if (i : Int) < 1 + (depR q : Int) then 1 + (depR q : Int) else (i : Int)) = ((max i (depR q + 1) : Nat) : Int) := by
      split <;> omega
    rw [e, this]
    congr 1
    try omega
theorem deps_map (r : Rw) : (r.filterMap fun x => match x with | .sg _ => none | .ev q => some (D.int ((1 : Int) + depR q))) = (depsL r).map .int := by
  unfold depsL
  rw [List.map_filterMap]
  congr 1
  funext x
  cases x <;> rfl
theorem deep_ok (hT : T 42 = some d__law_deep) : ∀ (k : Nat) (r : Rw) (S : Store), depR r ≤ k → okR r → cntR r ≤ 1000000 → callN T (n + k + 1) 42 [rowD r] S = .ok (.int (depR r)) S := by
  intro k
  have key : ∀ (F : Fn) (r : Rw) (S : Store), okR r → cntR r ≤ 1000000 → (∀ q S, .ev q ∈ r → F 42 [rowD q] S = .ok (.int (depR q)) S) →
      exTs F d__law_deep.body [some (rowD r), none] S = .rt (.int (depR r)) (S ++ [.lst [.int 0], .lst ((depsL r).map .int), .lst (.int 0 :: (depsL r).map .int)]) := by
    intro F r S ho hc hF
    have hl := len_le_cnt r ho
    have e : ∀ S, evE F [some (rowD r), none] (.lc (.bin .Add (.cst (.int 1)) (.call 42 (.cons (.slot 1) .nil))) (.nm 1) (.any (.slot 0)) (.so (.not (.isi (.slot 1) .str))) [1]) S = .ok (.ref S.length) (S ++ [.lst ((depsL r).map .int)]) := fun S => by
      rw [lc_fm It.d (fun x => match x with | .sg _ => none | .ev q => some (D.int ((1 : Int) + depR q))) r (S := S) (S' := S) (evI_row (by simp)) (le_sz (by omega)) fun x hx => ⟨_, g_nm _ _, ?_⟩, deps_map]
      cases x with
      | sg s => right; simp [wipeE]
      | ev q =>
        left
        have h5 : ∀ S, isTy (rowD q) .str S = some false := fun _ => rfl
        simp [wipeE, hF q _ hx, h5]
    have hlen : (depsL r).length ≤ r.length := List.length_filterMap_le _ _
    have hz : 1 + (depsL r).length ≤ sizeLine := le_sz (by omega)
    have hz1 : 0 + 1 ≤ sizeLine := le_sz (by omega)
    have hm := maxL_deps r 0
    have hm2 : maxL 0 (depsL r) = (depR r : Int) := by simpa using hm
    have hb : opBin .Add (.ref S.length) (.ref (S.length + 1)) (S ++ [.lst [.int 0], .lst ((depsL r).map .int)]) = .ok (.ref (S.length + 2)) (S ++ [.lst [.int 0], .lst ((depsL r).map .int), .lst (.int 0 :: (depsL r).map .int)]) := by
      simp [opBin, hz]
    have g1 : (S ++ [Cell.lst [D.int 0], .lst ((depsL r).map .int), .lst (.int 0 :: (depsL r).map .int)])[S.length + 2]? = some (.lst (.int 0 :: (depsL r).map .int)) := by simp
    have i1 : ints? (.int 0 :: (depsL r).map .int) = some (0 :: depsL r) := by simp [ints?]
    simp only [d__law_deep, xs_cons, x_ret, e_blt, es_cons, es_nil, e_bin, e_lst, e_cst, R.bind_ok, List.length_cons, List.length_nil, hz1, if_true, newL_eq, e, List.length_append, List.append_assoc, List.cons_append, List.nil_append, hb, f_maxr, items_ref, g1, i1, hm2, R.out_ok, Out.thn_rt]
  induction k with
  | zero =>
    intro r S hd ho hc
    refine call_pure hT rfl (v := .int (depR r)) (by rfl) (key (callN T n) r S ho hc fun q S hq => ?_)
    have := dep_mem hq
    simp at this
    omega
  | succ k ih =>
    intro r S hd ho hc
    refine call_pure hT rfl (v := .int (depR r)) (by rfl) (key (callN T (n + k + 1)) r S ho hc fun q S hq => ?_)
    have h1 := dep_mem hq
    have h2 := cnt_mem hq
    have h3 := ok_mem ho hq
    simp only [dep_ev, cnt_ev, ok_ev] at h1 h2 h3
    exact ih q S (by omega) h3.2 (by omega)
end
end PD.PS
end

section
set_option linter.all false
set_option maxRecDepth 100000
set_option maxHeartbeats 2000000
/-! PDgen: the terms that the laws draw. -/
namespace PD.PS
open PySem
theorem for_rng {F : Fn} {t : Tg} {s : I} {b : Ts} {env : Env} {S S' : Store} {N : Env → Store → Prop} {Q : D → Store → Prop} (k : Nat)
    (hs : evI F env s S = .ok (.st (rangeD 0 1 k)) S') (hl : k ≤ sizeLine) (I : Nat → Env → Store → Prop) (h0 : I 0 env S')
    (step : ∀ i env S, i < k → I i env S → ∃ env1, asgT S t (.int i) env = some env1 ∧ (exTs F b env1 S).satB (I (i + 1)) N Q)
    (fin : ∀ env S, I k env S → N env S) : (exT F (.for_ t s b) env S).sat N Q := by
  refine for_sat hs (by simpa using hl) I h0 (fun i d e S hd hI => ?_) (fun e S hI => fin e S (by simpa using hI))
  simp at hd
  obtain ⟨hi, rfl⟩ := hd
  exact step i e S hi hI
/-- signs to draw from -/
structure Sgs (ss : List Str) : Prop where
  ne : ss ≠ []
  len : ss.length ≤ 63
  sg : ∀ s ∈ ss, isSg s
structure Draws (T : Tab) : Prop where
  h9 : T 9 = some d__law_draw
  h24 : T 24 = some d__law_some
theorem atI_of {α : Type} {xs : List α} {i : Int} (h0 : 0 ≤ i) (h1 : i < xs.length) : ∃ x ∈ xs, L2.atI xs i = some x := by
  obtain ⟨k, rfl⟩ := Int.eq_ofNat_of_zero_le h0
  have hk : k < xs.length := by omega
  exact ⟨xs[k], List.getElem_mem hk, atI_nat xs k _ (List.getElem?_eq_getElem hk)⟩
section
variable {T : Tab} {n : Nat}
theorem some_eq (hT : Draws T) (h : Hs) (G : Store) {c : Nat} {ds : List D} (hc : G[c]? = some (.lst ds)) (h0 : 0 < ds.length) (h1 : ds.length ≤ 1000000) :
    ∃ x ∈ ds, callN T (n + 2) 24 [.ref 2, .ref (c + 3)] (hS h G) = .ok x (hS (drawH h ds.length) G) := by
  obtain ⟨x, hx, hy⟩ := atI_of (xs := ds) (drawV_nn h (m := ds.length) (by omega)) (drawV_lt h (m := ds.length) (by omega))
  refine ⟨x, hx, call_hand0 hT.h24 rfl ?_⟩
  have hd := draw_eq hT.h9 (n := n) h G ds.length (by omega) (by omega)
  simp [d__law_some, hc, hd, hy]
theorem some_sg (hT : Draws T) (h : Hs) (G : Store) {c : Nat} {ss : List Str} (hc : G[c]? = some (.lst (ss.map .str))) (hs : Sgs ss) :
    ∃ s h', s ∈ ss ∧ isSg s ∧ callN T (n + 2) 24 [.ref 2, .ref (c + 3)] (hS h G) = .ok (.str s) (hS h' G) := by
  obtain ⟨x, hx, e⟩ := some_eq (n := n) hT h G hc (by simpa using List.length_pos_iff.2 hs.ne) (by have := hs.len; simp; omega)
  obtain ⟨s, h1, rfl⟩ := List.mem_map.1 hx
  exact ⟨s, _, h1, hs.sg s h1, e⟩
theorem letter_at0 : ∀ i : Fin 26, (match strAt ("abcdefghijklmnopqrstuvwxyz" : Str) (i.val : Int) with | some (.str s) => decide (s = ⟨#[97 + i.val]⟩) | _ => false) = true := by decide +kernel
theorem letter_at (i : Fin 26) : strAt ("abcdefghijklmnopqrstuvwxyz" : Str) (i.val : Int) = some (.str ⟨#[97 + i.val]⟩) := by
  have h := letter_at0 i
  split at h
  next s e => rw [e, of_decide_eq_true h]
  · cases h
theorem letter_ix {i : Int} (h0 : 0 ≤ i) (h1 : i < 26) (S : Store) : ∃ s, isSg s ∧ opIx (.str ("abcdefghijklmnopqrstuvwxyz" : Str)) (.int i) S = .ok (.str s) S := by
  obtain ⟨k, rfl⟩ := Int.eq_ofNat_of_zero_le h0
  refine ⟨⟨#[97 + k]⟩, ⟨97 + k, by omega, by omega, rfl⟩, ?_⟩
  have := letter_at ⟨k, by omega⟩
  simp only at this
  simp only [opIx, dicOf, opIx0, this]
theorem flats_str : ∀ ss : List Str, (ss.map D.str).all isFlat = true
  | [] => rfl
  | s :: ss => by simp [isFlat]
theorem in_strs (s : Str) (S : Store) {k : Nat} {ss : List Str} (hk : S[k]? = some (.lst (ss.map .str))) : ∃ b, opIn (.str s) (.ref k) S = .ok b S := by
  have := flats_str ss
  exact ⟨(ss.map D.str).any fun z => flatEq z (D.str s), by simp only [opIn, dicOf, opIn0, itemsOf, hk, this, isFlat, Bool.and_self, if_true]⟩
theorem strs_str : ∀ ss : List Str, strs? (ss.map .str) = some ss
  | [] => rfl
  | s :: ss => by simp [strs?, strs_str ss]
theorem f_sortr (k : Nat) (S : Store) {ss : List Str} (hk : S[k]? = some (.lst (ss.map .str))) (hl : ss.length < 64) : opBlt .sorted [.ref k] S = .ok (.ref S.length) (S ++ [.lst ((sortStr ss).map .str)]) := by
  show (match D.ref k, itemsOf S (.ref k) with
    | .tup _, _ => .stuck
    | _, some ds => match strs? ds with | some ss => if ss.length < 64 then newL ((sortStr ss).map .str) S else .stuck | none => .stuck
    | _, none => match dicOf S (.ref k) with
      | some kvs => match keysS? (kvs.map (·.1)) with | some ss => if ss.length < 64 then newL ((sortStr ss).map .str) S else .stuck | none => .stuck
      | none => .stuck : R D) = _
  simp [itemsOf, hk, strs_str, hl]
theorem lts_strs (n : Nat) : ∀ ss : List Str, D.lts n (ss.map .str) = true
  | [] => rfl
  | s :: ss => by simp [D.lts, D.lt, lts_strs n ss]
theorem signs_spec (hT : Draws T) (h44 : T 44 = some d__law_signs) (h : Hs) (G : Store) (many : Int) (m0 : 0 < many) (m1 : many ≤ 50) :
    ∃ (fs ss : List Str) (h' : Hs), Sgs ss ∧ callN T (n + 3) 44 [.ref 2, .int many] (hS h G) = .ok (.ref (G.length + 4)) (hS h' (G ++ [.lst (fs.map .str), .lst (ss.map .str)])) := by
  have key : (exTs (callN T (n + 2)) d__law_signs.body [some (.ref 2), some (.int many), none, none, none, none] (hS h G)).sat (fun _ _ => False) (fun v S => ∃ (fs ss : List Str) (h' : Hs), Sgs ss ∧ v = .ref (G.length + 4) ∧ S = hS h' (G ++ [.lst (fs.map .str), .lst (ss.map .str)])) := by
    have z : 2 ≤ sizeLine := le_sz (by omega)
    simp only [d__law_signs, xs_cons]
    simp only [x_asg, e_tup, es_cons, es_nil, e_lst, e_cst, R.bind_ok, newL_eq, List.length_cons, List.length_nil, Nat.zero_le, if_true, z, R.out_ok, g_tp, items_tup, gs_cons, gs_nil, g_nm, List.set_cons_succ, List.set_cons_zero, Out.thn_nx, hS_len, hS_app, Nat.zero_add, Nat.reduceAdd]
    have hd := draw_eq hT.h9 (n := n + 1) h (G ++ [.lst []]) many m0 (by omega)
    have d0 := drawV_nn h m0
    have d1 := drawV_lt h m0
    obtain ⟨k, hk⟩ := Int.eq_ofNat_of_zero_le d0
    refine sat_thn (N := fun e S => ∃ (fs : List Str) (h' : Hs) (a b : Option D), e = [some (.ref 2), some (.int many), a, some (.str ("abcdefghijklmnopqrstuvwxyz" : Str)), some (.ref (G.length + 3)), b] ∧ S = hS h' (G ++ [.lst (fs.map .str)]) ∧ fs.length ≤ 1 + k ∧ fs ≠ [] ∧ ∀ s ∈ fs, isSg s)
      (for_rng (1 + k) (S' := hS (drawH h many) (G ++ [.lst []])) (rng1_sat (k := ((1 + k : Nat) : Int)) ?_ (by omega) (by omega)) (le_sz (by omega))
        (fun i e S => ∃ (fs : List Str) (h' : Hs) (a b : Option D), e = [some (.ref 2), some (.int many), a, some (.str ("abcdefghijklmnopqrstuvwxyz" : Str)), some (.ref (G.length + 3)), b] ∧ S = hS h' (G ++ [.lst (fs.map .str)]) ∧ fs.length ≤ i ∧ (0 < i → fs ≠ []) ∧ ∀ s ∈ fs, isSg s)
        ⟨[], _, _, _, rfl, rfl, by simp, by simp, by simp⟩ ?_ ?_) ?_
    · simp [hd, hk]
    · rintro i env S hi ⟨fs, h', a, b, rfl, rfl, hl, hne, hsg⟩
      refine ⟨_, g_nm _ _, ?_⟩
      have hd2 := draw_eq hT.h9 (n := n + 1) h' (G ++ [.lst (fs.map .str)]) 26 (by decide) (by decide)
      obtain ⟨s, s0, s1⟩ := letter_ix (drawV_nn h' (m := 26) (by decide)) (drawV_lt h' (m := 26) (by decide)) (hS (drawH h' 26) (G ++ [.lst (fs.map .str)]))
      obtain ⟨bb, hb⟩ := in_strs s (hS (drawH h' 26) (G ++ [.lst (fs.map .str)])) (k := G.length + 3) (ss := fs) (by simp)
      have hz : fs.length < sizeLine := Nat.lt_of_lt_of_le (by omega : fs.length < 1000) (le_sz (by omega))
      have hev : ∀ e, evE (callN T (n + 2)) [some (.ref 2), some (.int many), some (.int i), some (.str ("abcdefghijklmnopqrstuvwxyz" : Str)), some (.ref (G.length + 3)), e] (.ix (.slot 3) (.call 9 (.cons (.slot 0) (.cons (.cst (.int 26)) .nil)))) (hS h' (G ++ [.lst (fs.map .str)])) = .ok (.str s) (hS (drawH h' 26) (G ++ [.lst (fs.map .str)])) := fun e => by
        simp only [e_ix, e_slot, List.getElem?_cons_succ, List.getElem?_cons_zero, R.bind_ok, e_call, es_cons, es_nil, e_cst, hd2, s1]
      cases bb with
      | true =>
        refine satB_nx (e := [some (.ref 2), some (.int many), some (.int i), some (.str ("abcdefghijklmnopqrstuvwxyz" : Str)), some (.ref (G.length + 3)), some (.str s)]) (S := hS (drawH h' 26) (G ++ [.lst (fs.map .str)])) ?_ ⟨fs, _, _, _, rfl, rfl, by omega, fun _ e => ?_, hsg⟩
        · simp only [List.set_cons_succ, List.set_cons_zero, xs_cons, x_asg, hev, R.out_ok, g_nm, Out.thn_nx, x_iff, t_cmp, e_slot, List.getElem?_cons_succ, List.getElem?_cons_zero, R.bind_ok, c_nin, hb, R.map_ok, Bool.not_true, Bool.false_eq_true, if_false, xs_nil]
        · subst e
          simp only [opIn, dicOf, opIn0, itemsOf] at hb
          simp [isFlat] at hb
      | false =>
        refine satB_nx (e := [some (.ref 2), some (.int many), some (.int i), some (.str ("abcdefghijklmnopqrstuvwxyz" : Str)), some (.ref (G.length + 3)), some (.str s)]) (S := hS (drawH h' 26) (G ++ [.lst ((fs ++ [s]).map .str)])) ?_ ⟨fs ++ [s], _, _, _, rfl, rfl, by simp; omega, by simp, fun x hx => ?_⟩
        · simp only [List.set_cons_succ, List.set_cons_zero, xs_cons, x_asg, hev, R.out_ok, g_nm, Out.thn_nx, x_iff, t_cmp, e_slot, List.getElem?_cons_succ, List.getElem?_cons_zero, R.bind_ok, c_nin, hb, R.map_ok, Bool.not_false, if_true, xs_nil, x_exp, e_mth, rcv_app, hS_get, get_len, es_cons, es_nil, m_app, List.length_map, hz, hS_set, set_len, List.map_append, List.map_cons, List.map_nil]
        · rcases List.mem_append.1 hx with hx | hx
          · exact hsg x hx
          · simp at hx; subst hx; exact s0
    · rintro env S ⟨fs, h', a, b, rfl, rfl, hl, hne, hsg⟩
      exact ⟨fs, h', a, b, rfl, rfl, hl, hne (by omega), hsg⟩
    · rintro env S ⟨fs, h', a, b, rfl, rfl, hl, hne, hsg⟩
      have hsrt := f_sortr (G.length + 3) (hS h' (G ++ [.lst (fs.map .str)])) (ss := fs) (by simp) (by omega)
      have hp : (sortStr fs).Perm fs := List.mergeSort_perm _ _
      refine sat_rtI (d := .ref (G.length + 4)) (S := hS h' (G ++ [.lst (fs.map .str), .lst ((sortStr fs).map .str)])) ?_ ⟨fs, sortStr fs, h', ⟨fun e => hne (by simpa [e] using hp.symm), by rw [hp.length_eq]; omega, fun s hs => hsg s (hp.mem_iff.1 hs)⟩, rfl, rfl⟩
      simp only [xs_cons, x_ret, e_blt, es_cons, es_nil, e_slot, List.getElem?_cons_succ, List.getElem?_cons_zero, R.bind_ok, hsrt, R.out_ok, Out.thn_rt]
      simp
  obtain ⟨v, S, e, fs, ss, h', p1, rfl, rfl⟩ := sat_rt key
  refine ⟨fs, ss, h', p1, ?_⟩
  rw [call_rt h44 rfl e]
  unfold gcS
  rw [if_neg (by simp [D.lt])]
end
end PD.PS
end

section
set_option linter.all false
namespace PD
open PySem
def d_figures_of : Def := ⟨2, 3, (.cons (.iff (.or (.not (.chn .LtE .LtE (.cst (.int 1)) (.blt .len (.cons (.slot 0) .nil)) (.slot 1))) (.cmp .Eq (.ix (.slot 0) (.cst (.int 0))) (.cst (.str ("0" : PySem.Str))))) (.cons (.ret (.cst .non)) .nil) .nil) (.cons (.ret (.ife (.blt .all (.cons (.lc (.cmp .In (.slot 2) (.cst (.str ("0123456789" : PySem.Str)))) (.nm 2) (.any (.slot 0)) .no [2]) .nil)) (.blt .int (.cons (.slot 0) .nil)) (.cst .non))) .nil))⟩
def d_read_part : Def := ⟨1, 6, (.cons (.iff (.not (.mth .startswith (.slot 0) (.cons (.cst (.str ("w" : PySem.Str))) .nil))) (.cons (.asg (.nm 1) (.call 99 (.cons (.slot 0) (.cons (.cst (.int 40)) .nil)))) (.cons (.ret (.ife (.cmp .Is (.slot 1) (.cst .non)) (.cst .non) (.tup (.cons (.slot 1) (.cons (.cst (.int 0)) .nil))))) .nil)) .nil) (.cons (.asg (.tp (.cons (.nm 3) (.cons (.nm 4) (.cons (.nm 5) .nil)))) (.mth .partition (.slot 0) (.cons (.cst (.str ("*" : PySem.Str))) .nil))) (.cons (.asg (.nm 1) (.ife (.cmp .Eq (.slot 4) (.cst (.str ("*" : PySem.Str)))) (.call 99 (.cons (.slot 5) (.cons (.cst (.int 40)) .nil))) (.cst (.int 1)))) (.cons (.iff (.or (.cmp .Is (.slot 1) (.cst .non)) (.and (.cmp .Eq (.slot 4) (.cst (.str ("*" : PySem.Str)))) (.cmp .Eq (.slot 1) (.cst (.int 1))))) (.cons (.ret (.cst .non)) .nil) .nil) (.cons (.iff (.cmp .Eq (.slot 3) (.cst (.str ("w" : PySem.Str)))) (.cons (.ret (.tup (.cons (.slot 1) (.cons (.cst (.int 1)) .nil)))) .nil) .nil) (.cons (.asg (.nm 2) (.ife (.mth .startswith (.slot 3) (.cons (.cst (.str ("w^" : PySem.Str))) .nil)) (.call 99 (.cons (.slc (.slot 3) (.so (.cst (.int 2))) .no) (.cons (.cst (.int 2)) .nil))) (.cst .non))) (.cons (.iff (.or (.cmp .Is (.slot 2) (.cst .non)) (.not (.chn .LtE .Lt (.cst (.int 2)) (.slot 2) (.cst (.int 16))))) (.cons (.ret (.cst .non)) .nil) .nil) (.cons (.ret (.tup (.cons (.slot 1) (.cons (.slot 2) .nil)))) .nil))))))))⟩
end PD
set_option maxRecDepth 100000
set_option maxHeartbeats 2000000
/-! PDrdo: reading ordinals. -/
namespace PD.PS
open PySem
abbrev sx (l : List Nat) : Str := SX.S l
def dig (c : Nat) : Bool := decide (48 ≤ c) && decide (c ≤ 57)
def figF (l : List Nat) (most : Nat) : Option Nat := if 1 ≤ l.length ∧ l.length ≤ most then (if l.head? = some 48 then none else if l.all dig then some (NumText.digitsVal l) else none) else none
def optN : Option Nat → D
  | none => .non
  | some n => .int (n : Int)
def starP (l : List Nat) : Bool := match TL.par [42] [] l with
  | some _ => true
  | none => false
def headP (l : List Nat) : List Nat := match TL.par [42] [] l with
  | some (p, _) => p
  | none => l
def restP (l : List Nat) : List Nat := match TL.par [42] [] l with
  | some (_, q) => q
  | none => []
def powF (h : List Nat) : Option Nat := if h.take 2 = [119, 94] then figF (h.drop 2) 2 else none
def manyF (l : List Nat) : Option Nat := if starP l then figF (restP l) 40 else some 1
def readPF (l : List Nat) : Option (Nat × Nat) :=
  if l.head? = some 119 then match manyF l with
    | none => none
    | some m => if starP l && decide (m = 1) then none else if headP l = [119] then some (m, 1) else match powF (headP l) with
      | none => none
      | some p => if 2 ≤ p ∧ p < 16 then some (m, p) else none
  else (figF l 40).map fun m => (m, 0)
def pairD : Nat × Nat → D
  | (m, p) => .tup [.int (m : Int), .int (p : Int)]
def optP : Option (Nat × Nat) → D
  | none => .non
  | some q => pairD q
def Cd (l : List Nat) : Prop := ∀ c ∈ l, c < 128
/-! ### texts by their signs -/
theorem sxOk {l : List Nat} (h : Cd l) : PyData.strOk (sx l) = true := by
  simp only [PyData.strOk, List.all_toArray, List.all_eq_true, decide_eq_true_eq]
  intro c hc
  have := h c hc
  omega
theorem opEqS {a b : List Nat} (ha : Cd a) (hb : Cd b) (S : Store) : opEq (.str (sx a)) (.str (sx b)) S = .ok (decide (a = b)) S := by
  rw [opEq_str _ _ _ (sxOk ha) (sxOk hb)]
  congr 1
  exact decide_eq_decide.2 ⟨SX.S_inj, fun h => by rw [h]⟩
theorem sxLen (l : List Nat) : (sx l).length = l.length := SX.S_len l
theorem lenS {l : List Nat} (h : l.length ≤ 100000) (S : Store) : opBlt .len [.str (sx l)] S = .ok (.int (l.length : Int)) S := by
  rw [f_lens _ _ (by rw [sxLen]; exact le_sz (by omega)), sxLen]
theorem itemsS (l : List Nat) : strItems (sx l) = l.map fun c => .str ⟨#[c]⟩ := rfl
theorem startsS (a b : List Nat) : Txt.startswith (sx a) (sx b) = decide (a.take b.length = b) := by
  show (decide (0 + (sx b).length ≤ (sx a).length) && Builtin.Str.subAt (sx a) (sx b) 0) = _
  rw [StrLaws.subAt_eq, sxLen, sxLen]
  show (decide (0 + b.length ≤ a.length) && (a.take b.length == b)) = _
  by_cases h : a.take b.length = b
  · have : b.length ≤ a.length := by
      have := congrArg List.length h
      rw [List.length_take] at this
      omega
    simp [h, this]
  · have : (a.take b.length == b) = false := by simpa using h
    rw [this, decide_eq_false h, Bool.and_false]
theorem partS (l : List Nat) : Txt.partition (sx l) (sx [42]) = (sx (headP l), sx (if starP l then [42] else []), sx (restP l)) := by
  unfold headP starP restP
  cases h : TL.par [42] [] l with
  | none => rw [SX.partition_none (by simp) h]; rfl
  | some pq =>
    obtain ⟨p, q⟩ := pq
    rw [SX.partition_some (by simp) h]
    rfl
theorem s48 : ("0" : Str) = sx [48] := by decide +kernel
theorem s42 : ("*" : Str) = sx [42] := by decide +kernel
theorem s43 : ("+" : Str) = sx [43] := by decide +kernel
theorem s119 : ("w" : Str) = sx [119] := by decide +kernel
theorem sw94 : ("w^" : Str) = sx [119, 94] := by decide +kernel
theorem digs : ("0123456789" : Str) = sx [48, 49, 50, 51, 52, 53, 54, 55, 56, 57] := by decide +kernel
theorem in_dig (c : Nat) (S : Store) : opIn (.str ⟨#[c]⟩) (.str ("0123456789" : Str)) S = .ok (dig c) S := by
  rw [digs]
  simp only [opIn, dicOf, opIn0]
  have := SX.in_one [48, 49, 50, 51, 52, 53, 54, 55, 56, 57] c
  rw [show (⟨#[c]⟩ : Str) = SX.S [c] from rfl, this]
  congr 1
  unfold dig
  rw [← Bool.decide_and]
  refine decide_eq_decide.2 ⟨fun h => ?_, fun h => ?_⟩
  · simp only [List.mem_cons, List.not_mem_nil, or_false] at h
    omega
  · simp only [List.mem_cons, List.not_mem_nil, or_false]
    omega
theorem dig_int {l : List Nat} (h : l.all dig = true) (hne : l ≠ []) (hl : l.length ≤ 640) (S : Store) : opBlt .int [.str (sx l)] S = .ok (.int (NumText.digitsVal l : Nat)) S := by
  have h1 := SX.int_S (a := l) h hne (by omega)
  have h2 : (sx l).length ≤ 640 := by rw [sxLen]; exact hl
  simp only [opBlt, h2, if_true, h1]
section
variable {T : Tab} {n : Nat}
theorem figures_ok (hT : T 99 = some PD.d_figures_of) {l : List Nat} (hc : Cd l) (hl : l.length ≤ 100000) {most : Nat} (hm : most ≤ 640) (S : Store) : callN T (n + 1) 99 [.str (sx l), .int (most : Int)] S = .ok (optN (figF l most)) S := by
  have len := fun S => lenS hl S
  have key : ∃ G, exTs (callN T n) d_figures_of.body [some (.str (sx l)), some (.int (most : Int)), none] S = .rt (optN (figF l most)) (S ++ G) := by
    by_cases h1 : 1 ≤ l.length
    · have h1' : (1 : Int) ≤ (l.length : Int) := by omega
      by_cases h2 : l.length ≤ most
      · have h2' : (l.length : Int) ≤ (most : Int) := by omega
        match l, h1, h2, h1', h2', len, hc with
        | c :: r, h1, h2, h1', h2', len, hc =>
          have hlen : (c :: r).length ≤ most := h2
          have ix0 : ∀ S, opIx (.str (sx (c :: r))) (.int 0) S = .ok (.str (sx [c])) S := fun S => by
            have : strAt (sx (c :: r)) 0 = some (.str ⟨#[c]⟩) := by
              have hz : (sx (c :: r)).length ≤ sizeLine := by rw [sxLen]; exact le_sz (by omega)
              simp only [strAt, hz, if_true]
              show (L2.atI (c :: r) 0).map _ = _
              simp [L2.atI, L2.ixN]
            simp only [opIx, dicOf, opIx0, this]
          have cc : Cd [c] := fun x hx => by simp at hx; subst hx; exact hc x (by simp)
          have c48 : Cd [48] := by intro x hx; simp at hx; omega
          have eq0 := fun S => opEqS cc c48 S
          by_cases hz : c = 48
          · refine ⟨[], ?_⟩
            have e : figF (c :: r) most = none := by simp only [figF, List.head?_cons, hz, if_true, ite_self]
            have eq1 : ∀ S, opEq (.str (sx [c])) (.str (sx [48])) S = .ok true S := fun S => by rw [eq0]; simp [hz]
            rw [e, List.append_nil]
            simp only [d_figures_of, s48, xs_cons, x_iff, t_or, t_not, t_chn, t_cmp, e_cst, e_blt, es_cons, es_nil, e_slot, List.getElem?_cons_succ, List.getElem?_cons_zero, R.bind_ok, len, c_le, h1', h2', decide_true, if_true, R.map_ok, Bool.not_true, Bool.false_eq_true, if_false, e_ix, ix0, c_eq, eq1, R.out_ok, x_ret, Out.thn_rt, optN]
          · have eq1 : ∀ S, opEq (.str (sx [c])) (.str (sx [48])) S = .ok false S := fun S => by rw [eq0]; simp [hz]
            have lc : evE (callN T n) [some (.str (sx (c :: r))), some (.int (most : Int)), none] (.lc (.cmp .In (.slot 2) (.cst (.str ("0123456789" : PySem.Str)))) (.nm 2) (.any (.slot 0)) .no [2]) S = .ok (.ref S.length) (S ++ [.lst ((c :: r).map fun c => .bl (dig c))]) := by
              refine lc_m (fun c => .str ⟨#[c]⟩) (fun c => .bl (dig c)) (c :: r) ?_ (le_sz (by omega)) fun x hx => ⟨_, g_nm _ _, ?_⟩
              · rw [i_any, e_slot]
                simp only [List.getElem?_cons_zero, R.bind_ok]
                rfl
              · simp only [wipeE, List.set_cons_succ, List.set_cons_zero, e_cmp, e_slot, e_cst, List.getElem?_cons_succ, List.getElem?_cons_zero, R.bind_ok, c_in, in_dig, R.map_ok]
            have bl : bls? ((c :: r).map fun c => .bl (dig c)) = some ((c :: r).map dig) := by
              have := bls_bls ((c :: r).map dig)
              rw [List.map_map] at this
              exact this
            have al : ((c :: r).map dig).all id = (c :: r).all dig := by rw [List.all_map]; rfl
            have hne : ¬ (some c = some 48) := fun h => hz (Option.some.inj h)
            refine ⟨[.lst ((c :: r).map fun c => .bl (dig c))], ?_⟩
            by_cases hd : (c :: r).all dig = true
            · have e : figF (c :: r) most = some (NumText.digitsVal (c :: r)) := by simp only [figF, h1, h2, and_self, if_true, List.head?_cons, hne, if_false, hd]
              have di := fun S => dig_int hd (by simp) (by omega) S
              rw [e]
              simp only [d_figures_of, s48, xs_cons, x_iff, t_or, t_not, t_chn, t_cmp, e_cst, e_blt .len, e_blt .int, t_blt, es_cons, es_nil, e_slot, List.getElem?_cons_succ, List.getElem?_cons_zero, R.bind_ok, len, c_le, h1', h2', decide_true, if_true, R.map_ok, Bool.not_true, Bool.false_eq_true, if_false, e_ix, ix0, c_eq, eq1, R.out_ok, xs_nil, Out.thn_nx, x_ret, e_ife, lc, f_allr, items_ref, get_end, bl, al, hd, tru_b, di, Out.thn_rt, optN]
            · have hd' : (c :: r).all dig = false := by simpa using hd
              have e : figF (c :: r) most = none := by simp only [figF, h1, h2, and_self, if_true, List.head?_cons, hne, if_false, hd', Bool.false_eq_true]
              rw [e]
              simp only [d_figures_of, s48, xs_cons, x_iff, t_or, t_not, t_chn, t_cmp, e_cst, e_blt .len, e_blt .int, t_blt, es_cons, es_nil, e_slot, List.getElem?_cons_succ, List.getElem?_cons_zero, R.bind_ok, len, c_le, h1', h2', decide_true, if_true, R.map_ok, Bool.not_true, Bool.false_eq_true, if_false, e_ix, ix0, c_eq, eq1, R.out_ok, xs_nil, Out.thn_nx, x_ret, e_ife, lc, f_allr, items_ref, get_end, bl, al, hd', tru_b, Out.thn_rt, optN]
      · refine ⟨[], ?_⟩
        have h2' : ¬ (l.length : Int) ≤ (most : Int) := by omega
        have e : figF l most = none := by simp only [figF, h2, and_false, if_false]
        rw [e, List.append_nil]
        simp only [d_figures_of, xs_cons, x_iff, t_or, t_not, t_chn, e_cst, e_blt, es_cons, es_nil, e_slot, List.getElem?_cons_succ, List.getElem?_cons_zero, R.bind_ok, len, c_le, h1', h2', decide_true, decide_false, if_true, R.map_ok, Bool.not_false, R.out_ok, x_ret, Out.thn_rt, optN]
    · refine ⟨[], ?_⟩
      have h1' : ¬ (1 : Int) ≤ (l.length : Int) := by omega
      have e : figF l most = none := by simp only [figF, h1, false_and, if_false]
      rw [e, List.append_nil]
      simp only [d_figures_of, xs_cons, x_iff, t_or, t_not, t_chn, e_cst, e_blt, es_cons, es_nil, e_slot, List.getElem?_cons_succ, List.getElem?_cons_zero, R.bind_ok, len, c_le, h1', decide_false, Bool.false_eq_true, if_false, if_true, R.map_ok, Bool.not_false, R.out_ok, x_ret, Out.thn_rt, optN]
  obtain ⟨G, e⟩ := key
  refine call_pure hT rfl ?_ e
  cases figF l most <;> rfl
end
theorem pre42 (c : Nat) (r : List Nat) (k : Nat) : TL.pre [k] (c :: r) = decide (c = k) := by
  by_cases h : c = k <;> simp [TL.pre, h]
theorem par_eq : ∀ (l acc p q : List Nat), TL.par [42] acc l = some (p, q) → ∃ p', p = acc ++ p' ∧ l = p' ++ 42 :: q
  | [], acc, p, q, h => by cases h
  | c :: r, acc, p, q, h => by
    by_cases e : c = 42
    · rw [TL.par_hit (by rw [pre42]; simp [e])] at h
      simp only [Option.some.injEq, Prod.mk.injEq] at h
      refine ⟨[], by simp [h.1], ?_⟩
      rw [← h.2, e]
      rfl
    · rw [TL.par_miss (by rw [pre42]; simp [e])] at h
      obtain ⟨p', h1, h2⟩ := par_eq r (acc ++ [c]) p q h
      exact ⟨c :: p', by rw [h1]; simp, by rw [h2]; rfl⟩
theorem head_cd {l : List Nat} (h : Cd l) : Cd (headP l) ∧ (headP l).length ≤ l.length := by
  unfold headP
  split
  next p q e =>
    obtain ⟨p', h1, h2⟩ := par_eq l [] p _ e
    simp only [List.nil_append] at h1
    subst h1
    exact ⟨fun c hc => h c (by rw [h2]; simp [hc]), by rw [h2]; simp⟩
  · exact ⟨h, Nat.le_refl _⟩
theorem rest_cd {l : List Nat} (h : Cd l) : Cd (restP l) ∧ (restP l).length ≤ l.length := by
  unfold restP
  split
  next p q e =>
    obtain ⟨p', h1, h2⟩ := par_eq l [] _ q e
    exact ⟨fun c hc => h c (by rw [h2]; simp [hc]), by rw [h2]; simp; omega⟩
  · exact ⟨fun c hc => by simp at hc, by simp⟩
theorem cd_lit {l : List Nat} (h : l.all (fun c => decide (c < 128)) = true) : Cd l := fun c hc => by simpa using List.all_eq_true.1 h c hc
theorem sl2 {l : List Nat} (h : l.length ≤ 100000) (S : Store) : opSl (.str (sx l)) (some 2) none S = .ok (.str (sx (l.drop 2))) S := by
  have hz : (sx l).length ≤ sizeLine := by rw [sxLen]; exact le_sz (by omega)
  simp only [opSl, hz, if_true]
  congr 2
  unfold L2.cutS
  rw [sxLen, show (some (2 : Int)) = some ((2 : Nat) : Int) from rfl, HT.sIx_nat, HT.sIx_none]
  show SX.S _ = SX.S _
  congr 1
  show (l.drop (min 2 l.length)).take (l.length - min 2 l.length) = l.drop 2
  rcases Nat.le_total 2 l.length with q | q
  · rw [Nat.min_eq_left q, List.take_of_length_le (by simp)]
  · rw [Nat.min_eq_right q, List.drop_of_length_le q]
    simp
section
variable {T : Tab} {n : Nat}
theorem read_part_ok (h99 : T 99 = some PD.d_figures_of) (hT : T 100 = some PD.d_read_part) {l : List Nat} (hc : Cd l) (hl : l.length ≤ 100000) (S : Store) : callN T (n + 2) 100 [.str (sx l)] S = .ok (optP (readPF l)) S := by
  have z2 : 0 + 1 + 1 ≤ sizeLine := le_sz (by omega)
  apply call_pure0 hT rfl
  show exTs (callN T (n + 1)) d_read_part.body [some (.str (sx l)), none, none, none, none, none] S = _
  have st : opMth .startswith (.str (sx l)) [.str ("w" : Str)] S = .ok (.bl (decide (l.take 1 = [119]))) S := by
    rw [s119]
    show R.ok (D.bl (Txt.startswith (sx l) (sx [119]))) S = _
    rw [startsS]
    rfl
  have hd : l.take 1 = [119] ↔ l.head? = some 119 := by cases l <;> simp
  by_cases w : l.head? = some 119
  · have w1 : l.take 1 = [119] := hd.2 w
    have z3 : (("*" : Str).length == 0) = false := rfl
    have zl : (sx l).length ≤ sizeLine := by rw [sxLen]; exact le_sz (by omega)
    have pt : opMth .partition (.str (sx l)) [.str ("*" : Str)] S = .ok (.tup [.str (sx (headP l)), .str (sx (if starP l then [42] else [])), .str (sx (restP l))]) S := by
      have := partS l
      rw [← s42] at this
      simp only [opMth, z3, zl, true_and, and_self, if_true, this]
    obtain ⟨hc1, hl1⟩ := head_cd hc
    obtain ⟨hc2, hl2⟩ := rest_cd hc
    have fg1 := fun S => figures_ok (n := n) h99 hc2 (by omega) (most := 40) (by omega) S
    have c42 : Cd [42] := cd_lit (by decide)
    have seq : opEq (.str (sx (if starP l then [42] else []))) (.str ("*" : Str)) S = .ok (starP l) S := by
      rw [s42, opEqS (by split; exact c42; exact cd_lit (by decide)) c42]
      cases starP l <;> simp
    have heq : opEq (.str (sx (headP l))) (.str ("w" : Str)) S = .ok (decide (headP l = [119])) S := by
      rw [s119, opEqS hc1 (cd_lit (by decide))]
    have hst : opMth .startswith (.str (sx (headP l))) [.str ("w^" : Str)] S = .ok (.bl (decide ((headP l).take 2 = [119, 94]))) S := by
      rw [sw94]
      show R.ok (D.bl (Txt.startswith (sx (headP l)) (sx [119, 94]))) S = _
      rw [startsS]
      rfl
    have cdd : Cd ((headP l).drop 2) := fun c hc => hc1 c (List.mem_of_mem_drop hc)
    have fg2 := fun S => figures_ok (n := n) h99 cdd (by simp; omega) (most := 2) (by omega) S
    have s2 := fun S => sl2 (l := headP l) (by omega) S
    -- the factor
    have many : evE (callN T (n + 1)) [some (.str (sx l)), none, none, some (.str (sx (headP l))), some (.str (sx (if starP l then [42] else []))), some (.str (sx (restP l)))] (.ife (.cmp .Eq (.slot 4) (.cst (.str ("*" : PySem.Str)))) (.call 99 (.cons (.slot 5) (.cons (.cst (.int 40)) .nil))) (.cst (.int 1))) S = .ok (optN (manyF l)) S := by
      cases e : starP l with
      | true =>
        rw [e] at seq
        have m1 : manyF l = figF (restP l) 40 := by simp [manyF, e]
        rw [m1]
        have := fg1 S
        simp only [if_true] at seq ⊢
        simp only [e_ife, t_cmp, e_slot, e_cst, List.getElem?_cons_succ, List.getElem?_cons_zero, R.bind_ok, c_eq, seq, if_true, e_call, es_cons, es_nil]
        exact this
      | false =>
        rw [e] at seq
        have m1 : manyF l = some 1 := by simp [manyF, e]
        rw [m1]
        simp only [Bool.false_eq_true, if_false] at seq ⊢
        simp only [e_ife, t_cmp, e_slot, e_cst, List.getElem?_cons_succ, List.getElem?_cons_zero, R.bind_ok, c_eq, seq, Bool.false_eq_true, if_false, optN]
        rfl
    have powr : ∀ x1, evE (callN T (n + 1)) [some (.str (sx l)), x1, none, some (.str (sx (headP l))), some (.str (sx (if starP l then [42] else []))), some (.str (sx (restP l)))] (.ife (.mth .startswith (.slot 3) (.cons (.cst (.str ("w^" : PySem.Str))) .nil)) (.call 99 (.cons (.slc (.slot 3) (.so (.cst (.int 2))) .no) (.cons (.cst (.int 2)) .nil))) (.cst .non)) S = .ok (optN (powF (headP l))) S := fun x1 => by
      by_cases e : (headP l).take 2 = [119, 94]
      · have m1 : powF (headP l) = figF ((headP l).drop 2) 2 := by simp [powF, e]
        rw [decide_eq_true e] at hst
        have := fg2 S
        rw [m1]
        simp only [e_ife, t_mth, e_slot, List.getElem?_cons_succ, List.getElem?_cons_zero, R.bind_ok, rcv_startswith, if_true, es_cons, es_nil, e_cst, hst, tru_b, e_call, e_slc, o_so, o_no, s2]
        exact this
      · have m1 : powF (headP l) = none := by simp [powF, e]
        rw [decide_eq_false e] at hst
        rw [m1]
        simp only [e_ife, t_mth, e_slot, List.getElem?_cons_succ, List.getElem?_cons_zero, R.bind_ok, rcv_startswith, if_true, es_cons, es_nil, e_cst, hst, tru_b, Bool.false_eq_true, if_false, optN]
    have start : exTs (callN T (n + 1)) d_read_part.body [some (.str (sx l)), none, none, none, none, none] S = exTs (callN T (n + 1)) (.cons (.iff (.or (.cmp .Is (.slot 1) (.cst .non)) (.and (.cmp .Eq (.slot 4) (.cst (.str ("*" : PySem.Str)))) (.cmp .Eq (.slot 1) (.cst (.int 1))))) (.cons (.ret (.cst .non)) .nil) .nil) (.cons (.iff (.cmp .Eq (.slot 3) (.cst (.str ("w" : PySem.Str)))) (.cons (.ret (.tup (.cons (.slot 1) (.cons (.cst (.int 1)) .nil)))) .nil) .nil) (.cons (.asg (.nm 2) (.ife (.mth .startswith (.slot 3) (.cons (.cst (.str ("w^" : PySem.Str))) .nil)) (.call 99 (.cons (.slc (.slot 3) (.so (.cst (.int 2))) .no) (.cons (.cst (.int 2)) .nil))) (.cst .non))) (.cons (.iff (.or (.cmp .Is (.slot 2) (.cst .non)) (.not (.chn .LtE .Lt (.cst (.int 2)) (.slot 2) (.cst (.int 16))))) (.cons (.ret (.cst .non)) .nil) .nil) (.cons (.ret (.tup (.cons (.slot 1) (.cons (.slot 2) .nil)))) .nil))))) [some (.str (sx l)), some (optN (manyF l)), none, some (.str (sx (headP l))), some (.str (sx (if starP l then [42] else []))), some (.str (sx (restP l)))] S := by
      rw [d_read_part]
      simp only []
      rw [xs_cons]
      simp only [x_iff, t_not, t_mth, e_slot, List.getElem?_cons_zero, R.bind_ok, rcv_startswith, if_true, es_cons, es_nil, e_cst, st, w1, decide_true, tru_b, R.map_ok, Bool.not_true, R.out_ok, Bool.false_eq_true, if_false, xs_nil, Out.thn_nx]
      rw [xs_cons]
      simp only [x_asg (t := .tp _), e_mth, e_slot, List.getElem?_cons_zero, R.bind_ok, rcv_partition, if_true, es_cons, es_nil, e_cst, pt, R.out_ok, g_tp, items_tup, gs_cons, gs_nil, g_nm, List.set_cons_succ, List.set_cons_zero, Out.thn_nx]
      rw [xs_cons, x_asg, many]
      simp only [R.out_ok, g_nm, List.set_cons_succ, List.set_cons_zero, Out.thn_nx]
    rw [start]
    have rd : readPF l = match manyF l with
      | none => none
      | some m => if starP l && decide (m = 1) then none else if headP l = [119] then some (m, 1) else match powF (headP l) with
        | none => none
        | some p => if 2 ≤ p ∧ p < 16 then some (m, p) else none := by unfold readPF; rw [if_pos w]
    cases hm : manyF l with
    | none =>
      rw [hm] at rd
      simp only [] at rd
      rw [rd]
      simp only [optN, xs_cons, x_iff, t_or, t_cmp, e_slot, e_cst, List.getElem?_cons_succ, List.getElem?_cons_zero, R.bind_ok, c_is, is_nn, if_true, R.out_ok, x_ret, Out.thn_rt, optP]
    | some m =>
      rw [hm] at rd
      simp only [] at rd
      have m1 : decide ((m : Int) = 1) = decide (m = 1) := decide_eq_decide.2 (by omega)
      by_cases s1 : (starP l && decide (m = 1)) = true
      · rw [if_pos s1] at rd
        rw [rd]
        simp only [Bool.and_eq_true] at s1
        rw [s1.1] at seq
        rw [s1.1]
        simp only [if_true] at seq ⊢
        simp only [optN, xs_cons, x_iff, t_or, t_and, t_cmp, e_slot, e_cst, List.getElem?_cons_succ, List.getElem?_cons_zero, R.bind_ok, c_is, is_int, Bool.false_eq_true, if_false, c_eq, seq, opEq_int, m1, s1.2, if_true, R.out_ok, x_ret, Out.thn_rt, optP]
      · rw [if_neg s1] at rd
        have first : ∀ r, exTs (callN T (n + 1)) (.cons (.iff (.or (.cmp .Is (.slot 1) (.cst .non)) (.and (.cmp .Eq (.slot 4) (.cst (.str ("*" : PySem.Str)))) (.cmp .Eq (.slot 1) (.cst (.int 1))))) (.cons (.ret (.cst .non)) .nil) .nil) r) [some (.str (sx l)), some (.int (m : Int)), none, some (.str (sx (headP l))), some (.str (sx (if starP l then [42] else []))), some (.str (sx (restP l)))] S = exTs (callN T (n + 1)) r [some (.str (sx l)), some (.int (m : Int)), none, some (.str (sx (headP l))), some (.str (sx (if starP l then [42] else []))), some (.str (sx (restP l)))] S := fun r => by
          cases e : starP l with
          | true =>
            rw [e] at seq s1
            have s2 : decide (m = 1) = false := by simpa using s1
            simp only [if_true] at seq ⊢
            simp only [xs_cons, x_iff, t_or, t_and, t_cmp, e_slot, e_cst, List.getElem?_cons_succ, List.getElem?_cons_zero, R.bind_ok, c_is, is_int, Bool.false_eq_true, if_false, c_eq, seq, opEq_int, m1, s2, if_true, R.out_ok, xs_nil, Out.thn_nx]
          | false =>
            rw [e] at seq
            simp only [Bool.false_eq_true, if_false] at seq ⊢
            simp only [xs_cons, x_iff, t_or, t_and, t_cmp, e_slot, e_cst, List.getElem?_cons_succ, List.getElem?_cons_zero, R.bind_ok, c_is, is_int, Bool.false_eq_true, if_false, c_eq, seq, R.out_ok, xs_nil, Out.thn_nx]
        simp only [optN]
        rw [first]
        by_cases hw : headP l = [119]
        · rw [if_pos hw] at rd
          rw [decide_eq_true hw] at heq
          rw [rd]
          simp only [xs_cons, x_iff, t_cmp, e_slot, e_cst, List.getElem?_cons_succ, List.getElem?_cons_zero, R.bind_ok, c_eq, heq, if_true, R.out_ok, x_ret, e_tup, es_cons, es_nil, List.length_cons, List.length_nil, z2, Out.thn_rt, optP, pairD]
          rfl
        · rw [if_neg hw] at rd
          rw [decide_eq_false hw] at heq
          rw [xs_cons]
          simp only [x_iff (c := .cmp .Eq _ _), t_cmp, e_slot, e_cst, List.getElem?_cons_succ, List.getElem?_cons_zero, R.bind_ok, c_eq, heq, Bool.false_eq_true, if_false, R.out_ok, xs_nil, Out.thn_nx]
          rw [xs_cons, x_asg, powr]
          simp only [R.out_ok, g_nm, List.set_cons_succ, List.set_cons_zero, Out.thn_nx]
          cases hp : powF (headP l) with
          | none =>
            rw [hp] at rd
            simp only [] at rd
            rw [rd]
            simp only [optN, xs_cons, x_iff, t_or, t_cmp, e_slot, e_cst, List.getElem?_cons_succ, List.getElem?_cons_zero, R.bind_ok, c_is, is_nn, if_true, R.out_ok, x_ret, Out.thn_rt, optP]
          | some p =>
            rw [hp] at rd
            simp only [] at rd
            by_cases p2 : 2 ≤ p
            · have p2' : (2 : Int) ≤ (p : Int) := by omega
              by_cases p3 : p < 16
              · have p3' : (p : Int) < 16 := by omega
                rw [if_pos ⟨p2, p3⟩] at rd
                rw [rd]
                simp only [optN, xs_cons, x_iff, t_or, t_not, t_chn, t_cmp, e_slot, e_cst, List.getElem?_cons_succ, List.getElem?_cons_zero, R.bind_ok, c_is, is_int, Bool.false_eq_true, if_false, c_le, c_lt, p2', p3', decide_true, if_true, R.map_ok, Bool.not_true, R.out_ok, xs_nil, Out.thn_nx, x_ret, e_tup, es_cons, es_nil, List.length_cons, List.length_nil, z2, Out.thn_rt, optP, pairD]
              · have p3' : ¬ (p : Int) < 16 := by omega
                rw [if_neg (fun h => p3 h.2)] at rd
                rw [rd]
                simp only [optN, xs_cons, x_iff, t_or, t_not, t_chn, t_cmp, e_slot, e_cst, List.getElem?_cons_succ, List.getElem?_cons_zero, R.bind_ok, c_is, is_int, Bool.false_eq_true, if_false, c_le, c_lt, p2', p3', decide_true, decide_false, if_true, R.map_ok, Bool.not_false, R.out_ok, x_ret, Out.thn_rt, optP]
            · have p2' : ¬ (2 : Int) ≤ (p : Int) := by omega
              rw [if_neg (fun h => p2 h.1)] at rd
              rw [rd]
              simp only [optN, xs_cons, x_iff, t_or, t_not, t_chn, t_cmp, e_slot, e_cst, List.getElem?_cons_succ, List.getElem?_cons_zero, R.bind_ok, c_is, is_int, Bool.false_eq_true, if_false, c_le, c_lt, p2', decide_false, if_true, R.map_ok, Bool.not_false, R.out_ok, x_ret, Out.thn_rt, optP]
  · have w1 : ¬ l.take 1 = [119] := fun h => w (hd.1 h)
    have fg := figures_ok (n := n) h99 hc hl (most := 40) (by omega) S
    have rd : readPF l = (figF l 40).map fun m => (m, 0) := by unfold readPF; rw [if_neg w]
    have fg' : callN T (n + 1) 99 [.str (sx l), .int 40] S = .ok (optN (figF l 40)) S := fg
    rw [rd, d_read_part]
    cases hf : figF l 40 with
    | none =>
      rw [hf] at fg'
      simp only [xs_cons, x_iff, t_not, t_mth, e_slot, List.getElem?_cons_zero, R.bind_ok, rcv_startswith, if_true, es_cons, es_nil, e_cst, st, w1, decide_false, tru_b, R.map_ok, Bool.not_false, R.out_ok, x_asg, e_call, fg', g_nm, List.set_cons_succ, List.set_cons_zero, Out.thn_nx, x_ret, e_ife, t_cmp, List.getElem?_cons_succ, optN, c_is, is_nn, Out.thn_rt, Option.map_none, optP]
    | some m =>
      rw [hf] at fg'
      simp only [xs_cons, x_iff, t_not, t_mth, e_slot, List.getElem?_cons_zero, R.bind_ok, rcv_startswith, if_true, es_cons, es_nil, e_cst, st, w1, decide_false, tru_b, R.map_ok, Bool.not_false, R.out_ok, x_asg, e_call, fg', g_nm, List.set_cons_succ, List.set_cons_zero, Out.thn_nx, x_ret, e_ife, t_cmp, List.getElem?_cons_succ, optN, c_is, is_int, Bool.false_eq_true, if_false, e_tup, List.length_cons, List.length_nil, z2, Out.thn_rt, Option.map_some, optP, pairD]
      rfl
end
end PD.PS
end

section
set_option linter.all false
set_option maxRecDepth 100000
set_option maxHeartbeats 2000000
/-! PDgen2: rows that the laws draw. -/
namespace PD.PS
open PySem
structure Rows (T : Tab) : Prop where
  dr : Draws T
  h41 : T 41 = some d__law_count
  h42 : T 42 = some d__law_deep
  h43 : T 43 = some d__law_row
def rowB : Ts := match d__law_row.body with
  | .cons _ (.cons (.for_ _ _ b) _) => b
  | _ => .nil
def rowL : T := match d__law_row.body with
  | .cons _ (.cons _ (.cons r _)) => r
  | _ => .pas
theorem row_body : d__law_row.body = .cons (.asg (.tp (.cons (.nm 5) (.cons (.nm 6) .nil))) (.tup (.cons (.lst .nil) (.cons (.slot 3) .nil)))) (.cons (.for_ (.nm 4) (.rng1 (.bin .Add (.cst (.int 1)) (.call 9 (.cons (.slot 0) (.cons (.cst (.int 4)) .nil))))) rowB) (.cons rowL .nil)) := rfl
theorem thn_id (o : Out) : (o.thn fun e S => .nx e S) = o := by cases o <;> rfl
theorem len_lt_sz {k : Nat} (h : k ≤ 1000000) : k < sizeLine := Nat.lt_of_le_of_lt h (by decide)
section
variable {T : Tab} {n : Nat}
/-- what a row's drawing does with its callee -/
def RowS (F : Fn) (k : Nat) (c : Nat) (ss : List Str) : Prop := ∀ (h : Hs) (G : Store) (most : Int), GW G → G[c]? = some (.lst (ss.map .str)) → 1 ≤ most → most ≤ 1000000 →
  ∃ (r : Rw) (h' : Hs), okR r ∧ r ≠ [] ∧ depR r ≤ k ∧ (cntR r : Int) ≤ most ∧ F 43 [.ref 2, .ref (c + 3), .int k, .int most] (hS h G) = .ok (rowD r) (hS h' G)
theorem row_turn (hT : Rows T) {k c : Nat} {ss : List Str} (hs : Sgs ss) (hrec : ∀ j, k = j + 1 → RowS (callN T (n + k + 3)) j c ss) (h : Hs) (G : Store) (g : GW G) (hc : G[c]? = some (.lst (ss.map .str))) (most : Int) (m1 : most ≤ 1000000)
    (r : Rw) (ok : okR r) (hd : depR r ≤ k) (left : Int) (hl : (cntR r : Int) + left = most) (h0 : 0 ≤ left) (a b : Option D) :
    ∃ (q : Rw) (h' : Hs) (b' : Option D), okR q ∧ (0 < left → q ≠ []) ∧ (left = 0 → q = r) ∧ depR q ≤ k ∧ (cntR q : Int) ≤ most ∧
      exTs (callN T (n + k + 3)) rowB [some (.ref 2), some (.ref (c + 3)), some (.int k), some (.int most), a, some (.ref (G.length + 3)), some (.int left), b] (hS h (G ++ [.lst (rowDs r)])) =
        .nx [some (.ref 2), some (.ref (c + 3)), some (.int k), some (.int most), a, some (.ref (G.length + 3)), some (.int (most - cntR q)), b'] (hS h' (G ++ [.lst (rowDs q)])) := by
  have hcl : c < G.length := by
    rcases Nat.lt_or_ge c G.length with q | q
    · exact q
    · rw [List.getElem?_eq_none q] at hc; cases hc
  have hc2 : ∀ x, (G ++ [x])[c]? = some (.lst (ss.map .str)) := fun x => by rw [List.getElem?_append_left hcl]; exact hc
  have hlen := len_le_cnt r ok
  have hz : r.length < sizeLine := len_lt_sz (by omega)
  have hlen2 : (rowDs r).length < sizeLine := by rw [rowDs_len]; exact hz
  -- a sign at the end
  have sgn : ∀ (h1 : Hs), 0 < left → ∃ (q : Rw) (h' : Hs), okR q ∧ q ≠ [] ∧ depR q ≤ k ∧ (cntR q : Int) ≤ most ∧
      exTs (callN T (n + k + 3)) (.cons (.iff (.cmp .Gt (.slot 6) (.cst (.int 0))) (.cons (.exp (.mth .append (.slot 5) (.cons (.call 24 (.cons (.slot 0) (.cons (.slot 1) .nil))) .nil))) (.cons (.asg (.nm 6) (.bin .Sub (.slot 6) (.cst (.int 1)))) .nil)) .nil) .nil) [some (.ref 2), some (.ref (c + 3)), some (.int k), some (.int most), a, some (.ref (G.length + 3)), some (.int left), b] (hS h1 (G ++ [.lst (rowDs r)])) =
        .nx [some (.ref 2), some (.ref (c + 3)), some (.int k), some (.int most), a, some (.ref (G.length + 3)), some (.int (most - cntR q)), b] (hS h' (G ++ [.lst (rowDs q)])) := by
    intro h1 hp
    obtain ⟨s, h2, s1, s2, s3⟩ := some_sg (n := n + k + 1) hT.dr h1 (G ++ [.lst (rowDs r)]) (hc2 _) hs
    refine ⟨r ++ [.sg s], h2, by rw [ok_app]; exact ⟨ok, by simp [s2]⟩, by simp, by simp; exact hd, by simp; omega, ?_⟩
    have e : most - (cntR (r ++ [.sg s]) : Int) = left - 1 := by simp; omega
    rw [e]
    simp only [xs_cons, x_iff, t_cmp, e_slot, e_cst, List.getElem?_cons_succ, List.getElem?_cons_zero, R.bind_ok, c_gt, hp, decide_true, R.out_ok, if_true, x_exp, e_mth, rcv_app, hS_get, get_len, es_cons, es_nil, e_call, s3, m_app, hlen2, hS_set, set_len, Out.thn_nx, x_asg, e_bin, b_sub, g_nm, List.set_cons_succ, List.set_cons_zero, xs_nil, rowDs_app, rowDs_cons, rowDs_nil, It.d_sg]
  by_cases hp : 0 < left
  · cases k with
    | zero =>
      have hk0 : ¬ (0 : Int) < ((0 : Nat) : Int) := by omega
      obtain ⟨q, h', q1, q2, q3, q4, q5⟩ := sgn h hp
      refine ⟨q, h', b, q1, fun _ => q2, fun e => by omega, q3, q4, ?_⟩
      rw [← q5]
      simp only [rowB, d__law_row, xs_cons, x_iff (c := .and _ _), t_and, t_cmp, e_slot, e_cst, List.getElem?_cons_succ, List.getElem?_cons_zero, R.bind_ok, c_gt, hp, hk0, decide_true, if_true, decide_false, Bool.false_eq_true, if_false, R.out_ok]
      simp only [xs_nil, thn_id]
    | succ k =>
      have hk : (0 : Int) < ((k + 1 : Nat) : Int) := by omega
      have d5 := draw_eq hT.dr.h9 (n := n + (k + 1) + 2) h (G ++ [.lst (rowDs r)]) 5 (by decide) (by decide)
      by_cases h5 : drawV h 5 < 2
      · have dl := draw_eq hT.dr.h9 (n := n + (k + 1) + 2) (drawH h 5) (G ++ [.lst (rowDs r)]) left hp (by omega)
        have v0 := drawV_nn (drawH h 5) hp
        have v1 := drawV_lt (drawH h 5) hp
        obtain ⟨q, h', q1, q2, q3, q4, q5⟩ := hrec k rfl (drawH (drawH h 5) left) (G ++ [.lst (rowDs r)]) (1 + drawV (drawH h 5) left) (g.lst (rows_lt 0 r)) (hc2 _) (by omega) (by omega)
        have hcn := count_ok (n := n + 3) hT.h41 k q (hS h' (G ++ [.lst (rowDs (r ++ [.ev q]))])) q3 q1 (by omega)
        rw [show n + 3 + k + 1 = n + (k + 1) + 3 by omega] at hcn
        refine ⟨r ++ [.ev q], h', some (rowD q), by rw [ok_app]; exact ⟨ok, by simp [q1, q2]⟩, by simp, fun e => by omega, by simp; omega, by simp; omega, ?_⟩
        have e : most - (cntR (r ++ [.ev q]) : Int) = left - cntR q := by simp; omega
        rw [e]
        have e2 : ((k + 1 : Nat) : Int) - 1 = (k : Int) := by omega
        have e3 : rowDs r ++ [rowD q] = rowDs (r ++ [.ev q]) := by simp
        simp only [rowB, d__law_row, xs_cons, x_iff, t_and, t_cmp, e_slot, e_cst, e_call, es_cons, es_nil, List.getElem?_cons_succ, List.getElem?_cons_zero, R.bind_ok, c_gt, c_lt, hp, hk, d5, h5, decide_true, if_true, R.out_ok, x_asg, e_bin, b_sub, b_add, e2, dl, q5, g_nm, List.set_cons_succ, List.set_cons_zero, Out.thn_nx, x_exp, e_mth, rcv_app, hS_get, get_len, m_app, hlen2, hS_set, set_len, e3, hcn, xs_nil]
      · obtain ⟨q, h', q1, q2, q3, q4, q5⟩ := sgn (drawH h 5) hp
        refine ⟨q, h', b, q1, fun _ => q2, fun e => by omega, q3, q4, ?_⟩
        rw [← q5]
        simp only [rowB, d__law_row, xs_cons, x_iff (c := .and _ _), t_and, t_cmp, e_slot, e_cst, e_call, es_cons, es_nil, List.getElem?_cons_succ, List.getElem?_cons_zero, R.bind_ok, c_gt, c_lt, hp, hk, d5, h5, decide_true, if_true, decide_false, Bool.false_eq_true, if_false, R.out_ok]
        simp only [xs_nil, thn_id]
  · have hz0 : left = 0 := by omega
    refine ⟨r, h, b, ok, fun e => absurd e hp, fun _ => rfl, hd, by omega, ?_⟩
    have e : most - (cntR r : Int) = left := by omega
    rw [e]
    simp only [rowB, d__law_row, xs_cons, x_iff, t_and, t_cmp, e_slot, e_cst, List.getElem?_cons_succ, List.getElem?_cons_zero, R.bind_ok, c_gt, hp, decide_false, Bool.false_eq_true, if_false, R.out_ok, xs_nil, Out.thn_nx]
theorem row_step (hT : Rows T) {k c : Nat} {ss : List Str} (hs : Sgs ss) (hrec : ∀ j, k = j + 1 → RowS (callN T (n + k + 3)) j c ss) : RowS (callN T (n + k + 4)) k c ss := by
  intro h G most g hc h0 h1
  have d4 := draw_eq hT.dr.h9 (n := n + k + 2) h (G ++ [.lst []]) 4 (by decide) (by decide)
  have v0 := drawV_nn h (m := 4) (by decide)
  have v1 := drawV_lt h (m := 4) (by decide)
  obtain ⟨j, hj⟩ := Int.eq_ofNat_of_zero_le v0
  have key : (exTs (callN T (n + k + 3)) d__law_row.body [some (.ref 2), some (.ref (c + 3)), some (.int k), some (.int most), none, none, none, none] (hS h G)).sat (fun _ _ => False)
      (fun v S => ∃ (r : Rw) (h' : Hs), okR r ∧ r ≠ [] ∧ depR r ≤ k ∧ (cntR r : Int) ≤ most ∧ v = rowD r ∧ S = hS h' (G ++ [.lst (rowDs r)])) := by
    rw [row_body, xs_cons]
    have z : 2 ≤ sizeLine := le_sz (by omega)
    have e0 : exT (callN T (n + k + 3)) (.asg (.tp (.cons (.nm 5) (.cons (.nm 6) .nil))) (.tup (.cons (.lst .nil) (.cons (.slot 3) .nil)))) [some (.ref 2), some (.ref (c + 3)), some (.int k), some (.int most), none, none, none, none] (hS h G) =
        .nx [some (.ref 2), some (.ref (c + 3)), some (.int k), some (.int most), none, some (.ref (G.length + 3)), some (.int most), none] (hS h (G ++ [.lst []])) := by
      simp only [x_asg, e_tup, es_cons, es_nil, e_lst, e_slot, List.getElem?_cons_succ, List.getElem?_cons_zero, R.bind_ok, newL_eq, List.length_cons, List.length_nil, Nat.zero_le, if_true, z, R.out_ok, g_tp, items_tup, gs_cons, gs_nil, g_nm, List.set_cons_succ, List.set_cons_zero, hS_len, hS_app, Nat.zero_add, Nat.reduceAdd]
    rw [e0, Out.thn_nx, xs_cons]
    refine sat_thn (N := fun e S => ∃ (r : Rw) (h' : Hs) (a b : Option D), e = [some (.ref 2), some (.ref (c + 3)), some (.int k), some (.int most), a, some (.ref (G.length + 3)), some (.int (most - cntR r)), b] ∧ S = hS h' (G ++ [.lst (rowDs r)]) ∧ okR r ∧ depR r ≤ k ∧ (cntR r : Int) ≤ most ∧ r ≠ [])
      (for_rng (1 + j) (S' := hS (drawH h 4) (G ++ [.lst []])) (rng1_sat (k := ((1 + j : Nat) : Int)) ?_ (by omega) (by omega)) (le_sz (by omega))
        (fun i e S => ∃ (r : Rw) (h' : Hs) (a b : Option D), e = [some (.ref 2), some (.ref (c + 3)), some (.int k), some (.int most), a, some (.ref (G.length + 3)), some (.int (most - cntR r)), b] ∧ S = hS h' (G ++ [.lst (rowDs r)]) ∧ okR r ∧ depR r ≤ k ∧ (cntR r : Int) ≤ most ∧ (0 < i → r ≠ []))
        ⟨[], drawH h 4, none, none, by simp, by simp, by simp, by simp, by simp; omega, by simp⟩ ?_ ?_) ?_
    · simp [d4, hj]
    · rintro i env S hi ⟨r, h', a, b, rfl, rfl, q1, q2, q3, q4⟩
      refine ⟨_, g_nm _ _, ?_⟩
      simp only [List.set_cons_succ, List.set_cons_zero]
      obtain ⟨q, h2, b', p1, p2, p2', p3, p4, p5⟩ := row_turn (n := n) hT hs hrec h' G g hc most h1 r q1 q2 (most - cntR r) (by omega) (by omega) (some (.int i)) b
      refine satB_nx p5 ⟨q, h2, _, _, rfl, rfl, p1, p3, p4, fun _ => ?_⟩
      by_cases hz : 0 < most - (cntR r : Int)
      · exact p2 hz
      · rw [p2' (by omega)]
        intro e
        subst e
        simp at hz
        omega
    · rintro env S ⟨r, h', a, b, rfl, rfl, q1, q2, q3, q4⟩
      exact ⟨r, h', a, b, rfl, rfl, q1, q2, q3, q4 (by omega)⟩
    · rintro env S ⟨r, h', a, b, rfl, rfl, q1, q2, q3, q4⟩
      refine sat_rtI (d := rowD r) (S := hS h' (G ++ [.lst (rowDs r)])) ?_ ⟨r, h', q1, q4, q2, q3, rfl, rfl⟩
      simp only [rowL, d__law_row, xs_cons, x_ret, e_blt, es_cons, es_nil, e_slot, List.getElem?_cons_succ, List.getElem?_cons_zero, R.bind_ok, f_tupr, items_ref, hS_get, get_len, R.out_ok, Out.thn_rt, rowD]
  obtain ⟨v, S, e, r, h', p1, p2, p3, p4, rfl, rfl⟩ := sat_rt key
  exact ⟨r, h', p1, p2, p3, p4, call_GW hT.h43 rfl g (row_lt _ _) e⟩
theorem row_spec (hT : Rows T) {c : Nat} {ss : List Str} (hs : Sgs ss) : ∀ k : Nat, RowS (callN T (n + k + 4)) k c ss
  | 0 => row_step hT hs fun j e => by omega
  | k + 1 => row_step hT hs fun j e => by
    have : j = k := by omega
    subst this
    have := row_spec hT hs (c := c) j
    rwa [show n + (j + 1) + 3 = n + j + 4 by omega]
end
end PD.PS
end

section
set_option linter.all false
namespace PD
open PySem
def d_read_ordinalX : Def := ⟨1, 9, (.cons (.iff (.not (.isi (.slot 0) .str)) (.cons (.rai 16 (.cons (.cst (.int 0)) .nil)) .nil) .nil) (.cons (.iff (.cmp .Eq (.slot 0) (.cst (.str ("0" : PySem.Str)))) (.cons (.ret (.tup .nil)) .nil) .nil) (.cons (.asg (.nm 1) (.lst .nil)) (.cons (.asg (.nm 2) (.cst (.int 16))) (.cons (.for_ (.tp (.cons (.nm 4) (.cons (.nm 5) .nil))) (.enu (.mth .split (.slot 0) (.cons (.cst (.str ("+" : PySem.Str))) .nil))) (.cons (.asg (.nm 6) (.call 100 (.cons (.slot 5) .nil))) (.cons (.iff (.or (.cmp .Is (.slot 6) (.cst .non)) (.cmp .GtE (.ix (.slot 6) (.cst (.int 1))) (.slot 2))) (.cons (.rai 16 (.cons (.bin .Add (.slot 4) (.cst (.int 1))) .nil)) .nil) .nil) (.cons (.exp (.mth .append (.slot 1) (.cons (.slot 6) .nil))) (.cons (.asg (.nm 2) (.ix (.slot 6) (.cst (.int 1)))) .nil))))) (.cons (.asg (.nm 3) (.bin .Mult (.lst (.cons (.cst (.int 0)) .nil)) (.bin .Add (.ix (.ix (.slot 1) (.cst (.int 0))) (.cst (.int 1))) (.cst (.int 1))))) (.cons (.for_ (.tp (.cons (.nm 7) (.cons (.nm 8) .nil))) (.any (.slot 1)) (.cons (.seti (.slot 3) (.bin .Sub (.bin .Sub (.blt .len (.cons (.slot 3) .nil)) (.cst (.int 1))) (.slot 8)) (.slot 7)) .nil)) (.cons (.ret (.blt .tuple (.cons (.slot 3) .nil))) .nil))))))))⟩
end PD
set_option maxRecDepth 100000
set_option maxHeartbeats 2000000
/-! PDrdo2: texts of ordinals with a wrong part. -/
namespace PD.PS
open PySem
/-! ### parts -/
def headL (e : Nat) : List Nat := if e = 1 then [119] else 119 :: 94 :: TL.numL e
def partL (e m : Nat) : List Nat := headL e ++ (if m = 1 then [] else 42 :: TL.numL m)
theorem num_free {c n : Nat} (h : c < 48 ∨ 57 < c) : c ∉ TL.numL n := TL.numL_free h
theorem num_head : ∀ (n : Nat), 0 < n → (TL.numL n).head? ≠ some 48 := by
  intro n
  induction n using Nat.strongRecOn with
  | _ n ih =>
    intro h0
    rcases Nat.lt_or_ge n 10 with h | h
    · rw [TL.numL_lt h]
      simp
      omega
    · rw [TL.numL_step h]
      have := ih (n / 10) (by omega) (by omega)
      have ne := TL.numL_ne (n / 10)
      cases e : TL.numL (n / 10) with
      | nil => exact absurd e ne
      | cons c r => rw [e] at this; simpa using this
theorem num_dig (n : Nat) : (TL.numL n).all dig = true := List.all_eq_true.2 fun c hc => by
  have := TL.numL_digits n c hc
  simp [dig, this]
theorem figF_num {n k : Nat} (h0 : 0 < n) (hk : 0 < k) (h : n < 10 ^ k) : figF (TL.numL n) k = some n := by
  have h1 := TL.numL_len hk h
  have h2 : 1 ≤ (TL.numL n).length := List.length_pos_iff.2 (TL.numL_ne n)
  have h3 := num_head n h0
  simp only [figF, h1, h2, and_self, if_true, h3, if_false, num_dig, TL.numL_val]
theorem headL_free (e : Nat) : 42 ∉ headL e := by
  unfold headL
  split
  · simp
  · have := num_free (c := 42) (n := e) (by omega)
    simp [this]
theorem headL_free43 (e : Nat) : 43 ∉ headL e := by
  unfold headL
  split
  · simp
  · have := num_free (c := 43) (n := e) (by omega)
    simp [this]
theorem partL_free (e m : Nat) : 43 ∉ partL e m := by
  unfold partL
  have h1 := headL_free43 e
  have h2 := num_free (c := 43) (n := m) (by omega)
  split <;> simp [h1, h2]
theorem headL_head (e : Nat) (r : List Nat) : (headL e ++ r).head? = some 119 := by
  unfold headL
  split <;> rfl
theorem powF_head {e : Nat} (h0 : 2 ≤ e) (h1 : e < 16) : powF (headL e) = some e := by
  have : headL e = 119 :: 94 :: TL.numL e := by unfold headL; rw [if_neg (by omega)]
  rw [this]
  unfold powF
  rw [if_pos (by simp)]
  exact figF_num (by omega) (by omega) (by omega)
theorem headL_w {e : Nat} (h0 : 2 ≤ e) : headL e ≠ [119] := by
  have : headL e = 119 :: 94 :: TL.numL e := by unfold headL; rw [if_neg (by omega)]
  rw [this]
  simp
theorem readPF_part {e m : Nat} (h0 : 1 ≤ e) (h1 : e < 16) (m0 : 1 ≤ m) (m1 : m < 10 ^ 40) : readPF (partL e m) = some (m, e) := by
  have hp : TL.par [42] [] (partL e m) = if m = 1 then none else some (headL e, TL.numL m) := by
    unfold partL
    split
    · rw [List.append_nil]; exact TL.par_none1 (headL_free e)
    · exact TL.par_part1 (acc := []) (rest := TL.numL m) (S := []) (headL_free e)
  have hs : starP (partL e m) = !decide (m = 1) := by unfold starP; rw [hp]; split <;> simp_all
  have hh : headP (partL e m) = headL e := by
    unfold headP
    rw [hp]
    by_cases q : m = 1
    · simp [q, partL]
    · simp [q]
  have hm : manyF (partL e m) = some m := by
    unfold manyF
    rw [hs]
    by_cases q : m = 1
    · simp [q]
    · have hr : restP (partL e m) = TL.numL m := by unfold restP; rw [hp]; simp [q]
      rw [hr]
      simp only [q, decide_false, Bool.not_false, if_true]
      exact figF_num (by omega) (by omega) m1
  have w : (partL e m).head? = some 119 := headL_head _ _
  unfold readPF
  rw [if_pos w, hm]
  simp only []
  rw [hs, hh]
  have z : (!decide (m = 1) && decide (m = 1)) = false := by cases decide (m = 1) <;> rfl
  rw [z]
  simp only [Bool.false_eq_true, if_false]
  by_cases e1 : e = 1
  · subst e1; rfl
  · rw [if_neg (headL_w (by omega)), powF_head (by omega) h1]
    simp only []
    rw [if_pos (by omega)]
/-! ### cut at each + -/
theorem spl_first : ∀ (l acc : List Nat), (TL.spl [43] 0 acc l).head? = some (acc ++ l.takeWhile (fun c => !decide (c = 43)))
  | [], acc => by rw [TL.spl_nil]; simp
  | c :: r, acc => by
    by_cases e : c = 43
    · rw [TL.spl_hit (by rw [pre42]; simp [e])]
      simp [e]
    · rw [TL.spl_miss (by rw [pre42]; simp [e]), spl_first r]
      simp [e]
theorem take_join (w : List Nat) (ex : List (List Nat)) : (TL.joinL [43] (w :: ex)).takeWhile (fun c => !decide (c = 43)) = w.takeWhile (fun c => !decide (c = 43)) := by
  have key : ∀ (w r : List Nat), (w ++ 43 :: r).takeWhile (fun c => !decide (c = 43)) = w.takeWhile (fun c => !decide (c = 43)) := by
    intro w r
    induction w with
    | nil => simp
    | cons c w ih => by_cases e : c = 43 <;> simp [e, ih]
  cases ex with
  | nil => rfl
  | cons q ex => exact key w _
theorem spl_goods : ∀ (gs : List (List Nat)) (w : List Nat) (ex : List (List Nat)), (∀ g ∈ gs, 43 ∉ g) → TL.spl [43] 0 [] (TL.joinL [43] (gs ++ w :: ex)) = gs ++ TL.spl [43] 0 [] (TL.joinL [43] (w :: ex))
  | [], w, ex, _ => rfl
  | g :: gs, w, ex, h => by
    have ih := spl_goods gs w ex fun x hx => h x (by simp [hx])
    have e : TL.joinL [43] (g :: gs ++ w :: ex) = g ++ ([43] ++ TL.joinL [43] (gs ++ w :: ex)) := by
      cases gs <;> rfl
    rw [e, TL.spl_part1 (h g (by simp)), ih]
    rfl
/-! ### a loop over an enumerated list -/
theorem forGo_enX {c : Nat} {items : List D} {t : Tg} {b : Env → Store → Out} (I : Nat → Env → Store → Prop) (N : Env → Store → Prop) (Q : D → Store → Prop) (X : Exn → Store → Prop)
    (hc : ∀ i env S, I i env S → S[c]? = some (.lst items))
    (step : ∀ i d env S, items[i]? = some d → I i env S → ∃ env1, asgT S t (.tup [.int i, d]) env = some env1 ∧ (b env1 S).satBX (I (i + 1)) N Q X)
    (fin : ∀ env S, I items.length env S → N env S) :
    ∀ n i env S, i ≤ items.length → items.length < n + i → I i env S → (forGo (Src.en c).nx t b n i env S).satX N Q X
  | 0, i, env, S, h1, h2, h => by omega
  | n + 1, i, env, S, h1, h2, h => by
    simp only [forGo, Src.nx, hc i env S h, R.out_ok]
    rcases Nat.lt_or_ge i items.length with hl | hl
    · have hd : items[i]? = some items[i] := List.getElem?_eq_getElem hl
      obtain ⟨env1, ha, hb⟩ := step i _ env S hd h
      simp only [hd, Option.map_some, ha]
      cases hbe : b env1 S <;> simp only [hbe, Out.satBX] at hb
      · exact forGo_enX I N Q X hc step fin n (i + 1) _ _ (by omega) (by omega) hb
      · exact hb
      · exact hb
      · exact forGo_enX I N Q X hc step fin n (i + 1) _ _ (by omega) (by omega) hb
      · exact hb
    · have : items.length = i := by omega
      rw [List.getElem?_eq_none hl]
      simp only [Option.map_none, Out.satX]
      exact fin _ _ (this ▸ h)
theorem for_enX {F : Fn} {t : Tg} {s : I} {b : Ts} {env : Env} {S S' : Store} {c : Nat} {items : List D} {N : Env → Store → Prop} {Q : D → Store → Prop} {X : Exn → Store → Prop}
    (hs : evI F env s S = .ok (.en c) S') (hl : items.length ≤ sizeLine) (I : Nat → Env → Store → Prop) (hc : ∀ i env S, I i env S → S[c]? = some (.lst items)) (h0 : I 0 env S')
    (step : ∀ i d env S, items[i]? = some d → I i env S → ∃ env1, asgT S t (.tup [.int i, d]) env = some env1 ∧ (exTs F b env1 S).satBX (I (i + 1)) N Q X)
    (fin : ∀ env S, I items.length env S → N env S) : (exT F (.for_ t s b) env S).satX N Q X := by
  rw [x_for, hs, R.out_ok]
  exact forGo_enX I N Q X hc step fin wmax 0 env S' (Nat.zero_le _) (by have := wmax_lt hl; omega) h0
/-! ### the raise -/
/-- no part behind this power -/
def Bad (lim : Nat) (w : List Nat) : Prop := readPF w = none ∨ ∃ m p, readPF w = some (m, p) ∧ lim ≤ p
/-- right parts whose powers fall, and the power of the last one -/
inductive Falls : Nat → List (List Nat) → List (Nat × Nat) → Nat → Prop
  | nil (lim : Nat) : Falls lim [] [] lim
  | cons {lim end' : Nat} {p : List Nat} {ps : List (List Nat)} {q : Nat × Nat} {qs : List (Nat × Nat)} : readPF p = some q → q.2 < lim → Falls q.2 ps qs end' → Falls lim (p :: ps) (q :: qs) end'
theorem Falls.snoc {lim e : Nat} {ps : List (List Nat)} {qs : List (Nat × Nat)} {p : List Nat} {q : Nat × Nat} (h : Falls lim ps qs e) (h1 : readPF p = some q) (h2 : q.2 < e) : Falls lim (ps ++ [p]) (qs ++ [q]) q.2 := by
  induction h with
  | nil lim => exact .cons h1 h2 (.nil _)
  | cons a b c ih => exact .cons a b (ih h2)
theorem Falls.len {lim e : Nat} {ps : List (List Nat)} {qs : List (Nat × Nat)} (h : Falls lim ps qs e) : qs.length = ps.length := by
  induction h with
  | nil => rfl
  | cons a b c ih => simp [ih]
/-- the power ahead of the i-th part -/
def limAt (lim : Nat) (qs : List (Nat × Nat)) : Nat → Nat
  | 0 => lim
  | i + 1 => match qs[i]? with
    | some q => q.2
    | none => 0
theorem Falls.at {lim e : Nat} {ps : List (List Nat)} {qs : List (Nat × Nat)} (h : Falls lim ps qs e) : ∀ i, i < ps.length → ∃ p q, ps[i]? = some p ∧ qs[i]? = some q ∧ readPF p = some q ∧ q.2 < limAt lim qs i := by
  induction h with
  | nil => intro i hi; simp at hi
  | @cons lim e' p ps q qs a b c ih =>
    intro i hi
    cases i with
    | zero => exact ⟨p, q, rfl, rfl, a, b⟩
    | succ i =>
      obtain ⟨p', q', h1, h2, h3, h4⟩ := ih i (by simpa using hi)
      refine ⟨p', q', by simpa using h1, by simpa using h2, h3, ?_⟩
      cases i with
      | zero => simpa [limAt] using h4
      | succ i => simpa [limAt] using h4
theorem Falls.end {lim e : Nat} {ps : List (List Nat)} {qs : List (Nat × Nat)} (h : Falls lim ps qs e) : limAt lim qs ps.length = e := by
  induction h with
  | nil => rfl
  | @cons lim e' p ps q qs a b c ih =>
    cases ps with
    | nil => cases c; rfl
    | cons p' ps =>
      simp only [List.length_cons, limAt, List.getElem?_cons_succ] at ih ⊢
      exact ih
def ordB : Ts := match d_read_ordinalX.body with
  | .cons _ (.cons _ (.cons _ (.cons _ (.cons (.for_ _ _ b) _)))) => b
  | _ => .nil
def ordR : Ts := match d_read_ordinalX.body with
  | .cons _ (.cons _ (.cons _ (.cons _ (.cons _ r)))) => r
  | _ => .nil
theorem ord_body : d_read_ordinalX.body = .cons (.iff (.not (.isi (.slot 0) .str)) (.cons (.rai 16 (.cons (.cst (.int 0)) .nil)) .nil) .nil) (.cons (.iff (.cmp .Eq (.slot 0) (.cst (.str ("0" : PySem.Str)))) (.cons (.ret (.tup .nil)) .nil) .nil) (.cons (.asg (.nm 1) (.lst .nil)) (.cons (.asg (.nm 2) (.cst (.int 16))) (.cons (.for_ (.tp (.cons (.nm 4) (.cons (.nm 5) .nil))) (.enu (.mth .split (.slot 0) (.cons (.cst (.str ("+" : PySem.Str))) .nil))) ordB) ordR)))) := rfl
section
variable {T : Tab} {n : Nat}
theorem ix1_pair (q : Nat × Nat) (S : Store) : opIx (pairD q) (.int 1) S = .ok (.int (q.2 : Int)) S := by
  obtain ⟨m, p⟩ := q
  simp [pairD, opIx, dicOf, opIx0, itemsOf, L2.atI, L2.ixN]
theorem read_ord_no (hT : T 101 = some PD.d_read_ordinalX) {d : D} {S : Store} (h : isTy d .str S = some false) : callN T (n + 1) 101 [d] S = .exc ⟨16, [.int 0]⟩ S := by
  refine call_ex (xs := [d]) (env := [some d, none, none, none, none, none, none, none, none]) hT rfl ?_
  show exTs _ d_read_ordinalX.body [some d, none, none, none, none, none, none, none, none] S = _
  rw [ord_body]
  simp only [xs_cons, x_iff (c := .not _), t_not, t_isi, e_slot, List.getElem?_cons_zero, R.bind_ok, h, R.map_ok, Bool.not_false, R.out_ok, if_true, x_rai, es_cons, es_nil, e_cst, Out.thn_ex]
theorem read_ord_bad (h99 : T 99 = some PD.d_figures_of) (h100 : T 100 = some PD.d_read_part) (hT : T 101 = some PD.d_read_ordinalX) {l : List Nat} (hc : Cd l) (hl : l.length ≤ 90000) (h0 : l ≠ [48]) {gs : List (List Nat)} {qs : List (Nat × Nat)} {lim : Nat} (hf : Falls 16 gs qs lim) {w : List Nat} {ex : List (List Nat)}
    (hs : TL.spl [43] 0 [] l = gs ++ w :: ex) (hcp : ∀ p ∈ gs ++ w :: ex, Cd p ∧ p.length ≤ 90000) (hn : (gs ++ w :: ex).length ≤ 90000) (hb : Bad lim w) (S : Store) :
    callN T (n + 3) 101 [.str (sx l)] S = .exc ⟨16, [.int ((gs.length : Int) + 1)]⟩ (S ++ [.lst (qs.map pairD), .lst ((gs ++ w :: ex).map fun p => .str (sx p))]) := by
  have key : (exTs (callN T (n + 2)) d_read_ordinalX.body [some (.str (sx l)), none, none, none, none, none, none, none, none] S).satX (fun _ _ => False) (fun _ _ => False) (fun x S' => x = ⟨16, [.int ((gs.length : Int) + 1)]⟩ ∧ S' = S ++ [.lst (qs.map pairD), .lst ((gs ++ w :: ex).map fun p => .str (sx p))]) := by
    have eq0 : opEq (.str (sx l)) (.str ("0" : Str)) S = .ok false S := by
      rw [s48, opEqS hc (cd_lit (by decide)), decide_eq_false h0]
    rw [ord_body, xs_cons]
    simp only [x_iff (c := .not _), t_not, t_isi, e_slot, List.getElem?_cons_zero, R.bind_ok, ty_str, R.map_ok, Bool.not_true, R.out_ok, Bool.false_eq_true, if_false, xs_nil, Out.thn_nx]
    rw [xs_cons]
    simp only [x_iff (c := .cmp _ _ _), t_cmp, e_slot, e_cst, List.getElem?_cons_zero, R.bind_ok, c_eq, eq0, R.out_ok, Bool.false_eq_true, if_false, xs_nil, Out.thn_nx]
    rw [xs_cons]
    simp only [x_asg, e_lst, es_nil, R.bind_ok, List.length_nil, Nat.zero_le, if_true, newL_eq, R.out_ok, g_nm, List.set_cons_succ, List.set_cons_zero, Out.thn_nx]
    rw [xs_cons]
    simp only [x_asg, e_cst, R.out_ok, g_nm, List.set_cons_succ, List.set_cons_zero, Out.thn_nx]
    rw [xs_cons]
    have spt : Txt.split (sx l) ("+" : Str) = (gs ++ w :: ex).map sx := by
      rw [s43, SX.split_S (by simp) (by decide), hs]
    have hev : evI (callN T (n + 2)) [some (.str (sx l)), some (.ref S.length), some (.int 16), none, none, none, none, none, none] (.enu (.mth .split (.slot 0) (.cons (.cst (.str ("+" : PySem.Str))) .nil))) (S ++ [.lst []]) = .ok (.en (S.length + 1)) (S ++ [.lst [], .lst ((gs ++ w :: ex).map fun p => .str (sx p))]) := by
      have z1 : (("+" : Str).length == 0) = false := rfl
      have z2 : (sx l).length + 2 ≤ sizeLine := by rw [sxLen]; exact le_sz (by omega)
      have m1 : opMth .split (.str (sx l)) [.str ("+" : Str)] (S ++ [.lst []]) = .ok (.ref (S.length + 1)) (S ++ [.lst [], .lst ((gs ++ w :: ex).map fun p => .str (sx p))]) := by
        simp only [opMth, z1, z2, and_self, if_true, spt, newL_eq, List.length_append, List.length_cons, List.length_nil, List.append_assoc, List.cons_append, List.nil_append, List.map_map]
        rfl
      rw [evI]
      simp only [e_mth, e_slot, List.getElem?_cons_zero, R.bind_ok, rcv_split, if_true, es_cons, es_nil, e_cst, m1]
      have : (S ++ [Cell.lst [], .lst ((gs ++ w :: ex).map fun p => .str (sx p))])[S.length + 1]? = some (.lst ((gs ++ w :: ex).map fun p => .str (sx p))) := by simp
      rw [this]
    refine satX_thn (N := fun _ _ => False) (for_enX (c := S.length + 1) (items := (gs ++ w :: ex).map fun p => .str (sx p)) hev (by rw [List.length_map]; exact le_sz (by omega))
      (fun i e S' => i ≤ gs.length ∧ (∃ a b c d f g : Option D, e = [some (.str (sx l)), some (.ref S.length), some (.int (limAt 16 qs i : Nat)), a, b, c, d, f, g]) ∧ S' = S ++ [.lst ((qs.take i).map pairD), .lst ((gs ++ w :: ex).map fun p => .str (sx p))])
      (fun i e S' h => by rw [h.2.2]; simp) ⟨Nat.zero_le _, ⟨_, _, _, _, _, _, rfl⟩, by simp⟩ ?_ ?_) (fun _ _ h => h.elim)
    · rintro i d env S' hd ⟨hi, ⟨a, b, c, d', f, g, rfl⟩, rfl⟩
      obtain ⟨p, hp, rfl⟩ : ∃ p, (gs ++ w :: ex)[i]? = some p ∧ d = .str (sx p) := by
        rw [List.getElem?_map] at hd
        cases q : (gs ++ w :: ex)[i]? with
        | none => rw [q] at hd; cases hd
        | some p => rw [q] at hd; exact ⟨p, rfl, (Option.some.inj hd).symm⟩
      obtain ⟨cp, lp⟩ := hcp p (List.mem_of_getElem? hp)
      refine ⟨[some (.str (sx l)), some (.ref S.length), some (.int (limAt 16 qs i : Nat)), a, some (.int i), some (.str (sx p)), d', f, g], by simp, ?_⟩
      have rp := fun S => read_part_ok (n := n) h99 h100 cp (by omega) S
      rcases Nat.lt_or_ge i gs.length with hlt | hge
      · obtain ⟨p2, q, e1, e2, e3, e4⟩ := hf.at i hlt
        have : p = p2 := by
          rw [List.getElem?_append_left hlt, e1] at hp
          exact (Option.some.inj hp).symm
        subst this
        have rp' : ∀ S, callN T (n + 2) 100 [.str (sx p)] S = .ok (pairD q) S := fun S => by rw [rp S, e3]; rfl
        have nle : ¬ ((limAt 16 qs i : Nat) : Int) ≤ (q.2 : Int) := by omega
        have isn : ∀ S, opIs (pairD q) .non S = .ok false S := fun _ => rfl
        have g0 : (S ++ [Cell.lst ((qs.take i).map pairD), .lst ((gs ++ w :: ex).map fun p => .str (sx p))])[S.length]? = some (.lst ((qs.take i).map pairD)) := by simp
        have hz : ((qs.take i).map pairD).length < sizeLine := by
          rw [List.length_map, List.length_take]
          exact len_lt_sz (by have := hf.len; simp at hn; omega)
        have tk : (qs.take i).map pairD ++ [pairD q] = (qs.take (i + 1)).map pairD := by
          have hq := (List.getElem?_eq_some_iff.mp e2).1
          rw [List.take_succ_eq_append_getElem hq, List.map_append]
          rw [List.getElem?_eq_getElem hq] at e2
          rw [Option.some.inj e2]
          rfl
        have lm : limAt 16 qs (i + 1) = q.2 := by simp only [limAt, e2]
        refine satBX_nx (e := [some (.str (sx l)), some (.ref S.length), some (.int (limAt 16 qs (i + 1) : Nat)), a, some (.int i), some (.str (sx p)), some (pairD q), f, g]) (S := S ++ [.lst ((qs.take (i + 1)).map pairD), .lst ((gs ++ w :: ex).map fun p => .str (sx p))]) ?_ ⟨hlt, ⟨_, _, _, _, _, _, rfl⟩, rfl⟩
        have st : (S ++ [Cell.lst ((qs.take i).map pairD), .lst ((gs ++ w :: ex).map fun p => .str (sx p))]).set S.length (.lst ((qs.take (i + 1)).map pairD)) = S ++ [.lst ((qs.take (i + 1)).map pairD), .lst ((gs ++ w :: ex).map fun p => .str (sx p))] := by simp
        simp only [ordB, d_read_ordinalX, xs_cons, xs_nil, x_asg, e_call, es_cons, es_nil, e_slot, List.getElem?_cons_succ, List.getElem?_cons_zero, R.bind_ok, rp', R.out_ok, g_nm, List.set_cons_succ, List.set_cons_zero, Out.thn_nx, x_iff, t_or, t_cmp, e_cst, c_is, isn, Bool.false_eq_true, if_false, e_ix, ix1_pair, c_ge, nle, decide_false, x_exp, e_mth, rcv_app, g0, if_true, m_app, hz, tk, st, lm]
      · have hieq : i = gs.length := by omega
        subst hieq
        have hpw : p = w := by
          rw [List.getElem?_append_right (Nat.le_refl _)] at hp
          simpa using hp.symm
        subst hpw
        have tk : qs.take gs.length = qs := List.take_of_length_le (by rw [hf.len]; omega)
        rw [tk]
        have le := hf.end
        rw [le]
        rcases hb with hb | ⟨m, q, hb, hle⟩
        · have rp' : ∀ S, callN T (n + 2) 100 [.str (sx p)] S = .ok .non S := fun S => by rw [rp S, hb]; rfl
          refine satBX_ex (e := [some (.str (sx l)), some (.ref S.length), some (.int (lim : Nat)), a, some (.int gs.length), some (.str (sx p)), some .non, f, g]) (x := ⟨16, [.int ((gs.length : Int) + 1)]⟩) ?_ ⟨rfl, rfl⟩
          simp only [ordB, d_read_ordinalX, xs_cons, xs_nil, x_asg, e_call, es_cons, es_nil, e_slot, List.getElem?_cons_succ, List.getElem?_cons_zero, R.bind_ok, rp', R.out_ok, g_nm, List.set_cons_succ, List.set_cons_zero, Out.thn_nx, x_iff, t_or, t_cmp, e_cst, c_is, is_nn, if_true, x_rai, e_bin, b_add, Out.thn_ex]
        · have rp' : ∀ S, callN T (n + 2) 100 [.str (sx p)] S = .ok (pairD (m, q)) S := fun S => by rw [rp S, hb]; rfl
          have isn : ∀ S, opIs (pairD (m, q)) .non S = .ok false S := fun _ => rfl
          have nle : ((lim : Nat) : Int) ≤ ((m, q).2 : Int) := by show (lim : Int) ≤ (q : Int); omega
          refine satBX_ex (e := [some (.str (sx l)), some (.ref S.length), some (.int (lim : Nat)), a, some (.int gs.length), some (.str (sx p)), some (pairD (m, q)), f, g]) (x := ⟨16, [.int ((gs.length : Int) + 1)]⟩) ?_ ⟨rfl, rfl⟩
          simp only [ordB, d_read_ordinalX, xs_cons, xs_nil, x_asg, e_call, es_cons, es_nil, e_slot, List.getElem?_cons_succ, List.getElem?_cons_zero, R.bind_ok, rp', R.out_ok, g_nm, List.set_cons_succ, List.set_cons_zero, Out.thn_nx, x_iff, t_or, t_cmp, e_cst, c_is, isn, Bool.false_eq_true, if_false, e_ix, ix1_pair, c_ge, nle, decide_true, if_true, x_rai, e_bin, b_add, Out.thn_ex]
    · rintro env S' ⟨hi, _⟩
      simp at hi
      omega
  rcases satX_end key with ⟨v, S', e, h⟩ | ⟨x, e, S', e1, rfl, rfl⟩
  · exact h.elim
  · exact call_ex (n := n + 2) (xs := [.str (sx l)]) hT rfl e1
end
end PD.PS
end

section
set_option linter.all false
set_option maxRecDepth 100000
set_option maxHeartbeats 2000000
/-! K08run: the law k08 holds of the evaluator. -/
namespace PD.PS.K08r
open PySem K08
structure Fns (T : Tab) : Prop where
  dr : Draws T
  h14 : T 14 = some PD.d__law_big
  h15 : T 100015 = some dh__law_kept
  h16 : T 16 = some PD.d__law_hand
  h99 : T 99 = some PD.d_figures_of
  h100 : T 100 = some PD.d_read_part
  h101 : T 101 = some PD.d_read_ordinalX
  h102 : T 102 = some d__law_part
  h103 : T 103 = some d__law_wrong
theorem fns : Fns tb := ⟨⟨rfl, rfl⟩, rfl, by kernel_rfl, rfl, rfl, rfl, rfl, rfl, rfl⟩
def strD (p : List Nat) : D := .str (sx p)
def Pt (p : List Nat) : Prop := Cd p ∧ p.length ≤ 60
theorem lts_strD (n : Nat) : ∀ ps : List (List Nat), D.lts n (ps.map strD) = true
  | [] => rfl
  | p :: ps => by simp [D.lts, D.lt, strD, lts_strD n ps]
/-! ### texts -/
theorem numS (n : Nat) : (toString ((n : Nat) : Int) : Str) = sx (TL.numL n) := SX.num_S n
theorem strNum {n : Nat} (h : n < 10 ^ 40) (S : Store) : opBlt .str [.int (n : Int)] S = .ok (.str (sx (TL.numL n))) S := by
  have : ((n : Int)).natAbs.log2 < 1920 := by
    rw [Int.natAbs_natCast]
    rcases Nat.eq_zero_or_pos n with q | q
    · subst q; decide
    · exact (Nat.log2_lt (by omega)).2 (Nat.lt_of_lt_of_le h (by decide +kernel))
  rw [f_str _ _ this, numS]
theorem addS {a b : List Nat} (h : a.length + b.length ≤ 100000) (S : Store) : opBin .Add (.str (sx a)) (.str (sx b)) S = .ok (.str (sx (a ++ b))) S := by
  have : (sx a).length + (sx b).length ≤ sizeLine := by rw [sxLen, sxLen]; exact le_sz (by omega)
  simp only [opBin, this, if_true]
  rw [show sx a ++ sx b = sx (a ++ b) from SX.S_cat a b]
theorem num_cd (n : Nat) : Cd (TL.numL n) := fun c hc => by
  have := TL.numL_digits n c hc
  omega
theorem num_len {n : Nat} (h : n < 10 ^ 40) : (TL.numL n).length ≤ 40 := TL.numL_len (by omega) h
theorem headL_cd (e : Nat) : Cd (headL e) := by
  unfold headL
  split
  · exact cd_lit (by decide)
  · intro c hc
    simp only [List.mem_cons] at hc
    rcases hc with rfl | rfl | hc
    · omega
    · omega
    · exact num_cd e c hc
theorem headL_len {e : Nat} (h : e < 16) : (headL e).length ≤ 4 := by
  unfold headL
  split
  · simp
  · have := TL.numL_len (n := e) (k := 2) (by omega) (by omega)
    simp
    omega
theorem partL_pt {e m : Nat} (h : e < 16) (hm : m < 10 ^ 40) : Pt (partL e m) := by
  have h1 := headL_len h
  have h2 := num_len hm
  unfold partL
  refine ⟨fun c hc => ?_, ?_⟩
  · rcases List.mem_append.1 hc with hc | hc
    · exact headL_cd e c hc
    · split at hc
      · simp at hc
      · rcases List.mem_cons.1 hc with rfl | hc
        · omega
        · exact num_cd m c hc
  · rw [List.length_append]
    split <;> simp <;> omega
section
variable {T : Tab} {n : Nat}
theorem law_part_ok (hT : Fns T) {e m : Nat} (h0 : 1 ≤ e) (h1 : e < 16) (m0 : 1 ≤ m) (m1 : m < 10 ^ 40) (S : Store) : callN T (n + 1) 102 [.int (e : Int), .int (m : Int)] S = .ok (.str (sx (partL e m))) S := by
  have z2 : 0 + 1 + 1 ≤ sizeLine := le_sz (by omega)
  have hl := headL_len h1
  have hm := num_len m1
  have s0 : ("" : Str) = sx [] := by decide +kernel
  have key : ∃ G, exTs (callN T n) d__law_part.body [some (.int (e : Int)), some (.int (m : Int)), none] S = .rt (.str (sx (partL e m))) (S ++ G) := by
    have head : ∃ G, exT (callN T n) (.asg (.nm 2) (.ife (.cmp .Lt (.slot 0) (.cst (.int 2))) (.ix (.lst (.cons (.cst (.str ("" : PySem.Str))) (.cons (.cst (.str ("w" : PySem.Str))) .nil))) (.slot 0)) (.bin .Add (.cst (.str ("w^" : PySem.Str))) (.blt .str (.cons (.slot 0) .nil))))) [some (.int (e : Int)), some (.int (m : Int)), none] S = .nx [some (.int (e : Int)), some (.int (m : Int)), some (.str (sx (headL e)))] (S ++ G) := by
      by_cases q : e = 1
      · subst q
        refine ⟨[.lst [.str ("" : Str), .str ("w" : Str)]], ?_⟩
        have lt : ((1 : Nat) : Int) < 2 := by decide
        have a1 : L2.atI [D.str ("" : Str), .str ("w" : Str)] ((1 : Nat) : Int) = some (.str ("w" : Str)) := by simp [L2.atI, L2.ixN]
        simp only [x_asg, e_ife, t_cmp, e_slot, e_cst, List.getElem?_cons_zero, R.bind_ok, c_lt, lt, decide_true, if_true, e_ix, e_lst, es_cons, es_nil, List.length_cons, List.length_nil, z2, newL_eq, ix_ref, get_end, a1, R.out_ok, g_nm, List.set_cons_succ, List.set_cons_zero]
        rw [s119]
        rfl
      · refine ⟨[], ?_⟩
        have lt : ¬ (e : Int) < 2 := by omega
        have sn := strNum (n := e) (by omega) S
        have hd : headL e = [119, 94] ++ TL.numL e := by unfold headL; rw [if_neg q]; rfl
        have ad := addS (a := [119, 94]) (b := TL.numL e) (by have := TL.numL_len (n := e) (k := 2) (by omega) (by omega); simp; omega) S
        rw [List.append_nil, hd]
        simp only [x_asg, e_ife, t_cmp, e_slot, e_cst, List.getElem?_cons_zero, R.bind_ok, c_lt, lt, decide_false, Bool.false_eq_true, if_false, e_bin, e_blt, es_cons, es_nil, sn, sw94, ad, R.out_ok, g_nm, List.set_cons_succ, List.set_cons_zero]
    obtain ⟨G, hG⟩ := head
    refine ⟨G, ?_⟩
    have hne : headL e ≠ [] := by unfold headL; split <;> simp
    have eq0 := opEqS (headL_cd e) (b := []) (cd_lit (by decide)) (S ++ G)
    rw [decide_eq_false hne] at eq0
    have e0 : d__law_part.body = .cons (.asg (.nm 2) (.ife (.cmp .Lt (.slot 0) (.cst (.int 2))) (.ix (.lst (.cons (.cst (.str ("" : PySem.Str))) (.cons (.cst (.str ("w" : PySem.Str))) .nil))) (.slot 0)) (.bin .Add (.cst (.str ("w^" : PySem.Str))) (.blt .str (.cons (.slot 0) .nil))))) (.cons (.ret (.ife (.cmp .Eq (.slot 2) (.cst (.str ("" : PySem.Str)))) (.blt .str (.cons (.slot 1) .nil)) (.bin .Add (.slot 2) (.ife (.cmp .Eq (.slot 1) (.cst (.int 1))) (.cst (.str ("" : PySem.Str))) (.bin .Add (.cst (.str ("*" : PySem.Str))) (.blt .str (.cons (.slot 1) .nil))))))) .nil) := rfl
    rw [e0, xs_cons, hG, Out.thn_nx, s0, s42]
    by_cases q : m = 1
    · subst q
      have ad := addS (a := headL e) (b := []) (by simp; omega) (S ++ G)
      have pl : partL e 1 = headL e ++ [] := rfl
      rw [pl]
      simp only [xs_cons, x_ret, e_ife, t_cmp, e_slot, e_cst, List.getElem?_cons_succ, List.getElem?_cons_zero, R.bind_ok, c_eq, eq0, Bool.false_eq_true, if_false, e_bin, opEq_int, show (((1 : Nat) : Int) = 1) = True from by simp, decide_true, if_true, ad, R.out_ok, Out.thn_rt]
    · have q' : ¬ (m : Int) = 1 := by omega
      have sn := strNum m1 (S ++ G)
      have ad1 := addS (a := [42]) (b := TL.numL m) (by simp; omega) (S ++ G)
      have ad2 := addS (a := headL e) (b := [42] ++ TL.numL m) (by simp; omega) (S ++ G)
      have pl : partL e m = headL e ++ ([42] ++ TL.numL m) := by unfold partL; rw [if_neg q]; rfl
      rw [pl]
      simp only [xs_cons, x_ret, e_ife, t_cmp, e_slot, e_cst, List.getElem?_cons_succ, List.getElem?_cons_zero, R.bind_ok, c_eq, eq0, Bool.false_eq_true, if_false, e_bin, opEq_int, q', decide_false, e_blt, es_cons, es_nil, sn, ad1, ad2, R.out_ok, Out.thn_rt]
  obtain ⟨G, e1⟩ := key
  exact call_pure hT.h102 rfl rfl e1
/-! ### wrong parts -/
def oddA : List Str := ["w^1", "w^0", "w*1", "w^16", "w^3*1", "w^02", "07", "0", "", "w*", "w^", "+5", "w 2", "W", "x", "w^2*", "w**2"]
def oddB : List Str := ["-3", "w*05", "3w", "w^2^2", "1.5", " 4", "4 ", "w\n", "1" ++ repS "0" 40, "w*1" ++ repS "0" 40, "w^003", "1_0"]
def cut43 (l : List Nat) : List Nat := l.takeWhile fun c => !decide (c = 43)
theorem cut_self : ∀ l : List Nat, 43 ∉ l → cut43 l = l
  | [], _ => rfl
  | c :: l, h => by
    have h1 : c ≠ 43 := fun e => h (by simp [e])
    have h2 := cut_self l fun q => h (by simp [q])
    unfold cut43 at *
    simp [h1, h2]
def Wrong (a : Nat) (w : List Nat) : Prop := Pt w ∧ Bad a (cut43 w)
theorem odd_ok : ∀ s ∈ oddA ++ oddB, ∀ a, Wrong a s.cps.toList := by
  have : (oddA ++ oddB).all (fun s => s.cps.toList.all (fun c => decide (c < 128)) && decide (s.cps.toList.length ≤ 60) && (readPF (cut43 s.cps.toList)).isNone) = true := by decide +kernel
  intro s hs a
  have := List.all_eq_true.1 this s hs
  simp only [Bool.and_eq_true, List.all_eq_true, decide_eq_true_eq] at this
  exact ⟨⟨this.1.1, this.1.2⟩, .inl (by simpa using this.2)⟩
theorem like_ok : ∀ a : Fin 16, 3 ≤ a.val → Wrong a.val (119 :: 94 :: TL.numL a.val) := by
  intro a h
  have h2 := TL.numL_len (n := a.val) (k := 2) (by omega) (by omega)
  have hd : headL a.val = 119 :: 94 :: TL.numL a.val := by unfold headL; rw [if_neg (by omega)]
  have hp : partL a.val 1 = 119 :: 94 :: TL.numL a.val := by rw [← hd]; unfold partL; simp
  have pt := partL_pt (e := a.val) (m := 1) a.isLt (by decide)
  have fr := partL_free a.val 1
  have rd := readPF_part (e := a.val) (m := 1) (by omega) a.isLt (by omega) (by decide)
  rw [hp] at pt fr rd
  refine ⟨pt, .inr ⟨1, a.val, ?_, Nat.le_refl _⟩⟩
  have : cut43 (119 :: 94 :: TL.numL a.val) = 119 :: 94 :: TL.numL a.val := by
    exact cut_self _ fr
  rw [this]
  exact rd
theorem w7_ok : Wrong 1 [119, 42, 55] := ⟨⟨cd_lit (by decide), by decide⟩, .inr ⟨7, 1, by decide +kernel, by decide⟩⟩
theorem w2_ok : Wrong 2 [119, 94, 50] := ⟨⟨cd_lit (by decide), by decide⟩, .inr ⟨1, 2, by decide +kernel, by decide⟩⟩
theorem lst_at {S : Store} {k : Nat} {ds : List D} (hk : S[k]? = some (.lst ds)) {i : Int} {d : D} (h : L2.atI ds i = some d) : opIx (.ref k) (.int i) S = .ok d S := by rw [ix_ref, hk]; simp only [h]
theorem wrong_ok (hT : Fns T) (h : Hs) (G : Store) (g : GW G) {a : Nat} (x : D) (h0 : 1 ≤ a) (h1 : a ≤ 16) : ∃ w h', Wrong a w ∧ callN T (n + 2) 103 [.ref 2, x, .int (a : Int)] (hS h G) = .ok (strD w) (hS h' G) := by
  have d14 := draw_eq hT.dr.h9 (n := n) h G 14 (by decide) (by decide)
  generalize drawV h 14 = k at d14
  generalize drawH h 14 = h2 at d14
  have z3 : 0 + 1 + 1 + 1 ≤ sizeLine := le_sz (by omega)
  have key : ∃ w h' X, Wrong a w ∧ exTs (callN T (n + 1)) d__law_wrong.body [some (.ref 2), some x, some (.int (a : Int)), none, none] (hS h G) = .rt (strD w) (hS h' (G ++ X)) := by
    by_cases q : k < 3 ∧ a < 16
    · have q2 : (a : Int) < 16 := by omega
      by_cases a3 : a < 3
      · have a3' : (a : Int) < 3 := by omega
        have s1 : ("w*7" : Str) = sx [119, 42, 55] := by decide +kernel
        have s2 : ("w^2" : Str) = sx [119, 94, 50] := by decide +kernel
        have ha : a = 1 ∨ a = 2 := by omega
        rcases ha with rfl | rfl
        · refine ⟨_, h2, [.lst [.str ("5" : Str), .str ("w*7" : Str), .str ("w^2" : Str)]], w7_ok, ?_⟩
          have m1 : (if (2 : Int) < ((1 : Nat) : Int) then (2 : Int) else ((1 : Nat) : Int)) = 1 := by decide
          have a1 : ∀ S : Store, ∀ k, S[k]? = some (.lst [.str ("5" : Str), .str ("w*7" : Str), .str ("w^2" : Str)]) → opIx (.ref k) (.int 1) S = .ok (strD [119, 42, 55]) S := fun S k hk => lst_at hk (by rw [s1]; simp [L2.atI, L2.ixN, strD])
          simp only [d__law_wrong, xs_cons, xs_nil, x_asg, e_call, es_cons, es_nil, e_slot, e_cst, List.getElem?_cons_succ, List.getElem?_cons_zero, R.bind_ok, d14, R.out_ok, g_nm, List.set_cons_succ, List.set_cons_zero, Out.thn_nx, x_iff, t_and, t_cmp, c_lt, q.1, q2, decide_true, if_true, x_ret, e_ife, a3', e_ix, e_lst, List.length_cons, List.length_nil, z3, newL_eq, hS_len, hS_app, e_blt, f_min2, m1]
          rw [a1 _ _ (by simp)]
          simp only [R.out_ok, Out.thn_rt]
        · refine ⟨_, h2, [.lst [.str ("5" : Str), .str ("w*7" : Str), .str ("w^2" : Str)]], w2_ok, ?_⟩
          have m1 : (if (2 : Int) < ((2 : Nat) : Int) then (2 : Int) else ((2 : Nat) : Int)) = 2 := by decide
          have a1 : ∀ S : Store, ∀ k, S[k]? = some (.lst [.str ("5" : Str), .str ("w*7" : Str), .str ("w^2" : Str)]) → opIx (.ref k) (.int 2) S = .ok (strD [119, 94, 50]) S := fun S k hk => lst_at hk (by rw [s2]; simp [L2.atI, L2.ixN, strD])
          simp only [d__law_wrong, xs_cons, xs_nil, x_asg, e_call, es_cons, es_nil, e_slot, e_cst, List.getElem?_cons_succ, List.getElem?_cons_zero, R.bind_ok, d14, R.out_ok, g_nm, List.set_cons_succ, List.set_cons_zero, Out.thn_nx, x_iff, t_and, t_cmp, c_lt, q.1, q2, decide_true, if_true, x_ret, e_ife, a3', e_ix, e_lst, List.length_cons, List.length_nil, z3, newL_eq, hS_len, hS_app, e_blt, f_min2, m1]
          rw [a1 _ _ (by simp)]
          simp only [R.out_ok, Out.thn_rt]
      · have a3' : ¬ (a : Int) < 3 := by omega
        have sn := fun S => strNum (n := a) (by omega) S
        have ad := fun S => addS (a := [119, 94]) (b := TL.numL a) (by have := TL.numL_len (n := a) (k := 2) (by omega) (by omega); simp; omega) S
        refine ⟨_, h2, [], like_ok ⟨a, q.2⟩ (by show 3 ≤ a; omega), ?_⟩
        rw [List.append_nil]
        simp only [d__law_wrong, xs_cons, xs_nil, x_asg, e_call, es_cons, es_nil, e_slot, e_cst, List.getElem?_cons_succ, List.getElem?_cons_zero, R.bind_ok, d14, R.out_ok, g_nm, List.set_cons_succ, List.set_cons_zero, Out.thn_nx, x_iff, t_and, t_cmp, c_lt, q.1, q2, decide_true, if_true, x_ret, e_ife, a3', decide_false, Bool.false_eq_true, if_false, e_bin, e_blt, sn, sw94, ad, Out.thn_rt]
        rfl
    · have first : exTs (callN T (n + 1)) d__law_wrong.body [some (.ref 2), some x, some (.int (a : Int)), none, none] (hS h G) = exTs (callN T (n + 1)) (match d__law_wrong.body with | .cons _ (.cons _ r) => r | r => r) [some (.ref 2), some x, some (.int (a : Int)), some (.int k), none] (hS h2 G) := by
        have e0 : d__law_wrong.body = .cons (.asg (.nm 3) (.call 9 (.cons (.slot 0) (.cons (.cst (.int 14)) .nil)))) (.cons (.iff (.and (.cmp .Lt (.slot 3) (.cst (.int 3))) (.cmp .Lt (.slot 2) (.cst (.int 16)))) (.cons (.ret (.ife (.cmp .Lt (.slot 2) (.cst (.int 3))) (.ix (.lst (.cons (.cst (.str ("5" : PySem.Str))) (.cons (.cst (.str ("w*7" : PySem.Str))) (.cons (.cst (.str ("w^2" : PySem.Str))) .nil)))) (.blt .min (.cons (.slot 2) (.cons (.cst (.int 2)) .nil)))) (.bin .Add (.cst (.str ("w^" : PySem.Str))) (.blt .str (.cons (.slot 2) .nil))))) .nil) .nil) (match d__law_wrong.body with | .cons _ (.cons _ r) => r | r => r)) := rfl
        have cnd : evT (callN T (n + 1)) [some (.ref 2), some x, some (.int (a : Int)), some (.int k), none] (.and (.cmp .Lt (.slot 3) (.cst (.int 3))) (.cmp .Lt (.slot 2) (.cst (.int 16)))) (hS h2 G) = .ok false (hS h2 G) := by
          by_cases k3 : k < 3
          · have q2 : ¬ (a : Int) < 16 := by omega
            simp only [t_and, t_cmp, e_slot, e_cst, List.getElem?_cons_succ, List.getElem?_cons_zero, R.bind_ok, c_lt, k3, q2, decide_true, decide_false, if_true]
          · simp only [t_and, t_cmp, e_slot, e_cst, List.getElem?_cons_succ, List.getElem?_cons_zero, R.bind_ok, c_lt, k3, decide_false, Bool.false_eq_true, if_false]
        rw [e0]
        generalize (match d__law_wrong.body with | .cons _ (.cons _ r) => r | r => r) = rest
        rw [xs_cons]
        simp only [x_asg, e_call, es_cons, es_nil, e_slot, e_cst, List.getElem?_cons_zero, R.bind_ok, d14, R.out_ok, g_nm, List.set_cons_succ, List.set_cons_zero, Out.thn_nx]
        rw [xs_cons]
        simp only [x_iff, cnd, R.out_ok, Bool.false_eq_true, if_false, xs_nil, Out.thn_nx]
      have m0 : ∀ S, opBin .Mult (.str ("0" : Str)) (.int 40) S = .ok (.str (repS "0" 40)) S := fun S => by
        have : (2 : Int) ≤ 40 ∧ (40 : Int) ≤ 100000 ∧ 0 < ("0" : Str).length ∧ ("0" : Str).length ≤ 100 := by decide
        simp only [opBin, this, and_self, if_true]
        rfl
      have b1 : ∀ S, opBin .Add (.str ("1" : Str)) (.str (repS "0" 40)) S = .ok (.str ("1" ++ repS "0" 40)) S := fun S => by
        have : ("1" : Str).length + (repS "0" 40).length ≤ sizeLine := by rw [repS_len]; exact le_sz (by decide)
        simp only [opBin, this, if_true]
      have b2 : ∀ S, opBin .Add (.str ("w*1" : Str)) (.str (repS "0" 40)) S = .ok (.str ("w*1" ++ repS "0" 40)) S := fun S => by
        have : ("w*1" : Str).length + (repS "0" 40).length ≤ sizeLine := by rw [repS_len]; exact le_sz (by decide)
        simp only [opBin, this, if_true]
      have o1 : [D.str ("w^1" : Str), .str ("w^0" : Str), .str ("w*1" : Str), .str ("w^16" : Str), .str ("w^3*1" : Str), .str ("w^02" : Str), .str ("07" : Str), .str ("0" : Str), .str ("" : Str), .str ("w*" : Str), .str ("w^" : Str), .str ("+5" : Str), .str ("w 2" : Str), .str ("W" : Str), .str ("x" : Str), .str ("w^2*" : Str), .str ("w**2" : Str)] = oddA.map D.str := rfl
      have o2 : [D.str ("-3" : Str), .str ("w*05" : Str), .str ("3w" : Str), .str ("w^2^2" : Str), .str ("1.5" : Str), .str (" 4" : Str), .str ("4 " : Str), .str ("w\n" : Str), .str ("1" ++ repS "0" 40), .str ("w*1" ++ repS "0" 40), .str ("w^003" : Str), .str ("1_0" : Str)] = oddB.map D.str := rfl
      have n1 : (oddA.map D.str).length = 17 := rfl
      have n2 : (oddB.map D.str).length = 12 := rfl
      have zA : (oddA.map D.str).length ≤ sizeLine := by rw [n1]; exact le_sz (by omega)
      have zB : (oddB.map D.str).length ≤ sizeLine := by rw [n2]; exact le_sz (by omega)
      have zC : (oddA.map D.str).length + (oddB.map D.str).length ≤ sizeLine := by rw [n1, n2]; exact le_sz (by omega)
      have d29 := draw_eq hT.dr.h9 (n := n) h2 (G ++ [.lst (oddA.map D.str), .lst (oddB.map D.str), .lst (oddA.map D.str ++ oddB.map D.str)]) 29 (by decide) (by decide)
      obtain ⟨y, hy, ha⟩ := atI_of (xs := oddA.map D.str ++ oddB.map D.str) (drawV_nn h2 (m := 29) (by decide)) (by have := drawV_lt h2 (m := 29) (by decide); rw [List.length_append, n1, n2]; exact this)
      obtain ⟨s, hs, rfl⟩ : ∃ s, s ∈ oddA ++ oddB ∧ D.str s = y := by
        rw [← List.map_append] at hy
        exact List.mem_map.1 hy
      refine ⟨s.cps.toList, drawH h2 29, [.lst (oddA.map D.str), .lst (oddB.map D.str), .lst (oddA.map D.str ++ oddB.map D.str)], odd_ok s hs a, ?_⟩
      rw [first]
      have e1 : (match d__law_wrong.body with | .cons _ (.cons _ r) => r | r => r) = .cons (.asg (.nm 4) (.lst (.cons (.cst (.str ("w^1" : PySem.Str))) (.cons (.cst (.str ("w^0" : PySem.Str))) (.cons (.cst (.str ("w*1" : PySem.Str))) (.cons (.cst (.str ("w^16" : PySem.Str))) (.cons (.cst (.str ("w^3*1" : PySem.Str))) (.cons (.cst (.str ("w^02" : PySem.Str))) (.cons (.cst (.str ("07" : PySem.Str))) (.cons (.cst (.str ("0" : PySem.Str))) (.cons (.cst (.str ("" : PySem.Str))) (.cons (.cst (.str ("w*" : PySem.Str))) (.cons (.cst (.str ("w^" : PySem.Str))) (.cons (.cst (.str ("+5" : PySem.Str))) (.cons (.cst (.str ("w 2" : PySem.Str))) (.cons (.cst (.str ("W" : PySem.Str))) (.cons (.cst (.str ("x" : PySem.Str))) (.cons (.cst (.str ("w^2*" : PySem.Str))) (.cons (.cst (.str ("w**2" : PySem.Str))) .nil))))))))))))))))))) (.cons (.asg (.nm 4) (.bin .Add (.slot 4) (.lst (.cons (.cst (.str ("-3" : PySem.Str))) (.cons (.cst (.str ("w*05" : PySem.Str))) (.cons (.cst (.str ("3w" : PySem.Str))) (.cons (.cst (.str ("w^2^2" : PySem.Str))) (.cons (.cst (.str ("1.5" : PySem.Str))) (.cons (.cst (.str (" 4" : PySem.Str))) (.cons (.cst (.str ("4 " : PySem.Str))) (.cons (.cst (.str ("w\n" : PySem.Str))) (.cons (.bin .Add (.cst (.str ("1" : PySem.Str))) (.bin .Mult (.cst (.str ("0" : PySem.Str))) (.cst (.int 40)))) (.cons (.bin .Add (.cst (.str ("w*1" : PySem.Str))) (.bin .Mult (.cst (.str ("0" : PySem.Str))) (.cst (.int 40)))) (.cons (.cst (.str ("w^003" : PySem.Str))) (.cons (.cst (.str ("1_0" : PySem.Str))) .nil))))))))))))))) (.cons (.ret (.ix (.slot 4) (.call 9 (.cons (.slot 0) (.cons (.blt .len (.cons (.slot 4) .nil)) .nil))))) .nil)) := rfl
      rw [e1, xs_cons]
      simp only [x_asg, e_lst, es_cons, es_nil, e_cst, R.bind_ok, o1, zA, if_true, newL_eq, R.out_ok, g_nm, List.set_cons_succ, List.set_cons_zero, Out.thn_nx, hS_len, hS_app]
      rw [xs_cons]
      have ga : (hS h2 (G ++ [Cell.lst (oddA.map D.str), .lst (oddB.map D.str)]))[G.length + 3]? = some (.lst (oddA.map D.str)) := by rw [hS_get]; simp
      have gb : (hS h2 (G ++ [Cell.lst (oddA.map D.str), .lst (oddB.map D.str)]))[G.length + 1 + 3]? = some (.lst (oddB.map D.str)) := by rw [hS_get]; simp
      have aa : opBin .Add (.ref (G.length + 3)) (.ref (G.length + 1 + 3)) (hS h2 (G ++ [Cell.lst (oddA.map D.str), .lst (oddB.map D.str)])) = .ok (.ref (G.length + 2 + 3)) (hS h2 (G ++ [.lst (oddA.map D.str), .lst (oddB.map D.str), .lst (oddA.map D.str ++ oddB.map D.str)])) := by
        simp only [opBin, ga, gb, zC, if_true, newL_eq, hS_len, hS_app, List.length_append, List.length_cons, List.length_nil, List.append_assoc, List.cons_append, List.nil_append]
      simp only [x_asg, e_bin, e_slot, List.getElem?_cons_succ, List.getElem?_cons_zero, R.bind_ok, e_lst, es_cons, es_nil, e_cst, m0, b1, b2, o2, zB, if_true, newL_eq, hS_len, hS_app, List.length_append, List.length_cons, List.length_nil, List.append_assoc, List.cons_append, List.nil_append, Nat.zero_add]
      have gl : (hS h2 (G ++ [.lst (oddA.map D.str), .lst (oddB.map D.str), .lst (oddA.map D.str ++ oddB.map D.str)]))[G.length + 2 + 3]? = some (.lst (oddA.map D.str ++ oddB.map D.str)) := by rw [hS_get]; simp
      have gl2 : (hS (drawH h2 29) (G ++ [.lst (oddA.map D.str), .lst (oddB.map D.str), .lst (oddA.map D.str ++ oddB.map D.str)]))[G.length + 2 + 3]? = some (.lst (oddA.map D.str ++ oddB.map D.str)) := by rw [hS_get]; simp
      have n29 : ((oddA.map D.str ++ oddB.map D.str).length : Int) = 29 := by rw [List.length_append, n1, n2]; rfl
      have ixl := lst_at gl2 ha
      have sd : strD s.cps.toList = .str s := by unfold strD; rw [show sx s.cps.toList = s from SX.S_tl s]
      rw [aa, sd]
      simp only [R.out_ok, g_nm, List.set_cons_succ, List.set_cons_zero, Out.thn_nx, xs_cons, x_ret, e_ix, e_slot, List.getElem?_cons_succ, List.getElem?_cons_zero, R.bind_ok, e_call, es_cons, es_nil, e_blt, f_lenr, items_ref, gl, n29, d29, ixl, Out.thn_rt]
  obtain ⟨w, h', X, hw, e⟩ := key
  exact ⟨w, h', hw, call_GW hT.h103 rfl g rfl e⟩
end
/-! ### plain: the whole text -/
theorem join_one : ∀ L : List (List Nat), TL.joinL [43] L = [48] → L = [[48]]
  | [], h => by cases h
  | [p], h => by rw [show TL.joinL [43] [p] = p from rfl] at h; rw [h]
  | p :: q :: r, h => by
    have e : TL.joinL [43] (p :: q :: r) = p ++ ([43] ++ TL.joinL [43] (q :: r)) := rfl
    have : 43 ∈ TL.joinL [43] (p :: q :: r) := by rw [e]; simp
    rw [h] at this
    simp at this
theorem spl_in : ∀ (l acc : List Nat), (∀ p ∈ TL.spl [43] 0 acc l, (∀ c ∈ p, c ∈ acc ∨ c ∈ l) ∧ p.length ≤ acc.length + l.length) ∧ (TL.spl [43] 0 acc l).length ≤ l.length + 1
  | [], acc => by
    rw [TL.spl_nil]
    refine ⟨fun p hp => ?_, by simp⟩
    simp at hp
    subst hp
    exact ⟨fun c hc => .inl hc, by simp⟩
  | c :: r, acc => by
    by_cases e : c = 43
    · rw [TL.spl_hit (by rw [pre42]; simp [e])]
      have ih := spl_in r []
      refine ⟨fun p hp => ?_, by have := ih.2; simp at this ⊢; omega⟩
      rcases List.mem_cons.1 hp with rfl | hp
      · exact ⟨fun c hc => .inl hc, by simp⟩
      · obtain ⟨h1, h2⟩ := ih.1 p hp
        refine ⟨fun c hc => ?_, by simp at h2 ⊢; omega⟩
        rcases h1 c hc with q | q
        · cases q
        · exact .inr (by simp [q])
    · rw [TL.spl_miss (by rw [pre42]; simp [e])]
      have ih := spl_in r (acc ++ [c])
      refine ⟨fun p hp => ?_, by have := ih.2; simp at this ⊢; omega⟩
      obtain ⟨h1, h2⟩ := ih.1 p hp
      refine ⟨fun d hd => ?_, by simp at h2 ⊢; omega⟩
      rcases h1 d hd with q | q
      · rcases List.mem_append.1 q with q | q
        · exact .inl q
        · simp at q; exact .inr (by simp [q])
      · exact .inr (by simp [q])
theorem join_cd : ∀ L : List (List Nat), (∀ p ∈ L, Pt p) → Cd (TL.joinL [43] L) ∧ (TL.joinL [43] L).length ≤ 61 * L.length
  | [], _ => ⟨fun c hc => absurd hc (List.not_mem_nil), Nat.zero_le _⟩
  | [p], h => by
    have := h p (by simp)
    exact ⟨this.1, by show p.length ≤ _; have := this.2; simp; omega⟩
  | p :: q :: r, h => by
    have e : TL.joinL [43] (p :: q :: r) = p ++ ([43] ++ TL.joinL [43] (q :: r)) := rfl
    have h1 := h p (by simp)
    have ih := join_cd (q :: r) fun x hx => h x (by simp [hx])
    rw [e]
    refine ⟨fun c hc => ?_, ?_⟩
    · rcases List.mem_append.1 hc with hc | hc
      · exact h1.1 c hc
      · rcases List.mem_append.1 hc with hc | hc
        · simp at hc; omega
        · exact ih.1 c hc
    · have h2 := h1.2
      have h3 := ih.2
      simp only [List.length_append, List.length_cons, List.length_nil] at h3 ⊢
      omega
theorem pys_strD (f : Nat → Option PyData) : ∀ ps : List (List Nat), D.pys f (ps.map strD) = some (ps.map fun p => .str (sx p))
  | [] => rfl
  | p :: ps => by simp [D.pys, D.py, strD, pys_strD f ps]
theorem can_strD : ∀ ps : List (List Nat), (∀ p ∈ ps, Cd p) → PyData.canLayAll0 (ps.map fun p => .str (sx p)) = true
  | [], _ => by simp [PyData.canLayAll0]
  | p :: ps, h => by
    have := sxOk (h p (by simp))
    simp [PyData.canLayAll0, PyData.canLay0, can_strD ps fun x hx => h x (by simp [hx])]
    exact this
theorem dep_strD : ∀ ps : List (List Nat), PyData.depthAll (ps.map fun p => .str (sx p)) ≤ 1
  | [] => by simp [PyData.depthAll]
  | p :: ps => by
    have := dep_strD ps
    simp [PyData.depthAll, PyData.depth]
    try omega
theorem eqv_strD : ∀ ps qs : List (List Nat), PyData.eqvAll (ps.map fun p => .str (sx p)) (qs.map fun p => .str (sx p)) = decide (ps = qs)
  | [], [] => by simp [PyData.eqvAll]
  | [], _ :: _ => by simp [PyData.eqvAll]
  | _ :: _, [] => by simp [PyData.eqvAll]
  | p :: ps, q :: qs => by
    have : PyData.eqv (.str (sx p)) (.str (sx q)) = decide (p = q) := by
      simp only [PyData.eqv]
      exact SX.S_beq_eq
    simp only [List.map_cons, PyData.eqvAll, this, eqv_strD ps qs]
    by_cases h : p = q <;> by_cases h' : ps = qs <;> simp [h, h']
theorem eq_strs {S : Store} {a b : Nat} {ps qs : List (List Nat)} (ha : S[a]? = some (.lst (ps.map strD))) (hb : S[b]? = some (.lst (qs.map strD))) (hp : ∀ p ∈ ps, Cd p) (hq : ∀ p ∈ qs, Cd p) : opEq (.ref a) (.ref b) S = .ok (decide (ps = qs)) S := by
  have h1 := dep_strD ps
  have h2 := dep_strD qs
  have e1 : toPy S (.ref a) = some (.list (ps.map fun p => .str (sx p))) := by simp [toPy, D.py, pyR, ha, pys_strD]
  have e2 : toPy S (.ref b) = some (.list (qs.map fun p => .str (sx p))) := by simp [toPy, D.py, pyR, hb, pys_strD]
  have s1 : (SeqAt.shaped (.list (ps.map fun p => .str (sx p))) && SeqAt.shaped (.list (qs.map fun p => .str (sx p)))) = true := by
    simp [SeqAt.shaped, PyData.canLay0, can_strD ps hp, can_strD qs hq, PyData.depth]
    omega
  simp only [opEq, e1, e2, s1, if_true, PyData.eqv, eqv_strD]
def whB : Ts := match d_law.body with
  | .cons _ (.cons _ (.cons (.for_ _ _ (.cons _ (.cons (.whl _ b) _))) _)) => b
  | _ => .nil
section
variable {T : Tab} {n : Nat}
theorem kept_intH (hT : T 100015 = some dh__law_kept) (x : Int) (S : Store) : callN T (n + 1) 100015 [.int x, .int x] S = .ok (.bl true) S := by
  apply call_pure0 hT rfl
  simp [dh__law_kept]
theorem whB_eq : whB = .cons (.asg (.nm 9) (.bin .Sub (.bin .Sub (.slot 9) (.cst (.int 1))) (.call 9 (.cons (.slot 1) (.cons (.blt .min (.cons (.cst (.int 3)) (.cons (.bin .Sub (.slot 9) (.cst (.int 1))) .nil))) .nil))))) (.cons (.exp (.mth .append (.slot 8) (.cons (.call 102 (.cons (.slot 9) (.cons (.bin .Add (.cst (.int 1)) (.call 14 (.cons (.slot 1) (.cons (.ix (.lst (.cons (.cst (.int 3)) (.cons (.bin .Pow (.cst (.int 10)) (.cst (.int 30))) .nil))) (.call 9 (.cons (.slot 1) (.cons (.cst (.int 2)) .nil)))) .nil)))) .nil))) .nil))) .nil) := rfl
/-- one more right part -/
theorem grow (hT : Fns T) (h : Hs) (G : Store) (g : GW G) {c ex : Nat} {ps : List (List Nat)} {qs : List (Nat × Nat)} (hk : G[c]? = some (.lst (ps.map strD))) (hf : Falls 16 ps qs ex) (e0 : 1 < ex) (e1 : ex ≤ 16) (hl : ps.length + ex ≤ 16) (hp : ∀ p ∈ ps, Pt p ∧ 43 ∉ p) (x0 x2 x3 x4 x5 x6 x7 x10 : Option D) :
    ∃ ex' p q h' G', ex' < ex ∧ 1 ≤ ex' ∧ Falls 16 (ps ++ [p]) (qs ++ [q]) ex' ∧ Pt p ∧ 43 ∉ p ∧ GW G' ∧ G'[c]? = some (.lst ((ps ++ [p]).map strD)) ∧
      exTs (callN T (n + 4)) whB [x0, some (.ref 2), x2, x3, x4, x5, x6, x7, some (.ref (c + 3)), some (.int (ex : Int)), x10] (hS h G) = .nx [x0, some (.ref 2), x2, x3, x4, x5, x6, x7, some (.ref (c + 3)), some (.int (ex' : Int)), x10] (hS h' G') := by
  have z2 : 0 + 1 + 1 ≤ sizeLine := le_sz (by omega)
  have cl : c < G.length := (List.getElem?_eq_some_iff.mp hk).1
  have mpos : (0 : Int) < (if (ex : Int) - 1 < 3 then (ex : Int) - 1 else 3) := by split <;> omega
  have d1 := draw_eq hT.dr.h9 (n := n + 3) h G (if (ex : Int) - 1 < 3 then (ex : Int) - 1 else 3) mpos (by split <;> omega)
  have v0 := drawV_nn h mpos
  have v1 := drawV_lt h mpos
  generalize hm : (if (ex : Int) - 1 < 3 then (ex : Int) - 1 else 3) = m at d1 v0 v1 mpos
  have hm2 : m ≤ (ex : Int) - 1 := by rw [← hm]; split <;> omega
  generalize drawV h m = v at d1 v0 v1
  generalize drawH h m = h1 at d1
  obtain ⟨ex', hex⟩ := Int.eq_ofNat_of_zero_le (show 0 ≤ (ex : Int) - 1 - v by omega)
  have b1 : ex' < ex := by omega
  have b2 : 1 ≤ ex' := by omega
  have g1 : GW (G ++ [.lst [.int 3, .int 1000000000000000000000000000000]]) := g.lst (by simp [D.lts, D.lt])
  have d2 := draw_eq hT.dr.h9 (n := n + 3) h1 (G ++ [.lst [.int 3, .int 1000000000000000000000000000000]]) 2 (by decide) (by decide)
  obtain ⟨great, q0, q1, q2, q3, hy⟩ : ∃ great : Int, 0 < great ∧ great.natAbs.log2 < 1920 ∧ lenStr great ≤ 600 ∧ great ≤ 10 ^ 30 ∧ L2.atI [D.int 3, .int 1000000000000000000000000000000] (drawV h1 2) = some (.int great) := by
    have v0 := drawV_nn h1 (m := 2) (by decide)
    have v1 := drawV_lt h1 (m := 2) (by decide)
    rcases (by omega : drawV h1 2 = 0 ∨ drawV h1 2 = 1) with e | e <;> rw [e]
    · exact ⟨3, by decide, by decide, by decide +kernel, by decide, by simp [L2.atI, L2.ixN]⟩
    · exact ⟨1000000000000000000000000000000, by decide, by decide +kernel, by decide +kernel, by decide, by simp [L2.atI, L2.ixN]⟩
  have pw30 : ∀ env S, evE (callN T (n + 4)) env (.bin .Pow (.cst (.int 10)) (.cst (.int 30))) S = .ok (.int 1000000000000000000000000000000) S := fun env S => by
    simp [powOk]
  obtain ⟨d, h3, t0, t1, e3⟩ := big_spec hT.dr.h9 hT.h14 (n := n + 2) (drawH h1 2) (G ++ [.lst [.int 3, .int 1000000000000000000000000000000]]) great q0 q1 q2
  obtain ⟨d', hd'⟩ := Int.eq_ofNat_of_zero_le t0
  subst hd'
  have dm : d' + 1 < 10 ^ 40 := by
    have : (d' : Int) < 10 ^ 30 := by omega
    have : d' < 10 ^ 30 := by exact_mod_cast this
    omega
  have lp := law_part_ok (n := n + 3) hT (e := ex') (m := d' + 1) b2 (by omega) (by omega) dm (hS h3 (G ++ [.lst [.int 3, .int 1000000000000000000000000000000]]))
  have md : ((d' + 1 : Nat) : Int) = 1 + (d' : Int) := by omega
  rw [md] at lp
  refine ⟨ex', partL ex' (d' + 1), (d' + 1, ex'), h3, (G ++ [Cell.lst [.int 3, .int 1000000000000000000000000000000]]).set c (Cell.lst ((ps ++ [partL ex' (d' + 1)]).map strD)), b1, b2, hf.snoc (readPF_part b2 (by omega) (by omega) dm) b1, partL_pt (by omega) dm, partL_free _ _, g1.set (by simp only [Cell.lt]; exact lts_strD _ _), ?_, ?_⟩
  · rw [List.getElem?_set_self (by simp; omega)]
  · have gc : (G ++ [Cell.lst [.int 3, .int 1000000000000000000000000000000]])[c]? = some (.lst (ps.map strD)) := by rw [List.getElem?_append_left cl]; exact hk
    have ixl := lst_at (S := hS (drawH h1 2) (G ++ [Cell.lst [.int 3, .int 1000000000000000000000000000000]])) (k := G.length + 3) (by rw [hS_get]; simp) hy
    have zl : (ps.map strD).length < sizeLine := by rw [List.length_map]; exact len_lt_sz (by omega)
    have mp : (ps ++ [partL ex' (d' + 1)]).map strD = ps.map strD ++ [.str (sx (partL ex' (d' + 1)))] := by simp [strD]
    rw [whB_eq, xs_cons]
    simp only [x_asg, e_bin, e_slot, e_cst, List.getElem?_cons_succ, List.getElem?_cons_zero, R.bind_ok, b_sub, e_call, es_cons, es_nil, e_blt, f_min2, hm, d1, hex, R.out_ok, g_nm, List.set_cons_succ, List.set_cons_zero, Out.thn_nx]
    rw [xs_cons]
    simp only [x_exp, e_mth, e_slot, List.getElem?_cons_succ, List.getElem?_cons_zero, R.bind_ok, rcv_app, hS_get, hk, if_true, es_cons, es_nil, e_call, e_bin, e_cst, e_ix, e_lst, pw30, List.length_cons, List.length_nil, z2, newL_eq, hS_len, hS_app, d2, ixl, e3, b_add, lp, m_app, gc, zl, hS_set, R.out_ok, xs_nil, Out.thn_nx, mp]
/-- text of parts of which one is wrong -/
theorem bad_text (hT : Fns T) {ps ex : List (List Nat)} {qs : List (Nat × Nat)} {lim : Nat} {w : List Nat} (hf : Falls 16 ps qs lim) (hp : ∀ p ∈ ps, Pt p ∧ 43 ∉ p) (hw : Wrong lim w) (hx : ∀ p ∈ ex, Pt p) (hn : ps.length + ex.length ≤ 100) (hne : ps ++ w :: ex ≠ [[48]]) (S : Store) :
    ∃ X, (∀ c ∈ X, ∀ k, Cell.lt k c = true) ∧ callN T (n + 3) 101 [.str (sx (TL.joinL [43] (ps ++ w :: ex)))] S = .exc ⟨16, [.int ((ps.length : Int) + 1)]⟩ (S ++ X) := by
  have all : ∀ p ∈ ps ++ w :: ex, Pt p := fun p h => by
    rcases List.mem_append.1 h with h | h
    · exact (hp p h).1
    · rcases List.mem_cons.1 h with rfl | h
      · exact hw.1
      · exact hx p h
  obtain ⟨cl, ll⟩ := join_cd _ all
  have ln : (ps ++ w :: ex).length ≤ 101 := by simp; omega
  have ll2 : (TL.joinL [43] (ps ++ w :: ex)).length ≤ 61 * 101 := Nat.le_trans ll (Nat.mul_le_mul_left _ ln)
  obtain ⟨s1, s2⟩ := spl_in (TL.joinL [43] (ps ++ w :: ex)) []
  have sg := spl_goods ps w ex fun g hg => (hp g hg).2
  have sf := spl_first (TL.joinL [43] (w :: ex)) []
  rw [take_join, List.nil_append] at sf
  obtain ⟨ex', hx'⟩ : ∃ ex', TL.spl [43] 0 [] (TL.joinL [43] (w :: ex)) = cut43 w :: ex' := by
    cases q : TL.spl [43] 0 [] (TL.joinL [43] (w :: ex)) with
    | nil => rw [q] at sf; cases sf
    | cons a r =>
      rw [q] at sf
      simp only [List.head?_cons, Option.some.injEq] at sf
      exact ⟨r, by rw [sf]; rfl⟩
  rw [hx'] at sg
  rw [sg] at s1 s2
  have := read_ord_bad (n := n) hT.h99 hT.h100 hT.h101 cl (by omega) (fun e => hne (join_one _ e)) hf sg (fun p h => ⟨fun c hc => by rcases (s1 p h).1 c hc with q | q; cases q; exact cl c q, by have := (s1 p h).2; simp only [List.length_nil] at this; omega⟩) (by omega) hw.2 S
  refine ⟨_, ?_, this⟩
  intro c hc k
  simp only [List.mem_cons, List.not_mem_nil, or_false] at hc
  rcases hc with rfl | rfl
  · simp only [Cell.lt]
    have : ∀ l : List (Nat × Nat), D.lts k (l.map pairD) = true := by
      intro l
      induction l with
      | nil => rfl
      | cons a l ih => obtain ⟨m, p⟩ := a; simp [pairD, D.lts, D.lt, ih]
    exact this _
  · exact lts_strD k _
end
def thingsD : List D := [.non, .int 5, .bl true, .tup [.str ("w" : Str)], .ref 3, .ref 4]
def G0 : Store := [.lst [.str ("w" : Str)], .dic [], .lst thingsD]
theorem G0_gw : GW G0 := by simp [GW, G0, thingsD, cellsLt, Cell.lt, D.lts, D.lt]
theorem gw_app {G X : Store} (g : GW G) (h : ∀ c ∈ X, ∀ k, Cell.lt k c = true) : GW (G ++ X) := g.app (by
  unfold cellsLt
  exact List.all_eq_true.2 fun c hc => h c hc _)
def bodyB : Ts := match d_law.body with
  | .cons _ (.cons _ (.cons (.for_ _ _ b) _)) => b
  | _ => .nil
def bodyR : Ts := match bodyB with
  | .cons _ (.cons _ r) => r
  | r => r
theorem body_eq : bodyB = .cons (.asg (.tp (.cons (.nm 8) (.cons (.nm 9) (.cons (.nm 10) .nil)))) (.tup (.cons (.lst .nil) (.cons (.cst (.int 16)) (.cons (.call 9 (.cons (.slot 1) (.cons (.cst (.int 5)) .nil))) .nil))))) (.cons (.whl (.and (.cmp .Lt (.blt .len (.cons (.slot 8) .nil)) (.slot 10)) (.cmp .Gt (.slot 9) (.cst (.int 1)))) whB) bodyR) := rfl
theorem bodyR_eq : bodyR = .cons (.asg (.nm 5) (.bin .Add (.blt .len (.cons (.slot 8) .nil)) (.cst (.int 1)))) (.cons (.exp (.mth .append (.slot 8) (.cons (.call 103 (.cons (.slot 1) (.cons (.slot 9) (.cons (.slot 9) .nil)))) .nil))) (.cons (.iff (.cmp .Eq (.slot 8) (.lst (.cons (.cst (.str ("0" : PySem.Str))) .nil))) (.cons .cnt .nil) .nil) (.cons (.for_ (.nm 6) (.rng1 (.call 9 (.cons (.slot 1) (.cons (.cst (.int 3)) .nil)))) (.cons (.exp (.mth .append (.slot 8) (.cons (.call 24 (.cons (.slot 1) (.cons (.lst (.cons (.cst (.str ("w" : PySem.Str))) (.cons (.cst (.str ("7" : PySem.Str))) (.cons (.cst (.str ("w^9" : PySem.Str))) (.cons (.cst (.str ("?" : PySem.Str))) .nil))))) .nil))) .nil))) .nil)) (.cons (.asg (.nm 7) (.mth .join (.cst (.str ("+" : PySem.Str))) (.cons (.slot 8) .nil))) (.cons (.try_ (.cons (.exp (.call 101 (.cons (.slot 7) .nil))) (.cons (.ret (.cst (.bl false))) .nil)) (.cons [16] (some 4) (.cons (.iff (.not (.call 100015 (.cons (.xf 4) (.cons (.slot 5) .nil)))) (.cons (.ret (.cst (.bl false))) .nil) .nil) .nil) .nil)) .nil))))) := rfl
theorem law_eq : d_law.body = .cons (.asg (.nm 1) (.call 16 (.cons (.slot 0) .nil))) (.cons (.for_ (.nm 2) (.any (.lst (.cons (.cst .non) (.cons (.cst (.int 5)) (.cons (.cst (.bl true)) (.cons (.tup (.cons (.cst (.str ("w" : PySem.Str))) .nil)) (.cons (.lst (.cons (.cst (.str ("w" : PySem.Str))) .nil)) (.cons .dnew .nil)))))))) (.cons (.try_ (.cons (.exp (.call 101 (.cons (.slot 2) .nil))) (.cons (.ret (.cst (.bl false))) .nil)) (.cons [16] (some 4) (.cons (.iff (.cmp .NotEq (.xf 4) (.cst (.int 0))) (.cons (.ret (.cst (.bl false))) .nil) .nil) .nil) .nil)) .nil)) (.cons (.for_ (.nm 3) (.rng1 (.cst (.int 30))) bodyB) (.cons (.ret (.cst (.bl true))) .nil))) := rfl
def exS : List (List Nat) := [[119], [55], [119, 94, 57], [63]]
theorem exS_pt : ∀ p ∈ exS, Pt p := by
  intro p hp
  simp only [exS, List.mem_cons, List.not_mem_nil, or_false] at hp
  rcases hp with rfl | rfl | rfl | rfl <;> exact ⟨cd_lit (by decide), by decide⟩
theorem satB_mono {o : Out} {N N' B B' : Env → Store → Prop} {Q Q' : D → Store → Prop} (h : o.satB N B Q) (h1 : ∀ e S, N e S → N' e S) (h2 : ∀ e S, B e S → B' e S) (h3 : ∀ d S, Q d S → Q' d S) : o.satB N' B' Q' := by
  cases o <;> simp only [Out.satB] at h ⊢
  · exact h1 _ _ h
  · exact h3 _ _ h
  · exact h2 _ _ h
  · exact h1 _ _ h
section
variable {T : Tab} {n : Nat}
theorem sum_len : ∀ L : List (List Nat), (∀ p ∈ L, Pt p) → ((L.map sx).map (·.length)).sum ≤ 60 * L.length
  | [], _ => by simp
  | p :: L, h => by
    have h1 := (h p (by simp)).2
    have h2 := sum_len L fun x hx => h x (by simp [hx])
    have h3 : (sx p).length = p.length := sxLen p
    simp only [List.map_cons, List.sum_cons, h3, List.length_cons]
    omega
theorem strs_strD : ∀ L : List (List Nat), strs? (L.map strD) = some (L.map sx)
  | [] => rfl
  | p :: L => by simp [strs?, strD, strs_strD L]
theorem join_ok {c : Nat} {L : List (List Nat)} {S : Store} (hc : S[c]? = some (.lst (L.map strD))) (hp : ∀ p ∈ L, Pt p) (hl : L.length ≤ 100) : opMth .join (.str ("+" : Str)) [.ref c] S = .ok (.str (sx (TL.joinL [43] L))) S := by
  show opJoin ("+" : Str) (.ref c) S = _
  have h1 := sum_len L hp
  have l1 : ("+" : Str).length = 1 := rfl
  have hz : ((L.map sx).map (·.length)).sum + (L.map sx).length * ("+" : Str).length ≤ 16777216 := by
    rw [l1, List.length_map]
    omega
  have j : Txt.join ("+" : Str) (L.map sx) = sx (TL.joinL [43] L) := by
    rw [s43]
    exact SX.join_S [43] L
  simp only [opJoin, items_ref, hc, strs_strD, hz, if_true, j]
/-- the last part of a turn -/
theorem turn (hT : Fns T) (h : Hs) (G : Store) (g : GW G) {c ex : Nat} {ps : List (List Nat)} {qs : List (Nat × Nat)} (hk : G[c]? = some (.lst (ps.map strD))) (hf : Falls 16 ps qs ex) (e0 : 1 ≤ ex) (e1 : ex ≤ 16) (hl : ps.length ≤ 16) (hp : ∀ p ∈ ps, Pt p ∧ 43 ∉ p) (x0 x2 x3 x4 x5 x6 x7 x10 : Option D) :
    (exTs (callN T (n + 4)) bodyR [x0, some (.ref 2), x2, x3, x4, x5, x6, x7, some (.ref (c + 3)), some (.int (ex : Int)), x10] (hS h G)).satB (fun e S => ∃ (x4 x5 x6 x7 x8 x9 x10 : Option D) (h : Hs) (G : Store), e = [x0, some (.ref 2), x2, x3, x4, x5, x6, x7, x8, x9, x10] ∧ S = hS h G ∧ GW G) (fun _ _ => False) (fun _ _ => False) := by
  have cl : c < G.length := (List.getElem?_eq_some_iff.mp hk).1
  obtain ⟨w, h1, hw, ew⟩ := wrong_ok (n := n + 2) hT h G g (.int (ex : Int)) e0 e1
  have zl : (ps.map strD).length < sizeLine := by rw [List.length_map]; exact len_lt_sz (by omega)
  have mp : ps.map strD ++ [strD w] = (ps ++ [w]).map strD := by simp
  have g1 : GW (G.set c (Cell.lst ((ps ++ [w]).map strD))) := g.set (by simp only [Cell.lt]; exact lts_strD _ _)
  have k1 : (G.set c (Cell.lst ((ps ++ [w]).map strD)))[c]? = some (.lst ((ps ++ [w]).map strD)) := List.getElem?_set_self cl
  have cl1 : c < (G.set c (Cell.lst ((ps ++ [w]).map strD))).length := by simpa using cl
  rw [bodyR_eq, xs_cons]
  simp only [x_asg, e_bin, e_blt, es_cons, es_nil, e_slot, e_cst, List.getElem?_cons_succ, List.getElem?_cons_zero, R.bind_ok, f_lenr, items_ref, hS_get, hk, List.length_map, b_add, R.out_ok, g_nm, List.set_cons_succ, List.set_cons_zero, Out.thn_nx]
  rw [xs_cons]
  simp only [x_exp, e_mth, e_slot, List.getElem?_cons_succ, List.getElem?_cons_zero, R.bind_ok, rcv_app, hS_get, hk, if_true, es_cons, es_nil, e_call, ew, m_app, zl, mp, hS_set, R.out_ok, Out.thn_nx]
  generalize G.set c (Cell.lst ((ps ++ [w]).map strD)) = G1 at g1 k1 cl1
  have g2 : GW (G1 ++ [.lst [strD [48]]]) := g1.lst (by simp [D.lts, D.lt, strD])
  have k2 : (G1 ++ [Cell.lst [strD [48]]])[c]? = some (.lst ((ps ++ [w]).map strD)) := by rw [List.getElem?_append_left cl1]; exact k1
  have cl2 : c < (G1 ++ [Cell.lst [strD [48]]]).length := by simp; omega
  have eq := eq_strs (S := hS h1 (G1 ++ [Cell.lst [strD [48]]])) (a := c + 3) (b := G1.length + 3) (ps := ps ++ [w]) (qs := [[48]]) (by rw [hS_get]; exact k2) (by rw [hS_get]; simp) (fun p hp' => by
    rcases List.mem_append.1 hp' with q | q
    · exact (hp p q).1.1
    · simp at q; subst q; exact hw.1.1) (fun p hp' => by simp at hp'; subst hp'; exact cd_lit (by decide))
  have z1 : 0 + 1 ≤ sizeLine := le_sz (by omega)
  have s0 : [D.str ("0" : Str)] = [strD [48]] := by rw [s48]; rfl
  rw [xs_cons]
  simp only [x_iff (c := .cmp .Eq _ _), t_cmp, e_slot, List.getElem?_cons_succ, List.getElem?_cons_zero, R.bind_ok, e_lst, es_cons, es_nil, e_cst, List.length_cons, List.length_nil, z1, if_true, newL_eq, hS_len, hS_app, s0, c_eq, eq, R.out_ok]
  by_cases q : ps ++ [w] = [[48]]
  · simp only [q, decide_true, if_true, xs_cons, x_cnt, Out.thn_ct]
    exact ⟨_, _, _, _, _, _, _, _, _, rfl, rfl, g2⟩
  · simp only [q, decide_false, Bool.false_eq_true, if_false, xs_nil, Out.thn_nx]
    generalize G1 ++ [Cell.lst [strD [48]]] = G2 at g2 k2 cl2
    have d3 := draw_eq hT.dr.h9 (n := n + 3) h1 G2 3 (by decide) (by decide)
    have v0 := drawV_nn h1 (m := 3) (by decide)
    have v1 := drawV_lt h1 (m := 3) (by decide)
    generalize drawV h1 3 = v at d3 v0 v1
    generalize drawH h1 3 = h2 at d3
    rw [xs_cons]
    have hev := rng1_sat (F := callN T (n + 4)) (env := [x0, some (.ref 2), x2, x3, x4, some (.int ((ps.length : Int) + 1)), x6, x7, some (.ref (c + 3)), some (.int (ex : Int)), x10]) (e := .call 9 (.cons (.slot 1) (.cons (.cst (.int 3)) .nil))) (k := v) (S := hS h1 G2) (S' := hS h2 G2) (by simp only [e_call, es_cons, es_nil, e_slot, e_cst, List.getElem?_cons_succ, List.getElem?_cons_zero, R.bind_ok, d3]) (by omega) (by omega)
    refine satB_thn (N := fun e S => ∃ (x6 : Option D) (h : Hs) (G : Store) (exs : List (List Nat)), e = [x0, some (.ref 2), x2, x3, x4, some (.int ((ps.length : Int) + 1)), x6, x7, some (.ref (c + 3)), some (.int (ex : Int)), x10] ∧ S = hS h G ∧ GW G ∧ G[c]? = some (.lst ((ps ++ w :: exs).map strD)) ∧ exs.length ≤ 3 ∧ ∀ p ∈ exs, Pt p) ?_ ?_
    · refine for_rng v.toNat hev (le_sz (by omega)) (fun i e S => ∃ (x6 : Option D) (h : Hs) (G : Store) (exs : List (List Nat)), e = [x0, some (.ref 2), x2, x3, x4, some (.int ((ps.length : Int) + 1)), x6, x7, some (.ref (c + 3)), some (.int (ex : Int)), x10] ∧ S = hS h G ∧ GW G ∧ G[c]? = some (.lst ((ps ++ w :: exs).map strD)) ∧ exs.length ≤ i ∧ ∀ p ∈ exs, Pt p) ⟨_, _, _, [], rfl, rfl, g2, k2, by simp, by simp⟩ ?_ (fun e S ⟨y, h, G, exs, a1, a2, a3, a4, a5, a6⟩ => ⟨y, h, G, exs, a1, a2, a3, a4, by omega, a6⟩)
      rintro i env S hi ⟨y, h, G, exs, rfl, rfl, gw, gk, gl, gp⟩
      refine ⟨_, g_nm _ _, ?_⟩
      have cl : c < G.length := (List.getElem?_eq_some_iff.mp gk).1
      have z4 : (exS.map strD).length ≤ sizeLine := le_sz (by decide)
      have s4 : [D.str ("w" : Str), .str ("7" : Str), .str ("w^9" : Str), .str ("?" : Str)] = exS.map strD := by
        have a1 : ("7" : Str) = sx [55] := by decide +kernel
        have a2 : ("w^9" : Str) = sx [119, 94, 57] := by decide +kernel
        have a3 : ("?" : Str) = sx [63] := by decide +kernel
        rw [s119, a1, a2, a3]
        rfl
      have l4 : (exS.map strD).length = 4 := rfl
      obtain ⟨x, hx, ex1⟩ := some_eq (n := n + 2) hT.dr h (G ++ [.lst (exS.map strD)]) (c := G.length) (ds := exS.map strD) (by simp) (by rw [l4]; omega) (by rw [l4]; omega)
      obtain ⟨p, hpx, rfl⟩ := List.mem_map.1 hx
      generalize drawH h ((exS.map strD).length : Int) = h3 at ex1
      have gc : (G ++ [Cell.lst (exS.map strD)])[c]? = some (.lst ((ps ++ w :: exs).map strD)) := by rw [List.getElem?_append_left cl]; exact gk
      have zl2 : ((ps ++ w :: exs).map strD).length < sizeLine := by rw [List.length_map]; exact len_lt_sz (by simp; omega)
      have mp2 : (ps ++ w :: exs).map strD ++ [strD p] = (ps ++ w :: (exs ++ [p])).map strD := by simp
      refine satB_nx (e := [x0, some (.ref 2), x2, x3, x4, some (.int ((ps.length : Int) + 1)), some (.int (i : Int)), x7, some (.ref (c + 3)), some (.int (ex : Int)), x10]) (S := hS h3 ((G ++ [Cell.lst (exS.map strD)]).set c (Cell.lst ((ps ++ w :: (exs ++ [p])).map strD)))) ?_ ⟨_, h3, _, exs ++ [p], rfl, rfl, (gw.lst (lts_strD _ _)).set (by simp only [Cell.lt]; exact lts_strD _ _), by rw [List.getElem?_set_self (by simp; omega)], by simp; omega, fun z hz => ?_⟩
      · simp only [List.set_cons_succ, List.set_cons_zero, xs_cons, xs_nil, x_exp, e_mth, e_slot, List.getElem?_cons_succ, List.getElem?_cons_zero, R.bind_ok, rcv_app, hS_get, gk, if_true, es_cons, es_nil, e_call, e_lst, e_cst, s4, z4, newL_eq, hS_len, hS_app, ex1, m_app, gc, zl2, mp2, hS_set, R.out_ok, Out.thn_nx]
      · rcases List.mem_append.1 hz with hz | hz
        · exact gp z hz
        · simp at hz; subst hz; exact exS_pt _ hpx
    · rintro env S ⟨y, h, G, exs, rfl, rfl, gw, gk, gl, gp⟩
      have all : ∀ p ∈ ps ++ w :: exs, Pt p := fun p h => by
        rcases List.mem_append.1 h with h | h
        · exact (hp p h).1
        · rcases List.mem_cons.1 h with rfl | h
          · exact hw.1
          · exact gp p h
      have hne : ps ++ w :: exs ≠ [[48]] := fun e => q (by
        have hl := congrArg List.length e
        simp at hl
        have h1 : ps = [] := List.eq_nil_of_length_eq_zero (by omega)
        have h2 : exs = [] := List.eq_nil_of_length_eq_zero (by omega)
        subst h1 h2
        exact e)
      have jn := join_ok (c := c + 3) (L := ps ++ w :: exs) (S := hS h G) (by rw [hS_get]; exact gk) all (by simp; omega)
      obtain ⟨X, hX, rd⟩ := bad_text (n := n + 1) hT hf hp hw gp (by omega) hne (hS h G)
      have kp := kept_intH (n := n + 3) hT.h15 ((ps.length : Int) + 1) (hS h (G ++ X))
      have f1 : ∀ S, xF (callN T (n + 4)) ⟨16, [.int ((ps.length : Int) + 1)]⟩ xfId [] S = .ok (.int ((ps.length : Int) + 1)) S := fun S => xF_fld rfl
      refine satB_nx (e := [x0, some (.ref 2), x2, x3, none, some (.int ((ps.length : Int) + 1)), y, some (.str (sx (TL.joinL [43] (ps ++ w :: exs)))), some (.ref (c + 3)), some (.int (ex : Int)), x10]) (S := hS h (G ++ X)) ?_ ⟨_, _, _, _, _, _, _, h, G ++ X, rfl, rfl, gw_app gw hX⟩
      rw [xs_cons]
      simp only [x_asg, e_mth, e_cst, R.bind_ok, rcv_join, if_true, es_cons, es_nil, e_slot, List.getElem?_cons_succ, List.getElem?_cons_zero, jn, R.out_ok, g_nm, List.set_cons_succ, List.set_cons_zero, Out.thn_nx]
      have hb : exTs (callN T (n + 4)) (.cons (.exp (.call 101 (.cons (.slot 7) .nil))) (.cons (.ret (.cst (.bl false))) .nil)) [x0, some (.ref 2), x2, x3, x4, some (.int ((ps.length : Int) + 1)), y, some (.str (sx (TL.joinL [43] (ps ++ w :: exs)))), some (.ref (c + 3)), some (.int (ex : Int)), x10] (hS h G) = .ex ⟨16, [.int ((ps.length : Int) + 1)]⟩ [x0, some (.ref 2), x2, x3, x4, some (.int ((ps.length : Int) + 1)), y, some (.str (sx (TL.joinL [43] (ps ++ w :: exs)))), some (.ref (c + 3)), some (.int (ex : Int)), x10] (hS h G ++ X) := by
        simp only [xs_cons, x_exp, e_call, es_cons, es_nil, e_slot, List.getElem?_cons_succ, List.getElem?_cons_zero, R.bind_ok, rd, R.out_exc, Out.thn_ex]
      rw [xs_cons, x_tryX hb rfl]
      simp only [wipeO, List.set_cons_succ, List.set_cons_zero, xs_cons, xs_nil, x_iff, t_not, t_call, e_call, es_cons, es_nil, e_xf, e_slot, List.getElem?_cons_succ, List.getElem?_cons_zero, f1, R.bind_ok, xF_at (j := 100015) ⟨by decide, by decide⟩, kp, tru_b, R.map_ok, Bool.not_true, R.out_ok, Bool.false_eq_true, if_false, Out.thn_nx, Out.aftX, hS_app]
theorem run (hT : Fns T) (hL : T 22 = some d_law) (ns : List Int) : ∃ S', callN T (n + 5) 22 [.rol (ns.map .int)] [] = .ok (.bl true) S' := by
  have key : (exTs (callN T (n + 4)) d_law.body [some (.rol (ns.map .int)), none, none, none, none, none, none, none, none, none, none] []).sat (fun _ _ => False) (fun v S => v = .bl true) := by
    have hh := hand_spec (n := n + 3) hT.h16 ns
    rw [law_eq, xs_cons]
    simp only [x_asg (t := .nm 1), e_call, es_cons, es_nil, e_slot, List.getElem?_cons_zero, R.bind_ok, hh, R.out_ok, g_nm, List.set_cons_succ, List.set_cons_zero, Out.thn_nx]
    rw [xs_cons]
    refine sat_thn (N := fun e S => ∃ x2, e = [some (.rol (ns.map .int)), some (.ref 2), x2, none, none, none, none, none, none, none, none] ∧ S = hS (hand0 ns) G0) ?_ ?_
    · have z1 : 0 + 1 ≤ sizeLine := le_sz (by omega)
      have z5 : 0 + 1 + 1 + 1 + 1 + 1 + 1 ≤ sizeLine := le_sz (by omega)
      refine for_ls_sat (c := 5) (items := thingsD) (S' := hS (hand0 ns) G0) ?_ (le_sz (by simp [thingsD])) (fun i e S => ∃ x2, e = [some (.rol (ns.map .int)), some (.ref 2), x2, none, none, none, none, none, none, none, none] ∧ S = hS (hand0 ns) G0) (fun i e S ⟨_, _, h⟩ => by rw [h]; rfl) ⟨_, rfl, rfl⟩ ?_ (fun e S h => h)
      · simp only [i_any, e_lst, es_cons, es_nil, e_cst, e_tup, e_dnew, R.bind_ok, List.length_cons, List.length_nil, z1, z5, if_true, newL_eq, hS_len, hS_app, List.length_append, List.append_assoc, List.cons_append, List.nil_append]
        rfl
      · rintro i d e S hd ⟨x2, rfl, rfl⟩
        refine ⟨_, g_nm _ _, ?_⟩
        have hty : isTy d .str (hS (hand0 ns) G0) = some false := by
          match i, hd with
          | 0, hd => cases hd; rfl
          | 1, hd => cases hd; rfl
          | 2, hd => cases hd; rfl
          | 3, hd => cases hd; rfl
          | 4, hd => cases hd; rfl
          | 5, hd => cases hd; rfl
          | i + 6, hd => simp [thingsD] at hd
        have rd := read_ord_no (n := n + 3) hT.h101 hty
        have f1 : ∀ S, xF (callN T (n + 4)) ⟨16, [.int 0]⟩ xfId [] S = .ok (.int 0) S := fun S => xF_fld rfl
        have hb : exTs (callN T (n + 4)) (.cons (.exp (.call 101 (.cons (.slot 2) .nil))) (.cons (.ret (.cst (.bl false))) .nil)) [some (.rol (ns.map .int)), some (.ref 2), some d, none, none, none, none, none, none, none, none] (hS (hand0 ns) G0) = .ex ⟨16, [.int 0]⟩ [some (.rol (ns.map .int)), some (.ref 2), some d, none, none, none, none, none, none, none, none] (hS (hand0 ns) G0) := by
          simp only [xs_cons, x_exp, e_call, es_cons, es_nil, e_slot, List.getElem?_cons_succ, List.getElem?_cons_zero, R.bind_ok, rd, R.out_exc, Out.thn_ex]
        refine satB_nx (e := [some (.rol (ns.map .int)), some (.ref 2), some d, none, none, none, none, none, none, none, none]) (S := hS (hand0 ns) G0) ?_ ⟨_, rfl, rfl⟩
        simp only [List.set_cons_succ, List.set_cons_zero]
        rw [xs_cons, x_tryX hb rfl]
        simp only [wipeO, List.set_cons_succ, List.set_cons_zero, xs_cons, xs_nil, x_iff, t_cmp, e_xf, e_cst, List.getElem?_cons_succ, List.getElem?_cons_zero, f1, R.bind_ok, c_ne, opEq_int, decide_true, R.map_ok, Bool.not_true, R.out_ok, Bool.false_eq_true, if_false, Out.thn_nx, Out.aftX]
    · rintro e S ⟨x2, rfl, rfl⟩
      rw [xs_cons]
      refine sat_thn (N := fun e S => True) ?_ (fun e S _ => sat_rtI (d := .bl true) (S := S) (by simp) rfl)
      refine for_rng 30 (S' := hS (hand0 ns) G0) (rng1_sat (k := 30) (by simp) (by omega) (by omega)) (le_sz (by omega)) (fun i e S => ∃ (x3 x4 x5 x6 x7 x8 x9 x10 : Option D) (h : Hs) (G : Store), e = [some (.rol (ns.map .int)), some (.ref 2), x2, x3, x4, x5, x6, x7, x8, x9, x10] ∧ S = hS h G ∧ GW G) ⟨_, _, _, _, _, _, _, _, _, _, rfl, rfl, G0_gw⟩ ?_ (fun e S _ => trivial)
      rintro i env S hi ⟨x3, x4, x5, x6, x7, x8, x9, x10, h, G, rfl, rfl, gw⟩
      refine ⟨_, g_nm _ _, ?_⟩
      simp only [List.set_cons_succ, List.set_cons_zero]
      have d5 := draw_eq hT.dr.h9 (n := n + 3) h (G ++ [.lst []]) 5 (by decide) (by decide)
      generalize drawV h 5 = wh at d5
      generalize drawH h 5 = h1 at d5
      have z3 : 0 + 1 + 1 + 1 ≤ sizeLine := le_sz (by omega)
      rw [body_eq, xs_cons]
      simp only [x_asg, e_tup, es_cons, es_nil, e_lst, List.length_nil, Nat.zero_le, if_true, newL_eq, hS_len, hS_app, R.bind_ok, e_cst, e_call, e_slot, List.getElem?_cons_succ, List.getElem?_cons_zero, d5, List.length_cons, z3, R.out_ok, g_tp, items_tup, gs_cons, gs_nil, g_nm, List.set_cons_succ, List.set_cons_zero, Out.thn_nx]
      rw [xs_cons]
      refine satB_thn (N := fun e S => ∃ (ex : Nat) (ps : List (List Nat)) (qs : List (Nat × Nat)) (h : Hs) (G' : Store), Falls 16 ps qs ex ∧ 1 ≤ ex ∧ ex ≤ 16 ∧ ps.length + ex ≤ 16 ∧ (∀ p ∈ ps, Pt p ∧ 43 ∉ p) ∧ e = [some (.rol (ns.map .int)), some (.ref 2), x2, some (.int (i : Int)), x4, x5, x6, x7, some (.ref (G.length + 3)), some (.int (ex : Int)), some (.int wh)] ∧ S = hS h G' ∧ GW G' ∧ G'[G.length]? = some (.lst (ps.map strD))) ?_ ?_
      · refine whl_sat (fun m e S => ∃ (ex : Nat) (ps : List (List Nat)) (qs : List (Nat × Nat)) (h : Hs) (G' : Store), m = ex ∧ Falls 16 ps qs ex ∧ 1 ≤ ex ∧ ex ≤ 16 ∧ ps.length + ex ≤ 16 ∧ (∀ p ∈ ps, Pt p ∧ 43 ∉ p) ∧ e = [some (.rol (ns.map .int)), some (.ref 2), x2, some (.int (i : Int)), x4, x5, x6, x7, some (.ref (G.length + 3)), some (.int (ex : Int)), some (.int wh)] ∧ S = hS h G' ∧ GW G' ∧ G'[G.length]? = some (.lst (ps.map strD))) 16 (le_sz (by omega)) ⟨16, [], [], h1, G ++ [.lst []], rfl, .nil 16, by omega, by omega, by simp, by simp, rfl, rfl, gw.lst rfl, by simp⟩ ?_
        rintro m env S ⟨ex, ps, qs, h, G', rfl, hf, a1, a2, a3, a4, rfl, rfl, gw', gk⟩
        have len : evE (callN T (n + 4)) [some (.rol (ns.map .int)), some (.ref 2), x2, some (.int (i : Int)), x4, x5, x6, x7, some (.ref (G.length + 3)), some (.int (m : Int)), some (.int wh)] (.blt .len (.cons (.slot 8) .nil)) (hS h G') = .ok (.int (ps.length : Int)) (hS h G') := by
          simp only [e_blt, es_cons, es_nil, e_slot, List.getElem?_cons_succ, List.getElem?_cons_zero, R.bind_ok, f_lenr, items_ref, hS_get, gk, List.length_map]
        by_cases c1 : (ps.length : Int) < wh
        · by_cases c2 : (1 : Int) < (m : Int)
          · refine .inr ⟨hS h G', ?_, ?_⟩
            · simp only [t_and, t_cmp, len, R.bind_ok, e_slot, e_cst, List.getElem?_cons_succ, List.getElem?_cons_zero, c_lt, c1, decide_true, if_true, c_gt, c2]
            · obtain ⟨ex', p, q, h', G'', b1, b2, b3, b4, b5, b6, b7, b8⟩ := grow (n := n) hT h G' gw' gk hf (by omega) a2 a3 a4 (some (.rol (ns.map .int))) x2 (some (.int (i : Int))) x4 x5 x6 x7 (some (.int wh))
              refine satB_nx b8 ⟨ex', b1, ex', ps ++ [p], qs ++ [q], h', G'', rfl, b3, b2, by omega, by simp; omega, fun z hz => ?_, rfl, rfl, b6, b7⟩
              rcases List.mem_append.1 hz with hz | hz
              · exact a4 z hz
              · simp at hz; subst hz; exact ⟨b4, b5⟩
          · refine .inl ⟨hS h G', ?_, m, ps, qs, h, G', hf, a1, a2, a3, a4, rfl, rfl, gw', gk⟩
            simp only [t_and, t_cmp, len, R.bind_ok, e_slot, e_cst, List.getElem?_cons_succ, List.getElem?_cons_zero, c_lt, c1, decide_true, if_true, c_gt, c2, decide_false]
        · refine .inl ⟨hS h G', ?_, m, ps, qs, h, G', hf, a1, a2, a3, a4, rfl, rfl, gw', gk⟩
          simp only [t_and, t_cmp, len, R.bind_ok, e_slot, List.getElem?_cons_succ, List.getElem?_cons_zero, c_lt, c1, decide_false, Bool.false_eq_true, if_false]
      · rintro env S ⟨ex, ps, qs, h, G', hf, a1, a2, a3, a4, rfl, rfl, gw', gk⟩
        have := turn (n := n) hT h G' gw' gk hf a1 a2 (by omega) a4 (some (.rol (ns.map .int))) x2 (some (.int (i : Int))) x4 x5 x6 x7 (some (.int wh))
        refine satB_mono this ?_ (fun _ _ h => h.elim) (fun _ _ h => h.elim)
        rintro e S ⟨y4, y5, y6, y7, y8, y9, y10, h, G, r1, r2, r3⟩
        exact ⟨_, y4, y5, y6, y7, y8, y9, y10, h, G, r1, r2, r3⟩
  obtain ⟨v, S', e, rfl⟩ := sat_rt key
  exact ⟨_, call_rt hL rfl e⟩
end
theorem run_ok (ns : List Int) (_ : ns.length ≤ 63) : ∃ S', callN tb 40 22 [.rol (ns.map .int)] [] = .ok (.bl true) S' := run (n := 35) fns rfl ns
end PD.PS.K08r
end

section
set_option linter.all false
set_option pp.maxSteps 400
set_option pp.deepTerms false
set_option Elab.async false
set_option maxRecDepth 100000
theorem K08.run : ∀ ns : List Int, ns.length ≤ 63 → ∃ S', PD.callN K08.tb 40 22 [.rol (ns.map .int)] [] = .ok (.bl true) S' := fun ns h => PD.PS.K08r.run_ok ns h
open PySem PySem.W PyProof.Rows
set_option maxRecDepth 100000 in
set_option maxHeartbeats 0 in
theorem PySem.Challenge.cw_pastever_k08_wrong_texts_of_ordinals_holds : PySem.Challenge.rw_pastever_k08_wrong_texts_of_ordinals.Holds := by
  w_on; o_law; k_head; (case hw => w_witness2)
  k_fill
  refine PD.walk_law (l := PySem.Challenge.rw_pastever_k08_wrong_texts_of_ordinals) rfl rfl (fun w h Y => PySem.W.kIn_of Y) (40 + 2) ⟨rfl, by decide, by decide⟩ ?F
  case F =>
    intro w mg fa h KX G hmg
    refine' K08.all_mk K08.run KX G hmg ?h_figures_of ?h_read_part ?h_read_ordinal ?h__law_hand ?h__law_draw ?h__law_big ?h__law_some ?h__law_kept ?h__law_wrong ?h__law_part ?h_law ?c_MOST_NUMBERS ?c_MOST_DIGITS ?c_FIGURES ?z_len ?z_abs ?z_int ?z_str ?z_tuple ?z_list ?z_all ?z_any ?z_sum ?z_bool ?z_isinstance ?z_range ?z_enumerate ?z_zip ?z_max ?z_min ?z_sorted ?e_BadText ?s_BadText_BadText
    (case h_figures_of => (refine' PD.def_mk ?a ?l ?c ?k; (case a => k_is); (case l => k_is); (case c => k_is); (case k => k_is)))
    (case h_read_part => (refine' PD.def_mk ?a ?l ?c ?k; (case a => k_is); (case l => k_is); (case c => k_is); (case k => k_is)))
    (case h_read_ordinal => (refine' PD.def_mk ?a ?l ?c ?k; (case a => k_is); (case l => k_is); (case c => k_is); (case k => k_is)))
    (case h__law_hand => (refine' PD.def_mk ?a ?l ?c ?k; (case a => k_is); (case l => k_is); (case c => k_is); (case k => k_is)))
    (case h__law_draw => (refine' PD.def_mk ?a ?l ?c ?k; (case a => k_is); (case l => k_is); (case c => k_is); (case k => k_is)))
    (case h__law_big => (refine' PD.def_mk ?a ?l ?c ?k; (case a => k_is); (case l => k_is); (case c => k_is); (case k => k_is)))
    (case h__law_some => (refine' PD.def_mk ?a ?l ?c ?k; (case a => k_is); (case l => k_is); (case c => k_is); (case k => k_is)))
    (case h__law_kept => (refine' PD.def_mk ?a ?l ?c ?k; (case a => k_is); (case l => k_is); (case c => k_is); (case k => k_is)))
    (case h__law_wrong => (refine' PD.def_mk ?a ?l ?c ?k; (case a => k_is); (case l => k_is); (case c => k_is); (case k => k_is)))
    (case h__law_part => (refine' PD.def_mk ?a ?l ?c ?k; (case a => k_is); (case l => k_is); (case c => k_is); (case k => k_is)))
    (case h_law => (refine' PD.def_mk ?a ?l ?c ?k; (case a => k_is); (case l => k_is); (case c => k_is); (case k => k_is)))
    (case c_MOST_NUMBERS => (refine' PD.int_mk ?a; (case a => k_is)))
    (case c_MOST_DIGITS => (refine' PD.int_mk ?a; (case a => k_is)))
    (case c_FIGURES => (refine' PD.str_mk ?a; (case a => k_is)))
    (case z_len => k_is)
    (case z_abs => k_is)
    (case z_int => k_is)
    (case z_str => k_is)
    (case z_tuple => k_is)
    (case z_list => k_is)
    (case z_all => k_is)
    (case z_any => k_is)
    (case z_sum => k_is)
    (case z_bool => k_is)
    (case z_isinstance => k_is)
    (case z_range => k_is)
    (case z_enumerate => k_is)
    (case z_zip => k_is)
    (case z_max => k_is)
    (case z_min => k_is)
    (case z_sorted => k_is)
    (case e_BadText => (refine' PD.x1_mk ?a ?b ?l ?m ?s ?n ?i ?t ?g ?c ?k; (case a => k_is); (case b => (refine' PD.xc_mk ?q1 ?q2 ?q3 ?q4 ?q5 ?q6 ?q7 ?q8 ?q9 ?q0; (case q1 => k_is); (case q2 => k_is); (case q3 => k_is); (case q4 => k_is); (case q5 => k_is); (case q6 => k_is); (case q7 => k_is); (case q8 => k_is); (case q9 => k_is); (case q0 => k_is))); (case l => k_is); (case m => decide +kernel); (case s => k_is); (case n => k_is); (case i => k_is); (case t => k_is); (case g => k_is); (case c => k_is); (case k => k_is)))
    (case s_BadText_BadText => k_is)
end
