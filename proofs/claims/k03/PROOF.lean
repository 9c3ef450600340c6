import PyProof.Rows.All
import Wide.All
import OpenK.AllK
import Wide.FinOn
import HandS.ForMost
import KE.KSortTupAny
import HandS.IsInst
import HandS.Flow
import HandS.Style
import HandS.Zip
import HandS.ExcOwn
import HandS.Wide
import HandS.TupAny
import HandS.SortRule
import HandS.Defaults
import HandS.HeadHook2
import HandS.HeadEnd
import HandS.EndBits
import HandS.Words
import HandS.Head0
import HandS.Head1
import HandS.Head2
import KE.KStateDown
import PySem.Challenge.RW_shrinksanyhow_k03_whole_worth_and_what_r
set_option Elab.async false
set_option linter.all false
set_option maxRecDepth 100000
/-! EvA: a small deterministic language of values, a store, and what its expressions and statements do. -/
namespace Ev
open PySem

/-- a value: numbers, texts, tuples as trees; lists by their number in the store -/
inductive D where
  | non | bl (b : Bool) | int (i : Int) | str (z : Str) | tup (ds : List D) | ref (k : Nat)
  deriving Inhabited

mutual
def D.same : D → D → Bool
  | .non, .non => true
  | .bl a, .bl b => a == b
  | .int a, .int b => a == b
  | .str a, .str b => a == b
  | .tup a, .tup b => D.sames a b
  | .ref a, .ref b => a == b
  | _, _ => false
def D.sames : List D → List D → Bool
  | [], [] => true
  | a :: as, b :: bs => D.same a b && D.sames as bs
  | _, _ => false
end
mutual
theorem D.same_eq : ∀ {a b : D}, D.same a b = true → a = b
  | .non, b, h => by cases b <;> first | rfl | cases h
  | .bl a, b, h => by cases b <;> first | (simp only [D.same] at h; rw [eq_of_beq h]) | cases h
  | .int a, b, h => by cases b <;> first | (simp only [D.same] at h; rw [eq_of_beq h]) | cases h
  | .str a, b, h => by cases b <;> first | (simp only [D.same] at h; rw [eq_of_beq h]) | cases h
  | .tup a, b, h => by cases b <;> first | (simp only [D.same] at h; rw [D.sames_eq h]) | cases h
  | .ref a, b, h => by cases b <;> first | (simp only [D.same] at h; rw [eq_of_beq h]) | cases h
theorem D.sames_eq : ∀ {a b : List D}, D.sames a b = true → a = b
  | [], b, h => by cases b <;> first | rfl | cases h
  | a :: as, b, h => by
    cases b with
    | nil => cases h
    | cons c cs =>
      simp only [D.sames, Bool.and_eq_true] at h
      rw [D.same_eq h.1, D.sames_eq h.2]
end

/-- what lies in the store -/
inductive Ob where
  | lst (ds : List D)
  | frz (ds : List D)
  deriving Inhabited

abbrev Store := List Ob
inductive R (α : Type) where
  | ok (a : α) (S : Store)
  | exc (c : Str) (v : D) (S : Store)
  | bad
def M (α : Type) : Type := Store → R α
namespace M
variable {α β : Type}
def ret (a : α) : M α := fun S => .ok a S
def bad : M α := fun _ => .bad
def bind (m : M α) (f : α → M β) : M β := fun S => match m S with
  | .ok a S' => f a S'
  | .exc c v S' => .exc c v S'
  | .bad => .bad
def raise (c : Str) (v : D) : M α := fun S => .exc c v S
def get : M Store := fun S => .ok S S
def put (S : Store) : M Unit := fun _ => .ok () S
/-- only if it holds -/
def need (b : Bool) (m : M α) : M α := fun S => if b = true then m S else .bad
def opt (o : Option α) : M α := fun S => match o with | some a => .ok a S | none => .bad
/-- a new object -/
def new (o : Ob) : M D := fun S => .ok (.ref S.length) (S ++ [o])
/-- what raises is bad -/
def calm (m : M α) : M α := fun S => match m S with
  | .ok a S' => .ok a S'
  | _ => .bad
end M
instance : Monad M := { pure := M.ret, bind := M.bind }
theorem M.bind_assoc {α β γ : Type} (m : M α) (f : α → M β) (g : β → M γ) : M.bind (M.bind m f) g = M.bind m fun a => M.bind (f a) g := by
  funext S
  unfold M.bind
  cases m S <;> rfl
theorem M.bind_ok {α β : Type} {m : M α} {f : α → M β} {S S' : Store} {b : β} (h : M.bind m f S = .ok b S') : ∃ a S1, m S = .ok a S1 ∧ f a S1 = .ok b S' := by
  unfold M.bind at h
  cases e : m S with
  | ok a S1 => rw [e] at h; exact ⟨a, S1, rfl, h⟩
  | exc c v S1 => rw [e] at h; cases h
  | bad => rw [e] at h; cases h
theorem M.ret_bind {α β : Type} (a : α) (f : α → M β) : M.bind (M.ret a) f = f a := rfl
theorem M.bind_ret {α : Type} (m : M α) : M.bind m M.ret = m := by
  funext S
  unfold M.bind
  cases m S <;> rfl

abbrev Env := List (Option D)

/-- the largest length -/
def line : Nat := 16777216

def seqOf (S : Store) : D → Option (List D)
  | .tup ds => some ds
  | .ref k => match S[k]? with
    | some (.lst ds) => some ds
    | some (.frz ds) => some ds
    | none => none
  | _ => none
def seqM (d : D) : M (List D) := fun S => match seqOf S d with | some ds => .ok ds S | none => .bad

mutual
def D.toP : D → Option PyData
  | .non => some .none
  | .bl b => some (.bool b)
  | .int i => some (.int i)
  | .str z => some (.str z)
  | .tup ds => (D.toPs ds).map .tuple
  | .ref _ => none
def D.toPs : List D → Option (List PyData)
  | [] => some []
  | d :: ds => match D.toP d, D.toPs ds with
    | some p, some ps => some (p :: ps)
    | _, _ => none
end
def topP (S : Store) : D → Option PyData
  | .ref k => match S[k]? with
    | some (.lst ds) => (D.toPs ds).map .list
    | some (.frz ds) => (D.toPs ds).map .list
    | none => none
  | d => d.toP
/-- a == b -/
def eqD (a b : D) : M Bool := fun S => match a, b with
  | .int i, .int j => .ok (i == j) S
  | .str x, .str y => .ok (x == y) S
  | .bl x, .bl y => .ok (x == y) S
  | a, b => match topP S a, topP S b with
    | some p, some q => if SeqAt.shaped p && SeqAt.shaped q then .ok (PyData.eqv p q) S else .bad
    | _, _ => .bad

def truthD (d : D) : M Bool := fun S => match d with
  | .non => .ok false S
  | .bl b => .ok b S
  | .int i => .ok (i != 0) S
  | .str z => if z.length ≤ line then .ok (z.length != 0) S else .bad
  | .tup ds => .ok (!ds.isEmpty) S
  | .ref k => match S[k]? with
    | some (.lst ds) => .ok (!ds.isEmpty) S
    | some (.frz ds) => .ok (!ds.isEmpty) S
    | none => .bad

/-- both factors together below a hundred million bits -/
def mulOk (i j : Int) : Bool := decide (i.natAbs.log2 + j.natAbs.log2 < 100000000)
inductive BOp where
  | add | sub | mul | fdiv | mod | pow
  deriving DecidableEq
def binD (o : BOp) (a b : D) : M D := fun S => match o, a, b with
  | .add, .int i, .int j => .ok (.int (i + j)) S
  | .add, .str x, .str y => if x.length + y.length ≤ line then .ok (.str (x ++ y)) S else .bad
  | .add, .tup xs, .tup ys => if xs.length + ys.length ≤ line then .ok (.tup (xs ++ ys)) S else .bad
  | .add, .ref k, .ref l => match S[k]?, S[l]? with
    | some (.lst xs), some (.lst ys) => if xs.length + ys.length ≤ line then M.new (.lst (xs ++ ys)) S else .bad
    | _, _ => .bad
  | .sub, .int i, .int j => .ok (.int (i - j)) S
  | .mul, .int i, .int j => if mulOk i j = true then .ok (.int (i * j)) S else .bad
  | .mul, .ref k, .int j => match S[k]? with
    | some (.lst xs) => if -(2 ^ 63) ≤ j ∧ j < 2 ^ 63 ∧ xs.length * j.toNat ≤ line then M.new (.lst (List.replicate j.toNat xs).flatten) S else .bad
    | _ => .bad
  | .fdiv, .int i, .int j => if j = 0 then .bad else .ok (.int (i.fdiv j)) S
  | .mod, .int i, .int j => if j = 0 then .bad else .ok (.int (i.fmod j)) S
  | .pow, .int i, .int j => if 0 ≤ j ∧ j ≤ 1000000 ∧ i.natAbs < 2 ^ 64 then .ok (.int (i ^ j.toNat)) S else .bad
  | _, _, _ => .bad

/-- a op= b: numbers and texts -/
def augD (o : BOp) (a b : D) : M D := match a, b with
  | .int i, .int j => binD o (.int i) (.int j)
  | .str x, .str y => binD o (.str x) (.str y)
  | _, _ => M.bad

inductive COp where
  | eq | ne | lt | le | gt | ge | is_ | isnot | in_ | notin
  deriving DecidableEq
def D.flat : D → Bool
  | .non | .bl _ | .int _ | .str _ => true
  | _ => false
def flatEq : D → D → Bool
  | .non, .non => true
  | .bl a, .bl b => a == b
  | .bl a, .int b => (if a then 1 else 0) == b
  | .int a, .bl b => a == (if b then 1 else 0)
  | .int a, .int b => a == b
  | .str a, .str b => a == b
  | _, _ => false
def isD (a b : D) : Option Bool := match a, b with
  | .non, .non => some true
  | _, .non => some false
  | .bl x, .bl y => some (x == y)
  | _, _ => none
def inD (a b : D) : M Bool := fun S => match b with
  | .str y => match a with
    | .str x => .ok (!(Builtin.Str.occurrences y x 0 y.length 1).isEmpty) S
    | _ => .bad
  | b => match seqOf S b with
    | some ds => if a.flat && ds.all D.flat then .ok (ds.any fun y => flatEq y a) S else .bad
    | none => .bad
def cmpD (o : COp) (a b : D) : M Bool := match o with
  | .eq => eqD a b
  | .ne => do let r ← eqD a b; pure (!r)
  | .is_ => M.opt (isD a b)
  | .isnot => M.opt ((isD a b).map (!·))
  | .in_ => inD a b
  | .notin => do let r ← inD a b; pure (!r)
  | .lt => fun S => match a, b with
    | .int i, .int j => .ok (decide (i < j)) S
    | .str i, .str j => .ok (decide (i.cps.toList < j.cps.toList)) S
    | _, _ => .bad
  | .le => fun S => match a, b with
    | .int i, .int j => .ok (decide (i ≤ j)) S
    | _, _ => .bad
  | .gt => fun S => match a, b with
    | .int i, .int j => .ok (decide (j < i)) S
    | _, _ => .bad
  | .ge => fun S => match a, b with
    | .int i, .int j => .ok (decide (j ≤ i)) S
    | _, _ => .bad

/-- place i of n -/
def ixD (n : Nat) (i : Int) : Option Nat := L2.ixN n i
def idxD (a i : D) : M D := fun S => match a, i with
  | .str z, .int i => if z.length ≤ line then (match (ixD z.cps.toList.length i).bind fun j => z.cps.toList[j]? with | some c => .ok (.str ⟨#[c]⟩) S | none => .bad) else .bad
  | a, .int i => match seqOf S a with
    | some ds => match (ixD ds.length i).bind fun j => ds[j]? with
      | some d => .ok d S
      | none => .bad
    | none => .bad
  | _, _ => .bad
def cutD {α : Type} (xs : List α) (lo hi : Option Int) : List α := (xs.drop (HT.sIx xs.length 0 lo)).take (HT.sIx xs.length xs.length hi - HT.sIx xs.length 0 lo)
def boundD : Option D → Option (Option Int)
  | none => some none
  | some (.int i) => some (some i)
  | _ => none
def sliceD (a : D) (lo hi : Option Int) : M D := fun S => match a with
  | .tup ds => .ok (.tup (cutD ds lo hi)) S
  | .ref k => match S[k]? with
    | some (.lst ds) => M.new (.lst (cutD ds lo hi)) S
    | some (.frz ds) => M.new (.lst (cutD ds lo hi)) S
    | none => .bad
  | .str z => if z.length ≤ line then .ok (.str ⟨(cutD z.cps.toList lo hi).toArray⟩) S else .bad
  | _ => .bad
def tupD (ds : List D) : M D := fun S => if ds.length ≤ line then .ok (.tup ds) S else .bad
def lstD (ds : List D) : M D := fun S => if ds.length ≤ line then M.new (.lst ds) S else .bad
/-- a[i] = d -/
def setD (a i d : D) : M Unit := fun S => match a, i with
  | .ref k, .int i => match S[k]? with
    | some (.lst ds) => match ixD ds.length i with
      | some j => .ok () (S.set k (.lst (ds.set j d)))
      | none => .bad
    | _ => .bad
  | _, _ => .bad

/-- kinds for isinstance -/
inductive Ty where
  | int | str | tuple | list | bool
  deriving DecidableEq
def kindD (S : Store) : D → Option Ty
  | .bl _ => some .bool
  | .int _ => some .int
  | .str _ => some .str
  | .tup _ => some .tuple
  | .ref k => match S[k]? with
    | some _ => some .list
    | none => none
  | .non => none
def Ty.below : Ty → Ty → Bool
  | .bool, .int => true
  | a, b => decide (a = b)
def isinstD (ts : List Ty) (d : D) : M Bool := fun S => match d with
  | .non => .ok false S
  | d => match kindD S d with
    | some k => .ok (ts.any fun t => k.below t) S
    | none => .bad

/-- the built-ins -/
inductive Bi where
  | len | abs | int | all | any | sum | tuple | list | min2 | max2 | sorted
  deriving DecidableEq
/-- an item's key for an order; a value's -/
def itemK : D → Option (Int ⊕ List Nat)
  | .int i => some (.inl i)
  | .str z => some (.inr z.cps.toList)
  | _ => none
def keyD : D → List (Int ⊕ List Nat)
  | .tup ds => ds.filterMap itemK
  | d => (itemK d).toList
/-- a is not above b -/
def leD (a b : D) : Prop := PyProof.Rows.lexLt PyProof.Rows.itemOrd (keyD b) (keyD a) = false
/-- numbers and texts as the places say -/
def fitsD (shape : Nat → Bool) : Nat → List D → Bool
  | _, [] => true
  | i, .int _ :: r => !shape i && fitsD shape (i + 1) r
  | i, .str _ :: r => shape i && fitsD shape (i + 1) r
  | _, _ :: _ => false
/-- lists that may be sorted: tuples alike, or fewer than two things -/
def Sortable (xs : List D) : Prop := xs.length < 2 ∨ ∃ shape : Nat → Bool, ∀ x ∈ xs, ∃ ds, x = .tup ds ∧ ds ≠ [] ∧ fitsD shape 0 ds = true
open Classical in
noncomputable def sortedD (xs : List D) : Option (List D) := if h : Sortable xs ∧ ∃ ys : List D, ys.Perm xs ∧ (xs.length < 2 ∨ ys.Pairwise leD) then some h.2.choose else none
def boolsD : List D → Option (List Bool)
  | [] => some []
  | .bl b :: r => (boolsD r).map (b :: ·)
  | _ => none
def intsD : List D → Option (List Int)
  | [] => some []
  | .int i :: r => (intsD r).map (i :: ·)
  | _ => none
/-- the items of a list (no tuple) -/
def listOf (S : Store) : D → Option (List D)
  | .ref k => match S[k]? with
    | some (.lst ds) => some ds
    | some (.frz ds) => some ds
    | none => none
  | _ => none
noncomputable def biD (b : Bi) (ds : List D) : M D := fun S => match b, ds with
  | .len, [.str z] => if z.length ≤ line then .ok (.int z.length) S else .bad
  | .len, [d] => match seqOf S d with | some xs => .ok (.int xs.length) S | none => .bad
  | .abs, [.int i] => .ok (.int i.natAbs) S
  | .int, [.int i] => .ok (.int i) S
  | .int, [.bl b] => .ok (.int (if b then 1 else 0)) S
  | .all, [d] => match (listOf S d).bind boolsD with | some bs => .ok (.bl (bs.all id)) S | none => .bad
  | .any, [d] => match (listOf S d).bind boolsD with | some bs => .ok (.bl (bs.any id)) S | none => .bad
  | .sum, [d] => match (listOf S d).bind intsD with | some is => .ok (.int is.sum) S | none => .bad
  | .tuple, [d] => match seqOf S d with | some xs => .ok (.tup xs) S | none => .bad
  | .list, [d] => match seqOf S d with | some xs => M.new (.lst xs) S | none => .bad
  | .min2, [.int i, .int j] => .ok (.int (if j < i then j else i)) S
  | .max2, [.int i, .int j] => .ok (.int (if j > i then j else i)) S
  | .sorted, [d] => match (listOf S d).bind sortedD with | some xs => M.new (.lst xs) S | none => .bad
  | _, _ => .bad

/-- a thing of the store -/
def refD (d : D) : M D := fun S => match d with
  | .ref k => match S[k]? with
    | some _ => .ok (.ref k) S
    | none => .bad
  | _ => .bad
/-- the methods of lists -/
inductive Me where
  | append | extend | pop
  deriving DecidableEq
def meD (m : Me) (o : D) (ds : List D) : M D := fun S => match m, o, ds with
  | .append, .ref k, [d] => match S[k]? with
    | some (.lst xs) => if xs.length < line then .ok .non (S.set k (.lst (xs ++ [d]))) else .bad
    | _ => .bad
  | .extend, .ref k, [.ref l] => match S[k]?, S[l]? with
    | some (.lst xs), some (.lst ys) => if xs.length + ys.length ≤ line then .ok .non (S.set k (.lst (xs ++ ys))) else .bad
    | _, _ => .bad
  | .pop, .ref k, [] => match S[k]? with
    | some (.lst xs) => match xs[xs.length - 1]? with
      | some d => .ok d (S.set k (.lst xs.dropLast))
      | none => .bad
    | _ => .bad
  | _, _, _ => .bad

/-- where a loop's items come from -/
inductive Src where
  | seq | range | enum | zip
  deriving DecidableEq
/-- the items, and the lists that must stay -/
structure Its where
  items : List D
  keep : List Nat
def keepOf : D → List Nat
  | .ref k => [k]
  | _ => []
def enumD : Nat → List D → List D
  | _, [] => []
  | i, d :: r => .tup [.int (i : Nat), d] :: enumD (i + 1) r
def zipD : List D → List D → List D
  | x :: xs, y :: ys => .tup [x, y] :: zipD xs ys
  | _, _ => []
def rangeD (lo : Int) : Nat → List D
  | 0 => []
  | n + 1 => .int lo :: rangeD (lo + 1) n
noncomputable def srcD (k : Src) (ds : List D) : M Its := fun S => match k, ds with
  | .seq, [d] => match seqOf S d with | some xs => .ok ⟨xs, keepOf d⟩ S | none => .bad
  | .range, [.int n] => @ite _ (-(2 ^ 62) ≤ n ∧ n < 2 ^ 62) (Classical.propDecidable _) (.ok ⟨rangeD 0 n.toNat, []⟩ S) .bad
  | .range, [.int m, .int n] => @ite _ (-(2 ^ 62) ≤ m ∧ m < 2 ^ 62 ∧ -(2 ^ 62) ≤ n ∧ n < 2 ^ 62) (Classical.propDecidable _) (.ok ⟨rangeD m (n - m).toNat, []⟩ S) .bad
  | .enum, [d] => match listOf S d with | some xs => .ok ⟨enumD 0 xs, keepOf d⟩ S | none => .bad
  | .zip, [.tup xs, .tup ys] => .ok ⟨zipD xs ys, []⟩ S
  | .zip, [.ref k, .ref l] => match listOf S (.ref k), listOf S (.ref l) with
    | some xs, some ys => .ok ⟨zipD xs ys, [k, l]⟩ S
    | _, _ => .bad
  | _, _ => .bad
/-- the lists of the source stand as they stood -/
def kept (S0 S : Store) (ks : List Nat) : Prop := ∀ k ∈ ks, S[k]? = S0[k]?

/-- targets -/
inductive Tg where
  | name (i : Nat)
  | tup (ts : List Nat)
  | two (i : Nat) (ts : List Nat)
  deriving DecidableEq
def setAll : List Nat → List D → Env → Option Env
  | [], [], δ => some δ
  | i :: is, d :: ds, δ => setAll is ds (δ.set i (some d))
  | _, _, _ => none
def asgD (t : Tg) (d : D) (δ : Env) : Option Env := match t with
  | .name i => some (δ.set i (some d))
  | .tup is => match d with
    | .tup ds => setAll is ds δ
    | _ => none
  | .two i is => match d with
    | .tup [a, .tup ds] => setAll is ds (δ.set i (some a))
    | _ => none

mutual
inductive IE where
  | var (i : Nat)
  | con (d : D)
  | glob (x : Str) (d : D)
  | bin (o : BOp) (a b : IE)
  | neg (a : IE)
  | not (a : IE)
  | cmp (o : COp) (a b : IE)
  | chain (o p : COp) (a b c : IE)
  | and (a b : IE)
  | or (a b : IE)
  | ite (c a b : IE)
  | tup (es : IEs)
  | lst (es : IEs)
  | idx (a i : IE)
  | slice (a : IE) (lo hi : IO)
  | call (f : Nat) (es : IEs)
  | bi (b : Bi) (es : IEs)
  | isinst (a : IE) (ts : List Ty)
  | meth (m : Me) (o : IE) (es : IEs)
  | comp (own : List (Str × Nat)) (t : Tg) (k : Src) (src : IEs) (c : IO) (e : IE)
  | comp2 (own : List (Str × Nat)) (t : Tg) (k : Src) (src : IEs) (c : IO) (own2 : List Nat) (t2 : Tg) (k2 : Src) (src2 : IEs) (c2 : IO) (e : IE)
inductive IEs where
  | nil
  | cons (e : IE) (es : IEs)
inductive IO where
  | none
  | some (e : IE)
end

def wipeD (δ : Env) : List Nat → Env
  | [] => δ
  | v :: vs => (wipeD δ vs).set v none


open Classical in
/-- only if the lists of the source stand as they stood -/
noncomputable def stayD {α : Type} (S0 : Store) (ks : List Nat) (m : M α) : M α := fun S => if kept S0 S ks then m S else .bad
/-- the items one by one: each gives some things -/
noncomputable def eachD {α : Type} (S0 : Store) (ks : List Nat) (f : D → M (List α)) : List D → M (List α)
  | [] => stayD S0 ks (pure [])
  | d :: ds => stayD S0 ks (do
    let xs ← f d
    let ys ← eachD S0 ks f ds
    pure (xs ++ ys))
def envM (o : Option Env) : M Env := M.opt o
def varD (δ : Env) (i : Nat) : M D := fun S => match δ[i]? with
  | some (some d) => .ok d S
  | _ => .bad
def negD (d : D) : M D := fun S => match d with
  | .int i => .ok (.int (-i)) S
  | _ => .bad
def condD (b : Bool) (x y : M α) : M α := if b = true then x else y

abbrev Calls := Nat → List D → M D
mutual
noncomputable def denE (C : Calls) : IE → Env → M D
  | .var i, δ => varD δ i
  | .con d, _ => M.ret d
  | .glob _ d, _ => M.ret d
  | .bin o a b, δ => do
    let x ← denE C a δ
    let y ← denE C b δ
    binD o x y
  | .neg a, δ => do
    let x ← denE C a δ
    negD x
  | .not a, δ => do
    let x ← denE C a δ
    let b ← truthD x
    pure (.bl (!b))
  | .cmp o a b, δ => do
    let x ← denE C a δ
    let y ← denE C b δ
    let r ← cmpD o x y
    pure (.bl r)
  | .chain o p a b c, δ => do
    let x ← denE C a δ
    let y ← denE C b δ
    let r ← cmpD o x y
    condD r (do
      let z ← denE C c δ
      let t ← cmpD p y z
      pure (.bl t)) (pure (.bl false))
  | .and a b, δ => do
    let x ← denE C a δ
    let k ← truthD x
    condD k (denE C b δ) (pure x)
  | .or a b, δ => do
    let x ← denE C a δ
    let k ← truthD x
    condD k (pure x) (denE C b δ)
  | .ite c a b, δ => do
    let x ← denE C c δ
    let k ← truthD x
    condD k (denE C a δ) (denE C b δ)
  | .tup es, δ => do
    let ds ← denEs C es δ
    tupD ds
  | .lst es, δ => do
    let ds ← denEs C es δ
    lstD ds
  | .idx a i, δ => do
    let x ← denE C a δ
    let y ← denE C i δ
    idxD x y
  | .slice a lo hi, δ => do
    let x ← denE C a δ
    let l ← denO C lo δ
    let h ← denO C hi δ
    sliceD x l h
  | .call f es, δ => do
    let ds ← denEs C es δ
    C f ds
  | .bi b es, δ => do
    let ds ← denEs C es δ
    biD b ds
  | .isinst a ts, δ => do
    let x ← denE C a δ
    let b ← isinstD ts x
    pure (.bl b)
  | .meth m o es, δ => do
    let x ← denE C o δ
    let y ← refD x
    let ds ← denEs C es δ
    meD m y ds
  | .comp own t k src c e, δ => do
    let ss ← denEs C src δ
    let its ← srcD k ss
    let S0 ← M.get
    let ds ← M.calm (eachD S0 its.keep (fun d => do
      let δ1 ← envM (asgD t d (wipeD δ (own.map (·.2))))
      let k ← denC C c δ1
      condD k (do
        let y ← denE C e δ1
        pure [y]) (pure [])) its.items)
    lstD ds
  | .comp2 own t k src c own2 t2 k2 src2 c2 e, δ => do
    let ss ← denEs C src δ
    let its ← srcD k ss
    let S0 ← M.get
    let ds ← M.calm (eachD S0 its.keep (fun d => do
      let δ1 ← envM (asgD t d (wipeD δ (own.map (·.2))))
      let k ← denC C c δ1
      condD k (do
        let ss2 ← denEs C src2 δ1
        let its2 ← srcD k2 ss2
        let S2 ← M.get
        eachD S2 its2.keep (fun d2 => do
          let δ2 ← envM (asgD t2 d2 (wipeD δ1 own2))
          let k ← denC C c2 δ2
          condD k (do
            let y ← denE C e δ2
            pure [y]) (pure [])) its2.items) (pure [])) its.items)
    lstD ds
noncomputable def denEs (C : Calls) : IEs → Env → M (List D)
  | .nil, _ => pure []
  | .cons e es, δ => do
    let d ← denE C e δ
    let ds ← denEs C es δ
    pure (d :: ds)
noncomputable def denO (C : Calls) : IO → Env → M (Option Int)
  | .none, _ => pure none
  | .some e, δ => do
    let d ← denE C e δ
    match d with
    | .int i => pure (some i)
    | _ => M.bad
noncomputable def denC (C : Calls) : IO → Env → M Bool
  | .none, _ => pure true
  | .some e, δ => do
    let d ← denE C e δ
    truthD d
end

/-! ### statements -/
mutual
inductive IS where
  | asg (t : Tg) (e : IE)
  | par (ts : List Nat) (es : IEs)
  | setix (o i e : IE)
  | aug (i : Nat) (o : BOp) (e : IE)
  | augix (a i : IE) (o : BOp) (e : IE)
  | expr (e : IE)
  | ret (e : IE)
  | retn
  | ite (c : IE) (a b : ISs)
  | for_ (t : Tg) (k : Src) (src : IEs) (body : ISs)
  | while_ (c : IE) (body : ISs)
  | brk
  | cont
  | pass
inductive ISs where
  | nil
  | cons (s : IS) (r : ISs)
end
inductive Fl where
  | next | brk | cont | ret (d : D) | exc (c : Str) (v : D)
/-- a value for a statement: what it raises is a way out -/
def valsS (m : M α) (δ : Env) (f : α → M (Fl × Env)) : M (Fl × Env) := fun S => match m S with
  | .ok d S' => f d S'
  | .exc c v S' => .ok (.exc c v, δ) S'
  | .bad => .bad
def nextD (δ : Env) : M (Fl × Env) := M.ret (.next, δ)
/-- behind a block: go on, or leave -/
def thenS (m : M (Fl × Env)) (f : Env → M (Fl × Env)) : M (Fl × Env) := fun S => match m S with
  | .ok (.next, δ) S' => f δ S'
  | .ok (fl, δ) S' => .ok (fl, δ) S'
  | .exc c v S' => .bad
  | .bad => .bad
/-- behind a loop's turn -/
def turnS (m : M (Fl × Env)) (f : Env → M (Fl × Env)) : M (Fl × Env) := fun S => match m S with
  | .ok (.next, δ) S' => f δ S'
  | .ok (.cont, δ) S' => f δ S'
  | .ok (.brk, δ) S' => .ok (.next, δ) S'
  | .ok (fl, δ) S' => .ok (fl, δ) S'
  | .exc c v S' => .bad
  | .bad => .bad
noncomputable def forD (S0 : Store) (ks : List Nat) (t : Tg) (body : Env → M (Fl × Env)) : List D → Env → M (Fl × Env)
  | [], δ => stayD S0 ks (nextD δ)
  | d :: ds, δ => stayD S0 ks (match asgD t d δ with
    | some δ1 => turnS (body δ1) (forD S0 ks t body ds)
    | none => M.bad)
/-- so many turns at most: none if they are not enough -/
noncomputable def whileN (c : Env → M Bool) (body : Env → M (Fl × Env)) : Nat → Env → Store → Option (R (Fl × Env))
  | 0, _, _ => none
  | n + 1, δ, S => match c δ S with
    | .ok false S1 => some (.ok (.next, δ) S1)
    | .ok true S1 => match body δ S1 with
      | .ok (.next, δ1) S2 => whileN c body n δ1 S2
      | .ok (.cont, δ1) S2 => whileN c body n δ1 S2
      | .ok (.brk, δ1) S2 => some (.ok (.next, δ1) S2)
      | .ok (fl, δ1) S2 => some (.ok (fl, δ1) S2)
      | _ => some .bad
    | .exc x v S1 => some (.ok (.exc x v, δ) S1)
    | .bad => some .bad
open Classical in
noncomputable def whileD (c : Env → M Bool) (body : Env → M (Fl × Env)) (δ : Env) : M (Fl × Env) := fun S =>
  if h : ∃ n r, whileN c body n δ S = some r then h.choose_spec.choose else .bad
mutual
noncomputable def denS (C : Calls) : IS → Env → M (Fl × Env)
  | .asg t e, δ => valsS (denE C e δ) δ fun d => match asgD t d δ with
    | some δ1 => nextD δ1
    | none => M.bad
  | .par ts es, δ => valsS (denEs C es δ) δ fun ds => match setAll ts ds δ with
    | some δ1 => nextD δ1
    | none => M.bad
  | .setix o i e, δ => valsS (do
      let d ← denE C e δ
      let x ← denE C o δ
      let y ← denE C i δ
      setD x y d) δ fun _ => nextD δ
  | .aug i o e, δ => valsS (do
      let x ← varD δ i
      let y ← denE C e δ
      augD o x y) δ fun d => nextD (δ.set i (some d))
  | .augix a i o e, δ => valsS (do
      let x0 ← denE C a δ
      let x ← refD x0
      let y ← denE C i δ
      let old ← idxD x y
      let z ← denE C e δ
      let d ← augD o old z
      setD x y d) δ fun _ => nextD δ
  | .expr e, δ => valsS (denE C e δ) δ fun _ => nextD δ
  | .ret e, δ => valsS (denE C e δ) δ fun d => M.ret (.ret d, δ)
  | .retn, δ => M.ret (.ret .non, δ)
  | .ite c a b, δ => valsS (do
      let d ← denE C c δ
      truthD d) δ fun k => condD k (denSs C a δ) (denSs C b δ)
  | .for_ t k src body, δ => valsS (do
      let ss ← denEs C src δ
      let its ← srcD k ss
      let S0 ← M.get
      pure (its, S0)) δ fun p => forD p.2 p.1.keep t (denSs C body) p.1.items δ
  | .while_ c body, δ => whileD (fun δ => do
      let d ← denE C c δ
      truthD d) (denSs C body) δ
  | .brk, δ => M.ret (.brk, δ)
  | .cont, δ => M.ret (.cont, δ)
  | .pass, δ => nextD δ
noncomputable def denSs (C : Calls) : ISs → Env → M (Fl × Env)
  | .nil, δ => nextD δ
  | .cons s r, δ => thenS (denS C s δ) (denSs C r)
end
/-- a def -/
structure Fn where
  name : Str
  params : List Str
  slots : List Str
  dflt : List D
  body : ISs
def fillD (fn : Fn) (ds : List D) : Option (List D) :=
  if ds.length ≤ fn.params.length ∧ fn.params.length ≤ ds.length + fn.dflt.length then some (ds ++ fn.dflt.drop (ds.length + fn.dflt.length - fn.params.length)) else none
def startD (fn : Fn) (ds : List D) : Env := ds.map some ++ List.replicate (fn.slots.length - ds.length) none
/-- a body's end -/
def endD (m : M (Fl × Env)) : M D := fun S => match m S with
  | .ok (.next, _) S' => .ok .non S'
  | .ok (.ret d, _) S' => .ok d S'
  | .ok (.exc c v, _) S' => .exc c v S'
  | _ => .bad
noncomputable def run (P : List Fn) : Nat → Calls
  | 0 => fun _ _ => M.bad
  | n + 1 => fun f ds => match P[f]? with
    | some fn => match fillD fn ds with
      | some ds => endD (denSs (run P n) fn.body (startD fn ds))
      | none => M.bad
    | none => M.bad
end Ev

set_option Elab.async false
set_option linter.all false
set_option maxRecDepth 100000
set_option maxHeartbeats 1000000
set_option autoImplicit false
/-! EvB: how values and the store lie in the abstract heap. -/
namespace Ev
open PySem PySem.Spec PyProof.Rows L2

/-- a tuple that never changes -/
def TupAt (K : PySem.W.Frag) (H : Hp) (a : Addr) (vs : List V) : Prop :=
  H a = some (.tup vs) ∨ ∃ (o : Obj) (its : Array Value) (n : Nat), K.lookup a = some o ∧ o.cls = .type "tuple" ∧ o.data = .seq its n ∧ its.size ≤ sizeLine ∧ Vals vs its.toList
theorem TupAt.sq {K : PySem.W.Frag} {H : Hp} {a : Addr} {vs : List V} (h : TupAt K H a vs) : SqT K H a vs := by
  rcases h with h | h
  · exact .inl (.inl h)
  · exact .inr h
/-- a list that is only read -/
def FrzAt (K : PySem.W.Frag) (H : Hp) (a : Addr) (vs : List V) : Prop :=
  (∃ o, H a = some (.frz o (.lst vs))) ∨ ∃ (o : Obj) (its : Array Value) (n : Nat), K.lookup a = some o ∧ o.cls = .type "list" ∧ o.dict = none ∧ o.data = .seq its n ∧ its.size ≤ sizeLine ∧ Vals vs its.toList
theorem FrzAt.sq {K : PySem.W.Frag} {H : Hp} {a : Addr} {vs : List V} (h : FrzAt K H a vs) : SqL K H a vs := by
  rcases h with ⟨o, h⟩ | h
  · exact .inl (.inr ⟨o, h⟩)
  · exact .inr h

mutual
/-- the value d is v, lists at ι -/
def Rep (K : PySem.W.Frag) (ι : List Addr) (H : Hp) : D → V → Prop
  | .non, v => v = .non
  | .bl b, v => v = .bl b
  | .int i, v => v = .int i
  | .str z, v => v = .str z
  | .tup ds, v => ∃ a vs, v = .ref a ∧ TupAt K H a vs ∧ Reps K ι H ds vs
  | .ref k, v => ∃ a, v = .ref a ∧ ι[k]? = some a
def Reps (K : PySem.W.Frag) (ι : List Addr) (H : Hp) : List D → List V → Prop
  | [], vs => vs = []
  | d :: ds, vs => ∃ v r, vs = v :: r ∧ Rep K ι H d v ∧ Reps K ι H ds r
end
def ObRep (K : PySem.W.Frag) (ι : List Addr) (H : Hp) : Ob → Addr → Prop
  | .lst ds, a => ∃ vs, H a = some (.lst vs) ∧ Reps K ι H ds vs
  | .frz ds, a => ∃ vs, FrzAt K H a vs ∧ Reps K ι H ds vs
/-- a is the address of a list that may be written -/
def Own (ι : List Addr) (S : Store) (a : Addr) : Prop := ∃ (k : Nat) (ds : List D), S[k]? = some (Ob.lst ds) ∧ ι[k]? = some a
structure StRel (K : PySem.W.Frag) (ι : List Addr) (S : Store) (H : Hp) : Prop where
  len : ι.length = S.length
  inj : ∀ (k l : Nat) (ds es : List D) (a : Addr), S[k]? = some (Ob.lst ds) → S[l]? = some (Ob.lst es) → ι[k]? = some a → ι[l]? = some a → k = l
  obs : ∀ (k : Nat) (o : Ob) (a : Addr), S[k]? = some o → ι[k]? = some a → ObRep K ι H o a
structure Ext (ι : List Addr) (S : Store) (H : Hp) (ι' : List Addr) (S' : Store) (H' : Hp) : Prop where
  pre : ι <+: ι'
  keep : ∀ (a : Addr) (o : HO), H a = some o → ¬ Own ι S a → H' a = some o ∧ ¬ Own ι' S' a
  frz : ∀ (k : Nat) (ds : List D), S[k]? = some (Ob.frz ds) → S'[k]? = some (Ob.frz ds)
theorem Ext.refl {ι : List Addr} {S : Store} {H : Hp} : Ext ι S H ι S H := ⟨List.prefix_refl _, fun _ _ h n => ⟨h, n⟩, fun _ _ h => h⟩
theorem Ext.trans {ι1 ι2 ι3 : List Addr} {S1 S2 S3 : Store} {H1 H2 H3 : Hp} (a : Ext ι1 S1 H1 ι2 S2 H2) (b : Ext ι2 S2 H2 ι3 S3 H3) : Ext ι1 S1 H1 ι3 S3 H3 :=
  ⟨a.pre.trans b.pre, fun x o h n => let ⟨h2, n2⟩ := a.keep x o h n; b.keep x o h2 n2, fun k ds h => b.frz k ds (a.frz k ds h)⟩
theorem pre_get {α : Type} {l l' : List α} (h : l <+: l') {k : Nat} {a : α} (e : l[k]? = some a) : l'[k]? = some a := by
  obtain ⟨r, rfl⟩ := h
  rw [List.getElem?_append_left (List.getElem?_eq_some_iff.mp e).1]
  exact e
section
variable {K : PySem.W.Frag} {ι ι' : List Addr} {S S' : Store} {H H' : Hp}
theorem StRel.own (r : StRel K ι S H) {a : Addr} (h : Own ι S a) : ∃ vs, H a = some (.lst vs) := by
  obtain ⟨k, ds, h1, h2⟩ := h
  obtain ⟨vs, h3, _⟩ := r.obs k _ a h1 h2
  exact ⟨vs, h3⟩
theorem StRel.at (r : StRel K ι S H) {k : Nat} {o : Ob} (h : S[k]? = some o) : ∃ a, ι[k]? = some a ∧ ObRep K ι H o a := by
  have hk : k < ι.length := by rw [r.len]; exact (List.getElem?_eq_some_iff.mp h).1
  exact ⟨ι[k], List.getElem?_eq_getElem hk, r.obs k o _ h (List.getElem?_eq_getElem hk)⟩
theorem TupAt.ext (r : StRel K ι S H) (x : Ext ι S H ι' S' H') {a : Addr} {vs : List V} (h : TupAt K H a vs) : TupAt K H' a vs := by
  rcases h with h | h
  · refine .inl (x.keep a _ h fun o => ?_).1
    obtain ⟨ws, e⟩ := r.own o
    rw [h] at e
    cases e
  · exact .inr h
theorem FrzAt.ext (r : StRel K ι S H) (x : Ext ι S H ι' S' H') {a : Addr} {vs : List V} (h : FrzAt K H a vs) : FrzAt K H' a vs := by
  rcases h with ⟨o, h⟩ | h
  · refine .inl ⟨o, (x.keep a _ h fun q => ?_).1⟩
    obtain ⟨ws, e⟩ := r.own q
    rw [h] at e
    cases e
  · exact .inr h
mutual
theorem Rep.ext (r : StRel K ι S H) (x : Ext ι S H ι' S' H') : ∀ {d : D} {v : V}, Rep K ι H d v → Rep K ι' H' d v
  | .non, _, h => h
  | .bl _, _, h => h
  | .int _, _, h => h
  | .str _, _, h => h
  | .tup _, _, ⟨a, vs, e, t, q⟩ => ⟨a, vs, e, t.ext r x, Reps.ext r x q⟩
  | .ref _, _, ⟨a, e, q⟩ => ⟨a, e, pre_get x.pre q⟩
theorem Reps.ext (r : StRel K ι S H) (x : Ext ι S H ι' S' H') : ∀ {ds : List D} {vs : List V}, Reps K ι H ds vs → Reps K ι' H' ds vs
  | [], _, h => h
  | _ :: _, _, ⟨v, q, e, h1, h2⟩ => ⟨v, q, e, Rep.ext r x h1, Reps.ext r x h2⟩
end
theorem Reps.length : ∀ {ds : List D} {vs : List V}, Reps K ι H ds vs → vs.length = ds.length
  | [], _, h => by rw [show _ = [] from h]; rfl
  | _ :: _, _, ⟨v, q, e, _, h2⟩ => by rw [e, List.length_cons, List.length_cons, Reps.length h2]
theorem Reps.get : ∀ {ds : List D} {vs : List V} {i : Nat} {d : D}, Reps K ι H ds vs → ds[i]? = some d → ∃ v, vs[i]? = some v ∧ Rep K ι H d v
  | [], _, i, d, _, e => by simp at e
  | _ :: _, _, 0, d, ⟨v, q, e, h1, _⟩, e2 => by
    rw [List.getElem?_cons_zero] at e2
    cases e2
    exact ⟨v, by rw [e]; rfl, h1⟩
  | _ :: _, _, i + 1, d, ⟨v, q, e, _, h2⟩, e2 => by
    rw [List.getElem?_cons_succ] at e2
    obtain ⟨w, h3, h4⟩ := Reps.get h2 e2
    exact ⟨w, by rw [e, List.getElem?_cons_succ]; exact h3, h4⟩
theorem Reps.append : ∀ {ds es : List D} {vs ws : List V}, Reps K ι H ds vs → Reps K ι H es ws → Reps K ι H (ds ++ es) (vs ++ ws)
  | [], _, _, _, h, g => by rw [show _ = [] from h]; exact g
  | _ :: _, _, _, _, ⟨v, q, e, h1, h2⟩, g => ⟨v, q ++ _, by rw [e]; rfl, h1, Reps.append h2 g⟩
theorem Reps.drop : ∀ {ds : List D} {vs : List V} (n : Nat), Reps K ι H ds vs → Reps K ι H (ds.drop n) (vs.drop n)
  | _, _, 0, h => h
  | [], _, _ + 1, h => by rw [show _ = [] from h]; exact rfl
  | _ :: _, _, n + 1, ⟨v, q, e, _, h2⟩ => by rw [e]; exact Reps.drop n h2
theorem Reps.take : ∀ {ds : List D} {vs : List V} (n : Nat), Reps K ι H ds vs → Reps K ι H (ds.take n) (vs.take n)
  | _, _, 0, h => by rw [List.take_zero, List.take_zero]; exact rfl
  | [], _, _ + 1, h => by rw [show _ = [] from h]; exact rfl
  | _ :: _, _, n + 1, ⟨v, q, e, h1, h2⟩ => by rw [e]; exact ⟨v, q.take n, rfl, h1, Reps.take n h2⟩
theorem Reps.set : ∀ {ds : List D} {vs : List V} {d : D} {v : V} (i : Nat), Rep K ι H d v → Reps K ι H ds vs → Reps K ι H (ds.set i d) (vs.set i v)
  | [], _, _, _, _, _, h => by rw [show _ = [] from h]; exact rfl
  | _ :: _, _, _, _, 0, g, ⟨w, q, e, _, h2⟩ => by rw [e]; exact ⟨_, q, rfl, g, h2⟩
  | _ :: _, _, _, _, i + 1, g, ⟨w, q, e, h1, h2⟩ => by rw [e]; exact ⟨w, q.set i _, rfl, h1, Reps.set i g h2⟩
theorem Reps.dropLast {ds : List D} {vs : List V} (h : Reps K ι H ds vs) : Reps K ι H ds.dropLast vs.dropLast := by
  rw [List.dropLast_eq_take, List.dropLast_eq_take, h.length]
  exact h.take _
theorem Reps.one {d : D} {v : V} (h : Rep K ι H d v) : Reps K ι H [d] [v] := ⟨v, [], rfl, h, rfl⟩
theorem Reps.nil : Reps K ι H [] [] := rfl
theorem Reps.cons {d : D} {ds : List D} {v : V} {vs : List V} (h : Rep K ι H d v) (g : Reps K ι H ds vs) : Reps K ι H (d :: ds) (v :: vs) := ⟨v, vs, rfl, h, g⟩
theorem Reps.rep {ds : List D} {vs : List V} (h : Reps K ι H ds vs) : ∀ n : Nat, Reps K ι H (List.replicate n ds).flatten (List.replicate n vs).flatten
  | 0 => rfl
  | n + 1 => by
    rw [List.replicate_succ, List.replicate_succ, List.flatten_cons, List.flatten_cons]
    exact h.append (Reps.rep h n)
/-- the environment -/
def EnvRel (K : PySem.W.Frag) (ι : List Addr) (H : Hp) (δ : Env) (σ : L2.St) : Prop :=
  δ.length = σ.length ∧ ∀ (i : Nat) (d : D), δ[i]? = some (some d) → ∃ v, σ[i]? = some (some v) ∧ Rep K ι H d v
theorem EnvRel.ext {δ : Env} {σ : L2.St} (r : StRel K ι S H) (x : Ext ι S H ι' S' H') (e : EnvRel K ι H δ σ) : EnvRel K ι' H' δ σ :=
  ⟨e.1, fun i d h => let ⟨v, h1, h2⟩ := e.2 i d h; ⟨v, h1, h2.ext r x⟩⟩
theorem EnvRel.set {δ : Env} {σ : L2.St} {i : Nat} {d : D} {v : V} (e : EnvRel K ι H δ σ) (r : Rep K ι H d v) : EnvRel K ι H (δ.set i (some d)) (σ.set i (some v)) := by
  refine ⟨by rw [List.length_set, List.length_set]; exact e.1, fun j d' h => ?_⟩
  by_cases hj : i = j
  · subst hj
    by_cases hi : i < δ.length
    · rw [List.getElem?_set_self hi] at h
      cases h
      exact ⟨v, List.getElem?_set_self (by rw [← e.1]; exact hi), r⟩
    · rw [List.getElem?_eq_none (by rw [List.length_set]; omega)] at h
      cases h
  · rw [List.getElem?_set_ne hj] at h
    obtain ⟨w, h1, h2⟩ := e.2 j d' h
    exact ⟨w, by rw [List.getElem?_set_ne hj]; exact h1, h2⟩
theorem EnvRel.wipe {δ : Env} {σ : L2.St} (e : EnvRel K ι H δ σ) : ∀ vs : List Nat, EnvRel K ι H (wipeD δ vs) (L2.wipe σ vs)
  | [] => e
  | v :: vs => by
    have ih := EnvRel.wipe e vs
    unfold wipeD L2.wipe
    refine ⟨by rw [List.length_set, List.length_set]; exact ih.1, fun j d h => ?_⟩
    by_cases hj : v = j
    · subst hj
      by_cases hi : v < (wipeD δ vs).length
      · rw [List.getElem?_set_self hi] at h
        cases h
      · rw [List.getElem?_eq_none (by rw [List.length_set]; omega)] at h
        cases h
    · rw [List.getElem?_set_ne hj] at h
      obtain ⟨w, h1, h2⟩ := ih.2 j d h
      exact ⟨w, by rw [List.getElem?_set_ne hj]; exact h1, h2⟩

/-! ### steps of the heap -/
theorem own_free (r : StRel K ι S H) {a : Addr} (h : H a = none) : ¬ Own ι S a := fun o => by
  obtain ⟨vs, e⟩ := r.own o
  rw [h] at e
  cases e
/-- a new tuple -/
theorem ext_tup (r : StRel K ι S H) {p : Addr} (hp : H p = none) {vs : List V} : Ext ι S H ι S (upd H p (.tup vs)) :=
  ⟨List.prefix_refl _, fun a o h n => ⟨by rw [upd_ne (ne_of_none h hp)]; exact h, n⟩, fun _ _ h => h⟩
theorem ObRep.ext (r : StRel K ι S H) (x : Ext ι S H ι' S' H') {o : Ob} {a : Addr} (h : ObRep K ι H o a) (hl : ∀ ds, o = Ob.lst ds → ∀ vs, H a = some (.lst vs) → H' a = some (.lst vs)) : ObRep K ι' H' o a := by
  cases o with
  | lst ds => obtain ⟨vs, e, q⟩ := h; exact ⟨vs, hl ds rfl vs e, q.ext r x⟩
  | frz ds => obtain ⟨vs, e, q⟩ := h; exact ⟨vs, e.ext r x, q.ext r x⟩
theorem st_tup (r : StRel K ι S H) {p : Addr} (hp : H p = none) {vs : List V} : StRel K ι S (upd H p (.tup vs)) :=
  ⟨r.len, r.inj, fun k o a h1 h2 => (r.obs k o a h1 h2).ext r (ext_tup r hp) fun _ _ ws e => by rw [upd_ne (ne_of_none e hp)]; exact e⟩
/-- a new list -/
theorem own_new (r : StRel K ι S H) {p : Addr} {ds : List D} {a : Addr} (h : Own (ι ++ [p]) (S ++ [Ob.lst ds]) a) : Own ι S a ∨ a = p := by
  obtain ⟨k, es, h1, h2⟩ := h
  by_cases hk : k < S.length
  · rw [List.getElem?_append_left hk] at h1
    rw [List.getElem?_append_left (by rw [r.len]; exact hk)] at h2
    exact .inl ⟨k, es, h1, h2⟩
  · have hk2 : k < (ι ++ [p]).length := (List.getElem?_eq_some_iff.mp h2).1
    rw [List.length_append, List.length_singleton, r.len] at hk2
    have : k = ι.length := by rw [r.len]; omega
    subst this
    rw [List.getElem?_append_right (Nat.le_refl _), Nat.sub_self] at h2
    exact .inr (Option.some.inj h2).symm
theorem ext_new (r : StRel K ι S H) {p : Addr} (hp : H p = none) {vs : List V} {ds : List D} : Ext ι S H (ι ++ [p]) (S ++ [Ob.lst ds]) (upd H p (.lst vs)) := by
  refine ⟨List.prefix_append _ _, fun a o h n => ⟨by rw [upd_ne (ne_of_none h hp)]; exact h, fun q => ?_⟩, fun k ds h => by rw [List.getElem?_append_left (List.getElem?_eq_some_iff.mp h).1]; exact h⟩
  rcases own_new r q with q | q
  · exact n q
  · rw [q, hp] at h
    cases h
theorem st_new (r : StRel K ι S H) {p : Addr} (hp : H p = none) {vs : List V} {ds : List D} (q : Reps K ι H ds vs) : StRel K (ι ++ [p]) (S ++ [Ob.lst ds]) (upd H p (.lst vs)) := by
  have x := ext_new r hp (vs := vs) (ds := ds)
  have old : ∀ (k : Nat) (o : Ob), k < S.length → (S ++ [Ob.lst ds])[k]? = some o → S[k]? = some o := fun k o hk h => by rw [List.getElem?_append_left hk] at h; exact h
  have oldi : ∀ (k : Nat) (a : Addr), k < S.length → (ι ++ [p])[k]? = some a → ι[k]? = some a := fun k o hk h => by rw [List.getElem?_append_left (by rw [r.len]; exact hk)] at h; exact h
  have big : ∀ (k : Nat) (o : Ob), ¬ k < S.length → (S ++ [Ob.lst ds])[k]? = some o → k = S.length ∧ o = .lst ds := fun k o hk h => by
    have hk2 := (List.getElem?_eq_some_iff.mp h).1
    rw [List.length_append, List.length_singleton] at hk2
    have e : k = S.length := by omega
    subst e
    rw [List.getElem?_append_right (Nat.le_refl _), Nat.sub_self] at h
    exact ⟨rfl, (Option.some.inj h).symm⟩
  have atp : (ι ++ [p])[S.length]? = some p := by rw [← r.len, List.getElem?_append_right (Nat.le_refl _), Nat.sub_self]; rfl
  have notp : ∀ (k : Nat) (es : List D), k < S.length → S[k]? = some (Ob.lst es) → ι[k]? ≠ some p := fun k es hk h e => by
    obtain ⟨ws, e1⟩ := r.own ⟨k, es, h, e⟩
    rw [hp] at e1
    cases e1
  refine ⟨by rw [List.length_append, List.length_append, r.len]; rfl, fun k l es fs a h1 h2 h3 h4 => ?_, fun k o a h1 h2 => ?_⟩
  · by_cases hk : k < S.length
    · by_cases hl : l < S.length
      · exact r.inj k l es fs a (old k _ hk h1) (old l _ hl h2) (oldi k a hk h3) (oldi l a hl h4)
      · obtain ⟨e, _⟩ := big l _ hl h2
        subst e
        rw [atp] at h4
        cases h4
        exact absurd (oldi k _ hk h3) (notp k es hk (old k _ hk h1))
    · obtain ⟨e, _⟩ := big k _ hk h1
      subst e
      rw [atp] at h3
      cases h3
      by_cases hl : l < S.length
      · exact absurd (oldi l _ hl h4) (notp l fs hl (old l _ hl h2))
      · exact (big l _ hl h2).1.symm
  · by_cases hk : k < S.length
    · exact (r.obs k o a (old k o hk h1) (oldi k a hk h2)).ext r x fun _ _ ws e => by rw [upd_ne (ne_of_none e hp)]; exact e
    · obtain ⟨e, e2⟩ := big k o hk h1
      subst e
      subst e2
      rw [atp] at h2
      cases h2
      exact ⟨vs, upd_same, q.ext r x⟩
/-- a list is written -/
theorem ext_set (r : StRel K ι S H) {k : Nat} {p : Addr} {es ds : List D} (hk : S[k]? = some (Ob.lst es)) (hp : ι[k]? = some p) {vs : List V} : Ext ι S H ι (S.set k (Ob.lst ds)) (upd H p (.lst vs)) := by
  refine ⟨List.prefix_refl _, fun a o h n => ?_, fun j fs h => ?_⟩
  · have ne : a ≠ p := fun e => n ⟨k, es, hk, by rw [e]; exact hp⟩
    refine ⟨by rw [upd_ne ne]; exact h, fun ⟨j, fs, h1, h2⟩ => ?_⟩
    by_cases hj : k = j
    · subst hj
      rw [hp] at h2
      cases h2
      exact ne rfl
    · rw [List.getElem?_set_ne hj] at h1
      exact n ⟨j, fs, h1, h2⟩
  · by_cases hj : k = j
    · subst hj
      rw [hk] at h
      cases h
    · rw [List.getElem?_set_ne hj]
      exact h
theorem st_set (r : StRel K ι S H) {k : Nat} {p : Addr} {es ds : List D} (hk : S[k]? = some (Ob.lst es)) (hp : ι[k]? = some p) {vs : List V} (q : Reps K ι H ds vs) : StRel K ι (S.set k (Ob.lst ds)) (upd H p (.lst vs)) := by
  have x := ext_set r hk hp (ds := ds) (vs := vs)
  have lk : k < S.length := (List.getElem?_eq_some_iff.mp hk).1
  have was : ∀ (j : Nat) (fs : List D), (S.set k (Ob.lst ds))[j]? = some (Ob.lst fs) → ∃ gs, S[j]? = some (Ob.lst gs) := fun j fs h => by
    by_cases hj : k = j
    · subst hj
      exact ⟨es, hk⟩
    · rw [List.getElem?_set_ne hj] at h
      exact ⟨fs, h⟩
  refine ⟨by rw [List.length_set]; exact r.len, fun j l fs gs a h1 h2 h3 h4 => ?_, fun j o a h1 h2 => ?_⟩
  · obtain ⟨fs', h1'⟩ := was j fs h1
    obtain ⟨gs', h2'⟩ := was l gs h2
    exact r.inj j l fs' gs' a h1' h2' h3 h4
  · by_cases hj : k = j
    · subst hj
      rw [List.getElem?_set_self lk] at h1
      cases h1
      rw [hp] at h2
      cases h2
      exact ⟨vs, upd_same, q.ext r x⟩
    · rw [List.getElem?_set_ne hj] at h1
      refine (r.obs j o a h1 h2).ext r x fun fs ef ws e => ?_
      subst ef
      rw [upd_ne (fun e2 => by
        subst e2
        exact hj (r.inj k j es fs a hk h1 hp h2))]
      exact e

/-! ### what tuples lean on alone -/
structure Ext0 (ι : List Addr) (H : Hp) (ι' : List Addr) (H' : Hp) : Prop where
  pre : ι <+: ι'
  keep : ∀ (a : Addr) (o : HO), H a = some o → (∀ xs, o ≠ .lst xs) → H' a = some o
theorem Ext.weak (r : StRel K ι S H) (x : Ext ι S H ι' S' H') : Ext0 ι H ι' H' :=
  ⟨x.pre, fun a o h n => (x.keep a o h fun q => by
    obtain ⟨vs, e⟩ := r.own q
    rw [h] at e
    exact n vs (Option.some.inj e)).1⟩
theorem Ext0.refl : Ext0 ι H ι H := ⟨List.prefix_refl _, fun _ _ h _ => h⟩
theorem Ext0.trans {ι2 : List Addr} {H2 : Hp} (a : Ext0 ι H ι' H') (b : Ext0 ι' H' ι2 H2) : Ext0 ι H ι2 H2 := ⟨a.pre.trans b.pre, fun x o h n => b.keep x o (a.keep x o h n) n⟩
theorem TupAt.ext0 (x : Ext0 ι H ι' H') {a : Addr} {vs : List V} (h : TupAt K H a vs) : TupAt K H' a vs := by
  rcases h with h | h
  · exact .inl (x.keep a _ h fun xs z => by cases z)
  · exact .inr h
mutual
theorem Rep.ext0 (x : Ext0 ι H ι' H') : ∀ {d : D} {v : V}, Rep K ι H d v → Rep K ι' H' d v
  | .non, _, h => h
  | .bl _, _, h => h
  | .int _, _, h => h
  | .str _, _, h => h
  | .tup _, _, ⟨a, vs, e, t, q⟩ => ⟨a, vs, e, t.ext0 x, Reps.ext0 x q⟩
  | .ref _, _, ⟨a, e, q⟩ => ⟨a, e, pre_get x.pre q⟩
theorem Reps.ext0 (x : Ext0 ι H ι' H') : ∀ {ds : List D} {vs : List V}, Reps K ι H ds vs → Reps K ι' H' ds vs
  | [], _, h => h
  | _ :: _, _, ⟨v, q, e, h1, h2⟩ => ⟨v, q, e, Rep.ext0 x h1, Reps.ext0 x h2⟩
end
theorem EnvRel.ext0 {δ : Env} {σ : L2.St} (x : Ext0 ι H ι' H') (e : EnvRel K ι H δ σ) : EnvRel K ι' H' δ σ :=
  ⟨e.1, fun i d h => let ⟨v, h1, h2⟩ := e.2 i d h; ⟨v, h1, h2.ext0 x⟩⟩
end
end Ev

set_option Elab.async false
set_option linter.all false
set_option maxRecDepth 100000
set_option maxHeartbeats 1000000
set_option autoImplicit false
/-! EvC: what the operations of the language are in the abstract heap. -/
namespace Ev
open PySem PySem.Spec PyProof.Rows L2

def Sat {α : Type} (r : R α) (ok : α → Store → Prop) (ex : Str → D → Store → Prop) : Prop := match r with
  | .ok a S => ok a S
  | .exc c v S => ex c v S
  | .bad => False
theorem Sat.bind {α β : Type} {m : M α} {f : α → M β} {S : Store} {ok : β → Store → Prop} {ex : Str → D → Store → Prop} (h : Sat (M.bind m f S) ok ex) : Sat (m S) (fun a S1 => Sat (f a S1) ok ex) ex := by
  unfold M.bind at h
  cases e : m S with
  | ok a S1 => rw [e] at h; exact h
  | exc c v S1 => rw [e] at h; exact h
  | bad => rw [e] at h; exact h
theorem Sat.mono {α : Type} {r : R α} {ok ok' : α → Store → Prop} {ex ex' : Str → D → Store → Prop} (h : Sat r ok ex) (h1 : ∀ a S, ok a S → ok' a S) (h2 : ∀ c v S, ex c v S → ex' c v S) : Sat r ok' ex' := by
  cases r with
  | ok a S => exact h1 a S h
  | exc c v S => exact h2 c v S h
  | bad => exact h
def NoEx : Str → D → Store → Prop := fun _ _ _ => False
/-- the value is told, the store has gone on -/
def OkE (K : PySem.W.Frag) (ι : List Addr) (S : Store) (H : Hp) (Q : VK) (d : D) (S' : Store) : Prop :=
  ∀ ι' v H', StRel K ι' S' H' → Ext ι S H ι' S' H' → Rep K ι' H' d v → Q v H'

/-- what stands fast while a def runs -/
structure Gd (X : Cx) (n : Nat) : Prop where
  calm : X.calm = true
  room : Room (n + 71) X.A
  seer : X.base.NoSeer
  tree : X.prog.given.tree = none
  stk : ∃ env l, X.stack = env :: l ∧ env.scope.isGenerator = false ∧ env.scope.isCoroutine = false ∧ env.builtins = builtinsNs ∧ env.globals = mainGlobals
  nd : X.N.Nodup
theorem line_eq : line = sizeLine := by rw [sizeLine_eq]; rfl

section
variable {X : Cx} {n : Nat}
def BOp.op : BOp → Operator
  | .add => .Add | .sub => .Sub | .mul => .Mult | .fdiv => .FloorDiv | .mod => .Mod | .pow => .Pow
theorem mulOk_ok {i j : Int} (h : mulOk i j = true) : IntMulOk i j := by
  have b : ∀ x : Int, Builtin.Int.intBits x ≤ x.natAbs.log2 + 1 := fun x => by
    unfold Builtin.Int.intBits
    split <;> omega
  have h1 := b i
  have h2 := b j
  have h3 : i.natAbs.log2 + j.natAbs.log2 < 100000000 := of_decide_eq_true h
  have e : bitsLine = 134217728 := by decide
  unfold IntMulOk
  intro z
  rw [Bool.and_eq_true] at z
  have z2 := z.2
  unfold Builtin.Int.intTooBig at z2
  have z3 := of_decide_eq_true z2
  rw [e] at z3
  omega
theorem pylong (G : Gd X n) {pins : List (Addr × Obj)} {σ : L2.St} {H : Hp} {s : Shared} (I : Inv X pins σ H s) : PySem.PylongRoom (model X.prog X.w) X.A s := by
  obtain ⟨env, l, e, h1, h2, h3, h4⟩ := G.stk
  refine PySem.PylongRoom.of I.nolimit ?_ (PySem.SeerAt.of (l := l) (G.seer.keeps I.bk) G.tree ?_ h1 h2 h3 h4)
  · have := G.room.dp
    show X.A.depth + 100 < recursionLimit
    omega
  · rw [← e]
    exact I.ok.frames
theorem op_div (G : Gd X n) : OpR X (binaryOp .FloorDiv) (rI (fun _ j => j ≠ 0) fun i j => .int (i.fdiv j)) := by
  intro pins s σ H x y v u Q I rx ry h
  obtain ⟨i, j, rfl, rfl, hc, q⟩ := h
  obtain ⟨t, rfl⟩ := rx
  obtain ⟨t', rfl⟩ := ry
  exact floordiv_int hc ⟨.int _, H, I.tok _, ⟨_, rfl⟩, q⟩ (.inr (pylong G I))
theorem iop_div (G : Gd X n) : OpR X (inplaceOp .FloorDiv) (rI (fun _ j => j ≠ 0) fun i j => .int (i.fdiv j)) := by
  intro pins s σ H x y v u Q I rx ry h
  obtain ⟨i, j, rfl, rfl, hc, q⟩ := h
  obtain ⟨t, rfl⟩ := rx
  obtain ⟨t', rfl⟩ := ry
  exact ifloordiv_int hc ⟨.int _, H, I.tok _, ⟨_, rfl⟩, q⟩ (.inr (pylong G I))
theorem op_mulB : OpR X (binaryOp .Mult) (rI (fun i j => mulOk i j = true) fun i j => .int (i * j)) := opI fun _ _ _ _ _ _ _ hc q => mul_int q (mulOk_ok hc)
theorem iop_mulB : OpR X (inplaceOp .Mult) (rI (fun i j => mulOk i j = true) fun i j => .int (i * j)) := opI fun _ _ _ _ _ _ _ hc q => imul_int q (mulOk_ok hc)

/-- a two-place operation, by the language's own -/
def rD (K : PySem.W.Frag) (f : D → D → M D) : R2 := fun x y H Q => ∃ ι S d1 d2, StRel K ι S H ∧ Rep K ι H d1 x ∧ Rep K ι H d2 y ∧ Sat (f d1 d2 S) (OkE K ι S H Q) NoEx

theorem OkE.here {K : PySem.W.Frag} {ι : List Addr} {S : Store} {H : Hp} {Q : VK} {d : D} (h : OkE K ι S H Q d S) (r : StRel K ι S H) {v : V} (q : Rep K ι H d v) : Q v H := h ι v H r .refl q
theorem OkE.newTup {K : PySem.W.Frag} {ι : List Addr} {S : Store} {H : Hp} {Q : VK} {ds : List D} {vs : List V} {p : Addr} (h : OkE K ι S H Q (.tup ds) S) (r : StRel K ι S H) (hp : H p = none) (q : Reps K ι H ds vs) : Q (.ref p) (upd H p (.tup vs)) :=
  h ι _ _ (st_tup r hp) (ext_tup r hp) ⟨p, vs, rfl, .inl upd_same, q.ext r (ext_tup r hp)⟩
theorem OkE.newLst {K : PySem.W.Frag} {ι : List Addr} {S : Store} {H : Hp} {Q : VK} {ds : List D} {vs : List V} {p : Addr} (h : OkE K ι S H Q (.ref S.length) (S ++ [.lst ds])) (r : StRel K ι S H) (hp : H p = none) (q : Reps K ι H ds vs) : Q (.ref p) (upd H p (.lst vs)) :=
  h (ι ++ [p]) _ _ (st_new r hp q) (ext_new r hp) ⟨p, rfl, by rw [← r.len, List.getElem?_append_right (Nat.le_refl _), Nat.sub_self]; rfl⟩

theorem nil_of {K : PySem.W.Frag} {ι : List Addr} {H : Hp} {ds : List D} {vs : List V} (q : Reps K ι H ds vs) : vs = [] ↔ ds = [] := by
  have h := q.length
  constructor
  · intro e
    rw [e] at h
    exact List.length_eq_zero_iff.mp h.symm
  · intro e
    rw [e] at h
    exact List.length_eq_zero_iff.mp h

/-- the list that may be written at k -/
theorem lst_at {K : PySem.W.Frag} {ι : List Addr} {S : Store} {H : Hp} {k : Nat} {a : Addr} {ds : List D} (r : StRel K ι S H) (h : S[k]? = some (Ob.lst ds)) (e : ι[k]? = some a) : ∃ vs, H a = some (.lst vs) ∧ Reps K ι H ds vs :=
  r.obs k _ a h e
theorem seq_at {K : PySem.W.Frag} {ι : List Addr} {S : Store} {H : Hp} {d : D} {v : V} {ds : List D} (r : StRel K ι S H) (q : Rep K ι H d v) (h : seqOf S d = some ds) : ∃ a vs, v = .ref a ∧ (SqL K H a vs ∨ SqT K H a vs) ∧ Reps K ι H ds vs := by
  cases d with
  | tup es =>
    obtain ⟨a, vs, e, t, q⟩ := q
    cases h
    exact ⟨a, vs, e, .inr t.sq, q⟩
  | ref k =>
    obtain ⟨a, e, ek⟩ := q
    unfold seqOf at h
    simp only at h
    cases eo : S[k]? with
    | none => rw [eo] at h; cases h
    | some o =>
      rw [eo] at h
      have ob := r.obs k o a eo ek
      cases o with
      | lst es =>
        cases h
        obtain ⟨vs, h1, h2⟩ := ob
        exact ⟨a, vs, e, .inl (.of h1), h2⟩
      | frz es =>
        cases h
        obtain ⟨vs, h1, h2⟩ := ob
        exact ⟨a, vs, e, .inl h1.sq, h2⟩
  | _ => cases h
theorem list_at {K : PySem.W.Frag} {ι : List Addr} {S : Store} {H : Hp} {d : D} {v : V} {ds : List D} (r : StRel K ι S H) (q : Rep K ι H d v) (h : listOf S d = some ds) : ∃ a vs, v = .ref a ∧ SqL K H a vs ∧ Reps K ι H ds vs := by
  cases d with
  | ref k =>
    obtain ⟨a, e, ek⟩ := q
    unfold listOf at h
    simp only at h
    cases eo : S[k]? with
    | none => rw [eo] at h; cases h
    | some o =>
      rw [eo] at h
      have ob := r.obs k o a eo ek
      cases o with
      | lst es =>
        cases h
        obtain ⟨vs, h1, h2⟩ := ob
        exact ⟨a, vs, e, .of h1, h2⟩
      | frz es =>
        cases h
        obtain ⟨vs, h1, h2⟩ := ob
        exact ⟨a, vs, e, h1.sq, h2⟩
  | _ => cases h

theorem bin_ok (G : Gd X n) (o : BOp) : OpR X (binaryOp o.op) (rD X.K (binD o)) := by
  intro pins s σ H x y v u Q I rx ry h
  obtain ⟨ι, S, d1, d2, r, q1, q2, hs⟩ := h
  unfold binD at hs
  split at hs
  · cases q1; cases q2
    exact op_add pins s σ H _ _ v u Q I rx ry ⟨_, _, rfl, rfl, hs.here r rfl⟩
  · cases q1; cases q2
    split at hs
    · exact op_add_str pins s σ H _ _ v u Q I rx ry ⟨_, _, rfl, rfl, by rw [← line_eq]; assumption, OkE.here hs r rfl⟩
    · exact hs.elim
  · obtain ⟨a, vs, rfl, t1, e1⟩ := q1
    obtain ⟨b, ws, rfl, t2, e2⟩ := q2
    split at hs
    · rename_i hl
      refine op_catA pins s σ H _ _ v u Q I rx ry ⟨a, b, vs, ws, rfl, rfl, t1.sq, t2.sq, by rw [e1.length, e2.length, ← line_eq]; exact hl, fun z => ?_, fun _ z => ?_, fun _ _ p hp => ?_⟩
      · have z' := (nil_of e1).mp z
        subst z'
        exact OkE.here hs r ⟨b, ws, rfl, t2, by simpa using e2⟩
      · have z' := (nil_of e2).mp z
        subst z'
        rw [List.append_nil] at hs
        exact OkE.here hs r ⟨a, vs, rfl, t1, e1⟩
      · exact OkE.newTup hs r hp (e1.append e2)
    · exact hs.elim
  · obtain ⟨a, rfl, ea⟩ := q1
    obtain ⟨b, rfl, eb⟩ := q2
    split at hs
    · rename_i xs ys h1 h2
      obtain ⟨vs, e1, f1⟩ := lst_at r h1 ea
      obtain ⟨ws, e2, f2⟩ := lst_at r h2 eb
      split at hs
      · rename_i hl
        exact op_cat pins s σ H _ _ v u Q I rx ry ⟨a, b, vs, ws, rfl, rfl, e1, e2, by rw [f1.length, f2.length, ← line_eq]; exact hl, fun p hp => OkE.newLst hs r hp (f1.append f2)⟩
      · exact hs.elim
    · exact hs.elim
  · cases q1; cases q2
    exact op_sub pins s σ H _ _ v u Q I rx ry ⟨_, _, rfl, rfl, OkE.here hs r rfl⟩
  · cases q1; cases q2
    split at hs
    · rename_i hm
      exact op_mulB pins s σ H _ _ v u Q I rx ry ⟨_, _, rfl, rfl, hm, OkE.here hs r rfl⟩
    · exact hs.elim
  · obtain ⟨a, rfl, ea⟩ := q1
    cases q2
    split at hs
    · rename_i xs h1
      obtain ⟨vs, e1, f1⟩ := lst_at r h1 ea
      split at hs
      · rename_i hl
        exact op_rep pins s σ H _ _ v u Q I rx ry ⟨a, _, vs, rfl, rfl, e1, hl.1, hl.2.1, by rw [f1.length, ← line_eq]; exact hl.2.2, fun p hp => OkE.newLst hs r hp (f1.rep _)⟩
      · exact hs.elim
    · exact hs.elim
  · cases q1; cases q2
    split at hs
    · exact hs.elim
    · rename_i hj
      exact op_div G pins s σ H _ _ v u Q I rx ry ⟨_, _, rfl, rfl, hj, OkE.here hs r rfl⟩
  · cases q1; cases q2
    split at hs
    · exact hs.elim
    · rename_i hj
      exact op_modN pins s σ H _ _ v u Q I rx ry ⟨_, _, rfl, rfl, hj, OkE.here hs r rfl⟩
  · cases q1; cases q2
    split at hs
    · rename_i hj
      exact op_pow pins s σ H _ _ v u Q I rx ry ⟨_, _, rfl, rfl, hj, OkE.here hs r rfl⟩
    · exact hs.elim
  · exact hs.elim
theorem aug_ok (G : Gd X n) (o : BOp) (ho : o ≠ .pow) : OpR X (inplaceOp o.op) (rD X.K (augD o)) := by
  intro pins s σ H x y v u Q I rx ry h
  obtain ⟨ι, S, d1, d2, r, q1, q2, hs⟩ := h
  unfold augD at hs
  split at hs
  · cases q1; cases q2
    cases o with
    | add => exact iop_add pins s σ H _ _ v u Q I rx ry ⟨_, _, rfl, rfl, OkE.here hs r rfl⟩
    | sub => exact iop_sub pins s σ H _ _ v u Q I rx ry ⟨_, _, rfl, rfl, OkE.here hs r rfl⟩
    | mul =>
      unfold binD at hs
      simp only at hs
      split at hs
      · rename_i hm
        exact iop_mulB pins s σ H _ _ v u Q I rx ry ⟨_, _, rfl, rfl, hm, OkE.here hs r rfl⟩
      · exact hs.elim
    | fdiv =>
      unfold binD at hs
      simp only at hs
      split at hs
      · exact hs.elim
      · rename_i hj
        exact iop_div G pins s σ H _ _ v u Q I rx ry ⟨_, _, rfl, rfl, hj, OkE.here hs r rfl⟩
    | mod =>
      unfold binD at hs
      simp only at hs
      split at hs
      · exact hs.elim
      · rename_i hj
        obtain ⟨t, rfl⟩ := rx
        obtain ⟨t', rfl⟩ := ry
        exact imod_int hj ⟨.int _, H, I.tok _, ⟨_, rfl⟩, OkE.here hs r rfl⟩
    | pow => exact absurd rfl ho
  · cases q1; cases q2
    cases o with
    | add =>
      unfold binD at hs
      simp only at hs
      split at hs
      · exact iop_add_str pins s σ H _ _ v u Q I rx ry ⟨_, _, rfl, rfl, by rw [← line_eq]; assumption, OkE.here hs r rfl⟩
      · exact hs.elim
    | _ => exact hs.elim
  · exact hs.elim

/-- a comparison, by the language's own -/
def rDB (K : PySem.W.Frag) (f : D → D → M Bool) : R2 := fun x y H Q => ∃ ι S d1 d2, StRel K ι S H ∧ Rep K ι H d1 x ∧ Rep K ι H d2 y ∧ Sat (f d1 d2 S) (fun b S' => OkE K ι S H Q (.bl b) S') NoEx
mutual
theorem Rep.dp {K : PySem.W.Frag} {ι : List Addr} {H : Hp} : ∀ {d : D} {v : V} {p : PyData}, Rep K ι H d v → d.toP = some p → Dp K H v p
  | .non, _, _, h, e => by cases h; cases e; exact .non
  | .bl _, _, _, h, e => by cases h; cases e; exact .bl _
  | .int _, _, _, h, e => by cases h; cases e; exact .int _
  | .str _, _, _, h, e => by cases h; cases e; exact .str _
  | .tup ds, _, _, ⟨a, vs, ev, t, q⟩, e => by
    subst ev
    unfold D.toP at e
    cases e2 : D.toPs ds with
    | none => rw [e2] at e; cases e
    | some ps =>
      rw [e2] at e
      cases e
      exact .tup t.sq (Reps.dp q e2)
  | .ref _, _, _, _, e => by cases e
theorem Reps.dp {K : PySem.W.Frag} {ι : List Addr} {H : Hp} : ∀ {ds : List D} {vs : List V} {ps : List PyData}, Reps K ι H ds vs → D.toPs ds = some ps → DpAll K H vs ps
  | [], _, _, h, e => by rw [show _ = [] from h]; cases e; exact .nil
  | d :: ds, _, _, ⟨v, r, ev, h1, h2⟩, e => by
    subst ev
    unfold D.toPs at e
    cases e1 : D.toP d with
    | none => rw [e1] at e; cases e
    | some p =>
      cases e2 : D.toPs ds with
      | none => rw [e1, e2] at e; cases e
      | some ps =>
        rw [e1, e2] at e
        cases e
        exact .cons (Rep.dp h1 e1) (Reps.dp h2 e2)
end
theorem top_dp {K : PySem.W.Frag} {ι : List Addr} {S : Store} {H : Hp} {d : D} {v : V} {p : PyData} (r : StRel K ι S H) (q : Rep K ι H d v) (h : topP S d = some p) : Dp K H v p := by
  cases d with
  | ref k =>
    obtain ⟨a, e, ek⟩ := q
    unfold topP at h
    simp only at h
    cases eo : S[k]? with
    | none => rw [eo] at h; cases h
    | some o =>
      rw [eo] at h
      have ob := r.obs k o a eo ek
      subst e
      cases o with
      | lst es =>
        obtain ⟨vs, h1, h2⟩ := ob
        cases e2 : D.toPs es with
        | none => simp [e2] at h
        | some ps =>
          simp only [e2, Option.map_some, Option.some.injEq] at h
          subst h
          exact .lst (.of h1) (h2.dp e2)
      | frz es =>
        obtain ⟨vs, h1, h2⟩ := ob
        cases e2 : D.toPs es with
        | none => simp [e2] at h
        | some ps =>
          simp only [e2, Option.map_some, Option.some.injEq] at h
          subst h
          exact .lst h1.sq (h2.dp e2)
  | _ => exact Rep.dp q h
theorem units64 (G : Gd X n) : X.A.units + 64 < cLine := G.room.units
theorem eq_ok (G : Gd X n) : OpR X (compareOp .Eq) (rDB X.K eqD) := by
  intro pins s σ H x y v u Q I rx ry h
  obtain ⟨ι, S, d1, d2, r, q1, q2, hs⟩ := h
  unfold eqD at hs
  split at hs
  · cases q1; cases q2
    refine op_eq pins s σ H _ _ v u Q I rx ry ⟨rfl, ?_⟩
    rw [dec_int]
    exact OkE.here hs r rfl
  · cases q1; cases q2
    refine op_eq pins s σ H _ _ v u Q I rx ry ⟨rfl, ?_⟩
    rw [dec_str]
    exact OkE.here hs r rfl
  · cases q1; cases q2
    refine op_eq pins s σ H _ _ v u Q I rx ry ⟨rfl, ?_⟩
    rw [dec_bl]
    exact OkE.here hs r rfl
  · split at hs
    · rename_i p q e1 e2
      split at hs
      · rename_i hsh
        rw [Bool.and_eq_true] at hsh
        exact op_eqD (units64 G) pins s σ H _ _ v u Q I rx ry ⟨p, q, top_dp r q1 e1, top_dp r q2 e2, hsh.1, hsh.2, OkE.here hs r rfl⟩
      · exact hs.elim
    · exact hs.elim
theorem ne_ok (G : Gd X n) : OpR X (compareOp .NotEq) (rDB X.K (cmpD .ne)) := by
  intro pins s σ H x y v u Q I rx ry h
  obtain ⟨ι, S, d1, d2, r, q1, q2, hs⟩ := h
  have hs := Sat.bind (show Sat (M.bind (eqD d1 d2) (fun r => M.ret (!r)) S) _ _ from hs)
  unfold eqD at hs
  split at hs
  · cases q1; cases q2
    refine op_ne pins s σ H _ _ v u Q I rx ry ⟨rfl, ?_⟩
    rw [dec_int]
    exact OkE.here hs r rfl
  · cases q1; cases q2
    refine op_ne pins s σ H _ _ v u Q I rx ry ⟨rfl, ?_⟩
    rw [dec_str]
    exact OkE.here hs r rfl
  · cases q1; cases q2
    refine op_ne pins s σ H _ _ v u Q I rx ry ⟨rfl, ?_⟩
    rw [dec_bl]
    exact OkE.here hs r rfl
  · split at hs
    · rename_i p q e1 e2
      split at hs
      · rename_i hsh
        rw [Bool.and_eq_true] at hsh
        exact op_neD (units64 G) pins s σ H _ _ v u Q I rx ry ⟨p, q, top_dp r q1 e1, top_dp r q2 e2, hsh.1, hsh.2, OkE.here hs r rfl⟩
      · exact hs.elim
    · exact hs.elim
theorem rep_non {K : PySem.W.Frag} {ι : List Addr} {H : Hp} {d : D} {v : V} (q : Rep K ι H d v) : v = .non ↔ d = .non := by
  cases d with
  | non => cases q; simp
  | bl _ => cases q; simp
  | int _ => cases q; simp
  | str _ => cases q; simp
  | tup _ => obtain ⟨a, vs, rfl, _⟩ := q; simp
  | ref _ => obtain ⟨a, rfl, _⟩ := q; simp
theorem decide_beq (a b : Bool) : decide (a = b) = (a == b) := by cases a <;> cases b <;> rfl
theorem is_ok : OpR X (compareOp .Is) (rDB X.K (cmpD .is_)) := by
  intro pins s σ H x y v u Q I rx ry h
  obtain ⟨ι, S, d1, d2, r, q1, q2, hs⟩ := h
  have hs : Sat (M.opt (isD d1 d2) S) _ _ := hs
  unfold M.opt isD at hs
  split at hs
  · rename_i b e
    split at e
    · cases q1; cases q2
      cases e
      exact op_isN pins s σ H _ _ v u Q I rx ry ⟨rfl, OkE.here hs r rfl⟩
    · rename_i ne
      cases q2
      cases e
      refine op_isN pins s σ H _ _ v u Q I rx ry ⟨rfl, ?_⟩
      rw [decide_eq_false (fun z => ne ((rep_non q1).mp z))]
      exact OkE.here hs r rfl
    · cases q1; cases q2
      cases e
      refine op_isBl pins s σ H _ _ v u Q I rx ry ⟨_, _, rfl, rfl, ?_⟩
      rw [decide_beq]
      exact OkE.here hs r rfl
    · cases e
  · exact hs.elim
theorem isnot_ok : OpR X (compareOp .IsNot) (rDB X.K (cmpD .isnot)) := by
  intro pins s σ H x y v u Q I rx ry h
  obtain ⟨ι, S, d1, d2, r, q1, q2, hs⟩ := h
  have hs : Sat (M.opt ((isD d1 d2).map (!·)) S) _ _ := hs
  unfold M.opt isD at hs
  split at hs
  · rename_i b e
    split at e
    · cases q1; cases q2
      cases e
      exact op_notN pins s σ H _ _ v u Q I rx ry ⟨rfl, OkE.here hs r rfl⟩
    · rename_i ne
      cases q2
      cases e
      refine op_notN pins s σ H _ _ v u Q I rx ry ⟨rfl, ?_⟩
      rw [decide_eq_false (fun z => ne ((rep_non q1).mp z))]
      exact OkE.here hs r rfl
    · cases q1; cases q2
      cases e
      refine op_notBl pins s σ H _ _ v u Q I rx ry ⟨_, _, rfl, rfl, ?_⟩
      rw [decide_beq]
      exact OkE.here hs r rfl
    · cases e
  · exact hs.elim
theorem rep_flat {K : PySem.W.Frag} {ι : List Addr} {H : Hp} {d : D} {v : V} (q : Rep K ι H d v) (f : d.flat = true) : flatV v = true := by
  cases d with
  | non => cases q; rfl
  | bl _ => cases q; rfl
  | int _ => cases q; rfl
  | str _ => cases q; rfl
  | tup _ => cases f
  | ref _ => cases f
/-- the value of a flat thing -/
def flatV' : D → V
  | .non => .non
  | .bl b => .bl b
  | .int i => .int i
  | .str z => .str z
  | _ => .non
theorem rep_flatV {K : PySem.W.Frag} {ι : List Addr} {H : Hp} {d : D} {v : V} (q : Rep K ι H d v) (f : d.flat = true) : v = flatV' d := by
  cases d with
  | non => exact q
  | bl _ => exact q
  | int _ => exact q
  | str _ => exact q
  | tup _ => cases f
  | ref _ => cases f
theorem flat_eqV (d e : D) (f : d.flat = true) (g : e.flat = true) : eqV (flatV' d) (flatV' e) = flatEq d e := by
  cases d with
  | tup _ => cases f
  | ref _ => cases f
  | non =>
    cases e with
    | tup _ => cases g
    | ref _ => cases g
    | _ => rfl
  | bl _ =>
    cases e with
    | tup _ => cases g
    | ref _ => cases g
    | _ => rfl
  | int _ =>
    cases e with
    | tup _ => cases g
    | ref _ => cases g
    | _ => rfl
  | str _ =>
    cases e with
    | tup _ => cases g
    | ref _ => cases g
    | _ => rfl
theorem rep_eqV {K : PySem.W.Frag} {ι : List Addr} {H : Hp} {d e : D} {v w : V} (q : Rep K ι H d v) (q2 : Rep K ι H e w) (f : d.flat = true) (g : e.flat = true) : eqV v w = flatEq d e := by
  rw [rep_flatV q f, rep_flatV q2 g]
  exact flat_eqV d e f g
theorem reps_flat {K : PySem.W.Frag} {ι : List Addr} {H : Hp} : ∀ {ds : List D} {vs : List V}, Reps K ι H ds vs → ds.all D.flat = true → vs.all flatV = true
  | [], _, h, _ => by rw [show _ = [] from h]; rfl
  | d :: ds, _, ⟨v, r, e, h1, h2⟩, f => by
    subst e
    rw [List.all_cons, Bool.and_eq_true] at f ⊢
    exact ⟨rep_flat h1 f.1, reps_flat h2 f.2⟩
theorem reps_any {K : PySem.W.Frag} {ι : List Addr} {H : Hp} {d : D} {v : V} (q : Rep K ι H d v) (g : d.flat = true) : ∀ {ds : List D} {vs : List V}, Reps K ι H ds vs → ds.all D.flat = true → (vs.any fun y => eqV y v) = ds.any fun y => flatEq y d
  | [], _, h, _ => by rw [show _ = [] from h]; rfl
  | e :: ds, _, ⟨w, r, ev, h1, h2⟩, f => by
    subst ev
    rw [List.all_cons, Bool.and_eq_true] at f
    rw [List.any_cons, List.any_cons, rep_eqV h1 q f.1 g, reps_any q g h2 f.2]
theorem in_ok : OpR X (compareOp .In) (rDB X.K (cmpD .in_)) := by
  intro pins s σ H x y v u Q I rx ry h
  obtain ⟨ι, S, d1, d2, r, q1, q2, hs⟩ := h
  have hs : Sat (inD d1 d2 S) _ _ := hs
  unfold inD at hs
  split at hs
  · cases q2
    split at hs
    · cases q1
      exact op_in_str pins s σ H _ _ v u Q I rx ry ⟨_, _, rfl, rfl, OkE.here hs r rfl⟩
    · exact hs.elim
  · split at hs
    · rename_i ds e
      split at hs
      · rename_i hf
        rw [Bool.and_eq_true] at hf
        obtain ⟨a, vs, rfl, hq, q3⟩ := seq_at r q2 e
        refine op_in_seq pins s σ H _ _ v u Q I rx ry ⟨a, vs, rfl, hq, rep_flat q1 hf.1, reps_flat q3 hf.2, ?_⟩
        rw [if_neg Bool.false_ne_true]
        unfold inV
        rw [reps_any q1 hf.1 q3 hf.2]
        exact OkE.here hs r rfl
      · exact hs.elim
    · exact hs.elim
theorem notin_ok : OpR X (compareOp .NotIn) (rDB X.K (cmpD .notin)) := by
  intro pins s σ H x y v u Q I rx ry h
  obtain ⟨ι, S, d1, d2, r, q1, q2, hs⟩ := h
  have hs := Sat.bind (show Sat (M.bind (inD d1 d2) (fun r => M.ret (!r)) S) _ _ from hs)
  unfold inD at hs
  split at hs
  · cases q2
    split at hs
    · cases q1
      exact op_notIn_str pins s σ H _ _ v u Q I rx ry ⟨_, _, rfl, rfl, OkE.here hs r rfl⟩
    · exact hs.elim
  · split at hs
    · rename_i ds e
      split at hs
      · rename_i hf
        rw [Bool.and_eq_true] at hf
        obtain ⟨a, vs, rfl, hq, q3⟩ := seq_at r q2 e
        refine op_notIn_seq pins s σ H _ _ v u Q I rx ry ⟨a, vs, rfl, hq, rep_flat q1 hf.1, reps_flat q3 hf.2, ?_⟩
        rw [if_pos rfl]
        unfold inV
        rw [reps_any q1 hf.1 q3 hf.2]
        exact OkE.here hs r rfl
      · exact hs.elim
    · exact hs.elim
def COp.op : COp → CmpOp
  | .eq => .Eq | .ne => .NotEq | .lt => .Lt | .le => .LtE | .gt => .Gt | .ge => .GtE | .is_ => .Is | .isnot => .IsNot | .in_ => .In | .notin => .NotIn
theorem cmp_ok (G : Gd X n) (o : COp) : OpR X (compareOp o.op) (rDB X.K (cmpD o)) := by
  cases o with
  | eq => exact eq_ok G
  | ne => exact ne_ok G
  | is_ => exact is_ok
  | isnot => exact isnot_ok
  | in_ => exact in_ok
  | notin => exact notin_ok
  | lt =>
    intro pins s σ H x y v u Q I rx ry h
    obtain ⟨ι, S, d1, d2, r, q1, q2, hs⟩ := h
    unfold cmpD at hs
    simp only at hs
    split at hs
    · cases q1; cases q2
      exact op_lt pins s σ H _ _ v u Q I rx ry ⟨_, _, rfl, rfl, OkE.here hs r rfl⟩
    · cases q1; cases q2
      exact op_lt_str pins s σ H _ _ v u Q I rx ry ⟨_, _, rfl, rfl, OkE.here hs r rfl⟩
    · exact hs.elim
  | le =>
    intro pins s σ H x y v u Q I rx ry h
    obtain ⟨ι, S, d1, d2, r, q1, q2, hs⟩ := h
    unfold cmpD at hs
    simp only at hs
    split at hs
    · cases q1; cases q2
      exact op_le pins s σ H _ _ v u Q I rx ry ⟨_, _, rfl, rfl, OkE.here hs r rfl⟩
    · exact hs.elim
  | gt =>
    intro pins s σ H x y v u Q I rx ry h
    obtain ⟨ι, S, d1, d2, r, q1, q2, hs⟩ := h
    unfold cmpD at hs
    simp only at hs
    split at hs
    · cases q1; cases q2
      exact op_gt pins s σ H _ _ v u Q I rx ry ⟨_, _, rfl, rfl, OkE.here hs r rfl⟩
    · exact hs.elim
  | ge =>
    intro pins s σ H x y v u Q I rx ry h
    obtain ⟨ι, S, d1, d2, r, q1, q2, hs⟩ := h
    unfold cmpD at hs
    simp only at hs
    split at hs
    · cases q1; cases q2
      exact op_ge pins s σ H _ _ v u Q I rx ry ⟨_, _, rfl, rfl, OkE.here hs r rfl⟩
    · exact hs.elim

/-! ### truth -/
theorem tru_of {K : PySem.W.Frag} {ι : List Addr} {S : Store} {H : Hp} {d : D} {x : V} {P : Bool → Store → Prop} (r : StRel K ι S H) (q : Rep K ι H d x) (hs : Sat (truthD d S) P NoEx) : ∃ k, TruV K x H k ∧ P k S := by
  unfold truthD at hs
  split at hs
  · cases q; exact ⟨false, rfl, hs⟩
  · cases q; exact ⟨_, rfl, hs⟩
  · cases q; exact ⟨_, rfl, hs⟩
  · rename_i z
    cases q
    split at hs
    · rename_i hl
      refine ⟨z.length != 0, ⟨by rw [← line_eq]; exact hl, ?_⟩, hs⟩
      rw [Bool.eq_iff_iff]
      simp
    · exact hs.elim
  · rename_i ds
    obtain ⟨a, vs, rfl, t, q⟩ := q
    refine ⟨!vs.isEmpty, .inr (.inl ⟨vs, t.sq, rfl⟩), ?_⟩
    have e : vs.isEmpty = ds.isEmpty := by
      rw [Bool.eq_iff_iff, List.isEmpty_iff, List.isEmpty_iff]
      exact nil_of q
    rw [e]
    exact hs
  · rename_i k
    obtain ⟨a, rfl, ea⟩ := q
    split at hs
    · rename_i ds e1
      obtain ⟨vs, h1, q⟩ := r.obs k _ a e1 ea
      refine ⟨!vs.isEmpty, .inl ⟨vs, .of h1, rfl⟩, ?_⟩
      have e : vs.isEmpty = ds.isEmpty := by
        rw [Bool.eq_iff_iff, List.isEmpty_iff, List.isEmpty_iff]
        exact nil_of q
      rw [e]
      exact hs
    · rename_i ds e1
      obtain ⟨vs, h1, q⟩ := r.obs k _ a e1 ea
      refine ⟨!vs.isEmpty, .inl ⟨vs, h1.sq, rfl⟩, ?_⟩
      have e : vs.isEmpty = ds.isEmpty := by
        rw [Bool.eq_iff_iff, List.isEmpty_iff, List.isEmpty_iff]
        exact nil_of q
      rw [e]
      exact hs
    · exact hs.elim

/-! ### subscripts -/
theorem at_rep {K : PySem.W.Frag} {ι : List Addr} {H : Hp} {ds : List D} {vs : List V} {i : Int} {d : D} (q : Reps K ι H ds vs) (h : ((ixD ds.length i).bind fun j => ds[j]?) = some d) : ∃ v, atI vs i = some v ∧ Rep K ι H d v := by
  unfold ixD at h
  cases e : ixN ds.length i with
  | none => rw [e] at h; cases h
  | some j =>
    rw [e] at h
    obtain ⟨v, h1, h2⟩ := q.get (show ds[j]? = some d from h)
    exact ⟨v, by unfold atI; rw [q.length, e]; exact h1, h2⟩
theorem idx_ok : IxR X (rD X.K idxD) := by
  intro value slice pins s σ H x y v u Q I rx ry h hsl
  obtain ⟨ι, S, d1, d2, r, q1, q2, hs⟩ := h
  unfold idxD at hs
  split at hs
  · cases q1; cases q2
    split at hs
    · rename_i hl
      split at hs
      · rename_i c e
        exact ix_seq value slice pins s σ H _ _ v u Q I rx ry (.inr (.inr ⟨_, _, c, rfl, rfl, by rw [← line_eq]; exact hl, e, OkE.here hs r rfl⟩)) hsl
      · exact hs.elim
    · exact hs.elim
  · cases q2
    split at hs
    · rename_i ds e
      split at hs
      · rename_i d e2
        obtain ⟨a, vs, rfl, hq, q3⟩ := seq_at r q1 e
        obtain ⟨w, h1, h2⟩ := at_rep q3 e2
        rcases hq with hq | hq
        · exact ix_seq value slice pins s σ H _ _ v u Q I rx ry (.inl ⟨a, vs, _, w, rfl, rfl, hq, h1, OkE.here hs r h2⟩) hsl
        · exact ix_seq value slice pins s σ H _ _ v u Q I rx ry (.inr (.inl ⟨a, vs, _, w, rfl, rfl, hq, h1, OkE.here hs r h2⟩)) hsl
      · exact hs.elim
    · exact hs.elim
  · exact hs.elim
theorem Reps.cut {K : PySem.W.Frag} {ι : List Addr} {H : Hp} {ds : List D} {vs : List V} (q : Reps K ι H ds vs) (lo hi : Option Int) : Reps K ι H (cutD ds lo hi) (cutV vs lo hi) := by
  unfold cutD cutV
  rw [q.length]
  exact (q.drop _).take _
theorem cut_whole {α : Type} {xs : List α} {lo hi : Option Int} (h : HT.sIx xs.length 0 lo = 0 ∧ HT.sIx xs.length xs.length hi = xs.length) : cutD xs lo hi = xs := by
  unfold cutD
  rw [h.1, h.2, List.drop_zero, Nat.sub_zero, List.take_length]
def rSlD (K : PySem.W.Frag) : V → Option Int → Option Int → Hp → VK → Prop := fun x lo hi H Q => ∃ ι S d, StRel K ι S H ∧ Rep K ι H d x ∧ Sat (sliceD d lo hi S) (OkE K ι S H Q) NoEx
theorem slice_ok : SlR X (rSlD X.K) := by
  intro pins s σ H x v vl vu lo hi sl Q I rx hsl pl pu h
  obtain ⟨ι, S, d, r, q, hs⟩ := h
  unfold sliceD at hs
  split at hs
  · rename_i ds
    obtain ⟨a, vs, rfl, t, q⟩ := q
    refine sl_tupA pins s σ H _ v vl vu lo hi sl Q I rx hsl pl pu ⟨a, vs, rfl, t.sq, fun hw => ?_, fun hw p hp => ?_⟩
    · rw [q.length] at hw
      have hs : OkE X.K ι S H Q (.tup (cutD ds lo hi)) S := hs
      rw [cut_whole hw] at hs
      exact hs.here r ⟨a, vs, rfl, t, q⟩
    · exact OkE.newTup hs r hp (q.cut lo hi)
  · rename_i k
    obtain ⟨a, rfl, ea⟩ := q
    split at hs
    · rename_i ds e1
      obtain ⟨vs, h1, q⟩ := r.obs k _ a e1 ea
      exact sl_list pins s σ H _ v vl vu lo hi sl Q I rx hsl pl pu ⟨a, vs, rfl, .of h1, fun p hp => OkE.newLst hs r hp (q.cut lo hi)⟩
    · rename_i ds e1
      obtain ⟨vs, h1, q⟩ := r.obs k _ a e1 ea
      exact sl_list pins s σ H _ v vl vu lo hi sl Q I rx hsl pl pu ⟨a, vs, rfl, h1.sq, fun p hp => OkE.newLst hs r hp (q.cut lo hi)⟩
    · exact hs.elim
  · rename_i z
    cases q
    split at hs
    · rename_i hl
      refine sl_str pins s σ H _ v vl vu lo hi sl Q I rx hsl pl pu ⟨z, rfl, by rw [← line_eq]; exact hl, ?_⟩
      exact OkE.here (d := .str (cutS z lo hi)) (by
        have e : cutS z lo hi = ⟨(cutD z.cps.toList lo hi).toArray⟩ := by
          unfold cutS cutD
          rw [Array.length_toList]
          rfl
        rw [e]
        exact hs) r rfl
    · exact hs.elim
  · exact hs.elim
/-- o[i] = v -/
def rSetD (K : PySem.W.Frag) : TSet := fun o i v H Q => ∃ ι S d1 d2 d3, StRel K ι S H ∧ Rep K ι H d1 o ∧ Rep K ι H d2 i ∧ Rep K ι H d3 v ∧ Sat (setD d1 d2 d3 S) (fun _ S' => ∀ ι' H', StRel K ι' S' H' → Ext ι S H ι' S' H' → Q H') NoEx
theorem set_ok : PSet X (rSetD X.K) := by
  intro pins s σ H o i v ov iv u Q I ro ri rv h
  obtain ⟨ι, S, d1, d2, d3, r, q1, q2, q3, hs⟩ := h
  unfold setD at hs
  split at hs
  · rename_i k i'
    obtain ⟨a, rfl, ea⟩ := q1
    cases q2
    split at hs
    · rename_i ds e1
      obtain ⟨vs, h1, q⟩ := lst_at r e1 ea
      split at hs
      · rename_i j e2
        refine set_list pins s σ H _ _ v ov iv u Q I ro ri rv ⟨a, vs, _, j, rfl, rfl, h1, by rw [q.length]; exact e2, ?_⟩
        exact hs ι _ (st_set r e1 ea (q.set j q3)) (ext_set r e1 ea)
      · exact hs.elim
    · exact hs.elim
  · exact hs.elim
end
end Ev

set_option Elab.async false
set_option linter.all false
set_option maxRecDepth 100000
set_option maxHeartbeats 2000000
set_option autoImplicit false
/-! EvCs: sorted. -/
namespace Ev
open PySem PySem.Spec PyProof.Rows L2
/-- pairwise related -/
inductive F2 {α β : Type} (R : α → β → Prop) : List α → List β → Prop where
  | nil : F2 R [] []
  | cons {x : α} {y : β} {xs : List α} {ys : List β} : R x y → F2 R xs ys → F2 R (x :: xs) (y :: ys)
theorem F2.perm {α β : Type} {R : α → β → Prop} {ys ys' : List β} (p : ys.Perm ys') : ∀ {xs : List α}, F2 R xs ys → ∃ xs', xs'.Perm xs ∧ F2 R xs' ys' := by
  induction p with
  | nil => intro xs h; cases h; exact ⟨[], .nil, .nil⟩
  | cons y p ih =>
    intro xs h
    cases h with
    | cons r h =>
      obtain ⟨xs', p', h'⟩ := ih h
      exact ⟨_ :: xs', p'.cons _, .cons r h'⟩
  | swap a b l =>
    intro xs h
    cases h with
    | cons r h =>
      cases h with
      | cons r' h => exact ⟨_ :: _ :: _, List.Perm.swap _ _ _, .cons r' (.cons r h)⟩
  | trans p q ih1 ih2 =>
    intro xs h
    obtain ⟨xs1, p1, h1⟩ := ih1 h
    obtain ⟨xs2, p2, h2⟩ := ih2 h1
    exact ⟨xs2, p2.trans p1, h2⟩
theorem keyOrd_swo {α : Type} (O : KeyOrd) (k : α → O.α) : SrtO.Swo fun x y => O.blt (k x) (k y) := by
  refine ⟨fun x y h => ?_, fun x y z h1 h2 => ?_⟩
  · cases e : O.blt (k y) (k x) with
    | false => rfl
    | true =>
      have := O.trans _ _ _ h e
      rw [O.irrefl] at this
      cases this
  · cases e : O.blt (k z) (k x) with
    | false => rfl
    | true =>
      rcases O.negTrans _ (k y) _ e with e | e
      · rw [h2] at e; cases e
      · rw [h1] at e; cases e
section
variable {K : PySem.W.Frag} {ι : List Addr} {H : Hp}
/-- a value as the machine has it -/
def RepU (K : PySem.W.Frag) (ι : List Addr) (H : Hp) (d : D) (u : Value) : Prop := ∃ v, RelV v u ∧ Rep K ι H d v
theorem f2_of : ∀ {ds : List D} {vs : List V} {us : List Value}, Reps K ι H ds vs → Vals vs us → F2 (RepU K ι H) ds us
  | [], _, _, q, r => by
    rw [show _ = [] from q] at r
    cases r
    exact .nil
  | d :: ds, _, _, ⟨v, w, e, h1, h2⟩, r => by
    subst e
    cases r with
    | cons r1 r2 => exact .cons ⟨v, r1, h1⟩ (f2_of h2 r2)
theorem of_f2 : ∀ {ds : List D} {us : List Value}, F2 (RepU K ι H) ds us → ∃ vs, Vals vs us ∧ Reps K ι H ds vs
  | _, _, .nil => ⟨[], .nil, rfl⟩
  | _, _, .cons ⟨v, r, q⟩ h => by
    obtain ⟨vs, r2, q2⟩ := of_f2 h
    exact ⟨v :: vs, .cons r r2, v, vs, rfl, q, q2⟩
theorem F2.len {α β : Type} {R : α → β → Prop} : ∀ {xs : List α} {ys : List β}, F2 R xs ys → xs.length = ys.length
  | _, _, .nil => rfl
  | _, _, .cons _ h => by rw [List.length_cons, List.length_cons, h.len]
theorem F2.mem {α β : Type} {R : α → β → Prop} : ∀ {xs : List α} {ys : List β}, F2 R xs ys → ∀ y ∈ ys, ∃ x ∈ xs, R x y
  | _, _, .nil, y, h => by cases h
  | _, _, .cons r h, y, hy => by
    rcases List.mem_cons.mp hy with e | hy
    · subst e; exact ⟨_, List.mem_cons_self, r⟩
    · obtain ⟨x, h1, h2⟩ := h.mem y hy
      exact ⟨x, List.mem_cons_of_mem _ h1, h2⟩
theorem F2.imp {α β : Type} {R R' : α → β → Prop} (m : ∀ x y, R x y → R' x y) : ∀ {xs : List α} {ys : List β}, F2 R xs ys → F2 R' xs ys
  | _, _, .nil => .nil
  | _, _, .cons r h => .cons (m _ _ r) (h.imp m)
theorem F2.pair {α β : Type} {R : α → β → Prop} {P : α → α → Prop} {Q : β → β → Prop} (m : ∀ x y x' y', R x y → R x' y' → Q y y' → P x x') : ∀ {xs : List α} {ys : List β}, F2 R xs ys → ys.Pairwise Q → xs.Pairwise P
  | _, _, .nil, _ => .nil
  | _, _, .cons r h, p => by
    rw [List.pairwise_cons] at p ⊢
    refine ⟨fun x' hx => ?_, h.pair m p.2⟩
    have go : ∀ {xs : List _} {ys : List _}, F2 R xs ys → x' ∈ xs → (∃ y' ∈ ys, R x' y') := by
      intro xs ys h
      induction h with
      | nil => intro z; cases z
      | cons r h ih =>
        intro z
        rcases List.mem_cons.mp z with e | z
        · subst e; exact ⟨_, List.mem_cons_self, r⟩
        · obtain ⟨y', h1, h2⟩ := ih z
          exact ⟨y', List.mem_cons_of_mem _ h1, h2⟩
    obtain ⟨y', h1, h2⟩ := go h hx
    exact m _ _ _ _ r h2 (p.1 y' h1)
end
theorem items_key {K : PySem.W.Frag} {ι : List Addr} {H : Hp} {shape : Nat → Bool} : ∀ {ds : List D} {vs : List V} {us : List Value} {i : Nat}, Reps K ι H ds vs → Vals vs us → fitsD shape i ds = true → tupItems shape i us = some (ds.filterMap itemK)
  | [], _, _, i, q, r, _ => by
    rw [show _ = [] from q] at r
    cases r
    rfl
  | d :: ds, _, _, i, ⟨v, w, e, h1, h2⟩, r, hf => by
    subst e
    cases r with
    | cons r1 r2 =>
      cases d with
      | int n =>
        cases h1
        obtain ⟨t, rfl⟩ := r1
        unfold fitsD at hf
        rw [Bool.and_eq_true, Bool.not_eq_true'] at hf
        have := items_key h2 r2 hf.2
        unfold tupItems
        rw [if_neg (by rw [hf.1]; exact Bool.false_ne_true), this]
        rfl
      | str z =>
        cases h1
        obtain ⟨t, rfl⟩ := r1
        unfold fitsD at hf
        rw [Bool.and_eq_true] at hf
        have := items_key h2 r2 hf.2
        unfold tupItems
        rw [if_pos hf.1, this]
        rfl
      | _ => cases hf
theorem keyD_inj {shape : Nat → Bool} : ∀ {i : Nat} {ds es : List D}, fitsD shape i ds = true → fitsD shape i es = true → ds.filterMap itemK = es.filterMap itemK → ds = es
  | i, [], [], _, _, _ => rfl
  | i, [], e :: es, _, h, k => by
    cases e <;> first | cases h | (simp [itemK] at k)
  | i, d :: ds, [], h, _, k => by
    cases d <;> first | cases h | (simp [itemK] at k)
  | i, d :: ds, e :: es, h, g, k => by
    cases d with
    | int n =>
      cases e with
      | int m =>
        unfold fitsD at h g
        rw [Bool.and_eq_true] at h g
        simp only [List.filterMap_cons, itemK, List.cons.injEq, Sum.inl.injEq] at k
        rw [k.1, keyD_inj h.2 g.2 k.2]
      | str z =>
        simp [itemK] at k
      | _ => cases g
    | str z =>
      cases e with
      | str m =>
        unfold fitsD at h g
        rw [Bool.and_eq_true] at h g
        simp only [List.filterMap_cons, itemK, List.cons.injEq, Sum.inr.injEq] at k
        have : z = m := by
          have k1 := k.1
          cases z; cases m
          rw [PySem.Str.mk.injEq]
          exact Array.toList_inj.mp k1
        rw [this, keyD_inj h.2 g.2 k.2]
      | int z =>
        simp [itemK] at k
      | _ => cases g
    | _ => cases h
theorem leD_anti {shape : Nat → Bool} {a b : D} (ha : ∃ ds, a = .tup ds ∧ ds ≠ [] ∧ fitsD shape 0 ds = true) (hb : ∃ ds, b = .tup ds ∧ ds ≠ [] ∧ fitsD shape 0 ds = true) (h1 : leD a b) (h2 : leD b a) : a = b := by
  obtain ⟨ds, rfl, _, f1⟩ := ha
  obtain ⟨es, rfl, _, f2⟩ := hb
  rw [keyD_inj f1 f2 ((listOrd itemOrd).total _ _ h2 h1)]
theorem short_perm {α : Type} {xs ys : List α} (p : ys.Perm xs) (h : xs.length < 2) : ys = xs := by
  match xs, h with
  | [], _ => exact p.eq_nil
  | [x], _ => exact List.perm_singleton.mp p
  | _ :: _ :: _, h => exact absurd h (by simp)
theorem sorted_uniq {xs ys zs : List D} (hs : Sortable xs) (py : ys.Perm xs) (pz : zs.Perm xs) (hy : xs.length < 2 ∨ ys.Pairwise leD) (hz : xs.length < 2 ∨ zs.Pairwise leD) : ys = zs := by
  rcases hs with hs | ⟨shape, hs⟩
  · rw [short_perm py hs, short_perm pz hs]
  · by_cases h2 : xs.length < 2
    · rw [short_perm py h2, short_perm pz h2]
    · exact List.Perm.eq_of_pairwise (fun a b ha hb h1 h2 => leD_anti (hs a (py.mem_iff.mp ha)) (hs b (pz.mem_iff.mp hb)) h1 h2) (hy.resolve_left h2) (hz.resolve_left h2) (py.trans pz.symm)
/-- what sorted gives -/
theorem sortedD_of {xs ys : List D} (hs : Sortable xs) (py : ys.Perm xs) (hy : xs.length < 2 ∨ ys.Pairwise leD) : sortedD xs = some ys := by
  have h : Sortable xs ∧ ∃ ys : List D, ys.Perm xs ∧ (xs.length < 2 ∨ ys.Pairwise leD) := ⟨hs, ys, py, hy⟩
  unfold sortedD
  rw [dif_pos h]
  congr 1
  exact sorted_uniq hs h.2.choose_spec.1 py h.2.choose_spec.2 hy
theorem sortedD_ok {xs ys : List D} (h : sortedD xs = some ys) : Sortable xs := by
  unfold sortedD at h
  split at h
  · rename_i h2
    exact h2.1
  · cases h
section
variable {X : Cx} {pins : List (Addr × Obj)} {s : Shared} {σ : L2.St} {H : Hp} {us : List Value} {Q : VK} {ι : List Addr} {a : Addr} {vs : List V} {xs ys : List D}
theorem sorted_ok (I : Inv X pins σ H s) (rv : Vals [V.ref a] us) (hq : SqL X.K H a vs) (q3 : Reps X.K ι H xs vs) (e2 : sortedD xs = some ys) (h : ∀ (ws : List V) (p : Addr), H p = none → Reps X.K ι H ys ws → Q (.ref p) (upd H p (.lst ws))) :
    wpAny (model X.prog X.w) X.A (call (.builtin "sorted") us) (EP X pins σ Q) X.xe s := by
  obtain ⟨u, rfl, ru⟩ := vals1 rv
  obtain rfl : u = Value.ref a := ru
  obtain ⟨its, ri, pl, hz⟩ := I.list hq
  have hlen : vs.length = its.length := ri.length
  have hs := sortedD_ok e2
  have F := f2_of q3 ri
  have sh : ∃ shape : Nat → Bool, 2 ≤ its.length → ∀ x ∈ xs, ∃ ds, x = D.tup ds ∧ ds ≠ [] ∧ fitsD shape 0 ds = true := by
    rcases hs with hs | ⟨shape, hs⟩
    · exact ⟨fun _ => false, fun h2 => absurd h2 (by rw [← hlen, q3.length]; omega)⟩
    · exact ⟨shape, fun _ => hs⟩
  obtain ⟨shape, hsh⟩ := sh
  -- what each item is in the heap
  have item : 2 ≤ its.length → ∀ (h' : Heap), (∀ t o, s.heap.get? t = some o → o.cls = .type "tuple" → h'.get? t = some o) → ∀ d u, d ∈ xs → RepU X.K ι H d u →
      tupKey h' shape u = some (keyD d) ∧ ∃ f, TupOf h' shape u f := by
    intro h2 h' keep d u hd ⟨v, r1, q⟩
    obtain ⟨ds, rfl, hne, hf⟩ := hsh h2 d hd
    obtain ⟨t, ws, rfl, ta, qs⟩ := q
    obtain rfl : u = Value.ref t := r1
    obtain ⟨its2, rw2, ⟨o, eo, hc, n, hdt⟩, _⟩ := I.tuple ta.sq
    have e1 := keep t o eo hc
    have key := items_key qs rw2 hf
    refine ⟨?_, ?_⟩
    · unfold tupKey
      simp only [e1, hdt]
      exact key
    · cases ds with
      | nil => exact absurd rfl hne
      | cons d ds =>
        obtain ⟨v, w, ew, p1, p2⟩ := qs
        subst ew
        cases rw2 with
        | cons r1 r2 =>
          refine ⟨_, t, o, _, n, rfl, e1, hc, hdt, rfl, fun z => ?_, fun z => ?_⟩
          · cases d with
            | int i => cases p1; obtain ⟨t, rfl⟩ := r1; exact ⟨i, t, rfl⟩
            | str i => unfold fitsD at hf; rw [z] at hf; cases hf
            | _ => cases hf
          · cases d with
            | str i => cases p1; obtain ⟨t, rfl⟩ := r1; exact ⟨i, t, rfl⟩
            | int i => unfold fitsD at hf; rw [z] at hf; cases hf
            | _ => cases hf
  refine SrtO.sorted_ord (ltv := fun v u => lexLt itemOrd ((tupKey s.heap shape v).getD []) ((tupKey s.heap shape u).getD [])) (keyOrd_swo (listOrd itemOrd) fun v => (tupKey s.heap shape v).getD []) pl.isList (by rw [← hlen]; exact hz) (fun h2 h₁ b hb kk => ?_) fun out h1 h2 => ?_
  · intro h' keep
    have hk : ∀ t o, s.heap.get? t = some o → o.cls = .type "tuple" → h'.get? t = some o := fun t o e c => keep t o (kk t o e).1 (kk t o e).2
    have hk0 : ∀ t o, s.heap.get? t = some o → o.cls = .type "tuple" → s.heap.get? t = some o := fun _ _ e _ => e
    have F2' : ∃ fs, TupsOf h' shape its fs ∧ fs.length = its.length := by
      have go : ∀ {ds : List D} {us : List Value}, F2 (RepU X.K ι H) ds us → (∀ d ∈ ds, d ∈ xs) → ∃ fs, TupsOf h' shape us fs ∧ fs.length = us.length := by
        intro ds us F
        induction F with
        | nil => intro _; exact ⟨[], .nil, rfl⟩
        | cons r F ih =>
          intro hm
          obtain ⟨fs, t1, t2⟩ := ih fun d hd => hm d (List.mem_cons_of_mem _ hd)
          obtain ⟨_, f, tf⟩ := item h2 h' hk _ _ (hm _ List.mem_cons_self) r
          exact ⟨f :: fs, .cons tf t1, by rw [List.length_cons, List.length_cons, t2]⟩
      exact go F fun _ h => h
    obtain ⟨fs, tf, lf⟩ := F2'
    refine ⟨tuples' true, fun Q E hQ => tup_kind (s := { s with heap := h' }) (by rw [lf]; omega) tf hQ, fun p q hp hq => ?_⟩
    obtain ⟨d1, m1, r1⟩ := F.mem p.1 hp
    obtain ⟨d2, m2, r2⟩ := F.mem q.1 hq
    have k1 := (item h2 h' hk _ _ m1 r1).1
    have k2 := (item h2 h' hk _ _ m2 r2).1
    have k3 := (item h2 s.heap hk0 _ _ m1 r1).1
    have k4 := (item h2 s.heap hk0 _ _ m2 r2).1
    refine tup_ltAt (s := { s with heap := h' }) (shape := shape) true _ _ p.1 q.1 (keyD d1) (keyD d2) k1 k2 ⟨rfl, ?_⟩
    show lexLt itemOrd (keyD d1) (keyD d2) = lexLt itemOrd ((tupKey s.heap shape p.1).getD []) ((tupKey s.heap shape q.1).getD [])
    rw [k3, k4]
    rfl
  · obtain ⟨xs', p1, F'⟩ := F2.perm h2.perm.symm F
    obtain ⟨ws, rw', qw⟩ := of_f2 F'
    have hsort : xs.length < 2 ∨ xs'.Pairwise leD := by
      by_cases hl2 : xs.length < 2
      · exact .inl hl2
      · have h2' : 2 ≤ its.length := by rw [← hlen, q3.length]; omega
        have hk0 : ∀ t o, s.heap.get? t = some o → o.cls = .type "tuple" → s.heap.get? t = some o := fun _ _ e _ => e
        have F3 : F2 (fun d u => d ∈ xs ∧ RepU X.K ι H d u) xs' out := by
          have go : ∀ {ds : List D} {us : List Value}, F2 (RepU X.K ι H) ds us → (∀ d ∈ ds, d ∈ xs) → F2 (fun d u => d ∈ xs ∧ RepU X.K ι H d u) ds us := by
            intro ds us F
            induction F with
            | nil => intro _; exact .nil
            | cons r F ih =>
              intro hm
              exact .cons ⟨hm _ List.mem_cons_self, r⟩ (ih fun d hd => hm d (List.mem_cons_of_mem _ hd))
          exact go F' fun d hd => p1.mem_iff.mp hd
        refine .inr (F3.pair (fun x y x' y' ⟨m1, r1⟩ ⟨m2, r2⟩ hlt => ?_) h1)
        have k3 := (item h2' s.heap hk0 _ _ m1 r1).1
        have k4 := (item h2' s.heap hk0 _ _ m2 r2).1
        have hlt : lexLt itemOrd ((tupKey s.heap shape y').getD []) ((tupKey s.heap shape y).getD []) = false := hlt
        rw [k3, k4] at hlt
        exact hlt
    have e3 := sortedD_of hs p1 hsort
    rw [e2] at e3
    cases e3
    obtain ⟨ep, he'⟩ := sortedAll_at s.heap its out.toArray
    refine ⟨.ref _, upd H (s.heap.objs.size + 1) (.lst ws), I.laid (t' := s.toks) (fun _ _ => sortedAll_old) (Nat.le_succ _) ⟨?_, out, ep, rw', he'⟩, rfl, h ws _ (I.hok.fresh (Nat.le_succ _)) qw⟩
    rw [rw'.length, h2.perm.length_eq, ← hlen]
    exact hz
end
end Ev

set_option Elab.async false
set_option linter.all false
set_option maxRecDepth 100000
set_option maxHeartbeats 1000000
set_option autoImplicit false
/-! EvD: built-ins, methods, isinstance, and what loops walk. -/
namespace Ev
open PySem PySem.Spec PyProof.Rows L2
section
variable {X : Cx} {n : Nat}
def rBi (K : PySem.W.Frag) (b : Bi) : List V → Hp → VK → Prop := fun xs H Q => ∃ ι S ds, StRel K ι S H ∧ Reps K ι H ds xs ∧ Sat (biD b ds S) (OkE K ι S H Q) NoEx
theorem reps1 {K : PySem.W.Frag} {ι : List Addr} {H : Hp} {d : D} {vs : List V} (q : Reps K ι H [d] vs) : ∃ v, vs = [v] ∧ Rep K ι H d v := by
  obtain ⟨v, r, e, h1, h2⟩ := q
  exact ⟨v, by rw [e, show r = [] from h2], h1⟩
theorem reps2 {K : PySem.W.Frag} {ι : List Addr} {H : Hp} {d e : D} {vs : List V} (q : Reps K ι H [d, e] vs) : ∃ v w, vs = [v, w] ∧ Rep K ι H d v ∧ Rep K ι H e w := by
  obtain ⟨v, r, e, h1, h2⟩ := q
  obtain ⟨w, rfl, h3⟩ := reps1 h2
  exact ⟨v, w, e, h1, h3⟩
theorem reps_bools {K : PySem.W.Frag} {ι : List Addr} {H : Hp} : ∀ {ds : List D} {vs : List V} {bs : List Bool}, Reps K ι H ds vs → boolsD ds = some bs → vs = bs.map V.bl
  | [], _, _, h, e => by cases e; exact h
  | .bl b :: ds, _, _, ⟨v, r, ev, h1, h2⟩, e => by
    unfold boolsD at e
    cases e2 : boolsD ds with
    | none => rw [e2] at e; cases e
    | some bs =>
      rw [e2] at e
      cases e
      rw [ev, reps_bools h2 e2, show v = V.bl b from h1]
      rfl
  | .non :: _, _, _, _, e => by cases e
  | .int _ :: _, _, _, _, e => by cases e
  | .str _ :: _, _, _, _, e => by cases e
  | .tup _ :: _, _, _, _, e => by cases e
  | .ref _ :: _, _, _, _, e => by cases e
theorem reps_ints {K : PySem.W.Frag} {ι : List Addr} {H : Hp} : ∀ {ds : List D} {vs : List V} {bs : List Int}, Reps K ι H ds vs → intsD ds = some bs → vs = bs.map V.int
  | [], _, _, h, e => by cases e; exact h
  | .int b :: ds, _, _, ⟨v, r, ev, h1, h2⟩, e => by
    unfold intsD at e
    cases e2 : intsD ds with
    | none => rw [e2] at e; cases e
    | some bs =>
      rw [e2] at e
      cases e
      rw [ev, reps_ints h2 e2, show v = V.int b from h1]
      rfl
  | .non :: _, _, _, _, e => by cases e
  | .bl _ :: _, _, _, _, e => by cases e
  | .str _ :: _, _, _, _, e => by cases e
  | .tup _ :: _, _, _, _, e => by cases e
  | .ref _ :: _, _, _, _, e => by cases e
def Bi.val : Bi → Value
  | .len => .builtin "len" | .abs => .builtin "abs" | .int => .type "int" | .all => .builtin "all" | .any => .builtin "any" | .sum => .builtin "sum"
  | .tuple => .type "tuple" | .list => .type "list" | .min2 => .builtin "min" | .max2 => .builtin "max" | .sorted => .builtin "sorted"
def Bi.name : Bi → String
  | .len => "len" | .abs => "abs" | .int => "int" | .all => "all" | .any => "any" | .sum => "sum"
  | .tuple => "tuple" | .list => "list" | .min2 => "min" | .max2 => "max" | .sorted => "sorted"
theorem abs_eq (i : Int) : (if i < 0 then -i else i) = (i.natAbs : Int) := by split <;> omega
theorem tuple_ok {pins : List (Addr × Obj)} {s : Shared} {σ : L2.St} {H : Hp} {us : List Value} {Q : VK} {ι : List Addr} {S : Store} {v : V} (I : Inv X pins σ H s) (rv : Vals [v] us) (r : StRel X.K ι S H) : ∀ (d : D) (xs : List D), Rep X.K ι H d v → seqOf S d = some xs → OkE X.K ι S H Q (.tup xs) S →
    wpAny (model X.prog X.w) X.A (call (.type "tuple") us) (EP X pins σ Q) X.xe s
  | .tup es, xs, q, e, hs => by
    cases e
    obtain ⟨a, ws, rfl, t, q4⟩ := q
    exact call_tuple_of pins s σ H _ us Q I rv ⟨a, ws, rfl, .inr ⟨t.sq, OkE.here hs r ⟨a, ws, rfl, t, q4⟩⟩⟩
  | .ref k, xs, q, e, hs => by
    obtain ⟨a, vs, rfl, hq, q3⟩ := list_at r q (show listOf S (.ref k) = some xs from e)
    exact call_tuple_of pins s σ H _ us Q I rv ⟨a, vs, rfl, .inl ⟨hq, fun p hp => OkE.newTup hs r hp q3⟩⟩
  | .non, _, _, e, _ => by cases e
  | .bl _, _, _, e, _ => by cases e
  | .int _, _, _, e, _ => by cases e
  | .str _, _, _, e, _ => by cases e
theorem bi_ok (G : Gd X n) (b : Bi) : CallR X b.val (rBi X.K b) := by
  intro pins s σ H xs us Q I rv h
  obtain ⟨ι, S, ds, r, qs, hs⟩ := h
  unfold biD at hs
  split at hs
  · obtain ⟨v, rfl, q⟩ := reps1 qs
    cases q
    split at hs
    · rename_i hl
      exact call_len_str pins s σ H _ us Q I rv ⟨_, rfl, by rw [← line_eq]; exact hl, OkE.here hs r rfl⟩
    · exact hs.elim
  · obtain ⟨v, rfl, q⟩ := reps1 qs
    split at hs
    · rename_i xs e
      obtain ⟨a, vs, rfl, hq, q3⟩ := seq_at r q e
      refine call_len_seq pins s σ H _ us Q I rv ⟨a, vs, rfl, hq, ?_⟩
      rw [q3.length]
      exact OkE.here hs r rfl
    · exact hs.elim
  · obtain ⟨v, rfl, q⟩ := reps1 qs
    cases q
    refine call_abs pins s σ H _ us Q I rv ⟨_, rfl, ?_⟩
    rw [abs_eq]
    exact OkE.here hs r rfl
  · obtain ⟨v, rfl, q⟩ := reps1 qs
    cases q
    exact call_int1 pins s σ H _ us Q I rv (.inl ⟨_, rfl, OkE.here hs r rfl⟩)
  · obtain ⟨v, rfl, q⟩ := reps1 qs
    cases q
    exact call_int1 pins s σ H _ us Q I rv (.inr ⟨_, rfl, OkE.here hs r rfl⟩)
  · obtain ⟨v, rfl, q⟩ := reps1 qs
    split at hs
    · rename_i bs e
      obtain ⟨xs, e1, e2⟩ := Option.bind_eq_some_iff.mp e
      obtain ⟨a, vs, rfl, hq, q3⟩ := list_at r q e1
      refine cr_all G.calm pins s σ H _ us Q I rv ⟨a, bs, rfl, ?_, OkE.here hs r rfl⟩
      rw [← reps_bools q3 e2]
      exact hq
    · exact hs.elim
  · obtain ⟨v, rfl, q⟩ := reps1 qs
    split at hs
    · rename_i bs e
      obtain ⟨xs, e1, e2⟩ := Option.bind_eq_some_iff.mp e
      obtain ⟨a, vs, rfl, hq, q3⟩ := list_at r q e1
      refine cr_any G.calm pins s σ H _ us Q I rv ⟨a, bs, rfl, ?_, OkE.here hs r rfl⟩
      rw [← reps_bools q3 e2]
      exact hq
    · exact hs.elim
  · obtain ⟨v, rfl, q⟩ := reps1 qs
    split at hs
    · rename_i bs e
      obtain ⟨xs, e1, e2⟩ := Option.bind_eq_some_iff.mp e
      obtain ⟨a, vs, rfl, hq, q3⟩ := list_at r q e1
      refine cr_sum G.calm pins s σ H _ us Q I rv ⟨a, bs, rfl, ?_, OkE.here hs r rfl⟩
      rw [← reps_ints q3 e2]
      exact hq
    · exact hs.elim
  · obtain ⟨v, rfl, q⟩ := reps1 qs
    split at hs
    · rename_i xs e
      exact tuple_ok I rv r _ xs q e hs
    · exact hs.elim
  · obtain ⟨v, rfl, q⟩ := reps1 qs
    split at hs
    · rename_i xs e
      obtain ⟨a, vs, rfl, hq, q3⟩ := seq_at r q e
      exact call_list_of pins s σ H _ us Q I rv ⟨a, vs, rfl, hq, fun p hp => OkE.newLst hs r hp q3⟩
    · exact hs.elim
  · obtain ⟨v, w, rfl, q1, q2⟩ := reps2 qs
    cases q1; cases q2
    exact call_min2 G.calm pins s σ H _ us Q I rv ⟨_, _, rfl, OkE.here hs r rfl⟩
  · obtain ⟨v, w, rfl, q1, q2⟩ := reps2 qs
    cases q1; cases q2
    exact call_max2 G.calm pins s σ H _ us Q I rv ⟨_, _, rfl, OkE.here hs r rfl⟩
  · obtain ⟨v, rfl, q⟩ := reps1 qs
    split at hs
    · rename_i ys e
      obtain ⟨xs, e1, e2⟩ := Option.bind_eq_some_iff.mp e
      obtain ⟨a, vs, rfl, hq, q3⟩ := list_at r q e1
      exact sorted_ok I rv hq q3 e2 fun ws p hp qw => OkE.newLst hs r hp qw
    · exact hs.elim
  · exact hs.elim

/-! ### methods of lists -/
def Me.id : Me → String
  | .append => "list.append" | .extend => "list.extend" | .pop => "list.pop"
def rMe (K : PySem.W.Frag) (m : Me) : V → List V → Hp → VK → Prop := fun x xs H Q => ∃ ι S d ds, StRel K ι S H ∧ Rep K ι H d x ∧ Reps K ι H ds xs ∧ Sat (meD m d ds S) (OkE K ι S H Q) NoEx
theorem OkE.setLst {K : PySem.W.Frag} {ι : List Addr} {S : Store} {H : Hp} {Q : VK} {d : D} {v : V} {k : Nat} {p : Addr} {es ds : List D} {vs : List V} (h : OkE K ι S H Q d (S.set k (Ob.lst ds))) (r : StRel K ι S H) (hk : S[k]? = some (Ob.lst es)) (hp : ι[k]? = some p) (q : Reps K ι H ds vs) (qd : Rep K ι H d v) : Q v (upd H p (.lst vs)) :=
  h ι _ _ (st_set r hk hp q) (ext_set r hk hp) (qd.ext r (ext_set r hk hp (ds := ds) (vs := vs)))
theorem me_ok (m : Me) : MtR X m.id (rMe X.K m) := by
  intro pins s σ H x xs v us Q I rx rv h
  obtain ⟨ι, S, d, ds, r, q, qs, hs⟩ := h
  unfold meD at hs
  split at hs
  · obtain ⟨a, rfl, ea⟩ := q
    obtain ⟨w, rfl, q2⟩ := reps1 qs
    split at hs
    · rename_i ys e1
      obtain ⟨vs, h1, q3⟩ := lst_at r e1 ea
      split at hs
      · rename_i hl
        exact mt_append pins s σ H _ _ v us Q I rx rv ⟨a, vs, w, rfl, rfl, h1, by rw [q3.length, ← line_eq]; exact hl, OkE.setLst hs r e1 ea (q3.append (.one q2)) rfl⟩
      · exact hs.elim
    · exact hs.elim
  · obtain ⟨a, rfl, ea⟩ := q
    obtain ⟨w, rfl, b, rfl, eb⟩ := reps1 qs
    split at hs
    · rename_i ys zs e1 e2
      obtain ⟨vs, h1, q3⟩ := lst_at r e1 ea
      obtain ⟨ws, h2, q4⟩ := lst_at r e2 eb
      split at hs
      · rename_i hl
        exact mt_extend pins s σ H _ _ v us Q I rx rv ⟨a, b, vs, ws, rfl, rfl, h1, h2, by rw [q3.length, q4.length, ← line_eq]; exact hl, OkE.setLst hs r e1 ea (q3.append q4) rfl⟩
      · exact hs.elim
    · exact hs.elim
  · obtain ⟨a, rfl, ea⟩ := q
    have qs' : xs = [] := qs
    subst qs'
    split at hs
    · rename_i ys e1
      obtain ⟨vs, h1, q3⟩ := lst_at r e1 ea
      split at hs
      · rename_i d e2
        obtain ⟨y, h3, h4⟩ := q3.get e2
        exact mt_pop pins s σ H _ _ v us Q I rx rv ⟨a, vs, y, rfl, rfl, h1, by rw [q3.length]; exact h3, OkE.setLst hs r e1 ea q3.dropLast h4⟩
      · exact hs.elim
    · exact hs.elim
  · exact hs.elim

/-! ### isinstance -/
def Ty.nm : Ty → String
  | .int => "int" | .str => "str" | .tuple => "tuple" | .list => "list" | .bool => "bool"
theorem ty_at {K : PySem.W.Frag} {ι : List Addr} {S : Store} {H : Hp} {d : D} {v : V} {k : Ty} (r : StRel K ι S H) (q : Rep K ι H d v) (h : kindD S d = some k) : TyX K H v (.type k.nm) := by
  cases d with
  | non => cases h
  | bl b => cases q; cases h; exact .base (.bl b)
  | int b => cases q; cases h; exact .base (.int b)
  | str b => cases q; cases h; exact .base (.str b)
  | tup ds =>
    obtain ⟨a, vs, rfl, t, _⟩ := q
    cases h
    rcases t with t | ⟨o, its, m, e, c, _⟩
    · exact .base (.tup t)
    · exact .kTuple e c
  | ref j =>
    obtain ⟨a, rfl, ea⟩ := q
    unfold kindD at h
    simp only at h
    cases eo : S[j]? with
    | none => rw [eo] at h; cases h
    | some o =>
      rw [eo] at h
      cases h
      have ob := r.obs j o a eo ea
      cases o with
      | lst es => obtain ⟨vs, h1, _⟩ := ob; exact .base (.lst h1)
      | frz es =>
        obtain ⟨vs, h1, _⟩ := ob
        rcases h1 with ⟨o, h1⟩ | ⟨o, its, m, e, c, _⟩
        · exact .base (.frz h1)
        · exact .kList e c
theorem below_kit (K : PySem.W.Frag) (a b : Ty) : PySem.W.kitOne K (.type a.nm) (.type b.nm) = some (a.below b) := by
  refine kit_ty ?_
  cases a <;> cases b <;> decide +kernel
theorem none_kit (K : PySem.W.Frag) (b : Ty) : PySem.W.kitOne K (.type "NoneType") (.type b.nm) = some false := by
  refine kit_ty ?_
  cases b <;> decide +kernel
theorem kit_all {K : PySem.W.Frag} {t : Value} {f : Ty → Bool} (h : ∀ b, PySem.W.kitOne K t (.type b.nm) = some (f b)) : ∀ ts : List Ty, PySem.W.kitAny K t (ts.map fun b => .type b.nm) = some (ts.any f)
  | [] => rfl
  | b :: ts => by
    refine kitAny_cons (h b) (fun e => ?_) fun e => ?_
    · rw [List.any_cons, e, Bool.false_or]
      exact kit_all h ts
    · rw [List.any_cons, e, Bool.true_or]
/-- the type of a value and what isinstance tells -/
theorem inst_at {K : PySem.W.Frag} {ι : List Addr} {S : Store} {H : Hp} {d : D} {v : V} {ts : List Ty} {P : Bool → Store → Prop} (r : StRel K ι S H) (q : Rep K ι H d v) (hs : Sat (isinstD ts d S) P NoEx) :
    ∃ t f, TyX K H v t ∧ (∀ b, PySem.W.kitOne K t (.type b.nm) = some (f b)) ∧ P (ts.any f) S := by
  unfold isinstD at hs
  split at hs
  · cases q
    refine ⟨.type "NoneType", fun _ => false, .base .non, none_kit K, ?_⟩
    have e : (ts.any fun _ => false) = false := by simp
    rw [e]
    exact hs
  · split at hs
    · rename_i k e
      exact ⟨_, k.below, ty_at r q e, below_kit K k, hs⟩
    · exact hs.elim
theorem cls_all : ∀ ts : List Ty, Paired ClsV (ts.map fun b => V.ty b.nm) (ts.map fun b => Value.type b.nm)
  | [] => .nil
  | b :: ts => .cons (.ty _) (cls_all ts)

/-! ### what loops walk -/
/-- J walks these items as long as the source stays -/
def Walks (K : PySem.W.Frag) (J : It) (its : Its) (ι0 : List Addr) (S0 : Store) (H0 : Hp) : Prop :=
  ∀ ι S H, StRel K ι S H → Ext0 ι0 H0 ι H → kept S0 S its.keep →
    (∀ i d, its.items[i]? = some d → J.go i H ∧ ∀ x H', J.yld i H x H' → StRel K ι S H' ∧ Ext ι S H ι S H' ∧ Rep K ι H' d x) ∧ J.stop its.items.length H
/-- what a source asks of its values, and gives -/
def rSrc (K : PySem.W.Frag) (k : Src) (W : List V → Hp → (It → Hp → Prop) → Prop) : Prop :=
  ∀ ι S H ds vs R, StRel K ι S H → Reps K ι H ds vs → Sat (srcD k ds S) (fun its S' => ∀ ι' J H', StRel K ι' S' H' → Ext ι S H ι' S' H' → Walks K J its ι' S' H' → R J H') NoEx → W vs H R
theorem list_now {K : PySem.W.Frag} {ι : List Addr} {S : Store} {H : Hp} {k : Nat} {a : Addr} {ds : List D} (r : StRel K ι S H) (ea : ι[k]? = some a) (h : listOf S (.ref k) = some ds) : ∃ vs, SqL K H a vs ∧ Reps K ι H ds vs := by
  obtain ⟨b, vs, e, h1, h2⟩ := list_at r (d := .ref k) (v := .ref a) ⟨a, rfl, ea⟩ h
  cases e
  exact ⟨vs, h1, h2⟩
theorem walks_list {K : PySem.W.Frag} {ι0 : List Addr} {S0 : Store} {H0 : Hp} {k : Nat} {a : Addr} {ds : List D} (ea : ι0[k]? = some a) (h : listOf S0 (.ref k) = some ds) : Walks K (Itl K a) ⟨ds, [k]⟩ ι0 S0 H0 := by
  intro ι S H r x kp
  have hk : S[k]? = S0[k]? := kp k (by simp)
  have h' : listOf S (.ref k) = some ds := by
    unfold listOf
    simp only
    rw [hk]
    exact h
  obtain ⟨vs, h1, h2⟩ := list_now r (pre_get x.pre ea) h'
  refine ⟨fun i d hd => ?_, vs, h1, by rw [h2.length]; exact Nat.le_refl _⟩
  obtain ⟨v, e1, e2⟩ := h2.get hd
  refine ⟨⟨vs, v, h1, e1⟩, fun y H' ⟨eH, ey⟩ => ?_⟩
  subst eH
  have := ey vs h1
  rw [e1] at this
  cases this
  exact ⟨r, .refl, e2⟩
theorem range_get : ∀ (m : Nat) (lo : Int) (i : Nat) (d : D), (rangeD lo m)[i]? = some d → i < m ∧ d = .int (lo + i)
  | 0, _, i, d, h => by simp [rangeD] at h
  | m + 1, lo, 0, d, h => by
    simp [rangeD] at h
    exact ⟨Nat.succ_pos m, by rw [← h]; simp⟩
  | m + 1, lo, i + 1, d, h => by
    simp only [rangeD, List.getElem?_cons_succ] at h
    obtain ⟨h1, h2⟩ := range_get m (lo + 1) i d h
    refine ⟨Nat.succ_lt_succ h1, ?_⟩
    rw [h2]
    congr 1
    omega
theorem range_len : ∀ (m : Nat) (lo : Int), (rangeD lo m).length = m
  | 0, _ => rfl
  | m + 1, lo => by rw [rangeD, List.length_cons, range_len m]
theorem walks_range {K : PySem.W.Frag} {ι0 : List Addr} {S0 : Store} {H0 : Hp} (lo : Int) (m : Nat) : Walks K (Itr lo m) ⟨rangeD lo m, []⟩ ι0 S0 H0 := by
  intro ι S H r x kp
  refine ⟨fun i d hd => ?_, by show m ≤ (rangeD lo m).length; rw [range_len]; exact Nat.le_refl _⟩
  obtain ⟨h1, h2⟩ := range_get m lo i d hd
  refine ⟨h1, fun y H' ⟨eH, ey⟩ => ?_⟩
  subst eH ey h2
  exact ⟨r, .refl, rfl⟩
theorem enum_get : ∀ (ds : List D) (j i : Nat) (d : D), (enumD j ds)[i]? = some d → ∃ e, ds[i]? = some e ∧ d = .tup [.int ((j + i : Nat) : Int), e]
  | [], _, i, d, h => by simp [enumD] at h
  | e :: ds, j, 0, d, h => by
    simp [enumD] at h
    exact ⟨e, rfl, by rw [← h]; simp⟩
  | e :: ds, j, i + 1, d, h => by
    simp only [enumD, List.getElem?_cons_succ] at h
    obtain ⟨f, h1, h2⟩ := enum_get ds (j + 1) i d h
    refine ⟨f, h1, ?_⟩
    rw [h2]
    congr 4
    omega
theorem enum_len : ∀ (ds : List D) (j : Nat), (enumD j ds).length = ds.length
  | [], _ => rfl
  | e :: ds, j => by rw [enumD, List.length_cons, List.length_cons, enum_len ds]
theorem walks_enum {K : PySem.W.Frag} {ι0 : List Addr} {S0 : Store} {H0 : Hp} {k : Nat} {a : Addr} {ds : List D} (ea : ι0[k]? = some a) (h : listOf S0 (.ref k) = some ds) : Walks K (Ite K a) ⟨enumD 0 ds, [k]⟩ ι0 S0 H0 := by
  intro ι S H r x kp
  have hk : S[k]? = S0[k]? := kp k (by simp)
  have h' : listOf S (.ref k) = some ds := by
    unfold listOf
    simp only
    rw [hk]
    exact h
  obtain ⟨vs, h1, h2⟩ := list_now r (pre_get x.pre ea) h'
  refine ⟨fun i d hd => ?_, vs, h1, by rw [h2.length]; show ds.length ≤ (enumD 0 ds).length; rw [enum_len]; exact Nat.le_refl _⟩
  obtain ⟨e, g1, g2⟩ := enum_get ds 0 i d hd
  obtain ⟨v, e1, e2⟩ := h2.get g1
  refine ⟨⟨vs, v, h1, e1⟩, fun y H' ⟨T, z, ev, hT, eH, ey⟩ => ?_⟩
  subst ev eH g2
  have := ey vs h1
  rw [e1] at this
  cases this
  refine ⟨st_tup r hT, ext_tup r hT, T, _, rfl, .inl upd_same, V.int ((i : Nat) : Int), [v], rfl, ?_, v, [], rfl, e2.ext r (ext_tup r hT), rfl⟩
  show V.int ((i : Nat) : Int) = V.int ((0 + i : Nat) : Int)
  rw [Nat.zero_add]
theorem zip_get : ∀ (xs ys : List D) (i : Nat) (d : D), (zipD xs ys)[i]? = some d → ∃ e f, xs[i]? = some e ∧ ys[i]? = some f ∧ d = .tup [e, f]
  | [], _, i, d, h => by simp [zipD] at h
  | _ :: _, [], i, d, h => by simp [zipD] at h
  | x :: xs, y :: ys, 0, d, h => by
    simp [zipD] at h
    exact ⟨x, y, rfl, rfl, h.symm⟩
  | x :: xs, y :: ys, i + 1, d, h => by
    simp only [zipD, List.getElem?_cons_succ] at h
    obtain ⟨e, f, h1, h2, h3⟩ := zip_get xs ys i d h
    exact ⟨e, f, h1, h2, h3⟩
theorem zip_len : ∀ (xs ys : List D), (zipD xs ys).length = min xs.length ys.length
  | [], _ => by simp [zipD]
  | _ :: _, [] => by simp [zipD]
  | x :: xs, y :: ys => by rw [zipD, List.length_cons, List.length_cons, List.length_cons, zip_len xs ys]; omega
theorem walks_zipL {K : PySem.W.Frag} {ι0 : List Addr} {S0 : Store} {H0 : Hp} {k l : Nat} {a b : Addr} {xs ys : List D} (ea : ι0[k]? = some a) (eb : ι0[l]? = some b) (hx : listOf S0 (.ref k) = some xs) (hy : listOf S0 (.ref l) = some ys) : Walks K (Itz K a b) ⟨zipD xs ys, [k, l]⟩ ι0 S0 H0 := by
  intro ι S H r x kp
  have hk : S[k]? = S0[k]? := kp k (by simp)
  have hl : S[l]? = S0[l]? := kp l (by simp)
  have hx' : listOf S (.ref k) = some xs := by
    unfold listOf
    simp only
    rw [hk]
    exact hx
  have hy' : listOf S (.ref l) = some ys := by
    unfold listOf
    simp only
    rw [hl]
    exact hy
  obtain ⟨vs, h1, h2⟩ := list_now r (pre_get x.pre ea) hx'
  obtain ⟨ws, h3, h4⟩ := list_now r (pre_get x.pre eb) hy'
  refine ⟨fun i d hd => ?_, vs, ws, h1, h3, ?_⟩
  · obtain ⟨e, f, g1, g2, g3⟩ := zip_get xs ys i d hd
    obtain ⟨v, e1, e2⟩ := h2.get g1
    obtain ⟨w, f1, f2⟩ := h4.get g2
    refine ⟨⟨vs, ws, v, w, h1, h3, e1, f1⟩, fun y H' ⟨T, z, z', ev, hT, eH, ey, ey'⟩ => ?_⟩
    subst ev eH g3
    have q1 := ey vs h1
    have q2 := ey' ws h3
    rw [e1] at q1
    rw [f1] at q2
    cases q1
    cases q2
    exact ⟨st_tup r hT, ext_tup r hT, T, _, rfl, .inl upd_same, v, [w], rfl, e2.ext r (ext_tup r hT), w, [], rfl, f2.ext r (ext_tup r hT), rfl⟩
  · show vs.length ≤ (zipD xs ys).length ∨ ws.length ≤ (zipD xs ys).length
    rw [zip_len, h2.length, h4.length]
    omega
end
end Ev

set_option Elab.async false
set_option linter.all false
set_option maxRecDepth 100000
set_option maxHeartbeats 1000000
set_option autoImplicit false
/-! EvE: which trees of the program are which of the language. -/
namespace Ev
open PySem PySem.Spec PyProof.Rows L2
/-! ### shapes of the program's trees -/
def notStar : Expr → Bool
  | .Starred .. => false
  | _ => true
theorem star_cons {e : Expr} {es : List Expr} {env : PySem.Env} (h : notStar e = true) : starEach (e :: es) env = (false, eval e env) :: starEach es env := by
  cases e <;> first | rfl | cases h
theorem star_any {pos : Pos} {env : PySem.Env} : ∀ {es : List Expr}, es.all notStar = true → (backTo pos (starEach es env)).any (·.1) = false
  | [], _ => rfl
  | e :: es, h => by
    rw [List.all_cons, Bool.and_eq_true] at h
    rw [star_cons h.1]
    exact star_any h.2
def plainTest : Expr → Bool
  | .UnaryOp .Not _ _ => false
  | .BoolOp .. => false
  | .IfExp .. => false
  | .Compare .. => false
  | _ => true
theorem plain_test {e : Expr} {env : PySem.Env} (h : plainTest e = true) (whole : Sem Value) : isTrue e env whole = (do let v ← whole; standAt e.pos; holding [v] (truthy v)) := by
  cases e <;> first | rfl | cases h | skip
  rename_i op x pos
  cases op <;> first | rfl | cases h
def notSet : Expr → Bool
  | .Set .. => false
  | _ => true
theorem nomark' {op : CmpOp} {e : Expr} (h : notSet e = true) : behindInMarks op e = false := by
  cases e <;> first | rfl | cases h
theorem last_marks {op op' : CmpOp} {a b : Expr} (h : notSet b = true) : lastMarks [op, op'] [a, b] = false := nomark' h
def plainIx : Expr → Bool
  | .Slice .. => false
  | _ => true
theorem plain_ix {e : Expr} (h : plainIx e = true) : PlainIx e := by
  intro o i
  cases e <;> first | rfl | cases h
theorem folded {e : Expr} {env : PySem.Env} (h : notSet e = true) (x : Value) : foldedSetIterable e env x = pure x := by
  cases e <;> first | rfl | cases h
def notComp : Expr → Bool
  | .ListComp .. => false
  | .SetComp .. => false
  | .DictComp .. => false
  | _ => true
theorem swaps_no {e : Expr} {t : Option Expr} {l : Nat} {env : PySem.Env} (h : notComp e = true) : swapsWith e t l env = pure false := by
  cases e <;> first | rfl | cases h
theorem assign_each {e : Expr} {es : List Expr} {env : PySem.Env} (h : notStar e = true) : assignEach (e :: es) env = (false, assign e env) :: assignEach es env := by
  cases e <;> first | rfl | cases h

/-- what stands ahead of a dot: no f() -/
def attrOk : Expr → Bool
  | .Call (.Name ..) [] [] _ => false
  | _ => true
theorem attr_base {e : Expr} {f : Str} {env : PySem.Env} (h : attrOk e = true) : attributeBase e f env (eval e env) = eval e env := by
  unfold attributeBase
  split
  · cases h
  · rfl
/-! ### what matches what -/
structure Cfg where
  N : List Str
  fns : List Fn
  cons : List (Str × D)
def glb (sc : Scope) (x : Str) : Bool := sc.names.lookup x == some .globalImplicit && x != "__debug__"
def vis (sc : Scope) (x : Str) : Bool := (sc.names.lookup x == some .local || sc.names.lookup x == some .cell || sc.names.lookup x == some .free) && x != "__debug__" && x != "__classdict__"
def loc (sc : Scope) (x : Str) : Bool := sc.names.lookup x == some .local || sc.names.lookup x == some .cell
def conOk : D → Const → Bool
  | .non, .none => true
  | .bl b, .bool c => b == c
  | .int i, .int j => i == j
  | .str x, .str y => x == y
  | _, _ => false
def tyOk (t : Ty) : Expr → Bool
  | .Name x _ => x == (t.nm : Str)
  | _ => false
def tysOk (sc : Scope) : List Ty → Expr → Bool
  | [t], .Name x _ => x == (t.nm : Str) && glb sc x
  | ts, .Tuple xs _ _ => decide (ts.length ≤ 100) && ts.length == xs.length && (ts.zip xs).all (fun p => tyOk p.1 p.2) && (xs.all fun e => match e with | .Name x _ => glb sc x | _ => false)
  | _, _ => false
def Me.nm : Me → String
  | .append => "append" | .extend => "extend" | .pop => "pop"
def nameAt (N : List Str) (i : Nat) : Expr → Bool
  | .Name x _ => N[i]? == some x
  | _ => false
def namesAt (N : List Str) (ok : Str → Bool) : List Nat → List Expr → Bool
  | [], [] => true
  | i :: is, .Name x _ :: es => N[i]? == some x && ok x && namesAt N ok is es
  | _, _ => false
def tgOk (N : List Str) (ok : Str → Bool) : Tg → Expr → Bool
  | .name i, .Name x _ => N[i]? == some x && ok x
  | .tup is, .Tuple es _ _ => namesAt N ok is es
  | .two i is, .Tuple [.Name x _, .Tuple es _ _] _ _ => N[i]? == some x && ok x && namesAt N ok is es
  | _, _ => false
def isTup : Expr → Bool
  | .Tuple .. => true
  | _ => false
/-- the values that a source asks -/
def srcArgs (sc : Scope) : Src → Expr → Expr → Option (List Expr)
  | .seq, iter, _ => if notSet iter then some [iter] else none
  | .range, .Call (.Name x _) xs [] _, _ => if x == ("range" : Str) && glb sc x && (xs.length == 1 || xs.length == 2) then some xs else none
  | .enum, .Call (.Name x _) xs [] _, tg => if x == ("enumerate" : Str) && glb sc x && xs.length == 1 && isTup tg then some xs else none
  | .zip, .Call (.Name x _) xs [] _, tg => if x == ("zip" : Str) && glb sc x && xs.length == 2 && isTup tg then some xs else none
  | _, _, _ => none
/-- the places that a target stores -/
def Tg.at : Tg → List Nat
  | .name i => [i]
  | .tup is => is
  | .two i is => i :: is
mutual
def mE (c : Cfg) (sc : Scope) : IE → Expr → Bool
  | .var i, .Name x _ => c.N[i]? == some x && vis sc x
  | .con d, .Constant k _ _ => conOk d k
  | .glob x d, .Name y _ => x == y && glb sc y && (match c.cons.lookup y with | some e => D.same e d | none => false)
  | .bin o a b, .BinOp x p y _ => p == o.op && mE c sc a x && mE c sc b y
  | .neg a, .UnaryOp p x _ => p == .USub && mE c sc a x
  | .not a, .UnaryOp p x _ => p == .Not && mE c sc a x
  | .cmp o a b, .Compare x [p] [y] _ => p == o.op && mE c sc a x && mE c sc b y && notSet y
  | .chain o o' a b d, .Compare x [p, p'] [y, z] _ => p == o.op && p' == o'.op && mE c sc a x && mE c sc b y && mE c sc d z && notSet z
  | .and a b, .BoolOp p es pos => match es with
    | [x, y] => p == .And && mE c sc a x && mE c sc b y
    | x :: y :: z :: r => p == .And && mE c sc a x && mE c sc b (.BoolOp .And (y :: z :: r) pos)
    | _ => false
  | .or a b, .BoolOp p es pos => match es with
    | [x, y] => p == .Or && mE c sc a x && mE c sc b y
    | x :: y :: z :: r => p == .Or && mE c sc a x && mE c sc b (.BoolOp .Or (y :: z :: r) pos)
    | _ => false
  | .ite t a b, .IfExp z x y _ => mE c sc t z && mE c sc a x && mE c sc b y
  | .tup es, .Tuple xs _ _ => mEs c sc es xs
  | .lst es, .List xs _ => mEs c sc es xs
  | .idx a i, .Subscript x y _ => mE c sc a x && mE c sc i y && plainIx y
  | .slice a lo hi, .Subscript x (.Slice l h none _) _ => mE c sc a x && mO c sc lo l && mO c sc hi h
  | .call f es, .Call (.Name x _) xs [] _ => (match c.fns[f]? with | some fn => fn.name == x | none => false) && glb sc x && mEs c sc es xs
  | .bi b es, .Call (.Name x _) xs [] _ => x == (b.name : Str) && glb sc x && mEs c sc es xs && !xs.isEmpty
  | .isinst a ts, .Call (.Name x _) [y, t] [] _ => x == ("isinstance" : Str) && glb sc x && mE c sc a y && notStar y && tysOk sc ts t
  | .meth m o es, .Call (.Attribute x name apos) xs [] pos => name == (m.nm : Str) && mE c sc o x && mEs c sc es xs && attrOk x && (apos.endLine == pos.line) && decide (xs.length < 20)
  | .comp own t k src cd e, .ListComp elt [⟨tg, iter, ifs, 0⟩] scope _ =>
    blkC c.N sc scope own && (t.at.all fun i => (own.map (·.2)).contains i) && (match srcArgs sc k iter tg with | some xs => mEs c sc src xs | none => false) && tgOk c.N (loc scope) t tg && mC c (relS scope sc) cd ifs && mE c (relS scope sc) e elt
  | .comp2 own t k src cd own2 t2 k2 src2 cd2 e, .ListComp elt [⟨tg, iter, ifs, 0⟩, ⟨tg2, iter2, ifs2, 0⟩] scope _ =>
    blkC c.N sc scope own && (t.at.all fun i => (own.map (·.2)).contains i) && (match srcArgs sc k iter tg with | some xs => mEs c sc src xs | none => false) && tgOk c.N (loc scope) t tg && mC c (relS scope sc) cd ifs &&
      (own2.all fun i => (own.map (·.2)).contains i) && (t2.at.all fun i => own2.contains i) && (match srcArgs (relS scope sc) k2 iter2 tg2 with | some xs => mEs c (relS scope sc) src2 xs | none => false) && tgOk c.N (loc scope) t2 tg2 && mC c (relS scope sc) cd2 ifs2 && mE c (relS scope sc) e elt
  | _, _ => false
def mEs (c : Cfg) (sc : Scope) : IEs → List Expr → Bool
  | .nil, [] => true
  | .cons e es, x :: xs => mE c sc e x && notStar x && mEs c sc es xs
  | _, _ => false
def mO (c : Cfg) (sc : Scope) : IO → Option Expr → Bool
  | .none, none => true
  | .some e, some x => mE c sc e x
  | _, _ => false
def mC (c : Cfg) (sc : Scope) : IO → List Expr → Bool
  | .none, [] => true
  | .some e, [x] => mE c sc e x
  | _, _ => false
end
end Ev

set_option Elab.async false
set_option linter.all false
set_option maxRecDepth 100000
set_option maxHeartbeats 2000000
set_option autoImplicit false
/-! EvF: an expression of the program does what its tree in the language says. -/
namespace Ev
open PySem PySem.Spec PyProof.Rows L2
abbrev Mg := Str → Option Value
/-- an own exception of the class c that bears v is wanted -/
def ExE (K : PySem.W.Frag) (mg : Mg) (ι : List Addr) (S : Store) (H : Hp) (P : Value → Option Addr → Hp → Prop) (c : Str) (d : D) (S' : Store) : Prop :=
  ∀ ι' v H' C dx, StRel K ι' S' H' → Ext ι S H ι' S' H' → Rep K ι' H' d v → mg c = some (.ref C) → H' dx = some (.xd [(("at" : Str), v)]) → P (.ref C) (some dx) H'
theorem ExE.of {K : PySem.W.Frag} {mg : Mg} {ι ι' : List Addr} {S S' : Store} {H H' : Hp} {P : Value → Option Addr → Hp → Prop} {c : Str} {d : D} {S2 : Store} (x : Ext ι S H ι' S' H') (h : ExE K mg ι S H P c d S2) : ExE K mg ι' S' H' P c d S2 :=
  fun ι2 v H2 C dx r y q e1 e2 => h ι2 v H2 C dx r (x.trans y) q e1 e2
theorem OkE.of {K : PySem.W.Frag} {ι ι' : List Addr} {S S' : Store} {H H' : Hp} {Q : VK} {d : D} {S2 : Store} (x : Ext ι S H ι' S' H') (h : OkE K ι S H Q d S2) : OkE K ι' S' H' Q d S2 :=
  fun ι2 v H2 r y q => h ι2 v H2 r (x.trans y) q
/-- the reading of an expression; of a test; of arguments; of a source -/
def tD (K : PySem.W.Frag) (mg : Mg) (W : WX) (f : Env → M D) : TE := fun σ H Q => ∃ ι δ S, StRel K ι S H ∧ EnvRel K ι H δ σ ∧ Sat (f δ S) (OkE K ι S H Q) (ExE K mg ι S H fun c d H' => W c d σ H')
def tT (K : PySem.W.Frag) (mg : Mg) (W : WX) (f : Env → M Bool) : TT := fun σ H Q => ∃ ι δ S, StRel K ι S H ∧ EnvRel K ι H δ σ ∧
  Sat (f δ S) (fun b S' => ∀ ι' H', StRel K ι' S' H' → Ext ι S H ι' S' H' → Q b H') (ExE K mg ι S H fun c d H' => W c d σ H')
def tA (K : PySem.W.Frag) (mg : Mg) (W : WX) (f : Env → M (List D)) : TA := fun σ H Q => ∃ ι δ S, StRel K ι S H ∧ EnvRel K ι H δ σ ∧
  Sat (f δ S) (fun ds S' => ∀ ι' vs H', StRel K ι' S' H' → Ext ι S H ι' S' H' → Reps K ι' H' ds vs → Q vs H') (ExE K mg ι S H fun c d H' => W c d σ H')
def tI (K : PySem.W.Frag) (mg : Mg) (W : WX) (f : Env → M Its) : TI := fun σ H R => ∃ ι δ S, StRel K ι S H ∧ EnvRel K ι H δ σ ∧
  Sat (f δ S) (fun its S' => ∀ ι' J H', StRel K ι' S' H' → Ext ι S H ι' S' H' → Walks K J its ι' S' H' → R J H') (ExE K mg ι S H fun c d H' => W c d σ H')

theorem _root_.L2.PE.mono {X : Cx} {e : Expr} {t t' : TE} (h : PE X e t) (m : ∀ σ H Q, t' σ H Q → t σ H Q) : PE X e t' := ⟨fun pins s σ H Q I w => h.run pins s σ H Q I (m σ H Q w)⟩
theorem _root_.L2.PT.mono {X : Cx} {e : Expr} {t t' : TT} (h : PT X e t) (m : ∀ σ H Q, t' σ H Q → t σ H Q) : PT X e t' := ⟨fun pins s σ H Q I w => h.run pins s σ H Q I (m σ H Q w)⟩
theorem _root_.L2.PW.mono {X : Cx} {e : Expr} {t t' : TT} (h : PW X e t) (m : ∀ σ H Q, t' σ H Q → t σ H Q) : PW X e t' := ⟨fun wh pins s σ H Q I w => h.run wh pins s σ H Q I (m σ H Q w)⟩
theorem _root_.L2.PA.mono {X : Cx} {es : List Expr} {t t' : TA} (h : PA X es t) (m : ∀ σ H Q, t' σ H Q → t σ H Q) : PA X es t' := ⟨fun pos pins s σ H Q I w => h.run pos pins s σ H Q I (m σ H Q w)⟩
theorem _root_.L2.PI.mono {X : Cx} {tg iter : Expr} {t t' : TI} (h : PI X tg iter t) (m : ∀ σ H Q, t' σ H Q → t σ H Q) : PI X tg iter t' := ⟨fun pins s σ H Q I w => h.run pins s σ H Q I (m σ H Q w)⟩

section
variable {K : PySem.W.Frag} {mg : Mg} {W : WX}
/-- a, then what it is for -/
theorem tD_bind {f : Env → M D} {g : D → Env → M D} {σ : L2.St} {H : Hp} {Q : VK} (h : tD K mg W (fun δ => M.bind (f δ) fun d => g d δ) σ H Q) :
    tD K mg W f σ H fun v H1 => ∃ d ι δ S, StRel K ι S H1 ∧ EnvRel K ι H1 δ σ ∧ Rep K ι H1 d v ∧ Sat (g d δ S) (OkE K ι S H1 Q) (ExE K mg ι S H1 fun c d H' => W c d σ H') := by
  obtain ⟨ι, δ, S, r, e, hs⟩ := h
  refine ⟨ι, δ, S, r, e, (Sat.bind hs).mono (fun d S1 h1 ι1 v H1 r1 x1 q1 => ?_) fun _ _ _ z => z⟩
  exact ⟨d, ι1, δ, S1, r1, e.ext r x1, q1, h1.mono (fun d2 S2 h2 => h2.of x1) fun c d2 S2 h2 => h2.of x1⟩
/-- the same, with an elder value kept -/
theorem tD_bind2 {f : Env → M D} {g : D → D → M D} {d1 : D} {v1 : V} {σ : L2.St} {H : Hp} {Q : VK}
    (h : ∃ ι δ S, StRel K ι S H ∧ EnvRel K ι H δ σ ∧ Rep K ι H d1 v1 ∧ Sat (M.bind (f δ) (fun d => g d1 d) S) (OkE K ι S H Q) (ExE K mg ι S H fun c d H' => W c d σ H')) :
    tD K mg W f σ H fun v H1 => ∃ d ι S, StRel K ι S H1 ∧ Rep K ι H1 d1 v1 ∧ Rep K ι H1 d v ∧ Sat (g d1 d S) (OkE K ι S H1 Q) (ExE K mg ι S H1 fun c d H' => W c d σ H') := by
  obtain ⟨ι, δ, S, r, e, q, hs⟩ := h
  refine ⟨ι, δ, S, r, e, (Sat.bind hs).mono (fun d S1 h1 ι1 v H1 r1 x1 q1 => ?_) fun _ _ _ z => z⟩
  exact ⟨d, ι1, S1, r1, q.ext r x1, q1, h1.mono (fun d2 S2 h2 => h2.of x1) fun c d2 S2 h2 => h2.of x1⟩
end

/-- what stands fast of the def's names -/
structure Sc (X : Cx) (c : Cfg) (sc : Scope) : Prop where
  scope : X.env.scope = sc
  N : X.N = c.N
theorem Sc.glb {X : Cx} {c : Cfg} {sc : Scope} (s : Sc X c sc) {x : Str} (h : Ev.glb sc x = true) : Gl X x ∧ (x == ("__debug__" : Str)) = false := by
  unfold Ev.glb at h
  rw [Bool.and_eq_true] at h
  refine ⟨?_, ?_⟩
  · show X.env.scope.names.lookup x = _
    rw [s.scope]
    exact eq_of_beq h.1
  · have := h.2
    rw [bne, Bool.not_eq_true'] at this
    exact this
theorem Sc.vis {X : Cx} {c : Cfg} {sc : Scope} (s : Sc X c sc) {x : Str} (h : Ev.vis sc x = true) : Vis X.env.scope x ∧ (x == ("__debug__" : Str)) = false ∧ (x == ("__classdict__" : Str)) = false := by
  unfold Ev.vis at h
  rw [Bool.and_eq_true, Bool.and_eq_true, Bool.or_eq_true, Bool.or_eq_true] at h
  refine ⟨?_, ?_, ?_⟩
  · rw [s.scope]
    rcases h.1.1 with (h | h) | h
    · exact .inl (eq_of_beq h)
    · exact .inr (.inl (eq_of_beq h))
    · exact .inr (.inr (eq_of_beq h))
  · have := h.1.2
    rw [bne, Bool.not_eq_true'] at this
    exact this
  · have := h.2
    rw [bne, Bool.not_eq_true'] at this
    exact this

/-! ### the sources of loops -/
theorem pi_seq {X : Cx} {tg l : Expr} {tl : TE} (hl : PE X l tl) : PI X tg l (fun σ H R => tl σ H fun x H1 => ∃ a, x = .ref a ∧ ((∃ xs, SqL X.K H1 a xs ∧ R (Itl X.K a) H1) ∨ ∃ xs, SqT X.K H1 a xs ∧ R (Itt X.K a) H1)) := by
  refine ⟨fun pins s σ H R I h => ?_⟩
  refine thn (hl.run pins s σ H _ I h) fun v s1 ⟨x, H1, I1, r1, q1⟩ => ?_
  obtain ⟨a, e, ⟨xs, hq, q⟩ | ⟨xs, hq, q⟩⟩ := q1
  · subst e
    cases r1
    obtain ⟨its, rv, p, hz⟩ := I1.list hq
    refine wpAny_pyIter_list p.isList ?_
    refine ⟨s1.heap.objs.size, [s1.heap.objs.size], _, _, H1, rfl, I1.kept (t' := s1.toks) fun b o e => Heap.get?_push_of_some _ e, turn_list a _, ⟨_, Heap.get?_push_size _ rfl, rfl, rfl⟩, fun b hb => ?_, q⟩
    have e : b = s1.heap.objs.size := by simpa using hb
    subst e
    exact I1.fpOk (Nat.le_refl _) (I1.hok.fresh (Nat.le_refl _))
  · subst e
    cases r1
    obtain ⟨its, rv, p, hz⟩ := I1.tuple hq
    refine wpAny_pyIter_tuple (show s1.heap.IsTuple a its.toArray from p) ?_
    refine ⟨s1.heap.objs.size, [s1.heap.objs.size], _, _, H1, rfl, I1.kept (t' := s1.toks) fun b o e => Heap.get?_push_of_some _ e, turn_tuple a _, ⟨_, Heap.get?_push_size _ rfl, rfl, rfl⟩, fun b hb => ?_, q⟩
    have e : b = s1.heap.objs.size := by simpa using hb
    subst e
    exact I1.fpOk (Nat.le_refl _) (I1.hok.fresh (Nat.le_refl _))
theorem walks_tup' {K : PySem.W.Frag} {ι0 : List Addr} {S0 : Store} {H0 : Hp} {a : Addr} {ds : List D} {vs : List V} (t : TupAt K H0 a vs) (q : Reps K ι0 H0 ds vs) : Walks K (Itt K a) ⟨ds, []⟩ ι0 S0 H0 := by
  intro ι S H r x kp
  have t' := t.ext0 x
  have q' := q.ext0 x
  refine ⟨fun i d hd => ?_, vs, t'.sq, by rw [q'.length]; exact Nat.le_refl _⟩
  obtain ⟨v, e1, e2⟩ := q'.get hd
  refine ⟨⟨vs, v, t'.sq, e1⟩, fun y H' ⟨eH, ey⟩ => ?_⟩
  subst eH
  have := ey vs t'.sq
  rw [e1] at this
  cases this
  exact ⟨r, .refl, e2⟩
theorem walks_zipT {K : PySem.W.Frag} {ι0 : List Addr} {S0 : Store} {H0 : Hp} {a b : Addr} {xs ys : List D} {vs ws : List V} (ta : TupAt K H0 a vs) (tb : TupAt K H0 b ws) (qa : Reps K ι0 H0 xs vs) (qb : Reps K ι0 H0 ys ws) :
    Walks K (RZ.ItzT K a b) ⟨zipD xs ys, []⟩ ι0 S0 H0 := by
  intro ι S H r x kp
  have h1 := (ta.ext0 x).sq
  have h3 := (tb.ext0 x).sq
  have h2 := qa.ext0 x
  have h4 := qb.ext0 x
  refine ⟨fun i d hd => ?_, vs, ws, h1, h3, ?_⟩
  · obtain ⟨e, f, g1, g2, g3⟩ := zip_get xs ys i d hd
    obtain ⟨v, e1, e2⟩ := h2.get g1
    obtain ⟨w, f1, f2⟩ := h4.get g2
    refine ⟨⟨vs, ws, v, w, h1, h3, e1, f1⟩, fun y H' ⟨T, z, z', ev, hT, eH, ey, ey'⟩ => ?_⟩
    subst ev eH g3
    have q1 := ey vs h1
    have q2 := ey' ws h3
    rw [e1] at q1
    rw [f1] at q2
    cases q1
    cases q2
    exact ⟨st_tup r hT, ext_tup r hT, T, _, rfl, .inl upd_same, v, [w], rfl, e2.ext r (ext_tup r hT), w, [], rfl, f2.ext r (ext_tup r hT), rfl⟩
  · show vs.length ≤ (zipD xs ys).length ∨ ws.length ≤ (zipD xs ys).length
    rw [zip_len, h2.length, h4.length]
    omega
/-- the names of built-ins that the language knows -/
def blts : List Str := ["len", "abs", "int", "all", "any", "sum", "tuple", "list", "min", "max", "isinstance", "range", "enumerate", "zip", "str", "bool", "sorted"]
theorem Sat.bind' {α β : Type} {m : M α} {f : α → M β} {S : Store} {ok : β → Store → Prop} {ex : Str → D → Store → Prop} (h : Sat (M.bind m f S) ok ex) : Sat (m S) (fun a S1 => m S = .ok a S1 ∧ Sat (f a S1) ok ex) ex := by
  unfold M.bind at h
  cases e : m S with
  | ok a S1 => rw [e] at h; exact ⟨rfl, h⟩
  | exc c v S1 => rw [e] at h; exact h
  | bad => rw [e] at h; exact h
/-- arguments, then the source's own step -/
theorem tI_bind {K : PySem.W.Frag} {mg : Mg} {W : WX} {f : Env → M (List D)} {g : List D → M Its} {σ : L2.St} {H : Hp} {R : It → Hp → Prop} (h : tI K mg W (fun δ => M.bind (f δ) g) σ H R) :
    tA K mg W f σ H fun vs H1 => ∃ ds ι S, StRel K ι S H1 ∧ Reps K ι H1 ds vs ∧ (∃ δ S0 S1, f δ S0 = .ok ds S1) ∧ Sat (g ds S) (fun its S' => ∀ ι' J H', StRel K ι' S' H' → Ext ι S H1 ι' S' H' → Walks K J its ι' S' H' → R J H') (ExE K mg ι S H1 fun c d H' => W c d σ H') := by
  obtain ⟨ι, δ, S, r, e, hs⟩ := h
  refine ⟨ι, δ, S, r, e, (Sat.bind' hs).mono (fun ds S1 ⟨he, h1⟩ ι1 vs H1 r1 x1 q1 => ?_) fun _ _ _ z => z⟩
  exact ⟨ds, ι1, S1, r1, q1, ⟨δ, S, S1, he⟩, h1.mono (fun its S2 h2 ι' J H' r' x' w => h2 ι' J H' r' (x1.trans x') w) fun c d2 S2 h2 => h2.of x1⟩
theorem seq_inv {ds : List D} {S : Store} {P : Its → Store → Prop} {E : Str → D → Store → Prop} (h : Sat (srcD .seq ds S) P E) : ∃ d xs, ds = [d] ∧ seqOf S d = some xs ∧ P ⟨xs, keepOf d⟩ S := by
  match ds, h with
  | [d], h =>
    unfold srcD at h
    simp only at h
    cases e : seqOf S d with
    | none => rw [e] at h; exact h.elim
    | some xs => rw [e] at h; exact ⟨d, xs, rfl, e, h⟩
  | [], h => exact h.elim
  | _ :: _ :: _, h => exact h.elim
theorem enum_inv {ds : List D} {S : Store} {P : Its → Store → Prop} {E : Str → D → Store → Prop} (h : Sat (srcD .enum ds S) P E) : ∃ k xs, ds = [.ref k] ∧ listOf S (.ref k) = some xs ∧ P ⟨enumD 0 xs, [k]⟩ S := by
  match ds, h with
  | [d], h =>
    unfold srcD at h
    simp only at h
    cases e : listOf S d with
    | none => rw [e] at h; exact h.elim
    | some xs =>
      rw [e] at h
      cases d with
      | ref k => exact ⟨k, xs, rfl, e, h⟩
      | _ => cases e
  | [], h => exact h.elim
  | _ :: _ :: _, h => exact h.elim
theorem range_inv {ds : List D} {S : Store} {P : Its → Store → Prop} {E : Str → D → Store → Prop} (h : Sat (srcD .range ds S) P E) :
    (∃ m : Int, ds = [.int m] ∧ -(2 ^ 62) ≤ m ∧ m < 2 ^ 62 ∧ P ⟨rangeD 0 m.toNat, []⟩ S) ∨ ∃ l m : Int, ds = [.int l, .int m] ∧ (-(2 ^ 62) ≤ l ∧ l < 2 ^ 62 ∧ -(2 ^ 62) ≤ m ∧ m < 2 ^ 62) ∧ P ⟨rangeD l (m - l).toNat, []⟩ S := by
  unfold srcD at h
  split at h
  · contradiction
  · rename_i e1 e2
    split at h
    · rename_i hc
      exact .inl ⟨_, rfl, hc.1, hc.2, h⟩
    · exact h.elim
  · split at h
    · rename_i hc
      exact .inr ⟨_, _, rfl, hc, h⟩
    · exact h.elim
  · contradiction
  · contradiction
  · contradiction
  · exact h.elim
theorem zip_inv {ds : List D} {S : Store} {P : Its → Store → Prop} {E : Str → D → Store → Prop} (h : Sat (srcD .zip ds S) P E) :
    (∃ xs ys, ds = [.tup xs, .tup ys] ∧ P ⟨zipD xs ys, []⟩ S) ∨ ∃ k l xs ys, ds = [.ref k, .ref l] ∧ listOf S (.ref k) = some xs ∧ listOf S (.ref l) = some ys ∧ P ⟨zipD xs ys, [k, l]⟩ S := by
  unfold srcD at h
  split at h
  · contradiction
  · contradiction
  · contradiction
  · contradiction
  · exact .inl ⟨_, _, rfl, h⟩
  · split at h
    · rename_i e1 e2
      exact .inr ⟨_, _, _, _, rfl, e1, e2, h⟩
    · exact h.elim
  · exact h.elim
theorem len1 {α : Type} {xs : List α} (h : (xs.length == 1) = true) : ∃ x, xs = [x] := by
  match xs, h with
  | [x], _ => exact ⟨x, rfl⟩
theorem len2 {α : Type} {xs : List α} (h : (xs.length == 2) = true) : ∃ x y, xs = [x, y] := by
  match xs, h with
  | [x, y], _ => exact ⟨x, y, rfl⟩
theorem src_ok {X : Cx} {c : Cfg} {sc : Scope} {W : WX} {k : Src} {iter tg : Expr} {xs : List Expr} {f : Env → M (List D)} (s : Sc X c sc) (B : ∀ x ∈ blts, X.mg x = none) (ha : PA X xs (tA X.K X.mg W f)) (hx : xs.all notStar = true)
    (hlen : ∀ δ S ds S', f δ S = .ok ds S' → ds.length = xs.length) (h1 : ∀ x, xs = [x] → PE X x (fun σ H Q => tA X.K X.mg W f σ H fun vs H1 => ∃ v, vs = [v] ∧ Q v H1)) (h : srcArgs sc k iter tg = some xs) : PI X tg iter (tI X.K X.mg W (fun δ => M.bind (f δ) (srcD k))) := by
  unfold srcArgs at h
  split at h
  · -- a list or a tuple
    split at h
    · cases h
      refine (pi_seq (h1 _ rfl)).mono fun σ H R w => ?_
      obtain ⟨ι, δ, S, r, e, hs⟩ := tI_bind w
      refine ⟨ι, δ, S, r, e, hs.mono (fun ds S1 h1 ι1 vs H1 r1 x1 q1 => ?_) fun _ _ _ z => z⟩
      obtain ⟨ds', ι2, S2, r2, q2, he, hs2⟩ := h1 ι1 vs H1 r1 x1 q1
      obtain ⟨d, ys, rfl, e2, hs2⟩ := seq_inv hs2
      obtain ⟨v, rfl, q3⟩ := reps1 q2
      refine ⟨v, rfl, ?_⟩
      cases d with
      | tup es =>
        cases e2
        obtain ⟨a, ws, rfl, t, q4⟩ := q3
        exact ⟨a, rfl, .inr ⟨ws, t.sq, hs2 ι2 _ H1 r2 .refl (walks_tup' t q4)⟩⟩
      | ref j =>
        obtain ⟨a, rfl, ea⟩ := q3
        have e2' : listOf S2 (.ref j) = some ys := e2
        obtain ⟨ws, h3, h4⟩ := list_now r2 ea e2'
        exact ⟨a, rfl, .inl ⟨ws, h3, hs2 ι2 _ H1 r2 .refl (walks_list ea e2')⟩⟩
      | _ => cases e2
    · cases h
  · -- range
    split at h
    · rename_i hc
      cases h
      rw [Bool.and_eq_true, Bool.and_eq_true, Bool.or_eq_true] at hc
      obtain ⟨⟨hn, hg⟩, hl⟩ := hc
      cases eq_of_beq hn
      rcases hl with hl | hl
      · obtain ⟨x, rfl⟩ := len1 hl
        refine (pi_range1 (s.glb hg).1 (B _ (by decide)) ha (star_cons (by simpa using hx))).mono fun σ H R w => ?_
        obtain ⟨ι, δ, S, r, e, hs⟩ := tI_bind w
        refine ⟨ι, δ, S, r, e, hs.mono (fun ds S1 h1 ι1 vs H1 r1 x1 q1 => ?_) fun _ _ _ z => z⟩
        obtain ⟨ds', ι2, S2, r2, q2, he, hs2⟩ := h1 ι1 vs H1 r1 x1 q1
        rcases range_inv hs2 with ⟨m, rfl, a1, a2, hs2⟩ | ⟨l, m, rfl, a1, hs2⟩
        · obtain ⟨v, rfl, q3⟩ := reps1 q2
          cases q3
          exact ⟨m, rfl, a1, a2, hs2 ι2 _ H1 r2 .refl (walks_range 0 _)⟩
        · obtain ⟨δ', S', S'', he⟩ := he
          cases hlen _ _ _ _ he
      · obtain ⟨x, y, rfl⟩ := len2 hl
        have hx' : notStar x = true ∧ notStar y = true := by simpa using hx
        refine (pi_range2 (s.glb hg).1 (B _ (by decide)) ha ((star_cons hx'.1).trans (by rw [star_cons hx'.2]; rfl)) (star_cons hx'.2)).mono fun σ H R w => ?_
        obtain ⟨ι, δ, S, r, e, hs⟩ := tI_bind w
        refine ⟨ι, δ, S, r, e, hs.mono (fun ds S1 h1 ι1 vs H1 r1 x1 q1 => ?_) fun _ _ _ z => z⟩
        obtain ⟨ds', ι2, S2, r2, q2, he, hs2⟩ := h1 ι1 vs H1 r1 x1 q1
        rcases range_inv hs2 with ⟨m, rfl, a1, a2, hs2⟩ | ⟨l, m, rfl, a1, hs2⟩
        · obtain ⟨δ', S', S'', he⟩ := he
          cases hlen _ _ _ _ he
        · obtain ⟨v, w, rfl, q3, q4⟩ := reps2 q2
          cases q3
          cases q4
          exact ⟨l, m, rfl, a1, hs2 ι2 _ H1 r2 .refl (walks_range l _)⟩
    · cases h
  · -- enumerate
    split at h
    · rename_i hc
      cases h
      rw [Bool.and_eq_true, Bool.and_eq_true, Bool.and_eq_true] at hc
      obtain ⟨⟨⟨hn, hg⟩, hl⟩, ht⟩ := hc
      cases eq_of_beq hn
      obtain ⟨x, rfl⟩ := len1 hl
      cases tg with
      | Tuple elts kk tpos =>
        refine (pi_enum (s.glb hg).1 (B _ (by decide)) ha (star_cons (by simpa using hx))).mono fun σ H R w => ?_
        obtain ⟨ι, δ, S, r, e, hs⟩ := tI_bind w
        refine ⟨ι, δ, S, r, e, hs.mono (fun ds S1 h1 ι1 vs H1 r1 x1 q1 => ?_) fun _ _ _ z => z⟩
        obtain ⟨ds', ι2, S2, r2, q2, he, hs2⟩ := h1 ι1 vs H1 r1 x1 q1
        obtain ⟨j, ys, rfl, e2, hs2⟩ := enum_inv hs2
        obtain ⟨v, rfl, a, rfl, ea⟩ := reps1 q2
        obtain ⟨ws, h3, h4⟩ := list_now r2 ea e2
        exact ⟨a, ws, rfl, h3, hs2 ι2 _ H1 r2 .refl (walks_enum ea e2)⟩
      | _ => cases ht
    · cases h
  · -- zip
    split at h
    · rename_i hc
      cases h
      rw [Bool.and_eq_true, Bool.and_eq_true, Bool.and_eq_true] at hc
      obtain ⟨⟨⟨hn, hg⟩, hl⟩, ht⟩ := hc
      cases eq_of_beq hn
      obtain ⟨x, y, rfl⟩ := len2 hl
      cases tg with
      | Tuple elts kk tpos =>
        have hx' : notStar x = true ∧ notStar y = true := by simpa using hx
        refine (RZ.pi_zipA (s.glb hg).1 (B _ (by decide)) ha (star_cons hx'.1) (star_any (by simpa using hx'.2))).mono fun σ H R w => ?_
        obtain ⟨ι, δ, S, r, e, hs⟩ := tI_bind w
        refine ⟨ι, δ, S, r, e, hs.mono (fun ds S1 h1 ι1 vs H1 r1 x1 q1 => ?_) fun _ _ _ z => z⟩
        obtain ⟨ds', ι2, S2, r2, q2, he, hs2⟩ := h1 ι1 vs H1 r1 x1 q1
        rcases zip_inv hs2 with ⟨us, ws, rfl, hs2⟩ | ⟨j, l, us, ws, rfl, e1, e2, hs2⟩
        · obtain ⟨v, w, rfl, ⟨a, vs, rfl, ta, qa⟩, b, ws', rfl, tb, qb⟩ := reps2 q2
          exact ⟨a, b, vs, ws', rfl, .inr ⟨ta.sq, tb.sq, hs2 ι2 _ H1 r2 .refl (walks_zipT ta tb qa qb)⟩⟩
        · obtain ⟨v, w, rfl, ⟨a, rfl, ea⟩, b, rfl, eb⟩ := reps2 q2
          obtain ⟨vs, h3, h4⟩ := list_now r2 ea e1
          obtain ⟨ws', h5, h6⟩ := list_now r2 eb e2
          exact ⟨a, b, vs, ws', rfl, .inl ⟨h3, h5, hs2 ι2 _ H1 r2 .refl (walks_zipL ea eb e1 e2)⟩⟩
      | _ => cases ht
    · cases h
  · cases h
end Ev

set_option Elab.async false
set_option linter.all false
set_option maxRecDepth 100000
set_option maxHeartbeats 2000000
set_option autoImplicit false
/-! EvG: expressions, each construct. -/
namespace Ev
open PySem PySem.Spec PyProof.Rows L2
/-- a def's promise: what its body in the language does -/
def spOf (K : PySem.W.Frag) (mg : Mg) (B : List D → M D) (fn : Fn) : Sp := fun vs H Q E => vs.length = fn.params.length ∧ ∃ ι S ds, StRel K ι S H ∧ Reps K ι H ds vs ∧ Sat (B ds S) (OkE K ι S H Q) (ExE K mg ι S H E)
/-- where a def stands, and that it keeps its promise -/
structure FnAt (P : Program) (w : World) (K : PySem.W.Frag) (mg : Mg) (base : Heap) (B : List D → M D) (lv : Nat) (fn : Fn) : Prop where
  ex : ∃ (a : Addr) (fd : FuncData) (dvs : List V) (dus : List Value), mg fn.name = some (.ref a) ∧ PySem.W.keepIn K (.ref a) = true ∧ Vals dvs dus ∧ (∀ ι H, Reps K ι H fn.dflt dvs) ∧ (∀ k, Binds K fd fn.params (dus.drop k)) ∧
    FnOk P w K mg base (L2.CX P w) lv a fd fn.params (spOf K mg B fn)
structure Ctx (X : Cx) (c : Cfg) (sc : Scope) (n : Nat) (C : Calls) (B : Nat → List D → M D) (W : WX) : Prop where
  g : Gd X n
  s : Sc X c sc
  b : ∀ x ∈ blts, X.mg x = none
  con : ∀ x d, c.cons.lookup x = some d → ∃ u v, X.mg x = some u ∧ RelV v u ∧ ∀ ι H, Rep X.K ι H d v
  call : ∀ f fn, c.fns[f]? = some fn → (∀ ds, C f ds = match fillD fn ds with | some es => B f es | none => M.bad) ∧ FnAt X.prog X.w X.K X.mg X.base (B f) (n + 71) fn
  tk : Takes X W
structure Snd (X : Cx) (W : WX) (f : Env → M D) (e : Expr) : Prop where
  pe : PE X e (tD X.K X.mg W f)
  pt : PT X e (tT X.K X.mg W fun δ => M.bind (f δ) truthD)
  pw : (∃ op es pos, e = .BoolOp op es pos) → PW X e (tT X.K X.mg W fun δ => M.bind (f δ) truthD)
section
variable {X : Cx} {c : Cfg} {sc : Scope} {n : Nat} {C : Calls} {B : Nat → List D → M D} {W : WX}
theorem iT {A B : Prop} (h : A) : if (true = true) then A else B := by rw [if_pos rfl]; exact h
theorem iF {A B : Prop} (h : B) : if (false = true) then A else B := by rw [if_neg Bool.false_ne_true]; exact h
theorem notBool {e : Expr} (h : (match e with | .BoolOp .. => false | _ => true) = true) : ¬ ∃ op es pos, e = .BoolOp op es pos := by
  rintro ⟨op, es, pos, rfl⟩
  cases h
theorem snd_of {f : Env → M D} {e : Expr} (he : PE X e (tD X.K X.mg W f)) (hp : plainTest e = true) : Snd X W f e := by
  refine ⟨he, (pt_truth he fun w => plain_test hp w).mono fun σ H Q h => ?_, fun z => ?_⟩
  · obtain ⟨ι, δ, S, r, ev, hs⟩ := h
    refine ⟨ι, δ, S, r, ev, (Sat.bind hs).mono (fun d S1 h1 ι1 v H1 r1 x1 q1 => ?_) fun _ _ _ z => z⟩
    have h1 : Sat (truthD d S1) (fun b S' => ∀ ι' H', StRel X.K ι' S' H' → Ext ι S H ι' S' H' → Q b H') NoEx := by
      unfold truthD at h1 ⊢
      cases d with
      | str z =>
        simp only at h1 ⊢
        split
        · rename_i hz
          rw [if_pos hz] at h1
          exact h1
        · rename_i hz
          rw [if_neg hz] at h1
          exact h1
      | ref k =>
        simp only at h1 ⊢
        cases e : S1[k]? with
        | none => rw [e] at h1; exact h1
        | some o => rw [e] at h1; cases o <;> exact h1
      | _ => exact h1
    obtain ⟨k, h2, h3⟩ := tru_of r1 q1 h1
    exact ⟨k, h2, h3 ι1 H1 r1 x1⟩
  · obtain ⟨op, es, pos, rfl⟩ := z
    cases hp
theorem s_var {i : Nat} {x : Str} {pos : Pos} (T : Ctx X c sc n C B W) (hi : c.N[i]? = some x) (hv : vis sc x = true) : Snd X W (fun δ => varD δ i) (.Name x pos) := by
  obtain ⟨v1, v2, v3⟩ := T.s.vis hv
  refine snd_of ((pe_var (by rw [T.s.N]; exact hi) v1 v2 v3).mono fun σ H Q h => ?_) rfl
  obtain ⟨ι, δ, S, r, ev, hs⟩ := h
  unfold varD at hs
  simp only at hs
  split at hs
  · rename_i d e
    obtain ⟨v, e1, e2⟩ := ev.2 i d e
    exact ⟨v, e1, OkE.here hs r e2⟩
  · exact hs.elim
theorem s_con {d : D} {k : Const} {j : Nat} {pos : Pos} (h : conOk d k = true) : Snd X W (fun _ => M.ret d) (.Constant k j pos) := by
  refine snd_of ?_ rfl
  have fin : ∀ v, (∀ ι H, Rep X.K ι H d v) → ∀ σ H Q, tD X.K X.mg W (fun _ => M.ret d) σ H Q → tC v σ H Q := fun v hv σ H Q h => by
    obtain ⟨ι, δ, S, r, ev, hs⟩ := h
    exact OkE.here hs r (hv ι H)
  unfold conOk at h
  split at h
  · exact pe_non.mono (fin .non fun _ _ => rfl)
  · cases eq_of_beq h
    exact pe_bl.mono (fin _ fun _ _ => rfl)
  · cases eq_of_beq h
    exact pe_int.mono (fin _ fun _ _ => rfl)
  · cases eq_of_beq h
    exact pe_str.mono (fin _ fun _ _ => rfl)
  · cases h
theorem s_glob {x y : Str} {d : D} {pos : Pos} (T : Ctx X c sc n C B W) (hg : glb sc y = true) (h : c.cons.lookup y = some d) : Snd X W (fun _ => M.ret d) (.Name y pos) := by
  obtain ⟨u, v, h1, h2, h3⟩ := T.con y d h
  obtain ⟨g1, g2⟩ := T.s.glb hg
  refine snd_of ((pe_glob g1 h1 h2 g2).mono fun σ H Q h => ?_) rfl
  obtain ⟨ι, δ, S, r, ev, hs⟩ := h
  exact OkE.here hs r (h3 ι H)
/-! ### nothing of these raises -/
def Calm {α : Type} (m : M α) : Prop := ∀ S c v S', m S ≠ .exc c v S'
theorem Sat.noex {α : Type} {r : R α} {ok : α → Store → Prop} {ex : Str → D → Store → Prop} (h : Sat r ok ex) (hn : ∀ c v S', r ≠ .exc c v S') : Sat r ok NoEx := by
  cases r with
  | ok a S => exact h
  | exc c v S => exact absurd rfl (hn c v S)
  | bad => exact h
theorem calm_bin (o : BOp) (a b : D) : Calm (binD o a b) := by
  intro S c v S' e
  unfold binD at e
  repeat' split at e
  all_goals cases e
theorem calm_truth (d : D) : Calm (truthD d) := by
  intro S c v S' e
  unfold truthD at e
  repeat' split at e
  all_goals cases e
theorem calm_eq (a b : D) : Calm (eqD a b) := by
  intro S c v S' e
  unfold eqD at e
  repeat' split at e
  all_goals cases e
theorem calm_in (a b : D) : Calm (inD a b) := by
  intro S c v S' e
  unfold inD at e
  repeat' split at e
  all_goals cases e
theorem calm_bind {α β : Type} {m : M α} {f : α → M β} (h : Calm m) (g : ∀ a, Calm (f a)) : Calm (M.bind m f) := by
  intro S c v S' e
  unfold M.bind at e
  split at e
  · exact g _ _ _ _ _ e
  · rename_i e2
    exact h _ _ _ _ e2
  · cases e
theorem calm_cmp (o : COp) (a b : D) : Calm (cmpD o a b) := by
  cases o with
  | eq => exact calm_eq a b
  | ne => exact calm_bind (calm_eq a b) fun _ _ _ _ _ e => by cases e
  | in_ => exact calm_in a b
  | notin => exact calm_bind (calm_in a b) fun _ _ _ _ _ e => by cases e
  | is_ =>
    intro S c v S' e
    unfold cmpD M.opt at e
    simp only at e
    split at e <;> cases e
  | isnot =>
    intro S c v S' e
    unfold cmpD M.opt at e
    simp only at e
    split at e <;> cases e
  | _ =>
    intro S c v S' e
    unfold cmpD at e
    simp only at e
    split at e <;> cases e
theorem calm_idx (a b : D) : Calm (idxD a b) := by
  intro S c v S' e
  unfold idxD at e
  repeat' split at e
  all_goals cases e
theorem calm_slice (a : D) (l h : Option Int) : Calm (sliceD a l h) := by
  intro S c v S' e
  unfold sliceD at e
  repeat' split at e
  all_goals cases e
theorem calm_bi (b : Bi) (ds : List D) : Calm (biD b ds) := by
  intro S c v S' e
  unfold biD at e
  repeat' split at e
  all_goals cases e
theorem calm_me (m : Me) (d : D) (ds : List D) : Calm (meD m d ds) := by
  intro S c v S' e
  unfold meD at e
  repeat' split at e
  all_goals cases e
theorem calm_inst (ts : List Ty) (d : D) : Calm (isinstD ts d) := by
  intro S c v S' e
  unfold isinstD at e
  repeat' split at e
  all_goals cases e
theorem calm_src (k : Src) (ds : List D) : Calm (srcD k ds) := by
  intro S c v S' e
  unfold srcD at e
  repeat' split at e
  all_goals cases e

/-! ### one part, two parts -/
theorem two {K : PySem.W.Frag} {mg : Mg} {f g : Env → M D} {k : D → D → M D} (hk : ∀ a b, Calm (k a b)) {σ : L2.St} {H : Hp} {Q : VK} (h : tD K mg W (fun δ => M.bind (f δ) fun a => M.bind (g δ) fun b => k a b) σ H Q) :
    tOp (rD K k) (tD K mg W f) (tD K mg W g) σ H Q := by
  obtain ⟨ι, δ, S, r, ev, hs⟩ := h
  refine ⟨ι, δ, S, r, ev, (Sat.bind hs).mono (fun d S1 h1 ι1 v H1 r1 x1 q1 => ?_) fun _ _ _ z => z⟩
  refine ⟨ι1, δ, S1, r1, ev.ext r x1, (Sat.bind h1).mono (fun d2 S2 h2 ι2 v2 H2 r2 x2 q2 => ?_) fun c d2 S2 h2 => ExE.of x1 h2⟩
  refine ⟨ι2, S2, d, d2, r2, q1.ext r1 x2, q2, ?_⟩
  exact (h2.noex (hk d d2 S2)).mono (fun a S3 h4 => h4.of (x1.trans x2)) fun _ _ _ z => z
theorem twoB {K : PySem.W.Frag} {mg : Mg} {f g : Env → M D} {k : D → D → M Bool} (hk : ∀ a b, Calm (k a b)) {σ : L2.St} {H : Hp} {Q : VK} (h : tD K mg W (fun δ => M.bind (f δ) fun a => M.bind (g δ) fun b => M.bind (k a b) fun r => M.ret (.bl r)) σ H Q) :
    tOp (rDB K k) (tD K mg W f) (tD K mg W g) σ H Q := by
  obtain ⟨ι, δ, S, r, ev, hs⟩ := h
  refine ⟨ι, δ, S, r, ev, (Sat.bind hs).mono (fun d S1 h1 ι1 v H1 r1 x1 q1 => ?_) fun _ _ _ z => z⟩
  refine ⟨ι1, δ, S1, r1, ev.ext r x1, (Sat.bind h1).mono (fun d2 S2 h2 ι2 v2 H2 r2 x2 q2 => ?_) fun c d2 S2 h2 => ExE.of x1 h2⟩
  refine ⟨ι2, S2, d, d2, r2, q1.ext r1 x2, q2, ?_⟩
  exact ((Sat.bind h2).noex (hk d d2 S2)).mono (fun a S3 h4 => OkE.of (x1.trans x2) h4) fun _ _ _ z => z
theorem s_bin {o : BOp} {f g : Env → M D} {x y : Expr} {pos : Pos} (T : Ctx X c sc n C B W) (hx : Snd X W f x) (hy : Snd X W g y) : Snd X W (fun δ => M.bind (f δ) fun a => M.bind (g δ) fun b => binD o a b) (.BinOp x o.op y pos) :=
  snd_of ((pe_op (bin_ok T.g o) hx.pe hy.pe).mono fun σ H Q h => two (calm_bin o) h) rfl
theorem s_neg {f : Env → M D} {x : Expr} {pos : Pos} (hx : Snd X W f x) : Snd X W (fun δ => M.bind (f δ) negD) (.UnaryOp .USub x pos) := by
  refine snd_of ((pe_un un_neg hx.pe).mono fun σ H Q h => ?_) rfl
  obtain ⟨ι, δ, S, r, ev, hs⟩ := h
  refine ⟨ι, δ, S, r, ev, (Sat.bind hs).mono (fun d S1 h1 ι1 v H1 r1 x1 q1 => ?_) fun _ _ _ z => z⟩
  unfold negD at h1
  split at h1
  · cases q1
    exact ⟨_, rfl, OkE.here (OkE.of x1 h1) r1 rfl⟩
  · exact h1.elim
theorem truth_bl (k : Bool) (S : Store) : truthD (.bl k) S = .ok k S := rfl
/-- a test, its value a bool -/
theorem Snd.tb {f : Env → M D} {g : Env → M Bool} {e : Expr} (pe : PE X e (tD X.K X.mg W f)) (hg : f = fun δ => M.bind (g δ) fun b => M.ret (.bl b)) (pt : PT X e (tT X.K X.mg W g)) (pw : (∃ op es pos, e = .BoolOp op es pos) → PW X e (tT X.K X.mg W g)) : Snd X W f e := by
  have e1 : (fun δ => M.bind (f δ) truthD) = g := by
    subst hg
    funext δ
    show M.bind (M.bind (g δ) fun b => M.ret (D.bl b)) truthD = g δ
    rw [M.bind_assoc]
    exact M.bind_ret _
  refine ⟨pe, ?_, fun z => ?_⟩
  · rw [e1]; exact pt
  · rw [e1]; exact pw z
theorem s_cmp {o : COp} {f g : Env → M D} {x y : Expr} {pos : Pos} (T : Ctx X c sc n C B W) (hx : Snd X W f x) (hy : Snd X W g y) (hn : notSet y = true) :
    Snd X W (fun δ => M.bind (f δ) fun a => M.bind (g δ) fun b => M.bind (cmpD o a b) fun r => M.ret (.bl r)) (.Compare x [o.op] [y] pos) := by
  refine Snd.tb (g := fun δ => M.bind (f δ) fun a => M.bind (g δ) fun b => cmpD o a b) ((pe_cmpR (cmp_ok T.g o) hx.pe hy.pe (nomark' hn)).mono fun σ H Q h => twoB (calm_cmp o) h) ?_ ((pt_cmpR (cmp_ok T.g o) hx.pe hy.pe (nomark' hn)).mono fun σ H Q h => ?_) (fun ⟨_, _, _, z⟩ => by cases z)
  · funext δ
    simp only [M.bind_assoc]
  · obtain ⟨ι, δ, S, r, ev, hs⟩ := h
    refine ⟨ι, δ, S, r, ev, (Sat.bind hs).mono (fun d S1 h1 ι1 v H1 r1 x1 q1 => ?_) fun _ _ _ z => z⟩
    refine ⟨ι1, δ, S1, r1, ev.ext r x1, (Sat.bind h1).mono (fun d2 S2 h2 ι2 v2 H2 r2 x2 q2 => ?_) fun c d2 S2 h2 => ExE.of x1 h2⟩
    refine ⟨ι2, S2, d, d2, r2, q1.ext r1 x2, q2, ?_⟩
    refine (h2.noex (calm_cmp o d d2 S2)).mono (fun b S3 h3 ι3 v3 H3 r3 x3 q3 => ?_) fun _ _ _ z => z
    exact ⟨b, q3, h3 ι3 H3 r3 ((x1.trans x2).trans x3)⟩
theorem s_not {f : Env → M D} {x : Expr} {pos : Pos} (hx : Snd X W f x) : Snd X W (fun δ => M.bind (f δ) fun a => M.bind (truthD a) fun b => M.ret (.bl (!b))) (.UnaryOp .Not x pos) := by
  refine Snd.tb (g := fun δ => M.bind (f δ) fun a => M.bind (truthD a) fun b => M.ret (!b)) ((pe_notT hx.pe).mono fun σ H Q h => ?_) ?_ ((pt_not hx.pt).mono fun σ H Q h => ?_) (fun ⟨_, _, _, z⟩ => by cases z)
  · obtain ⟨ι, δ, S, r, ev, hs⟩ := h
    refine ⟨ι, δ, S, r, ev, (Sat.bind hs).mono (fun d S1 h1 ι1 v H1 r1 x1 q1 => ?_) fun _ _ _ z => z⟩
    obtain ⟨k, h2, h3⟩ := tru_of r1 q1 ((Sat.bind h1).noex (calm_truth d S1))
    exact ⟨k, h2, OkE.here (OkE.of x1 h3) r1 rfl⟩
  · funext δ
    simp only [M.bind_assoc, M.ret_bind]
  · obtain ⟨ι, δ, S, r, ev, hs⟩ := h
    refine ⟨ι, δ, S, r, ev, ?_⟩
    have hs : Sat (M.bind (M.bind (f δ) truthD) (fun b => M.ret (!b)) S) (fun b S' => ∀ ι' H', StRel X.K ι' S' H' → Ext ι S H ι' S' H' → Q b H') (ExE X.K X.mg ι S H fun c d H' => W c d σ H') := by
      rw [M.bind_assoc]
      exact hs
    exact (Sat.bind hs).mono (fun b S1 h1 ι1 H1 r1 x1 => h1 ι1 H1 r1 x1) fun _ _ _ z => z

theorem s_chain {o o' : COp} {f g h : Env → M D} {x y z : Expr} {pos : Pos} (T : Ctx X c sc n C B W) (hx : Snd X W f x) (hy : Snd X W g y) (hz : Snd X W h z) (hn : notSet z = true) :
    Snd X W (fun δ => M.bind (f δ) fun a => M.bind (g δ) fun b => M.bind (cmpD o a b) fun r => condD r (M.bind (h δ) fun d => M.bind (cmpD o' b d) fun t => M.ret (.bl t)) (M.ret (.bl false))) (.Compare x [o.op, o'.op] [y, z] pos) := by
  have key : ∀ σ H Q, tD X.K X.mg W (fun δ => M.bind (f δ) fun a => M.bind (g δ) fun b => M.bind (cmpD o a b) fun r => condD r (M.bind (h δ) fun d => M.bind (cmpD o' b d) fun t => M.ret (.bl t)) (M.ret (.bl false))) σ H Q →
      tChain (rDB X.K (cmpD o)) (rDB X.K (cmpD o')) (tD X.K X.mg W f) (tD X.K X.mg W g) (tD X.K X.mg W h) σ H Q := by
    intro σ H Q w
    obtain ⟨ι, δ, S, r, ev, hs⟩ := w
    refine ⟨ι, δ, S, r, ev, (Sat.bind hs).mono (fun d S1 h1 ι1 v H1 r1 x1 q1 => ?_) fun _ _ _ z => z⟩
    refine ⟨ι1, δ, S1, r1, ev.ext r x1, (Sat.bind h1).mono (fun d2 S2 h2 ι2 v2 H2 r2 x2 q2 => ?_) fun c d2 S2 h2 => ExE.of x1 h2⟩
    refine ⟨ι2, S2, d, d2, r2, q1.ext r1 x2, q2, ?_⟩
    refine ((Sat.bind h2).noex (calm_cmp o d d2 S2)).mono (fun b S3 h3 ι3 v3 H3 r3 x3 q3 => ⟨b, q3, ?_⟩) fun _ _ _ z => z
    cases b with
    | false =>
      rw [if_neg Bool.false_ne_true]
      exact OkE.here (OkE.of ((x1.trans x2).trans x3) h3) r3 rfl
    | true =>
      rw [if_pos rfl]
      have x13 := (x1.trans x2).trans x3
      refine ⟨ι3, δ, S3, r3, ev.ext r x13, (Sat.bind (show Sat (M.bind (h δ) _ S3) _ _ from h3)).mono (fun d4 S4 h4 ι4 v4 H4 r4 x4 q4 => ?_) fun c d2 S2 h2 => ExE.of x13 h2⟩
      refine ⟨ι4, S4, d2, d4, r4, (q2.ext r2 x3).ext r3 x4, q4, ?_⟩
      exact ((Sat.bind h4).noex (calm_cmp o' d2 d4 S4)).mono (fun t S5 h5 => OkE.of (x13.trans x4) h5) fun _ _ _ z => z
  refine Snd.tb (g := fun δ => M.bind (f δ) fun a => M.bind (g δ) fun b => M.bind (cmpD o a b) fun r => condD r (M.bind (h δ) fun d => cmpD o' b d) (M.ret false)) ((pe_chain (cmp_ok T.g o) (cmp_ok T.g o') hx.pe hy.pe hz.pe (last_marks hn)).mono key) ?_ ((pt_chain (cmp_ok T.g o) (cmp_ok T.g o') hx.pe hy.pe hz.pe (last_marks hn)).mono fun σ H Q w => ?_) (fun ⟨_, _, _, z⟩ => by cases z)
  · funext δ
    simp only [M.bind_assoc]
    congr 1; funext a; congr 1; funext b; congr 1; funext r
    cases r
    · rfl
    · simp only [condD, if_true, M.bind_assoc]
  · refine key σ H _ ?_
    obtain ⟨ι, δ, S, r, ev, hs⟩ := w
    refine ⟨ι, δ, S, r, ev, ?_⟩
    have e : (M.bind (f δ) fun a => M.bind (g δ) fun b => M.bind (cmpD o a b) fun r => condD r (M.bind (h δ) fun d => M.bind (cmpD o' b d) fun t => M.ret (.bl t)) (M.ret (.bl false)))
        = M.bind (M.bind (f δ) fun a => M.bind (g δ) fun b => M.bind (cmpD o a b) fun r => condD r (M.bind (h δ) fun d => cmpD o' b d) (M.ret false)) (fun t => M.ret (D.bl t)) := by
      simp only [M.bind_assoc]
      congr 1; funext a; congr 1; funext b; congr 1; funext r
      cases r
      · rfl
      · simp only [condD, if_true, M.bind_assoc]
    show Sat ((M.bind (f δ) fun a => M.bind (g δ) fun b => M.bind (cmpD o a b) fun r => condD r (M.bind (h δ) fun d => M.bind (cmpD o' b d) fun t => M.ret (D.bl t)) (M.ret (D.bl false))) S) (OkE X.K ι S H fun x H' => ∃ k, x = V.bl k ∧ Q k H') (ExE X.K X.mg ι S H fun c d H' => W c d σ H')
    rw [e]
    have hs : Sat ((M.bind (f δ) fun a => M.bind (g δ) fun b => M.bind (cmpD o a b) fun r => condD r (M.bind (h δ) fun d => cmpD o' b d) (M.ret false)) S) (fun b S' => ∀ ι' H', StRel X.K ι' S' H' → Ext ι S H ι' S' H' → Q b H') (ExE X.K X.mg ι S H fun c d H' => W c d σ H') := hs
    revert hs
    generalize (M.bind (f δ) fun a => M.bind (g δ) fun b => M.bind (cmpD o a b) fun r => condD r (M.bind (h δ) fun d => cmpD o' b d) (M.ret false)) = m
    intro hs
    unfold M.bind
    cases em : m S with
    | ok t S' =>
      rw [em] at hs
      intro ι' v H' r' x' q'
      exact ⟨t, q', hs ι' H' r' x'⟩
    | exc c v S' => rw [em] at hs; exact hs
    | bad => rw [em] at hs; exact hs
/-! ### and, or, if -/
theorem calmT {f : Env → M D} {σ : L2.St} {H : Hp} {R : V → Bool → Hp → Prop} {K : PySem.W.Frag} {mg : Mg} {g : D → Bool → Env → M D} {Q : VK} (h : tD K mg W (fun δ => M.bind (f δ) fun a => M.bind (truthD a) fun k => g a k δ) σ H Q) :
    tD K mg W f σ H fun v H1 => ∃ d k ι δ S, TruV K v H1 k ∧ StRel K ι S H1 ∧ EnvRel K ι H1 δ σ ∧ Rep K ι H1 d v ∧ Sat (g d k δ S) (OkE K ι S H1 Q) (ExE K mg ι S H1 fun c d H' => W c d σ H') := by
  obtain ⟨ι, δ, S, r, ev, hs⟩ := h
  refine ⟨ι, δ, S, r, ev, (Sat.bind hs).mono (fun d S1 h1 ι1 v H1 r1 x1 q1 => ?_) fun _ _ _ z => z⟩
  have h1 := (Sat.bind h1)
  have h2 : Sat (truthD d S1) (fun k S2 => Sat (g d k δ S2) (OkE K ι S H Q) (ExE K mg ι S H fun c d H' => W c d σ H')) NoEx := by
    cases e : truthD d S1 with
    | ok k S2 => rw [e] at h1; exact h1
    | exc c v S2 => exact absurd e (calm_truth d S1 c v S2)
    | bad => rw [e] at h1; exact h1
  obtain ⟨k, h3, h4⟩ := tru_of r1 q1 h2
  exact ⟨d, k, ι1, δ, S1, h3, r1, ev.ext r x1, q1, h4.mono (fun _ _ z => z.of x1) fun _ _ _ z => ExE.of x1 z⟩
theorem truth_cond {k : Bool} {x y : M D} : M.bind (condD k x y) truthD = condD k (M.bind x truthD) (M.bind y truthD) := by
  cases k <;> rfl
theorem truth_twice {f : M D} {a b : D → M Bool} : True := trivial
/-- a test, then the other -/
theorem tT_two {K : PySem.W.Frag} {mg : Mg} {f : Env → M Bool} {g : Bool → Env → M Bool} {σ : L2.St} {H : Hp} {Q : Bool → Hp → Prop} (h : tT K mg W (fun δ => M.bind (f δ) fun k => g k δ) σ H Q) :
    tT K mg W f σ H fun k H1 => tT K mg W (g k) σ H1 Q := by
  obtain ⟨ι, δ, S, r, ev, hs⟩ := h
  refine ⟨ι, δ, S, r, ev, (Sat.bind hs).mono (fun k S1 h1 ι1 H1 r1 x1 => ?_) fun _ _ _ z => z⟩
  exact ⟨ι1, δ, S1, r1, ev.ext r x1, h1.mono (fun b S2 h2 ι2 H2 r2 x2 => h2 ι2 H2 r2 (x1.trans x2)) fun _ _ _ z => ExE.of x1 z⟩
theorem tT_ret {K : PySem.W.Frag} {mg : Mg} {b : Bool} {σ : L2.St} {H : Hp} {Q : Bool → Hp → Prop} (h : tT K mg W (fun _ => M.ret b) σ H Q) : Q b H := by
  obtain ⟨ι, δ, S, r, ev, hs⟩ := h
  exact hs ι H r .refl
/-- the value's own truth once more: the same -/
theorem again_of {f : M D} {S S' : Store} {d : D} {k : Bool} {S2 : Store} (h : truthD d S = .ok k S2) : S2 = S := by
  unfold truthD at h
  repeat' split at h
  all_goals first | (cases h; rfl) | cases h
theorem and_truth {f : M D} {g : M D} : M.bind (M.bind f fun a => M.bind (truthD a) fun k => condD k g (M.ret a)) truthD = M.bind (M.bind f truthD) fun k => condD k (M.bind g truthD) (M.ret false) := by
  rw [M.bind_assoc, M.bind_assoc]
  congr 1; funext a S
  show M.bind (M.bind (truthD a) fun k => condD k g (M.ret a)) truthD S = _
  rw [M.bind_assoc]
  unfold M.bind
  cases e : truthD a S with
  | ok k S2 =>
    cases k with
    | true => rfl
    | false =>
      have e2 := again_of (f := f) (S' := S) e
      subst e2
      exact e
  | _ => rfl
theorem or_truth {f : M D} {g : M D} : M.bind (M.bind f fun a => M.bind (truthD a) fun k => condD k (M.ret a) g) truthD = M.bind (M.bind f truthD) fun k => condD k (M.ret true) (M.bind g truthD) := by
  rw [M.bind_assoc, M.bind_assoc]
  congr 1; funext a S
  show M.bind (M.bind (truthD a) fun k => condD k (M.ret a) g) truthD S = _
  rw [M.bind_assoc]
  unfold M.bind
  cases e : truthD a S with
  | ok k S2 =>
    cases k with
    | false => rfl
    | true =>
      have e2 := again_of (f := f) (S' := S) e
      subst e2
      exact e
  | _ => rfl
theorem ite_truth {h f g : M D} : M.bind (M.bind h fun a => M.bind (truthD a) fun k => condD k f g) truthD = M.bind (M.bind h truthD) fun k => condD k (M.bind f truthD) (M.bind g truthD) := by
  rw [M.bind_assoc, M.bind_assoc]
  congr 1; funext a S
  show M.bind (M.bind (truthD a) fun k => condD k f g) truthD S = _
  rw [M.bind_assoc]
  unfold M.bind
  cases e : truthD a S with
  | ok k S2 => cases k <;> rfl
  | _ => rfl
theorem pw_of {op : BoolOp} {es : List Expr} {pos : Pos} {t : TT} (h : PW X (.BoolOp op es pos) t) : PT X (.BoolOp op es pos) t := h.pt
theorem s_and {f g : Env → M D} {x y : Expr} {r : List Expr} {pos : Pos} (hx : Snd X W f x) (hpe : PE X (.BoolOp .And (y :: r) pos) (tD X.K X.mg W g)) (hpw : PW X (.BoolOp .And (y :: r) pos) (tT X.K X.mg W fun δ => M.bind (g δ) truthD)) :
    Snd X W (fun δ => M.bind (f δ) fun a => M.bind (truthD a) fun k => condD k (g δ) (M.ret a)) (.BoolOp .And (x :: y :: r) pos) := by
  have w : PW X (.BoolOp .And (x :: y :: r) pos) (tT X.K X.mg W fun δ => M.bind (M.bind (f δ) fun a => M.bind (truthD a) fun k => condD k (g δ) (M.ret a)) truthD) := by
    refine (pw_and hx.pt hpw).mono fun σ H Q h => ?_
    have h : tT X.K X.mg W (fun δ => M.bind (M.bind (f δ) truthD) fun k => condD k (M.bind (g δ) truthD) (M.ret false)) σ H Q := by
      have e : (fun δ => M.bind (M.bind (f δ) truthD) fun k => condD k (M.bind (g δ) truthD) (M.ret false)) = fun δ => M.bind (M.bind (f δ) fun a => M.bind (truthD a) fun k => condD k (g δ) (M.ret a)) truthD := by
        funext δ; exact and_truth.symm
      rw [e]
      exact h
    obtain ⟨ι, δ, S, r, ev, hs⟩ := tT_two (g := fun k δ => condD k (M.bind (g δ) truthD) (M.ret false)) h
    refine ⟨ι, δ, S, r, ev, hs.mono (fun k S1 h1 ι1 H1 r1 x1 => ?_) fun _ _ _ z => z⟩
    have h1 := h1 ι1 H1 r1 x1
    cases k with
    | true => exact iT (h1)
    | false => exact iF (tT_ret h1)
  refine ⟨(pe_andT hx.pe hpe).mono fun σ H Q h => ?_, w.pt, fun _ => w⟩
  obtain ⟨ι, δ, S, r, ev, hs⟩ := calmT (R := fun _ _ _ => True) (g := fun a k δ => condD k (g δ) (M.ret a)) h
  refine ⟨ι, δ, S, r, ev, hs.mono (fun d S1 h1 ι1 v H1 r1 x1 q1 => ?_) fun _ _ _ z => z⟩
  obtain ⟨d', k, ι2, δ2, S2, h2, r2, ev2, q2, h3⟩ := h1 ι1 v H1 r1 x1 q1
  refine ⟨k, h2, ?_⟩
  cases k with
  | true => exact iT (⟨ι2, δ2, S2, r2, ev2, h3⟩)
  | false => exact iF (OkE.here h3 r2 q2)
theorem s_or {f g : Env → M D} {x y : Expr} {r : List Expr} {pos : Pos} (hx : Snd X W f x) (hpe : PE X (.BoolOp .Or (y :: r) pos) (tD X.K X.mg W g)) (hpw : PW X (.BoolOp .Or (y :: r) pos) (tT X.K X.mg W fun δ => M.bind (g δ) truthD)) :
    Snd X W (fun δ => M.bind (f δ) fun a => M.bind (truthD a) fun k => condD k (M.ret a) (g δ)) (.BoolOp .Or (x :: y :: r) pos) := by
  have w : PW X (.BoolOp .Or (x :: y :: r) pos) (tT X.K X.mg W fun δ => M.bind (M.bind (f δ) fun a => M.bind (truthD a) fun k => condD k (M.ret a) (g δ)) truthD) := by
    refine (pw_or hx.pt hpw).mono fun σ H Q h => ?_
    have h : tT X.K X.mg W (fun δ => M.bind (M.bind (f δ) truthD) fun k => condD k (M.ret true) (M.bind (g δ) truthD)) σ H Q := by
      have e : (fun δ => M.bind (M.bind (f δ) truthD) fun k => condD k (M.ret true) (M.bind (g δ) truthD)) = fun δ => M.bind (M.bind (f δ) fun a => M.bind (truthD a) fun k => condD k (M.ret a) (g δ)) truthD := by
        funext δ; exact or_truth.symm
      rw [e]
      exact h
    obtain ⟨ι, δ, S, r, ev, hs⟩ := tT_two (g := fun k δ => condD k (M.ret true) (M.bind (g δ) truthD)) h
    refine ⟨ι, δ, S, r, ev, hs.mono (fun k S1 h1 ι1 H1 r1 x1 => ?_) fun _ _ _ z => z⟩
    have h1 := h1 ι1 H1 r1 x1
    cases k with
    | true => exact iT (tT_ret h1)
    | false => exact iF (h1)
  refine ⟨(pe_orT hx.pe hpe).mono fun σ H Q h => ?_, w.pt, fun _ => w⟩
  obtain ⟨ι, δ, S, r, ev, hs⟩ := calmT (R := fun _ _ _ => True) (g := fun a k δ => condD k (M.ret a) (g δ)) h
  refine ⟨ι, δ, S, r, ev, hs.mono (fun d S1 h1 ι1 v H1 r1 x1 q1 => ?_) fun _ _ _ z => z⟩
  obtain ⟨d', k, ι2, δ2, S2, h2, r2, ev2, q2, h3⟩ := h1 ι1 v H1 r1 x1 q1
  refine ⟨k, h2, ?_⟩
  cases k with
  | true => exact iT (OkE.here h3 r2 q2)
  | false => exact iF (⟨ι2, δ2, S2, r2, ev2, h3⟩)
theorem one_and {g : Env → M D} {y : Expr} {pos : Pos} (hy : Snd X W g y) : PE X (.BoolOp .And [y] pos) (tD X.K X.mg W g) ∧ PW X (.BoolOp .And [y] pos) (tT X.K X.mg W fun δ => M.bind (g δ) truthD) := ⟨pe_one hy.pe, pw_and1 hy.pt⟩
theorem one_or {g : Env → M D} {y : Expr} {pos : Pos} (hy : Snd X W g y) : PE X (.BoolOp .Or [y] pos) (tD X.K X.mg W g) ∧ PW X (.BoolOp .Or [y] pos) (tT X.K X.mg W fun δ => M.bind (g δ) truthD) := ⟨pe_one hy.pe, pw_or1 hy.pt⟩
theorem pt_ifT {t a b : Expr} {pos : Pos} {tc ta tb : TT} (hc : PT X t tc) (ha : PT X a ta) (hb : PT X b tb) : PT X (.IfExp t a b pos) (fun σ H Q => tc σ H fun k H1 => if k = true then ta σ H1 Q else tb σ H1 Q) := by
  refine ⟨fun pins s σ H Q I h => ?_⟩
  show wpAny _ _ (do if ← isTrue t X.env (eval t X.env) then isTrue a X.env (eval a X.env) else isTrue b X.env (eval b X.env)) _ _ _
  refine wpAny_bind (thn (hc.run pins s σ H _ I h) fun d s1 ⟨H1, I1, q1⟩ => ?_)
  cases d with
  | true => exact ha.run pins s1 σ H1 Q I1 q1
  | false => exact hb.run pins s1 σ H1 Q I1 q1
theorem s_ite {h f g : Env → M D} {t x y : Expr} {pos : Pos} (ht : Snd X W h t) (hx : Snd X W f x) (hy : Snd X W g y) :
    Snd X W (fun δ => M.bind (h δ) fun a => M.bind (truthD a) fun k => condD k (f δ) (g δ)) (.IfExp t x y pos) := by
  refine ⟨(pe_ifExp ht.pt hx.pe hy.pe).mono fun σ H Q w => ?_, (pt_ifT ht.pt hx.pt hy.pt).mono fun σ H Q w => ?_, fun ⟨_, _, _, z⟩ => by cases z⟩
  · obtain ⟨ι, δ, S, r, ev, hs⟩ := w
    have hs : Sat (M.bind (M.bind (h δ) truthD) (fun k => condD k (f δ) (g δ)) S) (OkE X.K ι S H Q) (ExE X.K X.mg ι S H fun c d H' => W c d σ H') := by
      rw [M.bind_assoc]
      exact hs
    refine ⟨ι, δ, S, r, ev, (Sat.bind hs).mono (fun k S1 h1 ι1 H1 r1 x1 => ?_) fun _ _ _ z => z⟩
    cases k with
    | true => exact iT (⟨ι1, δ, S1, r1, ev.ext r x1, h1.mono (fun _ _ z => OkE.of x1 z) fun _ _ _ z => ExE.of x1 z⟩)
    | false => exact iF (⟨ι1, δ, S1, r1, ev.ext r x1, h1.mono (fun _ _ z => OkE.of x1 z) fun _ _ _ z => ExE.of x1 z⟩)
  · have w : tT X.K X.mg W (fun δ => M.bind (M.bind (h δ) truthD) fun k => condD k (M.bind (f δ) truthD) (M.bind (g δ) truthD)) σ H Q := by
      have e : (fun δ => M.bind (M.bind (h δ) truthD) fun k => condD k (M.bind (f δ) truthD) (M.bind (g δ) truthD)) = fun δ => M.bind (M.bind (h δ) fun a => M.bind (truthD a) fun k => condD k (f δ) (g δ)) truthD := by
        funext δ; exact ite_truth.symm
      rw [e]
      exact w
    obtain ⟨ι, δ, S, r, ev, hs⟩ := tT_two (g := fun k δ => condD k (M.bind (f δ) truthD) (M.bind (g δ) truthD)) w
    refine ⟨ι, δ, S, r, ev, hs.mono (fun k S1 h1 ι1 H1 r1 x1 => ?_) fun _ _ _ z => z⟩
    have h1 := h1 ι1 H1 r1 x1
    cases k with
    | true => exact iT (h1)
    | false => exact iF (h1)
end
end Ev

set_option Elab.async false
set_option linter.all false
set_option maxRecDepth 100000
set_option maxHeartbeats 2000000
set_option autoImplicit false
/-! EvH: displays, subscripts, calls, targets, comprehensions. -/
namespace Ev
open PySem PySem.Spec PyProof.Rows L2
section
variable {X : Cx} {c : Cfg} {sc : Scope} {n : Nat} {C : Calls} {B : Nat → List D → M D} {W : WX}
/-- an argument list -/
structure SndA (X : Cx) (W : WX) (f : Env → M (List D)) (es : List Expr) : Prop where
  pa : PA X es (tA X.K X.mg W f)
  ns : es.all notStar = true
  len : ∀ δ S ds S', f δ S = .ok ds S' → ds.length = es.length
  nil : es = [] → f = fun _ => M.ret []
  one : ∀ x, es = [x] → ∃ fe, Snd X W fe x ∧ f = fun δ => M.bind (fe δ) fun d => M.ret [d]
theorem sa_nil : SndA X W (fun _ => M.ret []) [] := by
  refine ⟨pa_nil.mono fun σ H Q h => ?_, rfl, fun _ _ ds S' h => ?_, fun _ => rfl, fun x h => by cases h⟩
  · obtain ⟨ι, δ, S, r, ev, hs⟩ := h
    exact hs ι [] H r .refl rfl
  · cases h
    rfl
theorem sa_cons {f : Env → M D} {fs : Env → M (List D)} {e : Expr} {es : List Expr} (he : Snd X W f e) (hs : SndA X W fs es) (ns : notStar e = true) : SndA X W (fun δ => M.bind (f δ) fun d => M.bind (fs δ) fun ds => M.ret (d :: ds)) (e :: es) := by
  refine ⟨(pa_cons he.pe hs.pa (star_cons ns)).mono fun σ H Q h => ?_, by rw [List.all_cons, ns, hs.ns]; rfl, fun δ S ds S' h => ?_, (fun h => by cases h), fun x hx => ?_⟩
  · obtain ⟨ι, δ, S, r, ev, w⟩ := h
    refine ⟨ι, δ, S, r, ev, (Sat.bind w).mono (fun d S1 h1 ι1 v H1 r1 x1 q1 => ?_) fun _ _ _ z => z⟩
    refine ⟨ι1, δ, S1, r1, ev.ext r x1, (Sat.bind h1).mono (fun ds S2 h2 ι2 vs H2 r2 x2 q2 => ?_) fun c d2 S2 h2 => ExE.of x1 h2⟩
    exact h2 ι2 (v :: vs) H2 r2 (x1.trans x2) ⟨v, vs, rfl, q1.ext r1 x2, q2⟩
  · obtain ⟨d, S1, e1, e2⟩ := M.bind_ok h
    obtain ⟨ds', S2, e3, e4⟩ := M.bind_ok e2
    cases e4
    rw [List.length_cons, List.length_cons, hs.len _ _ _ _ e3]
  · cases hx
    refine ⟨f, he, ?_⟩
    rw [hs.nil rfl]
    rfl
theorem s_tup {f : Env → M (List D)} {es : List Expr} {k : Nat} {pos : Pos} (ha : SndA X W f es) : Snd X W (fun δ => M.bind (f δ) tupD) (.Tuple es k pos) := by
  refine snd_of ((pe_tup ha.pa).mono fun σ H Q h => ?_) rfl
  obtain ⟨ι, δ, S, r, ev, hs⟩ := h
  refine ⟨ι, δ, S, r, ev, (Sat.bind hs).mono (fun ds S1 h1 ι1 vs H1 r1 x1 q1 => ?_) fun _ _ _ z => z⟩
  unfold tupD at h1
  split at h1
  · rename_i hl
    exact ⟨by rw [q1.length, ← line_eq]; exact hl, fun p hp => OkE.newTup (OkE.of x1 h1) r1 hp q1⟩
  · exact h1.elim
theorem s_lst {f : Env → M (List D)} {es : List Expr} {pos : Pos} (ha : SndA X W f es) : Snd X W (fun δ => M.bind (f δ) lstD) (.List es pos) := by
  refine snd_of ((pe_lst ha.pa).mono fun σ H Q h => ?_) rfl
  obtain ⟨ι, δ, S, r, ev, hs⟩ := h
  refine ⟨ι, δ, S, r, ev, (Sat.bind hs).mono (fun ds S1 h1 ι1 vs H1 r1 x1 q1 => ?_) fun _ _ _ z => z⟩
  unfold lstD at h1
  split at h1
  · rename_i hl
    exact ⟨by rw [q1.length, ← line_eq]; exact hl, fun p hp => OkE.newLst (OkE.of x1 h1) r1 hp q1⟩
  · exact h1.elim
theorem s_idx {f g : Env → M D} {x y : Expr} {pos : Pos} (hx : Snd X W f x) (hy : Snd X W g y) (hp : plainIx y = true) : Snd X W (fun δ => M.bind (f δ) fun a => M.bind (g δ) fun b => idxD a b) (.Subscript x y pos) :=
  snd_of ((pe_ix idx_ok hx.pe hy.pe (plain_ix hp)).mono fun σ H Q h => two calm_idx h) rfl
/-- a part of a slice -/
structure SndO (X : Cx) (W : WX) (f : Env → M (Option Int)) (e : Option Expr) : Prop where
  po : PO X e (fun σ H Q => ∃ ι δ S, StRel X.K ι S H ∧ EnvRel X.K ι H δ σ ∧ Sat (f δ S) (fun o S' => ∀ ι' H', StRel X.K ι' S' H' → Ext ι S H ι' S' H' → Q o H') (ExE X.K X.mg ι S H fun c d H' => W c d σ H'))
theorem _root_.L2.PO.mono {X : Cx} {e : Option Expr} {t t' : TO} (h : PO X e t) (m : ∀ σ H Q, t' σ H Q → t σ H Q) : PO X e t' := ⟨fun pins s σ H Q I w => h.run pins s σ H Q I (m σ H Q w)⟩
theorem so_none : SndO X W (fun _ => M.ret none) none := by
  refine ⟨po_none.mono fun σ H Q h => ?_⟩
  obtain ⟨ι, δ, S, r, ev, hs⟩ := h
  exact hs ι H r .refl
theorem so_some {f : Env → M D} {e : Expr} (he : Snd X W f e) : SndO X W (fun δ => M.bind (f δ) fun d => match d with | .int i => M.ret (some i) | _ => M.bad) (some e) := by
  refine ⟨(po_some he.pe).mono fun σ H Q h => ?_⟩
  obtain ⟨ι, δ, S, r, ev, hs⟩ := h
  refine ⟨ι, δ, S, r, ev, (Sat.bind hs).mono (fun d S1 h1 ι1 v H1 r1 x1 q1 => ?_) fun _ _ _ z => z⟩
  split at h1
  · cases q1
    exact ⟨_, rfl, h1 ι1 H1 r1 x1⟩
  · exact h1.elim
theorem s_slice {f : Env → M D} {g h : Env → M (Option Int)} {x : Expr} {lo hi : Option Expr} {p2 pos : Pos} (hx : Snd X W f x) (hl : SndO X W g lo) (hh : SndO X W h hi) :
    Snd X W (fun δ => M.bind (f δ) fun a => M.bind (g δ) fun l => M.bind (h δ) fun u => sliceD a l u) (.Subscript x (.Slice lo hi none p2) pos) := by
  refine snd_of ((pe_slice slice_ok hx.pe hl.po hh.po).mono fun σ H Q w => ?_) rfl
  obtain ⟨ι, δ, S, r, ev, hs⟩ := w
  refine ⟨ι, δ, S, r, ev, (Sat.bind hs).mono (fun d S1 h1 ι1 v H1 r1 x1 q1 => ?_) fun _ _ _ z => z⟩
  refine ⟨ι1, δ, S1, r1, ev.ext r x1, (Sat.bind h1).mono (fun l S2 h2 ι2 H2 r2 x2 => ?_) fun c d2 S2 h2 => ExE.of x1 h2⟩
  have x12 := x1.trans x2
  refine ⟨ι2, δ, S2, r2, ev.ext r x12, (Sat.bind h2).mono (fun u S3 h3 ι3 H3 r3 x3 => ?_) fun c d2 S2 h2 => ExE.of x12 h2⟩
  exact ⟨ι3, S3, d, r3, (q1.ext r1 x2).ext r2 x3, (h3.noex (calm_slice d l u S3)).mono (fun _ _ z => OkE.of (x12.trans x3) z) fun _ _ _ z => z⟩

/-! ### calls -/
theorem run_fnD {CX : CXT} {k : Nat} {f : Addr} {fd : FuncData} {ps : List Str} {sp : Sp} {dvs : List V} {ds : List Value} {E : XK} {pins : List (Addr × Obj)} {σ : L2.St} {H : Hp} {s : Shared} {Q : VK} {us : List Value} {vs : List V}
    (F : FnOk X.prog X.w X.K X.mg X.base CX k f fd ps sp) (hr : Room k X.A) (hb : Binds X.K fd ps ds) (hd : Vals dvs ds) (hx : PassesAt CX X σ E)
    (I : Inv X pins σ H s) (r : Vals vs us) (h : sp (vs ++ dvs) H Q E) : wpAny (model X.prog X.w) X.A (call (.ref f) us) (EP X pins σ Q) X.xe s := by
  have r2 : Vals (vs ++ dvs) (us ++ ds) := r.append hd
  have hl : (us ++ ds).length = ps.length := by rw [← r2.length]; exact F.len _ _ _ _ h
  refine wpAny_call (codeAny_mono (F.run X.A X.stack s H ⟨us, []⟩ (us ++ ds) (vs ++ dvs) Q E hr I.env0 (hb s us I.kIn hl) r2 h) fun r s' hq => ?_)
  cases r with
  | error e => exact hx pins H s e s' I hq
  | ok fl =>
    cases fl with
    | ret u => exact I.after hq
    | next => exact False.elim hq
    | brk => exact False.elim hq
    | cont => exact False.elim hq
theorem pe_callD {CX : CXT} {k : Nat} {f : Addr} {fd : FuncData} {ps : List Str} {sp : Sp} {x : Str} {p pos : Pos} {es : List Expr} {t : TA} {dvs : Nat → List V} {ds : Nat → List Value} {E : L2.St → XK}
    (F : FnOk X.prog X.w X.K X.mg X.base CX k f fd ps sp) (hr : Room k X.A) (hg : Gl X x) (hdb : (x == ("__debug__" : Str)) = false) (hm : X.mg x = some (.ref f)) (hk : PySem.W.keepIn X.K (.ref f) = true) (hb : ∀ n, Binds X.K fd ps (ds n)) (hd : ∀ n, Vals (dvs n) (ds n)) (hx : ∀ σ, PassesAt CX X σ (E σ))
    (ha : PA X es t) (hs : es.all notStar = true) (hne : es ≠ []) : PE X (.Call (.Name x p) es [] pos) (fun σ H Q => t σ H fun vs H1 => ∃ n, sp (vs ++ dvs n) H1 Q (E σ)) := by
  refine ⟨fun pins s σ H Q I h => ?_⟩
  refine wpAny_Call_Name_kw (ld_glob I hg hm ?_ hdb)
  cases es with
  | nil => exact absurd rfl hne
  | cons e es =>
    rw [List.all_cons, Bool.and_eq_true] at hs
    refine PySem.W.callWith_K (h₀ := X.base) I.ok.mod.kin hk (thn (ha.run pos pins s σ H _ I h) fun us s1 ⟨vs, H1, I1, r, n, q⟩ => ⟨I1.kIn, ?_⟩) (star_cons hs.1) (star_any hs.2)
    exact run_fnD F hr (hb n) (hd n) (hx σ) I1 r q
theorem pe_callD0 {CX : CXT} {k : Nat} {f : Addr} {fd : FuncData} {ps : List Str} {sp : Sp} {x : Str} {p pos : Pos} {dvs : Nat → List V} {ds : Nat → List Value} {E : L2.St → XK}
    (F : FnOk X.prog X.w X.K X.mg X.base CX k f fd ps sp) (hr : Room k X.A) (hg : Gl X x) (hdb : (x == ("__debug__" : Str)) = false) (hm : X.mg x = some (.ref f)) (hk : PySem.W.keepIn X.K (.ref f) = true) (hb : ∀ n, Binds X.K fd ps (ds n)) (hd : ∀ n, Vals (dvs n) (ds n)) (hx : ∀ σ, PassesAt CX X σ (E σ)) :
    PE X (.Call (.Name x p) [] [] pos) (fun σ H Q => ∃ n, sp (dvs n) H Q (E σ)) := by
  refine ⟨fun pins s σ H Q I h => ?_⟩
  obtain ⟨n, h⟩ := h
  refine wpAny_Call_Name_kw (ld_glob I hg hm ?_ hdb)
  exact PySem.W.callWith_K0 I.kIn hk (run_fnD (us := []) (vs := []) F hr (hb n) (hd n) (hx σ) I .nil h)
theorem Vals.dropN {vs : List V} {us : List Value} (h : Vals vs us) (k : Nat) : Vals (vs.drop k) (us.drop k) := h.drop k
theorem s_call {fi : Nat} {fn : Fn} {f : Env → M (List D)} {es : List Expr} {x : Str} {p pos : Pos} (T : Ctx X c sc n C B W) (hf : c.fns[fi]? = some fn) (hn : fn.name = x) (hg : glb sc x = true) (ha : SndA X W f es) :
    Snd X W (fun δ => M.bind (f δ) fun ds => C fi ds) (.Call (.Name x p) es [] pos) := by
  subst hn
  obtain ⟨hC, a, fd, dvs, dus, hm, hk, hd, hrep, hb, F⟩ := T.call fi fn hf
  obtain ⟨g1, g2⟩ := T.s.glb hg
  have hr : Room (n + 71) X.A := T.g.room
  -- what stands behind the arguments
  have fin : ∀ (σ : L2.St) (H : Hp) (Q : VK) (ι : List Addr) (S : Store) (ds : List D) (vs : List V), StRel X.K ι S H → Reps X.K ι H ds vs → Sat (C fi ds S) (OkE X.K ι S H Q) (ExE X.K X.mg ι S H fun c d H' => W c d σ H') →
      ∃ k, spOf X.K X.mg (B fi) fn (vs ++ dvs.drop k) H Q (WE W σ) := by
    intro σ H Q ι S ds vs r q hs
    rw [hC ds] at hs
    unfold fillD at hs
    split at hs
    · rename_i es' he
      split at he
      · rename_i hl
        cases he
        refine ⟨ds.length + fn.dflt.length - fn.params.length, ?_, ι, S, _, r, q.append ((hrep ι H).drop _), hs⟩
        rw [List.length_append, List.length_drop, q.length, (hrep ι H).length]
        omega
      · cases he
    · exact hs.elim
  cases es with
  | nil =>
    refine snd_of ((pe_callD0 (dvs := fun k => dvs.drop k) (ds := fun k => dus.drop k) F hr g1 g2 hm hk hb (fun k => hd.drop k) (passAt T.tk)).mono fun σ H Q h => ?_) rfl
    obtain ⟨ι, δ, S, r, ev, hs⟩ := h
    rw [ha.nil rfl] at hs
    exact fin σ H Q ι S [] [] r rfl hs
  | cons e es =>
    refine snd_of ((pe_callD (dvs := fun k => dvs.drop k) (ds := fun k => dus.drop k) F hr g1 g2 hm hk hb (fun k => hd.drop k) (passAt T.tk) ha.pa ha.ns (by simp)).mono fun σ H Q h => ?_) rfl
    obtain ⟨ι, δ, S, r, ev, hs⟩ := h
    refine ⟨ι, δ, S, r, ev, (Sat.bind hs).mono (fun ds S1 h1 ι1 vs H1 r1 x1 q1 => ?_) fun _ _ _ z => z⟩
    exact fin σ H1 Q ι1 S1 ds vs r1 q1 (h1.mono (fun _ _ z => OkE.of x1 z) fun _ _ _ z => ExE.of x1 z)
theorem bi_boot (b : Bi) : bootBuiltins (b.name : Str) = some b.val ∧ (b.name : Str) ∈ blts ∧ ((b.name : Str) ≠ "__name__") := by
  cases b <;> exact ⟨by decide +kernel, by decide +kernel, by decide +kernel⟩
theorem s_bi {b : Bi} {f : Env → M (List D)} {es : List Expr} {p pos : Pos} (T : Ctx X c sc n C B W) (hg : glb sc (b.name : Str) = true) (ha : SndA X W f es) (hne : es ≠ []) :
    Snd X W (fun δ => M.bind (f δ) fun ds => biD b ds) (.Call (.Name (b.name : Str) p) es [] pos) := by
  obtain ⟨g1, g2⟩ := T.s.glb hg
  obtain ⟨b1, b2, b3⟩ := bi_boot b
  cases es with
  | nil => exact absurd rfl hne
  | cons e es =>
    have hs := ha.ns
    rw [List.all_cons, Bool.and_eq_true] at hs
    have key : PE X (.Call (.Name (b.name : Str) p) (e :: es) [] pos) (tCB (rBi X.K b) (tA X.K X.mg W f)) := by
      have hb := bi_ok T.g b
      cases hv : b.val with
      | builtin id =>
        rw [hv] at hb b1
        exact pe_callB hb g1 (T.b _ b2) b1 ha.pa b3 g2 (star_cons hs.1) (star_any hs.2)
      | type id =>
        rw [hv] at hb b1
        exact pe_callTy hb g1 (T.b _ b2) b1 ha.pa b3 g2 (star_cons hs.1) (star_any hs.2)
      | _ => cases b <;> cases hv
    refine snd_of (key.mono fun σ H Q h => ?_) rfl
    obtain ⟨ι, δ, S, r, ev, hs⟩ := h
    refine ⟨ι, δ, S, r, ev, (Sat.bind hs).mono (fun ds S1 h1 ι1 vs H1 r1 x1 q1 => ?_) fun _ _ _ z => z⟩
    exact ⟨ι1, S1, ds, r1, q1, (h1.noex (calm_bi b ds S1)).mono (fun _ _ z => OkE.of x1 z) fun _ _ _ z => z⟩

theorem few_of {es : List Expr} {env : PySem.Env} {cpos : Pos} (h : es.all notStar = true) (hl : es.length < 20) :
    ((backTo cpos (starEach es env)).all (fun x => !x.1) && (backToKw cpos (keywordEach [] env)).all (fun x => x.1.isSome)
      && decide (es.length + ([] : List Keyword).length + (if ([] : List Keyword).isEmpty then 0 else 1) < 30)) = true := by
  rw [Bool.and_eq_true, Bool.and_eq_true]
  refine ⟨⟨?_, rfl⟩, decide_eq_true (by show es.length + 0 + 0 < 30; omega)⟩
  clear hl
  induction es with
  | nil => rfl
  | cons e es ih =>
    rw [List.all_cons, Bool.and_eq_true] at h
    rw [star_cons h.1]
    exact ih h.2
theorem me_slot (m : Me) : PlainAttrs "list" ∧ Slot "list" (m.nm : Str) m.id ∧ typeOf (.builtin m.id) = pure (.type "method_descriptor") := by
  cases m with
  | append => exact ⟨PySem.F.plainAttrs_list, PySem.F.slot_list_append, PySem.F.type_list_append⟩
  | extend => exact ⟨PySem.F.plainAttrs_list, PySem.F.slot_list_extend, PySem.F.type_list_extend⟩
  | pop => exact ⟨PySem.F.plainAttrs_list, PySem.F.slot_list_pop, PySem.F.type_list_pop⟩
theorem s_meth {m : Me} {f : Env → M D} {g : Env → M (List D)} {o : Expr} {es : List Expr} {apos pos : Pos} (ho : Snd X W f o) (ha : SndA X W g es) (hb : attrOk o = true) (hl : (apos.endLine == pos.line) = true) (hk : es.length < 20) :
    Snd X W (fun δ => M.bind (f δ) fun x => M.bind (refD x) fun y => M.bind (g δ) fun ds => meD m y ds) (.Call (.Attribute o (m.nm : Str) apos) es [] pos) := by
  obtain ⟨s1, s2, s3⟩ := me_slot m
  have ref : ∀ {ι S H d v} {P : D → Store → Prop}, StRel X.K ι S H → Rep X.K ι H d v → Sat (refD d S) P (ExE X.K X.mg ι S H fun c d H' => True) → tyV X.K "list" v H ∧ P d S := by
    intro ι S H d v P r q h
    unfold refD at h
    split at h
    · obtain ⟨a, rfl, ea⟩ := q
      split at h
      · rename_i o e
        refine ⟨.inl ⟨rfl, ?_⟩, h⟩
        have ob := r.obs _ o a e ea
        cases o with
        | lst es => obtain ⟨vs, h1, _⟩ := ob; exact ⟨vs, .of h1⟩
        | frz es => obtain ⟨vs, h1, _⟩ := ob; exact ⟨vs, h1.sq⟩
      · exact h.elim
    · exact h.elim
  cases es with
  | nil =>
    refine snd_of ((pe_bm0 s1 s2 s3 (me_ok m) ho.pe (attr_base hb) hl).mono fun σ H Q h => ?_) rfl
    obtain ⟨ι, δ, S, r, ev, hs⟩ := h
    refine ⟨ι, δ, S, r, ev, (Sat.bind hs).mono (fun d S1 h1 ι1 v H1 r1 x1 q1 => ?_) fun _ _ _ z => z⟩
    obtain ⟨t1, t2⟩ := ref r1 q1 ((Sat.bind h1).mono (fun _ _ z => z) fun _ _ _ _ => fun _ _ _ _ _ _ _ _ _ _ => trivial)
    rw [ha.nil rfl] at t2
    have t2 : Sat (meD m d [] S1) (OkE X.K ι S H Q) (ExE X.K X.mg ι S H fun c d H' => W c d σ H') := t2
    exact ⟨t1, ι1, S1, d, [], r1, q1, rfl, (t2.noex (calm_me m d [] S1)).mono (fun _ _ z => OkE.of x1 z) fun _ _ _ z => z⟩
  | cons e es =>
    have hs := ha.ns
    rw [List.all_cons, Bool.and_eq_true] at hs
    refine snd_of ((pe_bm s1 s2 s3 (me_ok m) ho.pe ha.pa (attr_base hb) (few_of ha.ns hk) hl (star_cons hs.1) (star_any hs.2)).mono fun σ H Q h => ?_) rfl
    obtain ⟨ι, δ, S, r, ev, hs⟩ := h
    refine ⟨ι, δ, S, r, ev, (Sat.bind hs).mono (fun d S1 h1 ι1 v H1 r1 x1 q1 => ?_) fun _ _ _ z => z⟩
    obtain ⟨t1, t2⟩ := ref r1 q1 ((Sat.bind h1).mono (fun _ _ z => z) fun _ _ _ _ => fun _ _ _ _ _ _ _ _ _ _ => trivial)
    refine ⟨t1, ι1, δ, S1, r1, ev.ext r x1, (Sat.bind t2).mono (fun ds S2 h2 ι2 vs H2 r2 x2 q2 => ?_) fun c d2 S2 h2 => ExE.of x1 h2⟩
    exact ⟨ι2, S2, d, ds, r2, q1.ext r1 x2, q2, (h2.noex (calm_me m d ds S2)).mono (fun _ _ z => OkE.of (x1.trans x2) z) fun _ _ _ z => z⟩
/-! ### isinstance -/
theorem nm_boot (t : Ty) : bootBuiltins (t.nm : Str) = some (.type t.nm) ∧ (t.nm : Str) ∈ blts ∧ ((t.nm : Str) ≠ "__name__") := by
  cases t <;> exact ⟨by decide +kernel, by decide +kernel, by decide +kernel⟩
theorem pe_ty (T : Ctx X c sc n C B W) {t : Ty} {p : Pos} (hg : glb sc (t.nm : Str) = true) : PE X (.Name (t.nm : Str) p) (tC (.ty t.nm)) := by
  obtain ⟨g1, g2⟩ := T.s.glb hg
  obtain ⟨b1, b2, b3⟩ := nm_boot t
  exact pe_bltn g1 (T.b _ b2) b1 rfl b3 g2
theorem s_isi1 {t : Ty} {f : Env → M D} {y : Expr} {p p2 pos : Pos} (T : Ctx X c sc n C B W) (hg : glb sc ("isinstance" : Str) = true) (hg2 : glb sc (t.nm : Str) = true) (hy : Snd X W f y) (ns : notStar y = true) :
    Snd X W (fun δ => M.bind (f δ) fun x => M.bind (isinstD [t] x) fun b => M.ret (.bl b)) (.Call (.Name "isinstance" p) [y, .Name (t.nm : Str) p2] [] pos) := by
  obtain ⟨g1, g2⟩ := T.s.glb hg
  refine snd_of ((pe_callB call_isi g1 (T.b _ (by decide +kernel)) (by decide +kernel) (pa_cons hy.pe (pa_cons (pe_ty T hg2) pa_nil) (star_cons ns)) (by decide +kernel) g2 (star_cons ns)).mono fun σ H Q h => ?_) rfl
  obtain ⟨ι, δ, S, r, ev, hs⟩ := h
  refine ⟨ι, δ, S, r, ev, (Sat.bind hs).mono (fun d S1 h1 ι1 v H1 r1 x1 q1 => ?_) fun _ _ _ z => z⟩
  obtain ⟨ty, g, h2, h3, h4⟩ := inst_at r1 q1 ((Sat.bind h1).noex (calm_inst [t] d S1))
  refine ⟨v, _, ty, _, g t, rfl, .ty _, h2, h3 t, ?_⟩
  have e : ([t].any g) = g t := by simp
  rw [e] at h4
  exact OkE.here (OkE.of x1 h4) r1 rfl
theorem pa_tys (T : Ctx X c sc n C B W) : ∀ {ts : List Ty} {xs : List Expr}, ts.length = xs.length → (ts.zip xs).all (fun p => tyOk p.1 p.2) = true → (xs.all fun e => match e with | .Name x _ => glb sc x | _ => false) = true →
    PA X xs (fun _ H Q => Q (ts.map fun t => V.ty t.nm) H)
  | [], [], _, _, _ => pa_nil
  | t :: ts, e :: xs, hl, h1, h2 => by
    rw [List.zip_cons_cons, List.all_cons, Bool.and_eq_true] at h1
    rw [List.all_cons, Bool.and_eq_true] at h2
    have h1a : tyOk t e = true := h1.1
    unfold tyOk at h1a
    split at h1a
    · cases eq_of_beq h1a
      exact pa_cons (pe_ty T h2.1) (pa_tys T (by simpa using hl) h1.2 h2.2)
    · cases h1a
theorem s_isiT {ts : List Ty} {f : Env → M D} {y : Expr} {xs : List Expr} {k : Nat} {p p2 pos : Pos} (T : Ctx X c sc n C B W) (hg : glb sc ("isinstance" : Str) = true) (hy : Snd X W f y) (ns : notStar y = true)
    (hl : ts.length = xs.length) (h1 : (ts.zip xs).all (fun p => tyOk p.1 p.2) = true) (h2 : (xs.all fun e => match e with | .Name x _ => glb sc x | _ => false) = true) (hz : ts.length ≤ 100) :
    Snd X W (fun δ => M.bind (f δ) fun x => M.bind (isinstD ts x) fun b => M.ret (.bl b)) (.Call (.Name "isinstance" p) [y, .Tuple xs k p2] [] pos) := by
  obtain ⟨g1, g2⟩ := T.s.glb hg
  refine snd_of ((pe_callB call_isiT g1 (T.b _ (by decide +kernel)) (by decide +kernel) (pa_cons hy.pe (pa_cons (pe_tup (pa_tys T hl h1 h2)) pa_nil) (star_cons ns)) (by decide +kernel) g2 (star_cons ns)).mono fun σ H Q h => ?_) rfl
  obtain ⟨ι, δ, S, r, ev, hs⟩ := h
  refine ⟨ι, δ, S, r, ev, (Sat.bind hs).mono (fun d S1 h1 ι1 v H1 r1 x1 q1 => ?_) fun _ _ _ z => z⟩
  refine ⟨by rw [List.length_map, sizeLine_eq]; omega, fun tp htp => ?_⟩
  have x2 := ext_tup r1 htp (vs := ts.map fun t => V.ty t.nm)
  have r2 := st_tup r1 htp (vs := ts.map fun t => V.ty t.nm)
  have h1' : Sat (isinstD ts d S1) (fun b S' => OkE X.K ι S H Q (.bl b) S') NoEx := (Sat.bind h1).noex (calm_inst ts d S1)
  obtain ⟨ty, g, h2, h3, h4⟩ := inst_at r2 (q1.ext r1 x2) h1'
  exact ⟨v, tp, _, ty, _, _, rfl, upd_same, cls_all ts, h2, kit_all h3 ts, OkE.here (OkE.of (x1.trans x2) h4) r2 rfl⟩
end
end Ev

set_option Elab.async false
set_option linter.all false
set_option maxRecDepth 100000
set_option maxHeartbeats 2000000
set_option autoImplicit false
/-! EvI: targets, comprehensions. -/
namespace Ev
open PySem PySem.Spec PyProof.Rows L2
theorem _root_.L2.PG.mono {X : Cx} {e : Expr} {t t' : TG} (h : PG X e t) (m : ∀ v σ H Q, t' v σ H Q → t v σ H Q) : PG X e t' := ⟨fun pins s σ H v u Q I r w => h.run pins s σ H v u Q I r (m v σ H Q w)⟩
theorem _root_.L2.PGs.mono {X : Cx} {e : List Expr} {t t' : TGs} (h : PGs X e t) (m : ∀ v σ H Q, t' v σ H Q → t v σ H Q) : PGs X e t' := ⟨fun pins s σ H v u Q I r w => h.run pins s σ H v u Q I r (m v σ H Q w)⟩
def setV : List Nat → List V → L2.St → Option L2.St
  | [], [], σ => some σ
  | i :: is, v :: vs, σ => setV is vs (σ.set i (some v))
  | _, _, _ => none
theorem wipe_get {σ : L2.St} {i : Nat} : ∀ {vs : List Nat}, i ∈ vs → (L2.wipe σ vs)[i]? = (L2.wipe σ vs)[i]? := fun _ => rfl
theorem wipe_set {σ : L2.St} {i : Nat} {x : Option V} : ∀ {vs : List Nat}, i ∈ vs → L2.wipe (σ.set i x) vs = L2.wipe σ vs
  | v :: vs, h => by
    unfold L2.wipe
    by_cases hi : i ∈ vs
    · rw [wipe_set hi]
    · have e : i = v := by
        rcases List.mem_cons.mp h with e | e
        · exact e
        · exact absurd e hi
      subst e
      have key : ∀ (ws : List Nat), i ∉ ws → L2.wipe (σ.set i x) ws = (L2.wipe σ ws).set i x := by
        intro ws
        induction ws with
        | nil => intro _; rfl
        | cons w ws ih =>
          intro hn
          rw [List.mem_cons, not_or] at hn
          unfold L2.wipe
          rw [ih hn.2, List.set_comm _ _ hn.1]
      rw [key vs hi, List.set_set]
section
variable {K : PySem.W.Frag} {ι : List Addr} {H : Hp}
theorem setAll_rep : ∀ {is : List Nat} {ds : List D} {vs : List V} {δ δ' : Env} {σ : L2.St}, Reps K ι H ds vs → EnvRel K ι H δ σ → setAll is ds δ = some δ' →
    ∃ σ', setV is vs σ = some σ' ∧ EnvRel K ι H δ' σ' ∧ ∀ ws, (∀ i ∈ is, i ∈ ws) → L2.wipe σ' ws = L2.wipe σ ws
  | [], [], vs, δ, δ', σ, q, e, h => by
    cases h
    rw [show vs = [] from q]
    exact ⟨σ, rfl, e, fun _ _ => rfl⟩
  | i :: is, d :: ds, _, δ, δ', σ, ⟨v, r, ev, h1, h2⟩, e, h => by
    subst ev
    obtain ⟨σ', e1, e2, e3⟩ := setAll_rep h2 (e.set h1) (show setAll is ds (δ.set i (some d)) = some δ' from h)
    refine ⟨σ', e1, e2, fun ws hw => ?_⟩
    rw [e3 ws fun j hj => hw j (List.mem_cons_of_mem _ hj)]
    exact wipe_set (hw i List.mem_cons_self)
  | [], _ :: _, _, _, _, _, _, _, h => by cases h
  | _ :: _, [], _, _, _, _, _, _, h => by cases h
end
/-- a target's reading -/
def tG (K : PySem.W.Frag) (t : Tg) : TG := fun v σ H Q => ∃ ι δ S d δ', StRel K ι S H ∧ EnvRel K ι H δ σ ∧ Rep K ι H d v ∧ asgD t d δ = some δ' ∧
  ∀ σ', EnvRel K ι H δ' σ' → (∀ ws, (∀ i ∈ t.at, i ∈ ws) → L2.wipe σ' ws = L2.wipe σ ws) → Q σ' H
section
variable {X : Cx}
theorem pg_names {N : List Str} {ok : Str → Bool} (hN : X.N.Nodup) (eN : X.N = N) (hok : ∀ x, ok x = true → Loc X.env.scope x ∧ (X.fn x = true ∨ X.env.scope.names.lookup x = some .local)) :
    ∀ {is : List Nat} {es : List Expr}, namesAt N ok is es = true → PGs X es (fun vs σ H Q => ∃ σ', setV is vs σ = some σ' ∧ Q σ' H) ∧ (assignEach es X.env).length = is.length ∧ (assignEach es X.env).findIdx? (·.1) = none
  | [], [], _ => by
    refine ⟨pgs_nil.mono fun vs σ H Q h => ?_, rfl, rfl⟩
    obtain ⟨σ', e, q⟩ := h
    unfold setV at e
    split at e
    · cases e; exact ⟨rfl, q⟩
    · contradiction
    · cases e
  | i :: is, .Name x p :: es, h => by
    unfold namesAt at h
    rw [Bool.and_eq_true, Bool.and_eq_true] at h
    obtain ⟨⟨h1, h2⟩, h3⟩ := h
    obtain ⟨ih, il, ix⟩ := pg_names hN eN hok h3
    obtain ⟨l1, l2⟩ := hok x h2
    have e := assign_each (e := .Name x p) (es := es) (env := X.env) rfl
    refine ⟨(pgs_cons (pg_name hN (by rw [eN]; exact eq_of_beq h1) l1 l2) ih (by rw [e]; rfl)).mono fun vs σ H Q h => ?_, by rw [e, List.length_cons, il]; rfl, ?_⟩
    · obtain ⟨σ', e, q⟩ := h
      cases vs with
      | nil => cases e
      | cons v vs => exact ⟨v, vs, rfl, σ', e, q⟩
    · rw [e, List.findIdx?_cons, ix]
      rfl
theorem pg_tg {N : List Str} {ok : Str → Bool} (hc : X.calm = true) (hN : X.N.Nodup) (eN : X.N = N) (hok : ∀ x, ok x = true → Loc X.env.scope x ∧ (X.fn x = true ∨ X.env.scope.names.lookup x = some .local)) {t : Tg} {tg : Expr} (h : tgOk N ok t tg = true) : PG X tg (tG X.K t) := by
  unfold tgOk at h
  split at h
  · rw [Bool.and_eq_true] at h
    obtain ⟨l1, l2⟩ := hok _ h.2
    refine (pg_name hN (by rw [eN]; exact eq_of_beq h.1) l1 l2).mono fun v σ H Q w => ?_
    obtain ⟨ι, δ, S, d, δ', r, ev, q, ha, k⟩ := w
    cases ha
    exact k _ (ev.set q) fun ws hw => wipe_set (hw _ (by simp [Tg.at]))
  · obtain ⟨h1, h2, h3⟩ := pg_names hN eN hok h
    refine (pg_tup hc h1 h2 h3).mono fun v σ H Q w => ?_
    obtain ⟨ι, δ, S, d, δ', r, ev, q, ha, k⟩ := w
    unfold asgD at ha
    simp only at ha
    split at ha
    · obtain ⟨a, vs, rfl, t, q⟩ := q
      obtain ⟨σ', e1, e2, e3⟩ := setAll_rep q ev ha
      refine ⟨a, vs, rfl, t.sq, ?_, σ', e1, k σ' e2 e3⟩
      have len : ∀ (is : List Nat) (vs : List V) (σ σ' : L2.St), setV is vs σ = some σ' → vs.length = is.length := by
        intro is
        induction is with
        | nil => intro vs σ σ' h; cases vs with | nil => rfl | cons _ _ => cases h
        | cons i is ih => intro vs σ σ' h; cases vs with | nil => cases h | cons v vs => rw [List.length_cons, List.length_cons, ih vs _ _ h]
      exact len _ _ _ _ e1
    · cases ha
  · rw [Bool.and_eq_true, Bool.and_eq_true] at h
    obtain ⟨⟨n1, n2⟩, n3⟩ := h
    obtain ⟨l1, l2⟩ := hok _ n2
    obtain ⟨h1, h2, h3⟩ := pg_names hN eN hok n3
    refine (pg_tup hc (pgs_cons (pg_name hN (by rw [eN]; exact eq_of_beq n1) l1 l2) (pgs_cons (pg_tup hc h1 h2 h3) pgs_nil (by rw [assign_each rfl]; rfl)) (by rw [assign_each rfl]; rfl)) (n := 2) (by rw [assign_each rfl, assign_each rfl]; rfl) (by rw [assign_each rfl, assign_each rfl]; rfl)).mono fun v σ H Q w => ?_
    obtain ⟨ι, δ, S, d, δ', r, ev, q, ha, k⟩ := w
    unfold asgD at ha
    simp only at ha
    split at ha
    · obtain ⟨a, vs, rfl, t, q⟩ := q
      obtain ⟨v, w, rfl, q1, b, ws, rfl, tb, q2⟩ := reps2 q
      obtain ⟨σ', e1, e2, e3⟩ := setAll_rep q2 (ev.set q1) ha
      refine ⟨a, _, rfl, t.sq, rfl, v, _, rfl, _, [], rfl, b, ws, rfl, tb.sq, ?_, σ', e1, rfl, k σ' e2 fun us hu => ?_⟩
      · have len : ∀ (is : List Nat) (vs : List V) (σ σ' : L2.St), setV is vs σ = some σ' → vs.length = is.length := by
          intro is
          induction is with
          | nil => intro vs σ σ' h; cases vs with | nil => rfl | cons _ _ => cases h
          | cons i is ih => intro vs σ σ' h; cases vs with | nil => cases h | cons v vs => rw [List.length_cons, List.length_cons, ih vs _ _ h]
        exact len _ _ _ _ e1
      · rw [e3 us fun j hj => hu j (List.mem_cons_of_mem _ hj)]
        exact wipe_set (hu _ List.mem_cons_self)
    · cases ha
  · cases h

/-! ### the new list of a comprehension, not yet of the store -/
theorem TupAt.lst {K : PySem.W.Frag} {H : Hp} {D : Addr} {xs ys : List V} (hD : H D = some (.lst xs)) {a : Addr} {vs : List V} (h : TupAt K H a vs) : TupAt K (upd H D (.lst ys)) a vs := by
  rcases h with h | h
  · exact .inl (by rw [upd_ne (ne_of h hD (by intro z; cases z))]; exact h)
  · exact .inr h
theorem FrzAt.lst {K : PySem.W.Frag} {H : Hp} {D : Addr} {xs ys : List V} (hD : H D = some (.lst xs)) {a : Addr} {vs : List V} (h : FrzAt K H a vs) : FrzAt K (upd H D (.lst ys)) a vs := by
  rcases h with ⟨o, h⟩ | h
  · exact .inl ⟨o, by rw [upd_ne (ne_of h hD (by intro z; cases z))]; exact h⟩
  · exact .inr h
mutual
theorem Rep.lst {K : PySem.W.Frag} {ι : List Addr} {H : Hp} {D : Addr} {xs ys : List V} (hD : H D = some (.lst xs)) : ∀ {d : Ev.D} {v : V}, Rep K ι H d v → Rep K ι (upd H D (.lst ys)) d v
  | .non, _, h => h
  | .bl _, _, h => h
  | .int _, _, h => h
  | .str _, _, h => h
  | .tup _, _, ⟨a, vs, e, t, q⟩ => ⟨a, vs, e, t.lst hD, Reps.lst hD q⟩
  | .ref _, _, h => h
theorem Reps.lst {K : PySem.W.Frag} {ι : List Addr} {H : Hp} {D : Addr} {xs ys : List V} (hD : H D = some (.lst xs)) : ∀ {ds : List Ev.D} {vs : List V}, Reps K ι H ds vs → Reps K ι (upd H D (.lst ys)) ds vs
  | [], _, h => h
  | _ :: _, _, ⟨v, q, e, h1, h2⟩ => ⟨v, q, e, Rep.lst hD h1, Reps.lst hD h2⟩
end
theorem st_side {K : PySem.W.Frag} {ι : List Addr} {S : Store} {H : Hp} {p : Addr} {xs ys : List V} (r : StRel K ι S H) (hp : H p = some (.lst xs)) (no : ¬ Own ι S p) : StRel K ι S (upd H p (.lst ys)) := by
  refine ⟨r.len, r.inj, fun k o a h1 h2 => ?_⟩
  have ob := r.obs k o a h1 h2
  cases o with
  | lst ds =>
    obtain ⟨vs, e, q⟩ := ob
    have ne : a ≠ p := fun z => no ⟨k, ds, h1, by rw [← z]; exact h2⟩
    exact ⟨vs, by rw [upd_ne ne]; exact e, q.lst hp⟩
  | frz ds =>
    obtain ⟨vs, e, q⟩ := ob
    exact ⟨vs, e.lst hp, q.lst hp⟩
theorem st_fresh {K : PySem.W.Frag} {ι : List Addr} {S : Store} {H : Hp} {p : Addr} {ys : List V} (r : StRel K ι S H) (hp : H p = none) : StRel K ι S (upd H p (.lst ys)) ∧ Ext ι S H ι S (upd H p (.lst ys)) := by
  have x : Ext ι S H ι S (upd H p (.lst ys)) := ⟨List.prefix_refl _, fun a o h n => ⟨by rw [upd_ne (ne_of_none h hp)]; exact h, n⟩, fun _ _ h => h⟩
  exact ⟨⟨r.len, r.inj, fun k o a h1 h2 => (r.obs k o a h1 h2).ext r x fun _ _ ws e => by rw [upd_ne (ne_of_none e hp)]; exact e⟩, x⟩
/-- it becomes one of the store -/
theorem own_adopt {K : PySem.W.Frag} {ι : List Addr} {S : Store} {H : Hp} (r : StRel K ι S H) {p : Addr} {ds : List D} {a : Addr} (h : Own (ι ++ [p]) (S ++ [Ob.lst ds]) a) : Own ι S a ∨ a = p := own_new r h
theorem st_adopt {K : PySem.W.Frag} {ι : List Addr} {S : Store} {H : Hp} {p : Addr} {vs : List V} {ds : List D} (r : StRel K ι S H) (hp : H p = some (.lst vs)) (no : ¬ Own ι S p) (q : Reps K ι H ds vs) : StRel K (ι ++ [p]) (S ++ [Ob.lst ds]) H := by
  have x : Ext ι S H (ι ++ [p]) S H := ⟨List.prefix_append _ _, fun a o h n => ⟨h, fun ⟨k, es, h1, h2⟩ => n ⟨k, es, h1, by
    rw [List.getElem?_append_left (by rw [r.len]; exact (List.getElem?_eq_some_iff.mp h1).1)] at h2
    exact h2⟩⟩, fun _ _ h => h⟩
  have old : ∀ (k : Nat) (o : Ob), k < S.length → (S ++ [Ob.lst ds])[k]? = some o → S[k]? = some o := fun k o hk h => by rw [List.getElem?_append_left hk] at h; exact h
  have oldi : ∀ (k : Nat) (a : Addr), k < S.length → (ι ++ [p])[k]? = some a → ι[k]? = some a := fun k o hk h => by rw [List.getElem?_append_left (by rw [r.len]; exact hk)] at h; exact h
  have big : ∀ (k : Nat) (o : Ob), ¬ k < S.length → (S ++ [Ob.lst ds])[k]? = some o → k = S.length ∧ o = .lst ds := fun k o hk h => by
    have hk2 := (List.getElem?_eq_some_iff.mp h).1
    rw [List.length_append, List.length_singleton] at hk2
    have e : k = S.length := by omega
    subst e
    rw [List.getElem?_append_right (Nat.le_refl _), Nat.sub_self] at h
    exact ⟨rfl, (Option.some.inj h).symm⟩
  have atp : (ι ++ [p])[S.length]? = some p := by rw [← r.len, List.getElem?_append_right (Nat.le_refl _), Nat.sub_self]; rfl
  have notp : ∀ (k : Nat) (es : List D), k < S.length → S[k]? = some (Ob.lst es) → ι[k]? ≠ some p := fun k es hk h e => no ⟨k, es, h, e⟩
  refine ⟨by rw [List.length_append, List.length_append, r.len]; rfl, fun k l es fs a h1 h2 h3 h4 => ?_, fun k o a h1 h2 => ?_⟩
  · by_cases hk : k < S.length
    · by_cases hl : l < S.length
      · exact r.inj k l es fs a (old k _ hk h1) (old l _ hl h2) (oldi k a hk h3) (oldi l a hl h4)
      · obtain ⟨e, _⟩ := big l _ hl h2
        subst e
        rw [atp] at h4
        cases h4
        exact absurd (oldi k _ hk h3) (notp k es hk (old k _ hk h1))
    · obtain ⟨e, _⟩ := big k _ hk h1
      subst e
      rw [atp] at h3
      cases h3
      by_cases hl : l < S.length
      · exact absurd (oldi l _ hl h4) (notp l fs hl (old l _ hl h2))
      · exact (big l _ hl h2).1.symm
  · by_cases hk : k < S.length
    · exact (r.obs k o a (old k o hk h1) (oldi k a hk h2)).ext r x fun _ _ ws e => e
    · obtain ⟨e, e2⟩ := big k o hk h1
      subst e
      subst e2
      rw [atp] at h2
      cases h2
      exact ⟨vs, hp, q.ext r x⟩
theorem ext_adopt {K : PySem.W.Frag} {ι0 ι : List Addr} {S0 S : Store} {H0 H : Hp} {p : Addr} {ds : List D} (r : StRel K ι S H) (x : Ext ι0 S0 H0 ι S H) (h0 : H0 p = none) : Ext ι0 S0 H0 (ι ++ [p]) (S ++ [Ob.lst ds]) H := by
  refine ⟨x.pre.trans (List.prefix_append _ _), fun a o h n => ?_, fun k es h => by
    have h2 := x.frz k es h
    rw [List.getElem?_append_left (List.getElem?_eq_some_iff.mp h2).1]
    exact h2⟩
  obtain ⟨h1, h2⟩ := x.keep a o h n
  refine ⟨h1, fun q => ?_⟩
  rcases own_adopt r q with q | q
  · exact h2 q
  · rw [q, h0] at h
    cases h
theorem ext_side {ι0 ι : List Addr} {S0 S : Store} {H0 H : Hp} {p : Addr} {ys : List V} (x : Ext ι0 S0 H0 ι S H) (h0 : H0 p = none) : Ext ι0 S0 H0 ι S (upd H p (.lst ys)) :=
  ⟨x.pre, fun a o h n => ⟨by rw [upd_ne (ne_of_none h h0)]; exact (x.keep a o h n).1, (x.keep a o h n).2⟩, x.frz⟩
theorem EnvRel.side {K : PySem.W.Frag} {ι : List Addr} {H : Hp} {D : Addr} {xs ys : List V} {δ : Env} {σ : L2.St} (hD : H D = some (.lst xs)) (e : EnvRel K ι H δ σ) : EnvRel K ι (upd H D (.lst ys)) δ σ :=
  ⟨e.1, fun i d h => let ⟨v, h1, h2⟩ := e.2 i d h; ⟨v, h1, h2.lst hD⟩⟩

/-- in a comprehension's block nothing may raise -/
abbrev noW : WX := fun _ _ _ _ => False
theorem takes_no {X : Cx} : Takes X noW := fun u s' ⟨_, _, _, _, _, _, _, _, _, _, _, _, _, _, _, _, w⟩ => w.elim
theorem Ctx.blk {X : Cx} {c : Cfg} {sc : Scope} {n : Nat} {C : Calls} {B : Nat → List D → M D} {W : WX} (T : Ctx X c sc n C B W) (s : Shared) (H : Hp) (scope : Scope) (A : Addr) (cl : List (Str × Addr)) (fp : List Addr) :
    Ctx (X.blk s H scope (compEnvC scope cl A X.env) fp) c (relS scope sc) n C B noW :=
  ⟨⟨T.g.calm, T.g.room, T.g.seer, T.g.tree, T.g.stk, T.g.nd⟩, ⟨by rw [← T.s.scope]; rfl, T.s.N⟩, T.b, T.con, T.call, takes_no⟩
theorem ok_blk {X : Cx} {c : Cfg} {sc : Scope} {n : Nat} {C : Calls} {B : Nat → List D → M D} {W : WX} (T : Ctx X c sc n C B W) (s : Shared) (H : Hp) (scope : Scope) (A : Addr) (cl : List (Str × Addr)) (fp : List Addr) (x : Str) (h : loc scope x = true) :
    Loc (X.blk s H scope (compEnvC scope cl A X.env) fp).env.scope x ∧ ((X.blk s H scope (compEnvC scope cl A X.env) fp).fn x = true ∨ (X.blk s H scope (compEnvC scope cl A X.env) fp).env.scope.names.lookup x = some .local) := by
  have es : (X.blk s H scope (compEnvC scope cl A X.env) fp).env.scope = relS scope sc := by rw [← T.s.scope]; rfl
  unfold loc at h
  rw [Bool.or_eq_true] at h
  rw [es]
  rcases h with h | h
  · have q := lookup_relS_keep (sc := sc) (by decide) (eq_of_beq h)
    exact ⟨.inl q, .inr q⟩
  · have q := lookup_relS_keep (sc := sc) (by decide) (eq_of_beq h)
    exact ⟨.inr q, .inl h⟩
/-- a clause's test -/
structure SndC (X : Cx) (W : WX) (f : Env → M Bool) (ifs : List Expr) : Prop where
  pts : PTs X ifs (tT X.K X.mg W f)
theorem _root_.L2.PTs.mono {X : Cx} {es : List Expr} {t t' : TT} (h : PTs X es t) (m : ∀ σ H Q, t' σ H Q → t σ H Q) : PTs X es t' := ⟨fun pins s σ H Q I w => h.run pins s σ H Q I (m σ H Q w)⟩
theorem sc_none {X : Cx} {W : WX} : SndC X W (fun _ => M.ret true) [] := ⟨pts_nil.mono fun σ H Q h => tT_ret h⟩
theorem sc_some {X : Cx} {W : WX} {f : Env → M D} {e : Expr} (h : Snd X W f e) : SndC X W (fun δ => M.bind (f δ) truthD) [e] := ⟨pts_one h.pt⟩
end
end Ev

set_option Elab.async false
set_option linter.all false
set_option maxRecDepth 100000
set_option maxHeartbeats 2000000
set_option autoImplicit false
/-! EvJ: comprehensions. -/
namespace Ev
open PySem PySem.Spec PyProof.Rows L2
section
variable {X : Cx} {c : Cfg} {sc : Scope} {n : Nat} {C : Calls} {B : Nat → List D → M D} {W : WX}
theorem src_notSet {k : Src} {iter tg : Expr} {xs : List Expr} (h : srcArgs sc k iter tg = some xs) : notSet iter = true := by
  unfold srcArgs at h
  split at h
  · split at h
    · assumption
    · cases h
  · rfl
  · rfl
  · rfl
  · cases h
theorem pi_of {k : Src} {iter tg : Expr} {xs : List Expr} {f : Env → M (List D)} (T : Ctx X c sc n C B W) (ha : SndA X W f xs) (h : srcArgs sc k iter tg = some xs) : PI X tg iter (tI X.K X.mg W (fun δ => M.bind (f δ) (srcD k))) := by
  refine src_ok T.s T.b ha.pa ha.ns ha.len (fun x hx => ?_) h
  obtain ⟨fe, h1, h2⟩ := ha.one x hx
  refine h1.pe.mono fun σ H Q w => ?_
  obtain ⟨ι, δ, S, r, ev, hs⟩ := w
  rw [h2] at hs
  refine ⟨ι, δ, S, r, ev, (Sat.bind hs).mono (fun d S1 h3 ι1 v H1 r1 x1 q1 => ?_) fun _ _ _ z => z⟩
  obtain ⟨v', e, q⟩ := h3 ι1 [v] H1 r1 x1 (.one q1)
  cases e
  exact q
theorem Sat.uncalm {α : Type} {m : M α} {S : Store} {ok : α → Store → Prop} {ex : Str → D → Store → Prop} (h : Sat (M.calm m S) ok ex) : Sat (m S) ok NoEx := by
  unfold M.calm at h
  cases e : m S with
  | ok a S' => rw [e] at h; exact h
  | exc c v S' => rw [e] at h; exact h.elim
  | bad => rw [e] at h; exact h.elim
theorem Sat.stay {α : Type} {S0 : Store} {ks : List Nat} {m : M α} {S : Store} {ok : α → Store → Prop} {ex : Str → D → Store → Prop} (h : Sat (stayD S0 ks m S) ok ex) : kept S0 S ks ∧ Sat (m S) ok ex := by
  unfold stayD at h
  split at h
  · exact ⟨by assumption, h⟩
  · exact h.elim
theorem Sat.opt {α : Type} {o : Option α} {S : Store} {ok : α → Store → Prop} {ex : Str → D → Store → Prop} (h : Sat (M.opt o S) ok ex) : ∃ a, o = some a ∧ ok a S := by
  cases o with
  | some a => exact ⟨a, rfl, h⟩
  | none => exact h.elim
/-- what a comprehension's turn does -/
def turnC (t : Tg) (vs : List Nat) (δ : Env) (fc : Env → M Bool) (fe : Env → M D) (d : D) : M (List D) :=
  M.bind (envM (asgD t d (wipeD δ vs))) fun δ1 => M.bind (fc δ1) fun k => condD k (M.bind (fe δ1) fun y => M.ret [y]) (M.ret [])
theorem sat_no {K : PySem.W.Frag} {mg : Mg} {ι : List Addr} {S : Store} {H : Hp} {σ : L2.St} {α : Type} {r : R α} {ok : α → Store → Prop} (h : Sat r ok NoEx) : Sat r ok (ExE K mg ι S H fun c d H' => noW c d σ H') := h.mono (fun _ _ z => z) fun _ _ _ z => z.elim
theorem comp_read {own : List (Str × Nat)} {t : Tg} {k : Src} {fs : Env → M (List D)} {fc : Env → M Bool} {fe : Env → M D} (hin : (t.at.all fun i => (own.map (·.2)).contains i) = true) {σ : L2.St} {H : Hp} {Q : VK}
    (w : tD X.K X.mg W (fun δ => M.bind (fs δ) fun ss => M.bind (srcD k ss) fun its => M.bind M.get fun S0 => M.bind (M.calm (eachD S0 its.keep (turnC t (own.map (·.2)) δ fc fe) its.items)) lstD) σ H Q) :
    tLc (tI X.K X.mg W (fun δ => M.bind (fs δ) (srcD k))) (tG X.K t) (tT X.K X.mg noW fc) (tD X.K X.mg noW fe) (own.map (·.2)) σ H Q := by
  obtain ⟨ι, δ, S, r, ev, w⟩ := w
  have w : Sat (M.bind (M.bind (fs δ) (srcD k)) (fun its => M.bind M.get fun S0 => M.bind (M.calm (eachD S0 its.keep (turnC t (own.map (·.2)) δ fc fe) its.items)) lstD) S) (OkE X.K ι S H Q) (ExE X.K X.mg ι S H fun c d H' => W c d σ H') := by
    rw [M.bind_assoc]
    exact w
  refine ⟨ι, δ, S, r, ev, (Sat.bind w).mono (fun its S1 h1 ι1 J H1 r1 x1 wk => ?_) fun _ _ _ z => z⟩
  have h1 : Sat (M.calm (eachD S1 its.keep (turnC t (own.map (·.2)) δ fc fe) its.items) S1) (fun ds S2 => Sat (lstD ds S2) (OkE X.K ι S H Q) (ExE X.K X.mg ι S H fun c d H' => W c d σ H')) _ := Sat.bind h1
  have h1 := h1.uncalm
  intro P hP
  -- what holds between two turns
  obtain ⟨r1P, x1P⟩ := st_fresh r1 hP (ys := [])
  have noP : ¬ Own ι1 S1 P := own_free r1 hP
  refine ⟨fun i m H' => i + m = its.items.length ∧ ∃ ι' S' acc vs, StRel X.K ι' S' H' ∧ Ext ι1 S1 H1 ι' S' H' ∧ H' P = some (.lst vs) ∧ Reps X.K ι' H' acc vs ∧ ¬ Own ι' S' P ∧
      Sat (eachD S1 its.keep (turnC t (own.map (·.2)) δ fc fe) (its.items.drop i) S') (fun rest S2 => Sat (lstD (acc ++ rest) S2) (OkE X.K ι S H Q) (ExE X.K X.mg ι S H fun c d H' => W c d σ H')) NoEx,
    ⟨its.items.length, by omega, ι1, S1, [], [], r1P, x1P, upd_same, rfl, noP, by rw [List.drop_zero]; exact h1⟩, ?_⟩
  rintro i m H2 ⟨him, ι2, S2, acc, vs, r2, x2, hP2, qa, no2, hsat⟩
  have hdrop : its.items.drop i = [] ∨ ∃ d, its.items[i]? = some d ∧ its.items.drop i = d :: its.items.drop (i + 1) := by
    by_cases hlt : i < its.items.length
    · exact .inr ⟨its.items[i], by simp [hlt], List.drop_eq_getElem_cons hlt⟩
    · exact .inl (List.drop_eq_nil_of_le (by omega))
  rcases hdrop with e | ⟨d, ed, e⟩
  · -- the end
    rw [e] at hsat
    obtain ⟨kp, hsat⟩ := Sat.stay (show Sat (stayD S1 its.keep (pure []) S2) _ _ from hsat)
    have hsat : Sat (lstD (acc ++ []) S2) (OkE X.K ι S H Q) (ExE X.K X.mg ι S H fun c d H' => W c d σ H') := hsat
    rw [List.append_nil] at hsat
    have hi : i = its.items.length := by
      have := List.drop_eq_nil_iff.mp e
      omega
    subst hi
    refine .inl ⟨(wk ι2 S2 H2 r2 (x2.weak r1) kp).2, ?_⟩
    unfold lstD at hsat
    split at hsat
    · have hsat : OkE X.K ι S H Q (.ref S2.length) (S2 ++ [Ob.lst acc]) := hsat
      exact hsat (ι2 ++ [P]) _ H2 (st_adopt r2 hP2 no2 qa) (x1.trans (ext_adopt r2 x2 hP)) ⟨P, rfl, by rw [← r2.len, List.getElem?_append_right (Nat.le_refl _), Nat.sub_self]; rfl⟩
    · exact hsat.elim
  · -- a turn
    rw [e] at hsat
    obtain ⟨kp, hsat⟩ := Sat.stay (show Sat (stayD S1 its.keep (M.bind (turnC t (own.map (·.2)) δ fc fe d) fun xs => M.bind (eachD S1 its.keep (turnC t (own.map (·.2)) δ fc fe) (its.items.drop (i + 1))) fun ys => M.ret (xs ++ ys)) S2) _ _ from hsat)
    obtain ⟨hgo, hyld⟩ := (wk ι2 S2 H2 r2 (x2.weak r1) kp).1 i d ed
    refine .inr ⟨hgo, fun H' => i + 1 + (m - 1) = its.items.length ∧ ∃ ι' S' acc vs, StRel X.K ι' S' H' ∧ Ext ι1 S1 H1 ι' S' H' ∧ H' P = some (.lst vs) ∧ Reps X.K ι' H' acc vs ∧ ¬ Own ι' S' P ∧
      Sat (eachD S1 its.keep (turnC t (own.map (·.2)) δ fc fe) (its.items.drop (i + 1)) S') (fun rest S2 => Sat (lstD (acc ++ rest) S2) (OkE X.K ι S H Q) (ExE X.K X.mg ι S H fun c d H' => W c d σ H')) NoEx, fun H' h => ⟨m - 1, by
        have : i < its.items.length := (List.getElem?_eq_some_iff.mp ed).1
        omega, h⟩, fun x H3 hy => ?_⟩
    have him' : i + 1 + (m - 1) = its.items.length := by
      have : i < its.items.length := (List.getElem?_eq_some_iff.mp ed).1
      omega
    obtain ⟨r3, x3, q3⟩ := hyld x H3 hy
    have hP3 := (x3.keep P _ hP2 no2)
    have hsat := Sat.bind (show Sat (M.bind (turnC t (own.map (·.2)) δ fc fe d) (fun xs => M.bind (eachD S1 its.keep (turnC t (own.map (·.2)) δ fc fe) (its.items.drop (i + 1))) fun ys => M.ret (xs ++ ys)) S2) _ _ from hsat)
    unfold turnC at hsat
    have hsat := Sat.bind hsat
    obtain ⟨δ1, eδ, hsat⟩ := Sat.opt (show Sat (M.opt (asgD t d (wipeD δ (own.map (·.2)))) S2) _ _ from hsat)
    have x13 := (x1.trans x2).trans x3
    refine ⟨ι2, wipeD δ (own.map (·.2)), S2, d, δ1, r3, (ev.ext r x13).wipe _, q3, eδ, fun σ2 ev2 hw => ⟨?_, ?_⟩⟩
    · have := hw (own.map (·.2)) fun i hi => by
        have := List.all_eq_true.mp hin i hi
        simpa using this
      rw [this]
      have wiped : ∀ vs : List Nat, L2.wipe (L2.wipe σ vs) vs = L2.wipe σ vs := by
        intro vs
        induction vs with
        | nil => rfl
        | cons v vs ih =>
          have a : ∀ (τ : L2.St) (ws : List Nat), L2.wipe (τ.set v none) ws = (L2.wipe τ ws).set v none := by
            intro τ ws
            induction ws with
            | nil => rfl
            | cons w ws ih =>
              unfold L2.wipe
              rw [ih]
              by_cases hvw : v = w
              · subst hvw
                rw [List.set_set]
              · rw [List.set_comm _ _ hvw]
          show (L2.wipe ((L2.wipe σ vs).set v none) vs).set v none = (L2.wipe σ vs).set v none
          rw [a, ih, List.set_set]
      exact wiped _
    · have hsat := Sat.bind hsat
      refine ⟨ι2, δ1, S2, r3, ev2, (sat_no hsat).mono (fun b S4 h4 ι4 H4 r4 x4 => ?_) fun _ _ _ z => z⟩
      have hP4 := (x4.keep P _ hP3.1 hP3.2)
      have x24 := x3.trans x4
      -- the rest of the turns
      have rest : ∀ {ι5 : List Addr} {S5 : Store} {H5 : Hp} {xs : List D} {ws : List V}, StRel X.K ι5 S5 H5 → H5 P = some (.lst (vs ++ ws)) → Reps X.K ι5 H5 (acc ++ xs) (vs ++ ws) → ¬ Own ι5 S5 P → Ext ι1 S1 H1 ι5 S5 H5 →
          Sat (M.bind (eachD S1 its.keep (turnC t (own.map (·.2)) δ fc fe) (its.items.drop (i + 1))) (fun ys => M.ret (xs ++ ys)) S5) (fun rest S2 => Sat (lstD (acc ++ rest) S2) (OkE X.K ι S H Q) (ExE X.K X.mg ι S H fun c d H' => W c d σ H')) NoEx →
          i + 1 + (m - 1) = its.items.length ∧ ∃ ι' S' acc vs, StRel X.K ι' S' H5 ∧ Ext ι1 S1 H1 ι' S' H5 ∧ H5 P = some (.lst vs) ∧ Reps X.K ι' H5 acc vs ∧ ¬ Own ι' S' P ∧
            Sat (eachD S1 its.keep (turnC t (own.map (·.2)) δ fc fe) (its.items.drop (i + 1)) S') (fun rest S2 => Sat (lstD (acc ++ rest) S2) (OkE X.K ι S H Q) (ExE X.K X.mg ι S H fun c d H' => W c d σ H')) NoEx := by
        intro ι5 S5 H5 xs ws r5 hP5 q5 no5 x15 h5
        refine ⟨him', ι5, S5, acc ++ xs, vs ++ ws, r5, x15, hP5, q5, no5, (Sat.bind h5).mono (fun ys S6 h6 => ?_) fun _ _ _ z => z⟩
        rw [List.append_assoc]
        exact h6
      cases b with
      | false =>
        refine iF ?_
        have h4 : Sat (M.bind (eachD S1 its.keep (turnC t (own.map (·.2)) δ fc fe) (its.items.drop (i + 1))) (fun ys => M.ret ([] ++ ys)) S4) _ _ := h4
        exact rest (xs := []) (ws := []) r4 (by rw [List.append_nil]; exact hP4.1) (by rw [List.append_nil, List.append_nil]; exact qa.ext r2 x24) hP4.2 (x2.trans x24) h4
      | true =>
        refine iT ?_
        have h4 := Sat.bind (show Sat (M.bind (fe δ1) (fun y => M.ret [y]) S4) _ _ from h4)
        refine ⟨ι4, δ1, S4, r4, ev2.ext r3 x4, (sat_no h4).mono (fun y S5 h5 ι5 v H5 r5 x5 q5 => ?_) fun _ _ _ z => z⟩
        have hP5 := (x5.keep P _ hP4.1 hP4.2)
        have x25 := x24.trans x5
        have h5 : Sat (M.bind (eachD S1 its.keep (turnC t (own.map (·.2)) δ fc fe) (its.items.drop (i + 1))) (fun ys => M.ret ([y] ++ ys)) S5) (fun rest S2 => Sat (lstD (acc ++ rest) S2) (OkE X.K ι S H Q) (ExE X.K X.mg ι S H fun c d H' => W c d σ H')) NoEx := h5
        refine ⟨vs, hP5.1, ?_, ?_⟩
        · -- the list is not too long
          have hl : ∃ (ys : List D) (S6 : Store), Sat (lstD (acc ++ ([y] ++ ys)) S6) (OkE X.K ι S H Q) (ExE X.K X.mg ι S H fun c d H' => W c d σ H') := by
            have h6 := Sat.bind h5
            cases e6 : eachD S1 its.keep (turnC t (own.map (·.2)) δ fc fe) (its.items.drop (i + 1)) S5 with
            | ok ys S6 => rw [e6] at h6; exact ⟨ys, S6, h6⟩
            | exc a b c => rw [e6] at h6; exact h6.elim
            | bad => rw [e6] at h6; exact h6.elim
          obtain ⟨ys, S6, h6⟩ := hl
          unfold lstD at h6
          split at h6
          · rename_i hlen
            rw [List.length_append, List.length_append, List.length_singleton] at hlen
            rw [← line_eq, qa.length]
            omega
          · exact h6.elim
        · exact rest (xs := [y]) (ws := [v]) (st_side r5 hP5.1 hP5.2) upd_same (((qa.ext r2 x25).append (.one q5)).lst hP5.1) hP5.2 (ext_side (x2.trans x25) hP) h5
theorem s_comp {own : List (Str × Nat)} {t : Tg} {k : Src} {iter tg elt : Expr} {ifs xs : List Expr} {scope : Scope} {pos : Pos} {fs : Env → M (List D)} {fc : Env → M Bool} {fe : Env → M D} (T : Ctx X c sc n C B W) (hs : SndA X W fs xs) (hx : srcArgs sc k iter tg = some xs)
    (hb : blkC c.N sc scope own = true) (hin : (t.at.all fun i => (own.map (·.2)).contains i) = true) (ht : tgOk c.N (loc scope) t tg = true)
    (hc : ∀ (s : Shared) (H : Hp) (A : Addr) (cl : List (Str × Addr)) (fp : List Addr), SndC (X.blk s H scope (compEnvC scope cl A X.env) fp) noW fc ifs)
    (he : ∀ (s : Shared) (H : Hp) (A : Addr) (cl : List (Str × Addr)) (fp : List Addr), Snd (X.blk s H scope (compEnvC scope cl A X.env) fp) noW fe elt) :
    Snd X W (fun δ => M.bind (fs δ) fun ss => M.bind (srcD k ss) fun its => M.bind M.get fun S0 => M.bind (M.calm (eachD S0 its.keep (turnC t (own.map (·.2)) δ fc fe) its.items)) lstD) (.ListComp elt [⟨tg, iter, ifs, 0⟩] scope pos) := by
  refine snd_of ((pe_lc (own := own) (g := tG X.K t) (tt := tT X.K X.mg noW fc) (te := tD X.K X.mg noW fe) T.g.calm T.g.nd (pi_of T hs hx) (blkOk_by (by rw [T.s.N, T.s.scope]; exact hb))
    (fun s H A cl fp => pg_tg (X := X.blk s H scope (compEnvC scope cl A X.env) fp) (N := c.N) (ok := loc scope) T.g.calm T.g.nd T.s.N (ok_blk T s H scope A cl fp) ht) (fun s H A cl fp => (hc s H A cl fp).pts) (fun s H A cl fp => (he s H A cl fp).pe) (fun x => folded (src_notSet hx) x)).mono fun σ H Q w => comp_read hin w) rfl
end
end Ev

set_option Elab.async false
set_option linter.all false
set_option maxRecDepth 100000
set_option maxHeartbeats 2000000
set_option autoImplicit false
/-! EvK: comprehensions of two clauses. -/
namespace Ev
open PySem PySem.Spec PyProof.Rows L2
/-- the new list at P holds what has been made so far; f is what is still to be made, R what is wanted of all -/
def Bld (K : PySem.W.Frag) (P : Addr) (ι1 : List Addr) (S1 : Store) (H1 : Hp) (ιb : List Addr) (Hb : Hp) (R : List D → Store → Prop) (f : M (List D)) (H : Hp) : Prop :=
  ∃ ι' S' acc vs, StRel K ι' S' H ∧ Ext ι1 S1 H1 ι' S' H ∧ Ext0 ιb Hb ι' H ∧ H P = some (.lst vs) ∧ Reps K ι' H acc vs ∧ ¬ Own ι' S' P ∧ Sat (f S') (fun rest S2 => R (acc ++ rest) S2) NoEx
section
variable {X : Cx} {c : Cfg} {sc : Scope} {n : Nat} {C : Calls} {B : Nat → List D → M D} {W : WX}
theorem drop_or {α : Type} (xs : List α) (i : Nat) : (xs.drop i = [] ∧ xs.length ≤ i) ∨ ∃ d, xs[i]? = some d ∧ i < xs.length ∧ xs.drop i = d :: xs.drop (i + 1) := by
  by_cases hlt : i < xs.length
  · exact .inr ⟨xs[i], by simp [hlt], hlt, List.drop_eq_getElem_cons hlt⟩
  · exact .inl ⟨List.drop_eq_nil_of_le (by omega), by omega⟩
theorem Ext0.lst {ι ι' : List Addr} {H H' : Hp} {p : Addr} {xs ys : List V} (x : Ext0 ι H ι' H') (hp : H' p = some (.lst xs)) : Ext0 ι H ι' (upd H' p (.lst ys)) :=
  ⟨x.pre, fun a o h n => by
    have e := x.keep a o h n
    rw [upd_ne (ne_of e hp (n xs))]
    exact e⟩
/-- one turn of the inmost clause: store, test, the element, appended -/
theorem turn_ok {K : PySem.W.Frag} {mg : Mg} {P : Addr} {ιb : List Addr} {Hb : Hp} {ι1 : List Addr} {S1 : Store} {H1 : Hp} {R : List D → Store → Prop} {t : Tg} {vs : List Nat} {δ : Env} {σ : L2.St} {fc : Env → M Bool} {fe : Env → M D} {rest : M (List D)} {d : D} {x : V} {H : Hp}
    (h0 : H1 P = none) (hR : ∀ ds S, R ds S → ds.length ≤ line) (hin : ∀ i ∈ t.at, i ∈ vs)
    (hB : ∃ ι' S' acc ws, StRel K ι' S' H ∧ Ext ι1 S1 H1 ι' S' H ∧ Ext0 ιb Hb ι' H ∧ H P = some (.lst ws) ∧ Reps K ι' H acc ws ∧ ¬ Own ι' S' P ∧ EnvRel K ι' H δ σ ∧ Rep K ι' H d x ∧
      Sat (M.bind (turnC t vs δ fc fe d) (fun xs => M.bind rest fun ys => M.ret (xs ++ ys)) S') (fun r S2 => R (acc ++ r) S2) NoEx) :
    tG K t x (L2.wipe σ vs) H fun σ2 H2 => L2.wipe σ2 vs = L2.wipe σ vs ∧ tT K mg noW fc σ2 H2 fun b H3 =>
      if b = true then tD K mg noW fe σ2 H3 fun y H4 => ∃ acc, H4 P = some (.lst acc) ∧ acc.length < sizeLine ∧ Bld K P ι1 S1 H1 ιb Hb R rest (upd H4 P (.lst (acc ++ [y]))) else Bld K P ι1 S1 H1 ιb Hb R rest H3 := by
  obtain ⟨ι2, S2, acc, ws, r2, x2, xb, hP2, qa, no2, ev, q, hsat⟩ := hB
  have hsat := Sat.bind hsat
  unfold turnC at hsat
  have hsat := Sat.bind hsat
  obtain ⟨δ1, eδ, hsat⟩ := Sat.opt (show Sat (M.opt (asgD t d (wipeD δ vs)) S2) _ _ from hsat)
  refine ⟨ι2, wipeD δ vs, S2, d, δ1, r2, ev.wipe _, q, eδ, fun σ2 ev2 hw => ⟨?_, ?_⟩⟩
  · rw [hw vs hin]
    have wiped : ∀ vs : List Nat, L2.wipe (L2.wipe σ vs) vs = L2.wipe σ vs := by
      intro vs
      induction vs with
      | nil => rfl
      | cons v vs ih =>
        have a : ∀ (τ : L2.St) (ws : List Nat), L2.wipe (τ.set v none) ws = (L2.wipe τ ws).set v none := by
          intro τ ws
          induction ws with
          | nil => rfl
          | cons w ws ih =>
            unfold L2.wipe
            rw [ih]
            by_cases hvw : v = w
            · subst hvw
              rw [List.set_set]
            · rw [List.set_comm _ _ hvw]
        show (L2.wipe ((L2.wipe σ vs).set v none) vs).set v none = (L2.wipe σ vs).set v none
        rw [a, ih, List.set_set]
    exact wiped _
  · have hsat := Sat.bind hsat
    refine ⟨ι2, δ1, S2, r2, ev2, (sat_no hsat).mono (fun b S4 h4 ι4 H4 r4 x4 => ?_) fun _ _ _ z => z⟩
    have hP4 := (x4.keep P _ hP2 no2)
    cases b with
    | false =>
      refine iF ?_
      have h4 : Sat (M.bind rest (fun ys => M.ret ([] ++ ys)) S4) _ _ := h4
      exact ⟨ι4, S4, acc, ws, r4, x2.trans x4, xb.trans (x4.weak r2), hP4.1, qa.ext r2 x4, hP4.2, (Sat.bind h4).mono (fun ys S6 h6 => h6) fun _ _ _ z => z⟩
    | true =>
      refine iT ?_
      have h4 := Sat.bind (show Sat (M.bind (fe δ1) (fun y => M.ret [y]) S4) _ _ from h4)
      refine ⟨ι4, δ1, S4, r4, ev2.ext r2 x4, (sat_no h4).mono (fun y S5 h5 ι5 v H5 r5 x5 q5 => ?_) fun _ _ _ z => z⟩
      have hP5 := (x5.keep P _ hP4.1 hP4.2)
      have x25 := x4.trans x5
      have h5 : Sat (M.bind rest (fun ys => M.ret ([y] ++ ys)) S5) (fun r S2 => R (acc ++ r) S2) NoEx := h5
      refine ⟨ws, hP5.1, ?_, ι5, S5, acc ++ [y], ws ++ [v], st_side r5 hP5.1 hP5.2, ext_side (x2.trans x25) h0, (xb.trans (x25.weak r2)).lst hP5.1, upd_same, (((qa.ext r2 x25).append (.one q5)).lst hP5.1), hP5.2, (Sat.bind h5).mono (fun ys S6 h6 => ?_) fun _ _ _ z => z⟩
      · have h6 := Sat.bind h5
        cases e6 : rest S5 with
        | ok ys S6 =>
          rw [e6] at h6
          have := hR _ _ h6
          rw [List.length_append, List.length_append, List.length_singleton] at this
          rw [← line_eq, qa.length]
          omega
        | exc a b c => rw [e6] at h6; exact h6.elim
        | bad => rw [e6] at h6; exact h6.elim
      · rw [List.append_assoc]
        exact h6
/-- what the outer clause's turn does -/
noncomputable def turnC2 (t : Tg) (vs : List Nat) (δ : Env) (fc : Env → M Bool) (fi : Env → M Its) (t2 : Tg) (vs2 : List Nat) (fc2 : Env → M Bool) (fe : Env → M D) (d : D) : M (List D) :=
  M.bind (envM (asgD t d (wipeD δ vs))) fun δ1 => M.bind (fc δ1) fun k => condD k (M.bind (fi δ1) fun its2 => M.bind M.get fun S2 => eachD S2 its2.keep (turnC t2 vs2 δ1 fc2 fe) its2.items) (M.ret [])
theorem comp2_read {own : List (Str × Nat)} {vs2 : List Nat} {t t2 : Tg} {k k2 : Src} {fs : Env → M (List D)} {fc : Env → M Bool} {fe : Env → M D} {fs2 : Env → M (List D)} {fc2 : Env → M Bool} (hin : (t.at.all fun i => (own.map (·.2)).contains i) = true) (hin2 : (t2.at.all fun i => vs2.contains i) = true) {σ : L2.St} {H : Hp} {Q : VK}
    (w : tD X.K X.mg W (fun δ => M.bind (fs δ) fun ss => M.bind (srcD k ss) fun its => M.bind M.get fun S0 => M.bind (M.calm (eachD S0 its.keep (turnC2 t (own.map (·.2)) δ fc (fun δ1 => M.bind (fs2 δ1) (srcD k2)) t2 vs2 fc2 fe) its.items)) lstD) σ H Q) :
    tLc2 (tI X.K X.mg W (fun δ => M.bind (fs δ) (srcD k))) (tG X.K t) (tT X.K X.mg noW fc) (tI X.K X.mg noW fun δ1 => M.bind (fs2 δ1) (srcD k2)) (tG X.K t2) (tT X.K X.mg noW fc2) (tD X.K X.mg noW fe) (own.map (·.2)) vs2 σ H Q := by
  obtain ⟨ι, δ, S, r, ev, w⟩ := w
  have w : Sat (M.bind (M.bind (fs δ) (srcD k)) (fun its => M.bind M.get fun S0 => M.bind (M.calm (eachD S0 its.keep (turnC2 t (own.map (·.2)) δ fc (fun δ1 => M.bind (fs2 δ1) (srcD k2)) t2 vs2 fc2 fe) its.items)) lstD) S) (OkE X.K ι S H Q) (ExE X.K X.mg ι S H fun c d H' => W c d σ H') := by
    rw [M.bind_assoc]
    exact w
  generalize hturn : turnC2 t (own.map (·.2)) δ fc (fun δ1 => M.bind (fs2 δ1) (srcD k2)) t2 vs2 fc2 fe = turn at w
  refine ⟨ι, δ, S, r, ev, (Sat.bind w).mono (fun its S1 h1 ι1 J H1 r1 x1 wk => ?_) fun _ _ _ z => z⟩
  generalize hR : (fun (ds : List D) (S2 : Store) => Sat (lstD ds S2) (OkE X.K ι S H Q) (ExE X.K X.mg ι S H fun c d H' => W c d σ H')) = R
  have h1 : Sat (M.calm (eachD S1 its.keep turn its.items) S1) R (ExE X.K X.mg ι S H fun c d H' => W c d σ H') := by rw [← hR]; exact Sat.bind h1
  have h1 := h1.uncalm
  have hlen : ∀ ds S2, R ds S2 → ds.length ≤ line := by
    intro ds S2 h
    rw [← hR] at h
    have h : Sat (lstD ds S2) (OkE X.K ι S H Q) (ExE X.K X.mg ι S H fun c d H' => W c d σ H') := h
    unfold lstD at h
    split at h
    · assumption
    · exact h.elim
  intro P hP
  obtain ⟨r1P, x1P⟩ := st_fresh r1 hP (ys := [])
  have noP : ¬ Own ι1 S1 P := own_free r1 hP
  refine ⟨fun i m H' => i + m = its.items.length ∧ Bld X.K P ι1 S1 H1 ι1 H1 R (eachD S1 its.keep turn (its.items.drop i)) H',
    ⟨its.items.length, by omega, ι1, S1, [], [], r1P, x1P, x1P.weak r1, upd_same, rfl, noP, by rw [List.drop_zero]; exact h1⟩, ?_⟩
  rintro i m H2 ⟨him, ι2, S2, acc, ws, r2, x2, xb, hP2, qa, no2, hsat⟩
  rcases drop_or its.items i with ⟨e, hi⟩ | ⟨d, ed, hi, e⟩
  · rw [e] at hsat
    obtain ⟨kp, hsat⟩ := Sat.stay (show Sat (stayD S1 its.keep (pure []) S2) _ _ from hsat)
    have hsat : R (acc ++ []) S2 := hsat
    rw [List.append_nil, ← hR] at hsat
    have hsat : Sat (lstD acc S2) (OkE X.K ι S H Q) (ExE X.K X.mg ι S H fun c d H' => W c d σ H') := hsat
    have hi : i = its.items.length := by omega
    subst hi
    refine .inl ⟨(wk ι2 S2 H2 r2 xb kp).2, ?_⟩
    unfold lstD at hsat
    split at hsat
    · have hsat : OkE X.K ι S H Q (.ref S2.length) (S2 ++ [Ob.lst acc]) := hsat
      exact hsat (ι2 ++ [P]) _ H2 (st_adopt r2 hP2 no2 qa) (x1.trans (ext_adopt r2 x2 hP)) ⟨P, rfl, by rw [← r2.len, List.getElem?_append_right (Nat.le_refl _), Nat.sub_self]; rfl⟩
    · exact hsat.elim
  · rw [e] at hsat
    obtain ⟨kp, hsat⟩ := Sat.stay (show Sat (stayD S1 its.keep (M.bind (turn d) fun xs => M.bind (eachD S1 its.keep turn (its.items.drop (i + 1))) fun ys => M.ret (xs ++ ys)) S2) _ _ from hsat)
    obtain ⟨hgo, hyld⟩ := (wk ι2 S2 H2 r2 xb kp).1 i d ed
    refine .inr ⟨hgo, Bld X.K P ι1 S1 H1 ι1 H1 R (eachD S1 its.keep turn (its.items.drop (i + 1))), fun H' h => ⟨m - 1, by omega, by omega, h⟩, fun x H3 hy => ?_⟩
    obtain ⟨r3, x3, q3⟩ := hyld x H3 hy
    have hP3 := (x3.keep P _ hP2 no2)
    have hsat := Sat.bind (show Sat (M.bind (turn d) (fun xs => M.bind (eachD S1 its.keep turn (its.items.drop (i + 1))) fun ys => M.ret (xs ++ ys)) S2) _ _ from hsat)
    generalize hg : eachD S1 its.keep turn (its.items.drop (i + 1)) = rest at hsat
    rw [← hturn] at hsat
    unfold turnC2 at hsat
    have hsat := Sat.bind hsat
    obtain ⟨δ1, eδ, hsat⟩ := Sat.opt (show Sat (M.opt (asgD t d (wipeD δ (own.map (·.2)))) S2) _ _ from hsat)
    have x13 := (x1.trans x2).trans x3
    refine ⟨ι2, wipeD δ (own.map (·.2)), S2, d, δ1, r3, (ev.ext r x13).wipe _, q3, eδ, fun σ2 ev2 hw => ⟨?_, ?_⟩⟩
    · rw [hw (own.map (·.2)) fun i hi => by simpa using List.all_eq_true.mp hin i hi]
      have wiped : ∀ vs : List Nat, L2.wipe (L2.wipe σ vs) vs = L2.wipe σ vs := by
        intro vs
        induction vs with
        | nil => rfl
        | cons v vs ih =>
          have a : ∀ (τ : L2.St) (ws : List Nat), L2.wipe (τ.set v none) ws = (L2.wipe τ ws).set v none := by
            intro τ ws
            induction ws with
            | nil => rfl
            | cons w ws ih =>
              unfold L2.wipe
              rw [ih]
              by_cases hvw : v = w
              · subst hvw
                rw [List.set_set]
              · rw [List.set_comm _ _ hvw]
          show (L2.wipe ((L2.wipe σ vs).set v none) vs).set v none = (L2.wipe σ vs).set v none
          rw [a, ih, List.set_set]
      exact wiped _
    · have hsat := Sat.bind hsat
      refine ⟨ι2, δ1, S2, r3, ev2, (sat_no hsat).mono (fun b S4 h4 ι4 H4 r4 x4 => ?_) fun _ _ _ z => z⟩
      have hP4 := (x4.keep P _ hP3.1 hP3.2)
      have x24 := x3.trans x4
      have ev4 := ev2.ext r3 x4
      cases b with
      | false =>
        refine iF ?_
        have h4 : Sat (M.bind rest (fun ys => M.ret ([] ++ ys)) S4) _ _ := h4
        exact ⟨ι4, S4, acc, ws, r4, x2.trans x24, xb.trans (x24.weak r2), hP4.1, qa.ext r2 x24, hP4.2, (Sat.bind h4).mono (fun ys S6 h6 => h6) fun _ _ _ z => z⟩
      | true =>
        refine iT ?_
        have h4 := Sat.bind (show Sat (M.bind (M.bind (fs2 δ1) (srcD k2)) (fun its2 => M.bind M.get fun S2 => eachD S2 its2.keep (turnC t2 vs2 δ1 fc2 fe) its2.items) S4) _ _ from h4)
        refine ⟨ι4, δ1, S4, r4, ev4, (sat_no h4).mono (fun its2 S5 h5 ι5 J2 H5 r5 x5 wk2 => ?_) fun _ _ _ z => z⟩
        have hP5 := (x5.keep P _ hP4.1 hP4.2)
        have x25 := x24.trans x5
        have ev5 := ev4.ext r4 x5
        generalize hturn2 : turnC t2 vs2 δ1 fc2 fe = turn2 at h5
        have h5 : Sat (eachD S5 its2.keep turn2 its2.items S5) (fun xs S6 => Sat (M.bind rest (fun ys => M.ret (xs ++ ys)) S6) (fun r S2 => R (acc ++ r) S2) NoEx) NoEx := h5
        refine ⟨fun j l H' => j + l = its2.items.length ∧ Bld X.K P ι1 S1 H1 ι5 H5 R (M.bind (eachD S5 its2.keep turn2 (its2.items.drop j)) fun xs => M.bind rest fun ys => M.ret (xs ++ ys)) H',
          ⟨its2.items.length, by omega, ι5, S5, acc, ws, r5, x2.trans x25, .refl, hP5.1, qa.ext r2 x25, hP5.2, ?_⟩, ?_⟩
        · rw [List.drop_zero]
          cases e5 : eachD S5 its2.keep turn2 its2.items S5 with
          | ok xs S6 => rw [e5] at h5; unfold M.bind; rw [e5]; exact h5
          | exc a b c => rw [e5] at h5; exact h5.elim
          | bad => rw [e5] at h5; exact h5.elim
        · rintro j l H6 ⟨hjl, ι6, S6, acc6, ws6, r6, x6, xb6, hP6, qa6, no6, hsat6⟩
          rcases drop_or its2.items j with ⟨e6, hj⟩ | ⟨d2, ed2, hj, e6⟩
          · rw [e6] at hsat6
            have hsat6 := Sat.bind hsat6
            obtain ⟨kp6, hsat6⟩ := Sat.stay (show Sat (stayD S5 its2.keep (pure []) S6) _ _ from hsat6)
            have hsat6 : Sat (M.bind rest (fun ys => M.ret ([] ++ ys)) S6) (fun r S2 => R (acc6 ++ r) S2) NoEx := hsat6
            have hj : j = its2.items.length := by omega
            subst hj
            refine .inl ⟨(wk2 ι6 S6 H6 r6 xb6 kp6).2, ι6, S6, acc6, ws6, r6, x6, x6.weak r1, hP6, qa6, no6, ?_⟩
            exact (Sat.bind hsat6).mono (fun ys S7 h7 => h7) fun _ _ _ z => z
          · rw [e6] at hsat6
            have hsat6 := Sat.bind hsat6
            obtain ⟨kp6, hsat6⟩ := Sat.stay (show Sat (stayD S5 its2.keep (M.bind (turn2 d2) fun xs => M.bind (eachD S5 its2.keep turn2 (its2.items.drop (j + 1))) fun ys => M.ret (xs ++ ys)) S6) _ _ from hsat6)
            obtain ⟨hgo2, hyld2⟩ := (wk2 ι6 S6 H6 r6 xb6 kp6).1 j d2 ed2
            refine .inr ⟨hgo2, Bld X.K P ι1 S1 H1 ι5 H5 R (M.bind (eachD S5 its2.keep turn2 (its2.items.drop (j + 1))) fun xs => M.bind rest fun ys => M.ret (xs ++ ys)), fun H' h => ⟨l - 1, by omega, by omega, h⟩, fun x7 H7 hy7 => ?_⟩
            obtain ⟨r7, x7', q7⟩ := hyld2 x7 H7 hy7
            have hP7 := (x7'.keep P _ hP6 no6)
            refine turn_ok (δ := δ1) (d := d2) hP hlen (fun i hi => by simpa using List.all_eq_true.mp hin2 i hi) ⟨ι6, S6, acc6, ws6, r7, x6.trans x7', xb6.trans (x7'.weak r6), hP7.1, qa6.ext r6 x7', hP7.2, ev5.ext0 (xb6.trans (x7'.weak r6)), q7, ?_⟩
            rw [hturn2]
            have hsat6 : Sat (M.bind (M.bind (turn2 d2) fun xs => M.bind (eachD S5 its2.keep turn2 (its2.items.drop (j + 1))) fun ys => M.ret (xs ++ ys)) (fun xs => M.bind rest fun ys => M.ret (xs ++ ys)) S6) (fun r S2 => R (acc6 ++ r) S2) NoEx := by
              have h7 := hsat6
              unfold M.bind at h7 ⊢
              revert h7
              cases (turn2 d2) S6 with
              | ok xs S7 =>
                intro h7
                simp only at h7 ⊢
                revert h7
                cases eachD S5 its2.keep turn2 (its2.items.drop (j + 1)) S7 with
                | ok ys S8 => intro h7; exact h7
                | exc a b c => intro h7; exact h7
                | bad => intro h7; exact h7
              | exc a b c => intro h7; exact h7
              | bad => intro h7; exact h7
            rw [M.bind_assoc] at hsat6
            have e7 : (fun a => M.bind (M.bind (eachD S5 its2.keep turn2 (its2.items.drop (j + 1))) fun ys => M.ret (a ++ ys)) fun xs => M.bind rest fun ys => M.ret (xs ++ ys))
                = fun xs => M.bind (M.bind (eachD S5 its2.keep turn2 (its2.items.drop (j + 1))) fun xs => M.bind rest fun ys => M.ret (xs ++ ys)) fun ys => M.ret (xs ++ ys) := by
              funext a
              simp only [M.bind_assoc, M.ret_bind, List.append_assoc]
            rw [e7] at hsat6
            exact hsat6
theorem s_comp2 {own : List (Str × Nat)} {vs2 : List Nat} {t t2 : Tg} {k k2 : Src} {iter tg iter2 tg2 elt : Expr} {ifs xs ifs2 xs2 : List Expr} {scope : Scope} {pos : Pos} {fs : Env → M (List D)} {fc : Env → M Bool} {fe : Env → M D} {fs2 : Env → M (List D)} {fc2 : Env → M Bool} (T : Ctx X c sc n C B W) (hs : SndA X W fs xs) (hx : srcArgs sc k iter tg = some xs)
    (hb : blkC c.N sc scope own = true) (hin : (t.at.all fun i => (own.map (·.2)).contains i) = true) (ht : tgOk c.N (loc scope) t tg = true)
    (hv : (vs2.all fun i => (own.map (·.2)).contains i) = true) (hin2 : (t2.at.all fun i => vs2.contains i) = true) (hx2 : srcArgs (relS scope sc) k2 iter2 tg2 = some xs2) (ht2 : tgOk c.N (loc scope) t2 tg2 = true)
    (hc : ∀ (s : Shared) (H : Hp) (A : Addr) (cl : List (Str × Addr)) (fp : List Addr), SndC (X.blk s H scope (compEnvC scope cl A X.env) fp) noW fc ifs)
    (hs2 : ∀ (s : Shared) (H : Hp) (A : Addr) (cl : List (Str × Addr)) (fp : List Addr), SndA (X.blk s H scope (compEnvC scope cl A X.env) fp) noW fs2 xs2)
    (hc2 : ∀ (s : Shared) (H : Hp) (A : Addr) (cl : List (Str × Addr)) (fp : List Addr), SndC (X.blk s H scope (compEnvC scope cl A X.env) fp) noW fc2 ifs2)
    (he : ∀ (s : Shared) (H : Hp) (A : Addr) (cl : List (Str × Addr)) (fp : List Addr), Snd (X.blk s H scope (compEnvC scope cl A X.env) fp) noW fe elt) :
    Snd X W (fun δ => M.bind (fs δ) fun ss => M.bind (srcD k ss) fun its => M.bind M.get fun S0 => M.bind (M.calm (eachD S0 its.keep (turnC2 t (own.map (·.2)) δ fc (fun δ1 => M.bind (fs2 δ1) (srcD k2)) t2 vs2 fc2 fe) its.items)) lstD) (.ListComp elt [⟨tg, iter, ifs, 0⟩, ⟨tg2, iter2, ifs2, 0⟩] scope pos) := by
  refine snd_of ((pe_lc2 (own := own) (vs1 := vs2) (g := tG X.K t) (tt := tT X.K X.mg noW fc) (wi1 := tI X.K X.mg noW fun δ1 => M.bind (fs2 δ1) (srcD k2)) (g1 := tG X.K t2) (tt1 := tT X.K X.mg noW fc2) (te := tD X.K X.mg noW fe) T.g.calm T.g.nd (pi_of T hs hx) (blkOk_by (by rw [T.s.N, T.s.scope]; exact hb))
    (fun i hi => by simpa using List.all_eq_true.mp hv i hi)
    (fun s H A cl fp => pg_tg (X := X.blk s H scope (compEnvC scope cl A X.env) fp) (N := c.N) (ok := loc scope) T.g.calm T.g.nd T.s.N (ok_blk T s H scope A cl fp) ht) (fun s H A cl fp => (hc s H A cl fp).pts)
    (fun s H A cl fp => pi_of (T.blk s H scope A cl fp) (hs2 s H A cl fp) hx2)
    (fun s H A cl fp => pg_tg (X := X.blk s H scope (compEnvC scope cl A X.env) fp) (N := c.N) (ok := loc scope) T.g.calm T.g.nd T.s.N (ok_blk T s H scope A cl fp) ht2) (fun s H A cl fp => (hc2 s H A cl fp).pts)
    (fun s H A cl fp => (he s H A cl fp).pe) (fun x => folded (src_notSet hx) x) (fun env x => folded (src_notSet hx2) x)).mono fun σ H Q w => comp2_read hin hin2 w) rfl
end
end Ev

set_option Elab.async false
set_option linter.all false
set_option maxRecDepth 100000
set_option maxHeartbeats 2000000
set_option autoImplicit false
/-! EvL: every expression of the language does what its tree of the program does. -/
namespace Ev
open PySem PySem.Spec PyProof.Rows L2
section
variable {c : Cfg} {n : Nat} {C : Calls} {B : Nat → List D → M D}
def MotE (c : Cfg) (n : Nat) (C : Calls) (B : Nat → List D → M D) (ie : IE) : Prop := ∀ (e : Expr) (sc : Scope) (X : Cx) (W : WX), Ctx X c sc n C B W → mE c sc ie e = true → Snd X W (denE C ie) e
def MotA (c : Cfg) (n : Nat) (C : Calls) (B : Nat → List D → M D) (es : IEs) : Prop := ∀ (xs : List Expr) (sc : Scope) (X : Cx) (W : WX), Ctx X c sc n C B W → mEs c sc es xs = true → SndA X W (denEs C es) xs
def MotO (c : Cfg) (n : Nat) (C : Calls) (B : Nat → List D → M D) (o : IO) : Prop := (∀ (x : Option Expr) (sc : Scope) (X : Cx) (W : WX), Ctx X c sc n C B W → mO c sc o x = true → SndO X W (denO C o) x) ∧
  ∀ (xs : List Expr) (sc : Scope) (X : Cx) (W : WX), Ctx X c sc n C B W → mC c sc o xs = true → SndC X W (denC C o) xs
theorem and_of {a b : Bool} (h : (a && b) = true) : a = true ∧ b = true := Bool.and_eq_true a b ▸ h
theorem e_var (i : Nat) : MotE c n C B (.var i) := by
  intro e sc X W T h
  cases e <;> first | exact (Bool.false_ne_true h).elim | skip
  obtain ⟨h1, h2⟩ := and_of h
  exact s_var T (eq_of_beq h1) h2
theorem e_con (d : D) : MotE c n C B (.con d) := by
  intro e sc X W T h
  cases e <;> first | exact (Bool.false_ne_true h).elim | skip
  exact s_con h
theorem e_glob (x : Str) (d : D) : MotE c n C B (.glob x d) := by
  intro e sc X W T h
  cases e <;> first | exact (Bool.false_ne_true h).elim | skip
  obtain ⟨h1, h2⟩ := and_of h
  obtain ⟨h0, h1⟩ := and_of h1
  split at h2
  · rename_i e he
    rw [D.same_eq h2] at he
    exact s_glob (x := x) T h1 he
  · cases h2
theorem e_bin (o : BOp) (a b : IE) (ha : MotE c n C B a) (hb : MotE c n C B b) : MotE c n C B (.bin o a b) := by
  intro e sc X W T h
  cases e <;> first | exact (Bool.false_ne_true h).elim | skip
  obtain ⟨h1, h2⟩ := and_of h
  obtain ⟨h0, h3⟩ := and_of h1
  cases eq_of_beq h0
  exact s_bin T (ha _ _ _ _ T h3) (hb _ _ _ _ T h2)
theorem e_neg (a : IE) (ha : MotE c n C B a) : MotE c n C B (.neg a) := by
  intro e sc X W T h
  cases e <;> first | exact (Bool.false_ne_true h).elim | skip
  obtain ⟨h1, h2⟩ := and_of h
  cases eq_of_beq h1
  exact s_neg (ha _ _ _ _ T h2)
theorem e_not (a : IE) (ha : MotE c n C B a) : MotE c n C B (.not a) := by
  intro e sc X W T h
  cases e <;> first | exact (Bool.false_ne_true h).elim | skip
  obtain ⟨h1, h2⟩ := and_of h
  cases eq_of_beq h1
  exact s_not (ha _ _ _ _ T h2)
theorem e_cmp (o : COp) (a b : IE) (ha : MotE c n C B a) (hb : MotE c n C B b) : MotE c n C B (.cmp o a b) := by
  intro e sc X W T h
  cases e <;> first | exact (Bool.false_ne_true h).elim | skip
  rename_i x ops xs pos
  match ops, xs, h with
  | [p], [y], h =>
    obtain ⟨h, h3⟩ := and_of h
    obtain ⟨h1, h2⟩ := and_of h
    obtain ⟨h0, h4⟩ := and_of h1
    cases eq_of_beq h0
    exact s_cmp T (ha _ _ _ _ T h4) (hb _ _ _ _ T h2) h3
theorem e_chain (o o' : COp) (a b d : IE) (ha : MotE c n C B a) (hb : MotE c n C B b) (hd : MotE c n C B d) : MotE c n C B (.chain o o' a b d) := by
  intro e sc X W T h
  cases e <;> first | exact (Bool.false_ne_true h).elim | skip
  rename_i x ops xs pos
  match ops, xs, h with
  | [p, p'], [y, z], h =>
    obtain ⟨h, h5⟩ := and_of h
    obtain ⟨h, h4⟩ := and_of h
    obtain ⟨h, h3⟩ := and_of h
    obtain ⟨h1, h2⟩ := and_of h
    obtain ⟨h0, h6⟩ := and_of h1
    cases eq_of_beq h0
    cases eq_of_beq h6
    exact s_chain T (ha _ _ _ _ T h2) (hb _ _ _ _ T h3) (hd _ _ _ _ T h4) h5
theorem e_and (a b : IE) (ha : MotE c n C B a) (hb : MotE c n C B b) : MotE c n C B (.and a b) := by
  intro e sc X W T h
  cases e <;> first | exact (Bool.false_ne_true h).elim | skip
  rename_i p es pos
  match es, h with
  | [x, y], h =>
    obtain ⟨h, h2⟩ := and_of h
    obtain ⟨h0, h1⟩ := and_of h
    cases eq_of_beq h0
    have w := one_and (pos := pos) (hb _ _ _ _ T h2)
    exact s_and (ha _ _ _ _ T h1) w.1 w.2
  | x :: y :: z :: r, h =>
    obtain ⟨h, h2⟩ := and_of h
    obtain ⟨h0, h1⟩ := and_of h
    cases eq_of_beq h0
    have w := hb _ _ _ _ T h2
    exact s_and (ha _ _ _ _ T h1) w.pe (w.pw ⟨_, _, _, rfl⟩)
theorem e_or (a b : IE) (ha : MotE c n C B a) (hb : MotE c n C B b) : MotE c n C B (.or a b) := by
  intro e sc X W T h
  cases e <;> first | exact (Bool.false_ne_true h).elim | skip
  rename_i p es pos
  match es, h with
  | [x, y], h =>
    obtain ⟨h, h2⟩ := and_of h
    obtain ⟨h0, h1⟩ := and_of h
    cases eq_of_beq h0
    have w := one_or (pos := pos) (hb _ _ _ _ T h2)
    exact s_or (ha _ _ _ _ T h1) w.1 w.2
  | x :: y :: z :: r, h =>
    obtain ⟨h, h2⟩ := and_of h
    obtain ⟨h0, h1⟩ := and_of h
    cases eq_of_beq h0
    have w := hb _ _ _ _ T h2
    exact s_or (ha _ _ _ _ T h1) w.pe (w.pw ⟨_, _, _, rfl⟩)
theorem e_ite (t a b : IE) (ht : MotE c n C B t) (ha : MotE c n C B a) (hb : MotE c n C B b) : MotE c n C B (.ite t a b) := by
  intro e sc X W T h
  cases e <;> first | exact (Bool.false_ne_true h).elim | skip
  obtain ⟨h, h3⟩ := and_of h
  obtain ⟨h1, h2⟩ := and_of h
  exact s_ite (ht _ _ _ _ T h1) (ha _ _ _ _ T h2) (hb _ _ _ _ T h3)
theorem e_tup (es : IEs) (hs : MotA c n C B es) : MotE c n C B (.tup es) := by
  intro e sc X W T h
  cases e <;> first | exact (Bool.false_ne_true h).elim | skip
  exact s_tup (hs _ _ _ _ T h)
theorem e_lst (es : IEs) (hs : MotA c n C B es) : MotE c n C B (.lst es) := by
  intro e sc X W T h
  cases e <;> first | exact (Bool.false_ne_true h).elim | skip
  exact s_lst (hs _ _ _ _ T h)
theorem e_idx (a i : IE) (ha : MotE c n C B a) (hi : MotE c n C B i) : MotE c n C B (.idx a i) := by
  intro e sc X W T h
  cases e <;> first | exact (Bool.false_ne_true h).elim | skip
  obtain ⟨h, h3⟩ := and_of h
  obtain ⟨h1, h2⟩ := and_of h
  exact s_idx (ha _ _ _ _ T h1) (hi _ _ _ _ T h2) h3
theorem e_slice (a : IE) (lo hi : IO) (ha : MotE c n C B a) (hl : MotO c n C B lo) (hh : MotO c n C B hi) : MotE c n C B (.slice a lo hi) := by
  intro e sc X W T h
  cases e <;> first | exact (Bool.false_ne_true h).elim | skip
  rename_i x y pos
  cases y <;> first | exact (Bool.false_ne_true h).elim | skip
  rename_i l u st p2
  cases st with
  | some z => exact (Bool.false_ne_true h).elim
  | none =>
    obtain ⟨h, h3⟩ := and_of h
    obtain ⟨h1, h2⟩ := and_of h
    exact s_slice (ha _ _ _ _ T h1) (hl.1 _ _ _ _ T h2) (hh.1 _ _ _ _ T h3)
theorem e_call (f : Nat) (es : IEs) (hs : MotA c n C B es) : MotE c n C B (.call f es) := by
  intro e sc X W T h
  cases e <;> first | exact (Bool.false_ne_true h).elim | skip
  rename_i g xs kw pos
  cases g <;> first | exact (Bool.false_ne_true h).elim | skip
  cases kw with
  | cons _ _ => exact (Bool.false_ne_true h).elim
  | nil =>
    obtain ⟨h, h3⟩ := and_of h
    obtain ⟨h1, h2⟩ := and_of h
    split at h1
    · rename_i fn hf
      exact s_call T hf (eq_of_beq h1) h2 (hs _ _ _ _ T h3)
    · cases h1
theorem e_bi (b : Bi) (es : IEs) (hs : MotA c n C B es) : MotE c n C B (.bi b es) := by
  intro e sc X W T h
  cases e <;> first | exact (Bool.false_ne_true h).elim | skip
  rename_i g xs kw pos
  cases g <;> first | exact (Bool.false_ne_true h).elim | skip
  cases kw with
  | cons _ _ => exact (Bool.false_ne_true h).elim
  | nil =>
    obtain ⟨h, h3⟩ := and_of h
    obtain ⟨h, h2⟩ := and_of h
    obtain ⟨h0, h1⟩ := and_of h
    cases eq_of_beq h0
    refine s_bi T h1 (hs _ _ _ _ T h2) ?_
    rintro rfl
    cases h3
theorem e_isinst (a : IE) (ts : List Ty) (ha : MotE c n C B a) : MotE c n C B (.isinst a ts) := by
  intro e sc X W T h
  cases e <;> first | exact (Bool.false_ne_true h).elim | skip
  rename_i g xs kw pos
  cases g <;> first | exact (Bool.false_ne_true h).elim | skip
  cases kw with
  | cons _ _ =>
    rcases xs with _ | ⟨x, _ | ⟨y, _ | ⟨z, r⟩⟩⟩ <;> exact (Bool.false_ne_true h).elim
  | nil =>
    rcases xs with _ | ⟨x, _ | ⟨y, _ | ⟨z, r⟩⟩⟩ <;> first | exact (Bool.false_ne_true h).elim | skip
    obtain ⟨h, h4⟩ := and_of h
    obtain ⟨h, h3⟩ := and_of h
    obtain ⟨h, h2⟩ := and_of h
    obtain ⟨h0, h1⟩ := and_of h
    cases eq_of_beq h0
    unfold tysOk at h4
    split at h4
    · obtain ⟨h5, h6⟩ := and_of h4
      cases eq_of_beq h5
      exact s_isi1 T h1 h6 (ha _ _ _ _ T h2) h3
    · obtain ⟨h4, h8⟩ := and_of h4
      obtain ⟨h4, h7⟩ := and_of h4
      obtain ⟨h5, h6⟩ := and_of h4
      exact s_isiT T h1 (ha _ _ _ _ T h2) h3 (eq_of_beq h6) h7 h8 (of_decide_eq_true h5)
    · cases h4
theorem e_meth (m : Me) (o : IE) (es : IEs) (ho : MotE c n C B o) (hs : MotA c n C B es) : MotE c n C B (.meth m o es) := by
  intro e sc X W T h
  cases e <;> first | exact (Bool.false_ne_true h).elim | skip
  rename_i g xs kw pos
  cases g <;> first | exact (Bool.false_ne_true h).elim | skip
  cases kw with
  | cons _ _ => exact (Bool.false_ne_true h).elim
  | nil =>
    obtain ⟨h, h5⟩ := and_of h
    obtain ⟨h, h4⟩ := and_of h
    obtain ⟨h, h3⟩ := and_of h
    obtain ⟨h, h2⟩ := and_of h
    obtain ⟨h0, h1⟩ := and_of h
    cases eq_of_beq h0
    exact s_meth (ho _ _ _ _ T h1) (hs _ _ _ _ T h2) h3 h4 (of_decide_eq_true h5)
theorem e_comp (own : List (Str × Nat)) (t : Tg) (k : Src) (src : IEs) (cd : IO) (y : IE) (hs : MotA c n C B src) (hc : MotO c n C B cd) (hy : MotE c n C B y) : MotE c n C B (.comp own t k src cd y) := by
  intro e sc X W T h
  cases e <;> first | exact (Bool.false_ne_true h).elim | skip
  rename_i elt gens scope pos
  match gens, h with
  | [⟨tg, iter, ifs, 0⟩], h =>
    obtain ⟨h, h6⟩ := and_of h
    obtain ⟨h, h5⟩ := and_of h
    obtain ⟨h, h4⟩ := and_of h
    obtain ⟨h, h3⟩ := and_of h
    obtain ⟨h1, h2⟩ := and_of h
    split at h3
    · rename_i xs hx
      exact s_comp T (hs _ _ _ _ T h3) hx h1 h2 h4 (fun s H A cl fp => hc.2 _ _ _ _ (T.blk s H scope A cl fp) h5) (fun s H A cl fp => hy _ _ _ _ (T.blk s H scope A cl fp) h6)
    · cases h3
theorem e_comp2 (own : List (Str × Nat)) (t : Tg) (k : Src) (src : IEs) (cd : IO) (own2 : List Nat) (t2 : Tg) (k2 : Src) (src2 : IEs) (cd2 : IO) (y : IE) (hs : MotA c n C B src) (hc : MotO c n C B cd) (hs2 : MotA c n C B src2) (hc2 : MotO c n C B cd2) (hy : MotE c n C B y) : MotE c n C B (.comp2 own t k src cd own2 t2 k2 src2 cd2 y) := by
  intro e sc X W T h
  cases e <;> first | exact (Bool.false_ne_true h).elim | skip
  rename_i elt gens scope pos
  match gens, h with
  | [⟨tg, iter, ifs, 0⟩, ⟨tg2, iter2, ifs2, 0⟩], h =>
    obtain ⟨h, h11⟩ := and_of h
    obtain ⟨h, h10⟩ := and_of h
    obtain ⟨h, h9⟩ := and_of h
    obtain ⟨h, h8⟩ := and_of h
    obtain ⟨h, h7⟩ := and_of h
    obtain ⟨h, h6⟩ := and_of h
    obtain ⟨h, h5⟩ := and_of h
    obtain ⟨h, h4⟩ := and_of h
    obtain ⟨h, h3⟩ := and_of h
    obtain ⟨h1, h2⟩ := and_of h
    split at h3
    · rename_i xs hx
      split at h8
      · rename_i xs2 hx2
        have hh := s_comp2 (fe := denE C y) T (hs _ _ _ _ T h3) hx h1 h2 h4 h6 h7 hx2 h9 (fun s H A cl fp => hc.2 _ _ _ _ (T.blk s H scope A cl fp) h5)
          (fun s H A cl fp => hs2 _ _ _ _ (T.blk s H scope A cl fp) h8) (fun s H A cl fp => hc2.2 _ _ _ _ (T.blk s H scope A cl fp) h10) (fun s H A cl fp => hy _ _ _ _ (T.blk s H scope A cl fp) h11) (pos := pos)
        have e : denE C (.comp2 own t k src cd own2 t2 k2 src2 cd2 y) = fun δ => M.bind (denEs C src δ) fun ss => M.bind (srcD k ss) fun its => M.bind M.get fun S0 => M.bind (M.calm (eachD S0 its.keep (turnC2 t (own.map (·.2)) δ (denC C cd) (fun δ1 => M.bind (denEs C src2 δ1) (srcD k2)) t2 own2 (denC C cd2) (denE C y)) its.items)) lstD := by
          funext δ
          unfold turnC2
          simp only [M.bind_assoc]
          rfl
        rw [e]
        exact hh
      · cases h8
    · cases h3
theorem a_nil : MotA c n C B .nil := by
  intro xs sc X W T h
  cases xs with
  | nil => exact sa_nil
  | cons _ _ => exact (Bool.false_ne_true h).elim
theorem a_cons (e : IE) (es : IEs) (he : MotE c n C B e) (hs : MotA c n C B es) : MotA c n C B (.cons e es) := by
  intro xs sc X W T h
  cases xs with
  | nil => exact (Bool.false_ne_true h).elim
  | cons x xs =>
    obtain ⟨h, h3⟩ := and_of h
    obtain ⟨h1, h2⟩ := and_of h
    exact sa_cons (he _ _ _ _ T h1) (hs _ _ _ _ T h3) h2
theorem o_none : MotO c n C B .none := by
  refine ⟨fun x sc X W T h => ?_, fun xs sc X W T h => ?_⟩
  · cases x with
    | none => exact so_none
    | some _ => exact (Bool.false_ne_true h).elim
  · cases xs with
    | nil => exact sc_none
    | cons _ _ => exact (Bool.false_ne_true h).elim
theorem o_some (e : IE) (he : MotE c n C B e) : MotO c n C B (.some e) := by
  refine ⟨fun x sc X W T h => ?_, fun xs sc X W T h => ?_⟩
  · cases x with
    | none => exact (Bool.false_ne_true h).elim
    | some x => exact so_some (he _ _ _ _ T h)
  · rcases xs with _ | ⟨x, _ | ⟨y, r⟩⟩
    · exact (Bool.false_ne_true h).elim
    · exact sc_some (he _ _ _ _ T h)
    · exact (Bool.false_ne_true h).elim
theorem sndE (e : IE) : MotE c n C B e :=
  IE.rec (motive_1 := MotE c n C B) (motive_2 := MotA c n C B) (motive_3 := MotO c n C B) e_var e_con e_glob e_bin e_neg e_not e_cmp e_chain e_and e_or e_ite e_tup e_lst e_idx e_slice e_call e_bi e_isinst e_meth e_comp
    (fun own t k src cd own2 t2 k2 src2 cd2 y a b a2 b2 z => e_comp2 own t k src cd own2 t2 k2 src2 cd2 y a b a2 b2 z) a_nil a_cons o_none o_some e
theorem sndEs (e : IEs) : MotA c n C B e :=
  IEs.rec (motive_1 := MotE c n C B) (motive_2 := MotA c n C B) (motive_3 := MotO c n C B) e_var e_con e_glob e_bin e_neg e_not e_cmp e_chain e_and e_or e_ite e_tup e_lst e_idx e_slice e_call e_bi e_isinst e_meth e_comp
    (fun own t k src cd own2 t2 k2 src2 cd2 y a b a2 b2 z => e_comp2 own t k src cd own2 t2 k2 src2 cd2 y a b a2 b2 z) a_nil a_cons o_none o_some e
end
end Ev

set_option Elab.async false
set_option linter.all false
set_option maxRecDepth 100000
set_option maxHeartbeats 2000000
set_option autoImplicit false
/-! EvM: statements. -/
namespace Ev
open PySem PySem.Spec PyProof.Rows L2
theorem _root_.L2.PS.mono {X : Cx} {e : Stmt} {t t' : TS} (h : PS X e t) (m : ∀ D σ H, t' D σ H → t D σ H) : PS X e t' := ⟨fun pins s σ H Q I w => h.run pins s σ H Q I (m Q σ H w)⟩
theorem _root_.L2.PSs.mono {X : Cx} {e : List Stmt} {t t' : TS} (h : PSs X e t) (m : ∀ D σ H, t' D σ H → t D σ H) : PSs X e t' := ⟨fun pins s σ H Q I w => h.run pins s σ H Q I (m Q σ H w)⟩
/-- where a flow goes -/
def flE (K : PySem.W.Frag) (mg : Mg) (W : WX) (Dn : Ends) (ι : List Addr) (σ : L2.St) (H : Hp) : Fl → Prop
  | .next => Dn.nx σ H
  | .brk => Dn.bk σ H
  | .cont => Dn.ct σ H
  | .ret d => ∀ v, Rep K ι H d v → Dn.rt v H
  | .exc c d => ∀ v C dx, Rep K ι H d v → mg c = some (.ref C) → H dx = some (.xd [(("at" : Str), v)]) → W (.ref C) (some dx) σ H
def endE (K : PySem.W.Frag) (mg : Mg) (W : WX) (Dn : Ends) (ι : List Addr) (S : Store) (H : Hp) (p : Fl × Env) (S' : Store) : Prop :=
  ∀ ι' σ' H', StRel K ι' S' H' → Ext ι S H ι' S' H' → EnvRel K ι' H' p.2 σ' → flE K mg W Dn ι' σ' H' p.1
theorem endE.of {K : PySem.W.Frag} {mg : Mg} {W : WX} {Dn : Ends} {ι ι1 : List Addr} {S S1 : Store} {H H1 : Hp} {p : Fl × Env} {S' : Store} (x : Ext ι S H ι1 S1 H1) (h : endE K mg W Dn ι S H p S') : endE K mg W Dn ι1 S1 H1 p S' :=
  fun ι' σ' H' r y e => h ι' σ' H' r (x.trans y) e
/-- a statement's reading -/
def tS (K : PySem.W.Frag) (mg : Mg) (W : WX) (f : Env → M (Fl × Env)) : TS := fun Dn σ H => ∃ ι δ S, StRel K ι S H ∧ EnvRel K ι H δ σ ∧ Sat (f δ S) (endE K mg W Dn ι S H) NoEx
/-- what stands fast of a def's block -/
structure Blk (X : Cx) (c : Cfg) (sc : Scope) (n : Nat) (C : Calls) (B : Nat → List D → M D) (W : WX) : Prop where
  T : Ctx X c sc n C B W
  own : PassesOwn (model X.prog X.w) X.A X.env X.xe
  kind : sc.kind = .function
  loc : ∀ x, loc sc x = true → Loc X.env.scope x ∧ (X.fn x = true ∨ X.env.scope.names.lookup x = some .local)
section
variable {K : PySem.W.Frag} {mg : Mg} {W : WX}
theorem sat_val {α : Type} {m : M α} {δ : Env} {f : α → M (Fl × Env)} {S : Store} {ok : Fl × Env → Store → Prop} (h : Sat (valsS m δ f S) ok NoEx) : Sat (m S) (fun a S1 => Sat (f a S1) ok NoEx) (fun c v S1 => ok (.exc c v, δ) S1) := by
  unfold valsS at h
  cases e : m S with
  | ok a S1 => rw [e] at h; exact h
  | exc c v S1 => rw [e] at h; exact h
  | bad => rw [e] at h; exact h
theorem sat_then {m : M (Fl × Env)} {f : Env → M (Fl × Env)} {S : Store} {ok : Fl × Env → Store → Prop} (h : Sat (thenS m f S) ok NoEx) : Sat (m S) (fun p S1 => match p.1 with | .next => Sat (f p.2 S1) ok NoEx | _ => ok p S1) NoEx := by
  unfold thenS at h
  cases e : m S with
  | ok p S1 =>
    rw [e] at h
    obtain ⟨fl, δ⟩ := p
    cases fl <;> exact h
  | exc c v S1 => rw [e] at h; exact h.elim
  | bad => rw [e] at h; exact h.elim
theorem sat_turn {m : M (Fl × Env)} {f : Env → M (Fl × Env)} {S : Store} {ok : Fl × Env → Store → Prop} (h : Sat (turnS m f S) ok NoEx) : Sat (m S) (fun p S1 => match p.1 with | .next => Sat (f p.2 S1) ok NoEx | .cont => Sat (f p.2 S1) ok NoEx | .brk => ok (.next, p.2) S1 | _ => ok p S1) NoEx := by
  unfold turnS at h
  cases e : m S with
  | ok p S1 =>
    rw [e] at h
    obtain ⟨fl, δ⟩ := p
    cases fl <;> exact h
  | exc c v S1 => rw [e] at h; exact h.elim
  | bad => rw [e] at h; exact h.elim
/-- a value raised: the flow says so -/
theorem exc_of {Dn : Ends} {ι : List Addr} {S : Store} {H : Hp} {δ : Env} {σ : L2.St} (r : StRel K ι S H) (ev : EnvRel K ι H δ σ) {c : Str} {v : D} {S1 : Store} (h : endE K mg W Dn ι S H (.exc c v, δ) S1) : ExE K mg ι S H (fun c d H' => W c d σ H') c v S1 :=
  fun ι' w H' C dx r' x q e1 e2 => h ι' σ H' r' x (ev.ext r x) w C dx q e1 e2
/-- a value, then what it is for -/
theorem tS_val {f : Env → M D} {g : Env → D → M (Fl × Env)} {Dn : Ends} {σ : L2.St} {H : Hp} (h : tS K mg W (fun δ => valsS (f δ) δ (g δ)) Dn σ H) :
    tD K mg W f σ H fun v H1 => ∃ d ι δ S, StRel K ι S H1 ∧ EnvRel K ι H1 δ σ ∧ Rep K ι H1 d v ∧ Sat (g δ d S) (endE K mg W Dn ι S H1) NoEx := by
  obtain ⟨ι, δ, S, r, ev, hs⟩ := h
  exact ⟨ι, δ, S, r, ev, (sat_val hs).mono (fun d S1 h1 ι1 v H1 r1 x1 q1 => ⟨d, ι1, δ, S1, r1, ev.ext r x1, q1, h1.mono (fun p S2 h2 => h2.of x1) fun _ _ _ z => z⟩) fun c v S1 h1 => exc_of r ev h1⟩
theorem endE.here {Dn : Ends} {ι : List Addr} {S : Store} {H : Hp} {p : Fl × Env} {σ : L2.St} (h : endE K mg W Dn ι S H p S) (r : StRel K ι S H) (e : EnvRel K ι H p.2 σ) : flE K mg W Dn ι σ H p.1 := h ι σ H r .refl e
end
section
variable {X : Cx} {c : Cfg} {sc : Scope} {n : Nat} {C : Calls} {B : Nat → List D → M D} {W : WX}
/-- o[i] of a list, by values -/
def rGet (K : PySem.W.Frag) : V → V → Hp → VK → Prop := fun x y H Q => ∃ ι S k d2, StRel K ι S H ∧ Rep K ι H (.ref k) x ∧ Rep K ι H d2 y ∧ Sat (idxD (.ref k) d2 S) (OkE K ι S H Q) NoEx
theorem get_ok : PGet X (rGet X.K) := by
  intro pins s σ H o i ov iv Q I ro ri h
  obtain ⟨ι, S, k, d2, r, q1, q2, hs⟩ := h
  cases d2 with
  | int i0 =>
    cases q2
    unfold idxD at hs
    simp only at hs
    split at hs
    · rename_i ds e
      split at hs
      · rename_i d e2
        obtain ⟨a, vs, rfl, hq, q3⟩ := seq_at r q1 e
        obtain ⟨w, he, h2⟩ := at_rep q3 e2
        obtain ⟨t, rfl⟩ := ri
        cases ro
        have q : Q w H := OkE.here hs r h2
        have hL : SqL X.K H a vs := by
          obtain ⟨b, eb, ea⟩ := q1
          cases eb
          unfold seqOf at e
          simp only at e
          split at e
          · rename_i es e1
            cases e
            obtain ⟨us, h1, h3⟩ := r.obs k _ a e1 ea
            rcases hq with hq | hq
            · exact hq
            · exact absurd (I.tuple hq) (by
                rintro ⟨its, rv, ⟨o', e', hc', _⟩, _⟩
                obtain ⟨its2, rv2, ⟨o2, n2, e2', hc2, _⟩, _⟩ := I.list (SqL.of h1)
                rw [e'] at e2'
                cases e2'
                rw [hc'] at hc2
                injection hc2 with z
                exact absurd z (by decide))
          · rename_i es e1
            cases e
            obtain ⟨us, h1, h3⟩ := r.obs k _ a e1 ea
            rcases hq with hq | hq
            · exact hq
            · exact absurd (I.tuple hq) (by
                rintro ⟨its, rv, ⟨o', e', hc', _⟩, _⟩
                obtain ⟨its2, rv2, ⟨o2, n2, e2', hc2, _⟩, _⟩ := I.list h1.sq
                rw [e'] at e2'
                cases e2'
                rw [hc'] at hc2
                injection hc2 with z
                exact absurd z (by decide))
          · cases e
        obtain ⟨its, rv, pl, hz⟩ := I.list hL
        obtain ⟨j, h1, h2', h3, h4, h5⟩ := atI_get he
        obtain ⟨u, ew, rw'⟩ := rv.get h2'
        have hl := rv.length
        have hn := line63
        have fin : EP X pins σ Q u s := ⟨w, H, I, rw', q⟩
        by_cases h0 : 0 ≤ i0
        · have hj : i0.toNat = j := by
            rw [seqIndex_of h0 h5] at h1
            exact Option.some.inj h1
          exact wpAny_getItem_list pl.isList h0 (by omega) (by rw [hj]; simpa using ew) fin
        · have hj : (i0 + (its.toArray.size : Int)).toNat = j := by
            rw [seqIndex_neg (by omega) h4] at h1
            rw [List.size_toArray, ← hl]
            exact Option.some.inj h1
          exact wpAny_getItem_list_neg pl.isList (by omega) (by rw [List.size_toArray] <;> omega) (by omega) (by rw [hj]; simpa using ew) fin
      · exact hs.elim
    · exact hs.elim
  | _ => exact hs.elim
end
end Ev

set_option Elab.async false
set_option linter.all false
set_option maxRecDepth 100000
set_option maxHeartbeats 2000000
set_option autoImplicit false
/-! EvN: each statement. -/
namespace Ev
open PySem PySem.Spec PyProof.Rows L2
section
variable {X : Cx} {c : Cfg} {sc : Scope} {n : Nat} {C : Calls} {B : Nat → List D → M D} {W : WX}
theorem st_next : ∀ D σ H, tS X.K X.mg W nextD D σ H → tNext D σ H := fun D σ H h => by
  obtain ⟨ι, δ, S, r, ev, hs⟩ := h
  exact endE.here (p := (.next, δ)) hs r ev
theorem s_pass {pos : Pos} : PS X (.Pass pos) (tS X.K X.mg W nextD) := ps_pass.mono st_next
theorem s_doc {x j p pos} : PS X (.Expr (.Constant (.str x) j p) pos) (tS X.K X.mg W nextD) := ps_doc.mono st_next
theorem s_brk {pos : Pos} : PS X (.Break pos) (tS X.K X.mg W fun δ => M.ret (.brk, δ)) := ps_break.mono fun D σ H h => by
  obtain ⟨ι, δ, S, r, ev, hs⟩ := h
  exact endE.here (p := (.brk, δ)) hs r ev
theorem s_cont {pos : Pos} : PS X (.Continue pos) (tS X.K X.mg W fun δ => M.ret (.cont, δ)) := ps_continue.mono fun D σ H h => by
  obtain ⟨ι, δ, S, r, ev, hs⟩ := h
  exact endE.here (p := (.cont, δ)) hs r ev
theorem s_retn {pos : Pos} : PS X (.Return none pos) (tS X.K X.mg W fun δ => M.ret (.ret .non, δ)) := ps_retN.mono fun D σ H h => by
  obtain ⟨ι, δ, S, r, ev, hs⟩ := h
  exact endE.here (p := (.ret .non, δ)) hs r ev .non rfl
theorem s_ret {f : Env → M D} {e : Expr} {pos : Pos} (he : Snd X W f e) : PS X (.Return (some e) pos) (tS X.K X.mg W fun δ => valsS (f δ) δ fun d => M.ret (.ret d, δ)) := (ps_ret he.pe).mono fun D σ H h => by
  obtain ⟨ι, δ, S, r, ev, hs⟩ := h
  exact ⟨ι, δ, S, r, ev, (sat_val hs).mono (fun d S1 h1 ι1 v H1 r1 x1 q1 => h1 ι1 σ H1 r1 x1 (ev.ext r x1) v q1) fun c v S1 h1 => exc_of r ev h1⟩
theorem s_expr {f : Env → M D} {e : Expr} {pos : Pos} (he : Snd X W f e) (hn : notComp e = true) : PS X (.Expr e pos) (tS X.K X.mg W fun δ => valsS (f δ) δ fun _ => nextD δ) := (ps_expr he.pe (swaps_no hn)).mono fun D σ H h => by
  obtain ⟨ι, δ, S, r, ev, hs⟩ := h
  exact ⟨ι, δ, S, r, ev, (sat_val hs).mono (fun d S1 h1 ι1 v H1 r1 x1 q1 => h1 ι1 σ H1 r1 x1 (ev.ext r x1)) fun c v S1 h1 => exc_of r ev h1⟩
/-- what an assignment's reading comes to -/
theorem asg_read {t : Tg} {f : Env → M D} {Dn : Ends} {σ : L2.St} {H : Hp} (h : tS X.K X.mg W (fun δ => valsS (f δ) δ fun d => match asgD t d δ with | some δ1 => nextD δ1 | none => M.bad) Dn σ H) : tAsg (tD X.K X.mg W f) (tG X.K t) Dn σ H := by
  obtain ⟨ι, δ, S, r, ev, hs⟩ := h
  refine ⟨ι, δ, S, r, ev, (sat_val hs).mono (fun d S1 h1 ι1 v H1 r1 x1 q1 => ?_) fun c v S1 h1 => exc_of r ev h1⟩
  cases e : asgD t d δ with
  | some δ1 =>
    simp only [e] at h1
    exact ⟨ι1, δ, S1, d, δ1, r1, ev.ext r x1, q1, e, fun σ' ev' _ => h1 ι1 σ' H1 r1 x1 ev'⟩
  | none =>
    simp only [e] at h1
    exact h1.elim
theorem fm_len {α β : Type} {f : α → Option β} : ∀ {l : List α}, (l.filterMap f).length ≤ l.length ∧ ((∃ a ∈ l, f a = none) → (l.filterMap f).length < l.length)
  | [] => ⟨Nat.le_refl _, fun ⟨a, h, _⟩ => by cases h⟩
  | a :: l => by
    obtain ⟨h1, h2⟩ := fm_len (f := f) (l := l)
    rw [List.filterMap_cons]
    cases e : f a with
    | none =>
      simp only [List.length_cons]
      exact ⟨by omega, fun _ => by omega⟩
    | some b =>
      simp only [List.length_cons]
      refine ⟨by omega, fun ⟨c, hc, hn⟩ => ?_⟩
      rcases List.mem_cons.mp hc with rfl | hc
      · rw [e] at hn; cases hn
      · have := h2 ⟨c, hc, hn⟩
        omega
/-- no stores are swapped -/
def noSw (sc : Scope) : Expr → Expr → Bool
  | .Tuple ts _ _, .Tuple vs _ _ => !(ts.length == 2 || ts.length == 3) || vs.length != ts.length || vs.all (foldedForSure 8) || ts.any (fun t => match t with | .Name x _ => !(sc.names.lookup x == some .local) | _ => true)
  | .List _ _, _ => false
  | _, _ => true
theorem noSw_ok {tg e : Expr} {env : PySem.Env} (hs : env.scope = sc) (h : noSw sc tg e = true) : swappedStores [tg] e env = pure none := by
  unfold noSw at h
  unfold swappedStores
  split at h
  · rename_i ts _ _ vs _ _
    simp only
    by_cases h1 : (!(ts.length == 2 || ts.length == 3) || vs.length != ts.length || env.blockKind != ScopeKind.function) = true
    · rw [if_pos h1]
    · rw [if_neg h1]
      rw [Bool.or_eq_true] at h
      split
      · rfl
      · rcases h with h | h
        · have hf : (vs.all (foldedForSure 8)) = true := by
            rw [Bool.or_eq_true, not_or, Bool.or_eq_true, not_or] at h1
            rw [Bool.or_eq_true, Bool.or_eq_true] at h
            rcases h with (h | h) | h
            · exact absurd h h1.1.1
            · exact absurd h h1.1.2
            · exact h
          split
          · rfl
          · first | rfl | (rw [if_pos hf]; rfl)
        · rw [if_pos]
          · rw [Bool.or_eq_true]
            left
            obtain ⟨t, ht, hn⟩ := List.any_eq_true.mp h
            rw [bne_iff_ne]
            refine Nat.ne_of_lt (fm_len.2 ⟨t, ht, ?_⟩)
            cases t with
            | Name x p =>
              simp only [Bool.not_eq_true'] at hn
              have ek : env.kindOf x = sc.names.lookup x := by rw [← hs]; rfl
              show (if (env.kindOf x == some NameKind.local && p.line == _) = true then some x else none) = none
              rw [ek, hn, Bool.false_and, if_neg Bool.false_ne_true]
            | _ => rfl
  · cases h
  · rename_i h1 h2
    cases tg <;> first | rfl | skip
    · cases e <;> first | rfl | skip
      exact (h1 _ _ rfl).elim
    · cases e <;> first | rfl | skip
      exact (h2 _ _ _ _ _ _ rfl rfl).elim
/-- no comprehension's own stores -/
def noSole (sc : Scope) : Expr → Expr → Bool
  | .Name y p, .ListComp _ _ s q => !(sc.names.lookup y == some .local) || !(p.line == q.line) || (s.names.any fun (n, k) => n == y && (k == .local || k == .cell))
  | _, .ListComp .. => true
  | _, e => notComp e

theorem sole_no {tg e : Expr} {l : Nat} {env : PySem.Env} (hs : env.scope = sc) (hk : sc.kind = .function) (h : noSole sc tg e = true) : swapsWithSole [tg] e l env = pure false := by
  unfold noSole at h
  split at h
  · rename_i y p elt gs s q
    show swapsWith (.ListComp elt gs s q) (some (.Name y p)) l env = pure false
    have ky : env.kindOf y = sc.names.lookup y := by rw [← hs]; rfl
    have hb : env.blockKind = .function := by unfold Env.blockKind; rw [hs, hk]; rfl
    rw [Bool.or_eq_true, Bool.or_eq_true] at h
    unfold swapsWith
    simp only [hb, ky, Expr.pos]
    rcases h with (h | h) | h
    · rw [Bool.not_eq_true'] at h
      rw [h]
      rfl
    · rw [Bool.not_eq_true'] at h
      rw [h, Bool.and_false, Bool.false_and]
    · rw [h, Bool.not_true, Bool.and_false]
  · rename_i elt gs s q hn
    show swapsWith (.ListComp elt gs s q) (some tg) l env = pure false
    cases tg <;> first | rfl | skip
    exact (hn _ _ rfl).elim
  · exact swaps_no h
theorem s_asg {t : Tg} {tg e : Expr} {f : Env → M D} {pos : Pos} (G : Blk X c sc n C B W) (ht : tgOk c.N (loc sc) t tg = true) (he : Snd X W f e) (h1 : noSole sc tg e = true) (h2 : noSw sc tg e = true) :
    PS X (.Assign [tg] e pos) (tS X.K X.mg W fun δ => valsS (f δ) δ fun d => match asgD t d δ with | some δ1 => nextD δ1 | none => M.bad) := by
  have star : (assignEach [tg] X.env).map (·.2) = [assign tg X.env] := by
    rw [assign_each (by
      unfold tgOk at ht
      split at ht
      · rfl
      · rfl
      · rfl
      · cases ht)]
    rfl
  exact (ps_asg he.pe (pg_tg G.T.g.calm G.T.g.nd G.T.s.N G.loc ht) (sole_no G.T.s.scope G.kind h1) (noSw_ok G.T.s.scope h2) star).mono fun D σ H h => asg_read h
/-- the values of a tuple to as many plain local names, from the right -/
def parOk (sc : Scope) (N : List Str) : List Nat → List Expr → Bool
  | [i, j], [.Name x px, .Name y py] => N[i]? == some x && N[j]? == some y && i != j && sc.names.lookup x == some .local && sc.names.lookup y == some .local && x != y && py.line == px.line
  | [i, j, k], [.Name x px, .Name y py, .Name z pz] => N[i]? == some x && N[j]? == some y && N[k]? == some z && i != j && i != k && j != k && sc.names.lookup x == some .local && sc.names.lookup y == some .local && sc.names.lookup z == some .local &&
      x != y && x != z && y != z && py.line == px.line && pz.line == px.line
  | _, _ => false
theorem setAll_two {i j : Nat} {ds : List D} {δ δ1 : Env} (h : setAll [i, j] ds δ = some δ1) : ∃ a b, ds = [a, b] ∧ δ1 = (δ.set i (some a)).set j (some b) := by
  rcases ds with _ | ⟨a, _ | ⟨b, _ | ⟨d, r⟩⟩⟩
  · cases h
  · cases h
  · cases h; exact ⟨a, b, rfl, rfl⟩
  · cases h
theorem setAll_three {i j k : Nat} {ds : List D} {δ δ1 : Env} (h : setAll [i, j, k] ds δ = some δ1) : ∃ a b d, ds = [a, b, d] ∧ δ1 = ((δ.set i (some a)).set j (some b)).set k (some d) := by
  rcases ds with _ | ⟨a, _ | ⟨b, _ | ⟨d, _ | ⟨e, r⟩⟩⟩⟩
  · cases h
  · cases h
  · cases h
  · cases h; exact ⟨a, b, d, rfl, rfl⟩
  · cases h
theorem par_read {ts : List Nat} {f : Env → M (List D)} {Dn : Ends} {σ : L2.St} {H : Hp} (h : tS X.K X.mg W (fun δ => valsS (f δ) δ fun ds => match setAll ts ds δ with | some δ1 => nextD δ1 | none => M.bad) Dn σ H) :
    tA X.K X.mg W f σ H fun vs H1 => ∃ (ι : List Addr) (δ δ1 : Env) (ds : List D), EnvRel X.K ι H1 δ σ ∧ Reps X.K ι H1 ds vs ∧ setAll ts ds δ = some δ1 ∧ ∀ σ', EnvRel X.K ι H1 δ1 σ' → Dn.nx σ' H1 := by
  obtain ⟨ι, δ, S, r, ev, hs⟩ := h
  refine ⟨ι, δ, S, r, ev, (sat_val hs).mono (fun ds S1 h1 ι1 vs H1 r1 x1 q1 => ?_) fun c v S1 h1 => exc_of r ev h1⟩
  cases e : setAll ts ds δ with
  | some δ1 =>
    simp only [e] at h1
    exact ⟨ι1, δ, δ1, ds, ev.ext r x1, q1, e, fun σ' ev' => h1 ι1 σ' H1 r1 x1 ev'⟩
  | none =>
    simp only [e] at h1
    exact h1.elim
theorem vs_star {vs : List Expr} (h : vs.all notStar = true) : (vs.any fun x => match x with | .Starred .. => true | _ => false) = false := by
  induction vs with
  | nil => rfl
  | cons v vs ih =>
    rw [List.all_cons, Bool.and_eq_true] at h
    rw [List.any_cons, ih h.2]
    cases v <;> first | rfl | cases h.1
theorem s_par {ts : List Nat} {es vs : List Expr} {f : Env → M (List D)} {k k2 : Nat} {p p2 pos : Pos} (G : Blk X c sc n C B W) (hp : parOk sc c.N ts es = true) (ha : SndA X W f vs) (hl : (vs.length == es.length) = true) (h1 : (vs.all (foldedForSure 8)) = false) (h2 : (vs.all (constantsAlone 8)) = false) :
    PS X (.Assign [.Tuple es k p] (.Tuple vs k2 p2) pos) (tS X.K X.mg W fun δ => valsS (f δ) δ fun ds => match setAll ts ds δ with | some δ1 => nextD δ1 | none => M.bad) := by
  have es0 : X.env.scope = sc := G.T.s.scope
  have hb : X.env.blockKind = .function := by unfold Env.blockKind; rw [es0, G.kind]; rfl
  have kk : ∀ x, X.env.kindOf x = sc.names.lookup x := fun x => by rw [← es0]; rfl
  have st := vs_star ha.ns
  unfold parOk at hp
  split at hp
  · rename_i i j x px y py
    obtain ⟨hp, q7⟩ := and_of hp
    obtain ⟨hp, q6⟩ := and_of hp
    obtain ⟨hp, q5⟩ := and_of hp
    obtain ⟨hp, q4⟩ := and_of hp
    obtain ⟨hp, q3⟩ := and_of hp
    obtain ⟨q1, q2⟩ := and_of hp
    have nxy : x ≠ y := by simpa using q6
    have ly := eq_of_beq q7
    rcases vs with _ | ⟨a, _ | ⟨b, _ | ⟨d, r⟩⟩⟩
    · cases hl
    · cases hl
    · have hw : swappedStores [.Tuple [.Name x px, .Name y py] k p] (.Tuple [a, b] k2 p2) X.env = pure (some [x, y]) := by
        unfold swappedStores
        simp only [hb]
        rw [if_neg (by simp), if_neg (by exact fun z => Bool.false_ne_true (st.symm.trans z))]
        have e1 : (sc.names.lookup x == some NameKind.local) = true := q4
        have e2 : (sc.names.lookup y == some NameKind.local) = true := q5
        simp only [List.head?_cons, Option.map_some, Option.getD_some, Expr.pos, List.filterMap_cons, List.filterMap_nil, kk, e1, e2, ly, beq_self_eq_true, Bool.and_true, if_true]
        rw [if_neg (by simp [List.eraseDups_cons, nxy, Ne.symm nxy]), if_neg (by rw [h1]; exact Bool.false_ne_true), if_neg (by rw [h2]; exact Bool.false_ne_true)]
      refine (ps_par G.T.g.calm G.T.g.nd (by rw [G.T.s.N]; exact eq_of_beq q1) (by rw [G.T.s.N]; exact eq_of_beq q2) (by simpa using q3) (by rw [es0]; exact eq_of_beq q4) (by rw [es0]; exact eq_of_beq q5) ha.pa hw).mono fun D σ H h => ?_
      obtain ⟨ι, δ, S, r, ev, h⟩ := par_read h
      refine ⟨ι, δ, S, r, ev, h.mono (fun ds S1 h1 ι1 vs H1 r1 x1 q1 => ?_) fun _ _ _ z => z⟩
      obtain ⟨ι2, δ2, δ3, es, ev2, q2, e, hn⟩ := h1 ι1 vs H1 r1 x1 q1
      obtain ⟨a, b, rfl, rfl⟩ := setAll_two e
      obtain ⟨v, w, rfl, r1, r2⟩ := reps2 q2
      exact ⟨v, w, rfl, hn _ ((ev2.set r1).set r2)⟩
    · cases hl
  · rename_i i j l x px y py z pz
    obtain ⟨hp, q14⟩ := and_of hp
    obtain ⟨hp, q13⟩ := and_of hp
    obtain ⟨hp, q12⟩ := and_of hp
    obtain ⟨hp, q11⟩ := and_of hp
    obtain ⟨hp, q10⟩ := and_of hp
    obtain ⟨hp, q9⟩ := and_of hp
    obtain ⟨hp, q8⟩ := and_of hp
    obtain ⟨hp, q7⟩ := and_of hp
    obtain ⟨hp, q6⟩ := and_of hp
    obtain ⟨hp, q5⟩ := and_of hp
    obtain ⟨hp, q4⟩ := and_of hp
    obtain ⟨hp, q3⟩ := and_of hp
    obtain ⟨q1, q2⟩ := and_of hp
    have nxy : x ≠ y := by simpa using q10
    have nxz : x ≠ z := by simpa using q11
    have nyz : y ≠ z := by simpa using q12
    have ly := eq_of_beq q13
    have lz := eq_of_beq q14
    rcases vs with _ | ⟨a, _ | ⟨b, _ | ⟨d, _ | ⟨e, r⟩⟩⟩⟩
    · cases hl
    · cases hl
    · cases hl
    · have hw : swappedStores [.Tuple [.Name x px, .Name y py, .Name z pz] k p] (.Tuple [a, b, d] k2 p2) X.env = pure (some [x, y, z]) := by
        unfold swappedStores
        simp only [hb]
        rw [if_neg (by simp), if_neg (by exact fun z => Bool.false_ne_true (st.symm.trans z))]
        have e1 : (sc.names.lookup x == some NameKind.local) = true := q7
        have e2 : (sc.names.lookup y == some NameKind.local) = true := q8
        have e3 : (sc.names.lookup z == some NameKind.local) = true := q9
        simp only [List.head?_cons, Option.map_some, Option.getD_some, Expr.pos, List.filterMap_cons, List.filterMap_nil, kk, e1, e2, e3, ly, lz, beq_self_eq_true, Bool.and_true, if_true]
        rw [if_neg (by simp [List.eraseDups_cons, nxy, nxz, nyz, Ne.symm nxy, Ne.symm nxz, Ne.symm nyz]), if_neg (by rw [h1]; exact Bool.false_ne_true), if_neg (by rw [h2]; exact Bool.false_ne_true)]
      refine (ps_par3 G.T.g.calm G.T.g.nd (by rw [G.T.s.N]; exact eq_of_beq q1) (by rw [G.T.s.N]; exact eq_of_beq q2) (by rw [G.T.s.N]; exact eq_of_beq q3) (by simpa using q4) (by simpa using q5) (by simpa using q6) (by rw [es0]; exact eq_of_beq q7) (by rw [es0]; exact eq_of_beq q8) (by rw [es0]; exact eq_of_beq q9) ha.pa hw).mono fun D σ H h => ?_
      obtain ⟨ι, δ, S, r, ev, h⟩ := par_read h
      refine ⟨ι, δ, S, r, ev, h.mono (fun ds S1 h1 ι1 vs H1 r1 x1 q1 => ?_) fun _ _ _ z => z⟩
      obtain ⟨ι2, δ2, δ3, es, ev2, q2, e, hn⟩ := h1 ι1 vs H1 r1 x1 q1
      obtain ⟨a, b, d, rfl, rfl⟩ := setAll_three e
      obtain ⟨v, r, rfl, r1, w, r', rfl, r2, u, r'', rfl, r3, rfl⟩ := q2
      exact ⟨v, w, u, rfl, hn _ (((ev2.set r1).set r2).set r3)⟩
    · cases hl
  · cases hp
end
end Ev

set_option Elab.async false
set_option linter.all false
set_option maxRecDepth 100000
set_option maxHeartbeats 2000000
set_option autoImplicit false
/-! EvO: more statements: comprehensions to a name, subscripts, op=, if, for, while. -/
namespace Ev
open PySem PySem.Spec PyProof.Rows L2
section
variable {X : Cx} {c : Cfg} {sc : Scope} {n : Nat} {C : Calls} {B : Nat → List D → M D} {W : WX}
/-- a comprehension that goes straight to a local name of the same line -/
def toName (sc : Scope) (y : Str) (py pos : Pos) (scope : Scope) : Bool := sc.names.lookup y == some .local && py.line == pos.line && !(scope.names.any fun (n, k) => n == y && (k == .local || k == .cell))
theorem asg_readc {i : Nat} {f : Env → M D} {te : TE} {Dn : Ends} {σ : L2.St} {H : Hp} (h : tS X.K X.mg W (fun δ => valsS (f δ) δ fun d => match asgD (.name i) d δ with | some δ1 => nextD δ1 | none => M.bad) Dn σ H) (rd : ∀ σ H Q, tD X.K X.mg W f σ H Q → te σ H Q) : tAsg te (gName i) Dn σ H := by
  refine rd σ H _ ?_
  obtain ⟨ι, δ, S, r, ev, hs⟩ := h
  refine ⟨ι, δ, S, r, ev, (sat_val hs).mono (fun d S1 h1 ι1 v H1 r1 x1 q1 => ?_) fun c v S1 h1 => exc_of r ev h1⟩
  exact h1 ι1 _ H1 r1 x1 ((ev.ext r x1).set q1)
theorem s_setc {i : Nat} {y : Str} {py pos spos : Pos} {own : List (Str × Nat)} {t : Tg} {k : Src} {iter tg elt : Expr} {ifs xs : List Expr} {scope : Scope} {fs : Env → M (List D)} {fc : Env → M Bool} {fe : Env → M D} (G : Blk X c sc n C B W) (hi : c.N[i]? = some y) (hn : toName sc y py pos scope = true) (hs : SndA X W fs xs) (hx : srcArgs sc k iter tg = some xs)
    (hb : blkC c.N sc scope own = true) (hin : (t.at.all fun i => (own.map (·.2)).contains i) = true) (ht : tgOk c.N (loc scope) t tg = true)
    (hc : ∀ (s : Shared) (H : Hp) (A : Addr) (cl : List (Str × Addr)) (fp : List Addr), SndC (X.blk s H scope (compEnvC scope cl A X.env) fp) noW fc ifs)
    (he : ∀ (s : Shared) (H : Hp) (A : Addr) (cl : List (Str × Addr)) (fp : List Addr), Snd (X.blk s H scope (compEnvC scope cl A X.env) fp) noW fe elt) :
    PS X (.Assign [.Name y py] (.ListComp elt [⟨tg, iter, ifs, 0⟩] scope pos) spos) (tS X.K X.mg W fun δ => valsS (M.bind (fs δ) fun ss => M.bind (srcD k ss) fun its => M.bind M.get fun S0 => M.bind (M.calm (eachD S0 its.keep (turnC t (own.map (·.2)) δ fc fe) its.items)) lstD) δ fun d => match asgD (.name i) d δ with | some δ1 => nextD δ1 | none => M.bad) := by
  have T := G.T
  obtain ⟨hn, n3⟩ := and_of hn
  obtain ⟨n1, n2⟩ := and_of hn
  rw [Bool.not_eq_true'] at n3
  have es0 : X.env.scope = sc := T.s.scope
  have hl : X.env.scope.names.lookup y = some .local := by rw [es0]; exact eq_of_beq n1
  refine (ps_setLc (own := own) (g := tG X.K t) (tt := tT X.K X.mg noW fc) (te := tD X.K X.mg noW fe) T.g.calm T.g.nd (by rw [T.s.N]; exact hi) hl (sw_true (by rw [es0]; exact G.kind) hl n2 n3) (pi_of T hs hx) (blkOk_by (by rw [T.s.N, T.s.scope]; exact hb))
    (fun s H A cl fp => pg_tg (X := X.blk s H scope (compEnvC scope cl A X.env) fp) (N := c.N) (ok := loc scope) T.g.calm T.g.nd T.s.N (ok_blk T s H scope A cl fp) ht) (fun s H A cl fp => (hc s H A cl fp).pts) (fun s H A cl fp => (he s H A cl fp).pe) (fun x => folded (src_notSet hx) x)).mono fun D σ H h => ?_
  exact asg_readc h fun σ H Q w => comp_read hin w
theorem s_setc2 {i : Nat} {y : Str} {py pos spos : Pos} {own : List (Str × Nat)} {vs2 : List Nat} {t t2 : Tg} {k k2 : Src} {iter tg iter2 tg2 elt : Expr} {ifs xs ifs2 xs2 : List Expr} {scope : Scope} {fs : Env → M (List D)} {fc : Env → M Bool} {fe : Env → M D} {fs2 : Env → M (List D)} {fc2 : Env → M Bool} (G : Blk X c sc n C B W) (hi : c.N[i]? = some y) (hn : toName sc y py pos scope = true) (hs : SndA X W fs xs) (hx : srcArgs sc k iter tg = some xs)
    (hb : blkC c.N sc scope own = true) (hin : (t.at.all fun i => (own.map (·.2)).contains i) = true) (ht : tgOk c.N (loc scope) t tg = true)
    (hv : (vs2.all fun i => (own.map (·.2)).contains i) = true) (hin2 : (t2.at.all fun i => vs2.contains i) = true) (hx2 : srcArgs (relS scope sc) k2 iter2 tg2 = some xs2) (ht2 : tgOk c.N (loc scope) t2 tg2 = true)
    (hc : ∀ (s : Shared) (H : Hp) (A : Addr) (cl : List (Str × Addr)) (fp : List Addr), SndC (X.blk s H scope (compEnvC scope cl A X.env) fp) noW fc ifs)
    (hs2 : ∀ (s : Shared) (H : Hp) (A : Addr) (cl : List (Str × Addr)) (fp : List Addr), SndA (X.blk s H scope (compEnvC scope cl A X.env) fp) noW fs2 xs2)
    (hc2 : ∀ (s : Shared) (H : Hp) (A : Addr) (cl : List (Str × Addr)) (fp : List Addr), SndC (X.blk s H scope (compEnvC scope cl A X.env) fp) noW fc2 ifs2)
    (he : ∀ (s : Shared) (H : Hp) (A : Addr) (cl : List (Str × Addr)) (fp : List Addr), Snd (X.blk s H scope (compEnvC scope cl A X.env) fp) noW fe elt) :
    PS X (.Assign [.Name y py] (.ListComp elt [⟨tg, iter, ifs, 0⟩, ⟨tg2, iter2, ifs2, 0⟩] scope pos) spos) (tS X.K X.mg W fun δ => valsS (M.bind (fs δ) fun ss => M.bind (srcD k ss) fun its => M.bind M.get fun S0 => M.bind (M.calm (eachD S0 its.keep (turnC2 t (own.map (·.2)) δ fc (fun δ1 => M.bind (fs2 δ1) (srcD k2)) t2 vs2 fc2 fe) its.items)) lstD) δ fun d => match asgD (.name i) d δ with | some δ1 => nextD δ1 | none => M.bad) := by
  have T := G.T
  obtain ⟨hn, n3⟩ := and_of hn
  obtain ⟨n1, n2⟩ := and_of hn
  rw [Bool.not_eq_true'] at n3
  have es0 : X.env.scope = sc := T.s.scope
  have hl : X.env.scope.names.lookup y = some .local := by rw [es0]; exact eq_of_beq n1
  refine (ps_setLc2 (own := own) (vs1 := vs2) (g := tG X.K t) (tt := tT X.K X.mg noW fc) (wi1 := tI X.K X.mg noW fun δ1 => M.bind (fs2 δ1) (srcD k2)) (g1 := tG X.K t2) (tt1 := tT X.K X.mg noW fc2) (te := tD X.K X.mg noW fe) T.g.calm T.g.nd (by rw [T.s.N]; exact hi) hl (sw_true (by rw [es0]; exact G.kind) hl n2 n3) (pi_of T hs hx) (blkOk_by (by rw [T.s.N, T.s.scope]; exact hb))
    (fun i hi => by simpa using List.all_eq_true.mp hv i hi)
    (fun s H A cl fp => pg_tg (X := X.blk s H scope (compEnvC scope cl A X.env) fp) (N := c.N) (ok := loc scope) T.g.calm T.g.nd T.s.N (ok_blk T s H scope A cl fp) ht) (fun s H A cl fp => (hc s H A cl fp).pts)
    (fun s H A cl fp => pi_of (T.blk s H scope A cl fp) (hs2 s H A cl fp) hx2)
    (fun s H A cl fp => pg_tg (X := X.blk s H scope (compEnvC scope cl A X.env) fp) (N := c.N) (ok := loc scope) T.g.calm T.g.nd T.s.N (ok_blk T s H scope A cl fp) ht2) (fun s H A cl fp => (hc2 s H A cl fp).pts)
    (fun s H A cl fp => (he s H A cl fp).pe) (fun x => folded (src_notSet hx) x) (fun env x => folded (src_notSet hx2) x)).mono fun D σ H h => ?_
  exact asg_readc h fun σ H Q w => comp2_read hin hin2 w
theorem assign_sub {o i : Expr} {p : Pos} {env : PySem.Env} (h : plainIx i = true) : ∀ v, assign (.Subscript o i p) env v = (do
      let ov ← holding [v] (eval o env)
      let iv ← holding [v, ov] (eval i env)
      standAt p
      holding [v, ov, iv] (setItem ov iv v)
      release [v, ov, iv] []) := by
  intro v
  cases i <;> first | rfl | cases h
theorem aug_store {i : Expr} (h : plainIx i = true) : ∀ ov iv new, augStore i ov iv new = (do holding [new, ov, iv] (setItem ov iv new); release [new, ov, iv] []; pure .next) := by
  intro ov iv new
  cases i <;> first | rfl | cases h
theorem s_setix {o i e : Expr} {fo fi fe : Env → M D} {p pos : Pos} (G : Blk X c sc n C B W) (ho : Snd X W fo o) (hi : Snd X W fi i) (he : Snd X W fe e) (hp : plainIx i = true) (hn : notComp e = true) :
    PS X (.Assign [.Subscript o i p] e pos) (tS X.K X.mg W fun δ => valsS (M.bind (fe δ) fun d => M.bind (fo δ) fun x => M.bind (fi δ) fun y => setD x y d) δ fun _ => nextD δ) := by
  have hz : swapsWithSole [.Subscript o i p] e pos.line X.env = pure false := sole_no (sc := sc) G.T.s.scope G.kind (by cases e <;> first | exact hn | cases hn)
  refine (ps_asg he.pe (pg_sub ho.pe hi.pe set_ok (assign_sub hp)) hz (noSw_ok G.T.s.scope (by cases e <;> rfl))).mono fun D σ H h => ?_
  obtain ⟨ι, δ, S, r, ev, hs⟩ := h
  refine ⟨ι, δ, S, r, ev, (Sat.bind (sat_val hs)).mono (fun d S1 h1 ι1 v1 H1 r1 x1 q1 => ?_) fun c v S1 h1 => exc_of r ev h1⟩
  refine ⟨ι1, δ, S1, r1, ev.ext r x1, (Sat.bind h1).mono (fun d2 S2 h2 ι2 v2 H2 r2 x2 q2 => ?_) fun c v S1 h1 => (exc_of r ev h1).of x1⟩
  have x12 := x1.trans x2
  refine ⟨ι2, δ, S2, r2, ev.ext r x12, (Sat.bind h2).mono (fun d3 S3 h3 ι3 v3 H3 r3 x3 q3 => ?_) fun c v S1 h1 => (exc_of r ev h1).of x12⟩
  have x123 := x12.trans x3
  refine ⟨ι3, S3, d2, d3, d, r3, q2.ext r2 x3, q3, (q1.ext r1 x2).ext r2 x3, (h3.noex ?_).mono (fun _ S4 h4 ι4 H4 r4 x4 => h4 ι4 σ H4 r4 (x123.trans x4) (ev.ext r (x123.trans x4))) fun _ _ _ z => z⟩
  intro c v S' e
  unfold setD at e
  repeat' split at e
  all_goals cases e
theorem s_aug {i : Nat} {o : BOp} {x : Str} {e : Expr} {f : Env → M D} {p pos : Pos} (G : Blk X c sc n C B W) (hi : c.N[i]? = some x) (hl : Ev.loc sc x = true) (ho : o ≠ .pow) (he : Snd X W f e) :
    PS X (.AugAssign (.Name x p) o.op e pos) (tS X.K X.mg W fun δ => valsS (M.bind (varD δ i) fun a => M.bind (f δ) fun b => augD o a b) δ fun d => nextD (δ.set i (some d))) := by
  obtain ⟨l1, l2⟩ := G.loc x hl
  refine (ps_aug G.T.g.nd (by rw [G.T.s.N]; exact hi) l1 he.pe (aug_ok G.T.g o ho) l2).mono fun D σ H h => ?_
  obtain ⟨ι, δ, S, r, ev, hs⟩ := h
  have hs := Sat.bind (sat_val hs)
  unfold varD at hs
  cases ed : δ[i]? with
  | none => simp only [ed] at hs; exact hs.elim
  | some od =>
    cases od with
    | none => simp only [ed] at hs; exact hs.elim
    | some d =>
      simp only [ed] at hs
      obtain ⟨v, e1, e2⟩ := ev.2 i d ed
      refine ⟨v, e1, ι, δ, S, r, ev, (Sat.bind (show Sat (M.bind (f δ) (fun b => augD o d b) S) _ _ from hs)).mono (fun b S1 h1 ι1 w H1 r1 x1 q1 => ?_) fun c v S1 h1 => exc_of r ev h1⟩
      refine ⟨ι1, S1, d, b, r1, e2.ext r x1, q1, (h1.noex ?_).mono (fun z S2 h2 ι2 u H2 r2 x2 q2 => h2 ι2 _ H2 r2 (x1.trans x2) ((ev.ext r (x1.trans x2)).set q2)) fun _ _ _ z => z⟩
      intro c v S' e
      unfold augD at e
      split at e
      · exact calm_bin o _ _ _ _ _ _ e
      · exact calm_bin o _ _ _ _ _ _ e
      · cases e
theorem s_augix {o : BOp} {a i e : Expr} {fa fi fe : Env → M D} {p pos : Pos} (G : Blk X c sc n C B W) (ho : o ≠ .pow) (ha : Snd X W fa a) (hi : Snd X W fi i) (he : Snd X W fe e) (hp : plainIx i = true) :
    PS X (.AugAssign (.Subscript a i p) o.op e pos) (tS X.K X.mg W fun δ => valsS (M.bind (fa δ) fun x0 => M.bind (refD x0) fun x => M.bind (fi δ) fun y => M.bind (idxD x y) fun old => M.bind (fe δ) fun z => M.bind (augD o old z) fun d => setD x y d) δ fun _ => nextD δ) := by
  refine (ps_augS ha.pe hi.pe get_ok he.pe (aug_ok G.T.g o ho) set_ok (aug_store hp)).mono fun D σ H h => ?_
  obtain ⟨ι, δ, S, r, ev, hs⟩ := h
  refine ⟨ι, δ, S, r, ev, (Sat.bind (sat_val hs)).mono (fun d S1 h1 ι1 v1 H1 r1 x1 q1 => ?_) fun c v S1 h1 => exc_of r ev h1⟩
  have h0 := Sat.bind h1
  clear h1
  obtain ⟨k, ek, h1⟩ : ∃ k, d = .ref k ∧ Sat (M.bind (fi δ) (fun y => M.bind (idxD (.ref k) y) fun old => M.bind (fe δ) fun z => M.bind (augD o old z) fun d => setD (.ref k) y d) S1) (fun _ S2 => Sat (nextD δ S2) (endE X.K X.mg W D ι S H) NoEx) (fun c v S1 => endE X.K X.mg W D ι S H (.exc c v, δ) S1) := by
    cases d with
    | ref k =>
      unfold refD at h0
      simp only at h0
      cases ek : S1[k]? with
      | some o => simp only [ek] at h0; exact ⟨k, rfl, h0⟩
      | none => simp only [ek] at h0; exact h0.elim
    | _ => exact h0.elim
  subst ek
  refine ⟨ι1, δ, S1, r1, ev.ext r x1, (Sat.bind h1).mono (fun y S2 h2 ι2 v2 H2 r2 x2 q2 => ?_) fun c v S1 h1 => (exc_of r ev h1).of x1⟩
  have x12 := x1.trans x2
  have qk := q1.ext r1 x2
  refine ⟨ι2, S2, k, y, r2, qk, q2, ((Sat.bind h2).noex ?_).mono (fun old S3 h3 ι3 v3 H3 r3 x3 q3 => ?_) fun _ _ _ z => z⟩
  · intro c v S' e
    exact calm_idx _ _ _ _ _ _ e
  have x123 := x12.trans x3
  refine ⟨ι3, δ, S3, r3, ev.ext r x123, (Sat.bind h3).mono (fun z S4 h4 ι4 v4 H4 r4 x4 q4 => ?_) fun c v S1 h1 => (exc_of r ev h1).of x123⟩
  have x1234 := x123.trans x4
  refine ⟨ι4, S4, old, z, r4, q3.ext r3 x4, q4, ((Sat.bind h4).noex ?_).mono (fun w S5 h5 ι5 v5 H5 r5 x5 q5 => ?_) fun _ _ _ z => z⟩
  · intro c v S' e
    unfold augD at e
    split at e
    · exact calm_bin o _ _ _ _ _ _ e
    · exact calm_bin o _ _ _ _ _ _ e
    · cases e
  have x5' := x1234.trans x5
  have x25 := (x3.trans x4).trans x5
  refine ⟨ι5, S5, .ref k, y, w, r5, qk.ext r2 x25, q2.ext r2 x25, q5, (h5.noex ?_).mono (fun _ S6 h6 ι6 H6 r6 x6 => h6 ι6 σ H6 r6 (x5'.trans x6) (ev.ext r (x5'.trans x6))) fun _ _ _ z => z⟩
  intro c v S' e
  unfold setD at e
  repeat' split at e
  all_goals cases e
theorem s_ite2 {f : Env → M D} {t : Expr} {g h : Env → M (Fl × Env)} {a b : List Stmt} {pos : Pos} (ht : Snd X W f t) (ha : PSs X a (tS X.K X.mg W g)) (hb : PSs X b (tS X.K X.mg W h)) :
    PS X (.If t a b pos) (tS X.K X.mg W fun δ => valsS (M.bind (f δ) truthD) δ fun k => condD k (g δ) (h δ)) := by
  refine (ps_if ht.pt ha hb).mono fun D σ H w => ?_
  obtain ⟨ι, δ, S, r, ev, hs⟩ := w
  refine ⟨ι, δ, S, r, ev, (sat_val hs).mono (fun k S1 h1 ι1 H1 r1 x1 => ?_) fun c v S1 h1 => exc_of r ev h1⟩
  cases k with
  | true => exact iT ⟨ι1, δ, S1, r1, ev.ext r x1, h1.mono (fun p S2 h2 => h2.of x1) fun _ _ _ z => z⟩
  | false => exact iF ⟨ι1, δ, S1, r1, ev.ext r x1, h1.mono (fun p S2 h2 => h2.of x1) fun _ _ _ z => z⟩
theorem s_nil : PSs X [] (tS X.K X.mg W nextD) := pss_nil.mono st_next
theorem s_cons {s : Stmt} {r : List Stmt} {f g : Env → M (Fl × Env)} (hs : PS X s (tS X.K X.mg W f)) (hr : PSs X r (tS X.K X.mg W g)) : PSs X (s :: r) (tS X.K X.mg W fun δ => thenS (f δ) g) := by
  refine (pss_cons hs hr).mono fun D σ H w => ?_
  obtain ⟨ι, δ, S, r, ev, hs⟩ := w
  refine ⟨ι, δ, S, r, ev, (sat_then hs).mono (fun p S1 h1 ι1 σ1 H1 r1 x1 ev1 => ?_) fun _ _ _ z => z⟩
  obtain ⟨fl, δ1⟩ := p
  cases fl with
  | next => exact ⟨ι1, δ1, S1, r1, ev1, Sat.mono h1 (fun p S2 h2 => h2.of x1) fun _ _ _ z => z⟩
  | brk => exact h1 ι1 σ1 H1 r1 x1 ev1
  | cont => exact h1 ι1 σ1 H1 r1 x1 ev1
  | ret d => exact h1 ι1 σ1 H1 r1 x1 ev1
  | exc cn d => exact h1 ι1 σ1 H1 r1 x1 ev1
theorem s_for {t : Tg} {k : Src} {tg iter : Expr} {xs : List Expr} {body : List Stmt} {fs : Env → M (List D)} {fb : Env → M (Fl × Env)} {pos : Pos} (G : Blk X c sc n C B W) (hs : SndA X W fs xs) (hx : srcArgs sc k iter tg = some xs) (ht : tgOk c.N (loc sc) t tg = true) (hb : PSs X body (tS X.K X.mg W fb)) :
    PS X (.For tg iter body [] pos) (tS X.K X.mg W fun δ => valsS (M.bind (fs δ) fun ss => M.bind (srcD k ss) fun its => M.bind M.get fun S0 => M.ret (its, S0)) δ fun p => forD p.2 p.1.keep t fb p.1.items δ) := by
  refine (ps_for G.own G.T.g.calm (pi_of G.T hs hx) (pg_tg G.T.g.calm G.T.g.nd G.T.s.N G.loc ht) hb (fun x => folded (src_notSet hx) x)).mono fun D σ H h => ?_
  obtain ⟨ι, δ, S, r, ev, hs⟩ := h
  have hs := sat_val hs
  have e0 : (M.bind (fs δ) fun ss => M.bind (srcD k ss) fun its => M.bind M.get fun S0 => M.ret (its, S0)) = M.bind (M.bind (fs δ) (srcD k)) fun its => M.bind M.get fun S0 => M.ret (its, S0) := (M.bind_assoc _ _ _).symm
  rw [e0] at hs
  refine ⟨ι, δ, S, r, ev, (Sat.bind hs).mono (fun its S1 h1 ι1 J H1 r1 x1 wk => ?_) fun c v S1 h1 => exc_of r ev h1⟩
  have h1 : Sat (forD S1 its.keep t fb its.items δ S1) (endE X.K X.mg W D ι S H) NoEx := h1
  refine ⟨fun i m σ2 H2 => i + m = its.items.length ∧ ∃ ι2 δ2 S2, StRel X.K ι2 S2 H2 ∧ EnvRel X.K ι2 H2 δ2 σ2 ∧ Ext ι1 S1 H1 ι2 S2 H2 ∧ Sat (forD S1 its.keep t fb (its.items.drop i) δ2 S2) (endE X.K X.mg W D ι1 S1 H1) NoEx,
    ⟨its.items.length, by omega, ι1, δ, S1, r1, ev.ext r x1, .refl, by rw [List.drop_zero]; exact h1.mono (fun p S2 h2 => h2.of x1) fun _ _ _ z => z⟩, ?_⟩
  rintro i m σ2 H2 ⟨him, ι2, δ2, S2, r2, ev2, x2, hsat⟩
  rcases drop_or its.items i with ⟨e, hi⟩ | ⟨d, ed, hi, e⟩
  · rw [e] at hsat
    obtain ⟨kp, hsat⟩ := Sat.stay (show Sat (stayD S1 its.keep (nextD δ2) S2) _ _ from hsat)
    have hi : i = its.items.length := by omega
    subst hi
    refine .inl ⟨(wk ι2 S2 H2 r2 (x2.weak r1) kp).2, ?_⟩
    have hsat : endE X.K X.mg W D ι1 S1 H1 (.next, δ2) S2 := hsat
    exact hsat ι2 σ2 H2 r2 x2 ev2
  · rw [e] at hsat
    obtain ⟨kp, hsat⟩ := Sat.stay (show Sat (stayD S1 its.keep (match asgD t d δ2 with | some δ1 => turnS (fb δ1) (forD S1 its.keep t fb (its.items.drop (i + 1))) | none => M.bad) S2) _ _ from hsat)
    obtain ⟨hgo, hyld⟩ := (wk ι2 S2 H2 r2 (x2.weak r1) kp).1 i d ed
    cases ea : asgD t d δ2 with
    | none => simp only [ea] at hsat; exact hsat.elim
    | some δ3 =>
      simp only [ea] at hsat
      refine .inr ⟨hgo, fun σ' H' => ∃ m', m' < m ∧ i + 1 + m' = its.items.length ∧ ∃ ι2 δ2 S2, StRel X.K ι2 S2 H' ∧ EnvRel X.K ι2 H' δ2 σ' ∧ Ext ι1 S1 H1 ι2 S2 H' ∧ Sat (forD S1 its.keep t fb (its.items.drop (i + 1)) δ2 S2) (endE X.K X.mg W D ι1 S1 H1) NoEx, fun σ' H' h => h, fun x H3 hy => ?_⟩
      obtain ⟨r3, x3, q3⟩ := hyld x H3 hy
      refine ⟨ι2, δ2, S2, d, δ3, r3, ev2.ext r2 x3, q3, ea, fun σ' ev' _ => ?_⟩
      have x13 := x2.trans x3
      refine ⟨ι2, δ3, S2, r3, ev', (sat_turn hsat).mono (fun p S4 h4 ι4 σ4 H4 r4 x4 ev4 => ?_) fun _ _ _ z => z⟩
      obtain ⟨fl, δ4⟩ := p
      have x14 := x13.trans x4
      cases fl with
      | next => exact ⟨m - 1, by omega, by omega, ι4, δ4, S4, r4, ev4, x14, h4⟩
      | cont => exact ⟨m - 1, by omega, by omega, ι4, δ4, S4, r4, ev4, x14, h4⟩
      | brk => exact h4 ι4 σ4 H4 r4 x14 ev4
      | ret d => exact h4 ι4 σ4 H4 r4 x14 ev4
      | exc cn d => exact h4 ι4 σ4 H4 r4 x14 ev4
theorem whileD_some {cn : Env → M Bool} {body : Env → M (Fl × Env)} {δ : Env} {S : Store} {ok : Fl × Env → Store → Prop} (h : Sat (whileD cn body δ S) ok NoEx) : ∃ n r, whileN cn body n δ S = some r ∧ Sat r ok NoEx := by
  unfold whileD at h
  split at h
  · rename_i hex
    exact ⟨_, _, hex.choose_spec.choose_spec, h⟩
  · exact h.elim
theorem s_while {f : Env → M D} {t : Expr} {fb : Env → M (Fl × Env)} {body : List Stmt} {pos : Pos} (G : Blk X c sc n C B W) (ht : Snd X W f t) (hb : PSs X body (tS X.K X.mg W fb)) :
    PS X (.While t body [] pos) (tS X.K X.mg W fun δ => whileD (fun δ => M.bind (f δ) truthD) fb δ) := by
  refine (ps_while G.own ht.pt hb).mono fun D σ H h => ?_
  obtain ⟨ι, δ, S, r, ev, hs⟩ := h
  obtain ⟨m0, r0, e0, hs⟩ := whileD_some hs
  refine ⟨fun m σ2 H2 => ∃ ι2 δ2 S2 r0, StRel X.K ι2 S2 H2 ∧ EnvRel X.K ι2 H2 δ2 σ2 ∧ Ext ι S H ι2 S2 H2 ∧ whileN (fun δ => M.bind (f δ) truthD) fb m δ2 S2 = some r0 ∧ Sat r0 (endE X.K X.mg W D ι S H) NoEx, ⟨m0, ι, δ, S, r0, r, ev, .refl, e0, hs⟩, ?_⟩
  rintro m σ2 H2 ⟨ι2, δ2, S2, r0, r2, ev2, x2, e0, hs⟩
  cases m with
  | zero => cases e0
  | succ m =>
    unfold whileN at e0
    refine ⟨ι2, δ2, S2, r2, ev2, ?_⟩
    show Sat (M.bind (f δ2) truthD S2) _ _
    cases ec : M.bind (f δ2) truthD S2 with
    | bad => simp only [ec] at e0; cases e0; exact hs.elim
    | exc cn v S3 =>
      simp only [ec] at e0
      cases e0
      exact (exc_of (Dn := D) r2 ev2 (endE.of x2 hs) : ExE X.K X.mg ι2 S2 H2 _ cn v S3)
    | ok b S3 =>
      intro ι3 H3 r3 x3
      have x13 := x2.trans x3
      have ev3 := ev2.ext r2 x3
      cases b with
      | false =>
        simp only [ec] at e0
        cases e0
        refine iF ?_
        have hs : endE X.K X.mg W D ι S H (.next, δ2) S3 := hs
        exact hs ι3 σ2 H3 r3 x13 ev3
      | true =>
        simp only [ec] at e0
        refine iT ⟨fun σ' H' => ∃ m', m' < m + 1 ∧ ∃ ι2 δ2 S2 r0, StRel X.K ι2 S2 H' ∧ EnvRel X.K ι2 H' δ2 σ' ∧ Ext ι S H ι2 S2 H' ∧ whileN (fun δ => M.bind (f δ) truthD) fb m' δ2 S2 = some r0 ∧ Sat r0 (endE X.K X.mg W D ι S H) NoEx, fun _ _ h => h, ?_⟩
        refine ⟨ι3, δ2, S3, r3, ev3, ?_⟩
        show Sat (fb δ2 S3) _ _
        cases eb : fb δ2 S3 with
        | bad => simp only [eb] at e0; cases e0; exact hs.elim
        | exc a b c => simp only [eb] at e0; cases e0; exact hs.elim
        | ok p S4 =>
          obtain ⟨fl, δ4⟩ := p
          intro ι4 σ4 H4 r4 x4 ev4
          have x14 := x13.trans x4
          cases fl with
          | next => simp only [eb] at e0; exact ⟨m, by omega, ι4, δ4, S4, r0, r4, ev4, x14, e0, hs⟩
          | cont => simp only [eb] at e0; exact ⟨m, by omega, ι4, δ4, S4, r0, r4, ev4, x14, e0, hs⟩
          | brk => simp only [eb] at e0; cases e0; exact (show endE X.K X.mg W D ι S H (.next, δ4) S4 from hs) ι4 σ4 H4 r4 x14 ev4
          | ret d => simp only [eb] at e0; cases e0; exact (show endE X.K X.mg W D ι S H (.ret d, δ4) S4 from hs) ι4 σ4 H4 r4 x14 ev4
          | exc cn d => simp only [eb] at e0; cases e0; exact (show endE X.K X.mg W D ι S H (.exc cn d, δ4) S4 from hs) ι4 σ4 H4 r4 x14 ev4
end
end Ev

set_option Elab.async false
set_option linter.all false
set_option maxRecDepth 100000
set_option maxHeartbeats 2000000
set_option autoImplicit false
/-! EvP: every statement of the language does what its tree of the program does. -/
namespace Ev
open PySem PySem.Spec PyProof.Rows L2
/-- a comprehension that goes straight to a name -/
def toNameOk (c : Cfg) (sc : Scope) : Tg → IE → Expr → Expr → Bool
  | .name i, .comp .., .Name x py, .ListComp _ [_] scope p2 => c.N[i]? == some x && toName sc x py p2 scope
  | .name i, .comp2 .., .Name x py, .ListComp _ [_, _] scope p2 => c.N[i]? == some x && toName sc x py p2 scope
  | _, _, _, _ => false
mutual
def mS (c : Cfg) (sc : Scope) : IS → Stmt → Bool
  | .asg t e, .Assign [tg] v _ => mE c sc e v && ((tgOk c.N (loc sc) t tg && noSole sc tg v && noSw sc tg v) || toNameOk c sc t e tg v)
  | .par ts es, .Assign [.Tuple tgs _ _] (.Tuple vs _ _) _ => parOk sc c.N ts tgs && mEs c sc es vs && vs.length == tgs.length && !(vs.all (foldedForSure 8)) && !(vs.all (constantsAlone 8))
  | .setix o i e, .Assign [.Subscript x y _] v _ => mE c sc o x && mE c sc i y && mE c sc e v && plainIx y && notComp v
  | .aug i o e, .AugAssign (.Name x _) op v _ => op == o.op && c.N[i]? == some x && loc sc x && o != .pow && mE c sc e v
  | .augix a i o e, .AugAssign (.Subscript x y _) op v _ => op == o.op && o != .pow && mE c sc a x && mE c sc i y && mE c sc e v && plainIx y
  | .expr e, .Expr v _ => mE c sc e v && notComp v
  | .ret e, .Return (some v) _ => mE c sc e v
  | .retn, .Return none _ => true
  | .ite t a b, .If x y z _ => mE c sc t x && mSs c sc a y && mSs c sc b z
  | .for_ t k src body, .For tg iter b [] _ => tgOk c.N (loc sc) t tg && (match srcArgs sc k iter tg with | some xs => mEs c sc src xs | none => false) && mSs c sc body b
  | .while_ t body, .While x b [] _ => mE c sc t x && mSs c sc body b
  | .brk, .Break _ => true
  | .cont, .Continue _ => true
  | .pass, .Pass _ => true
  | .pass, .Expr (.Constant (.str _) _ _) _ => true
  | _, _ => false
def mSs (c : Cfg) (sc : Scope) : ISs → List Stmt → Bool
  | .nil, [] => true
  | .cons s r, x :: xs => mS c sc s x && mSs c sc r xs
  | _, _ => false
end
section
variable {c : Cfg} {n : Nat} {C : Calls} {B : Nat → List D → M D}
def MotS (c : Cfg) (n : Nat) (C : Calls) (B : Nat → List D → M D) (is : IS) : Prop := ∀ (s : Stmt) (sc : Scope) (X : Cx) (W : WX), Blk X c sc n C B W → mS c sc is s = true → PS X s (tS X.K X.mg W (denS C is))
def MotSs (c : Cfg) (n : Nat) (C : Calls) (B : Nat → List D → M D) (is : ISs) : Prop := ∀ (s : List Stmt) (sc : Scope) (X : Cx) (W : WX), Blk X c sc n C B W → mSs c sc is s = true → PSs X s (tS X.K X.mg W (denSs C is))
theorem p_toName {t : Tg} {e : IE} {tg v : Expr} {sc : Scope} {X : Cx} {W : WX} {pos : Pos} (G : Blk X c sc n C B W) (h1 : mE c sc e v = true) (h2 : toNameOk c sc t e tg v = true) : PS X (.Assign [tg] v pos) (tS X.K X.mg W (denS C (.asg t e))) := by
  have mo : ∀ cd, MotO c n C B cd := fun cd => IO.rec (motive_1 := MotE c n C B) (motive_2 := MotA c n C B) (motive_3 := MotO c n C B) e_var e_con e_glob e_bin e_neg e_not e_cmp e_chain e_and e_or e_ite e_tup e_lst e_idx e_slice e_call e_bi e_isinst e_meth e_comp
              (fun own t k src cd own2 t2 k2 src2 cd2 y a b a2 b2 z => e_comp2 own t k src cd own2 t2 k2 src2 cd2 y a b a2 b2 z) a_nil a_cons o_none o_some cd
  cases t <;> first | exact (Bool.false_ne_true h2).elim | skip
  rename_i i
  cases e <;> first | exact (Bool.false_ne_true h2).elim | skip
  · rename_i own t' k src cd y
    cases tg <;> first | exact (Bool.false_ne_true h2).elim | skip
    rename_i x py
    cases v <;> first | exact (Bool.false_ne_true h2).elim | skip
    rename_i elt gens scope p2
    rcases gens with _ | ⟨⟨tg, iter, ifs, as⟩, _ | ⟨g2, r⟩⟩
    · exact (Bool.false_ne_true h2).elim
    · obtain ⟨h3, h4⟩ := and_of h2
      rcases as with (_ | _) | _
      rotate_left
      · exact (Bool.false_ne_true h1).elim
      · exact (Bool.false_ne_true h1).elim
      · skip
        obtain ⟨h, q6⟩ := and_of h1
        obtain ⟨h, q5⟩ := and_of h
        obtain ⟨h, q4⟩ := and_of h
        obtain ⟨h, q3⟩ := and_of h
        obtain ⟨q1, q2⟩ := and_of h
        split at q3
        · rename_i xs hx
          exact s_setc G (eq_of_beq h3) h4 (sndEs src _ _ _ _ G.T q3) hx q1 q2 q4 (fun s H A cl fp => (mo cd).2 _ _ _ _ (G.T.blk s H scope A cl fp) q5) (fun s H A cl fp => sndE y _ _ _ _ (G.T.blk s H scope A cl fp) q6)
        · cases q3
    · exact (Bool.false_ne_true h2).elim
  · rename_i own t' k src cd own2 t2 k2 src2 cd2 y
    cases tg <;> first | exact (Bool.false_ne_true h2).elim | skip
    rename_i x py
    cases v <;> first | exact (Bool.false_ne_true h2).elim | skip
    rename_i elt gens scope p2
    rcases gens with _ | ⟨⟨tg, iter, ifs, as⟩, _ | ⟨⟨tg2, iter2, ifs2, as2⟩, _ | ⟨_, _⟩⟩⟩
    · exact (Bool.false_ne_true h2).elim
    · exact (Bool.false_ne_true h2).elim
    · obtain ⟨h3, h4⟩ := and_of h2
      rcases as with (_ | _) | _
      rotate_left
      · exact (Bool.false_ne_true h1).elim
      · exact (Bool.false_ne_true h1).elim
      · rcases as2 with (_ | _) | _
        rotate_left
        · exact (Bool.false_ne_true h1).elim
        · exact (Bool.false_ne_true h1).elim
        · skip
          obtain ⟨h, h11⟩ := and_of h1
          obtain ⟨h, h10⟩ := and_of h
          obtain ⟨h, h9⟩ := and_of h
          obtain ⟨h, h8⟩ := and_of h
          obtain ⟨h, h7⟩ := and_of h
          obtain ⟨h, h6⟩ := and_of h
          obtain ⟨h, h5⟩ := and_of h
          obtain ⟨h, q4⟩ := and_of h
          obtain ⟨h, q3⟩ := and_of h
          obtain ⟨q1, q2⟩ := and_of h
          split at q3
          · rename_i xs hx
            split at h8
            · rename_i xs2 hx2
              have hh := s_setc2 (fe := denE C y) (spos := pos) G (eq_of_beq h3) h4 (sndEs src _ _ _ _ G.T q3) hx q1 q2 q4 h6 h7 hx2 h9 (fun s H A cl fp => (mo cd).2 _ _ _ _ (G.T.blk s H scope A cl fp) h5)
                (fun s H A cl fp => sndEs src2 _ _ _ _ (G.T.blk s H scope A cl fp) h8) (fun s H A cl fp => (mo cd2).2 _ _ _ _ (G.T.blk s H scope A cl fp) h10) (fun s H A cl fp => sndE y _ _ _ _ (G.T.blk s H scope A cl fp) h11)
              have e : denS C (.asg (.name i) (.comp2 own t' k src cd own2 t2 k2 src2 cd2 y)) = fun δ => valsS (M.bind (denEs C src δ) fun ss => M.bind (srcD k ss) fun its => M.bind M.get fun S0 => M.bind (M.calm (eachD S0 its.keep (turnC2 t' (own.map (·.2)) δ (denC C cd) (fun δ1 => M.bind (denEs C src2 δ1) (srcD k2)) t2 own2 (denC C cd2) (denE C y)) its.items)) lstD) δ fun d => match asgD (.name i) d δ with | some δ1 => nextD δ1 | none => M.bad := by
                funext δ
                unfold turnC2
                simp only [M.bind_assoc]
                rfl
              rw [e]
              exact hh
            · cases h8
          · cases q3
    · exact (Bool.false_ne_true h2).elim
theorem p_asg (t : Tg) (e : IE) : MotS c n C B (.asg t e) := by
  intro s sc X W G h
  cases s <;> first | exact (Bool.false_ne_true h).elim | skip
  rename_i tgs v pos
  match tgs, h with
  | [tg], h =>
    obtain ⟨h1, h2⟩ := and_of h
    rcases (Bool.or_eq_true _ _ ▸ h2 : _ ∨ _) with h2 | h2
    · obtain ⟨h2, h5⟩ := and_of h2
      obtain ⟨h3, h4⟩ := and_of h2
      exact s_asg G h3 (sndE e _ _ _ _ G.T h1) h4 h5
    · exact p_toName G h1 h2
theorem p_par (ts : List Nat) (es : IEs) : MotS c n C B (.par ts es) := by
  intro s sc X W G h
  cases s <;> first | exact (Bool.false_ne_true h).elim | skip
  rename_i tgs v pos
  rcases tgs with _ | ⟨tg, _ | ⟨_, _⟩⟩
  · exact (Bool.false_ne_true h).elim
  · cases tg <;> first | exact (Bool.false_ne_true h).elim | skip
    cases v <;> first | exact (Bool.false_ne_true h).elim | skip
    obtain ⟨h, h5⟩ := and_of h
    obtain ⟨h, h4⟩ := and_of h
    obtain ⟨h, h3⟩ := and_of h
    obtain ⟨h1, h2⟩ := and_of h
    rw [Bool.not_eq_true'] at h4 h5
    exact s_par G h1 (sndEs es _ _ _ _ G.T h2) h3 h4 h5
  · cases tg <;> exact (Bool.false_ne_true h).elim
theorem p_setix (o i e : IE) : MotS c n C B (.setix o i e) := by
  intro s sc X W G h
  cases s <;> first | exact (Bool.false_ne_true h).elim | skip
  rename_i tgs v pos
  rcases tgs with _ | ⟨tg, _ | ⟨_, _⟩⟩
  · exact (Bool.false_ne_true h).elim
  · cases tg <;> first | exact (Bool.false_ne_true h).elim | skip
    obtain ⟨h, h5⟩ := and_of h
    obtain ⟨h, h4⟩ := and_of h
    obtain ⟨h, h3⟩ := and_of h
    obtain ⟨h1, h2⟩ := and_of h
    exact s_setix G (sndE o _ _ _ _ G.T h1) (sndE i _ _ _ _ G.T h2) (sndE e _ _ _ _ G.T h3) h4 h5
  · cases tg <;> exact (Bool.false_ne_true h).elim
theorem p_aug (i : Nat) (o : BOp) (e : IE) : MotS c n C B (.aug i o e) := by
  intro s sc X W G h
  cases s <;> first | exact (Bool.false_ne_true h).elim | skip
  rename_i tg op v pos
  cases tg <;> first | exact (Bool.false_ne_true h).elim | skip
  obtain ⟨h, h5⟩ := and_of h
  obtain ⟨h, h4⟩ := and_of h
  obtain ⟨h, h3⟩ := and_of h
  obtain ⟨h1, h2⟩ := and_of h
  cases eq_of_beq h1
  exact s_aug G (eq_of_beq h2) h3 (by simpa using h4) (sndE e _ _ _ _ G.T h5)
theorem p_augix (a i : IE) (o : BOp) (e : IE) : MotS c n C B (.augix a i o e) := by
  intro s sc X W G h
  cases s <;> first | exact (Bool.false_ne_true h).elim | skip
  rename_i tg op v pos
  cases tg <;> first | exact (Bool.false_ne_true h).elim | skip
  obtain ⟨h, h6⟩ := and_of h
  obtain ⟨h, h5⟩ := and_of h
  obtain ⟨h, h4⟩ := and_of h
  obtain ⟨h, h3⟩ := and_of h
  obtain ⟨h1, h2⟩ := and_of h
  cases eq_of_beq h1
  exact s_augix G (by simpa using h2) (sndE a _ _ _ _ G.T h3) (sndE i _ _ _ _ G.T h4) (sndE e _ _ _ _ G.T h5) h6
theorem p_expr (e : IE) : MotS c n C B (.expr e) := by
  intro s sc X W G h
  cases s <;> first | exact (Bool.false_ne_true h).elim | skip
  obtain ⟨h1, h2⟩ := and_of h
  exact s_expr (sndE e _ _ _ _ G.T h1) h2
theorem p_ret (e : IE) : MotS c n C B (.ret e) := by
  intro s sc X W G h
  cases s <;> first | exact (Bool.false_ne_true h).elim | skip
  rename_i v pos
  cases v with
  | none => exact (Bool.false_ne_true h).elim
  | some v => exact s_ret (sndE e _ _ _ _ G.T h)
theorem p_retn : MotS c n C B .retn := by
  intro s sc X W G h
  cases s <;> first | exact (Bool.false_ne_true h).elim | skip
  rename_i v pos
  cases v with
  | none => exact s_retn
  | some v => exact (Bool.false_ne_true h).elim
theorem p_ite (t : IE) (a b : ISs) (ha : MotSs c n C B a) (hb : MotSs c n C B b) : MotS c n C B (.ite t a b) := by
  intro s sc X W G h
  cases s <;> first | exact (Bool.false_ne_true h).elim | skip
  obtain ⟨h, h3⟩ := and_of h
  obtain ⟨h1, h2⟩ := and_of h
  exact s_ite2 (sndE t _ _ _ _ G.T h1) (ha _ _ _ _ G h2) (hb _ _ _ _ G h3)
theorem p_for (t : Tg) (k : Src) (src : IEs) (body : ISs) (hb : MotSs c n C B body) : MotS c n C B (.for_ t k src body) := by
  intro s sc X W G h
  cases s <;> first | exact (Bool.false_ne_true h).elim | skip
  rename_i tg iter b orelse pos
  cases orelse with
  | cons _ _ => exact (Bool.false_ne_true h).elim
  | nil =>
    obtain ⟨h, h3⟩ := and_of h
    obtain ⟨h1, h2⟩ := and_of h
    split at h2
    · rename_i xs hx
      exact s_for G (sndEs src _ _ _ _ G.T h2) hx h1 (hb _ _ _ _ G h3)
    · cases h2
theorem p_while (t : IE) (body : ISs) (hb : MotSs c n C B body) : MotS c n C B (.while_ t body) := by
  intro s sc X W G h
  cases s <;> first | exact (Bool.false_ne_true h).elim | skip
  rename_i x b orelse pos
  cases orelse with
  | cons _ _ => exact (Bool.false_ne_true h).elim
  | nil =>
    obtain ⟨h1, h2⟩ := and_of h
    exact s_while G (sndE t _ _ _ _ G.T h1) (hb _ _ _ _ G h2)
theorem p_brk : MotS c n C B .brk := by
  intro s sc X W G h
  cases s <;> first | exact (Bool.false_ne_true h).elim | skip
  exact s_brk
theorem p_cont : MotS c n C B .cont := by
  intro s sc X W G h
  cases s <;> first | exact (Bool.false_ne_true h).elim | skip
  exact s_cont
theorem p_pass : MotS c n C B .pass := by
  intro s sc X W G h
  cases s <;> first | exact (Bool.false_ne_true h).elim | exact s_pass | skip
  rename_i v pos
  cases v <;> first | exact (Bool.false_ne_true h).elim | skip
  rename_i k j p
  cases k <;> first | exact (Bool.false_ne_true h).elim | skip
  exact s_doc
theorem p_nil : MotSs c n C B .nil := by
  intro s sc X W G h
  cases s with
  | nil => exact s_nil
  | cons _ _ => exact (Bool.false_ne_true h).elim
theorem p_cons (s : IS) (r : ISs) (hs : MotS c n C B s) (hr : MotSs c n C B r) : MotSs c n C B (.cons s r) := by
  intro xs sc X W G h
  cases xs with
  | nil => exact (Bool.false_ne_true h).elim
  | cons x xs =>
    obtain ⟨h1, h2⟩ := and_of h
    exact s_cons (hs _ _ _ _ G h1) (hr _ _ _ _ G h2)
theorem sndSs (b : ISs) : MotSs c n C B b :=
  ISs.rec (motive_1 := MotS c n C B) (motive_2 := MotSs c n C B) p_asg p_par p_setix p_aug p_augix p_expr p_ret p_retn p_ite p_for p_while p_brk p_cont p_pass p_nil p_cons b
end
end Ev

set_option Elab.async false
set_option linter.all false
set_option maxRecDepth 100000
set_option maxHeartbeats 2000000
set_option autoImplicit false
/-! EvQ: a whole program in the language; the end of a law. -/
namespace Ev
open PySem PySem.Spec PyProof.Rows L2
/-- a body at its own arguments, all of them -/
noncomputable def bodyD (P : List Fn) : Nat → Nat → List D → M D
  | 0, _, _ => M.bad
  | n + 1, f, ds => match P[f]? with
    | some fn => endD (denSs (run P n) fn.body (startD fn ds))
    | none => M.bad
theorem run_body (P : List Fn) (n f : Nat) (fn : Fn) (h : P[f]? = some fn) (ds : List D) : run P n f ds = match fillD fn ds with | some es => bodyD P n f es | none => M.bad := by
  cases n with
  | zero =>
    unfold run bodyD
    cases fillD fn ds <;> rfl
  | succ n =>
    unfold run bodyD
    simp only [h] <;> (cases fillD fn ds <;> rfl)
theorem sat_end {m : M (Fl × Env)} {S : Store} {ok : D → Store → Prop} {ex : Str → D → Store → Prop} (h : Sat (endD m S) ok ex) :
    Sat (m S) (fun p S' => match p.1 with | .next => ok .non S' | .ret d => ok d S' | .exc c v => ex c v S' | _ => False) NoEx := by
  unfold endD at h
  cases e : m S with
  | ok p S1 =>
    rw [e] at h
    obtain ⟨fl, δ⟩ := p
    cases fl <;> exact h
  | exc c v S1 => rw [e] at h; exact h.elim
  | bad => rw [e] at h; exact h.elim
theorem start_env {K : PySem.W.Frag} {ι : List Addr} {S : Store} {H : Hp} {fn : Fn} : ∀ {ds : List D} {vs : List V}, Reps K ι H ds vs → EnvRel K ι H (startD fn ds) (L2.start fn.slots vs) := by
  intro ds vs q
  have hl := q.length
  refine ⟨?_, fun i d h => ?_⟩
  · unfold startD L2.start
    rw [List.length_append, List.length_append, List.length_map, List.length_map, List.length_replicate, List.length_replicate, hl]
  · unfold startD at h
    by_cases hi : i < ds.length
    · rw [List.getElem?_append_left (by simpa using hi), List.getElem?_map] at h
      cases e : ds[i]? with
      | none => rw [e] at h; cases h
      | some d' =>
        rw [e] at h
        cases h
        obtain ⟨v, e1, e2⟩ := q.get e
        refine ⟨v, ?_, e2⟩
        unfold L2.start
        rw [List.getElem?_append_left (by rw [List.length_map, hl]; exact hi), List.getElem?_map, e1]
        rfl
    · rw [List.getElem?_append_right (by simpa using hi), List.getElem?_replicate] at h
      split at h <;> cases h
/-- a def of the program that the language tells -/
structure DefOk (K : PySem.W.Frag) (mg : Mg) (fns : List Fn) (cons : List (Str × D)) (fn : Fn) : Prop where
  ex : ∃ (qual : Str) (params : Arguments) (body : List Stmt) (scope : Scope) (dvs : List V) (dus : List Value) (a : Addr) (fd : FuncData), FunD K fn.name qual params body scope dvs [] a fd ∧ mg fn.name = some (.ref a) ∧ Vals dvs dus ∧
    (∀ ι H, Reps K ι H fn.dflt dvs) ∧ (∀ k, Binds K fd fn.params (dus.drop k)) ∧ FnScope fn.slots fn.params scope ∧ mSs ⟨fn.slots, fns, cons⟩ scope fn.body body = true
/-- what stands fast of the program -/
structure Pg (P : Program) (w : World) (K : PySem.W.Frag) (mg : Mg) (base : Heap) (fns : List Fn) (cons : List (Str × D)) : Prop where
  tree : P.given.tree = none
  seer : base.NoSeer
  b : ∀ x ∈ blts, mg x = none
  con : ∀ x d, cons.lookup x = some d → ∃ u v, mg x = some u ∧ RelV v u ∧ ∀ ι H, Rep K ι H d v
  defs : ∀ (f : Nat) (fn : Fn), fns[f]? = some fn → DefOk K mg fns cons fn
theorem prog_ok {P : Program} {w : World} {K : PySem.W.Frag} {mg : Mg} {base : Heap} {fns : List Fn} {cons : List (Str × D)} (G : Pg P w K mg base fns cons) : ∀ (n f : Nat) (fn : Fn), fns[f]? = some fn → FnAt P w K mg base (bodyD fns n f) (n + 71) fn := by
  intro n
  induction n with
  | zero =>
    intro f fn hf
    obtain ⟨qual, params, body, scope, dvs, dus, a, fd, F, hm, hd, hr, hb, S, hc⟩ := (G.defs f fn hf).ex
    refine ⟨a, fd, dvs, dus, hm, F.kp, hd, hr, hb, ⟨fun vs H Q E h => h.1, fun A outer s H args us vs Q E _ _ _ _ h => ?_⟩⟩
    obtain ⟨_, _, _, _, _, _, h⟩ := h
    exact h.elim
  | succ n ih =>
    intro f fn hf
    obtain ⟨qual, params, body, scope, dvs, dus, a, fd, F, hm, hd, hr, hb, S, hc⟩ := (G.defs f fn hf).ex
    refine ⟨a, fd, dvs, dus, hm, F.kp, hd, hr, hb, F.ok S (fun vs H Q E h => h.1) fun cdv A outer s H vs Q E room h => ?_⟩
    obtain ⟨hl, ι, S0, ds, r, q, hs⟩ := h
    refine ⟨tS K mg (fun cls d _ H => E cls d H) (denSs (run fns n) fn.body), ?_, ι, startD fn ds, S0, r, start_env (S := S0) q, ?_⟩
    · refine sndSs (c := ⟨fn.slots, fns, cons⟩) (n := n) (C := run fns n) (B := bodyD fns n) fn.body body scope _ _ ⟨⟨⟨rfl, room, G.seer, G.tree, ⟨_, _, rfl, S.gen, S.co, rfl, rfl⟩, S.nd⟩, ⟨rfl, rfl⟩, G.b, G.con, fun f2 fn2 h2 => ⟨fun ds => run_body fns n f2 fn2 h2 ds, ih f2 fn2 h2⟩, takes_of rfl rfl rfl rfl⟩, passes_of rfl, S.kind, fun x hx => ⟨?_, .inl rfl⟩⟩ hc
      unfold Ev.loc at hx
      rw [Bool.or_eq_true] at hx
      rcases hx with hx | hx
      · exact .inl (eq_of_beq hx)
      · exact .inr (eq_of_beq hx)
    · unfold bodyD at hs
      simp only [hf] at hs
      refine (sat_end hs).mono (fun p S1 h1 ι1 σ1 H1 r1 x1 ev1 => ?_) fun _ _ _ z => z
      obtain ⟨fl, δ1⟩ := p
      cases fl with
      | next => exact (show OkE K ι S0 H Q .non S1 from h1) ι1 .non H1 r1 x1 rfl
      | ret d => exact fun v qv => (show OkE K ι S0 H Q d S1 from h1) ι1 v H1 r1 x1 qv
      | exc c d => exact fun v C dx qv e1 e2 => (show ExE K mg ι S0 H E c d S1 from h1) ι1 v H1 C dx r1 x1 qv e1 e2
      | brk => exact (show False from h1).elim
      | cont => exact (show False from h1).elim
end Ev

set_option Elab.async false
set_option linter.all false
set_option maxRecDepth 100000
set_option maxHeartbeats 2000000
set_option autoImplicit false
/-! EvR: the end of a law that the language tells. -/
namespace Ev
open PySem PySem.Spec PyProof.Rows L2
/-- the script alone is tracked, if the module does not hold it -/
def scrH (K : PySem.W.Frag) (a : Addr) (o : Obj) (xs : List V) : Hp := fun b => if b = a ∧ K.lookup a = none then some (.frz o (.lst xs)) else none
theorem scrH_none {K : PySem.W.Frag} {a b : Addr} {o : Obj} {xs : List V} (h : b = a → K.lookup a ≠ none) : scrH K a o xs b = none := if_neg fun ⟨e, z⟩ => h e z
theorem scrH_some {K : PySem.W.Frag} {a b : Addr} {o : Obj} {xs : List V} {u : HO} (h : scrH K a o xs b = some u) : b = a ∧ K.lookup a = none ∧ u = .frz o (.lst xs) := by
  unfold scrH at h
  split at h
  · rename_i hc
    cases h
    exact ⟨hc.1, hc.2, rfl⟩
  · cases h
/-- the call of the law's def at the heap behind the top -/
theorem end_call {P : Program} {w : World} {K : PySem.W.Frag} {mg mb : Str → Option Value} {k : Nat} {fa a : Addr} {fd : FuncData} {x : Str} {sp : Sp} {s : Shared} {vs : List Value} {ns : List Int}
    (KX : K.In s.heap) (hns : s.heap.Ns mainGlobals mg) (hb : s.heap.Ns builtinsNs mb) (hbb : ∀ x : Str, x ≠ "__name__" → mb x = bootBuiltins x) (hlim : s.heap.NoLimit) (hsee : s.heap.NoSeer) (hg : s.gens = #[])
    (ha : s.heap.get? a = some { cls := .type "list", data := .seq vs.toArray }) (hi : IntsAre vs ns) (hl : ns.length ≤ sizeLine) (hr : Room k callerA)
    (F : ∀ base : Heap, base.NoSeer → FnOk P w K mg base (L2.CX P w) k fa fd [x] sp) (hbind : ∀ (s : Shared) (u : Value), BindsTo s fd ⟨[u], []⟩ [(x, u)])
    (hsp : ∀ H : Hp, FrzAt K H a (ns.map V.int) → sp [.ref a] H (fun v _ => v = .bl true) fun _ _ _ => False) :
    codeAny (model P w) callerA (.call (.ref fa) ⟨[.ref a], []⟩) (fun r s' => r = .ok (.ret (.bool true)) ∧ OldK s.heap s'.heap ∧ s'.os = s.os ∧ AllBare s'.gens) s := by
  have rv := vals_ints hi
  have lenV := hi.length
  generalize hH : scrH K a { cls := .type "list", data := .seq vs.toArray } (ns.map V.int) = H
  have only : ∀ {b : Addr} {u : HO}, H b = some u → b = a ∧ K.lookup a = none ∧ u = .frz { cls := .type "list", data := .seq vs.toArray } (.lst (ns.map V.int)) := by
    intro b u h
    rw [← hH] at h
    exact scrH_some h
  have base_of : ∀ {b : Addr} {o : Obj}, s.heap.get? b = some o → (o.cls = .type "list" → o.data = .seq vs.toArray → K.lookup b ≠ none) → (hidT s.heap H).get? b = some o := by
    intro b o e hne
    refine hidT_get e ?_
    cases q : H b with
    | none => rfl
    | some u =>
      obtain ⟨rfl, hk, _⟩ := only q
      rw [ha] at e
      cases e
      exact absurd hk (hne rfl rfl)
  have nsB : ∀ {b : Addr} {m : Str → Option Value}, s.heap.Ns b m → (hidT s.heap H).Ns b m := fun {b m} ⟨o, es, ep, e, d, r⟩ => ⟨o, es, ep, base_of e (fun _ z => by
    rw [d] at z
    cases z), d, r⟩
  have hKb : K.In (hidT s.heap H) := fun b o e => base_of (KX b o e) fun _ _ z => by
    rw [e] at z
    cases z
  have seeB : (hidT s.heap H).NoSeer := ⟨let ⟨mc, a, b⟩ := hsee.statics; ⟨mc, nsB a, b⟩, let ⟨mc, a, b⟩ := hsee.mods; ⟨mc, nsB a, b⟩, let ⟨mc, a, b⟩ := hsee.imp; ⟨mc, nsB a, b⟩,
    let ⟨mg, bm, ob, a, b, c, d, e⟩ := hsee.main; ⟨mg, bm, ob, nsB a, b, base_of c (fun z => by
      rw [d] at z
      injection z with z
      exact absurd z (by decide)), d, e⟩⟩
  have hM : L2.Mod K mg (hidT s.heap H) := ⟨hKb, nsB hns, ⟨mb, nsB hb, hbb⟩, let ⟨mc, h1, h2⟩ := hlim; ⟨mc, nsB h1, h2⟩⟩
  have hok : HOk P w H s.heap := by
    intro b u q
    obtain ⟨rfl, hk, rfl⟩ := only q
    exact ⟨ha, by rw [List.length_map]; exact hl, vs, _, rv, ha⟩
  have hS : FrzAt K H a (ns.map V.int) := by
    cases hk : K.lookup a with
    | none => exact .inl ⟨_, by rw [← hH]; exact if_pos ⟨rfl, hk⟩⟩
    | some o =>
      have e := KX a o hk
      rw [ha] at e
      cases e
      exact .inr ⟨_, vs.toArray, _, hk, rfl, rfl, rfl, by rw [List.size_toArray, lenV]; exact hl, by simpa using rv⟩
  have e0 : Env0 P w K mg (hidT s.heap H) callerA [] s H := ⟨rfl, hM, fun b o e => of_hidT e, Nat.le_of_eq (hidT_size _ _), trivial, fun b hb => absurd (show b ∈ ([] : List Addr) from hb) (by simp), hok, .of_eq hg⟩
  refine codeAny_mono ((F _ seeB).run callerA [] s H ⟨[.ref a], []⟩ [.ref a] [.ref a] _ _ hr e0 (hbind s (.ref a)) (.cons rfl .nil) (hsp H hS)) fun r s' h => ?_
  cases r with
  | error e =>
    obtain ⟨_, _, _, _, _, _, _, _, _, _, _, _, z⟩ := (show L2.CX P w [] H s (fun _ _ _ => False) e s' from h)
    exact z.elim
  | ok fl =>
    cases fl with
    | next => exact False.elim h
    | brk => exact False.elim h
    | cont => exact False.elim h
    | ret u =>
      obtain ⟨v, H', os, bare, un, hok', r', q⟩ := h
      have q' : v = .bl true := q
      subst q'
      obtain rfl : u = Value.bool true := r'
      refine ⟨rfl, OldK.of_keep fun b o e => ?_, os, bare⟩
      cases q : H b with
      | none => exact un.keep b o e q (by intro z; exact absurd (show b ∈ ([] : List Addr) from z) (by simp)) (by simp)
      | some u =>
        obtain ⟨rfl, hk, rfl⟩ := only q
        obtain ⟨e2, _⟩ := hok' b _ (un.frzs b _ _ q)
        rw [ha] at e
        cases e
        exact e2
/-- the script as the store has it -/
theorem scr_st {K : PySem.W.Frag} {H : Hp} {a : Addr} {ns : List Int} (h : FrzAt K H a (ns.map V.int)) : StRel K [a] [Ob.frz (ns.map D.int)] H := by
  refine ⟨rfl, fun k l ds es b h1 _ _ _ => ?_, fun k o b h1 h2 => ?_⟩
  · cases k with
    | zero => cases h1
    | succ k => simp at h1
  · cases k with
    | zero =>
      cases h1
      cases h2
      refine ⟨_, h, ?_⟩
      have go : ∀ ns : List Int, Reps K [a] H (ns.map D.int) (ns.map V.int) := by
        intro ns
        induction ns with
        | nil => exact rfl
        | cons n ns ih => exact ⟨.int n, ns.map V.int, rfl, rfl, ih⟩
      exact go ns
    | succ k => simp at h1
/-- what the head tells of the program -/
structure Hd (K : PySem.W.Frag) (mg : Mg) (fns : List Fn) (cons : List (Str × D)) (fl : Nat) (x : Str) (fa : Addr) : Prop where
  b : ∀ x ∈ blts, mg x = none
  con : ∀ x d, cons.lookup x = some d → ∃ u v, mg x = some u ∧ RelV v u ∧ ∀ ι H, Rep K ι H d v
  defs : ∀ (f : Nat) (fn : Fn), fns[f]? = some fn → DefOk K mg fns cons fn
  law : ∃ (fn : Fn) (params : Arguments) (body : List Stmt) (scope : Scope) (qual : Str) (fd : FuncData), fns[fl]? = some fn ∧ fn.params = [x] ∧ FunD K fn.name qual params body scope [] [] fa fd ∧ FnScope fn.slots fn.params scope ∧ mSs ⟨fn.slots, fns, cons⟩ scope fn.body body = true ∧
    (∀ (s : Shared) (u : Value), BindsTo s fd ⟨[u], []⟩ [(x, u)])
theorem walk_ev {l : PySem.W.OpenLaw} {n : Nat} {q : Program} {loose : List Str} {XP : (Str → Option Value) → Heap → Prop} {YP : World → Heap → Prop} {d : DefRec} {x : Str} (fns : List Fn) (cons : List (Str × D)) (fl N : Nat)
    (hn : l.most = some n) (hn2 : n ≤ sizeLine) (hdf : d.params.defaults = []) (hi : importsNone q = true) (ht : l.prog.given.tree = none) (hr : Room (N + 1 + 71) callerA)
    (F : ∀ (w : World) (mg : Str → Option Value) (fa : Addr) (h : Heap), YP w h → h.Ns mainGlobals mg → mg d.name = some (.ref fa) → ∃ K : PySem.W.Frag, K.In h ∧ Hd K mg fns cons fl x fa)
    (pure : ∀ ns : List Int, ns.length ≤ n → (∀ z ∈ ns, Builtin.Int.intBits z ≤ 1048576) → Sat (bodyD fns (N + 1) fl [.ref 0] [Ob.frz (ns.map D.int)]) (fun d _ => d = .bl true) NoEx) :
    PySem.W.WalkO q loose XP YP l.row.toRowW d [] (fun f vs => PySem.call f vs) := by
  refine Att.attach_callB hn hdf fun w s₀ s₁ mg mb fa o pm cd doc a vs ns G Y ho hd hcd hmg hobj hints hlen hbits hg => ?_
  obtain ⟨K, KX, A⟩ := F w mg fa _ Y G.T.g hmg
  obtain ⟨fn, params, body, scope, qual, fd, hf, hp, FD, S, hc, hbind⟩ := A.law
  have sound : ∀ base : Heap, base.NoSeer → FnOk l.prog w K mg base (L2.CX l.prog w) (N + 1 + 71) fa fd [x] (spOf K mg (bodyD fns (N + 1) fl) fn) := by
    intro base hs
    have PG : Pg l.prog w K mg base fns cons := ⟨ht, hs, A.b, A.con, A.defs⟩
    rw [← hp]
    refine FD.ok S (fun vs H Q E h => h.1) fun cdv Ar outer s H vs Q E room h => ?_
    obtain ⟨hl, ι, S0, ds, r, q, hs'⟩ := h
    refine ⟨tS K mg (fun cls d _ H => E cls d H) (denSs (run fns N) fn.body), ?_, ι, startD fn ds, S0, r, start_env (S := S0) q, ?_⟩
    · refine sndSs (c := ⟨fn.slots, fns, cons⟩) (n := N) (C := run fns N) (B := bodyD fns N) fn.body body scope _ _ ⟨⟨⟨rfl, room, PG.seer, PG.tree, ⟨_, _, rfl, S.gen, S.co, rfl, rfl⟩, S.nd⟩, ⟨rfl, rfl⟩, PG.b, PG.con, fun f2 fn2 h2 => ⟨fun ds => run_body fns N f2 fn2 h2 ds, prog_ok PG N f2 fn2 h2⟩, takes_of rfl rfl rfl rfl⟩, passes_of rfl, S.kind, fun x hx => ⟨?_, .inl rfl⟩⟩ hc
      unfold Ev.loc at hx
      rw [Bool.or_eq_true] at hx
      rcases hx with hx | hx
      · exact .inl (eq_of_beq hx)
      · exact .inr (eq_of_beq hx)
    · unfold bodyD at hs'
      simp only [hf] at hs'
      refine (sat_end hs').mono (fun p S1 h1 ι1 σ1 H1 r1 x1 ev1 => ?_) fun _ _ _ z => z
      obtain ⟨fl, δ1⟩ := p
      cases fl with
      | next => exact (show OkE K ι S0 H Q .non S1 from h1) ι1 .non H1 r1 x1 rfl
      | ret d => exact fun v qv => (show OkE K ι S0 H Q d S1 from h1) ι1 v H1 r1 x1 qv
      | exc c d => exact fun v C dx qv e1 e2 => (show ExE K mg ι S0 H E c d S1 from h1) ι1 v H1 C dx r1 x1 qv e1 e2
      | brk => exact (show False from h1).elim
      | cont => exact (show False from h1).elim
  refine end_call KX G.T.g G.T.b G.T.builtins G.T.nolimit (G.T.seer hi) hg hobj hints (Nat.le_trans hlen hn2) hr sound hbind fun H hS => ?_
  refine ⟨by rw [hp]; rfl, [a], _, [.ref 0], scr_st hS, ⟨.ref a, [], rfl, ⟨a, rfl, rfl⟩, rfl⟩, (pure ns hlen hbits).mono (fun d S' e ι' v H' r x q => ?_) fun _ _ _ z => z.elim⟩
  rw [e] at q
  exact q
end Ev

set_option Elab.async false
set_option linter.all false
set_option maxRecDepth 100000
set_option maxHeartbeats 2000000
set_option autoImplicit false
/-! EvS: a program's table of defs, checked at once; the head's facts. -/
namespace Ev
open PySem PySem.Spec PyProof.Rows L2
theorem fm_congr {α β : Type} {f g : α → Option β} : ∀ {l : List α}, (∀ a ∈ l, f a = g a) → l.filterMap f = l.filterMap g
  | [], _ => rfl
  | a :: l, h => by rw [List.filterMap_cons, List.filterMap_cons, h a List.mem_cons_self, fm_congr fun b hb => h b (List.mem_cons_of_mem _ hb)]
theorem zip_lookup : ∀ {ps : List Str} {us : List Value}, ps.Nodup → us.length = ps.length → (ps.filterMap fun n => ((ps.zip us).lookup n).map (n, ·)) = ps.zip us ∧ ∀ n ∈ ps, ((ps.zip us).lookup n).isNone = false
  | [], [], _, _ => ⟨rfl, fun n h => by cases h⟩
  | [], _ :: _, _, h => by cases h
  | _ :: _, [], _, h => by cases h
  | p :: ps, u :: us, nd, h => by
    rw [List.nodup_cons] at nd
    obtain ⟨ih1, ih2⟩ := zip_lookup (ps := ps) (us := us) nd.2 (by simpa using h)
    have e : ∀ n ∈ ps, (((p :: ps).zip (u :: us)).lookup n) = (ps.zip us).lookup n := fun n hn => by
      rw [List.zip_cons_cons, List.lookup_cons]
      have : (n == p) = false := by
        rw [beq_eq_false_iff_ne]
        rintro rfl
        exact nd.1 hn
      rw [this]
    refine ⟨?_, fun n hn => ?_⟩
    · rw [List.filterMap_cons]
      have e0 : ((p :: ps).zip (u :: us)).lookup p = some u := by
        rw [List.zip_cons_cons, List.lookup_cons, beq_self_eq_true]
      rw [e0]
      simp only [Option.map_some]
      have e1 : (ps.filterMap fun n => (((p :: ps).zip (u :: us)).lookup n).map (n, ·)) = ps.zip us := by
        refine Eq.trans ?_ ih1
        exact fm_congr fun n hn => by rw [e n hn]
      rw [e1, List.zip_cons_cons]
    · rcases List.mem_cons.mp hn with rfl | hn
      · rw [List.zip_cons_cons, List.lookup_cons, beq_self_eq_true]
        rfl
      · rw [e n hn]
        exact ih2 n hn
theorem bind_plain {fd : FuncData} {args : List Arg} {ps : List Str} (hp : fd.params = ⟨[], args, none, [], [], none, []⟩) (hd : fd.defaults = .none) (ha : args.map (·.arg) = ps) (nd : ps.Nodup) (us : List Value) (hl : us.length = ps.length) : bindArgs fd ⟨us, []⟩ = pure (ps.zip us) := by
  obtain ⟨z1, z2⟩ := zip_lookup nd hl
  have hf : (ps.filter fun n => ((ps.zip us).lookup n).isNone) = [] := List.filter_eq_nil_iff.mpr fun n hn => by rw [z2 n hn]; exact Bool.false_ne_true
  unfold bindArgs
  rw [hp, hd]
  simp [seqItems?, ha, hl, hf, z1]
  rfl

/-- a def of the table: its tree, the place of its statement -/
structure Row where
  fn : Fn
  ix : Nat
def stAt (p : Program) (i : Nat) : Stmt := p.main.body.getD i (.Pass ⟨0, 0, 0, 0⟩)
def argsOk (a : Arguments) (ps : List Str) : Bool := a.posonlyargs.isEmpty && a.vararg.isNone && a.kwonlyargs.isEmpty && a.kw_defaults.isEmpty && a.kwarg.isNone && a.defaults.isEmpty && decide (a.args.map (·.arg) = ps)
theorem args_plain {a : Arguments} {ps : List Str} (h : argsOk a ps = true) : a = ⟨[], a.args, none, [], [], none, []⟩ ∧ a.args.map (·.arg) = ps := by
  obtain ⟨h, h7⟩ := and_of h
  obtain ⟨h, h6⟩ := and_of h
  obtain ⟨h, h5⟩ := and_of h
  obtain ⟨h, h4⟩ := and_of h
  obtain ⟨h, h3⟩ := and_of h
  obtain ⟨h1, h2⟩ := and_of h
  obtain ⟨p, q, v, k, kd, kw, d⟩ := a
  simp only [List.isEmpty_iff, Option.isNone_iff_eq_none] at h1 h2 h3 h4 h5 h6
  subst h1 h2 h3 h4 h5 h6
  exact ⟨rfl, of_decide_eq_true h7⟩
def scOk (N P : List Str) (sc : Scope) : Bool :=
  decide (sc.kind = .function) && !sc.isCoroutine && !sc.isGenerator && decide N.Nodup && decide (N.take P.length = P) && P.all (fun x => loc sc x) && sc.names.all (fun y => !decide (y.2 = .free))
theorem scOk_of {N P : List Str} {sc : Scope} (h : scOk N P sc = true) : FnScope N P sc := by
  obtain ⟨h, h7⟩ := and_of h
  obtain ⟨h, h6⟩ := and_of h
  obtain ⟨h, h5⟩ := and_of h
  obtain ⟨h, h4⟩ := and_of h
  obtain ⟨h, h3⟩ := and_of h
  obtain ⟨h1, h2⟩ := and_of h
  refine ⟨of_decide_eq_true h1, by simpa using h2, by simpa using h3, of_decide_eq_true h4, of_decide_eq_true h5, fun x hx => ?_, fun y hy => ?_⟩
  · have := List.all_eq_true.mp h6 x hx
    unfold loc at this
    rw [Bool.or_eq_true] at this
    rcases this with e | e
    · exact .inl (eq_of_beq e)
    · exact .inr (eq_of_beq e)
  · have := List.all_eq_true.mp h7 y hy
    simpa using this
def fnsOf (rows : List Row) : List Fn := rows.map (·.fn)
def rowOk (p : Program) (fns : List Fn) (cons : List (Str × D)) (r : Row) : Bool :=
  mSs ⟨r.fn.slots, fns, cons⟩ (L2.defScope (stAt p r.ix)) r.fn.body (L2.defBody (stAt p r.ix)) && scOk r.fn.slots r.fn.params (L2.defScope (stAt p r.ix)) && argsOk (L2.defArgs (stAt p r.ix)) r.fn.params && r.fn.dflt.isEmpty
def rowD (p : Program) (r : Row) : He.DefD := ⟨(r.fn.name, none), r.fn.name, r.fn.name, L2.defArgs (stAt p r.ix), L2.defBody (stAt p r.ix), L2.defScope (stAt p r.ix), [], []⟩
def consFa (c : Str × D) : He.Fa := match c with
  | (x, .str z) => .str x z
  | (x, .int i) => .int x i
  | (x, _) => .free x
def consOk (c : Str × D) : Bool := match c with
  | (_, .str _) => true
  | (_, .int _) => true
  | _ => false
def faOf (rows : List Row) (cons : List (Str × D)) : List He.Fa := rows.map (fun r => .glo r.fn.name) ++ cons.map consFa ++ blts.map fun x => .free x
theorem fact_mem {fa : List He.Fa} {fn : List He.DefD} {K : PySem.W.Frag} (c : He.SaysD fa fn K) {f : He.Fa} (h : f ∈ fa) : f.ok K = true :=
  List.all_eq_true.mp (He.ba (show ((fa.all fun f => f.ok K) && fn.all fun d => d.ok K) = true from congrArg (fun z : He.AlD => z.1) c)).1 f h
theorem lookup_mem {x : Str} {d : D} : ∀ {cons : List (Str × D)}, cons.lookup x = some d → (x, d) ∈ cons
  | (y, e) :: r, h => by
    rw [List.lookup_cons] at h
    split at h
    · rename_i q
      cases h
      cases eq_of_beq q
      exact List.mem_cons_self
    · exact List.mem_cons_of_mem _ (lookup_mem h)
theorem hd_of {p : Program} {rows : List Row} {cons : List (Str × D)} {K : PySem.W.Frag} {mg : Mg} {h : Heap} {fl : Nat} {x : Str} {fa : Addr} {lr : Row} (X : K.In h) (G : h.Ns mainGlobals mg) (c : He.SaysD (faOf rows cons) (rows.map (rowD p)) K)
    (ok : rows.all (rowOk p (fnsOf rows) cons) = true) (cok : cons.all consOk = true) (hl : rows[fl]? = some lr) (hx : lr.fn.params = [x]) (hm : mg lr.fn.name = some (.ref fa)) : Hd K mg (fnsOf rows) cons fl x fa := by
  have glo : ∀ r ∈ rows, mg r.fn.name = some (.ref (He.ga K r.fn.name)) := fun r hr => He.glo_ok X G (fact_mem c (List.mem_append_left _ (List.mem_append_left _ (List.mem_map.mpr ⟨r, hr, rfl⟩))))
  have at_ : ∀ (f : Nat) (r : Row), rows[f]? = some r → ∃ fd, FunD K r.fn.name r.fn.name (L2.defArgs (stAt p r.ix)) (L2.defBody (stAt p r.ix)) (L2.defScope (stAt p r.ix)) [] [] (He.ga K r.fn.name) fd := fun f r hr => by
    exact c.def_ f (d := rowD p r) (by rw [List.getElem?_map, hr]; rfl)
  have bind : ∀ r ∈ rows, ∀ {fd : FuncData} {a : Addr}, FunD K r.fn.name r.fn.name (L2.defArgs (stAt p r.ix)) (L2.defBody (stAt p r.ix)) (L2.defScope (stAt p r.ix)) [] [] a fd → FnScope r.fn.slots r.fn.params (L2.defScope (stAt p r.ix)) →
      ∀ (kV doc pm : Value) (an : Option Addr) (cdv ct : Value) (us : List Value), us.length = r.fn.params.length → bindArgs (PySem.W.fnOf r.fn.name r.fn.name (L2.defArgs (stAt p r.ix)) (L2.defBody (stAt p r.ix)) (L2.defScope (stAt p r.ix)) .none kV doc pm an cdv ct) ⟨us, []⟩ = pure (r.fn.params.zip us) := by
    intro r hr fd a F S kV doc pm an cdv ct us hus
    obtain ⟨h1, h2⟩ := and_of (List.all_eq_true.mp ok r hr)
    obtain ⟨h1, h3⟩ := and_of h1
    obtain ⟨e1, e2⟩ := args_plain h3
    have nd : r.fn.params.Nodup := by rw [← S.pre]; exact S.nd.sublist (List.take_sublist _ _)
    exact bind_plain (args := (L2.defArgs (stAt p r.ix)).args) e1 rfl e2 nd us hus
  refine ⟨fun y hy => He.free_ok X G (fact_mem c (List.mem_append_right _ (List.mem_map.mpr ⟨y, hy, rfl⟩))), fun y d hy => ?_, fun f fn hf => ?_, ?_⟩
  · have hm := lookup_mem hy
    have hf := fact_mem c (f := consFa (y, d)) (List.mem_append_left _ (List.mem_append_right _ (List.mem_map.mpr ⟨_, hm, rfl⟩)))
    have hc := List.all_eq_true.mp cok _ hm
    cases d with
    | str z =>
      obtain ⟨t, e⟩ := He.str_ok X G hf
      exact ⟨_, .str z, e, ⟨t, rfl⟩, fun _ _ => rfl⟩
    | int i =>
      obtain ⟨t, e⟩ := He.int_ok X G hf
      exact ⟨_, .int i, e, ⟨t, rfl⟩, fun _ _ => rfl⟩
    | _ => cases hc
  · unfold fnsOf at hf
    rw [List.getElem?_map] at hf
    cases hr : rows[f]? with
    | none => rw [hr] at hf; cases hf
    | some r =>
      rw [hr] at hf
      cases hf
      have mr := List.mem_of_getElem? hr
      obtain ⟨fd, F⟩ := at_ f r hr
      obtain ⟨h1, h2⟩ := and_of (List.all_eq_true.mp ok r mr)
      obtain ⟨h1, h3⟩ := and_of h1
      obtain ⟨h1, h4⟩ := and_of h1
      have S := scOk_of h4
      have dn : r.fn.dflt = [] := List.isEmpty_iff.mp h2
      refine ⟨_, _, _, _, [], [], _, fd, F, glo r mr, .nil, fun ι H => by rw [dn]; exact rfl, fun k => ?_, S, h1⟩
      rw [List.drop_nil]
      exact F.bindsN (bind r mr F S)
  · have mr := List.mem_of_getElem? hl
    obtain ⟨fd, F⟩ := at_ fl lr hl
    have e := glo lr mr
    rw [hm] at e
    cases e
    obtain ⟨h1, h2⟩ := and_of (List.all_eq_true.mp ok lr mr)
    obtain ⟨h1, h3⟩ := and_of h1
    obtain ⟨h1, h4⟩ := and_of h1
    have S := scOk_of h4
    refine ⟨lr.fn, _, _, _, _, fd, by unfold fnsOf; rw [List.getElem?_map, hl]; rfl, hx, F, S, h1, fun s u => ?_⟩
    have b := F.bindsA (bind lr mr F S) s [u] (by rw [hx]; rfl)
    rw [hx] at b
    exact b
end Ev

set_option Elab.async false
set_option linter.all false
set_option maxRecDepth 100000
set_option maxHeartbeats 2000000
set_option autoImplicit false
/-! EvT: what a tree of the language does, as conditions (no program in sight). -/
namespace Ev
open PySem
abbrev Ex := Str → D → Store → Prop
def Wx {α : Type} (m : M α) (S : Store) (Q : α → Store → Prop) (E : Ex) : Prop := Sat (m S) Q E
/-- a block: N on, Q away -/
def Ws (m : M (Fl × Env)) (S : Store) (N : Env → Store → Prop) (Q : Fl × Env → Store → Prop) : Prop := Wx m S (fun p S' => match p.1 with | .next => N p.2 S' | _ => Q p S') NoEx
section
variable {α β : Type} {S : Store} {E : Ex} {C : Calls} {δ : Env}
theorem Wx.mono {m : M α} {Q Q' : α → Store → Prop} {E' : Ex} (h : Wx m S Q E) (h1 : ∀ a S', Q a S' → Q' a S') (h2 : ∀ c v S', E c v S' → E' c v S') : Wx m S Q' E' := Sat.mono h h1 h2
theorem Wx.ok {m : M α} {Q Q' : α → Store → Prop} {E' : Ex} (h : Wx m S Q NoEx) (h1 : ∀ a S', Q a S' → Q' a S') : Wx m S Q' E' := Sat.mono h h1 fun _ _ _ z => z.elim
theorem Wx_ret {a : α} {Q : α → Store → Prop} : Wx (M.ret a) S Q E = Q a S := rfl
theorem Wx_bind {m : M α} {f : α → M β} {Q : β → Store → Prop} : Wx (M.bind m f) S Q E = Wx m S (fun a S1 => Wx (f a) S1 Q E) E := by
  unfold Wx M.bind
  cases m S <;> rfl
theorem Wx_calm {m : M α} {Q : α → Store → Prop} : Wx (M.calm m) S Q E = Wx m S Q NoEx := by
  unfold Wx M.calm
  cases m S <;> rfl
theorem Wx_get {Q : Store → Store → Prop} : Wx M.get S Q E = Q S S := rfl
theorem Wx_eq {m : M α} {Q : α → Store → Prop} {a : α} {S' : Store} (h : m S = .ok a S') : Wx m S Q E = Q a S' := by
  unfold Wx
  rw [h]
  rfl
theorem Wx_cond {b : Bool} {x y : M α} {Q : α → Store → Prop} : Wx (condD b x y) S Q E = if b = true then Wx x S Q E else Wx y S Q E := by
  cases b <;> rfl
variable {Q : D → Store → Prop}
theorem Wx_var {i : Nat} : Wx (denE C (.var i) δ) S Q E = match δ[i]? with | some (some d) => Q d S | _ => False := by
  show Sat (varD δ i S) Q E = _
  unfold varD
  cases δ[i]? with
  | none => rfl
  | some o => cases o <;> rfl
theorem Wx_con {d : D} : Wx (denE C (.con d) δ) S Q E = Q d S := rfl
theorem Wx_glob {x : Str} {d : D} : Wx (denE C (.glob x d) δ) S Q E = Q d S := rfl
theorem Wx_bin {o : BOp} {a b : IE} : Wx (denE C (.bin o a b) δ) S Q E = Wx (denE C a δ) S (fun x S1 => Wx (denE C b δ) S1 (fun y S2 => Wx (binD o x y) S2 Q E) E) E := by
  show Wx (M.bind _ fun x => M.bind _ fun y => _) _ _ _ = _
  simp only [Wx_bind]
theorem Wx_neg {a : IE} : Wx (denE C (.neg a) δ) S Q E = Wx (denE C a δ) S (fun x S1 => Wx (negD x) S1 Q E) E := by
  show Wx (M.bind _ fun x => _) _ _ _ = _
  simp only [Wx_bind]
theorem Wx_negI {i : Int} : Wx (negD (.int i)) S Q E = Q (.int (-i)) S := rfl
theorem Wx_not {a : IE} : Wx (denE C (.not a) δ) S Q E = Wx (denE C a δ) S (fun x S1 => Wx (truthD x) S1 (fun b S2 => Q (.bl (!b)) S2) E) E := by
  show Wx (M.bind _ fun x => M.bind _ fun y => M.ret _) _ _ _ = _
  simp only [Wx_bind, Wx_ret]
theorem Wx_cmp {o : COp} {a b : IE} : Wx (denE C (.cmp o a b) δ) S Q E = Wx (denE C a δ) S (fun x S1 => Wx (denE C b δ) S1 (fun y S2 => Wx (cmpD o x y) S2 (fun r S3 => Q (.bl r) S3) E) E) E := by
  show Wx (M.bind _ fun x => M.bind _ fun y => M.bind _ fun r => M.ret _) _ _ _ = _
  simp only [Wx_bind, Wx_ret]
theorem Wx_and {a b : IE} : Wx (denE C (.and a b) δ) S Q E = Wx (denE C a δ) S (fun x S1 => Wx (truthD x) S1 (fun k S2 => if k = true then Wx (denE C b δ) S2 Q E else Q x S2) E) E := by
  show Wx (M.bind _ fun x => M.bind _ fun k => condD k _ (M.ret _)) _ _ _ = _
  simp only [Wx_bind, Wx_ret, Wx_cond]
theorem Wx_or {a b : IE} : Wx (denE C (.or a b) δ) S Q E = Wx (denE C a δ) S (fun x S1 => Wx (truthD x) S1 (fun k S2 => if k = true then Q x S2 else Wx (denE C b δ) S2 Q E) E) E := by
  show Wx (M.bind _ fun x => M.bind _ fun k => condD k (M.ret _) _) _ _ _ = _
  simp only [Wx_bind, Wx_ret, Wx_cond]
theorem Wx_ite {c a b : IE} : Wx (denE C (.ite c a b) δ) S Q E = Wx (denE C c δ) S (fun x S1 => Wx (truthD x) S1 (fun k S2 => if k = true then Wx (denE C a δ) S2 Q E else Wx (denE C b δ) S2 Q E) E) E := by
  show Wx (M.bind _ fun x => M.bind _ fun k => condD k _ _) _ _ _ = _
  simp only [Wx_bind, Wx_ret, Wx_cond]
theorem Wx_tup {es : IEs} : Wx (denE C (.tup es) δ) S Q E = Wx (denEs C es δ) S (fun ds S1 => ds.length ≤ line ∧ Q (.tup ds) S1) E := by
  show Wx (M.bind _ fun ds => tupD ds) _ _ _ = _
  simp only [Wx_bind]
  congr 1
  funext ds S1
  unfold Wx tupD
  split
  · rename_i h; exact propext ⟨fun z => ⟨h, z⟩, fun z => z.2⟩
  · rename_i h; exact propext ⟨fun z => z.elim, fun z => absurd z.1 h⟩
theorem Wx_lstD {ds : List D} : Wx (lstD ds) S Q E = (ds.length ≤ line ∧ Q (.ref S.length) (S ++ [Ob.lst ds])) := by
  unfold Wx lstD
  split
  · rename_i h; exact propext ⟨fun z => ⟨h, z⟩, fun z => z.2⟩
  · rename_i h; exact propext ⟨fun z => z.elim, fun z => absurd z.1 h⟩
theorem Wx_lst {es : IEs} : Wx (denE C (.lst es) δ) S Q E = Wx (denEs C es δ) S (fun ds S1 => ds.length ≤ line ∧ Q (.ref S1.length) (S1 ++ [Ob.lst ds])) E := by
  show Wx (M.bind _ fun ds => lstD ds) _ _ _ = _
  simp only [Wx_bind, Wx_lstD]
theorem Wx_idx {a i : IE} : Wx (denE C (.idx a i) δ) S Q E = Wx (denE C a δ) S (fun x S1 => Wx (denE C i δ) S1 (fun y S2 => Wx (idxD x y) S2 Q E) E) E := by
  show Wx (M.bind _ fun x => M.bind _ fun y => _) _ _ _ = _
  simp only [Wx_bind]
theorem Wx_slice {a : IE} {lo hi : IO} : Wx (denE C (.slice a lo hi) δ) S Q E = Wx (denE C a δ) S (fun x S1 => Wx (denO C lo δ) S1 (fun l S2 => Wx (denO C hi δ) S2 (fun h S3 => Wx (sliceD x l h) S3 Q E) E) E) E := by
  show Wx (M.bind _ fun x => M.bind _ fun l => M.bind _ fun h => _) _ _ _ = _
  simp only [Wx_bind]
theorem Wx_call {f : Nat} {es : IEs} : Wx (denE C (.call f es) δ) S Q E = Wx (denEs C es δ) S (fun ds S1 => Wx (C f ds) S1 Q E) E := by
  show Wx (M.bind _ fun ds => _) _ _ _ = _
  simp only [Wx_bind]
theorem Wx_bi {b : Bi} {es : IEs} : Wx (denE C (.bi b es) δ) S Q E = Wx (denEs C es δ) S (fun ds S1 => Wx (biD b ds) S1 Q E) E := by
  show Wx (M.bind _ fun ds => _) _ _ _ = _
  simp only [Wx_bind]
theorem Wx_isi {a : IE} {ts : List Ty} : Wx (denE C (.isinst a ts) δ) S Q E = Wx (denE C a δ) S (fun x S1 => Wx (isinstD ts x) S1 (fun b S2 => Q (.bl b) S2) E) E := by
  show Wx (M.bind _ fun x => M.bind _ fun b => M.ret _) _ _ _ = _
  simp only [Wx_bind, Wx_ret]
theorem Wx_meth {m : Me} {o : IE} {es : IEs} : Wx (denE C (.meth m o es) δ) S Q E = Wx (denE C o δ) S (fun x S1 => Wx (refD x) S1 (fun y S2 => Wx (denEs C es δ) S2 (fun ds S3 => Wx (meD m y ds) S3 Q E) E) E) E := by
  show Wx (M.bind _ fun x => M.bind _ fun y => M.bind _ fun ds => _) _ _ _ = _
  simp only [Wx_bind]
theorem Wx_comp {own : List (Str × Nat)} {t : Tg} {k : Src} {src : IEs} {c : IO} {e : IE} : Wx (denE C (.comp own t k src c e) δ) S Q E =
    Wx (denEs C src δ) S (fun ss S1 => Wx (srcD k ss) S1 (fun its S2 => Wx (eachD S2 its.keep (turnC t (own.map (·.2)) δ (denC C c) (denE C e)) its.items) S2 (fun ds S3 => ds.length ≤ line ∧ Q (.ref S3.length) (S3 ++ [Ob.lst ds])) NoEx) E) E := by
  show Wx (M.bind _ fun ss => M.bind _ fun its => M.bind M.get fun S0 => M.bind (M.calm _) fun ds => lstD ds) _ _ _ = _
  simp only [Wx_bind, Wx_get, Wx_calm, Wx_lstD]
  rfl
theorem Wx_comp2 {own : List (Str × Nat)} {t : Tg} {k : Src} {src : IEs} {c : IO} {own2 : List Nat} {t2 : Tg} {k2 : Src} {src2 : IEs} {c2 : IO} {e : IE} : Wx (denE C (.comp2 own t k src c own2 t2 k2 src2 c2 e) δ) S Q E =
    Wx (denEs C src δ) S (fun ss S1 => Wx (srcD k ss) S1 (fun its S2 => Wx (eachD S2 its.keep (turnC2 t (own.map (·.2)) δ (denC C c) (fun δ1 => M.bind (denEs C src2 δ1) (srcD k2)) t2 own2 (denC C c2) (denE C e)) its.items) S2 (fun ds S3 => ds.length ≤ line ∧ Q (.ref S3.length) (S3 ++ [Ob.lst ds])) NoEx) E) E := by
  have e : denE C (.comp2 own t k src c own2 t2 k2 src2 c2 e) = fun δ => M.bind (denEs C src δ) fun ss => M.bind (srcD k ss) fun its => M.bind M.get fun S0 => M.bind (M.calm (eachD S0 its.keep (turnC2 t (own.map (·.2)) δ (denC C c) (fun δ1 => M.bind (denEs C src2 δ1) (srcD k2)) t2 own2 (denC C c2) (denE C e)) its.items)) lstD := by
    funext δ
    unfold turnC2
    simp only [M.bind_assoc]
    rfl
  rw [e]
  simp only [Wx_bind, Wx_get, Wx_calm, Wx_lstD]
theorem Wx_nil {Q : List D → Store → Prop} : Wx (denEs C .nil δ) S Q E = Q [] S := rfl
theorem Wx_cons {e : IE} {es : IEs} {Q : List D → Store → Prop} : Wx (denEs C (.cons e es) δ) S Q E = Wx (denE C e δ) S (fun d S1 => Wx (denEs C es δ) S1 (fun ds S2 => Q (d :: ds) S2) E) E := by
  show Wx (M.bind _ fun x => M.bind _ fun y => M.ret _) _ _ _ = _
  simp only [Wx_bind, Wx_ret]
theorem Wx_onone {Q : Option Int → Store → Prop} : Wx (denO C .none δ) S Q E = Q none S := rfl
theorem Wx_osome {e : IE} {Q : Option Int → Store → Prop} : Wx (denO C (.some e) δ) S Q E = Wx (denE C e δ) S (fun d S1 => match d with | .int i => Q (some i) S1 | _ => False) E := by
  show Wx (M.bind _ fun x => _) _ _ _ = _
  simp only [Wx_bind]
  congr 1
  funext d S1
  cases d <;> rfl
theorem Wx_cnone {Q : Bool → Store → Prop} : Wx (denC C .none δ) S Q E = Q true S := rfl
theorem Wx_csome {e : IE} {Q : Bool → Store → Prop} : Wx (denC C (.some e) δ) S Q E = Wx (denE C e δ) S (fun d S1 => Wx (truthD d) S1 Q E) E := by
  show Wx (M.bind _ fun x => _) _ _ _ = _
  simp only [Wx_bind]
/-! ### operators -/
theorem ifF {c : Prop} [Decidable c] {r s : R α} {Q : α → Store → Prop} (hs : s = .bad) : Sat (if c then r else s) Q E = (c ∧ Sat r Q E) := by
  by_cases h : c
  · rw [if_pos h]; exact propext ⟨fun z => ⟨h, z⟩, fun z => z.2⟩
  · rw [if_neg h, hs]; exact propext ⟨fun z => z.elim, fun z => absurd z.1 h⟩
theorem Wx_add {i j : Int} : Wx (binD .add (.int i) (.int j)) S Q E = Q (.int (i + j)) S := rfl
theorem Wx_addT {xs ys : List D} : Wx (binD .add (.tup xs) (.tup ys)) S Q E = (xs.length + ys.length ≤ line ∧ Q (.tup (xs ++ ys)) S) := ifF rfl
theorem Wx_sub {i j : Int} : Wx (binD .sub (.int i) (.int j)) S Q E = Q (.int (i - j)) S := rfl
theorem Wx_mul {i j : Int} : Wx (binD .mul (.int i) (.int j)) S Q E = (mulOk i j = true ∧ Q (.int (i * j)) S) := ifF rfl
theorem Wx_fdiv {i j : Int} : Wx (binD .fdiv (.int i) (.int j)) S Q E = (j ≠ 0 ∧ Q (.int (i.fdiv j)) S) := by
  show Sat (if j = 0 then .bad else _) Q E = _
  by_cases h : j = 0
  · rw [if_pos h]; exact propext ⟨fun z => z.elim, fun z => absurd h z.1⟩
  · rw [if_neg h]; exact propext ⟨fun z => ⟨h, z⟩, fun z => z.2⟩
theorem Wx_mod {i j : Int} : Wx (binD .mod (.int i) (.int j)) S Q E = (j ≠ 0 ∧ Q (.int (i.fmod j)) S) := by
  show Sat (if j = 0 then .bad else _) Q E = _
  by_cases h : j = 0
  · rw [if_pos h]; exact propext ⟨fun z => z.elim, fun z => absurd h z.1⟩
  · rw [if_neg h]; exact propext ⟨fun z => ⟨h, z⟩, fun z => z.2⟩
theorem Wx_pow {i j : Int} : Wx (binD .pow (.int i) (.int j)) S Q E = ((0 ≤ j ∧ j ≤ 1000000 ∧ i.natAbs < 2 ^ 64) ∧ Q (.int (i ^ j.toNat)) S) := ifF rfl
theorem Wx_tbl {b : Bool} {Q : Bool → Store → Prop} : Wx (truthD (.bl b)) S Q E = Q b S := rfl
theorem Wx_tint {i : Int} {Q : Bool → Store → Prop} : Wx (truthD (.int i)) S Q E = Q (i != 0) S := rfl
theorem Wx_eqI {i j : Int} {Q : Bool → Store → Prop} : Wx (cmpD .eq (.int i) (.int j)) S Q E = Q (i == j) S := rfl
theorem Wx_eqS {x y : Str} {Q : Bool → Store → Prop} : Wx (cmpD .eq (.str x) (.str y)) S Q E = Q (x == y) S := rfl
theorem Wx_eqB {x y : Bool} {Q : Bool → Store → Prop} : Wx (cmpD .eq (.bl x) (.bl y)) S Q E = Q (x == y) S := rfl
theorem Wx_neI {i j : Int} {Q : Bool → Store → Prop} : Wx (cmpD .ne (.int i) (.int j)) S Q E = Q (!(i == j)) S := rfl
theorem Wx_ltI {i j : Int} {Q : Bool → Store → Prop} : Wx (cmpD .lt (.int i) (.int j)) S Q E = Q (decide (i < j)) S := rfl
theorem Wx_leI {i j : Int} {Q : Bool → Store → Prop} : Wx (cmpD .le (.int i) (.int j)) S Q E = Q (decide (i ≤ j)) S := rfl
theorem Wx_gtI {i j : Int} {Q : Bool → Store → Prop} : Wx (cmpD .gt (.int i) (.int j)) S Q E = Q (decide (i > j)) S := rfl
theorem Wx_geI {i j : Int} {Q : Bool → Store → Prop} : Wx (cmpD .ge (.int i) (.int j)) S Q E = Q (decide (i ≥ j)) S := rfl
def atD (ds : List D) (i : Int) : Option D := (ixD ds.length i).bind fun j => ds[j]?
theorem Wx_idxT {ds : List D} {i : Int} : Wx (idxD (.tup ds) (.int i)) S Q E = match atD ds i with | some d => Q d S | none => False := by
  show Sat (match atD ds i with | some d => .ok d S | none => .bad) Q E = _
  cases atD ds i <;> rfl
theorem Wx_idxL {k : Nat} {ds : List D} {i : Int} (h : seqOf S (.ref k) = some ds) : Wx (idxD (.ref k) (.int i)) S Q E = match atD ds i with | some d => Q d S | none => False := by
  show Sat (match seqOf S (.ref k) with | some ds => (match atD ds i with | some d => .ok d S | none => .bad) | none => .bad) Q E = _
  rw [h]
  show Sat (match atD ds i with | some d => .ok d S | none => .bad) Q E = _
  cases atD ds i <;> rfl
theorem atD_nat {ds : List D} {n : Nat} {d : D} (h : ds[n]? = some d) : atD ds (n : Int) = some d := by
  have hn : n < ds.length := (List.getElem?_eq_some_iff.mp h).1
  unfold atD ixD
  unfold L2.ixN
  rw [if_pos (Int.natCast_nonneg n), if_pos (Int.ofNat_lt.mpr hn)]
  exact h
theorem atD_0 {a : D} {r : List D} : atD (a :: r) 0 = some a := atD_nat (n := 0) rfl
theorem atD_1 {a b : D} {r : List D} : atD (a :: b :: r) 1 = some b := atD_nat (n := 1) rfl
theorem atD_2 {a b c : D} {r : List D} : atD (a :: b :: c :: r) 2 = some c := atD_nat (n := 2) rfl
/-! ### more operators -/
theorem Wx_is {a b : D} {Q : Bool → Store → Prop} {r : Bool} (h : cmpD .is_ a b S = .ok r S) : Wx (cmpD .is_ a b) S Q E = Q r S := Wx_eq h
theorem Wx_isinst {ts : List Ty} {d : D} {Q : Bool → Store → Prop} {r : Bool} (h : isinstD ts d S = .ok r S) : Wx (isinstD ts d) S Q E = Q r S := Wx_eq h
theorem Wx_abs {i : Int} : Wx (biD .abs [.int i]) S Q E = Q (.int i.natAbs) S := rfl
theorem Wx_intI {i : Int} : Wx (biD .int [.int i]) S Q E = Q (.int i) S := rfl
theorem Wx_intB {b : Bool} : Wx (biD .int [.bl b]) S Q E = Q (.int (if b then 1 else 0)) S := rfl
theorem Wx_len {d : D} {xs : List D} (h : seqOf S d = some xs) : Wx (biD .len [d]) S Q E = Q (.int xs.length) S := by
  cases d with
  | tup ds => cases h; rfl
  | ref k =>
    show Sat (match seqOf S (.ref k) with | some xs => .ok (.int xs.length) S | none => .bad) Q E = _
    rw [h]; rfl
  | _ => cases h
theorem Wx_sum {d : D} {xs : List D} {is : List Int} (h : listOf S d = some xs) (h2 : intsD xs = some is) : Wx (biD .sum [d]) S Q E = Q (.int is.sum) S := by
  show Sat (match (listOf S d).bind intsD with | some is => .ok (.int is.sum) S | none => .bad) Q E = _
  rw [h, Option.bind_some, h2]; rfl
theorem Wx_all {d : D} {xs : List D} {bs : List Bool} (h : listOf S d = some xs) (h2 : boolsD xs = some bs) : Wx (biD .all [d]) S Q E = Q (.bl (bs.all id)) S := by
  show Sat (match (listOf S d).bind boolsD with | some bs => .ok (.bl (bs.all id)) S | none => .bad) Q E = _
  rw [h, Option.bind_some, h2]; rfl
theorem Wx_any {d : D} {xs : List D} {bs : List Bool} (h : listOf S d = some xs) (h2 : boolsD xs = some bs) : Wx (biD .any [d]) S Q E = Q (.bl (bs.any id)) S := by
  show Sat (match (listOf S d).bind boolsD with | some bs => .ok (.bl (bs.any id)) S | none => .bad) Q E = _
  rw [h, Option.bind_some, h2]; rfl
theorem Wx_tuple {d : D} {xs : List D} (h : seqOf S d = some xs) : Wx (biD .tuple [d]) S Q E = Q (.tup xs) S := by
  show Sat (match seqOf S d with | some xs => .ok (.tup xs) S | none => .bad) Q E = _
  rw [h]; rfl
theorem Wx_list {d : D} {xs : List D} (h : seqOf S d = some xs) : Wx (biD .list [d]) S Q E = Q (.ref S.length) (S ++ [Ob.lst xs]) := by
  show Sat (match seqOf S d with | some xs => M.new (.lst xs) S | none => .bad) Q E = _
  rw [h]; rfl
theorem Wx_sorted {d : D} {xs ys : List D} (h : listOf S d = some xs) (h2 : sortedD xs = some ys) : Wx (biD .sorted [d]) S Q E = Q (.ref S.length) (S ++ [Ob.lst ys]) := by
  show Sat (match (listOf S d).bind sortedD with | some xs => M.new (.lst xs) S | none => .bad) Q E = _
  rw [h, Option.bind_some, h2]; rfl
theorem Wx_ref {k : Nat} {o : Ob} (h : S[k]? = some o) : Wx (refD (.ref k)) S Q E = Q (.ref k) S := by
  show Sat (match S[k]? with | some _ => .ok (.ref k) S | none => .bad) Q E = _
  rw [h]; rfl
theorem Wx_append {k : Nat} {xs : List D} {d : D} (h : S[k]? = some (.lst xs)) : Wx (meD .append (.ref k) [d]) S Q E = (xs.length < line ∧ Q .non (S.set k (.lst (xs ++ [d])))) := by
  show Sat (match S[k]? with | some (.lst xs) => if xs.length < line then .ok .non (S.set k (.lst (xs ++ [d]))) else .bad | _ => .bad) Q E = _
  rw [h]
  exact ifF rfl
theorem Wx_addL {k l : Nat} {xs ys : List D} (h : S[k]? = some (.lst xs)) (h2 : S[l]? = some (.lst ys)) : Wx (binD .add (.ref k) (.ref l)) S Q E = (xs.length + ys.length ≤ line ∧ Q (.ref S.length) (S ++ [Ob.lst (xs ++ ys)])) := by
  show Sat (match S[k]?, S[l]? with | some (.lst xs), some (.lst ys) => if xs.length + ys.length ≤ line then M.new (.lst (xs ++ ys)) S else .bad | _, _ => .bad) Q E = _
  rw [h, h2]
  exact ifF rfl
theorem Wx_cutT {ds : List D} {lo hi : Option Int} : Wx (sliceD (.tup ds) lo hi) S Q E = Q (.tup (cutD ds lo hi)) S := rfl
theorem Wx_set {k : Nat} {xs : List D} {i : Int} {j : Nat} {d : D} {Q : Unit → Store → Prop} (h : S[k]? = some (.lst xs)) (h2 : ixD xs.length i = some j) : Wx (setD (.ref k) (.int i) d) S Q E = Q () (S.set k (.lst (xs.set j d))) := by
  unfold Wx setD
  simp only [h, h2]
  rfl
theorem Wx_srcT {xs : List D} {Q : Its → Store → Prop} : Wx (srcD .seq [.tup xs]) S Q E = Q ⟨xs, []⟩ S := rfl
theorem Wx_srcL {k : Nat} {xs : List D} {Q : Its → Store → Prop} (h : seqOf S (.ref k) = some xs) : Wx (srcD .seq [.ref k]) S Q E = Q ⟨xs, [k]⟩ S := by
  show Sat (match seqOf S (.ref k) with | some xs => .ok ⟨xs, keepOf (.ref k)⟩ S | none => .bad) Q E = _
  rw [h]; rfl
theorem Wx_range {n : Int} {Q : Its → Store → Prop} : Wx (srcD .range [.int n]) S Q E = ((-(2 ^ 62) ≤ n ∧ n < 2 ^ 62) ∧ Q ⟨rangeD 0 n.toNat, []⟩ S) := by
  unfold Wx srcD
  simp only
  split
  · rename_i h; exact propext ⟨fun z => ⟨h, z⟩, fun z => z.2⟩
  · rename_i h; exact propext ⟨fun z => z.elim, fun z => absurd z.1 h⟩
theorem Wx_enum {d : D} {xs : List D} {Q : Its → Store → Prop} (h : listOf S d = some xs) : Wx (srcD .enum [d]) S Q E = Q ⟨enumD 0 xs, keepOf d⟩ S := by
  show Sat (match listOf S d with | some xs => .ok ⟨enumD 0 xs, keepOf d⟩ S | none => .bad) Q E = _
  rw [h]; rfl
end
/-! ### statements -/
section
variable {S : Store} {C : Calls} {δ : Env} {N : Env → Store → Prop} {Q : Fl × Env → Store → Prop}
theorem Ws_nil : Ws (denSs C .nil δ) S N Q = N δ S := rfl
theorem Wx_vals {α : Type} {m : M α} {f : α → M (Fl × Env)} : Ws (valsS m δ f) S N Q = Wx m S (fun a S1 => Ws (f a) S1 N Q) (fun c v S1 => Q (.exc c v, δ) S1) := by
  unfold Ws Wx valsS
  cases m S <;> rfl
theorem Ws_cons {s : IS} {r : ISs} : Ws (denSs C (.cons s r) δ) S N Q = Ws (denS C s δ) S (fun δ1 S1 => Ws (denSs C r δ1) S1 N Q) Q := by
  show Ws (thenS (denS C s δ) (denSs C r)) S N Q = _
  unfold Ws Wx thenS
  cases denS C s δ S with
  | ok p S1 =>
    obtain ⟨fl, δ1⟩ := p
    cases fl <;> rfl
  | exc c v S1 => rfl
  | bad => rfl
theorem Ws_asg {t : Tg} {e : IE} : Ws (denS C (.asg t e) δ) S N Q = Wx (denE C e δ) S (fun d S1 => match asgD t d δ with | some δ1 => N δ1 S1 | none => False) (fun c v S1 => Q (.exc c v, δ) S1) := by
  show Ws (valsS _ δ fun d => _) S N Q = _
  rw [Wx_vals]
  congr 1
  funext d S1
  cases asgD t d δ <;> rfl
theorem Ws_par {ts : List Nat} {es : IEs} : Ws (denS C (.par ts es) δ) S N Q = Wx (denEs C es δ) S (fun ds S1 => match setAll ts ds δ with | some δ1 => N δ1 S1 | none => False) (fun c v S1 => Q (.exc c v, δ) S1) := by
  show Ws (valsS _ δ fun d => _) S N Q = _
  rw [Wx_vals]
  congr 1
  funext d S1
  cases setAll ts d δ <;> rfl
theorem Ws_setix {o i e : IE} : Ws (denS C (.setix o i e) δ) S N Q = Wx (denE C e δ) S (fun d S1 => Wx (denE C o δ) S1 (fun x S2 => Wx (denE C i δ) S2 (fun y S3 => Wx (setD x y d) S3 (fun _ S4 => N δ S4) (fun c v S1 => Q (.exc c v, δ) S1)) (fun c v S1 => Q (.exc c v, δ) S1)) (fun c v S1 => Q (.exc c v, δ) S1)) (fun c v S1 => Q (.exc c v, δ) S1) := by
  show Ws (valsS (M.bind _ fun d => M.bind _ fun x => M.bind _ fun y => setD x y d) δ fun _ => nextD δ) S N Q = _
  simp only [Wx_vals, Wx_bind]
  rfl
theorem Ws_aug {i : Nat} {o : BOp} {e : IE} : Ws (denS C (.aug i o e) δ) S N Q = Wx (denE C (.var i) δ) S (fun x S1 => Wx (denE C e δ) S1 (fun y S2 => Wx (augD o x y) S2 (fun d S3 => N (δ.set i (some d)) S3) (fun c v S1 => Q (.exc c v, δ) S1)) (fun c v S1 => Q (.exc c v, δ) S1)) (fun c v S1 => Q (.exc c v, δ) S1) := by
  show Ws (valsS (M.bind _ fun x => M.bind _ fun y => augD o x y) δ fun d => nextD (δ.set i (some d))) S N Q = _
  simp only [Wx_vals, Wx_bind]
  rfl
theorem Ws_augix {a i : IE} {o : BOp} {e : IE} : Ws (denS C (.augix a i o e) δ) S N Q = Wx (M.bind (denE C a δ) fun x0 => M.bind (refD x0) fun x => M.bind (denE C i δ) fun y => M.bind (idxD x y) fun old => M.bind (denE C e δ) fun z => M.bind (augD o old z) fun d => setD x y d) S (fun _ S4 => N δ S4) (fun c v S1 => Q (.exc c v, δ) S1) := by
  show Ws (valsS _ δ fun _ => nextD δ) S N Q = _
  simp only [Wx_vals]
  rfl
theorem Ws_expr {e : IE} : Ws (denS C (.expr e) δ) S N Q = Wx (denE C e δ) S (fun _ S1 => N δ S1) (fun c v S1 => Q (.exc c v, δ) S1) := by
  show Ws (valsS _ δ fun d => _) S N Q = _
  rw [Wx_vals]
  rfl
theorem Ws_ret {e : IE} : Ws (denS C (.ret e) δ) S N Q = Wx (denE C e δ) S (fun d S1 => Q (.ret d, δ) S1) (fun c v S1 => Q (.exc c v, δ) S1) := by
  show Ws (valsS _ δ fun d => _) S N Q = _
  rw [Wx_vals]
  rfl
theorem Ws_retn : Ws (denS C .retn δ) S N Q = Q (.ret .non, δ) S := rfl
theorem Ws_pass : Ws (denS C .pass δ) S N Q = N δ S := rfl
theorem Ws_cond {b : Bool} {x y : M (Fl × Env)} : Ws (condD b x y) S N Q = if b = true then Ws x S N Q else Ws y S N Q := by
  cases b <;> rfl
theorem Ws_ite {c : IE} {a b : ISs} : Ws (denS C (.ite c a b) δ) S N Q = Wx (denE C c δ) S (fun d S1 => Wx (truthD d) S1 (fun k S2 => if k = true then Ws (denSs C a δ) S2 N Q else Ws (denSs C b δ) S2 N Q) (fun c v S1 => Q (.exc c v, δ) S1)) (fun c v S1 => Q (.exc c v, δ) S1) := by
  show Ws (valsS (M.bind _ fun d => truthD d) δ fun k => condD k _ _) S N Q = _
  simp only [Wx_vals, Wx_bind, Ws_cond]
theorem Ws_for {t : Tg} {k : Src} {src : IEs} {body : ISs} : Ws (denS C (.for_ t k src body) δ) S N Q = Wx (denEs C src δ) S (fun ss S1 => Wx (srcD k ss) S1 (fun its S2 => Ws (forD S2 its.keep t (denSs C body) its.items δ) S2 N Q) (fun c v S1 => Q (.exc c v, δ) S1)) (fun c v S1 => Q (.exc c v, δ) S1) := by
  show Ws (valsS (M.bind _ fun ss => M.bind _ fun its => M.bind M.get fun S0 => M.ret (its, S0)) δ fun p => _) S N Q = _
  simp only [Wx_vals, Wx_bind, Wx_get, Wx_ret]
theorem Wx_end {m : M (Fl × Env)} {Q : D → Store → Prop} {E : Ex} : Wx (endD m) S Q E = Ws m S (fun _ S' => Q .non S') (fun p S' => match p.1 with | .ret d => Q d S' | .exc c v => E c v S' | _ => False) := by
  unfold Ws Wx endD
  cases m S with
  | ok p S1 =>
    obtain ⟨fl, δ1⟩ := p
    cases fl <;> rfl
  | exc c v S1 => rfl
  | bad => rfl
/-! ### loops -/
/-- a for loop by its invariant: I says what holds ahead of the rest of the items -/
theorem Ws_forD {S0 : Store} {ks : List Nat} {t : Tg} {fb : Env → M (Fl × Env)} (I : List D → Env → Store → Prop)
    (hs : ∀ d ds δ S, I (d :: ds) δ S → kept S0 S ks ∧ ∃ δ1, asgD t d δ = some δ1 ∧ Wx (fb δ1) S (fun p S' => match p.1 with | .next => I ds p.2 S' | .cont => I ds p.2 S' | .brk => N p.2 S' | _ => Q p S') NoEx)
    (hd : ∀ δ S, I [] δ S → kept S0 S ks ∧ N δ S) : ∀ {items : List D} {δ : Env} {S : Store}, I items δ S → Ws (forD S0 ks t fb items δ) S N Q
  | [], δ, S, h => by
    obtain ⟨k, n⟩ := hd δ S h
    show Sat (stayD S0 ks (nextD δ) S) _ _
    unfold stayD
    rw [if_pos k]
    exact n
  | d :: ds, δ, S, h => by
    obtain ⟨k, δ1, e, w⟩ := hs d ds δ S h
    show Sat (stayD S0 ks (match asgD t d δ with | some δ1 => turnS (fb δ1) (forD S0 ks t fb ds) | none => M.bad) S) _ _
    unfold stayD
    rw [if_pos k]
    simp only [e]
    show Sat (turnS (fb δ1) (forD S0 ks t fb ds) S) _ _
    unfold Wx at w
    unfold turnS
    cases eb : fb δ1 S with
    | ok p S1 =>
      rw [eb] at w
      obtain ⟨fl, δ2⟩ := p
      cases fl with
      | next => exact Ws_forD I hs hd (show I ds δ2 S1 from w)
      | cont => exact Ws_forD I hs hd (show I ds δ2 S1 from w)
      | brk => exact w
      | ret d => exact w
      | exc c v => exact w
    | exc c v S1 => rw [eb] at w; exact w.elim
    | bad => rw [eb] at w; exact w.elim
/-- the items one by one -/
theorem Wx_eachD {α : Type} {S0 : Store} {ks : List Nat} {f : D → M (List α)} {Q : List α → Store → Prop} (I : List D → List α → Store → Prop)
    (hs : ∀ d ds acc S, I (d :: ds) acc S → kept S0 S ks ∧ Wx (f d) S (fun xs S' => I ds (acc ++ xs) S') NoEx)
    (hd : ∀ acc S, I [] acc S → kept S0 S ks ∧ Q acc S) : ∀ {items : List D} {acc : List α} {S : Store}, I items acc S → Wx (eachD S0 ks f items) S (fun xs S' => Q (acc ++ xs) S') NoEx
  | [], acc, S, h => by
    obtain ⟨k, n⟩ := hd acc S h
    show Sat (stayD S0 ks (M.ret []) S) _ _
    unfold stayD
    rw [if_pos k]
    show Q (acc ++ []) S
    rw [List.append_nil]
    exact n
  | d :: ds, acc, S, h => by
    obtain ⟨k, w⟩ := hs d ds acc S h
    show Sat (stayD S0 ks (M.bind (f d) fun xs => M.bind (eachD S0 ks f ds) fun ys => M.ret (xs ++ ys)) S) _ _
    unfold stayD
    rw [if_pos k]
    show Wx (M.bind (f d) fun xs => M.bind (eachD S0 ks f ds) fun ys => M.ret (xs ++ ys)) S _ _
    rw [Wx_bind]
    refine w.mono (fun xs S' h' => ?_) fun _ _ _ z => z
    rw [Wx_bind]
    refine (Wx_eachD I hs hd h').mono (fun ys S2 q => ?_) fun _ _ _ z => z
    rw [Wx_ret, ← List.append_assoc]
    exact q
theorem Wx_each_nil {α : Type} {S0 : Store} {ks : List Nat} {f : D → M (List α)} {Q : List α → Store → Prop} {E : Ex} : Wx (eachD S0 ks f []) S Q E = (kept S0 S ks ∧ Q [] S) := by
  show Sat (stayD S0 ks (M.ret []) S) Q E = _
  unfold stayD
  by_cases h : kept S0 S ks
  · rw [if_pos h]; exact propext ⟨fun z => ⟨h, z⟩, fun z => z.2⟩
  · rw [if_neg h]; exact propext ⟨fun z => z.elim, fun z => absurd z.1 h⟩
theorem Wx_each_cons {α : Type} {S0 : Store} {ks : List Nat} {f : D → M (List α)} {d : D} {ds : List D} {Q : List α → Store → Prop} {E : Ex} : Wx (eachD S0 ks f (d :: ds)) S Q E = (kept S0 S ks ∧ Wx (f d) S (fun xs S1 => Wx (eachD S0 ks f ds) S1 (fun ys S2 => Q (xs ++ ys) S2) E) E) := by
  show Sat (stayD S0 ks (M.bind (f d) fun xs => M.bind (eachD S0 ks f ds) fun ys => M.ret (xs ++ ys)) S) Q E = _
  unfold stayD
  by_cases h : kept S0 S ks
  · rw [if_pos h]
    show Wx (M.bind (f d) fun xs => M.bind (eachD S0 ks f ds) fun ys => M.ret (xs ++ ys)) S Q E = _
    simp only [Wx_bind, Wx_ret]
    exact propext ⟨fun z => ⟨h, z⟩, fun z => z.2⟩
  · rw [if_neg h]; exact propext ⟨fun z => z.elim, fun z => absurd z.1 h⟩
theorem Wx_turn {t : Tg} {vs : List Nat} {fc : Env → M Bool} {fe : Env → M D} {d : D} {Q : List D → Store → Prop} {E : Ex} : Wx (turnC t vs δ fc fe d) S Q E = match asgD t d (wipeD δ vs) with | some δ1 => Wx (fc δ1) S (fun k S1 => if k = true then Wx (fe δ1) S1 (fun y S2 => Q [y] S2) E else Q [] S1) E | none => False := by
  unfold turnC
  rw [Wx_bind]
  show Sat (M.opt (asgD t d (wipeD δ vs)) S) _ _ = _
  cases asgD t d (wipeD δ vs) with
  | none => rfl
  | some δ1 =>
    show Wx (M.bind _ _) S Q E = _
    simp only [Wx_bind, Wx_cond, Wx_ret]
theorem Ws_for_nil {S0 : Store} {ks : List Nat} {t : Tg} {fb : Env → M (Fl × Env)} : Ws (forD S0 ks t fb [] δ) S N Q = (kept S0 S ks ∧ N δ S) := by
  show Sat (stayD S0 ks (nextD δ) S) _ _ = _
  unfold stayD
  by_cases h : kept S0 S ks
  · rw [if_pos h]; exact propext ⟨fun z => ⟨h, z⟩, fun z => z.2⟩
  · rw [if_neg h]; exact propext ⟨fun z => z.elim, fun z => absurd z.1 h⟩
theorem Ws_for_cons {S0 : Store} {ks : List Nat} {t : Tg} {fb : Env → M (Fl × Env)} {d : D} {ds : List D} : Ws (forD S0 ks t fb (d :: ds) δ) S N Q = (kept S0 S ks ∧ match asgD t d δ with | some δ1 => Ws (fb δ1) S (fun δ2 S1 => Ws (forD S0 ks t fb ds δ2) S1 N Q) (fun p S1 => match p.1 with | .cont => Ws (forD S0 ks t fb ds p.2) S1 N Q | .brk => N p.2 S1 | _ => Q p S1) | none => False) := by
  show Sat (stayD S0 ks (match asgD t d δ with | some δ1 => turnS (fb δ1) (forD S0 ks t fb ds) | none => M.bad) S) _ _ = _
  unfold stayD
  by_cases h : kept S0 S ks
  · rw [if_pos h]
    cases asgD t d δ with
    | none => exact propext ⟨fun z => z.elim, fun z => z.2.elim⟩
    | some δ1 =>
      refine Eq.trans ?_ (propext ⟨fun z => ⟨h, z⟩, fun z => z.2⟩)
      show Sat (turnS (fb δ1) (forD S0 ks t fb ds) S) _ _ = Sat (fb δ1 S) _ _
      unfold turnS
      cases fb δ1 S with
      | ok p S1 =>
        obtain ⟨fl, δ2⟩ := p
        cases fl <;> rfl
      | exc c v S1 => rfl
      | bad => rfl
  · rw [if_neg h]; exact propext ⟨fun z => z.elim, fun z => absurd z.1 h⟩
theorem whileN_more {c : Env → M Bool} {fb : Env → M (Fl × Env)} : ∀ {n : Nat} {δ : Env} {S : Store} {r : R (Fl × Env)}, whileN c fb n δ S = some r → whileN c fb (n + 1) δ S = some r
  | 0, _, _, _, h => by cases h
  | n + 1, δ, S, r, h => by
    unfold whileN at h ⊢
    cases ec : c δ S with
    | bad => simp only [ec] at h ⊢; exact h
    | exc a b d => simp only [ec] at h ⊢; exact h
    | ok b S1 =>
      cases b with
      | false => simp only [ec] at h ⊢; exact h
      | true =>
        simp only [ec] at h ⊢
        cases eb : fb δ S1 with
        | bad => simp only [eb] at h ⊢; exact h
        | exc a b d => simp only [eb] at h ⊢; exact h
        | ok p S2 =>
          obtain ⟨fl, δ1⟩ := p
          cases fl with
          | next => simp only [eb] at h ⊢; exact whileN_more h
          | cont => simp only [eb] at h ⊢; exact whileN_more h
          | brk => simp only [eb] at h ⊢; exact h
          | ret d => simp only [eb] at h ⊢; exact h
          | exc c v => simp only [eb] at h ⊢; exact h
theorem whileN_le {c : Env → M Bool} {fb : Env → M (Fl × Env)} {n m : Nat} {δ : Env} {S : Store} {r : R (Fl × Env)} (h : whileN c fb n δ S = some r) (hm : n ≤ m) : whileN c fb m δ S = some r := by
  induction hm with
  | refl => exact h
  | step _ ih => exact whileN_more ih
theorem whileD_eq {c : Env → M Bool} {fb : Env → M (Fl × Env)} {n : Nat} {δ : Env} {S : Store} {r : R (Fl × Env)} (h : whileN c fb n δ S = some r) : whileD c fb δ S = r := by
  have hx : ∃ n r, whileN c fb n δ S = some r := ⟨n, r, h⟩
  unfold whileD
  rw [dif_pos hx]
  have h2 := hx.choose_spec.choose_spec
  have a := whileN_le h (Nat.le_max_left n hx.choose)
  have b := whileN_le h2 (Nat.le_max_right n hx.choose)
  rw [a] at b
  exact (Option.some.inj b).symm
/-- a while loop by its invariant and measure -/
theorem Ws_while {e : IE} {body : ISs} (I : Env → Store → Prop) (μ : Env → Store → Nat)
    (hs : ∀ δ S, I δ S → Wx (denE C e δ) S (fun d S1 => Wx (truthD d) S1 (fun b S2 => if b = true then Wx (denSs C body δ) S2 (fun p S3 => match p.1 with | .next => I p.2 S3 ∧ μ p.2 S3 < μ δ S | .cont => I p.2 S3 ∧ μ p.2 S3 < μ δ S | .brk => N p.2 S3 | _ => Q p S3) NoEx else N δ S2) (fun c v S1 => Q (.exc c v, δ) S1)) (fun c v S1 => Q (.exc c v, δ) S1)) :
    ∀ {δ : Env} {S : Store}, I δ S → Ws (denS C (.while_ e body) δ) S N Q := by
  have key : ∀ (m : Nat) (δ : Env) (S : Store), I δ S → μ δ S < m → ∃ r, whileN (fun δ => M.bind (denE C e δ) truthD) (denSs C body) m δ S = some r ∧ Sat r (fun p S' => match p.1 with | .next => N p.2 S' | _ => Q p S') NoEx := by
    intro m
    induction m with
    | zero => intro δ S _ h; omega
    | succ m ih =>
      intro δ S h hm
      have w := hs δ S h
      have w2 : Wx (M.bind (denE C e δ) truthD) S (fun b S2 => if b = true then Wx (denSs C body δ) S2 (fun p S3 => match p.1 with | .next => I p.2 S3 ∧ μ p.2 S3 < μ δ S | .cont => I p.2 S3 ∧ μ p.2 S3 < μ δ S | .brk => N p.2 S3 | _ => Q p S3) NoEx else N δ S2) (fun c v S1 => Q (.exc c v, δ) S1) := by
        rw [Wx_bind]
        exact w
      unfold whileN
      unfold Wx at w2
      cases ec : M.bind (denE C e δ) truthD S with
      | bad => rw [ec] at w2; exact w2.elim
      | exc c v S1 => rw [ec] at w2; exact ⟨_, rfl, w2⟩
      | ok b S1 =>
        rw [ec] at w2
        cases b with
        | false => exact ⟨_, rfl, by simpa [Sat] using w2⟩
        | true =>
          have w3 : Sat (denSs C body δ S1) (fun p S3 => match p.1 with | .next => I p.2 S3 ∧ μ p.2 S3 < μ δ S | .cont => I p.2 S3 ∧ μ p.2 S3 < μ δ S | .brk => N p.2 S3 | _ => Q p S3) NoEx := by simpa [Sat, Wx] using w2
          simp only
          cases eb : denSs C body δ S1 with
          | bad => rw [eb] at w3; exact w3.elim
          | exc a b d => rw [eb] at w3; exact w3.elim
          | ok p S2 =>
            rw [eb] at w3
            obtain ⟨fl, δ1⟩ := p
            cases fl with
            | next =>
              obtain ⟨h1, h2⟩ := (show I δ1 S2 ∧ μ δ1 S2 < μ δ S from w3)
              exact ih δ1 S2 h1 (by omega)
            | cont =>
              obtain ⟨h1, h2⟩ := (show I δ1 S2 ∧ μ δ1 S2 < μ δ S from w3)
              exact ih δ1 S2 h1 (by omega)
            | brk => exact ⟨_, rfl, w3⟩
            | ret d => exact ⟨_, rfl, w3⟩
            | exc c v => exact ⟨_, rfl, w3⟩
  intro δ S h
  obtain ⟨r, e1, e2⟩ := key (μ δ S + 1) δ S h (Nat.lt_succ_self _)
  show Sat (whileD (fun δ => M.bind (denE C e δ) truthD) (denSs C body) δ S) _ _
  rw [whileD_eq e1]
  exact e2
/-- a block whose flow alone is asked -/
theorem Wx_block {m : M (Fl × Env)} {P : Fl × Env → Store → Prop} (h : Ws m S (fun δ S' => P (.next, δ) S') P) : Wx m S P NoEx := by
  unfold Ws Wx at h
  unfold Wx
  cases e : m S with
  | ok p S1 =>
    rw [e] at h
    obtain ⟨fl, δ1⟩ := p
    cases fl <;> exact h
  | exc c v S1 => rw [e] at h; exact h.elim
  | bad => rw [e] at h; exact h.elim
end
end Ev

set_option Elab.async false
set_option linter.all false
set_option maxRecDepth 100000
set_option maxHeartbeats 0
namespace K03
open Ev
def b_divisor_of : ISs := (.cons (.while_ (.cmp .ne (.var 1) (.con (.int 0))) (.cons (.par [0, 1] (.cons (.var 1) (.cons (.bin .mod (.var 0) (.var 1)) .nil)))
    .nil))
    (.cons (.ret (.bi .abs (.cons (.var 0) .nil)))
    .nil))
def f_divisor_of : Fn := ⟨"divisor_of", ["one", "other"], ["one", "other"], [], b_divisor_of⟩
def b_lowest : ISs := (.cons (.asg (.name 2) (.call 0 (.cons (.var 0) (.cons (.var 1) .nil))))
    (.cons (.ite (.cmp .lt (.var 1) (.con (.int 0))) (.cons (.asg (.name 2) (.neg (.var 2)))
    .nil) .nil)
    (.cons (.ret (.tup (.cons (.bin .fdiv (.var 0) (.var 2)) (.cons (.bin .fdiv (.var 1) (.var 2)) .nil))))
    .nil)))
def f_lowest : Fn := ⟨"lowest", ["top", "bottom"], ["top", "bottom", "least"], [], b_lowest⟩
def b_times : ISs := (.cons (.ret (.call 1 (.cons (.bin .mul (.idx (.var 0) (.con (.int 0))) (.idx (.var 1) (.con (.int 0)))) (.cons (.bin .mul (.idx (.var 0) (.con (.int 1))) (.idx (.var 1) (.con (.int 1)))) .nil))))
    .nil)
def f_times : Fn := ⟨"times", ["one", "other"], ["one", "other"], [], b_times⟩
def b_compared : ISs := (.cons (.asg (.name 2) (.bin .sub (.bin .mul (.idx (.var 0) (.con (.int 0))) (.idx (.var 1) (.con (.int 1)))) (.bin .mul (.idx (.var 1) (.con (.int 0))) (.idx (.var 0) (.con (.int 1))))))
    (.cons (.ite (.cmp .eq (.var 2) (.con (.int 0))) (.cons (.ret (.con (.int 0)))
    .nil) .nil)
    (.cons (.ret (.ite (.cmp .gt (.var 2) (.con (.int 0))) (.con (.int 1)) (.neg (.con (.int 1)))))
    .nil)))
def f_compared : Fn := ⟨"compared", ["one", "other"], ["one", "other", "gap"], [], b_compared⟩
def b_size_of : ISs := (.cons (.ret (.tup (.cons (.bi .abs (.cons (.idx (.var 0) (.con (.int 0))) .nil)) (.cons (.idx (.var 0) (.con (.int 1))) .nil))))
    .nil)
def f_size_of : Fn := ⟨"size_of", ["one"], ["one"], [], b_size_of⟩
def b_greatest_of : ISs := (.cons (.asg (.name 1) (.idx (.var 0) (.con (.int 0))))
    (.cons (.for_ (.name 2) .seq (.cons (.var 0) .nil) (.cons (.ite (.cmp .gt (.call 3 (.cons (.var 2) (.cons (.var 1) .nil))) (.con (.int 0))) (.cons (.asg (.name 1) (.var 2))
    .nil) .nil)
    .nil))
    (.cons (.ret (.var 1))
    .nil)))
def f_greatest_of : Fn := ⟨"greatest_of", ["row"], ["row", "found", "one"], [], b_greatest_of⟩
def b_least_of : ISs := (.cons (.asg (.name 1) (.idx (.var 0) (.con (.int 0))))
    (.cons (.for_ (.name 2) .seq (.cons (.var 0) .nil) (.cons (.ite (.cmp .lt (.call 3 (.cons (.var 2) (.cons (.var 1) .nil))) (.con (.int 0))) (.cons (.asg (.name 1) (.var 2))
    .nil) .nil)
    .nil))
    (.cons (.ret (.var 1))
    .nil)))
def f_least_of : Fn := ⟨"least_of", ["row"], ["row", "found", "one"], [], b_least_of⟩
def b_sum_of : ISs := (.cons (.asg (.tup [1, 2]) (.tup (.cons (.con (.int 0)) (.cons (.con (.int 1)) .nil))))
    (.cons (.for_ (.name 3) .seq (.cons (.var 0) .nil) (.cons (.ite (.cmp .eq (.idx (.var 3) (.con (.int 1))) (.var 2)) (.cons (.aug 1 .add (.idx (.var 3) (.con (.int 0))))
    .nil) (.cons (.asg (.tup [1, 2]) (.call 1 (.cons (.bin .add (.bin .mul (.var 1) (.idx (.var 3) (.con (.int 1)))) (.bin .mul (.idx (.var 3) (.con (.int 0))) (.var 2))) (.cons (.bin .mul (.var 2) (.idx (.var 3) (.con (.int 1)))) .nil))))
    .nil))
    .nil))
    (.cons (.ret (.call 1 (.cons (.var 1) (.cons (.var 2) .nil))))
    .nil)))
def f_sum_of : Fn := ⟨"sum_of", ["row"], ["row", "top", "bottom", "one"], [], b_sum_of⟩
def b_inner_of : ISs := (.cons (.ite (.cmp .eq (.idx (.var 0) (.con (.int 0))) (.glob "SUM" (.str "sum"))) (.cons (.ret (.comp [("weight", 1), ("part", 2)] (.tup [1, 2]) .seq (.cons (.idx (.var 0) (.con (.int 1))) .nil) (.some (.isinst (.var 2) [.tuple])) (.var 2)))
    .nil) .nil)
    (.cons (.ret (.ite (.cmp .in_ (.idx (.var 0) (.con (.int 0))) (.tup (.cons (.glob "GREATEST" (.str "greatest")) (.cons (.glob "LEAST" (.str "least")) .nil)))) (.bi .list (.cons (.idx (.var 0) (.con (.int 1))) .nil)) (.lst (.cons (.idx (.var 0) (.con (.int 1))) .nil))))
    .nil))
def f_inner_of : Fn := ⟨"inner_of", ["formula"], ["formula", "weight", "part"], [], b_inner_of⟩
def b_counts : ISs := (.cons (.par [1, 2] (.cons (.bi .int (.cons (.cmp .eq (.idx (.var 0) (.con (.int 0))) (.glob "SUM" (.str "sum"))) .nil)) (.cons (.bi .int (.cons (.cmp .eq (.idx (.var 0) (.con (.int 0))) (.glob "HELD" (.str "held"))) .nil)) .nil)))
    (.cons (.for_ (.name 3) .seq (.cons (.call 8 (.cons (.var 0) .nil)) .nil) (.cons (.asg (.name 4) (.call 9 (.cons (.var 3) .nil)))
    (.cons (.par [1, 2] (.cons (.bin .add (.var 1) (.idx (.var 4) (.con (.int 0)))) (.cons (.bin .add (.var 2) (.idx (.var 4) (.con (.int 1)))) .nil)))
    .nil)))
    (.cons (.ret (.tup (.cons (.var 1) (.cons (.var 2) .nil))))
    .nil)))
def f_counts : Fn := ⟨"counts", ["formula"], ["formula", "sums", "helds", "inner", "more"], [], b_counts⟩
def b_node_count : ISs := (.cons (.ret (.bin .add (.con (.int 1)) (.bi .sum (.cons (.comp [("inner", 1)] (.name 1) .seq (.cons (.call 8 (.cons (.var 0) .nil)) .nil) .none (.call 10 (.cons (.var 1) .nil))) .nil))))
    .nil)
def f_node_count : Fn := ⟨"node_count", ["formula"], ["formula", "inner"], [], b_node_count⟩
def b_choice_count : ISs := (.cons (.asg (.name 1) (.comp [("inner", 2)] (.name 2) .seq (.cons (.call 8 (.cons (.var 0) .nil)) .nil) .none (.call 11 (.cons (.var 2) .nil))))
    (.cons (.ite (.cmp .eq (.idx (.var 0) (.con (.int 0))) (.glob "SUM" (.str "sum"))) (.cons (.asg (.name 3) (.con (.int 1)))
    (.cons (.for_ (.name 4) .seq (.cons (.var 1) .nil) (.cons (.asg (.name 3) (.bin .mul (.var 3) (.var 4)))
    .nil))
    (.cons (.ret (.var 3))
    .nil))) .nil)
    (.cons (.ret (.bin .add (.bin .mul (.bi .sum (.cons (.var 1) .nil)) (.ite (.cmp .eq (.idx (.var 0) (.con (.int 0))) (.glob "SIZE" (.str "size"))) (.con (.int 2)) (.con (.int 1)))) (.ite (.cmp .eq (.idx (.var 0) (.con (.int 0))) (.glob "HELD" (.str "held"))) (.con (.int 2)) (.con (.int 0)))))
    .nil)))
def f_choice_count : Fn := ⟨"choice_count", ["formula"], ["formula", "numbers", "inner", "found", "number"], [], b_choice_count⟩
def b_held_within : ISs := (.cons (.ite (.cmp .lt (.call 3 (.cons (.var 0) (.cons (.var 1) .nil))) (.con (.int 0))) (.cons (.ret (.var 1))
    .nil) .nil)
    (.cons (.ret (.ite (.cmp .gt (.call 3 (.cons (.var 0) (.cons (.var 2) .nil))) (.con (.int 0))) (.var 2) (.var 0)))
    .nil))
def f_held_within : Fn := ⟨"held_within", ["number", "low", "high"], ["number", "low", "high"], [], b_held_within⟩
def b_node_value : ISs := (.cons (.ite (.cmp .eq (.idx (.var 0) (.con (.int 0))) (.glob "SUM" (.str "sum"))) (.cons (.asg (.name 5) (.lst (.cons (.idx (.var 2) (.idx (.var 4) (.con (.int 0)))) .nil)))
    (.cons (.augix (.var 4) (.con (.int 0)) .add (.con (.int 1)))
    (.cons (.for_ (.tup [6, 7]) .seq (.cons (.idx (.var 0) (.con (.int 1))) .nil) (.cons (.asg (.name 8) (.ite (.isinst (.var 7) [.tuple]) (.call 13 (.cons (.var 7) (.cons (.var 1) (.cons (.var 2) (.cons (.var 3) (.cons (.var 4) .nil)))))) (.idx (.var 1) (.var 7))))
    (.cons (.expr (.meth .append (.var 5) (.cons (.call 2 (.cons (.var 6) (.cons (.var 8) .nil))) .nil)))
    .nil)))
    (.cons (.ret (.call 7 (.cons (.var 5) .nil)))
    .nil)))) .nil)
    (.cons (.ite (.cmp .eq (.idx (.var 0) (.con (.int 0))) (.glob "HELD" (.str "held"))) (.cons (.asg (.tup [9, 10]) (.idx (.var 3) (.idx (.var 4) (.con (.int 1)))))
    (.cons (.augix (.var 4) (.con (.int 1)) .add (.con (.int 1)))
    (.cons (.ret (.call 12 (.cons (.call 13 (.cons (.idx (.var 0) (.con (.int 1))) (.cons (.var 1) (.cons (.var 2) (.cons (.var 3) (.cons (.var 4) .nil)))))) (.cons (.var 9) (.cons (.var 10) .nil)))))
    .nil))) .nil)
    (.cons (.ite (.cmp .eq (.idx (.var 0) (.con (.int 0))) (.glob "SIZE" (.str "size"))) (.cons (.ret (.call 4 (.cons (.call 13 (.cons (.idx (.var 0) (.con (.int 1))) (.cons (.var 1) (.cons (.var 2) (.cons (.var 3) (.cons (.var 4) .nil)))))) .nil)))
    .nil) .nil)
    (.cons (.asg (.name 11) (.comp [("one", 12)] (.name 12) .seq (.cons (.idx (.var 0) (.con (.int 1))) .nil) .none (.call 13 (.cons (.var 12) (.cons (.var 1) (.cons (.var 2) (.cons (.var 3) (.cons (.var 4) .nil))))))))
    (.cons (.ret (.ite (.cmp .eq (.idx (.var 0) (.con (.int 0))) (.glob "GREATEST" (.str "greatest"))) (.call 5 (.cons (.var 11) .nil)) (.call 6 (.cons (.var 11) .nil))))
    .nil)))))
def f_node_value : Fn := ⟨"node_value", ["formula", "inputs", "constants", "bounds", "at"], ["formula", "inputs", "constants", "bounds", "at", "found", "weight", "part", "number", "low", "high", "numbers", "one"], [], b_node_value⟩
def b_formula_value : ISs := (.cons (.ret (.call 13 (.cons (.var 0) (.cons (.var 1) (.cons (.var 2) (.cons (.var 3) (.cons (.lst (.cons (.con (.int 0)) (.cons (.con (.int 0)) .nil))) .nil)))))))
    .nil)
def f_formula_value : Fn := ⟨"formula_value", ["formula", "inputs", "constants", "bounds"], ["formula", "inputs", "constants", "bounds"], [], b_formula_value⟩
def b_joined_choices : ISs := (.cons (.asg (.name 1) (.lst (.cons (.tup .nil) .nil)))
    (.cons (.for_ (.name 2) .seq (.cons (.var 0) .nil) (.cons (.asg (.name 1) (.comp2 [("one", 3), ("other", 4)] (.name 3) .seq (.cons (.var 1) .nil) .none [4] (.name 4) .seq (.cons (.var 2) .nil) .none (.bin .add (.var 3) (.var 4))))
    .nil))
    (.cons (.ret (.var 1))
    .nil)))
def f_joined_choices : Fn := ⟨"joined_choices", ["rows"], ["rows", "found", "row", "one", "other"], [], b_joined_choices⟩
def b_side_of : ISs := (.cons (.par [3, 4] (.cons (.call 3 (.cons (.var 0) (.cons (.var 1) .nil))) (.cons (.call 3 (.cons (.var 0) (.cons (.var 2) .nil))) .nil)))
    (.cons (.asg (.name 5) (.ite (.and (.cmp .ge (.var 3) (.con (.int 0))) (.cmp .le (.var 4) (.con (.int 0)))) (.lst (.cons (.con (.int 0)) .nil)) (.lst .nil)))
    (.cons (.ret (.bin .add (.bin .add (.var 5) (.ite (.cmp .le (.var 3) (.con (.int 0))) (.lst (.cons (.con (.int 1)) .nil)) (.lst .nil))) (.ite (.cmp .ge (.var 4) (.con (.int 0))) (.lst (.cons (.con (.int 2)) .nil)) (.lst .nil))))
    .nil)))
def f_side_of : Fn := ⟨"side_of", ["number", "low", "high"], ["number", "low", "high", "below", "above", "found"], [], b_side_of⟩
def b_ruling_sum : ISs := (.cons (.par [5, 6] (.cons (.lst (.cons (.idx (.var 2) (.idx (.var 4) (.con (.int 0)))) .nil)) (.cons (.lst .nil) .nil)))
    (.cons (.augix (.var 4) (.con (.int 0)) .add (.con (.int 1)))
    (.cons (.for_ (.tup [7, 8]) .seq (.cons (.idx (.var 0) (.con (.int 1))) .nil) (.cons (.asg (.name 9) (.ite (.not (.isinst (.var 8) [.tuple])) (.idx (.var 1) (.var 8)) (.con .non)))
    (.cons (.ite (.cmp .is_ (.var 9) (.con .non)) (.cons (.asg (.tup [9, 10]) (.call 18 (.cons (.var 8) (.cons (.var 1) (.cons (.var 2) (.cons (.var 3) (.cons (.var 4) .nil)))))))
    (.cons (.expr (.meth .append (.var 6) (.cons (.var 10) .nil)))
    .nil)) .nil)
    (.cons (.expr (.meth .append (.var 5) (.cons (.call 2 (.cons (.var 7) (.cons (.var 9) .nil))) .nil)))
    .nil))))
    (.cons (.ret (.tup (.cons (.call 7 (.cons (.var 5) .nil)) (.cons (.call 15 (.cons (.var 6) .nil)) .nil))))
    .nil))))
def f_ruling_sum : Fn := ⟨"ruling_sum", ["formula", "inputs", "constants", "bounds", "at"], ["formula", "inputs", "constants", "bounds", "at", "found", "rows", "weight", "part", "number", "row"], [], b_ruling_sum⟩
def b_ruling_node : ISs := (.cons (.ite (.cmp .eq (.idx (.var 0) (.con (.int 0))) (.glob "SUM" (.str "sum"))) (.cons (.ret (.call 17 (.cons (.var 0) (.cons (.var 1) (.cons (.var 2) (.cons (.var 3) (.cons (.var 4) .nil)))))))
    .nil) .nil)
    (.cons (.ite (.cmp .eq (.idx (.var 0) (.con (.int 0))) (.glob "HELD" (.str "held"))) (.cons (.asg (.tup [5, 6]) (.idx (.var 3) (.idx (.var 4) (.con (.int 1)))))
    (.cons (.augix (.var 4) (.con (.int 1)) .add (.con (.int 1)))
    (.cons (.asg (.tup [7, 8]) (.call 18 (.cons (.idx (.var 0) (.con (.int 1))) (.cons (.var 1) (.cons (.var 2) (.cons (.var 3) (.cons (.var 4) .nil)))))))
    (.cons (.asg (.name 9) (.lst .nil))
    (.cons (.for_ (.name 10) .seq (.cons (.call 16 (.cons (.var 7) (.cons (.var 5) (.cons (.var 6) .nil)))) .nil) (.cons (.asg (.name 9) (.bin .add (.var 9) (.ite (.cmp .eq (.var 10) (.con (.int 0))) (.comp [("one", 11)] (.name 11) .seq (.cons (.var 8) .nil) .none (.bin .add (.tup (.cons (.con (.int 0)) .nil)) (.var 11))) (.lst (.cons (.tup (.cons (.var 10) .nil)) .nil)))))
    .nil))
    (.cons (.ret (.tup (.cons (.call 5 (.cons (.lst (.cons (.var 5) (.cons (.call 6 (.cons (.lst (.cons (.var 7) (.cons (.var 6) .nil))) .nil)) .nil))) .nil)) (.cons (.var 9) .nil))))
    .nil)))))) .nil)
    (.cons (.ite (.cmp .eq (.idx (.var 0) (.con (.int 0))) (.glob "SIZE" (.str "size"))) (.cons (.asg (.tup [7, 8]) (.call 18 (.cons (.idx (.var 0) (.con (.int 1))) (.cons (.var 1) (.cons (.var 2) (.cons (.var 3) (.cons (.var 4) .nil)))))))
    (.cons (.asg (.name 12) (.comp [("sign", 13)] (.name 13) .seq (.cons (.tup (.cons (.con (.int 0)) (.cons (.con (.int 1)) .nil))) .nil) (.some (.or (.cmp .eq (.idx (.var 7) (.con (.int 0))) (.con (.int 0))) (.cmp .eq (.cmp .lt (.idx (.var 7) (.con (.int 0))) (.con (.int 0))) (.cmp .eq (.var 13) (.con (.int 1)))))) (.var 13)))
    (.cons (.ret (.tup (.cons (.call 4 (.cons (.var 7) .nil)) (.cons (.comp2 [("sign", 13), ("one", 11)] (.name 13) .seq (.cons (.var 12) .nil) .none [11] (.name 11) .seq (.cons (.var 8) .nil) .none (.bin .add (.tup (.cons (.var 13) .nil)) (.var 11))) .nil))))
    .nil))) .nil)
    (.cons (.asg (.name 14) (.comp [("one", 11)] (.name 11) .seq (.cons (.idx (.var 0) (.con (.int 1))) .nil) .none (.call 18 (.cons (.var 11) (.cons (.var 1) (.cons (.var 2) (.cons (.var 3) (.cons (.var 4) .nil))))))))
    (.cons (.asg (.name 15) (.comp [("number", 7), ("row", 8)] (.tup [7, 8]) .seq (.cons (.var 14) .nil) .none (.var 7)))
    (.cons (.asg (.name 16) (.ite (.cmp .eq (.idx (.var 0) (.con (.int 0))) (.glob "GREATEST" (.str "greatest"))) (.call 5 (.cons (.var 15) .nil)) (.call 6 (.cons (.var 15) .nil))))
    (.cons (.asg (.name 9) (.comp2 [("place", 17), ("pair", 18), ("one", 11)] (.tup [17, 18]) .enum (.cons (.var 14) .nil) (.some (.cmp .eq (.idx (.var 18) (.con (.int 0))) (.var 16))) [11] (.name 11) .seq (.cons (.idx (.var 18) (.con (.int 1))) .nil) .none (.bin .add (.tup (.cons (.var 17) .nil)) (.var 11))))
    (.cons (.ret (.tup (.cons (.var 16) (.cons (.var 9) .nil))))
    .nil))))))))
def f_ruling_node : Fn := ⟨"ruling_node", ["formula", "inputs", "constants", "bounds", "at"], ["formula", "inputs", "constants", "bounds", "at", "low", "high", "number", "row", "found", "way", "one", "signs", "sign", "told", "numbers", "best", "place", "pair"], [], b_ruling_node⟩
def b_ruling : ISs := (.cons (.ret (.bi .tuple (.cons (.idx (.call 18 (.cons (.var 0) (.cons (.var 1) (.cons (.var 2) (.cons (.var 3) (.cons (.lst (.cons (.con (.int 0)) (.cons (.con (.int 0)) .nil))) .nil)))))) (.con (.int 1))) .nil)))
    .nil)
def f_ruling : Fn := ⟨"ruling", ["formula", "inputs", "constants", "bounds"], ["formula", "inputs", "constants", "bounds"], [], b_ruling⟩
def b__law_box : ISs := (.cons (.asg (.name 2) (.bin .add (.bin .mul (.con (.int 7013)) (.var 1)) (.con (.int 311))))
    (.cons (.ite (.cmp .lt (.var 1) (.bi .len (.cons (.var 0) .nil))) (.cons (.asg (.name 2) (.bi .abs (.cons (.idx (.var 0) (.var 1)) .nil)))
    .nil) (.cons (.ite (.cmp .gt (.bi .len (.cons (.var 0) .nil)) (.con (.int 0))) (.cons (.asg (.name 2) (.bin .add (.var 2) (.bin .mul (.bin .mod (.bi .int (.cons (.bi .abs (.cons (.idx (.var 0) (.bin .mod (.bi .int (.cons (.var 1) .nil)) (.bi .len (.cons (.var 0) .nil)))) .nil)) .nil)) (.con (.int 2147483587))) (.con (.int 60013)))))
    .nil) .nil)
    .nil))
    (.cons (.ret (.lst (.cons (.idx (.lst (.cons (.con (.int 0)) (.cons (.var 2) .nil))) (.bi .int (.cons (.cmp .ge (.var 2) (.bin .pow (.con (.int 10)) (.con (.int 18)))) .nil))) (.cons (.bin .add (.bin .mod (.bi .int (.cons (.bin .add (.bin .mul (.bin .mod (.bi .int (.cons (.var 2) .nil)) (.con (.int 2147483587))) (.con (.int 52009))) (.bin .mul (.con (.int 47093)) (.var 1))) .nil)) (.con (.int 2147483587))) (.con (.int 1))) (.cons (.con (.int 0)) .nil)))))
    .nil)))
def f__law_box : Fn := ⟨"_law_box", ["script", "k"], ["script", "k", "cell"], [], b__law_box⟩
def b__law_take : ISs := (.cons (.ite (.cmp .gt (.idx (.var 0) (.con (.int 0))) (.con (.int 0))) (.cons (.asg (.name 2) (.bin .mod (.bi .int (.cons (.idx (.var 0) (.con (.int 0))) .nil)) (.var 1)))
    (.cons (.setix (.var 0) (.con (.int 0)) (.bin .fdiv (.idx (.var 0) (.con (.int 0))) (.var 1)))
    (.cons (.ret (.var 2))
    .nil))) .nil)
    (.cons (.setix (.var 0) (.con (.int 2)) (.bin .add (.idx (.var 0) (.con (.int 2))) (.con (.int 1))))
    (.cons (.asg (.name 3) (.bin .mod (.bi .int (.cons (.bin .add (.bin .mul (.bin .add (.idx (.var 0) (.con (.int 1))) (.bin .mul (.con (.int 80021)) (.idx (.var 0) (.con (.int 2))))) (.con (.int 57221))) (.con (.int 41))) .nil)) (.con (.int 2147483579))))
    (.cons (.setix (.var 0) (.con (.int 1)) (.bin .add (.bin .mod (.bi .int (.cons (.bin .add (.bin .mul (.var 3) (.con (.int 40009))) (.con (.int 21059))) .nil)) (.con (.int 2147483587))) (.con (.int 1))))
    (.cons (.ret (.bin .mod (.bi .int (.cons (.bin .fdiv (.bin .add (.bin .mul (.var 3) (.con (.int 2147483629))) (.idx (.var 0) (.con (.int 1)))) (.con (.int 8209))) .nil)) (.var 1)))
    .nil)))))
def f__law_take : Fn := ⟨"_law_take", ["box", "many"], ["box", "many", "digit", "raw"], [], b__law_take⟩
def b__law_pick : ISs := (.cons (.ret (.idx (.var 1) (.call 21 (.cons (.var 0) (.cons (.bi .len (.cons (.var 1) .nil)) .nil)))))
    .nil)
def f__law_pick : Fn := ⟨"_law_pick", ["box", "some"], ["box", "some"], [], b__law_pick⟩
def b__law_same : ISs := (.cons (.ite (.isinst (.var 1) [.tuple]) (.cons (.ite (.or (.not (.isinst (.var 0) [.tuple])) (.cmp .ne (.bi .len (.cons (.var 0) .nil)) (.bi .len (.cons (.var 1) .nil)))) (.cons (.ret (.con (.bl false)))
    .nil) .nil)
    (.cons (.ret (.bi .all (.cons (.comp [("place", 2)] (.name 2) .range (.cons (.bi .len (.cons (.var 1) .nil)) .nil) .none (.call 23 (.cons (.idx (.var 0) (.var 2)) (.cons (.idx (.var 1) (.var 2)) .nil)))) .nil)))
    .nil)) .nil)
    (.cons (.ite (.cmp .is_ (.var 1) (.con .non)) (.cons (.ret (.cmp .is_ (.var 0) (.con .non)))
    .nil) .nil)
    (.cons (.ite (.isinst (.var 1) [.bool]) (.cons (.ret (.and (.isinst (.var 0) [.bool]) (.cmp .eq (.var 0) (.var 1))))
    .nil) .nil)
    (.cons (.ite (.isinst (.var 1) [.str]) (.cons (.ret (.and (.isinst (.var 0) [.str]) (.cmp .eq (.var 0) (.var 1))))
    .nil) .nil)
    (.cons (.ret (.and (.isinst (.var 0) [.int]) (.and (.not (.isinst (.var 0) [.bool])) (.cmp .eq (.var 0) (.var 1)))))
    .nil)))))
def f__law_same : Fn := ⟨"_law_same", ["one", "other"], ["one", "other", "place"], [], b__law_same⟩
def b__law_frac : ISs := (.cons (.par [2, 3] (.cons (.bi .abs (.cons (.var 0) .nil)) (.cons (.bi .abs (.cons (.var 1) .nil)) .nil)))
    (.cons (.while_ (.cmp .gt (.var 3) (.con (.int 0))) (.cons (.par [2, 3] (.cons (.var 3) (.cons (.bin .mod (.bi .int (.cons (.var 2) .nil)) (.var 3)) .nil)))
    .nil))
    (.cons (.asg (.name 4) (.ite (.cmp .gt (.var 1) (.con (.int 0))) (.con (.int 1)) (.neg (.con (.int 1)))))
    (.cons (.ret (.tup (.cons (.bin .fdiv (.bin .mul (.var 4) (.var 0)) (.var 2)) (.cons (.bin .fdiv (.bin .mul (.var 4) (.var 1)) (.var 2)) .nil))))
    .nil))))
def f__law_frac : Fn := ⟨"_law_frac", ["top", "bottom"], ["top", "bottom", "one", "other", "sign"], [], b__law_frac⟩
def b__law_plus : ISs := (.cons (.ret (.call 24 (.cons (.bin .add (.bin .mul (.idx (.var 0) (.con (.int 0))) (.idx (.var 1) (.con (.int 1)))) (.bin .mul (.idx (.var 1) (.con (.int 0))) (.idx (.var 0) (.con (.int 1))))) (.cons (.bin .mul (.idx (.var 0) (.con (.int 1))) (.idx (.var 1) (.con (.int 1)))) .nil))))
    .nil)
def f__law_plus : Fn := ⟨"_law_plus", ["one", "other"], ["one", "other"], [], b__law_plus⟩
def b__law_mult : ISs := (.cons (.ret (.call 24 (.cons (.bin .mul (.idx (.var 0) (.con (.int 0))) (.idx (.var 1) (.con (.int 0)))) (.cons (.bin .mul (.idx (.var 0) (.con (.int 1))) (.idx (.var 1) (.con (.int 1)))) .nil))))
    .nil)
def f__law_mult : Fn := ⟨"_law_mult", ["one", "other"], ["one", "other"], [], b__law_mult⟩
def b__law_turn : ISs := (.cons (.ret (.tup (.cons (.neg (.idx (.var 0) (.con (.int 0)))) (.cons (.idx (.var 0) (.con (.int 1))) .nil))))
    .nil)
def f__law_turn : Fn := ⟨"_law_turn", ["one"], ["one"], [], b__law_turn⟩
def b__law_below : ISs := (.cons (.ret (.cmp .lt (.bin .mul (.idx (.var 0) (.con (.int 0))) (.idx (.var 1) (.con (.int 1)))) (.bin .mul (.idx (.var 1) (.con (.int 0))) (.idx (.var 0) (.con (.int 1))))))
    .nil)
def f__law_below : Fn := ⟨"_law_below", ["one", "other"], ["one", "other"], [], b__law_below⟩
def b__law_abs : ISs := (.cons (.ret (.tup (.cons (.bi .abs (.cons (.idx (.var 0) (.con (.int 0))) .nil)) (.cons (.idx (.var 0) (.con (.int 1))) .nil))))
    .nil)
def f__law_abs : Fn := ⟨"_law_abs", ["one"], ["one"], [], b__law_abs⟩
def b__law_top : ISs := (.cons (.asg (.name 1) (.idx (.var 0) (.con (.int 0))))
    (.cons (.for_ (.name 2) .seq (.cons (.var 0) .nil) (.cons (.asg (.name 1) (.ite (.call 28 (.cons (.var 1) (.cons (.var 2) .nil))) (.var 2) (.var 1)))
    .nil))
    (.cons (.ret (.var 1))
    .nil)))
def f__law_top : Fn := ⟨"_law_top", ["row"], ["row", "best", "one"], [], b__law_top⟩
def b__law_number : ISs := (.cons (.asg (.name 1) (.call 21 (.cons (.var 0) (.cons (.con (.int 12)) .nil))))
    (.cons (.ite (.cmp .eq (.var 1) (.con (.int 0))) (.cons (.ret (.call 24 (.cons (.bin .sub (.call 21 (.cons (.var 0) (.cons (.bin .pow (.con (.int 10)) (.con (.int 9))) .nil))) (.bin .mul (.con (.int 5)) (.bin .pow (.con (.int 10)) (.con (.int 8))))) (.cons (.bin .add (.con (.int 1)) (.call 21 (.cons (.var 0) (.cons (.bin .pow (.con (.int 10)) (.con (.int 6))) .nil)))) .nil))))
    .nil) .nil)
    (.cons (.ite (.cmp .lt (.var 1) (.con (.int 4))) (.cons (.ret (.tup (.cons (.bin .sub (.call 21 (.cons (.var 0) (.cons (.con (.int 9)) .nil))) (.con (.int 4))) (.cons (.con (.int 1)) .nil))))
    .nil) .nil)
    (.cons (.ret (.call 24 (.cons (.bin .sub (.call 21 (.cons (.var 0) (.cons (.con (.int 25)) .nil))) (.con (.int 12))) (.cons (.bin .add (.con (.int 1)) (.call 21 (.cons (.var 0) (.cons (.con (.int 7)) .nil)))) .nil))))
    .nil))))
def f__law_number : Fn := ⟨"_law_number", ["box"], ["box", "kind"], [], b__law_number⟩
def b__law_weight : ISs := (.cons (.ret (.call 24 (.cons (.call 22 (.cons (.var 0) (.cons (.lst (.cons (.con (.int 1)) (.cons (.neg (.con (.int 1))) (.cons (.con (.int 1)) (.cons (.neg (.con (.int 1))) (.cons (.con (.int 2)) (.cons (.neg (.con (.int 2))) (.cons (.con (.int 3)) (.cons (.neg (.con (.int 5))) .nil))))))))) .nil))) (.cons (.call 22 (.cons (.var 0) (.cons (.lst (.cons (.con (.int 1)) (.cons (.con (.int 1)) (.cons (.con (.int 2)) (.cons (.con (.int 2)) (.cons (.con (.int 3)) (.cons (.con (.int 4)) (.cons (.con (.int 5)) .nil)))))))) .nil))) .nil))))
    .nil)
def f__law_weight : Fn := ⟨"_law_weight", ["box"], ["box"], [], b__law_weight⟩
def b__law_drawn_sum : ISs := (.cons (.asg (.name 3) (.lst .nil))
    (.cons (.for_ (.name 4) .range (.cons (.call 22 (.cons (.var 0) (.cons (.lst (.cons (.con (.int 0)) (.cons (.con (.int 1)) (.cons (.con (.int 1)) (.cons (.con (.int 2)) (.cons (.con (.int 2)) (.cons (.con (.int 3)) .nil))))))) .nil))) .nil) (.cons (.asg (.name 5) (.and (.cmp .gt (.var 2) (.con (.int 0))) (.cmp .eq (.call 21 (.cons (.var 0) (.cons (.con (.int 3)) .nil))) (.con (.int 0)))))
    (.cons (.ite (.and (.cmp .gt (.var 1) (.con (.int 0))) (.not (.var 5))) (.cons (.expr (.meth .append (.var 3) (.cons (.tup (.cons (.call 32 (.cons (.var 0) .nil)) (.cons (.call 21 (.cons (.var 0) (.cons (.var 1) .nil))) .nil))) .nil)))
    .nil) (.cons (.ite (.var 5) (.cons (.expr (.meth .append (.var 3) (.cons (.tup (.cons (.call 32 (.cons (.var 0) .nil)) (.cons (.call 34 (.cons (.var 0) (.cons (.var 1) (.cons (.bin .sub (.var 2) (.con (.int 1))) .nil)))) .nil))) .nil)))
    .nil) .nil)
    .nil))
    .nil)))
    (.cons (.ret (.tup (.cons (.con (.str "sum")) (.cons (.bi .tuple (.cons (.var 3) .nil)) .nil))))
    .nil)))
def f__law_drawn_sum : Fn := ⟨"_law_drawn_sum", ["box", "sockets", "deep"], ["box", "sockets", "deep", "rows", "k", "inner"], [], b__law_drawn_sum⟩
def b__law_drawn_node : ISs := (.cons (.asg (.name 3) (.call 22 (.cons (.var 0) (.cons (.lst (.cons (.con (.str "greatest")) (.cons (.con (.str "least")) (.cons (.con (.str "size")) (.cons (.con (.str "held")) .nil))))) .nil))))
    (.cons (.ite (.cmp .in_ (.var 3) (.lst (.cons (.con (.str "size")) (.cons (.con (.str "held")) .nil)))) (.cons (.ret (.tup (.cons (.var 3) (.cons (.call 33 (.cons (.var 0) (.cons (.var 1) (.cons (.var 2) .nil)))) .nil))))
    .nil) .nil)
    (.cons (.ret (.tup (.cons (.var 3) (.cons (.bi .tuple (.cons (.comp [("k", 4)] (.name 4) .range (.cons (.call 22 (.cons (.var 0) (.cons (.lst (.cons (.con (.int 2)) (.cons (.con (.int 2)) (.cons (.con (.int 3)) (.cons (.con (.int 5)) .nil))))) .nil))) .nil) .none (.call 33 (.cons (.var 0) (.cons (.var 1) (.cons (.var 2) .nil))))) .nil)) .nil))))
    .nil)))
def f__law_drawn_node : Fn := ⟨"_law_drawn_node", ["box", "sockets", "deep"], ["box", "sockets", "deep", "kind", "k"], [], b__law_drawn_node⟩
def b__law_drawn : ISs := (.cons (.for_ (.name 2) .range (.cons (.con (.int 5)) .nil) (.cons (.asg (.name 3) (.call 22 (.cons (.var 0) (.cons (.lst (.cons (.con (.int 0)) (.cons (.con (.int 1)) (.cons (.con (.int 1)) (.cons (.con (.int 2)) (.cons (.con (.int 3)) .nil)))))) .nil))))
    (.cons (.asg (.name 4) (.ite (.cmp .eq (.call 21 (.cons (.var 0) (.cons (.con (.int 2)) .nil))) (.con (.int 0))) (.call 33 (.cons (.var 0) (.cons (.var 1) (.cons (.var 3) .nil)))) (.call 34 (.cons (.var 0) (.cons (.var 1) (.cons (.var 3) .nil))))))
    (.cons (.ite (.cmp .eq (.call 21 (.cons (.var 0) (.cons (.con (.int 4)) .nil))) (.con (.int 0))) (.cons (.asg (.name 4) (.tup (.cons (.con (.str "sum")) (.cons (.bi .tuple (.cons (.comp [("k", 5)] (.name 5) .range (.cons (.con (.int 3)) .nil) .none (.tup (.cons (.call 32 (.cons (.var 0) .nil)) (.cons (.call 34 (.cons (.var 0) (.cons (.var 1) (.cons (.bin .mod (.bi .int (.cons (.var 3) .nil)) (.con (.int 2))) .nil)))) .nil)))) .nil)) .nil))))
    .nil) .nil)
    (.cons (.ite (.and (.cmp .le (.call 37 (.cons (.var 4) .nil)) (.con (.int 24))) (.cmp .le (.call 40 (.cons (.var 4) .nil)) (.con (.int 64)))) (.cons (.ret (.var 4))
    .nil) .nil)
    .nil)))))
    (.cons (.ret (.tup (.cons (.con (.str "sum")) (.cons (.bi .tuple (.cons (.comp [("socket", 6)] (.name 6) .range (.cons (.var 1) .nil) .none (.tup (.cons (.call 32 (.cons (.var 0) .nil)) (.cons (.var 6) .nil)))) .nil)) .nil))))
    .nil))
def f__law_drawn : Fn := ⟨"_law_drawn", ["box", "sockets"], ["box", "sockets", "turn", "deep", "formula", "k", "socket"], [], b__law_drawn⟩
def b__law_inner : ISs := (.cons (.ite (.cmp .eq (.idx (.var 0) (.con (.int 0))) (.con (.str "sum"))) (.cons (.ret (.comp [("weight", 1), ("part", 2)] (.tup [1, 2]) .seq (.cons (.idx (.var 0) (.con (.int 1))) .nil) (.some (.not (.isinst (.var 2) [.int]))) (.var 2)))
    .nil) .nil)
    (.cons (.ret (.ite (.cmp .in_ (.idx (.var 0) (.con (.int 0))) (.lst (.cons (.con (.str "greatest")) (.cons (.con (.str "least")) .nil)))) (.bi .list (.cons (.idx (.var 0) (.con (.int 1))) .nil)) (.lst (.cons (.idx (.var 0) (.con (.int 1))) .nil))))
    .nil))
def f__law_inner : Fn := ⟨"_law_inner", ["formula"], ["formula", "weight", "part"], [], b__law_inner⟩
def b__law_nodes : ISs := (.cons (.ret (.bin .add (.con (.int 1)) (.bi .sum (.cons (.comp [("inner", 1)] (.name 1) .seq (.cons (.call 36 (.cons (.var 0) .nil)) .nil) .none (.call 37 (.cons (.var 1) .nil))) .nil))))
    .nil)
def f__law_nodes : Fn := ⟨"_law_nodes", ["formula"], ["formula", "inner"], [], b__law_nodes⟩
def b__law_held : ISs := (.cons (.ret (.bin .add (.bi .int (.cons (.cmp .eq (.idx (.var 0) (.con (.int 0))) (.con (.str "held"))) .nil)) (.bi .sum (.cons (.comp [("inner", 1)] (.name 1) .seq (.cons (.call 36 (.cons (.var 0) .nil)) .nil) .none (.call 38 (.cons (.var 1) .nil))) .nil))))
    .nil)
def f__law_held : Fn := ⟨"_law_held", ["formula"], ["formula", "inner"], [], b__law_held⟩
def b__law_sums : ISs := (.cons (.ret (.bin .add (.bi .int (.cons (.cmp .eq (.idx (.var 0) (.con (.int 0))) (.con (.str "sum"))) .nil)) (.bi .sum (.cons (.comp [("inner", 1)] (.name 1) .seq (.cons (.call 36 (.cons (.var 0) .nil)) .nil) .none (.call 39 (.cons (.var 1) .nil))) .nil))))
    .nil)
def f__law_sums : Fn := ⟨"_law_sums", ["formula"], ["formula", "inner"], [], b__law_sums⟩
def b__law_many : ISs := (.cons (.asg (.name 1) (.comp [("inner", 2)] (.name 2) .seq (.cons (.call 36 (.cons (.var 0) .nil)) .nil) .none (.call 40 (.cons (.var 2) .nil))))
    (.cons (.ite (.cmp .eq (.idx (.var 0) (.con (.int 0))) (.con (.str "sum"))) (.cons (.asg (.name 3) (.con (.int 1)))
    (.cons (.for_ (.name 4) .seq (.cons (.var 1) .nil) (.cons (.asg (.name 3) (.bin .mul (.var 3) (.var 4)))
    .nil))
    (.cons (.ret (.var 3))
    .nil))) .nil)
    (.cons (.ret (.bin .add (.bin .mul (.bi .sum (.cons (.var 1) .nil)) (.ite (.cmp .eq (.idx (.var 0) (.con (.int 0))) (.con (.str "size"))) (.con (.int 2)) (.con (.int 1)))) (.ite (.cmp .eq (.idx (.var 0) (.con (.int 0))) (.con (.str "held"))) (.con (.int 2)) (.con (.int 0)))))
    .nil)))
def f__law_many : Fn := ⟨"_law_many", ["formula"], ["formula", "numbers", "inner", "found", "number"], [], b__law_many⟩
def b__law_set : ISs := (.cons (.asg (.name 2) (.bi .tuple (.cons (.comp [("k", 3)] (.name 3) .range (.cons (.call 39 (.cons (.var 1) .nil)) .nil) .none (.call 31 (.cons (.var 0) .nil))) .nil)))
    (.cons (.asg (.name 4) (.lst .nil))
    (.cons (.for_ (.name 3) .range (.cons (.call 38 (.cons (.var 1) .nil)) .nil) (.cons (.asg (.name 5) (.call 31 (.cons (.var 0) .nil)))
    (.cons (.expr (.meth .append (.var 4) (.cons (.tup (.cons (.var 5) (.cons (.call 25 (.cons (.var 5) (.cons (.call 24 (.cons (.bin .add (.con (.int 1)) (.call 21 (.cons (.var 0) (.cons (.con (.int 12)) .nil)))) (.cons (.bin .add (.con (.int 1)) (.call 21 (.cons (.var 0) (.cons (.con (.int 3)) .nil)))) .nil))) .nil))) .nil))) .nil)))
    .nil)))
    (.cons (.ret (.tup (.cons (.var 2) (.cons (.bi .tuple (.cons (.var 4) .nil)) .nil))))
    .nil))))
def f__law_set : Fn := ⟨"_law_set", ["box", "formula"], ["box", "formula", "constants", "k", "bounds", "low"], [], b__law_set⟩
def b__law_worth : ISs := (.cons (.ite (.cmp .eq (.idx (.var 0) (.con (.int 0))) (.con (.str "sum"))) (.cons (.par [4, 5, 6] (.cons (.idx (.var 2) (.con (.int 0))) (.cons (.slice (.var 2) (.some (.con (.int 1))) .none) (.cons (.var 3) .nil))))
    (.cons (.for_ (.tup [7, 8]) .seq (.cons (.idx (.var 0) (.con (.int 1))) .nil) (.cons (.asg (.name 9) (.tup (.cons (.con (.int 0)) (.cons (.con (.int 1)) .nil))))
    (.cons (.ite (.isinst (.var 8) [.int]) (.cons (.asg (.name 9) (.idx (.var 1) (.var 8)))
    .nil) (.cons (.asg (.tup [9, 5, 6]) (.call 42 (.cons (.var 8) (.cons (.var 1) (.cons (.var 5) (.cons (.var 6) .nil))))))
    .nil))
    (.cons (.asg (.name 4) (.call 25 (.cons (.var 4) (.cons (.call 26 (.cons (.var 7) (.cons (.var 9) .nil))) .nil))))
    .nil))))
    (.cons (.ret (.tup (.cons (.var 4) (.cons (.var 5) (.cons (.var 6) .nil)))))
    .nil))) .nil)
    (.cons (.ite (.cmp .in_ (.idx (.var 0) (.con (.int 0))) (.lst (.cons (.con (.str "greatest")) (.cons (.con (.str "least")) .nil)))) (.cons (.par [10, 5, 6] (.cons (.lst .nil) (.cons (.var 2) (.cons (.var 3) .nil))))
    (.cons (.for_ (.name 8) .seq (.cons (.idx (.var 0) (.con (.int 1))) .nil) (.cons (.asg (.tup [9, 5, 6]) (.call 42 (.cons (.var 8) (.cons (.var 1) (.cons (.var 5) (.cons (.var 6) .nil))))))
    (.cons (.expr (.meth .append (.var 10) (.cons (.ite (.cmp .eq (.idx (.var 0) (.con (.int 0))) (.con (.str "greatest"))) (.var 9) (.call 27 (.cons (.var 9) .nil))) .nil)))
    .nil)))
    (.cons (.asg (.name 11) (.call 30 (.cons (.var 10) .nil)))
    (.cons (.ret (.tup (.cons (.ite (.cmp .eq (.idx (.var 0) (.con (.int 0))) (.con (.str "greatest"))) (.var 11) (.call 27 (.cons (.var 11) .nil))) (.cons (.var 5) (.cons (.var 6) .nil)))))
    .nil)))) .nil)
    (.cons (.ite (.cmp .eq (.idx (.var 0) (.con (.int 0))) (.con (.str "size"))) (.cons (.asg (.tup [9, 5, 6]) (.call 42 (.cons (.idx (.var 0) (.con (.int 1))) (.cons (.var 1) (.cons (.var 2) (.cons (.var 3) .nil))))))
    (.cons (.ret (.tup (.cons (.call 29 (.cons (.var 9) .nil)) (.cons (.var 5) (.cons (.var 6) .nil)))))
    .nil)) .nil)
    (.cons (.asg (.tup [9, 5, 6]) (.call 42 (.cons (.idx (.var 0) (.con (.int 1))) (.cons (.var 1) (.cons (.var 2) (.cons (.slice (.var 3) (.some (.con (.int 1))) .none) .nil))))))
    (.cons (.asg (.tup [12, 13]) (.idx (.var 3) (.con (.int 0))))
    (.cons (.ite (.call 28 (.cons (.var 9) (.cons (.var 12) .nil))) (.cons (.ret (.tup (.cons (.var 12) (.cons (.var 5) (.cons (.var 6) .nil)))))
    .nil) .nil)
    (.cons (.ret (.tup (.cons (.ite (.call 28 (.cons (.var 13) (.cons (.var 9) .nil))) (.var 13) (.var 9)) (.cons (.var 5) (.cons (.var 6) .nil)))))
    .nil)))))))
def f__law_worth : Fn := ⟨"_law_worth", ["formula", "inputs", "constants", "bounds"], ["formula", "inputs", "constants", "bounds", "found", "left", "ends", "weight", "part", "number", "numbers", "best", "low", "high"], [], b__law_worth⟩
def b__law_forced : ISs := (.cons (.ite (.cmp .eq (.idx (.var 0) (.con (.int 0))) (.con (.str "sum"))) (.cons (.asg (.tup [5, 6, 7, 8]) (.tup (.cons (.idx (.var 3) (.con (.int 0))) (.cons (.var 1) (.cons (.slice (.var 3) (.some (.con (.int 1))) .none) (.cons (.var 4) .nil))))))
    (.cons (.for_ (.tup [9, 10]) .seq (.cons (.idx (.var 0) (.con (.int 1))) .nil) (.cons (.asg (.name 11) (.tup (.cons (.con (.int 0)) (.cons (.con (.int 1)) .nil))))
    (.cons (.ite (.isinst (.var 10) [.int]) (.cons (.asg (.name 11) (.idx (.var 2) (.var 10)))
    .nil) (.cons (.asg (.tup [11, 6, 7, 8]) (.call 43 (.cons (.var 10) (.cons (.var 6) (.cons (.var 2) (.cons (.var 7) (.cons (.var 8) .nil)))))))
    .nil))
    (.cons (.asg (.name 5) (.call 25 (.cons (.var 5) (.cons (.call 26 (.cons (.var 9) (.cons (.var 11) .nil))) .nil))))
    .nil))))
    (.cons (.ret (.tup (.cons (.var 5) (.cons (.var 6) (.cons (.var 7) (.cons (.var 8) .nil))))))
    .nil))) .nil)
    (.cons (.ite (.cmp .eq (.idx (.var 0) (.con (.int 0))) (.con (.str "size"))) (.cons (.asg (.tup [11, 6, 7, 8]) (.call 43 (.cons (.idx (.var 0) (.con (.int 1))) (.cons (.slice (.var 1) (.some (.con (.int 1))) .none) (.cons (.var 2) (.cons (.var 3) (.cons (.var 4) .nil)))))))
    (.cons (.ret (.tup (.cons (.ite (.cmp .eq (.idx (.var 1) (.con (.int 0))) (.con (.int 0))) (.var 11) (.call 27 (.cons (.var 11) .nil))) (.cons (.var 6) (.cons (.var 7) (.cons (.var 8) .nil))))))
    .nil)) .nil)
    (.cons (.ite (.cmp .eq (.idx (.var 0) (.con (.int 0))) (.con (.str "held"))) (.cons (.ite (.cmp .gt (.idx (.var 1) (.con (.int 0))) (.con (.int 0))) (.cons (.par [12, 13] (.cons (.call 39 (.cons (.idx (.var 0) (.con (.int 1))) .nil)) (.cons (.bin .add (.con (.int 1)) (.call 38 (.cons (.idx (.var 0) (.con (.int 1))) .nil))) .nil)))
    (.cons (.ret (.tup (.cons (.idx (.idx (.var 4) (.con (.int 0))) (.bin .sub (.idx (.var 1) (.con (.int 0))) (.con (.int 1)))) (.cons (.slice (.var 1) (.some (.con (.int 1))) .none) (.cons (.slice (.var 3) (.some (.var 12)) .none) (.cons (.slice (.var 4) (.some (.var 13)) .none) .nil))))))
    .nil)) .nil)
    (.cons (.ret (.call 43 (.cons (.idx (.var 0) (.con (.int 1))) (.cons (.slice (.var 1) (.some (.con (.int 1))) .none) (.cons (.var 2) (.cons (.var 3) (.cons (.slice (.var 4) (.some (.con (.int 1))) .none) .nil)))))))
    .nil)) .nil)
    (.cons (.asg (.tup [5, 6, 7, 8]) (.tup (.cons (.tup (.cons (.con (.int 0)) (.cons (.con (.int 1)) .nil))) (.cons (.slice (.var 1) (.some (.con (.int 1))) .none) (.cons (.var 3) (.cons (.var 4) .nil))))))
    (.cons (.for_ (.name 14) .range (.cons (.bi .len (.cons (.idx (.var 0) (.con (.int 1))) .nil)) .nil) (.cons (.asg (.name 10) (.idx (.idx (.var 0) (.con (.int 1))) (.var 14)))
    (.cons (.ite (.cmp .eq (.var 14) (.idx (.var 1) (.con (.int 0)))) (.cons (.asg (.tup [5, 6, 7, 8]) (.call 43 (.cons (.var 10) (.cons (.var 6) (.cons (.var 2) (.cons (.var 7) (.cons (.var 8) .nil)))))))
    .nil) (.cons (.par [7, 8] (.cons (.slice (.var 7) (.some (.call 39 (.cons (.var 10) .nil))) .none) (.cons (.slice (.var 8) (.some (.call 38 (.cons (.var 10) .nil))) .none) .nil)))
    .nil))
    .nil)))
    (.cons (.ret (.tup (.cons (.var 5) (.cons (.var 6) (.cons (.var 7) (.cons (.var 8) .nil))))))
    .nil))))))
def f__law_forced : Fn := ⟨"_law_forced", ["formula", "choice", "inputs", "constants", "bounds"], ["formula", "choice", "inputs", "constants", "bounds", "found", "rest", "left", "ends", "weight", "part", "number", "sums", "helds", "place"], [], b__law_forced⟩
def b__law_ruling : ISs := (.cons (.ite (.cmp .eq (.idx (.var 0) (.con (.int 0))) (.con (.str "sum"))) (.cons (.asg (.tup [4, 5, 6, 7]) (.tup (.cons (.idx (.var 2) (.con (.int 0))) (.cons (.lst (.cons (.tup .nil) .nil)) (.cons (.slice (.var 2) (.some (.con (.int 1))) .none) (.cons (.var 3) .nil))))))
    (.cons (.for_ (.tup [8, 9]) .seq (.cons (.idx (.var 0) (.con (.int 1))) .nil) (.cons (.asg (.name 10) (.tup (.cons (.con (.int 0)) (.cons (.con (.int 1)) .nil))))
    (.cons (.ite (.isinst (.var 9) [.int]) (.cons (.asg (.name 10) (.idx (.var 1) (.var 9)))
    .nil) (.cons (.asg (.tup [11, 10, 6, 7]) (.call 44 (.cons (.var 9) (.cons (.var 1) (.cons (.var 6) (.cons (.var 7) .nil))))))
    (.cons (.asg (.name 12) (.lst .nil))
    (.cons (.for_ (.name 13) .seq (.cons (.var 5) .nil) (.cons (.asg (.name 12) (.bin .add (.var 12) (.comp [("other", 14)] (.name 14) .seq (.cons (.var 11) .nil) .none (.bin .add (.var 13) (.var 14)))))
    .nil))
    (.cons (.asg (.name 5) (.var 12))
    .nil)))))
    (.cons (.asg (.name 4) (.call 25 (.cons (.var 4) (.cons (.call 26 (.cons (.var 8) (.cons (.var 10) .nil))) .nil))))
    .nil))))
    (.cons (.ret (.tup (.cons (.var 5) (.cons (.var 4) (.cons (.var 6) (.cons (.var 7) .nil))))))
    .nil))) .nil)
    (.cons (.ite (.cmp .eq (.idx (.var 0) (.con (.int 0))) (.con (.str "held"))) (.cons (.asg (.tup [15, 16]) (.idx (.var 3) (.con (.int 0))))
    (.cons (.asg (.tup [11, 10, 6, 7]) (.call 44 (.cons (.idx (.var 0) (.con (.int 1))) (.cons (.var 1) (.cons (.var 2) (.cons (.slice (.var 3) (.some (.con (.int 1))) .none) .nil))))))
    (.cons (.asg (.name 5) (.ite (.and (.not (.call 28 (.cons (.var 10) (.cons (.var 15) .nil)))) (.not (.call 28 (.cons (.var 16) (.cons (.var 10) .nil))))) (.comp [("one", 13)] (.name 13) .seq (.cons (.var 11) .nil) .none (.bin .add (.tup (.cons (.con (.int 0)) .nil)) (.var 13))) (.lst .nil)))
    (.cons (.asg (.name 5) (.bin .add (.bin .add (.var 5) (.ite (.not (.call 28 (.cons (.var 15) (.cons (.var 10) .nil)))) (.lst (.cons (.tup (.cons (.con (.int 1)) .nil)) .nil)) (.lst .nil))) (.ite (.not (.call 28 (.cons (.var 10) (.cons (.var 16) .nil)))) (.lst (.cons (.tup (.cons (.con (.int 2)) .nil)) .nil)) (.lst .nil))))
    (.cons (.ret (.tup (.cons (.var 5) (.cons (.ite (.call 28 (.cons (.var 10) (.cons (.var 15) .nil))) (.var 15) (.ite (.call 28 (.cons (.var 16) (.cons (.var 10) .nil))) (.var 16) (.var 10))) (.cons (.var 6) (.cons (.var 7) .nil))))))
    .nil))))) .nil)
    (.cons (.ite (.cmp .eq (.idx (.var 0) (.con (.int 0))) (.con (.str "size"))) (.cons (.asg (.tup [11, 10, 6, 7]) (.call 44 (.cons (.idx (.var 0) (.con (.int 1))) (.cons (.var 1) (.cons (.var 2) (.cons (.var 3) .nil))))))
    (.cons (.asg (.name 5) (.bin .add (.ite (.cmp .ge (.idx (.var 10) (.con (.int 0))) (.con (.int 0))) (.comp [("one", 13)] (.name 13) .seq (.cons (.var 11) .nil) .none (.bin .add (.tup (.cons (.con (.int 0)) .nil)) (.var 13))) (.lst .nil)) (.ite (.cmp .le (.idx (.var 10) (.con (.int 0))) (.con (.int 0))) (.comp [("one", 13)] (.name 13) .seq (.cons (.var 11) .nil) .none (.bin .add (.tup (.cons (.con (.int 1)) .nil)) (.var 13))) (.lst .nil))))
    (.cons (.ret (.tup (.cons (.var 5) (.cons (.call 29 (.cons (.var 10) .nil)) (.cons (.var 6) (.cons (.var 7) .nil))))))
    .nil))) .nil)
    (.cons (.asg (.tup [17, 6, 7]) (.tup (.cons (.lst .nil) (.cons (.var 2) (.cons (.var 3) .nil)))))
    (.cons (.for_ (.name 9) .seq (.cons (.idx (.var 0) (.con (.int 1))) .nil) (.cons (.asg (.tup [11, 10, 6, 7]) (.call 44 (.cons (.var 9) (.cons (.var 1) (.cons (.var 6) (.cons (.var 7) .nil))))))
    (.cons (.expr (.meth .append (.var 17) (.cons (.tup (.cons (.var 11) (.cons (.var 10) .nil))) .nil)))
    .nil)))
    (.cons (.asg (.name 18) (.comp [("pair", 19)] (.name 19) .seq (.cons (.var 17) .nil) .none (.bi .any (.cons (.comp [("other", 14)] (.name 14) .seq (.cons (.var 17) .nil) .none (.ite (.cmp .eq (.idx (.var 0) (.con (.int 0))) (.con (.str "greatest"))) (.call 28 (.cons (.idx (.var 19) (.con (.int 1))) (.cons (.idx (.var 14) (.con (.int 1))) .nil))) (.call 28 (.cons (.idx (.var 14) (.con (.int 1))) (.cons (.idx (.var 19) (.con (.int 1))) .nil))))) .nil))))
    (.cons (.par [5, 20] (.cons (.lst .nil) (.cons (.tup (.cons (.con (.int 0)) (.cons (.con (.int 1)) .nil))) .nil)))
    (.cons (.for_ (.name 21) .range (.cons (.bi .len (.cons (.var 17) .nil)) .nil) (.cons (.ite (.not (.idx (.var 18) (.var 21))) (.cons (.par [5, 20] (.cons (.bin .add (.var 5) (.comp [("one", 13)] (.name 13) .seq (.cons (.idx (.idx (.var 17) (.var 21)) (.con (.int 0))) .nil) .none (.bin .add (.tup (.cons (.var 21) .nil)) (.var 13)))) (.cons (.idx (.idx (.var 17) (.var 21)) (.con (.int 1))) .nil)))
    .nil) .nil)
    .nil))
    (.cons (.ret (.tup (.cons (.var 5) (.cons (.var 20) (.cons (.var 6) (.cons (.var 7) .nil))))))
    .nil)))))))))
def f__law_ruling : Fn := ⟨"_law_ruling", ["formula", "inputs", "constants", "bounds"], ["formula", "inputs", "constants", "bounds", "found", "rows", "left", "ends", "weight", "part", "number", "some", "longer", "one", "other", "low", "high", "told", "worse", "pair", "best", "place"], [], b__law_ruling⟩
def b__law_alike : ISs := (.cons (.asg (.name 2) (.lst (.cons (.tup (.cons (.con (.int 0)) (.cons (.con (.int 1)) .nil))) (.cons (.tup (.cons (.con (.int 0)) (.cons (.con (.int 1)) .nil))) (.cons (.tup (.cons (.con (.int 1)) (.cons (.con (.int 1)) .nil))) (.cons (.tup (.cons (.neg (.con (.int 1))) (.cons (.con (.int 1)) .nil))) (.cons (.tup (.cons (.con (.int 1)) (.cons (.con (.int 2)) .nil))) .nil)))))))
    (.cons (.asg (.name 3) (.bi .tuple (.cons (.comp [("k", 4)] (.name 4) .range (.cons (.call 39 (.cons (.var 1) .nil)) .nil) .none (.call 22 (.cons (.var 0) (.cons (.var 2) .nil)))) .nil)))
    (.cons (.asg (.name 5) (.bi .tuple (.cons (.comp [("k", 4)] (.name 4) .range (.cons (.call 38 (.cons (.var 1) .nil)) .nil) .none (.call 22 (.cons (.var 0) (.cons (.lst (.cons (.tup (.cons (.tup (.cons (.con (.int 0)) (.cons (.con (.int 1)) .nil))) (.cons (.tup (.cons (.con (.int 1)) (.cons (.con (.int 1)) .nil))) .nil))) (.cons (.tup (.cons (.tup (.cons (.neg (.con (.int 1))) (.cons (.con (.int 1)) .nil))) (.cons (.tup (.cons (.con (.int 0)) (.cons (.con (.int 1)) .nil))) .nil))) (.cons (.tup (.cons (.tup (.cons (.neg (.con (.int 1))) (.cons (.con (.int 1)) .nil))) (.cons (.tup (.cons (.con (.int 1)) (.cons (.con (.int 1)) .nil))) .nil))) (.cons (.tup (.cons (.tup (.cons (.con (.int 0)) (.cons (.con (.int 1)) .nil))) (.cons (.tup (.cons (.con (.int 1)) (.cons (.con (.int 2)) .nil))) .nil))) .nil))))) .nil)))) .nil)))
    (.cons (.ret (.tup (.cons (.var 3) (.cons (.var 5) .nil))))
    .nil))))
def f__law_alike : Fn := ⟨"_law_alike", ["box", "formula"], ["box", "formula", "some", "constants", "k", "bounds"], [], b__law_alike⟩
def b_law : ISs := (.cons (.for_ (.name 1) .range (.cons (.con (.int 4)) .nil) (.cons (.asg (.name 2) (.call 20 (.cons (.var 0) (.cons (.var 1) .nil))))
    (.cons (.asg (.name 3) (.call 21 (.cons (.var 2) (.cons (.con (.int 5)) .nil))))
    (.cons (.asg (.name 4) (.call 35 (.cons (.var 2) (.cons (.var 3) .nil))))
    (.cons (.ite (.not (.call 23 (.cons (.call 9 (.cons (.var 4) .nil)) (.cons (.tup (.cons (.call 39 (.cons (.var 4) .nil)) (.cons (.call 38 (.cons (.var 4) .nil)) .nil))) .nil)))) (.cons (.ret (.con (.bl false)))
    .nil) .nil)
    (.cons (.ite (.or (.not (.call 23 (.cons (.call 10 (.cons (.var 4) .nil)) (.cons (.call 37 (.cons (.var 4) .nil)) .nil)))) (.not (.call 23 (.cons (.call 11 (.cons (.var 4) .nil)) (.cons (.call 40 (.cons (.var 4) .nil)) .nil))))) (.cons (.ret (.con (.bl false)))
    .nil) .nil)
    (.cons (.for_ (.name 5) .range (.cons (.con (.int 3)) .nil) (.cons (.asg (.name 6) (.bi .tuple (.cons (.comp [("socket", 7)] (.name 7) .range (.cons (.var 3) .nil) .none (.ite (.cmp .gt (.var 5) (.con (.int 0))) (.call 31 (.cons (.var 2) .nil)) (.call 22 (.cons (.var 2) (.cons (.lst (.cons (.tup (.cons (.con (.int 0)) (.cons (.con (.int 1)) .nil))) (.cons (.tup (.cons (.con (.int 1)) (.cons (.con (.int 1)) .nil))) (.cons (.tup (.cons (.neg (.con (.int 1))) (.cons (.con (.int 1)) .nil))) .nil)))) .nil))))) .nil)))
    (.cons (.asg (.tup [8, 9]) (.ite (.cmp .lt (.var 5) (.con (.int 2))) (.call 45 (.cons (.var 2) (.cons (.var 4) .nil))) (.call 41 (.cons (.var 2) (.cons (.var 4) .nil)))))
    (.cons (.asg (.name 10) (.idx (.call 42 (.cons (.var 4) (.cons (.var 6) (.cons (.var 8) (.cons (.var 9) .nil))))) (.con (.int 0))))
    (.cons (.ite (.not (.call 23 (.cons (.call 14 (.cons (.var 4) (.cons (.var 6) (.cons (.var 8) (.cons (.var 9) .nil))))) (.cons (.var 10) .nil)))) (.cons (.ret (.con (.bl false)))
    .nil) .nil)
    (.cons (.asg (.name 11) (.bi .sorted (.cons (.idx (.call 44 (.cons (.var 4) (.cons (.var 6) (.cons (.var 8) (.cons (.var 9) .nil))))) (.con (.int 0))) .nil)))
    (.cons (.ite (.not (.call 23 (.cons (.call 19 (.cons (.var 4) (.cons (.var 6) (.cons (.var 8) (.cons (.var 9) .nil))))) (.cons (.bi .tuple (.cons (.var 11) .nil)) .nil)))) (.cons (.ret (.con (.bl false)))
    .nil) .nil)
    (.cons (.ite (.bi .any (.cons (.comp [("row", 12)] (.name 12) .seq (.cons (.var 11) .nil) .none (.cmp .ne (.idx (.call 43 (.cons (.var 4) (.cons (.var 12) (.cons (.var 6) (.cons (.var 8) (.cons (.var 9) .nil)))))) (.con (.int 0))) (.var 10))) .nil)) (.cons (.ret (.con (.bl false)))
    .nil) .nil)
    .nil))))))))
    .nil)))))))
    (.cons (.ret (.con (.bl true)))
    .nil))
def f_law : Fn := ⟨"law", ["script"], ["script", "k", "box", "sockets", "formula", "turn", "inputs", "socket", "constants", "bounds", "due", "rows", "row"], [], b_law⟩
def cons : List (PySem.Str × D) := [("SUM", .str "sum"), ("GREATEST", .str "greatest"), ("LEAST", .str "least"), ("SIZE", .str "size"), ("HELD", .str "held")]
def rows0 : List Row := [⟨f_divisor_of, 1⟩, ⟨f_lowest, 2⟩, ⟨f_times, 3⟩, ⟨f_compared, 4⟩, ⟨f_size_of, 5⟩, ⟨f_greatest_of, 6⟩, ⟨f_least_of, 7⟩, ⟨f_sum_of, 8⟩, ⟨f_inner_of, 15⟩, ⟨f_counts, 16⟩, ⟨f_node_count, 17⟩, ⟨f_choice_count, 18⟩, ⟨f_held_within, 19⟩, ⟨f_node_value, 20⟩, ⟨f_formula_value, 21⟩, ⟨f_joined_choices, 23⟩, ⟨f_side_of, 24⟩, ⟨f_ruling_sum, 25⟩, ⟨f_ruling_node, 26⟩, ⟨f_ruling, 27⟩, ⟨f__law_box, 29⟩, ⟨f__law_take, 30⟩, ⟨f__law_pick, 31⟩, ⟨f__law_same, 32⟩, ⟨f__law_frac, 33⟩, ⟨f__law_plus, 34⟩, ⟨f__law_mult, 35⟩, ⟨f__law_turn, 36⟩, ⟨f__law_below, 37⟩, ⟨f__law_abs, 38⟩]
def rows1 : List Row := [⟨f__law_top, 39⟩, ⟨f__law_number, 40⟩, ⟨f__law_weight, 41⟩, ⟨f__law_drawn_sum, 42⟩, ⟨f__law_drawn_node, 43⟩, ⟨f__law_drawn, 44⟩, ⟨f__law_inner, 45⟩, ⟨f__law_nodes, 46⟩, ⟨f__law_held, 47⟩, ⟨f__law_sums, 48⟩, ⟨f__law_many, 49⟩, ⟨f__law_set, 50⟩, ⟨f__law_worth, 51⟩, ⟨f__law_forced, 52⟩, ⟨f__law_ruling, 53⟩, ⟨f__law_alike, 54⟩, ⟨f_law, 55⟩]
def rows : List Row := rows0 ++ rows1
abbrev P : List Fn := fnsOf rows
theorem r_divisor_of (n : Nat) (x0 x1 : D) : run P (n + 1) 0 [x0, x1] = endD (denSs (run P n) b_divisor_of [some x0, some x1]) := rfl
theorem r_lowest (n : Nat) (x0 x1 : D) : run P (n + 1) 1 [x0, x1] = endD (denSs (run P n) b_lowest [some x0, some x1, none]) := rfl
theorem r_times (n : Nat) (x0 x1 : D) : run P (n + 1) 2 [x0, x1] = endD (denSs (run P n) b_times [some x0, some x1]) := rfl
theorem r_compared (n : Nat) (x0 x1 : D) : run P (n + 1) 3 [x0, x1] = endD (denSs (run P n) b_compared [some x0, some x1, none]) := rfl
theorem r_size_of (n : Nat) (x0 : D) : run P (n + 1) 4 [x0] = endD (denSs (run P n) b_size_of [some x0]) := rfl
theorem r_greatest_of (n : Nat) (x0 : D) : run P (n + 1) 5 [x0] = endD (denSs (run P n) b_greatest_of [some x0, none, none]) := rfl
theorem r_least_of (n : Nat) (x0 : D) : run P (n + 1) 6 [x0] = endD (denSs (run P n) b_least_of [some x0, none, none]) := rfl
theorem r_sum_of (n : Nat) (x0 : D) : run P (n + 1) 7 [x0] = endD (denSs (run P n) b_sum_of [some x0, none, none, none]) := rfl
theorem r_inner_of (n : Nat) (x0 : D) : run P (n + 1) 8 [x0] = endD (denSs (run P n) b_inner_of [some x0, none, none]) := rfl
theorem r_counts (n : Nat) (x0 : D) : run P (n + 1) 9 [x0] = endD (denSs (run P n) b_counts [some x0, none, none, none, none]) := rfl
theorem r_node_count (n : Nat) (x0 : D) : run P (n + 1) 10 [x0] = endD (denSs (run P n) b_node_count [some x0, none]) := rfl
theorem r_choice_count (n : Nat) (x0 : D) : run P (n + 1) 11 [x0] = endD (denSs (run P n) b_choice_count [some x0, none, none, none, none]) := rfl
theorem r_held_within (n : Nat) (x0 x1 x2 : D) : run P (n + 1) 12 [x0, x1, x2] = endD (denSs (run P n) b_held_within [some x0, some x1, some x2]) := rfl
theorem r_node_value (n : Nat) (x0 x1 x2 x3 x4 : D) : run P (n + 1) 13 [x0, x1, x2, x3, x4] = endD (denSs (run P n) b_node_value [some x0, some x1, some x2, some x3, some x4, none, none, none, none, none, none, none, none]) := rfl
theorem r_formula_value (n : Nat) (x0 x1 x2 x3 : D) : run P (n + 1) 14 [x0, x1, x2, x3] = endD (denSs (run P n) b_formula_value [some x0, some x1, some x2, some x3]) := rfl
theorem r_joined_choices (n : Nat) (x0 : D) : run P (n + 1) 15 [x0] = endD (denSs (run P n) b_joined_choices [some x0, none, none, none, none]) := rfl
theorem r_side_of (n : Nat) (x0 x1 x2 : D) : run P (n + 1) 16 [x0, x1, x2] = endD (denSs (run P n) b_side_of [some x0, some x1, some x2, none, none, none]) := rfl
theorem r_ruling_sum (n : Nat) (x0 x1 x2 x3 x4 : D) : run P (n + 1) 17 [x0, x1, x2, x3, x4] = endD (denSs (run P n) b_ruling_sum [some x0, some x1, some x2, some x3, some x4, none, none, none, none, none, none]) := rfl
theorem r_ruling_node (n : Nat) (x0 x1 x2 x3 x4 : D) : run P (n + 1) 18 [x0, x1, x2, x3, x4] = endD (denSs (run P n) b_ruling_node [some x0, some x1, some x2, some x3, some x4, none, none, none, none, none, none, none, none, none, none, none, none, none, none]) := rfl
theorem r_ruling (n : Nat) (x0 x1 x2 x3 : D) : run P (n + 1) 19 [x0, x1, x2, x3] = endD (denSs (run P n) b_ruling [some x0, some x1, some x2, some x3]) := rfl
theorem r__law_box (n : Nat) (x0 x1 : D) : run P (n + 1) 20 [x0, x1] = endD (denSs (run P n) b__law_box [some x0, some x1, none]) := rfl
theorem r__law_take (n : Nat) (x0 x1 : D) : run P (n + 1) 21 [x0, x1] = endD (denSs (run P n) b__law_take [some x0, some x1, none, none]) := rfl
theorem r__law_pick (n : Nat) (x0 x1 : D) : run P (n + 1) 22 [x0, x1] = endD (denSs (run P n) b__law_pick [some x0, some x1]) := rfl
theorem r__law_same (n : Nat) (x0 x1 : D) : run P (n + 1) 23 [x0, x1] = endD (denSs (run P n) b__law_same [some x0, some x1, none]) := rfl
theorem r__law_frac (n : Nat) (x0 x1 : D) : run P (n + 1) 24 [x0, x1] = endD (denSs (run P n) b__law_frac [some x0, some x1, none, none, none]) := rfl
theorem r__law_plus (n : Nat) (x0 x1 : D) : run P (n + 1) 25 [x0, x1] = endD (denSs (run P n) b__law_plus [some x0, some x1]) := rfl
theorem r__law_mult (n : Nat) (x0 x1 : D) : run P (n + 1) 26 [x0, x1] = endD (denSs (run P n) b__law_mult [some x0, some x1]) := rfl
theorem r__law_turn (n : Nat) (x0 : D) : run P (n + 1) 27 [x0] = endD (denSs (run P n) b__law_turn [some x0]) := rfl
theorem r__law_below (n : Nat) (x0 x1 : D) : run P (n + 1) 28 [x0, x1] = endD (denSs (run P n) b__law_below [some x0, some x1]) := rfl
theorem r__law_abs (n : Nat) (x0 : D) : run P (n + 1) 29 [x0] = endD (denSs (run P n) b__law_abs [some x0]) := rfl
theorem r__law_top (n : Nat) (x0 : D) : run P (n + 1) 30 [x0] = endD (denSs (run P n) b__law_top [some x0, none, none]) := rfl
theorem r__law_number (n : Nat) (x0 : D) : run P (n + 1) 31 [x0] = endD (denSs (run P n) b__law_number [some x0, none]) := rfl
theorem r__law_weight (n : Nat) (x0 : D) : run P (n + 1) 32 [x0] = endD (denSs (run P n) b__law_weight [some x0]) := rfl
theorem r__law_drawn_sum (n : Nat) (x0 x1 x2 : D) : run P (n + 1) 33 [x0, x1, x2] = endD (denSs (run P n) b__law_drawn_sum [some x0, some x1, some x2, none, none, none]) := rfl
theorem r__law_drawn_node (n : Nat) (x0 x1 x2 : D) : run P (n + 1) 34 [x0, x1, x2] = endD (denSs (run P n) b__law_drawn_node [some x0, some x1, some x2, none, none]) := rfl
theorem r__law_drawn (n : Nat) (x0 x1 : D) : run P (n + 1) 35 [x0, x1] = endD (denSs (run P n) b__law_drawn [some x0, some x1, none, none, none, none, none]) := rfl
theorem r__law_inner (n : Nat) (x0 : D) : run P (n + 1) 36 [x0] = endD (denSs (run P n) b__law_inner [some x0, none, none]) := rfl
theorem r__law_nodes (n : Nat) (x0 : D) : run P (n + 1) 37 [x0] = endD (denSs (run P n) b__law_nodes [some x0, none]) := rfl
theorem r__law_held (n : Nat) (x0 : D) : run P (n + 1) 38 [x0] = endD (denSs (run P n) b__law_held [some x0, none]) := rfl
theorem r__law_sums (n : Nat) (x0 : D) : run P (n + 1) 39 [x0] = endD (denSs (run P n) b__law_sums [some x0, none]) := rfl
theorem r__law_many (n : Nat) (x0 : D) : run P (n + 1) 40 [x0] = endD (denSs (run P n) b__law_many [some x0, none, none, none, none]) := rfl
theorem r__law_set (n : Nat) (x0 x1 : D) : run P (n + 1) 41 [x0, x1] = endD (denSs (run P n) b__law_set [some x0, some x1, none, none, none, none]) := rfl
theorem r__law_worth (n : Nat) (x0 x1 x2 x3 : D) : run P (n + 1) 42 [x0, x1, x2, x3] = endD (denSs (run P n) b__law_worth [some x0, some x1, some x2, some x3, none, none, none, none, none, none, none, none, none, none]) := rfl
theorem r__law_forced (n : Nat) (x0 x1 x2 x3 x4 : D) : run P (n + 1) 43 [x0, x1, x2, x3, x4] = endD (denSs (run P n) b__law_forced [some x0, some x1, some x2, some x3, some x4, none, none, none, none, none, none, none, none, none, none]) := rfl
theorem r__law_ruling (n : Nat) (x0 x1 x2 x3 : D) : run P (n + 1) 44 [x0, x1, x2, x3] = endD (denSs (run P n) b__law_ruling [some x0, some x1, some x2, some x3, none, none, none, none, none, none, none, none, none, none, none, none, none, none, none, none, none, none]) := rfl
theorem r__law_alike (n : Nat) (x0 x1 : D) : run P (n + 1) 45 [x0, x1] = endD (denSs (run P n) b__law_alike [some x0, some x1, none, none, none, none]) := rfl
theorem r_law (n : Nat) (x0 : D) : run P (n + 1) 46 [x0] = endD (denSs (run P n) b_law [some x0, none, none, none, none, none, none, none, none, none, none, none, none]) := rfl
end K03
set_option Elab.async false
set_option linter.all false
set_option maxRecDepth 100000
set_option maxHeartbeats 2000000
set_option autoImplicit false
/-! k03, the plain law: fractions. -/
namespace K03
open Ev
abbrev fr (q : Rat) : D := .tup [.int q.num, .int (q.den : Int)]
theorem gcd_step {x y : Int} (h : y ≠ 0) : Int.gcd y (x.fmod y) = Int.gcd x y ∧ (x.fmod y).natAbs < y.natAbs := by
  have e : x.fmod y = x - y * x.fdiv y := by
    have := Int.mul_fdiv_add_fmod x y
    omega
  constructor
  · rw [e, Int.gcd_comm y, Int.gcd_sub_mul_left_left]
  · rcases Int.lt_or_gt_of_ne h with h | h
    · have h0 := Int.neg_fmod_neg (-x) (-y)
      rw [Int.neg_neg, Int.neg_neg] at h0
      have h1 := Int.fmod_nonneg_of_pos (-x) (show 0 < -y by omega)
      have h2 := Int.fmod_lt_of_pos (-x) (show 0 < -y by omega)
      omega
    · have h1 := Int.fmod_nonneg_of_pos x h
      have h2 := Int.fmod_lt_of_pos x h
      omega
section
variable {n : Nat} {S : Store} {Q : D → Store → Prop} {E : Ex}
theorem w_divisor (a b : Int) (h : Q (.int (Int.gcd a b)) S) : Wx (run P (n + 1) 0 [.int a, .int b]) S Q E := by
  rw [r_divisor_of, Wx_end]
  unfold b_divisor_of
  rw [Ws_cons]
  refine Ws_while (I := fun δ S' => S' = S ∧ ∃ x y : Int, δ = [some (.int x), some (.int y)] ∧ Int.gcd x y = Int.gcd a b) (μ := fun δ _ => match δ with | [_, some (.int y)] => y.natAbs | _ => 0) ?_ ⟨rfl, a, b, rfl, rfl⟩
  rintro δ S' ⟨rfl, x, y, rfl, hg⟩
  simp only [Wx_var, Wx_con, Wx_glob, Wx_bin, Wx_neg, Wx_negI, Wx_not, Wx_cmp, Wx_and, Wx_or, Wx_ite, Wx_tup, Wx_lst, Wx_idx, Wx_slice, Wx_call, Wx_bi, Wx_isi, Wx_meth, Wx_nil, Wx_cons, Wx_onone, Wx_osome, Wx_cnone, Wx_csome, Wx_add, Wx_addT, Wx_sub, Wx_mul, Wx_fdiv, Wx_mod, Wx_tbl, Wx_tint, Wx_eqI, Wx_eqS, Wx_eqB, Wx_neI, Wx_ltI, Wx_leI, Wx_gtI, Wx_geI, Wx_idxT, atD_0, atD_1, atD_2, Wx_abs, Wx_intI, Wx_intB, Wx_cutT, Wx_srcT, Wx_range, Wx_ret, Wx_cond, List.getElem?_cons_zero, List.getElem?_cons_succ, List.length_cons, List.length_nil, List.set_cons_zero, List.set_cons_succ, decide_eq_true_eq, bne_iff_ne, Wx_turn, wipeD]
  by_cases hy : y = 0
  · subst hy
    rw [if_neg (by decide)]
    simp only [Wx_var, Wx_con, Wx_glob, Wx_bin, Wx_neg, Wx_negI, Wx_not, Wx_cmp, Wx_and, Wx_or, Wx_ite, Wx_tup, Wx_lst, Wx_idx, Wx_slice, Wx_call, Wx_bi, Wx_isi, Wx_meth, Wx_nil, Wx_cons, Wx_onone, Wx_osome, Wx_cnone, Wx_csome, Wx_add, Wx_addT, Wx_sub, Wx_mul, Wx_fdiv, Wx_mod, Wx_tbl, Wx_tint, Wx_eqI, Wx_eqS, Wx_eqB, Wx_neI, Wx_ltI, Wx_leI, Wx_gtI, Wx_geI, Wx_idxT, atD_0, atD_1, atD_2, Wx_abs, Wx_intI, Wx_intB, Wx_cutT, Wx_srcT, Wx_range, Wx_ret, Wx_cond, List.getElem?_cons_zero, List.getElem?_cons_succ, List.length_cons, List.length_nil, List.set_cons_zero, List.set_cons_succ, decide_eq_true_eq, bne_iff_ne, Wx_turn, wipeD, Ws_nil, Ws_cons, Ws_asg, Ws_par, Ws_expr, Ws_ret, Ws_retn, Ws_pass, Ws_ite, asgD, setAll]
    have e : ((Int.natAbs x : Nat) : Int) = (Int.gcd a b : Int) := by rw [← hg, Int.gcd_zero_right]
    rw [e]
    exact h
  · rw [if_pos (by simpa using hy)]
    refine Wx_block ?_
    simp only [Wx_var, Wx_con, Wx_glob, Wx_bin, Wx_neg, Wx_negI, Wx_not, Wx_cmp, Wx_and, Wx_or, Wx_ite, Wx_tup, Wx_lst, Wx_idx, Wx_slice, Wx_call, Wx_bi, Wx_isi, Wx_meth, Wx_nil, Wx_cons, Wx_onone, Wx_osome, Wx_cnone, Wx_csome, Wx_add, Wx_addT, Wx_sub, Wx_mul, Wx_fdiv, Wx_mod, Wx_tbl, Wx_tint, Wx_eqI, Wx_eqS, Wx_eqB, Wx_neI, Wx_ltI, Wx_leI, Wx_gtI, Wx_geI, Wx_idxT, atD_0, atD_1, atD_2, Wx_abs, Wx_intI, Wx_intB, Wx_cutT, Wx_srcT, Wx_range, Wx_ret, Wx_cond, List.getElem?_cons_zero, List.getElem?_cons_succ, List.length_cons, List.length_nil, List.set_cons_zero, List.set_cons_succ, decide_eq_true_eq, bne_iff_ne, Wx_turn, wipeD, Ws_nil, Ws_cons, Ws_asg, Ws_par, Ws_expr, Ws_ret, Ws_retn, Ws_pass, Ws_ite, asgD, setAll]
    obtain ⟨g1, g2⟩ := gcd_step (x := x) hy
    exact ⟨hy, ⟨trivial, y, x.fmod y, rfl, by rw [g1, hg]⟩, g2⟩
/-- so many bits at most -/
def Bd (k : Nat) (q : Rat) : Prop := q.num.natAbs < 2 ^ k ∧ q.den < 2 ^ k
theorem log2_le {m k : Nat} (h : m < 2 ^ k) : m.log2 ≤ k := by
  by_cases h0 : m = 0
  · subst h0
    exact Nat.zero_le _
  · exact Nat.le_of_lt ((Nat.log2_lt h0).mpr h)
theorem mulOk_of {i j : Int} {a b : Nat} (h1 : i.natAbs < 2 ^ a) (h2 : j.natAbs < 2 ^ b) (h : a + b < 100000000) : mulOk i j = true := by
  unfold mulOk
  have := log2_le h1
  have := log2_le h2
  exact decide_eq_true (by omega)
theorem fdiv_exact {a g : Int} (h : g ∣ a) : a.fdiv g = a / g := by
  obtain ⟨c, rfl⟩ := h
  by_cases hg : g = 0
  · subst hg
    simp
  · rw [Int.mul_fdiv_cancel_left c hg, Int.mul_ediv_cancel_left c hg]
theorem w_lowest (t b : Int) (hb : b ≠ 0) (h : Q (fr (Rat.divInt t b)) S) : Wx (run P (n + 2) 1 [.int t, .int b]) S Q E := by
  have hg : (Int.gcd b t : Int) ≠ 0 := by
    intro z
    have := Int.gcd_eq_zero_iff.mp (Int.ofNat.inj z)
    exact hb this.1
  have d1 : (Int.gcd b t : Int) ∣ t := Int.gcd_dvd_right ..
  have d2 : (Int.gcd b t : Int) ∣ b := Int.gcd_dvd_left ..
  have hn := Rat.num_divInt t b
  have hd := Rat.den_divInt t b
  rw [if_neg hb] at hd
  rw [r_lowest, Wx_end]
  unfold b_lowest
  simp only [Wx_var, Wx_con, Wx_glob, Wx_bin, Wx_neg, Wx_negI, Wx_not, Wx_cmp, Wx_and, Wx_or, Wx_ite, Wx_tup, Wx_lst, Wx_idx, Wx_slice, Wx_call, Wx_bi, Wx_isi, Wx_meth, Wx_nil, Wx_cons, Wx_onone, Wx_osome, Wx_cnone, Wx_csome, Wx_add, Wx_addT, Wx_sub, Wx_mul, Wx_fdiv, Wx_mod, Wx_tbl, Wx_tint, Wx_eqI, Wx_eqS, Wx_eqB, Wx_neI, Wx_ltI, Wx_leI, Wx_gtI, Wx_geI, Wx_idxT, atD_0, atD_1, atD_2, Wx_abs, Wx_intI, Wx_intB, Wx_cutT, Wx_srcT, Wx_range, Wx_ret, Wx_cond, List.getElem?_cons_zero, List.getElem?_cons_succ, List.length_cons, List.length_nil, List.set_cons_zero, List.set_cons_succ, decide_eq_true_eq, bne_iff_ne, Wx_turn, wipeD, Ws_nil, Ws_cons, Ws_asg, Ws_par, Ws_expr, Ws_ret, Ws_retn, Ws_pass, Ws_ite, asgD, setAll]
  refine w_divisor t b ?_
  rw [Int.gcd_comm t b]
  simp only [Wx_var, Wx_con, Wx_glob, Wx_bin, Wx_neg, Wx_negI, Wx_not, Wx_cmp, Wx_and, Wx_or, Wx_ite, Wx_tup, Wx_lst, Wx_idx, Wx_slice, Wx_call, Wx_bi, Wx_isi, Wx_meth, Wx_nil, Wx_cons, Wx_onone, Wx_osome, Wx_cnone, Wx_csome, Wx_add, Wx_addT, Wx_sub, Wx_mul, Wx_fdiv, Wx_mod, Wx_tbl, Wx_tint, Wx_eqI, Wx_eqS, Wx_eqB, Wx_neI, Wx_ltI, Wx_leI, Wx_gtI, Wx_geI, Wx_idxT, atD_0, atD_1, atD_2, Wx_abs, Wx_intI, Wx_intB, Wx_cutT, Wx_srcT, Wx_range, Wx_ret, Wx_cond, List.getElem?_cons_zero, List.getElem?_cons_succ, List.length_cons, List.length_nil, List.set_cons_zero, List.set_cons_succ, decide_eq_true_eq, bne_iff_ne, Wx_turn, wipeD, Ws_nil, Ws_cons, Ws_asg, Ws_par, Ws_expr, Ws_ret, Ws_retn, Ws_pass, Ws_ite, asgD, setAll]
  by_cases hs : b < 0
  · rw [if_pos hs]
    refine ⟨by omega, by omega, by decide, ?_⟩
    have e1 : t.fdiv (-(Int.gcd b t : Int)) = (Rat.divInt t b).num := by
      rw [fdiv_exact (Int.neg_dvd.mpr d1), hn, Int.sign_eq_neg_one_of_neg hs, Int.ediv_neg, Int.neg_one_mul, Int.neg_ediv_of_dvd d1]
    have e2 : b.fdiv (-(Int.gcd b t : Int)) = ((Rat.divInt t b).den : Int) := by
      rw [fdiv_exact (Int.neg_dvd.mpr d2), hd, Int.ediv_neg, Int.natCast_ediv, Int.ofNat_natAbs_of_nonpos (by omega), Int.neg_ediv_of_dvd d2]
    rw [e1, e2]
    exact h
  · rw [if_neg hs]
    refine ⟨hg, hg, by decide, ?_⟩
    have e1 : t.fdiv (Int.gcd b t : Int) = (Rat.divInt t b).num := by
      rw [fdiv_exact d1, hn, Int.sign_eq_one_of_pos (by omega), Int.one_mul]
    have e2 : b.fdiv (Int.gcd b t : Int) = ((Rat.divInt t b).den : Int) := by
      rw [fdiv_exact d2, hd, Int.natCast_ediv, Int.natAbs_of_nonneg (by omega)]
    rw [e1, e2]
    exact h
theorem den_pos' (q : Rat) : (0 : Int) < (q.den : Int) := Int.ofNat_lt.mpr (Nat.pos_of_ne_zero q.den_nz)
theorem bd_den {k : Nat} {q : Rat} (h : Bd k q) : ((q.den : Int)).natAbs < 2 ^ k := by rw [Int.natAbs_natCast]; exact h.2
theorem w_times (a b : Rat) {j k : Nat} (ha : Bd j a) (hb : Bd k b) (hk : j + k < 100000000) (h : Q (fr (a * b)) S) : Wx (run P (n + 3) 2 [fr a, fr b]) S Q E := by
  rw [r_times, Wx_end]
  unfold b_times
  simp only [Wx_var, Wx_con, Wx_glob, Wx_bin, Wx_neg, Wx_negI, Wx_not, Wx_cmp, Wx_and, Wx_or, Wx_ite, Wx_tup, Wx_lst, Wx_idx, Wx_slice, Wx_call, Wx_bi, Wx_isi, Wx_meth, Wx_nil, Wx_cons, Wx_onone, Wx_osome, Wx_cnone, Wx_csome, Wx_add, Wx_addT, Wx_sub, Wx_mul, Wx_fdiv, Wx_mod, Wx_tbl, Wx_tint, Wx_eqI, Wx_eqS, Wx_eqB, Wx_neI, Wx_ltI, Wx_leI, Wx_gtI, Wx_geI, Wx_idxT, atD_0, atD_1, atD_2, Wx_abs, Wx_intI, Wx_intB, Wx_cutT, Wx_srcT, Wx_range, Wx_ret, Wx_cond, List.getElem?_cons_zero, List.getElem?_cons_succ, List.length_cons, List.length_nil, List.set_cons_zero, List.set_cons_succ, decide_eq_true_eq, bne_iff_ne, Wx_turn, wipeD, Ws_nil, Ws_cons, Ws_asg, Ws_par, Ws_expr, Ws_ret, Ws_retn, Ws_pass, Ws_ite, asgD, setAll]
  refine ⟨mulOk_of ha.1 hb.1 hk, mulOk_of (bd_den ha) (bd_den hb) hk, ?_⟩
  refine w_lowest _ _ (Int.mul_ne_zero (by have := den_pos' a; omega) (by have := den_pos' b; omega)) ?_
  have e : Rat.divInt (a.num * b.num) ((a.den : Int) * (b.den : Int)) = a * b := by
    rw [Rat.mul_def', ← Int.natCast_mul, Rat.divInt_ofNat]
  rw [e]
  exact h
def cmpr (a b : Rat) : Int := if a = b then 0 else if b < a then 1 else -1
theorem w_compared (a b : Rat) {j k : Nat} (ha : Bd j a) (hb : Bd k b) (hk : j + k < 100000000) (h : Q (.int (cmpr a b)) S) : Wx (run P (n + 1) 3 [fr a, fr b]) S Q E := by
  rw [r_compared, Wx_end]
  unfold b_compared
  simp only [Wx_var, Wx_con, Wx_glob, Wx_bin, Wx_neg, Wx_negI, Wx_not, Wx_cmp, Wx_and, Wx_or, Wx_ite, Wx_tup, Wx_lst, Wx_idx, Wx_slice, Wx_call, Wx_bi, Wx_isi, Wx_meth, Wx_nil, Wx_cons, Wx_onone, Wx_osome, Wx_cnone, Wx_csome, Wx_add, Wx_addT, Wx_sub, Wx_mul, Wx_fdiv, Wx_mod, Wx_tbl, Wx_tint, Wx_eqI, Wx_eqS, Wx_eqB, Wx_neI, Wx_ltI, Wx_leI, Wx_gtI, Wx_geI, Wx_idxT, atD_0, atD_1, atD_2, Wx_abs, Wx_intI, Wx_intB, Wx_cutT, Wx_srcT, Wx_range, Wx_ret, Wx_cond, List.getElem?_cons_zero, List.getElem?_cons_succ, List.length_cons, List.length_nil, List.set_cons_zero, List.set_cons_succ, decide_eq_true_eq, bne_iff_ne, Wx_turn, wipeD, Ws_nil, Ws_cons, Ws_asg, Ws_par, Ws_expr, Ws_ret, Ws_retn, Ws_pass, Ws_ite, asgD, setAll]
  refine ⟨mulOk_of ha.1 (bd_den hb) (by omega), mulOk_of hb.1 (bd_den ha) (by omega), ?_⟩
  unfold cmpr at h
  by_cases e : a = b
  · rw [if_pos e] at h
    subst e
    rw [if_pos (by simp)]
    exact h
  · rw [if_neg e] at h
    have ne : a.num * b.den ≠ b.num * a.den := fun z => e (Rat.eq_iff_mul_eq_mul.mpr z)
    rw [if_neg (by simp; omega)]
    by_cases l : b < a
    · rw [if_pos l] at h
      have := (Rat.lt_iff b a).mp l
      rw [if_pos (by simp; omega)]
      exact h
    · rw [if_neg l] at h
      have : ¬ (b.num * a.den < a.num * b.den) := fun z => l ((Rat.lt_iff b a).mpr z)
      rw [if_neg (by simp; omega)]
      exact h
def ab (q : Rat) : Rat := if q < 0 then -q else q
theorem ab_fr (q : Rat) : fr (ab q) = .tup [.int (q.num.natAbs : Int), .int (q.den : Int)] := by
  unfold ab
  have hq : q < 0 ↔ q.num < 0 := by
    rw [Rat.lt_iff]
    simp
  by_cases l : q < 0
  · rw [if_pos l]
    have := hq.mp l
    show D.tup [.int (-q).num, .int ((-q).den : Int)] = _
    have e : (q.num.natAbs : Int) = -q.num := by omega
    rw [Rat.neg_num, Rat.neg_den, e]
  · rw [if_neg l]
    have := mt hq.mpr l
    have e : (q.num.natAbs : Int) = q.num := by omega
    rw [e]
theorem w_size (a : Rat) (h : Q (fr (ab a)) S) : Wx (run P (n + 1) 4 [fr a]) S Q E := by
  rw [r_size_of, Wx_end]
  unfold b_size_of
  simp only [Wx_var, Wx_con, Wx_glob, Wx_bin, Wx_neg, Wx_negI, Wx_not, Wx_cmp, Wx_and, Wx_or, Wx_ite, Wx_tup, Wx_lst, Wx_idx, Wx_slice, Wx_call, Wx_bi, Wx_isi, Wx_meth, Wx_nil, Wx_cons, Wx_onone, Wx_osome, Wx_cnone, Wx_csome, Wx_add, Wx_addT, Wx_sub, Wx_mul, Wx_fdiv, Wx_mod, Wx_tbl, Wx_tint, Wx_eqI, Wx_eqS, Wx_eqB, Wx_neI, Wx_ltI, Wx_leI, Wx_gtI, Wx_geI, Wx_idxT, atD_0, atD_1, atD_2, Wx_abs, Wx_intI, Wx_intB, Wx_cutT, Wx_srcT, Wx_range, Wx_ret, Wx_cond, List.getElem?_cons_zero, List.getElem?_cons_succ, List.length_cons, List.length_nil, List.set_cons_zero, List.set_cons_succ, decide_eq_true_eq, bne_iff_ne, Wx_turn, wipeD, Ws_nil, Ws_cons, Ws_asg, Ws_par, Ws_expr, Ws_ret, Ws_retn, Ws_pass, Ws_ite, asgD, setAll]
  rw [ab_fr] at h
  exact ⟨by decide, h⟩
end
end K03

set_option Elab.async false
set_option linter.all false
set_option maxRecDepth 100000
set_option maxHeartbeats 2000000
set_option autoImplicit false
/-! k03, the plain law: rows of fractions. -/
namespace K03
open Ev
theorem Bd.mono {j k : Nat} {q : Rat} (h : Bd j q) (hk : j ≤ k) : Bd k q := ⟨Nat.lt_of_lt_of_le h.1 (Nat.pow_le_pow_right (by decide) hk), Nat.lt_of_lt_of_le h.2 (Nat.pow_le_pow_right (by decide) hk)⟩
def IsMax (qs : List Rat) (m : Rat) : Prop := m ∈ qs ∧ ∀ x ∈ qs, x ≤ m
def IsMin (qs : List Rat) (m : Rat) : Prop := m ∈ qs ∧ ∀ x ∈ qs, m ≤ x
theorem cmpr_pos {a b : Rat} : cmpr a b > 0 ↔ b < a := by
  unfold cmpr
  by_cases e : a = b
  · rw [if_pos e]
    subst e
    exact ⟨fun z => absurd z (by decide), fun z => absurd z Rat.lt_irrefl⟩
  · rw [if_neg e]
    by_cases l : b < a
    · rw [if_pos l]; exact ⟨fun _ => l, fun _ => by decide⟩
    · rw [if_neg l]; exact ⟨fun z => absurd z (by decide), fun z => absurd z l⟩
theorem cmpr_neg {a b : Rat} : cmpr a b < 0 ↔ a < b := by
  unfold cmpr
  by_cases e : a = b
  · rw [if_pos e]
    subst e
    exact ⟨fun z => absurd z (by decide), fun z => absurd z Rat.lt_irrefl⟩
  · rw [if_neg e]
    by_cases l : b < a
    · rw [if_pos l]; exact ⟨fun z => absurd z (by decide), fun z => absurd z (Rat.not_lt.mpr (Rat.le_of_lt l))⟩
    · rw [if_neg l]; exact ⟨fun _ => Rat.lt_of_le_of_ne (Rat.not_lt.mp l) e, fun _ => by decide⟩
section
variable {n : Nat} {S : Store} {Q : D → Store → Prop} {E : Ex}
theorem seq_lst {k : Nat} {xs : List D} (h : S[k]? = some (.lst xs)) : seqOf S (.ref k) = some xs := by
  unfold seqOf
  simp only [h]
theorem list_lst {k : Nat} {xs : List D} (h : S[k]? = some (.lst xs)) : listOf S (.ref k) = some xs := by
  unfold listOf
  simp only [h]
theorem kept_self {k : Nat} : kept S S [k] := fun _ _ => rfl
theorem w_greatest {k K : Nat} {qs : List Rat} (hS : S[k]? = some (.lst (qs.map fr))) (hq : qs ≠ []) (hb : ∀ q ∈ qs, Bd K q) (hK : K + K < 100000000) (h : ∀ m, IsMax qs m → Q (fr m) S) : Wx (run P (n + 2) 5 [.ref k]) S Q E := by
  rw [r_greatest_of, Wx_end]
  unfold b_greatest_of
  cases qs with
  | nil => exact absurd rfl hq
  | cons q0 qr =>
    simp only [Wx_var, Wx_con, Wx_glob, Wx_bin, Wx_neg, Wx_negI, Wx_not, Wx_cmp, Wx_and, Wx_or, Wx_ite, Wx_tup, Wx_lst, Wx_idx, Wx_slice, Wx_call, Wx_bi, Wx_isi, Wx_meth, Wx_nil, Wx_cons, Wx_onone, Wx_osome, Wx_cnone, Wx_csome, Wx_add, Wx_addT, Wx_sub, Wx_mul, Wx_fdiv, Wx_mod, Wx_tbl, Wx_tint, Wx_eqI, Wx_eqS, Wx_eqB, Wx_neI, Wx_ltI, Wx_leI, Wx_gtI, Wx_geI, Wx_idxT, atD_0, atD_1, atD_2, Wx_abs, Wx_intI, Wx_intB, Wx_cutT, Wx_srcT, Wx_range, Wx_ret, Wx_cond, List.getElem?_cons_zero, List.getElem?_cons_succ, List.length_cons, List.length_nil, List.set_cons_zero, List.set_cons_succ, decide_eq_true_eq, bne_iff_ne, Wx_turn, wipeD, Ws_nil, Ws_cons, Ws_asg, Ws_par, Ws_expr, Ws_ret, Ws_retn, Ws_pass, Ws_ite, asgD, setAll]
    rw [Wx_idxL (seq_lst hS)]
    simp only [List.map_cons, Wx_var, Wx_con, Wx_glob, Wx_bin, Wx_neg, Wx_negI, Wx_not, Wx_cmp, Wx_and, Wx_or, Wx_ite, Wx_tup, Wx_lst, Wx_idx, Wx_slice, Wx_call, Wx_bi, Wx_isi, Wx_meth, Wx_nil, Wx_cons, Wx_onone, Wx_osome, Wx_cnone, Wx_csome, Wx_add, Wx_addT, Wx_sub, Wx_mul, Wx_fdiv, Wx_mod, Wx_tbl, Wx_tint, Wx_eqI, Wx_eqS, Wx_eqB, Wx_neI, Wx_ltI, Wx_leI, Wx_gtI, Wx_geI, Wx_idxT, atD_0, atD_1, atD_2, Wx_abs, Wx_intI, Wx_intB, Wx_cutT, Wx_srcT, Wx_range, Wx_ret, Wx_cond, List.getElem?_cons_zero, List.getElem?_cons_succ, List.length_cons, List.length_nil, List.set_cons_zero, List.set_cons_succ, decide_eq_true_eq, bne_iff_ne, Wx_turn, wipeD, Ws_nil, Ws_cons, Ws_asg, Ws_par, Ws_expr, Ws_ret, Ws_retn, Ws_pass, Ws_ite, asgD, setAll, Ws_for]
    rw [Wx_srcL (seq_lst hS)]
    refine Ws_forD (I := fun ds δ S' => S' = S ∧ ∃ (done qs' : List Rat) (f : Rat) (o : Option D), ds = qs'.map fr ∧ done ++ qs' = q0 :: qr ∧ δ = [some (.ref k), some (fr f), o] ∧ IsMax (q0 :: done) f) ?_ ?_ ⟨rfl, [], q0 :: qr, q0, none, rfl, rfl, rfl, by simp [IsMax, Rat.le_refl]⟩
    · rintro d ds δ S' ⟨rfl, done, qs', f, o, e1, e2, rfl, hm⟩
      cases qs' with
      | nil => cases e1
      | cons q qs' =>
        cases e1
        have mq : q ∈ q0 :: qr := by rw [← e2]; simp
        have mf : f ∈ q0 :: qr := by
          rcases List.mem_cons.mp hm.1 with e | e
          · rw [e]; simp
          · rw [← e2]; simp [e]
        refine ⟨kept_self, _, rfl, Wx_block ?_⟩
        simp only [Wx_var, Wx_con, Wx_glob, Wx_bin, Wx_neg, Wx_negI, Wx_not, Wx_cmp, Wx_and, Wx_or, Wx_ite, Wx_tup, Wx_lst, Wx_idx, Wx_slice, Wx_call, Wx_bi, Wx_isi, Wx_meth, Wx_nil, Wx_cons, Wx_onone, Wx_osome, Wx_cnone, Wx_csome, Wx_add, Wx_addT, Wx_sub, Wx_mul, Wx_fdiv, Wx_mod, Wx_tbl, Wx_tint, Wx_eqI, Wx_eqS, Wx_eqB, Wx_neI, Wx_ltI, Wx_leI, Wx_gtI, Wx_geI, Wx_idxT, atD_0, atD_1, atD_2, Wx_abs, Wx_intI, Wx_intB, Wx_cutT, Wx_srcT, Wx_range, Wx_ret, Wx_cond, List.getElem?_cons_zero, List.getElem?_cons_succ, List.length_cons, List.length_nil, List.set_cons_zero, List.set_cons_succ, decide_eq_true_eq, bne_iff_ne, Wx_turn, wipeD, Ws_nil, Ws_cons, Ws_asg, Ws_par, Ws_expr, Ws_ret, Ws_retn, Ws_pass, Ws_ite, asgD, setAll]
        refine w_compared q f (hb q mq) (hb f mf) hK ?_
        simp only [Wx_var, Wx_con, Wx_glob, Wx_bin, Wx_neg, Wx_negI, Wx_not, Wx_cmp, Wx_and, Wx_or, Wx_ite, Wx_tup, Wx_lst, Wx_idx, Wx_slice, Wx_call, Wx_bi, Wx_isi, Wx_meth, Wx_nil, Wx_cons, Wx_onone, Wx_osome, Wx_cnone, Wx_csome, Wx_add, Wx_addT, Wx_sub, Wx_mul, Wx_fdiv, Wx_mod, Wx_tbl, Wx_tint, Wx_eqI, Wx_eqS, Wx_eqB, Wx_neI, Wx_ltI, Wx_leI, Wx_gtI, Wx_geI, Wx_idxT, atD_0, atD_1, atD_2, Wx_abs, Wx_intI, Wx_intB, Wx_cutT, Wx_srcT, Wx_range, Wx_ret, Wx_cond, List.getElem?_cons_zero, List.getElem?_cons_succ, List.length_cons, List.length_nil, List.set_cons_zero, List.set_cons_succ, decide_eq_true_eq, bne_iff_ne, Wx_turn, wipeD, Ws_nil, Ws_cons, Ws_asg, Ws_par, Ws_expr, Ws_ret, Ws_retn, Ws_pass, Ws_ite, asgD, setAll]
        have e3 : (done ++ [q]) ++ qs' = q0 :: qr := by rw [List.append_assoc]; exact e2
        by_cases l : cmpr q f > 0
        · rw [if_pos l]
          refine ⟨trivial, done ++ [q], qs', q, _, rfl, e3, rfl, by simp, fun x hx => ?_⟩
          have hl := Rat.le_of_lt (cmpr_pos.mp l)
          simp only [List.mem_cons, List.mem_append, List.not_mem_nil, or_false] at hx
          rcases hx with rfl | hx | rfl
          · exact Rat.le_trans (hm.2 _ (by simp)) hl
          · exact Rat.le_trans (hm.2 _ (by simp [hx])) hl
          · exact Rat.le_refl
        · rw [if_neg l]
          refine ⟨trivial, done ++ [q], qs', f, _, rfl, e3, rfl, ?_, fun x hx => ?_⟩
          · rcases List.mem_cons.mp hm.1 with e | e
            · rw [e]; simp
            · simp [e]
          · have hl := Rat.not_lt.mp (mt cmpr_pos.mpr l)
            simp only [List.mem_cons, List.mem_append, List.not_mem_nil, or_false] at hx
            rcases hx with rfl | hx | rfl
            · exact hm.2 _ (by simp)
            · exact hm.2 _ (by simp [hx])
            · exact hl
    · rintro δ S' ⟨rfl, done, qs', f, o, e1, e2, rfl, hm⟩
      cases qs' with
      | cons _ _ => cases e1
      | nil =>
        refine ⟨kept_self, ?_⟩
        simp only [Wx_var, Wx_con, Wx_glob, Wx_bin, Wx_neg, Wx_negI, Wx_not, Wx_cmp, Wx_and, Wx_or, Wx_ite, Wx_tup, Wx_lst, Wx_idx, Wx_slice, Wx_call, Wx_bi, Wx_isi, Wx_meth, Wx_nil, Wx_cons, Wx_onone, Wx_osome, Wx_cnone, Wx_csome, Wx_add, Wx_addT, Wx_sub, Wx_mul, Wx_fdiv, Wx_mod, Wx_tbl, Wx_tint, Wx_eqI, Wx_eqS, Wx_eqB, Wx_neI, Wx_ltI, Wx_leI, Wx_gtI, Wx_geI, Wx_idxT, atD_0, atD_1, atD_2, Wx_abs, Wx_intI, Wx_intB, Wx_cutT, Wx_srcT, Wx_range, Wx_ret, Wx_cond, List.getElem?_cons_zero, List.getElem?_cons_succ, List.length_cons, List.length_nil, List.set_cons_zero, List.set_cons_succ, decide_eq_true_eq, bne_iff_ne, Wx_turn, wipeD, Ws_nil, Ws_cons, Ws_asg, Ws_par, Ws_expr, Ws_ret, Ws_retn, Ws_pass, Ws_ite, asgD, setAll]
        rw [List.append_nil] at e2
        subst e2
        refine h f ⟨?_, fun x hx => hm.2 x (by simp [hx])⟩
        rcases List.mem_cons.mp hm.1 with e | e
        · rw [e]; simp
        · exact e
theorem w_least {k K : Nat} {qs : List Rat} (hS : S[k]? = some (.lst (qs.map fr))) (hq : qs ≠ []) (hb : ∀ q ∈ qs, Bd K q) (hK : K + K < 100000000) (h : ∀ m, IsMin qs m → Q (fr m) S) : Wx (run P (n + 2) 6 [.ref k]) S Q E := by
  rw [r_least_of, Wx_end]
  unfold b_least_of
  cases qs with
  | nil => exact absurd rfl hq
  | cons q0 qr =>
    simp only [Wx_var, Wx_con, Wx_glob, Wx_bin, Wx_neg, Wx_negI, Wx_not, Wx_cmp, Wx_and, Wx_or, Wx_ite, Wx_tup, Wx_lst, Wx_idx, Wx_slice, Wx_call, Wx_bi, Wx_isi, Wx_meth, Wx_nil, Wx_cons, Wx_onone, Wx_osome, Wx_cnone, Wx_csome, Wx_add, Wx_addT, Wx_sub, Wx_mul, Wx_fdiv, Wx_mod, Wx_tbl, Wx_tint, Wx_eqI, Wx_eqS, Wx_eqB, Wx_neI, Wx_ltI, Wx_leI, Wx_gtI, Wx_geI, Wx_idxT, atD_0, atD_1, atD_2, Wx_abs, Wx_intI, Wx_intB, Wx_cutT, Wx_srcT, Wx_range, Wx_ret, Wx_cond, List.getElem?_cons_zero, List.getElem?_cons_succ, List.length_cons, List.length_nil, List.set_cons_zero, List.set_cons_succ, decide_eq_true_eq, bne_iff_ne, Wx_turn, wipeD, Ws_nil, Ws_cons, Ws_asg, Ws_par, Ws_expr, Ws_ret, Ws_retn, Ws_pass, Ws_ite, asgD, setAll]
    rw [Wx_idxL (seq_lst hS)]
    simp only [List.map_cons, Wx_var, Wx_con, Wx_glob, Wx_bin, Wx_neg, Wx_negI, Wx_not, Wx_cmp, Wx_and, Wx_or, Wx_ite, Wx_tup, Wx_lst, Wx_idx, Wx_slice, Wx_call, Wx_bi, Wx_isi, Wx_meth, Wx_nil, Wx_cons, Wx_onone, Wx_osome, Wx_cnone, Wx_csome, Wx_add, Wx_addT, Wx_sub, Wx_mul, Wx_fdiv, Wx_mod, Wx_tbl, Wx_tint, Wx_eqI, Wx_eqS, Wx_eqB, Wx_neI, Wx_ltI, Wx_leI, Wx_gtI, Wx_geI, Wx_idxT, atD_0, atD_1, atD_2, Wx_abs, Wx_intI, Wx_intB, Wx_cutT, Wx_srcT, Wx_range, Wx_ret, Wx_cond, List.getElem?_cons_zero, List.getElem?_cons_succ, List.length_cons, List.length_nil, List.set_cons_zero, List.set_cons_succ, decide_eq_true_eq, bne_iff_ne, Wx_turn, wipeD, Ws_nil, Ws_cons, Ws_asg, Ws_par, Ws_expr, Ws_ret, Ws_retn, Ws_pass, Ws_ite, asgD, setAll, Ws_for]
    rw [Wx_srcL (seq_lst hS)]
    refine Ws_forD (I := fun ds δ S' => S' = S ∧ ∃ (done qs' : List Rat) (f : Rat) (o : Option D), ds = qs'.map fr ∧ done ++ qs' = q0 :: qr ∧ δ = [some (.ref k), some (fr f), o] ∧ IsMin (q0 :: done) f) ?_ ?_ ⟨rfl, [], q0 :: qr, q0, none, rfl, rfl, rfl, by simp [IsMin, Rat.le_refl]⟩
    · rintro d ds δ S' ⟨rfl, done, qs', f, o, e1, e2, rfl, hm⟩
      cases qs' with
      | nil => cases e1
      | cons q qs' =>
        cases e1
        have mq : q ∈ q0 :: qr := by rw [← e2]; simp
        have mf : f ∈ q0 :: qr := by
          rcases List.mem_cons.mp hm.1 with e | e
          · rw [e]; simp
          · rw [← e2]; simp [e]
        refine ⟨kept_self, _, rfl, Wx_block ?_⟩
        simp only [Wx_var, Wx_con, Wx_glob, Wx_bin, Wx_neg, Wx_negI, Wx_not, Wx_cmp, Wx_and, Wx_or, Wx_ite, Wx_tup, Wx_lst, Wx_idx, Wx_slice, Wx_call, Wx_bi, Wx_isi, Wx_meth, Wx_nil, Wx_cons, Wx_onone, Wx_osome, Wx_cnone, Wx_csome, Wx_add, Wx_addT, Wx_sub, Wx_mul, Wx_fdiv, Wx_mod, Wx_tbl, Wx_tint, Wx_eqI, Wx_eqS, Wx_eqB, Wx_neI, Wx_ltI, Wx_leI, Wx_gtI, Wx_geI, Wx_idxT, atD_0, atD_1, atD_2, Wx_abs, Wx_intI, Wx_intB, Wx_cutT, Wx_srcT, Wx_range, Wx_ret, Wx_cond, List.getElem?_cons_zero, List.getElem?_cons_succ, List.length_cons, List.length_nil, List.set_cons_zero, List.set_cons_succ, decide_eq_true_eq, bne_iff_ne, Wx_turn, wipeD, Ws_nil, Ws_cons, Ws_asg, Ws_par, Ws_expr, Ws_ret, Ws_retn, Ws_pass, Ws_ite, asgD, setAll]
        refine w_compared q f (hb q mq) (hb f mf) hK ?_
        simp only [Wx_var, Wx_con, Wx_glob, Wx_bin, Wx_neg, Wx_negI, Wx_not, Wx_cmp, Wx_and, Wx_or, Wx_ite, Wx_tup, Wx_lst, Wx_idx, Wx_slice, Wx_call, Wx_bi, Wx_isi, Wx_meth, Wx_nil, Wx_cons, Wx_onone, Wx_osome, Wx_cnone, Wx_csome, Wx_add, Wx_addT, Wx_sub, Wx_mul, Wx_fdiv, Wx_mod, Wx_tbl, Wx_tint, Wx_eqI, Wx_eqS, Wx_eqB, Wx_neI, Wx_ltI, Wx_leI, Wx_gtI, Wx_geI, Wx_idxT, atD_0, atD_1, atD_2, Wx_abs, Wx_intI, Wx_intB, Wx_cutT, Wx_srcT, Wx_range, Wx_ret, Wx_cond, List.getElem?_cons_zero, List.getElem?_cons_succ, List.length_cons, List.length_nil, List.set_cons_zero, List.set_cons_succ, decide_eq_true_eq, bne_iff_ne, Wx_turn, wipeD, Ws_nil, Ws_cons, Ws_asg, Ws_par, Ws_expr, Ws_ret, Ws_retn, Ws_pass, Ws_ite, asgD, setAll]
        have e3 : (done ++ [q]) ++ qs' = q0 :: qr := by rw [List.append_assoc]; exact e2
        by_cases l : cmpr q f < 0
        · rw [if_pos l]
          refine ⟨trivial, done ++ [q], qs', q, _, rfl, e3, rfl, by simp, fun x hx => ?_⟩
          have hl := Rat.le_of_lt (cmpr_neg.mp l)
          simp only [List.mem_cons, List.mem_append, List.not_mem_nil, or_false] at hx
          rcases hx with rfl | hx | rfl
          · exact Rat.le_trans hl (hm.2 _ (by simp))
          · exact Rat.le_trans hl (hm.2 _ (by simp [hx]))
          · exact Rat.le_refl
        · rw [if_neg l]
          refine ⟨trivial, done ++ [q], qs', f, _, rfl, e3, rfl, ?_, fun x hx => ?_⟩
          · rcases List.mem_cons.mp hm.1 with e | e
            · rw [e]; simp
            · simp [e]
          · have hl := Rat.not_lt.mp (mt cmpr_neg.mpr l)
            simp only [List.mem_cons, List.mem_append, List.not_mem_nil, or_false] at hx
            rcases hx with rfl | hx | rfl
            · exact hm.2 _ (by simp)
            · exact hm.2 _ (by simp [hx])
            · exact hl
    · rintro δ S' ⟨rfl, done, qs', f, o, e1, e2, rfl, hm⟩
      cases qs' with
      | cons _ _ => cases e1
      | nil =>
        refine ⟨kept_self, ?_⟩
        simp only [Wx_var, Wx_con, Wx_glob, Wx_bin, Wx_neg, Wx_negI, Wx_not, Wx_cmp, Wx_and, Wx_or, Wx_ite, Wx_tup, Wx_lst, Wx_idx, Wx_slice, Wx_call, Wx_bi, Wx_isi, Wx_meth, Wx_nil, Wx_cons, Wx_onone, Wx_osome, Wx_cnone, Wx_csome, Wx_add, Wx_addT, Wx_sub, Wx_mul, Wx_fdiv, Wx_mod, Wx_tbl, Wx_tint, Wx_eqI, Wx_eqS, Wx_eqB, Wx_neI, Wx_ltI, Wx_leI, Wx_gtI, Wx_geI, Wx_idxT, atD_0, atD_1, atD_2, Wx_abs, Wx_intI, Wx_intB, Wx_cutT, Wx_srcT, Wx_range, Wx_ret, Wx_cond, List.getElem?_cons_zero, List.getElem?_cons_succ, List.length_cons, List.length_nil, List.set_cons_zero, List.set_cons_succ, decide_eq_true_eq, bne_iff_ne, Wx_turn, wipeD, Ws_nil, Ws_cons, Ws_asg, Ws_par, Ws_expr, Ws_ret, Ws_retn, Ws_pass, Ws_ite, asgD, setAll]
        rw [List.append_nil] at e2
        subst e2
        refine h f ⟨?_, fun x hx => hm.2 x (by simp [hx])⟩
        rcases List.mem_cons.mp hm.1 with e | e
        · rw [e]; simp
        · exact e
end
end K03

set_option Elab.async false
set_option linter.all false
set_option maxRecDepth 100000
set_option maxHeartbeats 2000000
set_option autoImplicit false
/-! k03, the plain law: a sum of fractions; inner parts, counts. -/
namespace K03
open Ev
/-- numbers with their bits -/
abbrev QK := List (Rat × Nat)
def bitsOf : QK → Nat
  | [] => 1
  | (_, k) :: r => (k + 1) + bitsOf r
def sumQ : List Rat → Rat
  | [] => 0
  | q :: r => q + sumQ r
theorem bits_app (a b : QK) : bitsOf (a ++ b) + 1 = bitsOf a + bitsOf b := by
  induction a with
  | nil => simp [bitsOf]; omega
  | cons x a ih => obtain ⟨q, k⟩ := x; simp only [List.cons_append, bitsOf]; omega
theorem sum_app (a b : List Rat) : sumQ (a ++ b) = sumQ a + sumQ b := by
  induction a with
  | nil => simp [sumQ, Rat.zero_add]
  | cons x a ih => simp only [List.cons_append, sumQ, ih, Rat.add_assoc]
theorem ediv_abs (a b : Int) : (a / b).natAbs ≤ a.natAbs := by
  exact Int.natAbs_ediv_le_natAbs a b
theorem bd_divInt {t b : Int} {m : Nat} (hb : 0 < b) (h1 : t.natAbs < 2 ^ m) (h2 : b.natAbs < 2 ^ m) : Bd m (Rat.divInt t b) := by
  refine ⟨?_, ?_⟩
  · rw [Rat.num_divInt, Int.sign_eq_one_of_pos hb, Int.one_mul]
    exact Nat.lt_of_le_of_lt (ediv_abs _ _) h1
  · rw [Rat.den_divInt, if_neg (by omega)]
    exact Nat.lt_of_le_of_lt (Nat.div_le_self _ _) h2
theorem divInt_add_same {t x b : Int} (hb : b ≠ 0) : Rat.divInt (t + x) b = Rat.divInt t b + Rat.divInt x b := by
  rw [Rat.divInt_add_divInt _ _ hb hb, ← Int.add_mul, Rat.divInt_mul_right hb]
theorem two_pow_add {a b m k : Nat} (h1 : a < 2 ^ m) (h2 : b < 2 ^ k) : a * b < 2 ^ (m + k) := by
  rw [Nat.pow_add]
  exact Nat.mul_lt_mul'' h1 h2
section
variable {n : Nat} {S : Store} {Q : D → Store → Prop} {E : Ex}
theorem abs_add_lt {x y : Int} {m : Nat} (h1 : x.natAbs < 2 ^ m) (h2 : y.natAbs < 2 ^ m) : (x + y).natAbs < 2 ^ (m + 1) := by
  rw [Nat.pow_succ]
  omega
theorem abs_mul_lt {x y : Int} {m k : Nat} (h1 : x.natAbs < 2 ^ m) (h2 : y.natAbs < 2 ^ k) : (x * y).natAbs < 2 ^ (m + k) := by
  rw [Int.natAbs_mul]
  exact two_pow_add h1 h2
theorem pow_le {x : Int} {m k : Nat} (h : x.natAbs < 2 ^ m) (hk : m ≤ k) : x.natAbs < 2 ^ k := Nat.lt_of_lt_of_le h (Nat.pow_le_pow_right (by decide) hk)
theorem w_sum {k : Nat} {qs : QK} (hS : S[k]? = some (.lst (qs.map fun p => fr p.1))) (hb : ∀ p ∈ qs, Bd p.2 p.1) (hK : bitsOf qs < 50000000) (h : Q (fr (sumQ (qs.map (·.1)))) S) : Wx (run P (n + 3) 7 [.ref k]) S Q E := by
  rw [r_sum_of, Wx_end]
  unfold b_sum_of
  simp only [Wx_var, Wx_con, Wx_glob, Wx_bin, Wx_neg, Wx_negI, Wx_not, Wx_cmp, Wx_and, Wx_or, Wx_ite, Wx_tup, Wx_lst, Wx_idx, Wx_slice, Wx_call, Wx_bi, Wx_isi, Wx_meth, Wx_nil, Wx_cons, Wx_onone, Wx_osome, Wx_cnone, Wx_csome, Wx_add, Wx_addT, Wx_sub, Wx_mul, Wx_fdiv, Wx_mod, Wx_tbl, Wx_tint, Wx_eqI, Wx_eqS, Wx_eqB, Wx_neI, Wx_ltI, Wx_leI, Wx_gtI, Wx_geI, Wx_idxT, atD_0, atD_1, atD_2, Wx_abs, Wx_intI, Wx_intB, Wx_cutT, Wx_srcT, Wx_range, Wx_ret, Wx_cond, List.getElem?_cons_zero, List.getElem?_cons_succ, List.length_cons, List.length_nil, List.set_cons_zero, List.set_cons_succ, decide_eq_true_eq, bne_iff_ne, Wx_turn, wipeD, Ws_nil, Ws_cons, Ws_asg, Ws_par, Ws_expr, Ws_ret, Ws_retn, Ws_pass, Ws_ite, asgD, setAll, Ws_for]
  refine ⟨by decide, ?_⟩
  rw [Wx_srcL (seq_lst hS)]
  refine Ws_forD (I := fun ds δ S' => S' = S ∧ ∃ (done qs' : QK) (t b : Int) (o : Option D), ds = qs'.map (fun p => fr p.1) ∧ done ++ qs' = qs ∧ δ = [some (.ref k), some (.int t), some (.int b), o] ∧ 0 < b ∧ Rat.divInt t b = sumQ (done.map (·.1)) ∧ t.natAbs < 2 ^ bitsOf done ∧ b.natAbs < 2 ^ bitsOf done) ?_ ?_ ⟨rfl, [], qs, 0, 1, none, rfl, rfl, rfl, by decide, by simp [sumQ], by decide, by decide⟩
  · rintro d ds δ S' ⟨rfl, done, qs', t, b, o, e1, e2, rfl, hb0, hs, h1, h2⟩
    cases qs' with
    | nil => cases e1
    | cons q qs' =>
      obtain ⟨q, kq⟩ := q
      cases e1
      have mq : (q, kq) ∈ qs := by rw [← e2]; simp
      have bq := hb _ mq
      have e3 : (done ++ [(q, kq)]) ++ qs' = qs := by rw [List.append_assoc]; exact e2
      have be : bitsOf (done ++ [(q, kq)]) = bitsOf done + kq + 1 := by
        have := bits_app done [(q, kq)]
        simp only [bitsOf] at this
        omega
      have be2 : bitsOf done + kq + 1 ≤ bitsOf qs := by
        have := bits_app (done ++ [(q, kq)]) qs'
        rw [e3, be] at this
        have : 1 ≤ bitsOf qs' := by
          cases qs' with
          | nil => exact Nat.le_refl _
          | cons x r => obtain ⟨_, _⟩ := x; simp only [bitsOf]; omega
        omega
      have es : sumQ ((done ++ [(q, kq)]).map (·.1)) = sumQ (done.map (·.1)) + q := by
        rw [List.map_append, sum_app]
        simp [sumQ, Rat.add_zero]
      refine ⟨kept_self, _, rfl, Wx_block ?_⟩
      simp only [Wx_var, Wx_con, Wx_glob, Wx_bin, Wx_neg, Wx_negI, Wx_not, Wx_cmp, Wx_and, Wx_or, Wx_ite, Wx_tup, Wx_lst, Wx_idx, Wx_slice, Wx_call, Wx_bi, Wx_isi, Wx_meth, Wx_nil, Wx_cons, Wx_onone, Wx_osome, Wx_cnone, Wx_csome, Wx_add, Wx_addT, Wx_sub, Wx_mul, Wx_fdiv, Wx_mod, Wx_tbl, Wx_tint, Wx_eqI, Wx_eqS, Wx_eqB, Wx_neI, Wx_ltI, Wx_leI, Wx_gtI, Wx_geI, Wx_idxT, atD_0, atD_1, atD_2, Wx_abs, Wx_intI, Wx_intB, Wx_cutT, Wx_srcT, Wx_range, Wx_ret, Wx_cond, List.getElem?_cons_zero, List.getElem?_cons_succ, List.length_cons, List.length_nil, List.set_cons_zero, List.set_cons_succ, decide_eq_true_eq, bne_iff_ne, Wx_turn, wipeD, Ws_nil, Ws_cons, Ws_asg, Ws_par, Ws_expr, Ws_ret, Ws_retn, Ws_pass, Ws_ite, asgD, setAll]
      have dq := den_pos' q
      have qe : Rat.divInt q.num (q.den : Int) = q := Rat.num_divInt_den q
      by_cases l : (q.den : Int) = b
      · rw [if_pos (by simpa using l), Ws_aug]
        simp only [Wx_var, Wx_con, Wx_glob, Wx_bin, Wx_neg, Wx_negI, Wx_not, Wx_cmp, Wx_and, Wx_or, Wx_ite, Wx_tup, Wx_lst, Wx_idx, Wx_slice, Wx_call, Wx_bi, Wx_isi, Wx_meth, Wx_nil, Wx_cons, Wx_onone, Wx_osome, Wx_cnone, Wx_csome, Wx_add, Wx_addT, Wx_sub, Wx_mul, Wx_fdiv, Wx_mod, Wx_tbl, Wx_tint, Wx_eqI, Wx_eqS, Wx_eqB, Wx_neI, Wx_ltI, Wx_leI, Wx_gtI, Wx_geI, Wx_idxT, atD_0, atD_1, atD_2, Wx_abs, Wx_intI, Wx_intB, Wx_cutT, Wx_srcT, Wx_range, Wx_ret, Wx_cond, List.getElem?_cons_zero, List.getElem?_cons_succ, List.length_cons, List.length_nil, List.set_cons_zero, List.set_cons_succ, decide_eq_true_eq, bne_iff_ne, Wx_turn, wipeD, Ws_nil, Ws_cons, Ws_asg, Ws_par, Ws_expr, Ws_ret, Ws_retn, Ws_pass, Ws_ite, asgD, setAll]
        refine ⟨rfl, done ++ [(q, kq)], qs', t + q.num, b, _, rfl, e3, rfl, hb0, ?_, ?_, ?_⟩
        · rw [es, ← hs, divInt_add_same (by omega), ← l, qe]
        · rw [be]
          exact pow_le (abs_add_lt (m := bitsOf done + kq) (pow_le h1 (by omega)) (pow_le bq.1 (by omega))) (by omega)
        · rw [be]
          exact pow_le h2 (by omega)
      · rw [if_neg (by simpa using l)]
        have p1 : (t * (q.den : Int) + q.num * b).natAbs < 2 ^ (bitsOf done + kq + 1) := by
          refine abs_add_lt ?_ ?_
          · exact abs_mul_lt h1 (bd_den bq)
          · rw [Int.mul_comm]; exact abs_mul_lt h2 bq.1
        have p2 : (b * (q.den : Int)).natAbs < 2 ^ (bitsOf done + kq + 1) := pow_le (abs_mul_lt h2 (bd_den bq)) (by omega)
        have pb : 0 < b * (q.den : Int) := Int.mul_pos hb0 dq
        refine ⟨mulOk_of h1 (bd_den bq) (by omega), mulOk_of bq.1 h2 (by omega), mulOk_of h2 (bd_den bq) (by omega), w_lowest _ _ (by omega) ?_⟩
        simp only [Wx_var, Wx_con, Wx_glob, Wx_bin, Wx_neg, Wx_negI, Wx_not, Wx_cmp, Wx_and, Wx_or, Wx_ite, Wx_tup, Wx_lst, Wx_idx, Wx_slice, Wx_call, Wx_bi, Wx_isi, Wx_meth, Wx_nil, Wx_cons, Wx_onone, Wx_osome, Wx_cnone, Wx_csome, Wx_add, Wx_addT, Wx_sub, Wx_mul, Wx_fdiv, Wx_mod, Wx_tbl, Wx_tint, Wx_eqI, Wx_eqS, Wx_eqB, Wx_neI, Wx_ltI, Wx_leI, Wx_gtI, Wx_geI, Wx_idxT, atD_0, atD_1, atD_2, Wx_abs, Wx_intI, Wx_intB, Wx_cutT, Wx_srcT, Wx_range, Wx_ret, Wx_cond, List.getElem?_cons_zero, List.getElem?_cons_succ, List.length_cons, List.length_nil, List.set_cons_zero, List.set_cons_succ, decide_eq_true_eq, bne_iff_ne, Wx_turn, wipeD, Ws_nil, Ws_cons, Ws_asg, Ws_par, Ws_expr, Ws_ret, Ws_retn, Ws_pass, Ws_ite, asgD, setAll]
        have er : Rat.divInt (t * (q.den : Int) + q.num * b) (b * (q.den : Int)) = sumQ (done.map (·.1)) + q := by
          rw [← hs]
          conv => rhs; rw [← qe]
          rw [Rat.divInt_add_divInt _ _ (by omega) (by omega)]
        have bd := bd_divInt pb p1 p2
        refine ⟨trivial, done ++ [(q, kq)], qs', _, _, _, rfl, e3, rfl, den_pos' _, ?_, ?_, ?_⟩
        · rw [Rat.num_divInt_den, es, er]
        · rw [be]; exact bd.1
        · rw [be, Int.natAbs_natCast]; exact bd.2
  · rintro δ S' ⟨rfl, done, qs', t, b, o, e1, e2, rfl, hb0, hs, h1, h2⟩
    cases qs' with
    | cons _ _ => cases e1
    | nil =>
      refine ⟨kept_self, ?_⟩
      simp only [Wx_var, Wx_con, Wx_glob, Wx_bin, Wx_neg, Wx_negI, Wx_not, Wx_cmp, Wx_and, Wx_or, Wx_ite, Wx_tup, Wx_lst, Wx_idx, Wx_slice, Wx_call, Wx_bi, Wx_isi, Wx_meth, Wx_nil, Wx_cons, Wx_onone, Wx_osome, Wx_cnone, Wx_csome, Wx_add, Wx_addT, Wx_sub, Wx_mul, Wx_fdiv, Wx_mod, Wx_tbl, Wx_tint, Wx_eqI, Wx_eqS, Wx_eqB, Wx_neI, Wx_ltI, Wx_leI, Wx_gtI, Wx_geI, Wx_idxT, atD_0, atD_1, atD_2, Wx_abs, Wx_intI, Wx_intB, Wx_cutT, Wx_srcT, Wx_range, Wx_ret, Wx_cond, List.getElem?_cons_zero, List.getElem?_cons_succ, List.length_cons, List.length_nil, List.set_cons_zero, List.set_cons_succ, decide_eq_true_eq, bne_iff_ne, Wx_turn, wipeD, Ws_nil, Ws_cons, Ws_asg, Ws_par, Ws_expr, Ws_ret, Ws_retn, Ws_pass, Ws_ite, asgD, setAll]
      rw [List.append_nil] at e2
      subst e2
      refine w_lowest t b (by omega) ?_
      rw [hs]
      exact h
end
end K03

set_option Elab.async false
set_option linter.all false
set_option maxRecDepth 100000
set_option maxHeartbeats 2000000
set_option autoImplicit false
/-! k03, the plain law: formulas, their parts and counts. -/
namespace K03
open Ev
mutual
inductive F where
  | sum (rs : Rs)
  | top (g : Bool) (fs : Fs)
  | size (f : F)
  | held (f : F)
inductive Rs where
  | nil
  | leaf (w : Rat) (i : Nat) (r : Rs)
  | node (w : Rat) (f : F) (r : Rs)
inductive Fs where
  | nil
  | cons (f : F) (r : Fs)
end
def gtag (g : Bool) : PySem.Str := if g then "greatest" else "least"
mutual
def F.d : F → D
  | .sum rs => .tup [.str "sum", .tup rs.d]
  | .top g fs => .tup [.str (gtag g), .tup fs.d]
  | .size f => .tup [.str "size", f.d]
  | .held f => .tup [.str "held", f.d]
def Rs.d : Rs → List D
  | .nil => []
  | .leaf w i r => .tup [fr w, .int (i : Int)] :: r.d
  | .node w f r => .tup [fr w, f.d] :: r.d
def Fs.d : Fs → List D
  | .nil => []
  | .cons f r => f.d :: r.d
end
mutual
def F.dep : F → Nat
  | .sum rs => rs.dep + 1
  | .top _ fs => fs.dep + 1
  | .size f => f.dep + 1
  | .held f => f.dep + 1
def Rs.dep : Rs → Nat
  | .nil => 0
  | .leaf _ _ r => r.dep
  | .node _ f r => max f.dep r.dep
def Fs.dep : Fs → Nat
  | .nil => 0
  | .cons f r => max f.dep r.dep
end
def Rs.inner : Rs → List F
  | .nil => []
  | .leaf _ _ r => r.inner
  | .node _ f r => f :: r.inner
def Fs.list : Fs → List F
  | .nil => []
  | .cons f r => f :: r.list
def F.inner : F → List F
  | .sum rs => rs.inner
  | .top _ fs => fs.list
  | .size f => [f]
  | .held f => [f]
theorem Rs.dep_inner : ∀ {rs : Rs} {f : F}, f ∈ rs.inner → f.dep ≤ rs.dep
  | .leaf _ _ r, f, h => by
    have := Rs.dep_inner (rs := r) (f := f) h
    unfold Rs.dep
    exact this
  | .node _ g r, f, h => by
    unfold Rs.dep
    rcases List.mem_cons.mp h with rfl | h
    · exact Nat.le_max_left _ _
    · exact Nat.le_trans (Rs.dep_inner h) (Nat.le_max_right _ _)
theorem Fs.dep_list : ∀ {rs : Fs} {f : F}, f ∈ rs.list → f.dep ≤ rs.dep
  | .cons g r, f, h => by
    unfold Fs.dep
    rcases List.mem_cons.mp h with rfl | h
    · exact Nat.le_max_left _ _
    · exact Nat.le_trans (Fs.dep_list h) (Nat.le_max_right _ _)
theorem F.dep_inner {f g : F} (h : g ∈ f.inner) : g.dep < f.dep := by
  cases f with
  | sum rs => exact Nat.lt_succ_of_le (Rs.dep_inner h)
  | top b fs => exact Nat.lt_succ_of_le (Fs.dep_list h)
  | size f => rw [List.mem_singleton.mp h]; exact Nat.lt_succ_self _
  | held f => rw [List.mem_singleton.mp h]; exact Nat.lt_succ_self _
theorem Fs.d_list : ∀ {fs : Fs}, fs.d = fs.list.map F.d
  | .nil => rfl
  | .cons f r => by unfold Fs.d Fs.list; rw [List.map_cons, Fs.d_list]
section
variable {S : Store} {E : Ex}
theorem F.d_tup (f : F) : ∃ ds, f.d = .tup ds := by cases f <;> (unfold F.d; exact ⟨_, rfl⟩)
theorem Wx_isT {ds : List D} {Q : Bool → Store → Prop} : Wx (isinstD [.tuple] (.tup ds)) S Q E = Q true S := rfl
theorem Wx_isTI {i : Int} {Q : Bool → Store → Prop} : Wx (isinstD [.tuple] (.int i)) S Q E = Q false S := rfl
theorem Wx_isI {i : Int} {Q : Bool → Store → Prop} : Wx (isinstD [.int] (.int i)) S Q E = Q true S := rfl
theorem Wx_isIT {ds : List D} {Q : Bool → Store → Prop} : Wx (isinstD [.int] (.tup ds)) S Q E = Q false S := rfl
theorem Wx_in2 {x : PySem.Str} {Q : Bool → Store → Prop} : Wx (cmpD .in_ (.str x) (.tup [.str "greatest", .str "least"])) S Q E = Q (("greatest" : PySem.Str) == x || ("least" : PySem.Str) == x) S := by
  show Q _ S = _
  simp only [List.any_cons, List.any_nil, Bool.or_false, flatEq]
end
theorem t1 : (("sum" : PySem.Str) == "sum") = true := by decide +kernel
theorem t2 : (("sum" : PySem.Str) == "greatest") = false := by decide +kernel
theorem t3 : (("sum" : PySem.Str) == "least") = false := by decide +kernel
theorem t4 : (("sum" : PySem.Str) == "size") = false := by decide +kernel
theorem t5 : (("sum" : PySem.Str) == "held") = false := by decide +kernel
theorem t6 : (("size" : PySem.Str) == "sum") = false := by decide +kernel
theorem t7 : (("size" : PySem.Str) == "greatest") = false := by decide +kernel
theorem t8 : (("size" : PySem.Str) == "least") = false := by decide +kernel
theorem t9 : (("size" : PySem.Str) == "size") = true := by decide +kernel
theorem t10 : (("size" : PySem.Str) == "held") = false := by decide +kernel
theorem t11 : (("held" : PySem.Str) == "sum") = false := by decide +kernel
theorem t12 : (("held" : PySem.Str) == "greatest") = false := by decide +kernel
theorem t13 : (("held" : PySem.Str) == "least") = false := by decide +kernel
theorem t14 : (("held" : PySem.Str) == "size") = false := by decide +kernel
theorem t15 : (("held" : PySem.Str) == "held") = true := by decide +kernel
theorem t16 (g : Bool) : (gtag g == ("sum" : PySem.Str)) = false := by cases g <;> decide +kernel
theorem t17 (g : Bool) : (gtag g == ("size" : PySem.Str)) = false := by cases g <;> decide +kernel
theorem t18 (g : Bool) : (gtag g == ("held" : PySem.Str)) = false := by cases g <;> decide +kernel
theorem t19 (g : Bool) : (gtag g == ("greatest" : PySem.Str)) = g := by cases g <;> decide +kernel
theorem t20 (g : Bool) : (("greatest" : PySem.Str) == gtag g || ("least" : PySem.Str) == gtag g) = true := by cases g <;> decide +kernel
theorem t21 : (("greatest" : PySem.Str) == "sum" || ("least" : PySem.Str) == "sum") = false := by decide +kernel
theorem t22 : (("greatest" : PySem.Str) == "size" || ("least" : PySem.Str) == "size") = false := by decide +kernel
theorem t23 : (("greatest" : PySem.Str) == "held" || ("least" : PySem.Str) == "held") = false := by decide +kernel
section
variable {m : Nat} {S : Store} {Q : D → Store → Prop} {E : Ex}
theorem keptNil {S0 S : Store} : kept S0 S [] := fun _ h => by cases h
theorem each_rs {n : Nat} {x y z : Option D} : ∀ {rs : Rs} {Q : List D → Store → Prop}, Q (rs.inner.map F.d) S → Wx (eachD S [] (turnC (.tup [1, 2]) [1, 2] [x, y, z] (denC (run P n) (.some (.isinst (.var 2) [.tuple]))) (denE (run P n) (.var 2))) rs.d) S Q NoEx
  | .nil, Q, h => by
    unfold Rs.d
    rw [Wx_each_nil]
    exact ⟨keptNil, h⟩
  | .leaf w i r, Q, h => by
    unfold Rs.d
    rw [Wx_each_cons]
    refine ⟨keptNil, ?_⟩
    simp only [Wx_var, Wx_con, Wx_glob, Wx_bin, Wx_neg, Wx_negI, Wx_not, Wx_cmp, Wx_and, Wx_or, Wx_ite, Wx_tup, Wx_lst, Wx_idx, Wx_slice, Wx_call, Wx_bi, Wx_isi, Wx_meth, Wx_nil, Wx_cons, Wx_onone, Wx_osome, Wx_cnone, Wx_csome, Wx_add, Wx_addT, Wx_sub, Wx_mul, Wx_fdiv, Wx_mod, Wx_tbl, Wx_tint, Wx_eqI, Wx_eqS, Wx_eqB, Wx_neI, Wx_ltI, Wx_leI, Wx_gtI, Wx_geI, Wx_idxT, atD_0, atD_1, atD_2, Wx_abs, Wx_intI, Wx_intB, Wx_cutT, Wx_srcT, Wx_range, Wx_ret, Wx_cond, List.getElem?_cons_zero, List.getElem?_cons_succ, List.length_cons, List.length_nil, List.set_cons_zero, List.set_cons_succ, decide_eq_true_eq, bne_iff_ne, Wx_turn, wipeD, Ws_nil, Ws_cons, Ws_asg, Ws_par, Ws_expr, Ws_ret, Ws_retn, Ws_pass, Ws_ite, asgD, setAll, Wx_isTI, Bool.false_eq_true, if_false, List.nil_append]
    exact each_rs h
  | .node w f r, Q, h => by
    unfold Rs.d
    rw [Wx_each_cons]
    refine ⟨keptNil, ?_⟩
    obtain ⟨ds, e⟩ := f.d_tup
    rw [e]
    simp only [Wx_var, Wx_con, Wx_glob, Wx_bin, Wx_neg, Wx_negI, Wx_not, Wx_cmp, Wx_and, Wx_or, Wx_ite, Wx_tup, Wx_lst, Wx_idx, Wx_slice, Wx_call, Wx_bi, Wx_isi, Wx_meth, Wx_nil, Wx_cons, Wx_onone, Wx_osome, Wx_cnone, Wx_csome, Wx_add, Wx_addT, Wx_sub, Wx_mul, Wx_fdiv, Wx_mod, Wx_tbl, Wx_tint, Wx_eqI, Wx_eqS, Wx_eqB, Wx_neI, Wx_ltI, Wx_leI, Wx_gtI, Wx_geI, Wx_idxT, atD_0, atD_1, atD_2, Wx_abs, Wx_intI, Wx_intB, Wx_cutT, Wx_srcT, Wx_range, Wx_ret, Wx_cond, List.getElem?_cons_zero, List.getElem?_cons_succ, List.length_cons, List.length_nil, List.set_cons_zero, List.set_cons_succ, decide_eq_true_eq, bne_iff_ne, Wx_turn, wipeD, Ws_nil, Ws_cons, Ws_asg, Ws_par, Ws_expr, Ws_ret, Ws_retn, Ws_pass, Ws_ite, asgD, setAll, Wx_isT, if_true, List.singleton_append]
    rw [← e]
    exact each_rs h
theorem w_inner (f : F) (hm : 1 ≤ m) (h : Q (.ref S.length) (S ++ [Ob.lst (f.inner.map F.d)])) (hl : f.inner.length ≤ line) : Wx (run P m 8 [f.d]) S Q E := by
  obtain ⟨n, rfl⟩ : ∃ n, m = n + 1 := ⟨m - 1, by omega⟩
  rw [r_inner_of, Wx_end]
  unfold b_inner_of
  cases f with
  | sum rs =>
    unfold F.d
    simp only [Wx_var, Wx_con, Wx_glob, Wx_bin, Wx_neg, Wx_negI, Wx_not, Wx_cmp, Wx_and, Wx_or, Wx_ite, Wx_tup, Wx_lst, Wx_idx, Wx_slice, Wx_call, Wx_bi, Wx_isi, Wx_meth, Wx_nil, Wx_cons, Wx_onone, Wx_osome, Wx_cnone, Wx_csome, Wx_add, Wx_addT, Wx_sub, Wx_mul, Wx_fdiv, Wx_mod, Wx_tbl, Wx_tint, Wx_eqI, Wx_eqS, Wx_eqB, Wx_neI, Wx_ltI, Wx_leI, Wx_gtI, Wx_geI, Wx_idxT, atD_0, atD_1, atD_2, Wx_abs, Wx_intI, Wx_intB, Wx_cutT, Wx_srcT, Wx_range, Wx_ret, Wx_cond, List.getElem?_cons_zero, List.getElem?_cons_succ, List.length_cons, List.length_nil, List.set_cons_zero, List.set_cons_succ, decide_eq_true_eq, bne_iff_ne, Wx_turn, wipeD, Ws_nil, Ws_cons, Ws_asg, Ws_par, Ws_expr, Ws_ret, Ws_retn, Ws_pass, Ws_ite, asgD, setAll, t1, if_true, Wx_comp]
    refine each_rs ?_
    exact ⟨by rw [List.length_map]; exact hl, h⟩
  | top g fs =>
    unfold F.d
    simp only [Wx_var, Wx_con, Wx_glob, Wx_bin, Wx_neg, Wx_negI, Wx_not, Wx_cmp, Wx_and, Wx_or, Wx_ite, Wx_tup, Wx_lst, Wx_idx, Wx_slice, Wx_call, Wx_bi, Wx_isi, Wx_meth, Wx_nil, Wx_cons, Wx_onone, Wx_osome, Wx_cnone, Wx_csome, Wx_add, Wx_addT, Wx_sub, Wx_mul, Wx_fdiv, Wx_mod, Wx_tbl, Wx_tint, Wx_eqI, Wx_eqS, Wx_eqB, Wx_neI, Wx_ltI, Wx_leI, Wx_gtI, Wx_geI, Wx_idxT, atD_0, atD_1, atD_2, Wx_abs, Wx_intI, Wx_intB, Wx_cutT, Wx_srcT, Wx_range, Wx_ret, Wx_cond, List.getElem?_cons_zero, List.getElem?_cons_succ, List.length_cons, List.length_nil, List.set_cons_zero, List.set_cons_succ, decide_eq_true_eq, bne_iff_ne, Wx_turn, wipeD, Ws_nil, Ws_cons, Ws_asg, Ws_par, Ws_expr, Ws_ret, Ws_retn, Ws_pass, Ws_ite, asgD, setAll, t16, if_false, Wx_in2, t20, if_true, Bool.false_eq_true]
    refine ⟨by decide, ?_⟩
    rw [Fs.d_list, Wx_list rfl]
    exact h
  | size f =>
    unfold F.d
    simp only [Wx_var, Wx_con, Wx_glob, Wx_bin, Wx_neg, Wx_negI, Wx_not, Wx_cmp, Wx_and, Wx_or, Wx_ite, Wx_tup, Wx_lst, Wx_idx, Wx_slice, Wx_call, Wx_bi, Wx_isi, Wx_meth, Wx_nil, Wx_cons, Wx_onone, Wx_osome, Wx_cnone, Wx_csome, Wx_add, Wx_addT, Wx_sub, Wx_mul, Wx_fdiv, Wx_mod, Wx_tbl, Wx_tint, Wx_eqI, Wx_eqS, Wx_eqB, Wx_neI, Wx_ltI, Wx_leI, Wx_gtI, Wx_geI, Wx_idxT, atD_0, atD_1, atD_2, Wx_abs, Wx_intI, Wx_intB, Wx_cutT, Wx_srcT, Wx_range, Wx_ret, Wx_cond, List.getElem?_cons_zero, List.getElem?_cons_succ, List.length_cons, List.length_nil, List.set_cons_zero, List.set_cons_succ, decide_eq_true_eq, bne_iff_ne, Wx_turn, wipeD, Ws_nil, Ws_cons, Ws_asg, Ws_par, Ws_expr, Ws_ret, Ws_retn, Ws_pass, Ws_ite, asgD, setAll, t6, if_false, Wx_in2, t22, if_true, Bool.false_eq_true]
    exact ⟨by decide, by decide, h⟩
  | held f =>
    unfold F.d
    simp only [Wx_var, Wx_con, Wx_glob, Wx_bin, Wx_neg, Wx_negI, Wx_not, Wx_cmp, Wx_and, Wx_or, Wx_ite, Wx_tup, Wx_lst, Wx_idx, Wx_slice, Wx_call, Wx_bi, Wx_isi, Wx_meth, Wx_nil, Wx_cons, Wx_onone, Wx_osome, Wx_cnone, Wx_csome, Wx_add, Wx_addT, Wx_sub, Wx_mul, Wx_fdiv, Wx_mod, Wx_tbl, Wx_tint, Wx_eqI, Wx_eqS, Wx_eqB, Wx_neI, Wx_ltI, Wx_leI, Wx_gtI, Wx_geI, Wx_idxT, atD_0, atD_1, atD_2, Wx_abs, Wx_intI, Wx_intB, Wx_cutT, Wx_srcT, Wx_range, Wx_ret, Wx_cond, List.getElem?_cons_zero, List.getElem?_cons_succ, List.length_cons, List.length_nil, List.set_cons_zero, List.set_cons_succ, decide_eq_true_eq, bne_iff_ne, Wx_turn, wipeD, Ws_nil, Ws_cons, Ws_asg, Ws_par, Ws_expr, Ws_ret, Ws_retn, Ws_pass, Ws_ite, asgD, setAll, t11, if_false, Wx_in2, t23, if_true, Bool.false_eq_true]
    exact ⟨by decide, by decide, h⟩
end
end K03

set_option Elab.async false
set_option linter.all false
set_option maxRecDepth 100000
set_option maxHeartbeats 2000000
set_option autoImplicit false
/-! k03, the plain law: counts of formulas. -/
namespace K03
open Ev
mutual
def F.sz : F → Nat
  | .sum rs => rs.sz + 1
  | .top _ fs => fs.sz + 1
  | .size f => f.sz + 1
  | .held f => f.sz + 1
def Rs.sz : Rs → Nat
  | .nil => 0
  | .leaf _ _ r => r.sz + 1
  | .node _ f r => f.sz + r.sz + 1
def Fs.sz : Fs → Nat
  | .nil => 0
  | .cons f r => f.sz + r.sz + 1
end
mutual
def F.fold (A : Nat → List Int → Int) : F → Int
  | .sum rs => A 0 (rs.folds A)
  | .top g fs => A (if g then 1 else 2) (fs.folds A)
  | .size f => A 3 [f.fold A]
  | .held f => A 4 [f.fold A]
def Rs.folds (A : Nat → List Int → Int) : Rs → List Int
  | .nil => []
  | .leaf _ _ r => r.folds A
  | .node _ f r => f.fold A :: r.folds A
def Fs.folds (A : Nat → List Int → Int) : Fs → List Int
  | .nil => []
  | .cons f r => f.fold A :: r.folds A
end
def F.tag : F → Nat
  | .sum _ => 0
  | .top g _ => if g then 1 else 2
  | .size _ => 3
  | .held _ => 4
theorem Rs.folds_eq (A : Nat → List Int → Int) : ∀ (rs : Rs), rs.folds A = rs.inner.map (·.fold A)
  | .nil => rfl
  | .leaf _ _ r => by unfold Rs.folds Rs.inner; exact Rs.folds_eq A r
  | .node _ f r => by unfold Rs.folds Rs.inner; rw [List.map_cons, Rs.folds_eq A r]
theorem Fs.folds_eq (A : Nat → List Int → Int) : ∀ (rs : Fs), rs.folds A = rs.list.map (·.fold A)
  | .nil => rfl
  | .cons f r => by unfold Fs.folds Fs.list; rw [List.map_cons, Fs.folds_eq A r]
theorem F.fold_eq (A : Nat → List Int → Int) (f : F) : f.fold A = A f.tag (f.inner.map (·.fold A)) := by
  cases f with
  | sum rs => show A 0 (rs.folds A) = _; rw [Rs.folds_eq]; rfl
  | top g fs => show A _ (fs.folds A) = _; rw [Fs.folds_eq]; rfl
  | size f => rfl
  | held f => rfl
theorem Rs.sz_inner : ∀ {rs : Rs}, rs.inner.length ≤ rs.sz ∧ ∀ f ∈ rs.inner, f.sz ≤ rs.sz
  | .nil => ⟨Nat.le_refl _, fun f h => by cases h⟩
  | .leaf _ _ r => by
    obtain ⟨h1, h2⟩ := Rs.sz_inner (rs := r)
    exact ⟨Nat.le_succ_of_le h1, fun f h => Nat.le_succ_of_le (h2 f h)⟩
  | .node _ g r => by
    obtain ⟨h1, h2⟩ := Rs.sz_inner (rs := r)
    refine ⟨?_, fun f h => ?_⟩
    · show r.inner.length + 1 ≤ g.sz + r.sz + 1; omega
    · show f.sz ≤ g.sz + r.sz + 1
      rcases List.mem_cons.mp h with rfl | h
      · omega
      · have := h2 f h; omega
theorem Fs.sz_list : ∀ {rs : Fs}, rs.list.length ≤ rs.sz ∧ ∀ f ∈ rs.list, f.sz ≤ rs.sz
  | .nil => ⟨Nat.le_refl _, fun f h => by cases h⟩
  | .cons g r => by
    obtain ⟨h1, h2⟩ := Fs.sz_list (rs := r)
    refine ⟨?_, fun f h => ?_⟩
    · show r.list.length + 1 ≤ g.sz + r.sz + 1; omega
    · show f.sz ≤ g.sz + r.sz + 1
      rcases List.mem_cons.mp h with rfl | h
      · omega
      · have := h2 f h; omega
theorem F.sz_inner {f : F} : f.inner.length ≤ f.sz ∧ ∀ g ∈ f.inner, g.sz < f.sz := by
  cases f with
  | sum rs => obtain ⟨h1, h2⟩ := Rs.sz_inner (rs := rs); exact ⟨Nat.le_succ_of_le h1, fun g h => Nat.lt_succ_of_le (h2 g h)⟩
  | top b fs => obtain ⟨h1, h2⟩ := Fs.sz_list (rs := fs); exact ⟨Nat.le_succ_of_le h1, fun g h => Nat.lt_succ_of_le (h2 g h)⟩
  | size f => exact ⟨Nat.succ_le_succ (Nat.zero_le _), fun g h => by rw [List.mem_singleton.mp h]; exact Nat.lt_succ_self _⟩
  | held f => exact ⟨Nat.succ_le_succ (Nat.zero_le _), fun g h => by rw [List.mem_singleton.mp h]; exact Nat.lt_succ_self _⟩
/-- the store has only grown -/
theorem pre_kept {S0 S1 S : Store} {k : Nat} (h : S1 <+: S) (hk : S1[k]? = S0[k]?) (hl : k < S1.length) : kept S0 S [k] := by
  intro j hj
  have : j = k := by simpa using hj
  subst this
  obtain ⟨r, rfl⟩ := h
  rw [List.getElem?_append_left hl, hk]
theorem pre_app {S S' : Store} {G : Store} (h : S <+: S') : S <+: S' ++ G := h.trans (List.prefix_append _ _)
theorem get_app {S S' : Store} {k : Nat} {o : Ob} (h : S <+: S') (e : S[k]? = some o) : S'[k]? = some o := pre_get h e
theorem get_last {S : Store} {o : Ob} : (S ++ [o])[S.length]? = some o := by simp
section
variable {m : Nat} {S : Store} {Q : D → Store → Prop} {E : Ex}
theorem each_call {C : Calls} {p fi : Nat} {δ : Env} {A : Nat → List Int → Int} {S0 : Store} {k : Nat} (hp : p < δ.length) : ∀ {l : List F}, (∀ x ∈ l, ∀ (S : Store) (Q : D → Store → Prop), (∀ S', S <+: S' → Q (.int (x.fold A)) S') → Wx (C fi [x.d]) S Q NoEx) →
    ∀ {S : Store} {Q : List D → Store → Prop}, S0 <+: S → k < S0.length → (∀ S', S <+: S' → Q (l.map fun x => .int (x.fold A)) S') → Wx (eachD S0 [k] (turnC (.name p) [p] δ (denC C .none) (denE C (.call fi (.cons (.var p) .nil)))) (l.map F.d)) S Q NoEx
  | [], hc, S, Q, h0, hk, h => by
    rw [List.map_nil, Wx_each_nil]
    exact ⟨pre_kept h0 rfl hk, h S (List.prefix_refl _)⟩
  | x :: l, hc, S, Q, h0, hk, h => by
    rw [List.map_cons, Wx_each_cons]
    refine ⟨pre_kept h0 rfl hk, ?_⟩
    have e : ((δ.set p none).set p (some x.d))[p]? = some (some x.d) := by
      rw [List.getElem?_set_self (by rw [List.length_set]; exact hp)]
    simp only [Wx_var, Wx_con, Wx_glob, Wx_bin, Wx_neg, Wx_negI, Wx_not, Wx_cmp, Wx_and, Wx_or, Wx_ite, Wx_tup, Wx_lst, Wx_idx, Wx_slice, Wx_call, Wx_bi, Wx_isi, Wx_meth, Wx_nil, Wx_cons, Wx_onone, Wx_osome, Wx_cnone, Wx_csome, Wx_add, Wx_addT, Wx_sub, Wx_mul, Wx_fdiv, Wx_mod, Wx_tbl, Wx_tint, Wx_eqI, Wx_eqS, Wx_eqB, Wx_neI, Wx_ltI, Wx_leI, Wx_gtI, Wx_geI, Wx_idxT, atD_0, atD_1, atD_2, Wx_abs, Wx_intI, Wx_intB, Wx_cutT, Wx_srcT, Wx_range, Wx_ret, Wx_cond, List.getElem?_cons_zero, List.getElem?_cons_succ, List.length_cons, List.length_nil, List.set_cons_zero, List.set_cons_succ, decide_eq_true_eq, bne_iff_ne, Wx_turn, wipeD, Ws_nil, Ws_cons, Ws_asg, Ws_par, Ws_expr, Ws_ret, Ws_retn, Ws_pass, Ws_ite, asgD, setAll, e, if_true]
    refine hc x List.mem_cons_self S _ fun S1 h1 => ?_
    refine each_call hp (fun y hy => hc y (List.mem_cons_of_mem _ hy)) (h0.trans h1) hk fun S2 h2 => ?_
    exact h S2 (h1.trans h2)
theorem ints_of {A : Nat → List Int → Int} : ∀ {l : List F}, intsD (l.map fun x => D.int (x.fold A)) = some (l.map (·.fold A))
  | [] => rfl
  | x :: l => by
    rw [List.map_cons, List.map_cons]
    unfold intsD
    rw [ints_of]
    rfl
/-- one list of numbers over the parts -/
theorem w_comp {C : Calls} {p fi : Nat} {δ : Env} {A : Nat → List Int → Int} {f : F} {ow : PySem.Str} {src : IE} (hp : p < δ.length) (hl : f.inner.length ≤ line)
    (hs : ∀ (S : Store) (Q : D → Store → Prop) (E : Ex), (∀ S' k, S <+: S' → S'[k]? = some (.lst (f.inner.map F.d)) → Q (.ref k) S') → Wx (denE C src δ) S Q E)
    (hc : ∀ x ∈ f.inner, ∀ (S : Store) (Q : D → Store → Prop), (∀ S', S <+: S' → Q (.int (x.fold A)) S') → Wx (C fi [x.d]) S Q NoEx)
    (h : ∀ S' k, S <+: S' → S'[k]? = some (.lst (f.inner.map fun x => .int (x.fold A))) → Q (.ref k) S') :
    Wx (denE C (.comp [(ow, p)] (.name p) .seq (.cons src .nil) .none (.call fi (.cons (.var p) .nil))) δ) S Q E := by
  simp only [Wx_comp, Wx_cons, Wx_nil]
  refine hs S _ E fun S1 k h1 e1 => ?_
  rw [Wx_srcL (seq_lst e1)]
  refine each_call hp hc (List.prefix_refl _) (List.getElem?_eq_some_iff.mp e1).1 fun S2 h2 => ?_
  refine ⟨by rw [List.length_map]; exact hl, h _ _ (pre_app (h1.trans h2)) get_last⟩
abbrev aNodes : Nat → List Int → Int := fun _ l => 1 + l.sum
abbrev aSums : Nat → List Int → Int := fun t l => (if t = 0 then 1 else 0) + l.sum
abbrev aHeld : Nat → List Int → Int := fun t l => (if t = 4 then 1 else 0) + l.sum
theorem F.d_tag (f : F) : ∃ x : D, f.d = .tup [.str (match f.tag with | 0 => "sum" | 1 => "greatest" | 2 => "least" | 3 => "size" | _ => "held"), x] := by
  cases f with
  | sum rs => exact ⟨_, rfl⟩
  | top g fs => cases g <;> exact ⟨_, rfl⟩
  | size f => exact ⟨_, rfl⟩
  | held f => exact ⟨_, rfl⟩
theorem w_node_count : ∀ (b : Nat) (f : F), f.sz ≤ b → b ≤ 1000000 → ∀ (m : Nat) (S : Store) (Q : D → Store → Prop) (E : Ex), f.dep + 2 ≤ m → (∀ S', S <+: S' → Q (.int (f.fold aNodes)) S') → Wx (run P m 10 [f.d]) S Q E := by
  intro b
  induction b with
  | zero => intro f h; cases f <;> exact absurd h (Nat.not_succ_le_zero _)
  | succ b ih =>
    intro f hb hb2 m S Q E hm h
    obtain ⟨n, rfl⟩ : ∃ n, m = n + 1 := ⟨m - 1, by omega⟩
    have hl : f.inner.length ≤ line := by have := (F.sz_inner (f := f)).1; unfold line; omega
    rw [r_node_count, Wx_end]
    unfold b_node_count
    simp only [Wx_var, Wx_con, Wx_glob, Wx_bin, Wx_neg, Wx_negI, Wx_not, Wx_cmp, Wx_and, Wx_or, Wx_ite, Wx_tup, Wx_lst, Wx_idx, Wx_slice, Wx_call, Wx_bi, Wx_isi, Wx_meth, Wx_nil, Wx_cons, Wx_onone, Wx_osome, Wx_cnone, Wx_csome, Wx_add, Wx_addT, Wx_sub, Wx_mul, Wx_fdiv, Wx_mod, Wx_tbl, Wx_tint, Wx_eqI, Wx_eqS, Wx_eqB, Wx_neI, Wx_ltI, Wx_leI, Wx_gtI, Wx_geI, Wx_idxT, atD_0, atD_1, atD_2, Wx_abs, Wx_intI, Wx_intB, Wx_cutT, Wx_srcT, Wx_range, Wx_ret, Wx_cond, List.getElem?_cons_zero, List.getElem?_cons_succ, List.length_cons, List.length_nil, List.set_cons_zero, List.set_cons_succ, decide_eq_true_eq, bne_iff_ne, Wx_turn, wipeD, Ws_nil, Ws_cons, Ws_asg, Ws_par, Ws_expr, Ws_ret, Ws_retn, Ws_pass, Ws_ite, asgD, setAll]
    refine w_comp (f := f) (A := aNodes) (by simp) hl (fun S Q E hq => ?_) (fun x hx S Q hq => ?_) fun S1 k h1 e1 => ?_
    · simp only [Wx_var, Wx_con, Wx_glob, Wx_bin, Wx_neg, Wx_negI, Wx_not, Wx_cmp, Wx_and, Wx_or, Wx_ite, Wx_tup, Wx_lst, Wx_idx, Wx_slice, Wx_call, Wx_bi, Wx_isi, Wx_meth, Wx_nil, Wx_cons, Wx_onone, Wx_osome, Wx_cnone, Wx_csome, Wx_add, Wx_addT, Wx_sub, Wx_mul, Wx_fdiv, Wx_mod, Wx_tbl, Wx_tint, Wx_eqI, Wx_eqS, Wx_eqB, Wx_neI, Wx_ltI, Wx_leI, Wx_gtI, Wx_geI, Wx_idxT, atD_0, atD_1, atD_2, Wx_abs, Wx_intI, Wx_intB, Wx_cutT, Wx_srcT, Wx_range, Wx_ret, Wx_cond, List.getElem?_cons_zero, List.getElem?_cons_succ, List.length_cons, List.length_nil, List.set_cons_zero, List.set_cons_succ, decide_eq_true_eq, bne_iff_ne, Wx_turn, wipeD, Ws_nil, Ws_cons, Ws_asg, Ws_par, Ws_expr, Ws_ret, Ws_retn, Ws_pass, Ws_ite, asgD, setAll]
      exact w_inner f (by omega) (hq _ _ (List.prefix_append _ _) get_last) hl
    · have := (F.sz_inner (f := f)).2 x hx
      have := F.dep_inner hx
      exact ih x (by omega) (by omega) n S Q NoEx (by omega) hq
    · rw [Wx_sum (list_lst e1) ints_of]
      simp only [Wx_var, Wx_con, Wx_glob, Wx_bin, Wx_neg, Wx_negI, Wx_not, Wx_cmp, Wx_and, Wx_or, Wx_ite, Wx_tup, Wx_lst, Wx_idx, Wx_slice, Wx_call, Wx_bi, Wx_isi, Wx_meth, Wx_nil, Wx_cons, Wx_onone, Wx_osome, Wx_cnone, Wx_csome, Wx_add, Wx_addT, Wx_sub, Wx_mul, Wx_fdiv, Wx_mod, Wx_tbl, Wx_tint, Wx_eqI, Wx_eqS, Wx_eqB, Wx_neI, Wx_ltI, Wx_leI, Wx_gtI, Wx_geI, Wx_idxT, atD_0, atD_1, atD_2, Wx_abs, Wx_intI, Wx_intB, Wx_cutT, Wx_srcT, Wx_range, Wx_ret, Wx_cond, List.getElem?_cons_zero, List.getElem?_cons_succ, List.length_cons, List.length_nil, List.set_cons_zero, List.set_cons_succ, decide_eq_true_eq, bne_iff_ne, Wx_turn, wipeD, Ws_nil, Ws_cons, Ws_asg, Ws_par, Ws_expr, Ws_ret, Ws_retn, Ws_pass, Ws_ite, asgD, setAll]
      rw [F.fold_eq] at h
      exact h _ h1
def F.ts : F → PySem.Str
  | .sum _ => "sum"
  | .top g _ => gtag g
  | .size _ => "size"
  | .held _ => "held"
theorem Wx_tag {f : F} : Wx (idxD f.d (.int 0)) S Q E = Q (.str f.ts) S := by
  cases f <;> (unfold F.d; rw [Wx_idxT, atD_0]; rfl)
theorem ts_sum (f : F) : (f.ts == "sum") = decide (f.tag = 0) := by
  cases f with
  | sum _ => exact t1
  | top g _ => exact (t16 g).trans (by cases g <;> rfl)
  | size _ => exact t6
  | held _ => exact t11
theorem ts_size (f : F) : (f.ts == "size") = decide (f.tag = 3) := by
  cases f with
  | sum _ => exact t4
  | top g _ => exact (t17 g).trans (by cases g <;> rfl)
  | size _ => exact t9
  | held _ => exact t14
theorem ts_held (f : F) : (f.ts == "held") = decide (f.tag = 4) := by
  cases f with
  | sum _ => exact t5
  | top g _ => exact (t18 g).trans (by cases g <;> rfl)
  | size _ => exact t10
  | held _ => exact t15
theorem each_rs2 {n : Nat} {x y z : Option D} : ∀ {rs : Rs} {Q : List D → Store → Prop}, Q (rs.inner.map F.d) S → Wx (eachD S [] (turnC (.tup [1, 2]) [1, 2] [x, y, z] (denC (run P n) (.some (.not (.isinst (.var 2) [.int])))) (denE (run P n) (.var 2))) rs.d) S Q NoEx
  | .nil, Q, h => by
    unfold Rs.d
    rw [Wx_each_nil]
    exact ⟨keptNil, h⟩
  | .leaf w i r, Q, h => by
    unfold Rs.d
    rw [Wx_each_cons]
    refine ⟨keptNil, ?_⟩
    simp only [Wx_var, Wx_con, Wx_glob, Wx_bin, Wx_neg, Wx_negI, Wx_not, Wx_cmp, Wx_and, Wx_or, Wx_ite, Wx_tup, Wx_lst, Wx_idx, Wx_slice, Wx_call, Wx_bi, Wx_isi, Wx_meth, Wx_nil, Wx_cons, Wx_onone, Wx_osome, Wx_cnone, Wx_csome, Wx_add, Wx_addT, Wx_sub, Wx_mul, Wx_fdiv, Wx_mod, Wx_tbl, Wx_tint, Wx_eqI, Wx_eqS, Wx_eqB, Wx_neI, Wx_ltI, Wx_leI, Wx_gtI, Wx_geI, Wx_idxT, atD_0, atD_1, atD_2, Wx_abs, Wx_intI, Wx_intB, Wx_cutT, Wx_srcT, Wx_range, Wx_ret, Wx_cond, List.getElem?_cons_zero, List.getElem?_cons_succ, List.length_cons, List.length_nil, List.set_cons_zero, List.set_cons_succ, decide_eq_true_eq, bne_iff_ne, Wx_turn, wipeD, Ws_nil, Ws_cons, Ws_asg, Ws_par, Ws_expr, Ws_ret, Ws_retn, Ws_pass, Ws_ite, asgD, setAll, Wx_isI, Bool.not_true, Bool.false_eq_true, if_false, List.nil_append]
    exact each_rs2 h
  | .node w f r, Q, h => by
    unfold Rs.d
    rw [Wx_each_cons]
    refine ⟨keptNil, ?_⟩
    obtain ⟨ds, e⟩ := f.d_tup
    rw [e]
    simp only [Wx_var, Wx_con, Wx_glob, Wx_bin, Wx_neg, Wx_negI, Wx_not, Wx_cmp, Wx_and, Wx_or, Wx_ite, Wx_tup, Wx_lst, Wx_idx, Wx_slice, Wx_call, Wx_bi, Wx_isi, Wx_meth, Wx_nil, Wx_cons, Wx_onone, Wx_osome, Wx_cnone, Wx_csome, Wx_add, Wx_addT, Wx_sub, Wx_mul, Wx_fdiv, Wx_mod, Wx_tbl, Wx_tint, Wx_eqI, Wx_eqS, Wx_eqB, Wx_neI, Wx_ltI, Wx_leI, Wx_gtI, Wx_geI, Wx_idxT, atD_0, atD_1, atD_2, Wx_abs, Wx_intI, Wx_intB, Wx_cutT, Wx_srcT, Wx_range, Wx_ret, Wx_cond, List.getElem?_cons_zero, List.getElem?_cons_succ, List.length_cons, List.length_nil, List.set_cons_zero, List.set_cons_succ, decide_eq_true_eq, bne_iff_ne, Wx_turn, wipeD, Ws_nil, Ws_cons, Ws_asg, Ws_par, Ws_expr, Ws_ret, Ws_retn, Ws_pass, Ws_ite, asgD, setAll, Wx_isIT, Bool.not_false, if_true, List.singleton_append]
    rw [← e]
    exact each_rs2 h
theorem Wx_inL {k : Nat} {a : D} {ds : List D} {Q : Bool → Store → Prop} (h : S[k]? = some (.lst ds)) : Wx (cmpD .in_ a (.ref k)) S Q E = Wx (cmpD .in_ a (.tup ds)) S Q E := by
  show Sat (match seqOf S (.ref k) with | some ds => if a.flat && ds.all D.flat then .ok (ds.any fun y => flatEq y a) S else .bad | none => .bad) Q E = _
  rw [seq_lst h]
  rfl
theorem w_linner (f : F) (hm : 1 ≤ m) (h : ∀ S' k, S <+: S' → S'[k]? = some (.lst (f.inner.map F.d)) → Q (.ref k) S') (hl : f.inner.length ≤ line) : Wx (run P m 36 [f.d]) S Q E := by
  obtain ⟨n, rfl⟩ : ∃ n, m = n + 1 := ⟨m - 1, by omega⟩
  rw [r__law_inner, Wx_end]
  unfold b__law_inner
  cases f with
  | sum rs =>
    unfold F.d
    simp only [Wx_var, Wx_con, Wx_glob, Wx_bin, Wx_neg, Wx_negI, Wx_not, Wx_cmp, Wx_and, Wx_or, Wx_ite, Wx_tup, Wx_lst, Wx_idx, Wx_slice, Wx_call, Wx_bi, Wx_isi, Wx_meth, Wx_nil, Wx_cons, Wx_onone, Wx_osome, Wx_cnone, Wx_csome, Wx_add, Wx_addT, Wx_sub, Wx_mul, Wx_fdiv, Wx_mod, Wx_tbl, Wx_tint, Wx_eqI, Wx_eqS, Wx_eqB, Wx_neI, Wx_ltI, Wx_leI, Wx_gtI, Wx_geI, Wx_idxT, atD_0, atD_1, atD_2, Wx_abs, Wx_intI, Wx_intB, Wx_cutT, Wx_srcT, Wx_range, Wx_ret, Wx_cond, List.getElem?_cons_zero, List.getElem?_cons_succ, List.length_cons, List.length_nil, List.set_cons_zero, List.set_cons_succ, decide_eq_true_eq, bne_iff_ne, Wx_turn, wipeD, Ws_nil, Ws_cons, Ws_asg, Ws_par, Ws_expr, Ws_ret, Ws_retn, Ws_pass, Ws_ite, asgD, setAll, t1, if_true, Wx_comp]
    refine each_rs2 ?_
    exact ⟨by rw [List.length_map]; exact hl, h _ _ (List.prefix_append _ _) get_last⟩
  | top g fs =>
    unfold F.d
    simp only [Wx_var, Wx_con, Wx_glob, Wx_bin, Wx_neg, Wx_negI, Wx_not, Wx_cmp, Wx_and, Wx_or, Wx_ite, Wx_tup, Wx_lst, Wx_idx, Wx_slice, Wx_call, Wx_bi, Wx_isi, Wx_meth, Wx_nil, Wx_cons, Wx_onone, Wx_osome, Wx_cnone, Wx_csome, Wx_add, Wx_addT, Wx_sub, Wx_mul, Wx_fdiv, Wx_mod, Wx_tbl, Wx_tint, Wx_eqI, Wx_eqS, Wx_eqB, Wx_neI, Wx_ltI, Wx_leI, Wx_gtI, Wx_geI, Wx_idxT, atD_0, atD_1, atD_2, Wx_abs, Wx_intI, Wx_intB, Wx_cutT, Wx_srcT, Wx_range, Wx_ret, Wx_cond, List.getElem?_cons_zero, List.getElem?_cons_succ, List.length_cons, List.length_nil, List.set_cons_zero, List.set_cons_succ, decide_eq_true_eq, bne_iff_ne, Wx_turn, wipeD, Ws_nil, Ws_cons, Ws_asg, Ws_par, Ws_expr, Ws_ret, Ws_retn, Ws_pass, Ws_ite, asgD, setAll, t16, if_false, Bool.false_eq_true]
    refine ⟨by decide, ?_⟩
    rw [Wx_inL get_last]
    simp only [Wx_var, Wx_con, Wx_glob, Wx_bin, Wx_neg, Wx_negI, Wx_not, Wx_cmp, Wx_and, Wx_or, Wx_ite, Wx_tup, Wx_lst, Wx_idx, Wx_slice, Wx_call, Wx_bi, Wx_isi, Wx_meth, Wx_nil, Wx_cons, Wx_onone, Wx_osome, Wx_cnone, Wx_csome, Wx_add, Wx_addT, Wx_sub, Wx_mul, Wx_fdiv, Wx_mod, Wx_tbl, Wx_tint, Wx_eqI, Wx_eqS, Wx_eqB, Wx_neI, Wx_ltI, Wx_leI, Wx_gtI, Wx_geI, Wx_idxT, atD_0, atD_1, atD_2, Wx_abs, Wx_intI, Wx_intB, Wx_cutT, Wx_srcT, Wx_range, Wx_ret, Wx_cond, List.getElem?_cons_zero, List.getElem?_cons_succ, List.length_cons, List.length_nil, List.set_cons_zero, List.set_cons_succ, decide_eq_true_eq, bne_iff_ne, Wx_turn, wipeD, Ws_nil, Ws_cons, Ws_asg, Ws_par, Ws_expr, Ws_ret, Ws_retn, Ws_pass, Ws_ite, asgD, setAll, Wx_in2, t20, if_true]
    rw [Fs.d_list, Wx_list rfl]
    exact h _ _ ((List.prefix_append _ _).trans (List.prefix_append _ _)) get_last
  | size f =>
    unfold F.d
    simp only [Wx_var, Wx_con, Wx_glob, Wx_bin, Wx_neg, Wx_negI, Wx_not, Wx_cmp, Wx_and, Wx_or, Wx_ite, Wx_tup, Wx_lst, Wx_idx, Wx_slice, Wx_call, Wx_bi, Wx_isi, Wx_meth, Wx_nil, Wx_cons, Wx_onone, Wx_osome, Wx_cnone, Wx_csome, Wx_add, Wx_addT, Wx_sub, Wx_mul, Wx_fdiv, Wx_mod, Wx_tbl, Wx_tint, Wx_eqI, Wx_eqS, Wx_eqB, Wx_neI, Wx_ltI, Wx_leI, Wx_gtI, Wx_geI, Wx_idxT, atD_0, atD_1, atD_2, Wx_abs, Wx_intI, Wx_intB, Wx_cutT, Wx_srcT, Wx_range, Wx_ret, Wx_cond, List.getElem?_cons_zero, List.getElem?_cons_succ, List.length_cons, List.length_nil, List.set_cons_zero, List.set_cons_succ, decide_eq_true_eq, bne_iff_ne, Wx_turn, wipeD, Ws_nil, Ws_cons, Ws_asg, Ws_par, Ws_expr, Ws_ret, Ws_retn, Ws_pass, Ws_ite, asgD, setAll, t6, if_false, Bool.false_eq_true]
    refine ⟨by decide, ?_⟩
    rw [Wx_inL get_last]
    simp only [Wx_var, Wx_con, Wx_glob, Wx_bin, Wx_neg, Wx_negI, Wx_not, Wx_cmp, Wx_and, Wx_or, Wx_ite, Wx_tup, Wx_lst, Wx_idx, Wx_slice, Wx_call, Wx_bi, Wx_isi, Wx_meth, Wx_nil, Wx_cons, Wx_onone, Wx_osome, Wx_cnone, Wx_csome, Wx_add, Wx_addT, Wx_sub, Wx_mul, Wx_fdiv, Wx_mod, Wx_tbl, Wx_tint, Wx_eqI, Wx_eqS, Wx_eqB, Wx_neI, Wx_ltI, Wx_leI, Wx_gtI, Wx_geI, Wx_idxT, atD_0, atD_1, atD_2, Wx_abs, Wx_intI, Wx_intB, Wx_cutT, Wx_srcT, Wx_range, Wx_ret, Wx_cond, List.getElem?_cons_zero, List.getElem?_cons_succ, List.length_cons, List.length_nil, List.set_cons_zero, List.set_cons_succ, decide_eq_true_eq, bne_iff_ne, Wx_turn, wipeD, Ws_nil, Ws_cons, Ws_asg, Ws_par, Ws_expr, Ws_ret, Ws_retn, Ws_pass, Ws_ite, asgD, setAll, Wx_in2, t22, if_false, Bool.false_eq_true]
    exact ⟨by decide, h _ _ ((List.prefix_append _ _).trans (List.prefix_append _ _)) get_last⟩
  | held f =>
    unfold F.d
    simp only [Wx_var, Wx_con, Wx_glob, Wx_bin, Wx_neg, Wx_negI, Wx_not, Wx_cmp, Wx_and, Wx_or, Wx_ite, Wx_tup, Wx_lst, Wx_idx, Wx_slice, Wx_call, Wx_bi, Wx_isi, Wx_meth, Wx_nil, Wx_cons, Wx_onone, Wx_osome, Wx_cnone, Wx_csome, Wx_add, Wx_addT, Wx_sub, Wx_mul, Wx_fdiv, Wx_mod, Wx_tbl, Wx_tint, Wx_eqI, Wx_eqS, Wx_eqB, Wx_neI, Wx_ltI, Wx_leI, Wx_gtI, Wx_geI, Wx_idxT, atD_0, atD_1, atD_2, Wx_abs, Wx_intI, Wx_intB, Wx_cutT, Wx_srcT, Wx_range, Wx_ret, Wx_cond, List.getElem?_cons_zero, List.getElem?_cons_succ, List.length_cons, List.length_nil, List.set_cons_zero, List.set_cons_succ, decide_eq_true_eq, bne_iff_ne, Wx_turn, wipeD, Ws_nil, Ws_cons, Ws_asg, Ws_par, Ws_expr, Ws_ret, Ws_retn, Ws_pass, Ws_ite, asgD, setAll, t11, if_false, Bool.false_eq_true]
    refine ⟨by decide, ?_⟩
    rw [Wx_inL get_last]
    simp only [Wx_var, Wx_con, Wx_glob, Wx_bin, Wx_neg, Wx_negI, Wx_not, Wx_cmp, Wx_and, Wx_or, Wx_ite, Wx_tup, Wx_lst, Wx_idx, Wx_slice, Wx_call, Wx_bi, Wx_isi, Wx_meth, Wx_nil, Wx_cons, Wx_onone, Wx_osome, Wx_cnone, Wx_csome, Wx_add, Wx_addT, Wx_sub, Wx_mul, Wx_fdiv, Wx_mod, Wx_tbl, Wx_tint, Wx_eqI, Wx_eqS, Wx_eqB, Wx_neI, Wx_ltI, Wx_leI, Wx_gtI, Wx_geI, Wx_idxT, atD_0, atD_1, atD_2, Wx_abs, Wx_intI, Wx_intB, Wx_cutT, Wx_srcT, Wx_range, Wx_ret, Wx_cond, List.getElem?_cons_zero, List.getElem?_cons_succ, List.length_cons, List.length_nil, List.set_cons_zero, List.set_cons_succ, decide_eq_true_eq, bne_iff_ne, Wx_turn, wipeD, Ws_nil, Ws_cons, Ws_asg, Ws_par, Ws_expr, Ws_ret, Ws_retn, Ws_pass, Ws_ite, asgD, setAll, Wx_in2, t23, if_false, Bool.false_eq_true]
    exact ⟨by decide, h _ _ ((List.prefix_append _ _).trans (List.prefix_append _ _)) get_last⟩
theorem w_lnodes : ∀ (b : Nat) (f : F), f.sz ≤ b → b ≤ 1000000 → ∀ (m : Nat) (S : Store) (Q : D → Store → Prop) (E : Ex), f.dep + 2 ≤ m → (∀ S', S <+: S' → Q (.int (f.fold aNodes)) S') → Wx (run P m 37 [f.d]) S Q E := by
  intro b
  induction b with
  | zero => intro f h; cases f <;> exact absurd h (Nat.not_succ_le_zero _)
  | succ b ih =>
    intro f hb hb2 m S Q E hm h
    obtain ⟨n, rfl⟩ : ∃ n, m = n + 1 := ⟨m - 1, by omega⟩
    have hl : f.inner.length ≤ line := by have := (F.sz_inner (f := f)).1; unfold line; omega
    rw [r__law_nodes, Wx_end]
    unfold b__law_nodes
    simp only [Wx_var, Wx_con, Wx_glob, Wx_bin, Wx_neg, Wx_negI, Wx_not, Wx_cmp, Wx_and, Wx_or, Wx_ite, Wx_tup, Wx_lst, Wx_idx, Wx_slice, Wx_call, Wx_bi, Wx_isi, Wx_meth, Wx_nil, Wx_cons, Wx_onone, Wx_osome, Wx_cnone, Wx_csome, Wx_add, Wx_addT, Wx_sub, Wx_mul, Wx_fdiv, Wx_mod, Wx_tbl, Wx_tint, Wx_eqI, Wx_eqS, Wx_eqB, Wx_neI, Wx_ltI, Wx_leI, Wx_gtI, Wx_geI, Wx_idxT, atD_0, atD_1, atD_2, Wx_abs, Wx_intI, Wx_intB, Wx_cutT, Wx_srcT, Wx_range, Wx_ret, Wx_cond, List.getElem?_cons_zero, List.getElem?_cons_succ, List.length_cons, List.length_nil, List.set_cons_zero, List.set_cons_succ, decide_eq_true_eq, bne_iff_ne, Wx_turn, wipeD, Ws_nil, Ws_cons, Ws_asg, Ws_par, Ws_expr, Ws_ret, Ws_retn, Ws_pass, Ws_ite, asgD, setAll, Wx_tag]
    refine w_comp (f := f) (A := aNodes) (by simp) hl (fun S Q E hq => ?_) (fun x hx S Q hq => ?_) fun S1 k h1 e1 => ?_
    · simp only [Wx_var, Wx_con, Wx_glob, Wx_bin, Wx_neg, Wx_negI, Wx_not, Wx_cmp, Wx_and, Wx_or, Wx_ite, Wx_tup, Wx_lst, Wx_idx, Wx_slice, Wx_call, Wx_bi, Wx_isi, Wx_meth, Wx_nil, Wx_cons, Wx_onone, Wx_osome, Wx_cnone, Wx_csome, Wx_add, Wx_addT, Wx_sub, Wx_mul, Wx_fdiv, Wx_mod, Wx_tbl, Wx_tint, Wx_eqI, Wx_eqS, Wx_eqB, Wx_neI, Wx_ltI, Wx_leI, Wx_gtI, Wx_geI, Wx_idxT, atD_0, atD_1, atD_2, Wx_abs, Wx_intI, Wx_intB, Wx_cutT, Wx_srcT, Wx_range, Wx_ret, Wx_cond, List.getElem?_cons_zero, List.getElem?_cons_succ, List.length_cons, List.length_nil, List.set_cons_zero, List.set_cons_succ, decide_eq_true_eq, bne_iff_ne, Wx_turn, wipeD, Ws_nil, Ws_cons, Ws_asg, Ws_par, Ws_expr, Ws_ret, Ws_retn, Ws_pass, Ws_ite, asgD, setAll]
      exact w_linner f (by omega) hq hl
    · have := (F.sz_inner (f := f)).2 x hx
      have := F.dep_inner hx
      exact ih x (by omega) (by omega) n S Q NoEx (by omega) hq
    · rw [Wx_sum (list_lst e1) ints_of]
      simp only [Wx_var, Wx_con, Wx_glob, Wx_bin, Wx_neg, Wx_negI, Wx_not, Wx_cmp, Wx_and, Wx_or, Wx_ite, Wx_tup, Wx_lst, Wx_idx, Wx_slice, Wx_call, Wx_bi, Wx_isi, Wx_meth, Wx_nil, Wx_cons, Wx_onone, Wx_osome, Wx_cnone, Wx_csome, Wx_add, Wx_addT, Wx_sub, Wx_mul, Wx_fdiv, Wx_mod, Wx_tbl, Wx_tint, Wx_eqI, Wx_eqS, Wx_eqB, Wx_neI, Wx_ltI, Wx_leI, Wx_gtI, Wx_geI, Wx_idxT, atD_0, atD_1, atD_2, Wx_abs, Wx_intI, Wx_intB, Wx_cutT, Wx_srcT, Wx_range, Wx_ret, Wx_cond, List.getElem?_cons_zero, List.getElem?_cons_succ, List.length_cons, List.length_nil, List.set_cons_zero, List.set_cons_succ, decide_eq_true_eq, bne_iff_ne, Wx_turn, wipeD, Ws_nil, Ws_cons, Ws_asg, Ws_par, Ws_expr, Ws_ret, Ws_retn, Ws_pass, Ws_ite, asgD, setAll]
      rw [F.fold_eq] at h
      exact h _ h1
theorem w_lheld : ∀ (b : Nat) (f : F), f.sz ≤ b → b ≤ 1000000 → ∀ (m : Nat) (S : Store) (Q : D → Store → Prop) (E : Ex), f.dep + 2 ≤ m → (∀ S', S <+: S' → Q (.int (f.fold aHeld)) S') → Wx (run P m 38 [f.d]) S Q E := by
  intro b
  induction b with
  | zero => intro f h; cases f <;> exact absurd h (Nat.not_succ_le_zero _)
  | succ b ih =>
    intro f hb hb2 m S Q E hm h
    obtain ⟨n, rfl⟩ : ∃ n, m = n + 1 := ⟨m - 1, by omega⟩
    have hl : f.inner.length ≤ line := by have := (F.sz_inner (f := f)).1; unfold line; omega
    rw [r__law_held, Wx_end]
    unfold b__law_held
    simp only [Wx_var, Wx_con, Wx_glob, Wx_bin, Wx_neg, Wx_negI, Wx_not, Wx_cmp, Wx_and, Wx_or, Wx_ite, Wx_tup, Wx_lst, Wx_idx, Wx_slice, Wx_call, Wx_bi, Wx_isi, Wx_meth, Wx_nil, Wx_cons, Wx_onone, Wx_osome, Wx_cnone, Wx_csome, Wx_add, Wx_addT, Wx_sub, Wx_mul, Wx_fdiv, Wx_mod, Wx_tbl, Wx_tint, Wx_eqI, Wx_eqS, Wx_eqB, Wx_neI, Wx_ltI, Wx_leI, Wx_gtI, Wx_geI, Wx_idxT, atD_0, atD_1, atD_2, Wx_abs, Wx_intI, Wx_intB, Wx_cutT, Wx_srcT, Wx_range, Wx_ret, Wx_cond, List.getElem?_cons_zero, List.getElem?_cons_succ, List.length_cons, List.length_nil, List.set_cons_zero, List.set_cons_succ, decide_eq_true_eq, bne_iff_ne, Wx_turn, wipeD, Ws_nil, Ws_cons, Ws_asg, Ws_par, Ws_expr, Ws_ret, Ws_retn, Ws_pass, Ws_ite, asgD, setAll, Wx_tag]
    refine w_comp (f := f) (A := aHeld) (by simp) hl (fun S Q E hq => ?_) (fun x hx S Q hq => ?_) fun S1 k h1 e1 => ?_
    · simp only [Wx_var, Wx_con, Wx_glob, Wx_bin, Wx_neg, Wx_negI, Wx_not, Wx_cmp, Wx_and, Wx_or, Wx_ite, Wx_tup, Wx_lst, Wx_idx, Wx_slice, Wx_call, Wx_bi, Wx_isi, Wx_meth, Wx_nil, Wx_cons, Wx_onone, Wx_osome, Wx_cnone, Wx_csome, Wx_add, Wx_addT, Wx_sub, Wx_mul, Wx_fdiv, Wx_mod, Wx_tbl, Wx_tint, Wx_eqI, Wx_eqS, Wx_eqB, Wx_neI, Wx_ltI, Wx_leI, Wx_gtI, Wx_geI, Wx_idxT, atD_0, atD_1, atD_2, Wx_abs, Wx_intI, Wx_intB, Wx_cutT, Wx_srcT, Wx_range, Wx_ret, Wx_cond, List.getElem?_cons_zero, List.getElem?_cons_succ, List.length_cons, List.length_nil, List.set_cons_zero, List.set_cons_succ, decide_eq_true_eq, bne_iff_ne, Wx_turn, wipeD, Ws_nil, Ws_cons, Ws_asg, Ws_par, Ws_expr, Ws_ret, Ws_retn, Ws_pass, Ws_ite, asgD, setAll]
      exact w_linner f (by omega) hq hl
    · have := (F.sz_inner (f := f)).2 x hx
      have := F.dep_inner hx
      exact ih x (by omega) (by omega) n S Q NoEx (by omega) hq
    · rw [Wx_sum (list_lst e1) ints_of]
      simp only [Wx_var, Wx_con, Wx_glob, Wx_bin, Wx_neg, Wx_negI, Wx_not, Wx_cmp, Wx_and, Wx_or, Wx_ite, Wx_tup, Wx_lst, Wx_idx, Wx_slice, Wx_call, Wx_bi, Wx_isi, Wx_meth, Wx_nil, Wx_cons, Wx_onone, Wx_osome, Wx_cnone, Wx_csome, Wx_add, Wx_addT, Wx_sub, Wx_mul, Wx_fdiv, Wx_mod, Wx_tbl, Wx_tint, Wx_eqI, Wx_eqS, Wx_eqB, Wx_neI, Wx_ltI, Wx_leI, Wx_gtI, Wx_geI, Wx_idxT, atD_0, atD_1, atD_2, Wx_abs, Wx_intI, Wx_intB, Wx_cutT, Wx_srcT, Wx_range, Wx_ret, Wx_cond, List.getElem?_cons_zero, List.getElem?_cons_succ, List.length_cons, List.length_nil, List.set_cons_zero, List.set_cons_succ, decide_eq_true_eq, bne_iff_ne, Wx_turn, wipeD, Ws_nil, Ws_cons, Ws_asg, Ws_par, Ws_expr, Ws_ret, Ws_retn, Ws_pass, Ws_ite, asgD, setAll]
      rw [F.fold_eq] at h
      have := h _ h1
      simp only [ts_held, decide_eq_true_eq]
      exact this
theorem w_lsums : ∀ (b : Nat) (f : F), f.sz ≤ b → b ≤ 1000000 → ∀ (m : Nat) (S : Store) (Q : D → Store → Prop) (E : Ex), f.dep + 2 ≤ m → (∀ S', S <+: S' → Q (.int (f.fold aSums)) S') → Wx (run P m 39 [f.d]) S Q E := by
  intro b
  induction b with
  | zero => intro f h; cases f <;> exact absurd h (Nat.not_succ_le_zero _)
  | succ b ih =>
    intro f hb hb2 m S Q E hm h
    obtain ⟨n, rfl⟩ : ∃ n, m = n + 1 := ⟨m - 1, by omega⟩
    have hl : f.inner.length ≤ line := by have := (F.sz_inner (f := f)).1; unfold line; omega
    rw [r__law_sums, Wx_end]
    unfold b__law_sums
    simp only [Wx_var, Wx_con, Wx_glob, Wx_bin, Wx_neg, Wx_negI, Wx_not, Wx_cmp, Wx_and, Wx_or, Wx_ite, Wx_tup, Wx_lst, Wx_idx, Wx_slice, Wx_call, Wx_bi, Wx_isi, Wx_meth, Wx_nil, Wx_cons, Wx_onone, Wx_osome, Wx_cnone, Wx_csome, Wx_add, Wx_addT, Wx_sub, Wx_mul, Wx_fdiv, Wx_mod, Wx_tbl, Wx_tint, Wx_eqI, Wx_eqS, Wx_eqB, Wx_neI, Wx_ltI, Wx_leI, Wx_gtI, Wx_geI, Wx_idxT, atD_0, atD_1, atD_2, Wx_abs, Wx_intI, Wx_intB, Wx_cutT, Wx_srcT, Wx_range, Wx_ret, Wx_cond, List.getElem?_cons_zero, List.getElem?_cons_succ, List.length_cons, List.length_nil, List.set_cons_zero, List.set_cons_succ, decide_eq_true_eq, bne_iff_ne, Wx_turn, wipeD, Ws_nil, Ws_cons, Ws_asg, Ws_par, Ws_expr, Ws_ret, Ws_retn, Ws_pass, Ws_ite, asgD, setAll, Wx_tag]
    refine w_comp (f := f) (A := aSums) (by simp) hl (fun S Q E hq => ?_) (fun x hx S Q hq => ?_) fun S1 k h1 e1 => ?_
    · simp only [Wx_var, Wx_con, Wx_glob, Wx_bin, Wx_neg, Wx_negI, Wx_not, Wx_cmp, Wx_and, Wx_or, Wx_ite, Wx_tup, Wx_lst, Wx_idx, Wx_slice, Wx_call, Wx_bi, Wx_isi, Wx_meth, Wx_nil, Wx_cons, Wx_onone, Wx_osome, Wx_cnone, Wx_csome, Wx_add, Wx_addT, Wx_sub, Wx_mul, Wx_fdiv, Wx_mod, Wx_tbl, Wx_tint, Wx_eqI, Wx_eqS, Wx_eqB, Wx_neI, Wx_ltI, Wx_leI, Wx_gtI, Wx_geI, Wx_idxT, atD_0, atD_1, atD_2, Wx_abs, Wx_intI, Wx_intB, Wx_cutT, Wx_srcT, Wx_range, Wx_ret, Wx_cond, List.getElem?_cons_zero, List.getElem?_cons_succ, List.length_cons, List.length_nil, List.set_cons_zero, List.set_cons_succ, decide_eq_true_eq, bne_iff_ne, Wx_turn, wipeD, Ws_nil, Ws_cons, Ws_asg, Ws_par, Ws_expr, Ws_ret, Ws_retn, Ws_pass, Ws_ite, asgD, setAll]
      exact w_linner f (by omega) hq hl
    · have := (F.sz_inner (f := f)).2 x hx
      have := F.dep_inner hx
      exact ih x (by omega) (by omega) n S Q NoEx (by omega) hq
    · rw [Wx_sum (list_lst e1) ints_of]
      simp only [Wx_var, Wx_con, Wx_glob, Wx_bin, Wx_neg, Wx_negI, Wx_not, Wx_cmp, Wx_and, Wx_or, Wx_ite, Wx_tup, Wx_lst, Wx_idx, Wx_slice, Wx_call, Wx_bi, Wx_isi, Wx_meth, Wx_nil, Wx_cons, Wx_onone, Wx_osome, Wx_cnone, Wx_csome, Wx_add, Wx_addT, Wx_sub, Wx_mul, Wx_fdiv, Wx_mod, Wx_tbl, Wx_tint, Wx_eqI, Wx_eqS, Wx_eqB, Wx_neI, Wx_ltI, Wx_leI, Wx_gtI, Wx_geI, Wx_idxT, atD_0, atD_1, atD_2, Wx_abs, Wx_intI, Wx_intB, Wx_cutT, Wx_srcT, Wx_range, Wx_ret, Wx_cond, List.getElem?_cons_zero, List.getElem?_cons_succ, List.length_cons, List.length_nil, List.set_cons_zero, List.set_cons_succ, decide_eq_true_eq, bne_iff_ne, Wx_turn, wipeD, Ws_nil, Ws_cons, Ws_asg, Ws_par, Ws_expr, Ws_ret, Ws_retn, Ws_pass, Ws_ite, asgD, setAll]
      rw [F.fold_eq] at h
      have := h _ h1
      simp only [ts_sum, decide_eq_true_eq]
      exact this
end
end K03

set_option Elab.async false
set_option linter.all false
set_option maxRecDepth 100000
set_option maxHeartbeats 2000000
set_option autoImplicit false
/-! k03, the plain law: how many choices; counts. -/
namespace K03
open Ev
def prodI (l : List Int) : Int := l.foldl (· * ·) 1
abbrev aMany : Nat → List Int → Int := fun t l => if t = 0 then prodI l else l.sum * (if t = 3 then 2 else 1) + (if t = 4 then 2 else 0)
theorem foldl_mul (l : List Int) : ∀ a : Int, l.foldl (· * ·) a = a * prodI l := by
  induction l with
  | nil => intro a; simp [prodI]
  | cons x l ih =>
    intro a
    unfold prodI
    rw [List.foldl_cons, List.foldl_cons, ih, ih (1 * x), Int.one_mul, Int.mul_assoc]
theorem prod_cons (x : Int) (l : List Int) : prodI (x :: l) = x * prodI l := by
  have := foldl_mul l (1 * x)
  unfold prodI
  rw [List.foldl_cons, this, Int.one_mul]
  rfl
theorem prod_app (a b : List Int) : prodI (a ++ b) = prodI a * prodI b := by
  induction a with
  | nil => simp [prodI]
  | cons x a ih => rw [List.cons_append, prod_cons, ih, prod_cons, Int.mul_assoc]
def szs (l : List F) : Nat := (l.map F.sz).sum
theorem pow_mul_le {a b : Int} {m k : Nat} (ha : 0 ≤ a) (hb : 0 ≤ b) (h1 : a ≤ 2 ^ m) (h2 : b ≤ 2 ^ k) : a * b ≤ 2 ^ (m + k) := by
  rw [Int.pow_add]
  exact Int.mul_le_mul h1 h2 hb (Int.le_trans ha h1)
theorem pow_le_pow {m k : Nat} (h : m ≤ k) : (2 : Int) ^ m ≤ 2 ^ k := by
  obtain ⟨d, rfl⟩ := Nat.exists_eq_add_of_le h
  rw [Int.pow_add]
  have : (1 : Int) ≤ 2 ^ d := by
    have : (0 : Int) < 2 ^ d := Int.pow_pos (by decide)
    omega
  have h0 : (0 : Int) ≤ 2 ^ m := Int.le_of_lt (Int.pow_pos (by decide))
  calc (2 : Int) ^ m = 2 ^ m * 1 := (Int.mul_one _).symm
    _ ≤ 2 ^ m * 2 ^ d := Int.mul_le_mul_of_nonneg_left this h0
theorem one_le_pow (m : Nat) : (1 : Int) ≤ 2 ^ m := by
  have : (0 : Int) < 2 ^ m := Int.pow_pos (by decide)
  omega
mutual
theorem many_le : ∀ (f : F), 0 ≤ f.fold aMany ∧ f.fold aMany ≤ 2 ^ (3 * f.sz)
  | .sum rs => by
    obtain ⟨h1, h2⟩ := manyR_le rs
    show 0 ≤ prodI (rs.folds aMany) ∧ prodI (rs.folds aMany) ≤ 2 ^ (3 * (rs.sz + 1))
    exact ⟨h1, Int.le_trans h2 (pow_le_pow (by omega))⟩
  | .top g fs => by
    obtain ⟨h1, h2⟩ := manyF_le fs
    have e : (F.top g fs).fold aMany = (fs.folds aMany).sum := by
      show aMany (if g then 1 else 2) _ = _
      cases g <;> simp [aMany]
    rw [e]
    exact ⟨h1, Int.le_trans h2 (pow_le_pow (by show 3 * fs.sz ≤ 3 * (fs.sz + 1); omega))⟩
  | .size f => by
    obtain ⟨h1, h2⟩ := many_le f
    have e : (F.size f).fold aMany = f.fold aMany * 2 := by
      show aMany 3 [f.fold aMany] = _
      simp [aMany]
    rw [e]
    refine ⟨by omega, Int.le_trans (pow_mul_le (k := 1) h1 (by decide) h2 (by decide)) (pow_le_pow (by show 3 * f.sz + 1 ≤ 3 * (f.sz + 1); omega))⟩
  | .held f => by
    obtain ⟨h1, h2⟩ := many_le f
    have e : (F.held f).fold aMany = f.fold aMany + 2 := by
      show aMany 4 [f.fold aMany] = _
      simp [aMany]
    rw [e]
    refine ⟨by omega, ?_⟩
    have : (2 : Int) ^ (3 * (F.held f).sz) = 2 ^ (3 * f.sz) * 8 := by
      show (2 : Int) ^ (3 * (f.sz + 1)) = _
      rw [Nat.mul_add, Int.pow_add]
      rfl
    have := one_le_pow (3 * f.sz)
    omega
theorem manyR_le : ∀ (rs : Rs), 0 ≤ prodI (rs.folds aMany) ∧ prodI (rs.folds aMany) ≤ 2 ^ (3 * rs.sz)
  | .nil => by
    show 0 ≤ prodI [] ∧ prodI [] ≤ 2 ^ (3 * 0)
    decide
  | .leaf _ _ r => by
    obtain ⟨h1, h2⟩ := manyR_le r
    exact ⟨h1, Int.le_trans h2 (pow_le_pow (by show 3 * r.sz ≤ 3 * (r.sz + 1); omega))⟩
  | .node _ f r => by
    obtain ⟨h1, h2⟩ := manyR_le r
    obtain ⟨h3, h4⟩ := many_le f
    show 0 ≤ prodI (f.fold aMany :: r.folds aMany) ∧ prodI (f.fold aMany :: r.folds aMany) ≤ 2 ^ (3 * (f.sz + r.sz + 1))
    rw [prod_cons]
    exact ⟨Int.mul_nonneg h3 h1, Int.le_trans (pow_mul_le h3 h1 h4 h2) (pow_le_pow (by omega))⟩
theorem manyF_le : ∀ (rs : Fs), 0 ≤ (rs.folds aMany).sum ∧ (rs.folds aMany).sum ≤ 2 ^ (3 * rs.sz)
  | .nil => by
    show 0 ≤ ([] : List Int).sum ∧ ([] : List Int).sum ≤ 2 ^ (3 * 0)
    decide
  | .cons f r => by
    obtain ⟨h1, h2⟩ := manyF_le r
    obtain ⟨h3, h4⟩ := many_le f
    show 0 ≤ (f.fold aMany :: r.folds aMany).sum ∧ (f.fold aMany :: r.folds aMany).sum ≤ 2 ^ (3 * (f.sz + r.sz + 1))
    rw [List.sum_cons]
    refine ⟨by omega, ?_⟩
    have e1 := pow_le_pow (m := 3 * f.sz) (k := 3 * (f.sz + r.sz) + 1) (by omega)
    have e2 := pow_le_pow (m := 3 * r.sz) (k := 3 * (f.sz + r.sz) + 1) (by omega)
    have : (2 : Int) ^ (3 * (f.sz + r.sz + 1)) = 2 ^ (3 * (f.sz + r.sz) + 1) * 4 := by
      rw [show 3 * (f.sz + r.sz + 1) = (3 * (f.sz + r.sz) + 1) + 2 by omega, Int.pow_add]
      rfl
    have := one_le_pow (3 * (f.sz + r.sz) + 1)
    omega
end
theorem prodF_le : ∀ (l : List F), 0 ≤ prodI (l.map (·.fold aMany)) ∧ prodI (l.map (·.fold aMany)) ≤ 2 ^ (3 * szs l)
  | [] => by decide
  | f :: l => by
    obtain ⟨h1, h2⟩ := prodF_le l
    obtain ⟨h3, h4⟩ := many_le f
    rw [List.map_cons, prod_cons]
    refine ⟨Int.mul_nonneg h3 h1, Int.le_trans (pow_mul_le h3 h1 h4 h2) (pow_le_pow ?_)⟩
    show 3 * f.sz + 3 * szs l ≤ 3 * szs (f :: l)
    unfold szs
    rw [List.map_cons, List.sum_cons]
    omega
theorem Rs.szs_le : ∀ (rs : Rs), szs rs.inner ≤ rs.sz
  | .nil => Nat.le_refl _
  | .leaf _ _ r => by have := Rs.szs_le r; show szs r.inner ≤ r.sz + 1; omega
  | .node _ f r => by
    have := Rs.szs_le r
    show ((f :: r.inner).map F.sz).sum ≤ f.sz + r.sz + 1
    rw [List.map_cons, List.sum_cons]
    unfold szs at this
    omega
theorem Fs.szs_le : ∀ (rs : Fs), szs rs.list ≤ rs.sz
  | .nil => Nat.le_refl _
  | .cons f r => by
    have := Fs.szs_le r
    show ((f :: r.list).map F.sz).sum ≤ f.sz + r.sz + 1
    rw [List.map_cons, List.sum_cons]
    unfold szs at this
    omega
theorem F.szs_le (f : F) : szs f.inner ≤ f.sz := by
  cases f with
  | sum rs => have := Rs.szs_le rs; show szs rs.inner ≤ rs.sz + 1; omega
  | top g fs => have := Fs.szs_le fs; show szs fs.list ≤ fs.sz + 1; omega
  | size f => show [f.sz].sum ≤ f.sz + 1; simp
  | held f => show [f.sz].sum ≤ f.sz + 1; simp
theorem sumF_nonneg : ∀ (l : List F), 0 ≤ (l.map fun x => x.fold aMany).sum
  | [] => by decide
  | f :: l => by
    have h1 := sumF_nonneg l
    have h2 := (many_le f).1
    rw [List.map_cons, List.sum_cons]
    omega
theorem natAbs_of {x : Int} {k : Nat} (h0 : 0 ≤ x) (h : x ≤ 2 ^ k) : x.natAbs < 2 ^ (k + 1) := by
  have e : ((2 ^ (k + 1) : Nat) : Int) = 2 ^ k * 2 := by rw [Nat.pow_succ]; simp
  have := one_le_pow k
  omega
section
variable {m : Nat} {S : Store} {Q : D → Store → Prop} {E : Ex}
theorem szs_app (a b : List F) : szs (a ++ b) = szs a + szs b := by unfold szs; rw [List.map_append, List.sum_append]
theorem w_choices : ∀ (b : Nat) (f : F), f.sz ≤ b → b ≤ 1000000 → ∀ (m : Nat) (S : Store) (Q : D → Store → Prop) (E : Ex), f.dep + 2 ≤ m → (∀ S', S <+: S' → Q (.int (f.fold aMany)) S') → Wx (run P m 11 [f.d]) S Q E := by
  intro b
  induction b with
  | zero => intro f h; cases f <;> exact absurd h (Nat.not_succ_le_zero _)
  | succ b ih =>
    intro f hb hb2 m S Q E hm h
    obtain ⟨n, rfl⟩ : ∃ n, m = n + 1 := ⟨m - 1, by omega⟩
    have hl : f.inner.length ≤ line := by have := (F.sz_inner (f := f)).1; unfold line; omega
    rw [r_choice_count, Wx_end]
    unfold b_choice_count
    simp only [Wx_var, Wx_con, Wx_glob, Wx_bin, Wx_neg, Wx_negI, Wx_not, Wx_cmp, Wx_and, Wx_or, Wx_ite, Wx_tup, Wx_lst, Wx_idx, Wx_slice, Wx_call, Wx_bi, Wx_isi, Wx_meth, Wx_nil, Wx_cons, Wx_onone, Wx_osome, Wx_cnone, Wx_csome, Wx_add, Wx_addT, Wx_sub, Wx_mul, Wx_fdiv, Wx_mod, Wx_tbl, Wx_tint, Wx_eqI, Wx_eqS, Wx_eqB, Wx_neI, Wx_ltI, Wx_leI, Wx_gtI, Wx_geI, Wx_idxT, atD_0, atD_1, atD_2, Wx_abs, Wx_intI, Wx_intB, Wx_cutT, Wx_srcT, Wx_range, Wx_ret, Wx_cond, List.getElem?_cons_zero, List.getElem?_cons_succ, List.length_cons, List.length_nil, List.set_cons_zero, List.set_cons_succ, decide_eq_true_eq, bne_iff_ne, Wx_turn, wipeD, Ws_nil, Ws_cons, Ws_asg, Ws_par, Ws_expr, Ws_ret, Ws_retn, Ws_pass, Ws_ite, asgD, setAll]
    refine w_comp (f := f) (A := aMany) (by simp) hl (fun S Q E hq => ?_) (fun x hx S Q hq => ?_) fun S1 k h1 e1 => ?_
    · simp only [Wx_var, Wx_con, Wx_glob, Wx_bin, Wx_neg, Wx_negI, Wx_not, Wx_cmp, Wx_and, Wx_or, Wx_ite, Wx_tup, Wx_lst, Wx_idx, Wx_slice, Wx_call, Wx_bi, Wx_isi, Wx_meth, Wx_nil, Wx_cons, Wx_onone, Wx_osome, Wx_cnone, Wx_csome, Wx_add, Wx_addT, Wx_sub, Wx_mul, Wx_fdiv, Wx_mod, Wx_tbl, Wx_tint, Wx_eqI, Wx_eqS, Wx_eqB, Wx_neI, Wx_ltI, Wx_leI, Wx_gtI, Wx_geI, Wx_idxT, atD_0, atD_1, atD_2, Wx_abs, Wx_intI, Wx_intB, Wx_cutT, Wx_srcT, Wx_range, Wx_ret, Wx_cond, List.getElem?_cons_zero, List.getElem?_cons_succ, List.length_cons, List.length_nil, List.set_cons_zero, List.set_cons_succ, decide_eq_true_eq, bne_iff_ne, Wx_turn, wipeD, Ws_nil, Ws_cons, Ws_asg, Ws_par, Ws_expr, Ws_ret, Ws_retn, Ws_pass, Ws_ite, asgD, setAll]
      exact w_inner f (by omega) (hq _ _ (List.prefix_append _ _) get_last) hl
    · have := (F.sz_inner (f := f)).2 x hx
      have := F.dep_inner hx
      exact ih x (by omega) (by omega) n S Q NoEx (by omega) hq
    · simp only [Wx_var, Wx_con, Wx_glob, Wx_bin, Wx_neg, Wx_negI, Wx_not, Wx_cmp, Wx_and, Wx_or, Wx_ite, Wx_tup, Wx_lst, Wx_idx, Wx_slice, Wx_call, Wx_bi, Wx_isi, Wx_meth, Wx_nil, Wx_cons, Wx_onone, Wx_osome, Wx_cnone, Wx_csome, Wx_add, Wx_addT, Wx_sub, Wx_mul, Wx_fdiv, Wx_mod, Wx_tbl, Wx_tint, Wx_eqI, Wx_eqS, Wx_eqB, Wx_neI, Wx_ltI, Wx_leI, Wx_gtI, Wx_geI, Wx_idxT, atD_0, atD_1, atD_2, Wx_abs, Wx_intI, Wx_intB, Wx_cutT, Wx_srcT, Wx_range, Wx_ret, Wx_cond, List.getElem?_cons_zero, List.getElem?_cons_succ, List.length_cons, List.length_nil, List.set_cons_zero, List.set_cons_succ, decide_eq_true_eq, bne_iff_ne, Wx_turn, wipeD, Ws_nil, Ws_cons, Ws_asg, Ws_par, Ws_expr, Ws_ret, Ws_retn, Ws_pass, Ws_ite, asgD, setAll, Wx_tag, ts_sum]
      rw [F.fold_eq] at h
      by_cases ht : f.tag = 0
      · rw [if_pos (by simpa using ht)]
        simp only [Wx_var, Wx_con, Wx_glob, Wx_bin, Wx_neg, Wx_negI, Wx_not, Wx_cmp, Wx_and, Wx_or, Wx_ite, Wx_tup, Wx_lst, Wx_idx, Wx_slice, Wx_call, Wx_bi, Wx_isi, Wx_meth, Wx_nil, Wx_cons, Wx_onone, Wx_osome, Wx_cnone, Wx_csome, Wx_add, Wx_addT, Wx_sub, Wx_mul, Wx_fdiv, Wx_mod, Wx_tbl, Wx_tint, Wx_eqI, Wx_eqS, Wx_eqB, Wx_neI, Wx_ltI, Wx_leI, Wx_gtI, Wx_geI, Wx_idxT, atD_0, atD_1, atD_2, Wx_abs, Wx_intI, Wx_intB, Wx_cutT, Wx_srcT, Wx_range, Wx_ret, Wx_cond, List.getElem?_cons_zero, List.getElem?_cons_succ, List.length_cons, List.length_nil, List.set_cons_zero, List.set_cons_succ, decide_eq_true_eq, bne_iff_ne, Wx_turn, wipeD, Ws_nil, Ws_cons, Ws_asg, Ws_par, Ws_expr, Ws_ret, Ws_retn, Ws_pass, Ws_ite, asgD, setAll, Ws_for]
        rw [Wx_srcL (seq_lst e1)]
        have hz := F.szs_le f
        refine Ws_forD (I := fun ds δ S' => S' = S1 ∧ ∃ (done rest : List F) (o : Option D), ds = rest.map (fun x => D.int (x.fold aMany)) ∧ done ++ rest = f.inner ∧ δ = [some f.d, some (.ref k), none, some (.int (prodI (done.map (·.fold aMany)))), o]) ?_ ?_ ⟨rfl, [], f.inner, none, rfl, rfl, rfl⟩
        · rintro d ds δ S' ⟨rfl, done, rest, o, e2, e3, rfl⟩
          cases rest with
          | nil => cases e2
          | cons x rest =>
            cases e2
            refine ⟨kept_self, _, rfl, Wx_block ?_⟩
            simp only [Wx_var, Wx_con, Wx_glob, Wx_bin, Wx_neg, Wx_negI, Wx_not, Wx_cmp, Wx_and, Wx_or, Wx_ite, Wx_tup, Wx_lst, Wx_idx, Wx_slice, Wx_call, Wx_bi, Wx_isi, Wx_meth, Wx_nil, Wx_cons, Wx_onone, Wx_osome, Wx_cnone, Wx_csome, Wx_add, Wx_addT, Wx_sub, Wx_mul, Wx_fdiv, Wx_mod, Wx_tbl, Wx_tint, Wx_eqI, Wx_eqS, Wx_eqB, Wx_neI, Wx_ltI, Wx_leI, Wx_gtI, Wx_geI, Wx_idxT, atD_0, atD_1, atD_2, Wx_abs, Wx_intI, Wx_intB, Wx_cutT, Wx_srcT, Wx_range, Wx_ret, Wx_cond, List.getElem?_cons_zero, List.getElem?_cons_succ, List.length_cons, List.length_nil, List.set_cons_zero, List.set_cons_succ, decide_eq_true_eq, bne_iff_ne, Wx_turn, wipeD, Ws_nil, Ws_cons, Ws_asg, Ws_par, Ws_expr, Ws_ret, Ws_retn, Ws_pass, Ws_ite, asgD, setAll]
            obtain ⟨p1, p2⟩ := prodF_le done
            obtain ⟨p3, p4⟩ := many_le x
            have hs : szs done + x.sz ≤ szs f.inner := by
              rw [← e3, szs_app]
              show szs done + x.sz ≤ szs done + (x.sz :: rest.map F.sz).sum
              rw [List.sum_cons]
              omega
            refine ⟨mulOk_of (natAbs_of p1 p2) (natAbs_of p3 p4) (by omega), trivial, done ++ [x], rest, some (.int (x.fold aMany)), rfl, by rw [List.append_assoc]; exact e3, ?_⟩
            rw [List.map_append, prod_app, List.map_cons, List.map_nil, prod_cons]
            simp [prodI]
        · rintro δ S' ⟨rfl, done, rest, o, e2, e3, rfl⟩
          cases rest with
          | cons _ _ => cases e2
          | nil =>
            refine ⟨kept_self, ?_⟩
            simp only [Wx_var, Wx_con, Wx_glob, Wx_bin, Wx_neg, Wx_negI, Wx_not, Wx_cmp, Wx_and, Wx_or, Wx_ite, Wx_tup, Wx_lst, Wx_idx, Wx_slice, Wx_call, Wx_bi, Wx_isi, Wx_meth, Wx_nil, Wx_cons, Wx_onone, Wx_osome, Wx_cnone, Wx_csome, Wx_add, Wx_addT, Wx_sub, Wx_mul, Wx_fdiv, Wx_mod, Wx_tbl, Wx_tint, Wx_eqI, Wx_eqS, Wx_eqB, Wx_neI, Wx_ltI, Wx_leI, Wx_gtI, Wx_geI, Wx_idxT, atD_0, atD_1, atD_2, Wx_abs, Wx_intI, Wx_intB, Wx_cutT, Wx_srcT, Wx_range, Wx_ret, Wx_cond, List.getElem?_cons_zero, List.getElem?_cons_succ, List.length_cons, List.length_nil, List.set_cons_zero, List.set_cons_succ, decide_eq_true_eq, bne_iff_ne, Wx_turn, wipeD, Ws_nil, Ws_cons, Ws_asg, Ws_par, Ws_expr, Ws_ret, Ws_retn, Ws_pass, Ws_ite, asgD, setAll]
            rw [List.append_nil] at e3
            rw [e3]
            have := h _ h1
            rw [show aMany f.tag (f.inner.map fun x => x.fold aMany) = prodI (f.inner.map fun x => x.fold aMany) from if_pos ht] at this
            exact this
      · rw [if_neg (by simpa using ht)]
        rw [Wx_sum (list_lst e1) ints_of]
        simp only [Wx_var, Wx_con, Wx_glob, Wx_bin, Wx_neg, Wx_negI, Wx_not, Wx_cmp, Wx_and, Wx_or, Wx_ite, Wx_tup, Wx_lst, Wx_idx, Wx_slice, Wx_call, Wx_bi, Wx_isi, Wx_meth, Wx_nil, Wx_cons, Wx_onone, Wx_osome, Wx_cnone, Wx_csome, Wx_add, Wx_addT, Wx_sub, Wx_mul, Wx_fdiv, Wx_mod, Wx_tbl, Wx_tint, Wx_eqI, Wx_eqS, Wx_eqB, Wx_neI, Wx_ltI, Wx_leI, Wx_gtI, Wx_geI, Wx_idxT, atD_0, atD_1, atD_2, Wx_abs, Wx_intI, Wx_intB, Wx_cutT, Wx_srcT, Wx_range, Wx_ret, Wx_cond, List.getElem?_cons_zero, List.getElem?_cons_succ, List.length_cons, List.length_nil, List.set_cons_zero, List.set_cons_succ, decide_eq_true_eq, bne_iff_ne, Wx_turn, wipeD, Ws_nil, Ws_cons, Ws_asg, Ws_par, Ws_expr, Ws_ret, Ws_retn, Ws_pass, Ws_ite, asgD, setAll, Wx_tag, ts_size, ts_held]
        have := h _ h1
        have hf := many_le f
        have hs := sumF_nonneg f.inner
        have e : aMany f.tag (f.inner.map fun x => x.fold aMany) = (f.inner.map fun x => x.fold aMany).sum * (if f.tag = 3 then 2 else 1) + (if f.tag = 4 then 2 else 0) := if_neg ht
        rw [F.fold_eq, e] at hf
        rw [e] at this
        by_cases h3 : f.tag = 3
        · have h4 : ¬ f.tag = 4 := by omega
          rw [if_pos h3, if_neg h4] at this hf
          rw [if_pos h3, if_neg h4]
          exact ⟨mulOk_of (b := 2) (natAbs_of hs (k := 3 * f.sz) (by omega)) (by decide) (by omega), this⟩
        · rw [if_neg h3] at this hf
          rw [if_neg h3]
          by_cases h4 : f.tag = 4
          · rw [if_pos h4] at this hf
            rw [if_pos h4]
            exact ⟨mulOk_of (b := 2) (natAbs_of hs (k := 3 * f.sz) (by omega)) (by decide) (by omega), this⟩
          · rw [if_neg h4] at this hf
            rw [if_neg h4]
            exact ⟨mulOk_of (b := 2) (natAbs_of hs (k := 3 * f.sz) (by omega)) (by decide) (by omega), this⟩
theorem w_lmany : ∀ (b : Nat) (f : F), f.sz ≤ b → b ≤ 1000000 → ∀ (m : Nat) (S : Store) (Q : D → Store → Prop) (E : Ex), f.dep + 2 ≤ m → (∀ S', S <+: S' → Q (.int (f.fold aMany)) S') → Wx (run P m 40 [f.d]) S Q E := by
  intro b
  induction b with
  | zero => intro f h; cases f <;> exact absurd h (Nat.not_succ_le_zero _)
  | succ b ih =>
    intro f hb hb2 m S Q E hm h
    obtain ⟨n, rfl⟩ : ∃ n, m = n + 1 := ⟨m - 1, by omega⟩
    have hl : f.inner.length ≤ line := by have := (F.sz_inner (f := f)).1; unfold line; omega
    rw [r__law_many, Wx_end]
    unfold b__law_many
    simp only [Wx_var, Wx_con, Wx_glob, Wx_bin, Wx_neg, Wx_negI, Wx_not, Wx_cmp, Wx_and, Wx_or, Wx_ite, Wx_tup, Wx_lst, Wx_idx, Wx_slice, Wx_call, Wx_bi, Wx_isi, Wx_meth, Wx_nil, Wx_cons, Wx_onone, Wx_osome, Wx_cnone, Wx_csome, Wx_add, Wx_addT, Wx_sub, Wx_mul, Wx_fdiv, Wx_mod, Wx_tbl, Wx_tint, Wx_eqI, Wx_eqS, Wx_eqB, Wx_neI, Wx_ltI, Wx_leI, Wx_gtI, Wx_geI, Wx_idxT, atD_0, atD_1, atD_2, Wx_abs, Wx_intI, Wx_intB, Wx_cutT, Wx_srcT, Wx_range, Wx_ret, Wx_cond, List.getElem?_cons_zero, List.getElem?_cons_succ, List.length_cons, List.length_nil, List.set_cons_zero, List.set_cons_succ, decide_eq_true_eq, bne_iff_ne, Wx_turn, wipeD, Ws_nil, Ws_cons, Ws_asg, Ws_par, Ws_expr, Ws_ret, Ws_retn, Ws_pass, Ws_ite, asgD, setAll]
    refine w_comp (f := f) (A := aMany) (by simp) hl (fun S Q E hq => ?_) (fun x hx S Q hq => ?_) fun S1 k h1 e1 => ?_
    · simp only [Wx_var, Wx_con, Wx_glob, Wx_bin, Wx_neg, Wx_negI, Wx_not, Wx_cmp, Wx_and, Wx_or, Wx_ite, Wx_tup, Wx_lst, Wx_idx, Wx_slice, Wx_call, Wx_bi, Wx_isi, Wx_meth, Wx_nil, Wx_cons, Wx_onone, Wx_osome, Wx_cnone, Wx_csome, Wx_add, Wx_addT, Wx_sub, Wx_mul, Wx_fdiv, Wx_mod, Wx_tbl, Wx_tint, Wx_eqI, Wx_eqS, Wx_eqB, Wx_neI, Wx_ltI, Wx_leI, Wx_gtI, Wx_geI, Wx_idxT, atD_0, atD_1, atD_2, Wx_abs, Wx_intI, Wx_intB, Wx_cutT, Wx_srcT, Wx_range, Wx_ret, Wx_cond, List.getElem?_cons_zero, List.getElem?_cons_succ, List.length_cons, List.length_nil, List.set_cons_zero, List.set_cons_succ, decide_eq_true_eq, bne_iff_ne, Wx_turn, wipeD, Ws_nil, Ws_cons, Ws_asg, Ws_par, Ws_expr, Ws_ret, Ws_retn, Ws_pass, Ws_ite, asgD, setAll]
      exact w_linner f (by omega) hq hl
    · have := (F.sz_inner (f := f)).2 x hx
      have := F.dep_inner hx
      exact ih x (by omega) (by omega) n S Q NoEx (by omega) hq
    · simp only [Wx_var, Wx_con, Wx_glob, Wx_bin, Wx_neg, Wx_negI, Wx_not, Wx_cmp, Wx_and, Wx_or, Wx_ite, Wx_tup, Wx_lst, Wx_idx, Wx_slice, Wx_call, Wx_bi, Wx_isi, Wx_meth, Wx_nil, Wx_cons, Wx_onone, Wx_osome, Wx_cnone, Wx_csome, Wx_add, Wx_addT, Wx_sub, Wx_mul, Wx_fdiv, Wx_mod, Wx_tbl, Wx_tint, Wx_eqI, Wx_eqS, Wx_eqB, Wx_neI, Wx_ltI, Wx_leI, Wx_gtI, Wx_geI, Wx_idxT, atD_0, atD_1, atD_2, Wx_abs, Wx_intI, Wx_intB, Wx_cutT, Wx_srcT, Wx_range, Wx_ret, Wx_cond, List.getElem?_cons_zero, List.getElem?_cons_succ, List.length_cons, List.length_nil, List.set_cons_zero, List.set_cons_succ, decide_eq_true_eq, bne_iff_ne, Wx_turn, wipeD, Ws_nil, Ws_cons, Ws_asg, Ws_par, Ws_expr, Ws_ret, Ws_retn, Ws_pass, Ws_ite, asgD, setAll, Wx_tag, ts_sum]
      rw [F.fold_eq] at h
      by_cases ht : f.tag = 0
      · rw [if_pos (by simpa using ht)]
        simp only [Wx_var, Wx_con, Wx_glob, Wx_bin, Wx_neg, Wx_negI, Wx_not, Wx_cmp, Wx_and, Wx_or, Wx_ite, Wx_tup, Wx_lst, Wx_idx, Wx_slice, Wx_call, Wx_bi, Wx_isi, Wx_meth, Wx_nil, Wx_cons, Wx_onone, Wx_osome, Wx_cnone, Wx_csome, Wx_add, Wx_addT, Wx_sub, Wx_mul, Wx_fdiv, Wx_mod, Wx_tbl, Wx_tint, Wx_eqI, Wx_eqS, Wx_eqB, Wx_neI, Wx_ltI, Wx_leI, Wx_gtI, Wx_geI, Wx_idxT, atD_0, atD_1, atD_2, Wx_abs, Wx_intI, Wx_intB, Wx_cutT, Wx_srcT, Wx_range, Wx_ret, Wx_cond, List.getElem?_cons_zero, List.getElem?_cons_succ, List.length_cons, List.length_nil, List.set_cons_zero, List.set_cons_succ, decide_eq_true_eq, bne_iff_ne, Wx_turn, wipeD, Ws_nil, Ws_cons, Ws_asg, Ws_par, Ws_expr, Ws_ret, Ws_retn, Ws_pass, Ws_ite, asgD, setAll, Ws_for]
        rw [Wx_srcL (seq_lst e1)]
        have hz := F.szs_le f
        refine Ws_forD (I := fun ds δ S' => S' = S1 ∧ ∃ (done rest : List F) (o : Option D), ds = rest.map (fun x => D.int (x.fold aMany)) ∧ done ++ rest = f.inner ∧ δ = [some f.d, some (.ref k), none, some (.int (prodI (done.map (·.fold aMany)))), o]) ?_ ?_ ⟨rfl, [], f.inner, none, rfl, rfl, rfl⟩
        · rintro d ds δ S' ⟨rfl, done, rest, o, e2, e3, rfl⟩
          cases rest with
          | nil => cases e2
          | cons x rest =>
            cases e2
            refine ⟨kept_self, _, rfl, Wx_block ?_⟩
            simp only [Wx_var, Wx_con, Wx_glob, Wx_bin, Wx_neg, Wx_negI, Wx_not, Wx_cmp, Wx_and, Wx_or, Wx_ite, Wx_tup, Wx_lst, Wx_idx, Wx_slice, Wx_call, Wx_bi, Wx_isi, Wx_meth, Wx_nil, Wx_cons, Wx_onone, Wx_osome, Wx_cnone, Wx_csome, Wx_add, Wx_addT, Wx_sub, Wx_mul, Wx_fdiv, Wx_mod, Wx_tbl, Wx_tint, Wx_eqI, Wx_eqS, Wx_eqB, Wx_neI, Wx_ltI, Wx_leI, Wx_gtI, Wx_geI, Wx_idxT, atD_0, atD_1, atD_2, Wx_abs, Wx_intI, Wx_intB, Wx_cutT, Wx_srcT, Wx_range, Wx_ret, Wx_cond, List.getElem?_cons_zero, List.getElem?_cons_succ, List.length_cons, List.length_nil, List.set_cons_zero, List.set_cons_succ, decide_eq_true_eq, bne_iff_ne, Wx_turn, wipeD, Ws_nil, Ws_cons, Ws_asg, Ws_par, Ws_expr, Ws_ret, Ws_retn, Ws_pass, Ws_ite, asgD, setAll]
            obtain ⟨p1, p2⟩ := prodF_le done
            obtain ⟨p3, p4⟩ := many_le x
            have hs : szs done + x.sz ≤ szs f.inner := by
              rw [← e3, szs_app]
              show szs done + x.sz ≤ szs done + (x.sz :: rest.map F.sz).sum
              rw [List.sum_cons]
              omega
            refine ⟨mulOk_of (natAbs_of p1 p2) (natAbs_of p3 p4) (by omega), trivial, done ++ [x], rest, some (.int (x.fold aMany)), rfl, by rw [List.append_assoc]; exact e3, ?_⟩
            rw [List.map_append, prod_app, List.map_cons, List.map_nil, prod_cons]
            simp [prodI]
        · rintro δ S' ⟨rfl, done, rest, o, e2, e3, rfl⟩
          cases rest with
          | cons _ _ => cases e2
          | nil =>
            refine ⟨kept_self, ?_⟩
            simp only [Wx_var, Wx_con, Wx_glob, Wx_bin, Wx_neg, Wx_negI, Wx_not, Wx_cmp, Wx_and, Wx_or, Wx_ite, Wx_tup, Wx_lst, Wx_idx, Wx_slice, Wx_call, Wx_bi, Wx_isi, Wx_meth, Wx_nil, Wx_cons, Wx_onone, Wx_osome, Wx_cnone, Wx_csome, Wx_add, Wx_addT, Wx_sub, Wx_mul, Wx_fdiv, Wx_mod, Wx_tbl, Wx_tint, Wx_eqI, Wx_eqS, Wx_eqB, Wx_neI, Wx_ltI, Wx_leI, Wx_gtI, Wx_geI, Wx_idxT, atD_0, atD_1, atD_2, Wx_abs, Wx_intI, Wx_intB, Wx_cutT, Wx_srcT, Wx_range, Wx_ret, Wx_cond, List.getElem?_cons_zero, List.getElem?_cons_succ, List.length_cons, List.length_nil, List.set_cons_zero, List.set_cons_succ, decide_eq_true_eq, bne_iff_ne, Wx_turn, wipeD, Ws_nil, Ws_cons, Ws_asg, Ws_par, Ws_expr, Ws_ret, Ws_retn, Ws_pass, Ws_ite, asgD, setAll]
            rw [List.append_nil] at e3
            rw [e3]
            have := h _ h1
            rw [show aMany f.tag (f.inner.map fun x => x.fold aMany) = prodI (f.inner.map fun x => x.fold aMany) from if_pos ht] at this
            exact this
      · rw [if_neg (by simpa using ht)]
        rw [Wx_sum (list_lst e1) ints_of]
        simp only [Wx_var, Wx_con, Wx_glob, Wx_bin, Wx_neg, Wx_negI, Wx_not, Wx_cmp, Wx_and, Wx_or, Wx_ite, Wx_tup, Wx_lst, Wx_idx, Wx_slice, Wx_call, Wx_bi, Wx_isi, Wx_meth, Wx_nil, Wx_cons, Wx_onone, Wx_osome, Wx_cnone, Wx_csome, Wx_add, Wx_addT, Wx_sub, Wx_mul, Wx_fdiv, Wx_mod, Wx_tbl, Wx_tint, Wx_eqI, Wx_eqS, Wx_eqB, Wx_neI, Wx_ltI, Wx_leI, Wx_gtI, Wx_geI, Wx_idxT, atD_0, atD_1, atD_2, Wx_abs, Wx_intI, Wx_intB, Wx_cutT, Wx_srcT, Wx_range, Wx_ret, Wx_cond, List.getElem?_cons_zero, List.getElem?_cons_succ, List.length_cons, List.length_nil, List.set_cons_zero, List.set_cons_succ, decide_eq_true_eq, bne_iff_ne, Wx_turn, wipeD, Ws_nil, Ws_cons, Ws_asg, Ws_par, Ws_expr, Ws_ret, Ws_retn, Ws_pass, Ws_ite, asgD, setAll, Wx_tag, ts_size, ts_held]
        have := h _ h1
        have hf := many_le f
        have hs := sumF_nonneg f.inner
        have e : aMany f.tag (f.inner.map fun x => x.fold aMany) = (f.inner.map fun x => x.fold aMany).sum * (if f.tag = 3 then 2 else 1) + (if f.tag = 4 then 2 else 0) := if_neg ht
        rw [F.fold_eq, e] at hf
        rw [e] at this
        by_cases h3 : f.tag = 3
        · have h4 : ¬ f.tag = 4 := by omega
          rw [if_pos h3, if_neg h4] at this hf
          rw [if_pos h3, if_neg h4]
          exact ⟨mulOk_of (b := 2) (natAbs_of hs (k := 3 * f.sz) (by omega)) (by decide) (by omega), this⟩
        · rw [if_neg h3] at this hf
          rw [if_neg h3]
          by_cases h4 : f.tag = 4
          · rw [if_pos h4] at this hf
            rw [if_pos h4]
            exact ⟨mulOk_of (b := 2) (natAbs_of hs (k := 3 * f.sz) (by omega)) (by decide) (by omega), this⟩
          · rw [if_neg h4] at this hf
            rw [if_neg h4]
            exact ⟨mulOk_of (b := 2) (natAbs_of hs (k := 3 * f.sz) (by omega)) (by decide) (by omega), this⟩
end
end K03

set_option Elab.async false
set_option linter.all false
set_option maxRecDepth 100000
set_option maxHeartbeats 2000000
set_option autoImplicit false
/-! k03, the plain law: the law's own fractions, counts, sameness. -/
namespace K03
open Ev
section
variable {n m : Nat} {S : Store} {Q : D → Store → Prop} {E : Ex}
theorem gcd_abs (t b : Int) : Int.gcd (t.natAbs : Int) (b.natAbs : Int) = Int.gcd b t := by
  rw [Int.gcd_comm b t]
  rfl
theorem w_frac (t b : Int) {j k : Nat} (hb : b ≠ 0) (ht : t.natAbs < 2 ^ j) (hk : b.natAbs < 2 ^ k) (hjk : j < 50000000 ∧ k < 50000000) (h : Q (fr (Rat.divInt t b)) S) : Wx (run P (n + 1) 24 [.int t, .int b]) S Q E := by
  have hg : (Int.gcd b t : Int) ≠ 0 := by
    intro z
    have := Int.gcd_eq_zero_iff.mp (Int.ofNat.inj z)
    exact hb this.1
  have d1 : (Int.gcd b t : Int) ∣ t := Int.gcd_dvd_right ..
  have d2 : (Int.gcd b t : Int) ∣ b := Int.gcd_dvd_left ..
  have hn := Rat.num_divInt t b
  have hd := Rat.den_divInt t b
  rw [if_neg hb] at hd
  rw [r__law_frac, Wx_end]
  unfold b__law_frac
  simp only [Wx_var, Wx_con, Wx_glob, Wx_bin, Wx_neg, Wx_negI, Wx_not, Wx_cmp, Wx_and, Wx_or, Wx_ite, Wx_tup, Wx_lst, Wx_idx, Wx_slice, Wx_call, Wx_bi, Wx_isi, Wx_meth, Wx_nil, Wx_cons, Wx_onone, Wx_osome, Wx_cnone, Wx_csome, Wx_add, Wx_addT, Wx_sub, Wx_mul, Wx_fdiv, Wx_mod, Wx_tbl, Wx_tint, Wx_eqI, Wx_eqS, Wx_eqB, Wx_neI, Wx_ltI, Wx_leI, Wx_gtI, Wx_geI, Wx_idxT, atD_0, atD_1, atD_2, Wx_abs, Wx_intI, Wx_intB, Wx_cutT, Wx_srcT, Wx_range, Wx_ret, Wx_cond, List.getElem?_cons_zero, List.getElem?_cons_succ, List.length_cons, List.length_nil, List.set_cons_zero, List.set_cons_succ, decide_eq_true_eq, bne_iff_ne, Wx_turn, wipeD, Ws_nil, Ws_cons, Ws_asg, Ws_par, Ws_expr, Ws_ret, Ws_retn, Ws_pass, Ws_ite, asgD, setAll]
  refine Ws_while (I := fun δ S' => S' = S ∧ ∃ x y : Int, 0 ≤ x ∧ 0 ≤ y ∧ δ = [some (.int t), some (.int b), some (.int x), some (.int y), none] ∧ Int.gcd x y = Int.gcd b t) (μ := fun δ _ => match δ with | [_, _, _, some (.int y), _] => y.natAbs | _ => 0) ?_ ⟨rfl, _, _, Int.natCast_nonneg _, Int.natCast_nonneg _, rfl, gcd_abs t b⟩
  rintro δ S' ⟨rfl, x, y, hx, hy, rfl, hgg⟩
  simp only [Wx_var, Wx_con, Wx_glob, Wx_bin, Wx_neg, Wx_negI, Wx_not, Wx_cmp, Wx_and, Wx_or, Wx_ite, Wx_tup, Wx_lst, Wx_idx, Wx_slice, Wx_call, Wx_bi, Wx_isi, Wx_meth, Wx_nil, Wx_cons, Wx_onone, Wx_osome, Wx_cnone, Wx_csome, Wx_add, Wx_addT, Wx_sub, Wx_mul, Wx_fdiv, Wx_mod, Wx_tbl, Wx_tint, Wx_eqI, Wx_eqS, Wx_eqB, Wx_neI, Wx_ltI, Wx_leI, Wx_gtI, Wx_geI, Wx_idxT, atD_0, atD_1, atD_2, Wx_abs, Wx_intI, Wx_intB, Wx_cutT, Wx_srcT, Wx_range, Wx_ret, Wx_cond, List.getElem?_cons_zero, List.getElem?_cons_succ, List.length_cons, List.length_nil, List.set_cons_zero, List.set_cons_succ, decide_eq_true_eq, bne_iff_ne, Wx_turn, wipeD, Ws_nil, Ws_cons, Ws_asg, Ws_par, Ws_expr, Ws_ret, Ws_retn, Ws_pass, Ws_ite, asgD, setAll]
  by_cases h0 : y > 0
  · rw [if_pos h0]
    refine Wx_block ?_
    simp only [Wx_var, Wx_con, Wx_glob, Wx_bin, Wx_neg, Wx_negI, Wx_not, Wx_cmp, Wx_and, Wx_or, Wx_ite, Wx_tup, Wx_lst, Wx_idx, Wx_slice, Wx_call, Wx_bi, Wx_isi, Wx_meth, Wx_nil, Wx_cons, Wx_onone, Wx_osome, Wx_cnone, Wx_csome, Wx_add, Wx_addT, Wx_sub, Wx_mul, Wx_fdiv, Wx_mod, Wx_tbl, Wx_tint, Wx_eqI, Wx_eqS, Wx_eqB, Wx_neI, Wx_ltI, Wx_leI, Wx_gtI, Wx_geI, Wx_idxT, atD_0, atD_1, atD_2, Wx_abs, Wx_intI, Wx_intB, Wx_cutT, Wx_srcT, Wx_range, Wx_ret, Wx_cond, List.getElem?_cons_zero, List.getElem?_cons_succ, List.length_cons, List.length_nil, List.set_cons_zero, List.set_cons_succ, decide_eq_true_eq, bne_iff_ne, Wx_turn, wipeD, Ws_nil, Ws_cons, Ws_asg, Ws_par, Ws_expr, Ws_ret, Ws_retn, Ws_pass, Ws_ite, asgD, setAll]
    obtain ⟨g1, g2⟩ := gcd_step (x := x) (y := y) (by omega)
    exact ⟨by omega, ⟨trivial, y, x.fmod y, hy, Int.fmod_nonneg_of_pos x h0, rfl, by rw [g1, hgg]⟩, g2⟩
  · rw [if_neg h0]
    obtain rfl : y = 0 := by omega
    have ex : x = (Int.gcd b t : Int) := by
      rw [← hgg, Int.gcd_zero_right]
      omega
    subst ex
    by_cases hs : b > 0
    · rw [if_pos hs]
      refine ⟨mulOk_of (a := 2) (by decide) ht (by omega), hg, mulOk_of (a := 2) (by decide) hk (by omega), hg, by decide, ?_⟩
      have e1 : (1 * t).fdiv (Int.gcd b t : Int) = (Rat.divInt t b).num := by
        rw [Int.one_mul, fdiv_exact d1, hn, Int.sign_eq_one_of_pos hs, Int.one_mul]
      have e2 : (1 * b).fdiv (Int.gcd b t : Int) = ((Rat.divInt t b).den : Int) := by
        rw [Int.one_mul, fdiv_exact d2, hd, Int.natCast_ediv, Int.natAbs_of_nonneg (by omega)]
      rw [e1, e2]
      exact h
    · rw [if_neg hs]
      refine ⟨mulOk_of (a := 2) (by decide) ht (by omega), hg, mulOk_of (a := 2) (by decide) hk (by omega), hg, by decide, ?_⟩
      have hs2 : b < 0 := by omega
      have e1 : (-1 * t).fdiv (Int.gcd b t : Int) = (Rat.divInt t b).num := by
        rw [hn, Int.sign_eq_neg_one_of_neg hs2, fdiv_exact (Int.dvd_mul_of_dvd_right d1)]
      have e2 : (-1 * b).fdiv (Int.gcd b t : Int) = ((Rat.divInt t b).den : Int) := by
        rw [fdiv_exact (Int.dvd_mul_of_dvd_right d2), hd, Int.natCast_ediv, Int.ofNat_natAbs_of_nonpos (by omega), Int.neg_one_mul]
      rw [e1, e2]
      exact h
theorem w_plus (a b : Rat) {j k : Nat} (ha : Bd j a) (hb : Bd k b) (hk : j + k + 1 < 50000000) (h : Q (fr (a + b)) S) : Wx (run P (n + 2) 25 [fr a, fr b]) S Q E := by
  rw [r__law_plus, Wx_end]
  unfold b__law_plus
  simp only [Wx_var, Wx_con, Wx_glob, Wx_bin, Wx_neg, Wx_negI, Wx_not, Wx_cmp, Wx_and, Wx_or, Wx_ite, Wx_tup, Wx_lst, Wx_idx, Wx_slice, Wx_call, Wx_bi, Wx_isi, Wx_meth, Wx_nil, Wx_cons, Wx_onone, Wx_osome, Wx_cnone, Wx_csome, Wx_add, Wx_addT, Wx_sub, Wx_mul, Wx_fdiv, Wx_mod, Wx_tbl, Wx_tint, Wx_eqI, Wx_eqS, Wx_eqB, Wx_neI, Wx_ltI, Wx_leI, Wx_gtI, Wx_geI, Wx_idxT, atD_0, atD_1, atD_2, Wx_abs, Wx_intI, Wx_intB, Wx_cutT, Wx_srcT, Wx_range, Wx_ret, Wx_cond, List.getElem?_cons_zero, List.getElem?_cons_succ, List.length_cons, List.length_nil, List.set_cons_zero, List.set_cons_succ, decide_eq_true_eq, bne_iff_ne, Wx_turn, wipeD, Ws_nil, Ws_cons, Ws_asg, Ws_par, Ws_expr, Ws_ret, Ws_retn, Ws_pass, Ws_ite, asgD, setAll]
  refine ⟨mulOk_of ha.1 (bd_den hb) (by omega), mulOk_of hb.1 (bd_den ha) (by omega), mulOk_of (bd_den ha) (bd_den hb) (by omega), ?_⟩
  have p1 : (a.num * (b.den : Int) + b.num * (a.den : Int)).natAbs < 2 ^ (j + k + 1) := by
    refine abs_add_lt (abs_mul_lt ha.1 (bd_den hb)) ?_
    rw [Int.mul_comm]
    exact abs_mul_lt (bd_den ha) hb.1
  have p2 : ((a.den : Int) * (b.den : Int)).natAbs < 2 ^ (j + k) := abs_mul_lt (bd_den ha) (bd_den hb)
  have da := den_pos' a
  have db := den_pos' b
  refine w_frac _ _ (Int.mul_ne_zero (by omega) (by omega)) p1 p2 (by omega) ?_
  have e : Rat.divInt (a.num * (b.den : Int) + b.num * (a.den : Int)) ((a.den : Int) * (b.den : Int)) = a + b := by
    rw [Rat.add_def', ← Int.natCast_mul, Rat.divInt_ofNat]
  rw [e]
  exact h
theorem w_mult (a b : Rat) {j k : Nat} (ha : Bd j a) (hb : Bd k b) (hk : j + k + 1 < 50000000) (h : Q (fr (a * b)) S) : Wx (run P (n + 2) 26 [fr a, fr b]) S Q E := by
  rw [r__law_mult, Wx_end]
  unfold b__law_mult
  simp only [Wx_var, Wx_con, Wx_glob, Wx_bin, Wx_neg, Wx_negI, Wx_not, Wx_cmp, Wx_and, Wx_or, Wx_ite, Wx_tup, Wx_lst, Wx_idx, Wx_slice, Wx_call, Wx_bi, Wx_isi, Wx_meth, Wx_nil, Wx_cons, Wx_onone, Wx_osome, Wx_cnone, Wx_csome, Wx_add, Wx_addT, Wx_sub, Wx_mul, Wx_fdiv, Wx_mod, Wx_tbl, Wx_tint, Wx_eqI, Wx_eqS, Wx_eqB, Wx_neI, Wx_ltI, Wx_leI, Wx_gtI, Wx_geI, Wx_idxT, atD_0, atD_1, atD_2, Wx_abs, Wx_intI, Wx_intB, Wx_cutT, Wx_srcT, Wx_range, Wx_ret, Wx_cond, List.getElem?_cons_zero, List.getElem?_cons_succ, List.length_cons, List.length_nil, List.set_cons_zero, List.set_cons_succ, decide_eq_true_eq, bne_iff_ne, Wx_turn, wipeD, Ws_nil, Ws_cons, Ws_asg, Ws_par, Ws_expr, Ws_ret, Ws_retn, Ws_pass, Ws_ite, asgD, setAll]
  refine ⟨mulOk_of ha.1 hb.1 (by omega), mulOk_of (bd_den ha) (bd_den hb) (by omega), ?_⟩
  have da := den_pos' a
  have db := den_pos' b
  refine w_frac _ _ (Int.mul_ne_zero (by omega) (by omega)) (abs_mul_lt ha.1 hb.1) (abs_mul_lt (bd_den ha) (bd_den hb)) (by omega) ?_
  have e : Rat.divInt (a.num * b.num) ((a.den : Int) * (b.den : Int)) = a * b := by
    rw [Rat.mul_def', ← Int.natCast_mul, Rat.divInt_ofNat]
  rw [e]
  exact h
theorem w_turn (a : Rat) (h : Q (fr (-a)) S) : Wx (run P (n + 1) 27 [fr a]) S Q E := by
  rw [r__law_turn, Wx_end]
  unfold b__law_turn
  simp only [Wx_var, Wx_con, Wx_glob, Wx_bin, Wx_neg, Wx_negI, Wx_not, Wx_cmp, Wx_and, Wx_or, Wx_ite, Wx_tup, Wx_lst, Wx_idx, Wx_slice, Wx_call, Wx_bi, Wx_isi, Wx_meth, Wx_nil, Wx_cons, Wx_onone, Wx_osome, Wx_cnone, Wx_csome, Wx_add, Wx_addT, Wx_sub, Wx_mul, Wx_fdiv, Wx_mod, Wx_tbl, Wx_tint, Wx_eqI, Wx_eqS, Wx_eqB, Wx_neI, Wx_ltI, Wx_leI, Wx_gtI, Wx_geI, Wx_idxT, atD_0, atD_1, atD_2, Wx_abs, Wx_intI, Wx_intB, Wx_cutT, Wx_srcT, Wx_range, Wx_ret, Wx_cond, List.getElem?_cons_zero, List.getElem?_cons_succ, List.length_cons, List.length_nil, List.set_cons_zero, List.set_cons_succ, decide_eq_true_eq, bne_iff_ne, Wx_turn, wipeD, Ws_nil, Ws_cons, Ws_asg, Ws_par, Ws_expr, Ws_ret, Ws_retn, Ws_pass, Ws_ite, asgD, setAll]
  refine ⟨by decide, ?_⟩
  have e : fr (-a) = .tup [.int (-a.num), .int (a.den : Int)] := by
    show D.tup [.int (-a).num, .int ((-a).den : Int)] = _
    rw [Rat.neg_num, Rat.neg_den]
  rw [← e]
  exact h
theorem w_below (a b : Rat) {j k : Nat} (ha : Bd j a) (hb : Bd k b) (hk : j + k < 100000000) (h : Q (.bl (decide (a < b))) S) : Wx (run P (n + 1) 28 [fr a, fr b]) S Q E := by
  rw [r__law_below, Wx_end]
  unfold b__law_below
  simp only [Wx_var, Wx_con, Wx_glob, Wx_bin, Wx_neg, Wx_negI, Wx_not, Wx_cmp, Wx_and, Wx_or, Wx_ite, Wx_tup, Wx_lst, Wx_idx, Wx_slice, Wx_call, Wx_bi, Wx_isi, Wx_meth, Wx_nil, Wx_cons, Wx_onone, Wx_osome, Wx_cnone, Wx_csome, Wx_add, Wx_addT, Wx_sub, Wx_mul, Wx_fdiv, Wx_mod, Wx_tbl, Wx_tint, Wx_eqI, Wx_eqS, Wx_eqB, Wx_neI, Wx_ltI, Wx_leI, Wx_gtI, Wx_geI, Wx_idxT, atD_0, atD_1, atD_2, Wx_abs, Wx_intI, Wx_intB, Wx_cutT, Wx_srcT, Wx_range, Wx_ret, Wx_cond, List.getElem?_cons_zero, List.getElem?_cons_succ, List.length_cons, List.length_nil, List.set_cons_zero, List.set_cons_succ, decide_eq_true_eq, bne_iff_ne, Wx_turn, wipeD, Ws_nil, Ws_cons, Ws_asg, Ws_par, Ws_expr, Ws_ret, Ws_retn, Ws_pass, Ws_ite, asgD, setAll]
  refine ⟨mulOk_of ha.1 (bd_den hb) (by omega), mulOk_of hb.1 (bd_den ha) (by omega), ?_⟩
  have e : decide (a < b) = decide (a.num * (b.den : Int) < b.num * (a.den : Int)) := decide_eq_decide.mpr (Rat.lt_iff a b)
  rw [← e]
  exact h
theorem w_labs (a : Rat) (h : Q (fr (ab a)) S) : Wx (run P (n + 1) 29 [fr a]) S Q E := by
  rw [r__law_abs, Wx_end]
  unfold b__law_abs
  simp only [Wx_var, Wx_con, Wx_glob, Wx_bin, Wx_neg, Wx_negI, Wx_not, Wx_cmp, Wx_and, Wx_or, Wx_ite, Wx_tup, Wx_lst, Wx_idx, Wx_slice, Wx_call, Wx_bi, Wx_isi, Wx_meth, Wx_nil, Wx_cons, Wx_onone, Wx_osome, Wx_cnone, Wx_csome, Wx_add, Wx_addT, Wx_sub, Wx_mul, Wx_fdiv, Wx_mod, Wx_tbl, Wx_tint, Wx_eqI, Wx_eqS, Wx_eqB, Wx_neI, Wx_ltI, Wx_leI, Wx_gtI, Wx_geI, Wx_idxT, atD_0, atD_1, atD_2, Wx_abs, Wx_intI, Wx_intB, Wx_cutT, Wx_srcT, Wx_range, Wx_ret, Wx_cond, List.getElem?_cons_zero, List.getElem?_cons_succ, List.length_cons, List.length_nil, List.set_cons_zero, List.set_cons_succ, decide_eq_true_eq, bne_iff_ne, Wx_turn, wipeD, Ws_nil, Ws_cons, Ws_asg, Ws_par, Ws_expr, Ws_ret, Ws_retn, Ws_pass, Ws_ite, asgD, setAll]
  rw [ab_fr] at h
  exact ⟨by decide, h⟩
theorem w_ltop {k K : Nat} {qs : List Rat} (hS : S[k]? = some (.lst (qs.map fr))) (hq : qs ≠ []) (hb : ∀ q ∈ qs, Bd K q) (hK : K + K < 100000000) (h : ∀ m, IsMax qs m → Q (fr m) S) : Wx (run P (n + 2) 30 [.ref k]) S Q E := by
  rw [r__law_top, Wx_end]
  unfold b__law_top
  cases qs with
  | nil => exact absurd rfl hq
  | cons q0 qr =>
    simp only [Wx_var, Wx_con, Wx_glob, Wx_bin, Wx_neg, Wx_negI, Wx_not, Wx_cmp, Wx_and, Wx_or, Wx_ite, Wx_tup, Wx_lst, Wx_idx, Wx_slice, Wx_call, Wx_bi, Wx_isi, Wx_meth, Wx_nil, Wx_cons, Wx_onone, Wx_osome, Wx_cnone, Wx_csome, Wx_add, Wx_addT, Wx_sub, Wx_mul, Wx_fdiv, Wx_mod, Wx_tbl, Wx_tint, Wx_eqI, Wx_eqS, Wx_eqB, Wx_neI, Wx_ltI, Wx_leI, Wx_gtI, Wx_geI, Wx_idxT, atD_0, atD_1, atD_2, Wx_abs, Wx_intI, Wx_intB, Wx_cutT, Wx_srcT, Wx_range, Wx_ret, Wx_cond, List.getElem?_cons_zero, List.getElem?_cons_succ, List.length_cons, List.length_nil, List.set_cons_zero, List.set_cons_succ, decide_eq_true_eq, bne_iff_ne, Wx_turn, wipeD, Ws_nil, Ws_cons, Ws_asg, Ws_par, Ws_expr, Ws_ret, Ws_retn, Ws_pass, Ws_ite, asgD, setAll]
    rw [Wx_idxL (seq_lst hS)]
    simp only [List.map_cons, Wx_var, Wx_con, Wx_glob, Wx_bin, Wx_neg, Wx_negI, Wx_not, Wx_cmp, Wx_and, Wx_or, Wx_ite, Wx_tup, Wx_lst, Wx_idx, Wx_slice, Wx_call, Wx_bi, Wx_isi, Wx_meth, Wx_nil, Wx_cons, Wx_onone, Wx_osome, Wx_cnone, Wx_csome, Wx_add, Wx_addT, Wx_sub, Wx_mul, Wx_fdiv, Wx_mod, Wx_tbl, Wx_tint, Wx_eqI, Wx_eqS, Wx_eqB, Wx_neI, Wx_ltI, Wx_leI, Wx_gtI, Wx_geI, Wx_idxT, atD_0, atD_1, atD_2, Wx_abs, Wx_intI, Wx_intB, Wx_cutT, Wx_srcT, Wx_range, Wx_ret, Wx_cond, List.getElem?_cons_zero, List.getElem?_cons_succ, List.length_cons, List.length_nil, List.set_cons_zero, List.set_cons_succ, decide_eq_true_eq, bne_iff_ne, Wx_turn, wipeD, Ws_nil, Ws_cons, Ws_asg, Ws_par, Ws_expr, Ws_ret, Ws_retn, Ws_pass, Ws_ite, asgD, setAll, Ws_for]
    rw [Wx_srcL (seq_lst hS)]
    refine Ws_forD (I := fun ds δ S' => S' = S ∧ ∃ (done qs' : List Rat) (f : Rat) (o : Option D), ds = qs'.map fr ∧ done ++ qs' = q0 :: qr ∧ δ = [some (.ref k), some (fr f), o] ∧ IsMax (q0 :: done) f) ?_ ?_ ⟨rfl, [], q0 :: qr, q0, none, rfl, rfl, rfl, by simp [IsMax, Rat.le_refl]⟩
    · rintro d ds δ S' ⟨rfl, done, qs', f, o, e1, e2, rfl, hm⟩
      cases qs' with
      | nil => cases e1
      | cons q qs' =>
        cases e1
        have mq : q ∈ q0 :: qr := by rw [← e2]; simp
        have mf : f ∈ q0 :: qr := by
          rcases List.mem_cons.mp hm.1 with e | e
          · rw [e]; simp
          · rw [← e2]; simp [e]
        refine ⟨kept_self, _, rfl, Wx_block ?_⟩
        simp only [Wx_var, Wx_con, Wx_glob, Wx_bin, Wx_neg, Wx_negI, Wx_not, Wx_cmp, Wx_and, Wx_or, Wx_ite, Wx_tup, Wx_lst, Wx_idx, Wx_slice, Wx_call, Wx_bi, Wx_isi, Wx_meth, Wx_nil, Wx_cons, Wx_onone, Wx_osome, Wx_cnone, Wx_csome, Wx_add, Wx_addT, Wx_sub, Wx_mul, Wx_fdiv, Wx_mod, Wx_tbl, Wx_tint, Wx_eqI, Wx_eqS, Wx_eqB, Wx_neI, Wx_ltI, Wx_leI, Wx_gtI, Wx_geI, Wx_idxT, atD_0, atD_1, atD_2, Wx_abs, Wx_intI, Wx_intB, Wx_cutT, Wx_srcT, Wx_range, Wx_ret, Wx_cond, List.getElem?_cons_zero, List.getElem?_cons_succ, List.length_cons, List.length_nil, List.set_cons_zero, List.set_cons_succ, decide_eq_true_eq, bne_iff_ne, Wx_turn, wipeD, Ws_nil, Ws_cons, Ws_asg, Ws_par, Ws_expr, Ws_ret, Ws_retn, Ws_pass, Ws_ite, asgD, setAll]
        refine w_below f q (hb f mf) (hb q mq) hK ?_
        simp only [Wx_var, Wx_con, Wx_glob, Wx_bin, Wx_neg, Wx_negI, Wx_not, Wx_cmp, Wx_and, Wx_or, Wx_ite, Wx_tup, Wx_lst, Wx_idx, Wx_slice, Wx_call, Wx_bi, Wx_isi, Wx_meth, Wx_nil, Wx_cons, Wx_onone, Wx_osome, Wx_cnone, Wx_csome, Wx_add, Wx_addT, Wx_sub, Wx_mul, Wx_fdiv, Wx_mod, Wx_tbl, Wx_tint, Wx_eqI, Wx_eqS, Wx_eqB, Wx_neI, Wx_ltI, Wx_leI, Wx_gtI, Wx_geI, Wx_idxT, atD_0, atD_1, atD_2, Wx_abs, Wx_intI, Wx_intB, Wx_cutT, Wx_srcT, Wx_range, Wx_ret, Wx_cond, List.getElem?_cons_zero, List.getElem?_cons_succ, List.length_cons, List.length_nil, List.set_cons_zero, List.set_cons_succ, decide_eq_true_eq, bne_iff_ne, Wx_turn, wipeD, Ws_nil, Ws_cons, Ws_asg, Ws_par, Ws_expr, Ws_ret, Ws_retn, Ws_pass, Ws_ite, asgD, setAll]
        have e3 : (done ++ [q]) ++ qs' = q0 :: qr := by rw [List.append_assoc]; exact e2
        by_cases l : f < q
        · rw [if_pos l]
          refine ⟨trivial, done ++ [q], qs', q, some (fr q), rfl, e3, rfl, by simp, fun x hx => ?_⟩
          have hl := Rat.le_of_lt l
          simp only [List.mem_cons, List.mem_append, List.not_mem_nil, or_false] at hx
          rcases hx with rfl | hx | rfl
          · exact Rat.le_trans (hm.2 _ (by simp)) hl
          · exact Rat.le_trans (hm.2 _ (by simp [hx])) hl
          · exact Rat.le_refl
        · rw [if_neg l]
          refine ⟨trivial, done ++ [q], qs', f, some (fr q), rfl, e3, rfl, ?_, fun x hx => ?_⟩
          · rcases List.mem_cons.mp hm.1 with e | e
            · rw [e]; simp
            · simp [e]
          · have hl := Rat.not_lt.mp l
            simp only [List.mem_cons, List.mem_append, List.not_mem_nil, or_false] at hx
            rcases hx with rfl | hx | rfl
            · exact hm.2 _ (by simp)
            · exact hm.2 _ (by simp [hx])
            · exact hl
    · rintro δ S' ⟨rfl, done, qs', f, o, e1, e2, rfl, hm⟩
      cases qs' with
      | cons _ _ => cases e1
      | nil =>
        refine ⟨kept_self, ?_⟩
        simp only [Wx_var, Wx_con, Wx_glob, Wx_bin, Wx_neg, Wx_negI, Wx_not, Wx_cmp, Wx_and, Wx_or, Wx_ite, Wx_tup, Wx_lst, Wx_idx, Wx_slice, Wx_call, Wx_bi, Wx_isi, Wx_meth, Wx_nil, Wx_cons, Wx_onone, Wx_osome, Wx_cnone, Wx_csome, Wx_add, Wx_addT, Wx_sub, Wx_mul, Wx_fdiv, Wx_mod, Wx_tbl, Wx_tint, Wx_eqI, Wx_eqS, Wx_eqB, Wx_neI, Wx_ltI, Wx_leI, Wx_gtI, Wx_geI, Wx_idxT, atD_0, atD_1, atD_2, Wx_abs, Wx_intI, Wx_intB, Wx_cutT, Wx_srcT, Wx_range, Wx_ret, Wx_cond, List.getElem?_cons_zero, List.getElem?_cons_succ, List.length_cons, List.length_nil, List.set_cons_zero, List.set_cons_succ, decide_eq_true_eq, bne_iff_ne, Wx_turn, wipeD, Ws_nil, Ws_cons, Ws_asg, Ws_par, Ws_expr, Ws_ret, Ws_retn, Ws_pass, Ws_ite, asgD, setAll]
        rw [List.append_nil] at e2
        subst e2
        refine h f ⟨?_, fun x hx => hm.2 x (by simp [hx])⟩
        rcases List.mem_cons.mp hm.1 with e | e
        · rw [e]; simp
        · exact e
theorem w_counts : ∀ (b : Nat) (f : F), f.sz ≤ b → b ≤ 1000000 → ∀ (m : Nat) (S : Store) (Q : D → Store → Prop) (E : Ex), f.dep + 2 ≤ m → (∀ S', S <+: S' → Q (.tup [.int (f.fold aSums), .int (f.fold aHeld)]) S') → Wx (run P m 9 [f.d]) S Q E := by
  intro b
  induction b with
  | zero => intro f h; cases f <;> exact absurd h (Nat.not_succ_le_zero _)
  | succ b ih =>
    intro f hb hb2 m S Q E hm h
    obtain ⟨n, rfl⟩ : ∃ n, m = n + 1 := ⟨m - 1, by omega⟩
    have hl : f.inner.length ≤ line := by have := (F.sz_inner (f := f)).1; unfold line; omega
    rw [r_counts, Wx_end]
    unfold b_counts
    simp only [Wx_var, Wx_con, Wx_glob, Wx_bin, Wx_neg, Wx_negI, Wx_not, Wx_cmp, Wx_and, Wx_or, Wx_ite, Wx_tup, Wx_lst, Wx_idx, Wx_slice, Wx_call, Wx_bi, Wx_isi, Wx_meth, Wx_nil, Wx_cons, Wx_onone, Wx_osome, Wx_cnone, Wx_csome, Wx_add, Wx_addT, Wx_sub, Wx_mul, Wx_fdiv, Wx_mod, Wx_tbl, Wx_tint, Wx_eqI, Wx_eqS, Wx_eqB, Wx_neI, Wx_ltI, Wx_leI, Wx_gtI, Wx_geI, Wx_idxT, atD_0, atD_1, atD_2, Wx_abs, Wx_intI, Wx_intB, Wx_cutT, Wx_srcT, Wx_range, Wx_ret, Wx_cond, List.getElem?_cons_zero, List.getElem?_cons_succ, List.length_cons, List.length_nil, List.set_cons_zero, List.set_cons_succ, decide_eq_true_eq, bne_iff_ne, Wx_turn, wipeD, Ws_nil, Ws_cons, Ws_asg, Ws_par, Ws_expr, Ws_ret, Ws_retn, Ws_pass, Ws_ite, asgD, setAll, Wx_tag, ts_sum, ts_held, Ws_for]
    refine w_inner f (by omega) ?_ hl
    rw [Wx_srcL (seq_lst get_last)]
    refine Ws_forD (I := fun ds δ S' => S ++ [Ob.lst (f.inner.map F.d)] <+: S' ∧ ∃ (done rest : List F) (o1 o2 : Option D), ds = rest.map F.d ∧ done ++ rest = f.inner ∧ δ = [some f.d, some (.int ((if f.tag = 0 then 1 else 0) + (done.map (·.fold aSums)).sum)), some (.int ((if f.tag = 4 then 1 else 0) + (done.map (·.fold aHeld)).sum)), o1, o2]) ?_ ?_ ⟨List.prefix_refl _, [], f.inner, none, none, rfl, rfl, by simp⟩
    · rintro d ds δ S' ⟨h1, done, rest, o1, o2, e2, e3, rfl⟩
      cases rest with
      | nil => cases e2
      | cons x rest =>
        cases e2
        have hx : x ∈ f.inner := by rw [← e3]; simp
        have z1 := (F.sz_inner (f := f)).2 x hx
        have z2 := F.dep_inner hx
        refine ⟨pre_kept h1 rfl (by simp), _, rfl, Wx_block ?_⟩
        simp only [Wx_var, Wx_con, Wx_glob, Wx_bin, Wx_neg, Wx_negI, Wx_not, Wx_cmp, Wx_and, Wx_or, Wx_ite, Wx_tup, Wx_lst, Wx_idx, Wx_slice, Wx_call, Wx_bi, Wx_isi, Wx_meth, Wx_nil, Wx_cons, Wx_onone, Wx_osome, Wx_cnone, Wx_csome, Wx_add, Wx_addT, Wx_sub, Wx_mul, Wx_fdiv, Wx_mod, Wx_tbl, Wx_tint, Wx_eqI, Wx_eqS, Wx_eqB, Wx_neI, Wx_ltI, Wx_leI, Wx_gtI, Wx_geI, Wx_idxT, atD_0, atD_1, atD_2, Wx_abs, Wx_intI, Wx_intB, Wx_cutT, Wx_srcT, Wx_range, Wx_ret, Wx_cond, List.getElem?_cons_zero, List.getElem?_cons_succ, List.length_cons, List.length_nil, List.set_cons_zero, List.set_cons_succ, decide_eq_true_eq, bne_iff_ne, Wx_turn, wipeD, Ws_nil, Ws_cons, Ws_asg, Ws_par, Ws_expr, Ws_ret, Ws_retn, Ws_pass, Ws_ite, asgD, setAll]
        refine ih x (by omega) (by omega) n _ _ _ (by omega) fun S2 h2 => ?_
        simp only [Wx_var, Wx_con, Wx_glob, Wx_bin, Wx_neg, Wx_negI, Wx_not, Wx_cmp, Wx_and, Wx_or, Wx_ite, Wx_tup, Wx_lst, Wx_idx, Wx_slice, Wx_call, Wx_bi, Wx_isi, Wx_meth, Wx_nil, Wx_cons, Wx_onone, Wx_osome, Wx_cnone, Wx_csome, Wx_add, Wx_addT, Wx_sub, Wx_mul, Wx_fdiv, Wx_mod, Wx_tbl, Wx_tint, Wx_eqI, Wx_eqS, Wx_eqB, Wx_neI, Wx_ltI, Wx_leI, Wx_gtI, Wx_geI, Wx_idxT, atD_0, atD_1, atD_2, Wx_abs, Wx_intI, Wx_intB, Wx_cutT, Wx_srcT, Wx_range, Wx_ret, Wx_cond, List.getElem?_cons_zero, List.getElem?_cons_succ, List.length_cons, List.length_nil, List.set_cons_zero, List.set_cons_succ, decide_eq_true_eq, bne_iff_ne, Wx_turn, wipeD, Ws_nil, Ws_cons, Ws_asg, Ws_par, Ws_expr, Ws_ret, Ws_retn, Ws_pass, Ws_ite, asgD, setAll]
        refine ⟨h1.trans h2, done ++ [x], rest, some x.d, some (.tup [.int (x.fold aSums), .int (x.fold aHeld)]), rfl, by rw [List.append_assoc]; exact e3, ?_⟩
        simp only [List.map_append, List.map_cons, List.map_nil, List.sum_append, List.sum_cons, List.sum_nil, Int.add_zero, Int.add_assoc]
    · rintro δ S' ⟨h1, done, rest, o1, o2, e2, e3, rfl⟩
      cases rest with
      | cons _ _ => cases e2
      | nil =>
        refine ⟨pre_kept h1 rfl (by simp), ?_⟩
        simp only [Wx_var, Wx_con, Wx_glob, Wx_bin, Wx_neg, Wx_negI, Wx_not, Wx_cmp, Wx_and, Wx_or, Wx_ite, Wx_tup, Wx_lst, Wx_idx, Wx_slice, Wx_call, Wx_bi, Wx_isi, Wx_meth, Wx_nil, Wx_cons, Wx_onone, Wx_osome, Wx_cnone, Wx_csome, Wx_add, Wx_addT, Wx_sub, Wx_mul, Wx_fdiv, Wx_mod, Wx_tbl, Wx_tint, Wx_eqI, Wx_eqS, Wx_eqB, Wx_neI, Wx_ltI, Wx_leI, Wx_gtI, Wx_geI, Wx_idxT, atD_0, atD_1, atD_2, Wx_abs, Wx_intI, Wx_intB, Wx_cutT, Wx_srcT, Wx_range, Wx_ret, Wx_cond, List.getElem?_cons_zero, List.getElem?_cons_succ, List.length_cons, List.length_nil, List.set_cons_zero, List.set_cons_succ, decide_eq_true_eq, bne_iff_ne, Wx_turn, wipeD, Ws_nil, Ws_cons, Ws_asg, Ws_par, Ws_expr, Ws_ret, Ws_retn, Ws_pass, Ws_ite, asgD, setAll]
        rw [List.append_nil] at e3
        rw [e3]
        refine ⟨by decide, ?_⟩
        have := h _ ((List.prefix_append _ _).trans h1)
        rw [F.fold_eq, F.fold_eq aHeld] at this
        exact this
end
end K03

set_option Elab.async false
set_option linter.all false
set_option maxRecDepth 100000
set_option maxHeartbeats 2000000
set_option autoImplicit false
/-! k03, the plain law: what is drawn. -/
namespace K03
open Ev
/-- all but k as it was -/
def Kp (k : Nat) (S S' : Store) : Prop := S.length ≤ S'.length ∧ ∀ j, j < S.length → j ≠ k → S'[j]? = S[j]?
theorem Kp.refl {k : Nat} {S : Store} : Kp k S S := ⟨Nat.le_refl _, fun _ _ _ => rfl⟩
theorem Kp.trans {k : Nat} {S1 S2 S3 : Store} (a : Kp k S1 S2) (b : Kp k S2 S3) : Kp k S1 S3 :=
  ⟨Nat.le_trans a.1 b.1, fun j hj hn => (b.2 j (Nat.lt_of_lt_of_le hj a.1) hn).trans (a.2 j hj hn)⟩
theorem Kp.set {k : Nat} {S : Store} {o : Ob} : Kp k S (S.set k o) := ⟨by rw [List.length_set]; exact Nat.le_refl _, fun j hj hn => List.getElem?_set_ne (Ne.symm hn)⟩
theorem Kp.pre {k : Nat} {S S' : Store} (h : S <+: S') : Kp k S S' := ⟨h.length_le, fun j hj _ => by obtain ⟨r, rfl⟩ := h; rw [List.getElem?_append_left hj]⟩
theorem Kp.app {k : Nat} {S G : Store} : Kp k S (S ++ G) := Kp.pre (List.prefix_append _ _)
theorem Kp.get {k j : Nat} {S S' : Store} {o : Ob} (h : Kp k S S') (e : S[j]? = some o) (hn : j ≠ k) : S'[j]? = some o := by
  rw [h.2 j (List.getElem?_eq_some_iff.mp e).1 hn, e]
/-- the state of the draws, b more to come -/
def BoxAt (S : Store) (k b : Nat) : Prop := ∃ c s d : Int, S[k]? = some (.lst [.int c, .int s, .int d]) ∧ 0 ≤ s ∧ s < 2 ^ 32 ∧ 0 ≤ d ∧ d + b ≤ 2 ^ 40
theorem BoxAt.less {S : Store} {k b c : Nat} (h : BoxAt S k b) (hc : c ≤ b) : BoxAt S k c := by
  obtain ⟨x, s, d, e, h1, h2, h3, h4⟩ := h
  exact ⟨x, s, d, e, h1, h2, h3, by omega⟩
theorem BoxAt.app {S G : Store} {k b : Nat} (h : BoxAt S k b) : BoxAt (S ++ G) k b := by
  obtain ⟨x, s, d, e, h⟩ := h
  exact ⟨x, s, d, get_app (List.prefix_append _ _) e, h⟩
theorem BoxAt.lt {S : Store} {k b : Nat} (h : BoxAt S k b) : k < S.length := by
  obtain ⟨x, s, d, e, h⟩ := h
  exact (List.getElem?_eq_some_iff.mp e).1
theorem small {x : Int} {k : Nat} (h0 : 0 ≤ x) (h : x < 2 ^ k) : x.natAbs < 2 ^ k := by
  have e : ((2 ^ k : Nat) : Int) = 2 ^ k := by simp
  omega
theorem small' {x : Int} {k : Nat} (h : -(2 ^ k : Int) < x ∧ x < 2 ^ k) : x.natAbs < 2 ^ k := by
  have e : ((2 ^ k : Nat) : Int) = 2 ^ k := by simp
  omega
section
variable {n m : Nat} {S : Store} {Q : D → Store → Prop} {E : Ex}
theorem get_set {k : Nat} {o x : Ob} (h : S[k]? = some x) : (S.set k o)[k]? = some o := List.getElem?_set_self (List.getElem?_eq_some_iff.mp h).1
theorem w_take {k b : Nat} {many : Int} (hb : BoxAt S k (b + 1)) (hm : 0 < many) (h : ∀ (S' : Store) (d : Int), Kp k S S' → BoxAt S' k b → 0 ≤ d → d < many → Q (.int d) S') : Wx (run P (n + 1) 21 [.ref k, .int many]) S Q E := by
  obtain ⟨c, s, d, e, h1, h2, h3, h4⟩ := hb
  rw [r__law_take, Wx_end]
  unfold b__law_take
  simp only [Wx_var, Wx_con, Wx_glob, Wx_bin, Wx_neg, Wx_negI, Wx_not, Wx_cmp, Wx_and, Wx_or, Wx_ite, Wx_tup, Wx_lst, Wx_idx, Wx_slice, Wx_call, Wx_bi, Wx_isi, Wx_meth, Wx_nil, Wx_cons, Wx_onone, Wx_osome, Wx_cnone, Wx_csome, Wx_add, Wx_addT, Wx_sub, Wx_mul, Wx_fdiv, Wx_mod, Wx_tbl, Wx_tint, Wx_eqI, Wx_eqS, Wx_eqB, Wx_neI, Wx_ltI, Wx_leI, Wx_gtI, Wx_geI, Wx_idxT, atD_0, atD_1, atD_2, Wx_abs, Wx_intI, Wx_intB, Wx_cutT, Wx_srcT, Wx_range, Wx_ret, Wx_cond, List.getElem?_cons_zero, List.getElem?_cons_succ, List.length_cons, List.length_nil, List.set_cons_zero, List.set_cons_succ, decide_eq_true_eq, bne_iff_ne, Wx_turn, wipeD, Ws_nil, Ws_cons, Ws_asg, Ws_par, Ws_expr, Ws_ret, Ws_retn, Ws_pass, Ws_ite, asgD, setAll, Ws_setix]
  rw [Wx_idxL (seq_lst e)]
  simp only [Wx_var, Wx_con, Wx_glob, Wx_bin, Wx_neg, Wx_negI, Wx_not, Wx_cmp, Wx_and, Wx_or, Wx_ite, Wx_tup, Wx_lst, Wx_idx, Wx_slice, Wx_call, Wx_bi, Wx_isi, Wx_meth, Wx_nil, Wx_cons, Wx_onone, Wx_osome, Wx_cnone, Wx_csome, Wx_add, Wx_addT, Wx_sub, Wx_mul, Wx_fdiv, Wx_mod, Wx_tbl, Wx_tint, Wx_eqI, Wx_eqS, Wx_eqB, Wx_neI, Wx_ltI, Wx_leI, Wx_gtI, Wx_geI, Wx_idxT, atD_0, atD_1, atD_2, Wx_abs, Wx_intI, Wx_intB, Wx_cutT, Wx_srcT, Wx_range, Wx_ret, Wx_cond, List.getElem?_cons_zero, List.getElem?_cons_succ, List.length_cons, List.length_nil, List.set_cons_zero, List.set_cons_succ, decide_eq_true_eq, bne_iff_ne, Wx_turn, wipeD, Ws_nil, Ws_cons, Ws_asg, Ws_par, Ws_expr, Ws_ret, Ws_retn, Ws_pass, Ws_ite, asgD, setAll, Ws_setix]
  by_cases hc : c > 0
  · rw [if_pos hc, Wx_idxL (seq_lst e)]
    simp only [Wx_var, Wx_con, Wx_glob, Wx_bin, Wx_neg, Wx_negI, Wx_not, Wx_cmp, Wx_and, Wx_or, Wx_ite, Wx_tup, Wx_lst, Wx_idx, Wx_slice, Wx_call, Wx_bi, Wx_isi, Wx_meth, Wx_nil, Wx_cons, Wx_onone, Wx_osome, Wx_cnone, Wx_csome, Wx_add, Wx_addT, Wx_sub, Wx_mul, Wx_fdiv, Wx_mod, Wx_tbl, Wx_tint, Wx_eqI, Wx_eqS, Wx_eqB, Wx_neI, Wx_ltI, Wx_leI, Wx_gtI, Wx_geI, Wx_idxT, atD_0, atD_1, atD_2, Wx_abs, Wx_intI, Wx_intB, Wx_cutT, Wx_srcT, Wx_range, Wx_ret, Wx_cond, List.getElem?_cons_zero, List.getElem?_cons_succ, List.length_cons, List.length_nil, List.set_cons_zero, List.set_cons_succ, decide_eq_true_eq, bne_iff_ne, Wx_turn, wipeD, Ws_nil, Ws_cons, Ws_asg, Ws_par, Ws_expr, Ws_ret, Ws_retn, Ws_pass, Ws_ite, asgD, setAll, Ws_setix]
    refine ⟨by omega, ?_⟩
    rw [Wx_idxL (seq_lst e)]
    simp only [Wx_var, Wx_con, Wx_glob, Wx_bin, Wx_neg, Wx_negI, Wx_not, Wx_cmp, Wx_and, Wx_or, Wx_ite, Wx_tup, Wx_lst, Wx_idx, Wx_slice, Wx_call, Wx_bi, Wx_isi, Wx_meth, Wx_nil, Wx_cons, Wx_onone, Wx_osome, Wx_cnone, Wx_csome, Wx_add, Wx_addT, Wx_sub, Wx_mul, Wx_fdiv, Wx_mod, Wx_tbl, Wx_tint, Wx_eqI, Wx_eqS, Wx_eqB, Wx_neI, Wx_ltI, Wx_leI, Wx_gtI, Wx_geI, Wx_idxT, atD_0, atD_1, atD_2, Wx_abs, Wx_intI, Wx_intB, Wx_cutT, Wx_srcT, Wx_range, Wx_ret, Wx_cond, List.getElem?_cons_zero, List.getElem?_cons_succ, List.length_cons, List.length_nil, List.set_cons_zero, List.set_cons_succ, decide_eq_true_eq, bne_iff_ne, Wx_turn, wipeD, Ws_nil, Ws_cons, Ws_asg, Ws_par, Ws_expr, Ws_ret, Ws_retn, Ws_pass, Ws_ite, asgD, setAll, Ws_setix]
    refine ⟨by omega, ?_⟩
    rw [Wx_set e (j := 0) rfl]
    simp only [Wx_var, Wx_con, Wx_glob, Wx_bin, Wx_neg, Wx_negI, Wx_not, Wx_cmp, Wx_and, Wx_or, Wx_ite, Wx_tup, Wx_lst, Wx_idx, Wx_slice, Wx_call, Wx_bi, Wx_isi, Wx_meth, Wx_nil, Wx_cons, Wx_onone, Wx_osome, Wx_cnone, Wx_csome, Wx_add, Wx_addT, Wx_sub, Wx_mul, Wx_fdiv, Wx_mod, Wx_tbl, Wx_tint, Wx_eqI, Wx_eqS, Wx_eqB, Wx_neI, Wx_ltI, Wx_leI, Wx_gtI, Wx_geI, Wx_idxT, atD_0, atD_1, atD_2, Wx_abs, Wx_intI, Wx_intB, Wx_cutT, Wx_srcT, Wx_range, Wx_ret, Wx_cond, List.getElem?_cons_zero, List.getElem?_cons_succ, List.length_cons, List.length_nil, List.set_cons_zero, List.set_cons_succ, decide_eq_true_eq, bne_iff_ne, Wx_turn, wipeD, Ws_nil, Ws_cons, Ws_asg, Ws_par, Ws_expr, Ws_ret, Ws_retn, Ws_pass, Ws_ite, asgD, setAll]
    exact h _ _ Kp.set ⟨_, s, d, get_set e, h1, h2, h3, by omega⟩ (Int.fmod_nonneg_of_pos c hm) (Int.fmod_lt_of_pos c hm)
  · rw [if_neg hc, Wx_idxL (seq_lst e)]
    simp only [Wx_var, Wx_con, Wx_glob, Wx_bin, Wx_neg, Wx_negI, Wx_not, Wx_cmp, Wx_and, Wx_or, Wx_ite, Wx_tup, Wx_lst, Wx_idx, Wx_slice, Wx_call, Wx_bi, Wx_isi, Wx_meth, Wx_nil, Wx_cons, Wx_onone, Wx_osome, Wx_cnone, Wx_csome, Wx_add, Wx_addT, Wx_sub, Wx_mul, Wx_fdiv, Wx_mod, Wx_tbl, Wx_tint, Wx_eqI, Wx_eqS, Wx_eqB, Wx_neI, Wx_ltI, Wx_leI, Wx_gtI, Wx_geI, Wx_idxT, atD_0, atD_1, atD_2, Wx_abs, Wx_intI, Wx_intB, Wx_cutT, Wx_srcT, Wx_range, Wx_ret, Wx_cond, List.getElem?_cons_zero, List.getElem?_cons_succ, List.length_cons, List.length_nil, List.set_cons_zero, List.set_cons_succ, decide_eq_true_eq, bne_iff_ne, Wx_turn, wipeD, Ws_nil, Ws_cons, Ws_asg, Ws_par, Ws_expr, Ws_ret, Ws_retn, Ws_pass, Ws_ite, asgD, setAll, Ws_setix]
    rw [Wx_set e (j := 2) rfl]
    have e2 := get_set (o := .lst [.int c, .int s, .int (d + 1)]) e
    simp only [Wx_var, Wx_con, Wx_glob, Wx_bin, Wx_neg, Wx_negI, Wx_not, Wx_cmp, Wx_and, Wx_or, Wx_ite, Wx_tup, Wx_lst, Wx_idx, Wx_slice, Wx_call, Wx_bi, Wx_isi, Wx_meth, Wx_nil, Wx_cons, Wx_onone, Wx_osome, Wx_cnone, Wx_csome, Wx_add, Wx_addT, Wx_sub, Wx_mul, Wx_fdiv, Wx_mod, Wx_tbl, Wx_tint, Wx_eqI, Wx_eqS, Wx_eqB, Wx_neI, Wx_ltI, Wx_leI, Wx_gtI, Wx_geI, Wx_idxT, atD_0, atD_1, atD_2, Wx_abs, Wx_intI, Wx_intB, Wx_cutT, Wx_srcT, Wx_range, Wx_ret, Wx_cond, List.getElem?_cons_zero, List.getElem?_cons_succ, List.length_cons, List.length_nil, List.set_cons_zero, List.set_cons_succ, decide_eq_true_eq, bne_iff_ne, Wx_turn, wipeD, Ws_nil, Ws_cons, Ws_asg, Ws_par, Ws_expr, Ws_ret, Ws_retn, Ws_pass, Ws_ite, asgD, setAll, Ws_setix]
    rw [Wx_idxL (seq_lst e2)]
    simp only [Wx_var, Wx_con, Wx_glob, Wx_bin, Wx_neg, Wx_negI, Wx_not, Wx_cmp, Wx_and, Wx_or, Wx_ite, Wx_tup, Wx_lst, Wx_idx, Wx_slice, Wx_call, Wx_bi, Wx_isi, Wx_meth, Wx_nil, Wx_cons, Wx_onone, Wx_osome, Wx_cnone, Wx_csome, Wx_add, Wx_addT, Wx_sub, Wx_mul, Wx_fdiv, Wx_mod, Wx_tbl, Wx_tint, Wx_eqI, Wx_eqS, Wx_eqB, Wx_neI, Wx_ltI, Wx_leI, Wx_gtI, Wx_geI, Wx_idxT, atD_0, atD_1, atD_2, Wx_abs, Wx_intI, Wx_intB, Wx_cutT, Wx_srcT, Wx_range, Wx_ret, Wx_cond, List.getElem?_cons_zero, List.getElem?_cons_succ, List.length_cons, List.length_nil, List.set_cons_zero, List.set_cons_succ, decide_eq_true_eq, bne_iff_ne, Wx_turn, wipeD, Ws_nil, Ws_cons, Ws_asg, Ws_par, Ws_expr, Ws_ret, Ws_retn, Ws_pass, Ws_ite, asgD, setAll]
    rw [Wx_idxL (seq_lst e2)]
    simp only [Wx_var, Wx_con, Wx_glob, Wx_bin, Wx_neg, Wx_negI, Wx_not, Wx_cmp, Wx_and, Wx_or, Wx_ite, Wx_tup, Wx_lst, Wx_idx, Wx_slice, Wx_call, Wx_bi, Wx_isi, Wx_meth, Wx_nil, Wx_cons, Wx_onone, Wx_osome, Wx_cnone, Wx_csome, Wx_add, Wx_addT, Wx_sub, Wx_mul, Wx_fdiv, Wx_mod, Wx_tbl, Wx_tint, Wx_eqI, Wx_eqS, Wx_eqB, Wx_neI, Wx_ltI, Wx_leI, Wx_gtI, Wx_geI, Wx_idxT, atD_0, atD_1, atD_2, Wx_abs, Wx_intI, Wx_intB, Wx_cutT, Wx_srcT, Wx_range, Wx_ret, Wx_cond, List.getElem?_cons_zero, List.getElem?_cons_succ, List.length_cons, List.length_nil, List.set_cons_zero, List.set_cons_succ, decide_eq_true_eq, bne_iff_ne, Wx_turn, wipeD, Ws_nil, Ws_cons, Ws_asg, Ws_par, Ws_expr, Ws_ret, Ws_retn, Ws_pass, Ws_ite, asgD, setAll, Ws_setix]
    have r0 : ∀ x : Int, 0 ≤ x.fmod 2147483579 ∧ x.fmod 2147483579 < 2147483579 := fun x => ⟨Int.fmod_nonneg_of_pos x (by decide), Int.fmod_lt_of_pos x (by decide)⟩
    have r1 : ∀ x : Int, 0 ≤ x.fmod 2147483587 ∧ x.fmod 2147483587 < 2147483587 := fun x => ⟨Int.fmod_nonneg_of_pos x (by decide), Int.fmod_lt_of_pos x (by decide)⟩
    generalize hraw : ((s + 80021 * (d + 1)) * 57221 + 41).fmod 2147483579 = raw
    have hr := r0 ((s + 80021 * (d + 1)) * 57221 + 41)
    rw [hraw] at hr
    generalize hs2 : (raw * 40009 + 21059).fmod 2147483587 = s2
    have hs := r1 (raw * 40009 + 21059)
    rw [hs2] at hs
    refine ⟨mulOk_of (a := 20) (b := 60) (by decide) (small (by omega) (by omega)) (by decide), mulOk_of (a := 70) (b := 20) (small (by omega) (by omega)) (by decide) (by decide), by decide, mulOk_of (a := 40) (b := 20) (small (by omega) (by omega)) (by decide) (by decide), by decide, ?_⟩
    rw [Wx_set e2 (j := 1) rfl]
    have e3 := get_set (o := .lst [.int c, .int (s2 + 1), .int (d + 1)]) e2
    simp only [Wx_var, Wx_con, Wx_glob, Wx_bin, Wx_neg, Wx_negI, Wx_not, Wx_cmp, Wx_and, Wx_or, Wx_ite, Wx_tup, Wx_lst, Wx_idx, Wx_slice, Wx_call, Wx_bi, Wx_isi, Wx_meth, Wx_nil, Wx_cons, Wx_onone, Wx_osome, Wx_cnone, Wx_csome, Wx_add, Wx_addT, Wx_sub, Wx_mul, Wx_fdiv, Wx_mod, Wx_tbl, Wx_tint, Wx_eqI, Wx_eqS, Wx_eqB, Wx_neI, Wx_ltI, Wx_leI, Wx_gtI, Wx_geI, Wx_idxT, atD_0, atD_1, atD_2, Wx_abs, Wx_intI, Wx_intB, Wx_cutT, Wx_srcT, Wx_range, Wx_ret, Wx_cond, List.getElem?_cons_zero, List.getElem?_cons_succ, List.length_cons, List.length_nil, List.set_cons_zero, List.set_cons_succ, decide_eq_true_eq, bne_iff_ne, Wx_turn, wipeD, Ws_nil, Ws_cons, Ws_asg, Ws_par, Ws_expr, Ws_ret, Ws_retn, Ws_pass, Ws_ite, asgD, setAll]
    refine ⟨mulOk_of (a := 40) (b := 40) (small (by omega) (by omega)) (by decide) (by decide), ?_⟩
    rw [Wx_idxL (seq_lst e3)]
    simp only [Wx_var, Wx_con, Wx_glob, Wx_bin, Wx_neg, Wx_negI, Wx_not, Wx_cmp, Wx_and, Wx_or, Wx_ite, Wx_tup, Wx_lst, Wx_idx, Wx_slice, Wx_call, Wx_bi, Wx_isi, Wx_meth, Wx_nil, Wx_cons, Wx_onone, Wx_osome, Wx_cnone, Wx_csome, Wx_add, Wx_addT, Wx_sub, Wx_mul, Wx_fdiv, Wx_mod, Wx_tbl, Wx_tint, Wx_eqI, Wx_eqS, Wx_eqB, Wx_neI, Wx_ltI, Wx_leI, Wx_gtI, Wx_geI, Wx_idxT, atD_0, atD_1, atD_2, Wx_abs, Wx_intI, Wx_intB, Wx_cutT, Wx_srcT, Wx_range, Wx_ret, Wx_cond, List.getElem?_cons_zero, List.getElem?_cons_succ, List.length_cons, List.length_nil, List.set_cons_zero, List.set_cons_succ, decide_eq_true_eq, bne_iff_ne, Wx_turn, wipeD, Ws_nil, Ws_cons, Ws_asg, Ws_par, Ws_expr, Ws_ret, Ws_retn, Ws_pass, Ws_ite, asgD, setAll]
    refine ⟨by decide, by omega, ?_⟩
    exact h _ _ (Kp.set.trans Kp.set) ⟨c, s2 + 1, d + 1, e3, by omega, by omega, by omega, by omega⟩ (Int.fmod_nonneg_of_pos _ hm) (Int.fmod_lt_of_pos _ hm)
theorem w_pick {k b j : Nat} {xs : List D} (hb : BoxAt S k (b + 1)) (hj : S[j]? = some (.lst xs)) (hn : j ≠ k) (hx : xs ≠ []) (h : ∀ (S' : Store) (x : D), Kp k S S' → BoxAt S' k b → x ∈ xs → Q x S') : Wx (run P (n + 2) 22 [.ref k, .ref j]) S Q E := by
  rw [r__law_pick, Wx_end]
  unfold b__law_pick
  simp only [Wx_var, Wx_con, Wx_glob, Wx_bin, Wx_neg, Wx_negI, Wx_not, Wx_cmp, Wx_and, Wx_or, Wx_ite, Wx_tup, Wx_lst, Wx_idx, Wx_slice, Wx_call, Wx_bi, Wx_isi, Wx_meth, Wx_nil, Wx_cons, Wx_onone, Wx_osome, Wx_cnone, Wx_csome, Wx_add, Wx_addT, Wx_sub, Wx_mul, Wx_fdiv, Wx_mod, Wx_tbl, Wx_tint, Wx_eqI, Wx_eqS, Wx_eqB, Wx_neI, Wx_ltI, Wx_leI, Wx_gtI, Wx_geI, Wx_idxT, atD_0, atD_1, atD_2, Wx_abs, Wx_intI, Wx_intB, Wx_cutT, Wx_srcT, Wx_range, Wx_ret, Wx_cond, List.getElem?_cons_zero, List.getElem?_cons_succ, List.length_cons, List.length_nil, List.set_cons_zero, List.set_cons_succ, decide_eq_true_eq, bne_iff_ne, Wx_turn, wipeD, Ws_nil, Ws_cons, Ws_asg, Ws_par, Ws_expr, Ws_ret, Ws_retn, Ws_pass, Ws_ite, asgD, setAll]
  rw [Wx_len (seq_lst hj)]
  have hl : 0 < xs.length := List.length_pos_iff.mpr hx
  refine w_take hb (by omega) fun S' d k1 b1 d0 d1 => ?_
  rw [Wx_idxL (seq_lst (k1.get hj hn))]
  obtain ⟨i, rfl⟩ := Int.eq_ofNat_of_zero_le d0
  have hi : i < xs.length := by omega
  rw [atD_nat (List.getElem?_eq_getElem hi)]
  exact h S' _ k1 b1 (List.getElem_mem hi)
theorem p9 : (10 : Int) ^ (9 : Int).toNat = 1000000000 := rfl
theorem p8 : (10 : Int) ^ (8 : Int).toNat = 100000000 := rfl
theorem p6 : (10 : Int) ^ (6 : Int).toNat = 1000000 := rfl
theorem p18 : (10 : Int) ^ (18 : Int).toNat = 1000000000000000000 := rfl
theorem fr_int (i : Int) : D.tup [.int i, .int 1] = fr (i : Rat) := rfl
theorem bd_int {i : Int} {k : Nat} (h : i.natAbs < 2 ^ k) (hk : 1 ≤ k) : Bd k (i : Rat) := ⟨h, by
  show 1 < 2 ^ k
  calc 1 < 2 ^ 1 := by decide
    _ ≤ 2 ^ k := Nat.pow_le_pow_right (by decide) hk⟩
theorem w_number {k b : Nat} (hb : BoxAt S k (b + 3)) (h : ∀ (S' : Store) (q : Rat), Kp k S S' → BoxAt S' k b → Bd 31 q → Q (fr q) S') : Wx (run P (n + 2) 31 [.ref k]) S Q E := by
  rw [r__law_number, Wx_end]
  unfold b__law_number
  simp only [Wx_var, Wx_con, Wx_glob, Wx_bin, Wx_neg, Wx_negI, Wx_not, Wx_cmp, Wx_and, Wx_or, Wx_ite, Wx_tup, Wx_lst, Wx_idx, Wx_slice, Wx_call, Wx_bi, Wx_isi, Wx_meth, Wx_nil, Wx_cons, Wx_onone, Wx_osome, Wx_cnone, Wx_csome, Wx_add, Wx_addT, Wx_sub, Wx_mul, Wx_fdiv, Wx_mod, Wx_tbl, Wx_tint, Wx_eqI, Wx_eqS, Wx_eqB, Wx_neI, Wx_ltI, Wx_leI, Wx_gtI, Wx_geI, Wx_idxT, atD_0, atD_1, atD_2, Wx_abs, Wx_intI, Wx_intB, Wx_cutT, Wx_srcT, Wx_range, Wx_ret, Wx_cond, List.getElem?_cons_zero, List.getElem?_cons_succ, List.length_cons, List.length_nil, List.set_cons_zero, List.set_cons_succ, decide_eq_true_eq, bne_iff_ne, Wx_turn, wipeD, Ws_nil, Ws_cons, Ws_asg, Ws_par, Ws_expr, Ws_ret, Ws_retn, Ws_pass, Ws_ite, asgD, setAll]
  refine w_take (b := b + 2) hb (by decide) fun S1 d1 k1 b1 l1 u1 => ?_
  simp only [Wx_var, Wx_con, Wx_glob, Wx_bin, Wx_neg, Wx_negI, Wx_not, Wx_cmp, Wx_and, Wx_or, Wx_ite, Wx_tup, Wx_lst, Wx_idx, Wx_slice, Wx_call, Wx_bi, Wx_isi, Wx_meth, Wx_nil, Wx_cons, Wx_onone, Wx_osome, Wx_cnone, Wx_csome, Wx_add, Wx_addT, Wx_sub, Wx_mul, Wx_fdiv, Wx_mod, Wx_tbl, Wx_tint, Wx_eqI, Wx_eqS, Wx_eqB, Wx_neI, Wx_ltI, Wx_leI, Wx_gtI, Wx_geI, Wx_idxT, atD_0, atD_1, atD_2, Wx_abs, Wx_intI, Wx_intB, Wx_cutT, Wx_srcT, Wx_range, Wx_ret, Wx_cond, List.getElem?_cons_zero, List.getElem?_cons_succ, List.length_cons, List.length_nil, List.set_cons_zero, List.set_cons_succ, decide_eq_true_eq, bne_iff_ne, Wx_turn, wipeD, Ws_nil, Ws_cons, Ws_asg, Ws_par, Ws_expr, Ws_ret, Ws_retn, Ws_pass, Ws_ite, asgD, setAll, Wx_pow, p9, p8, p6]
  by_cases c0 : d1 = 0
  · rw [if_pos (by simpa using c0)]
    refine ⟨by decide, w_take (b := b + 1) b1 (by decide) fun S2 d2 k2 b2 l2 u2 => ?_⟩
    simp only [Wx_var, Wx_con, Wx_glob, Wx_bin, Wx_neg, Wx_negI, Wx_not, Wx_cmp, Wx_and, Wx_or, Wx_ite, Wx_tup, Wx_lst, Wx_idx, Wx_slice, Wx_call, Wx_bi, Wx_isi, Wx_meth, Wx_nil, Wx_cons, Wx_onone, Wx_osome, Wx_cnone, Wx_csome, Wx_add, Wx_addT, Wx_sub, Wx_mul, Wx_fdiv, Wx_mod, Wx_tbl, Wx_tint, Wx_eqI, Wx_eqS, Wx_eqB, Wx_neI, Wx_ltI, Wx_leI, Wx_gtI, Wx_geI, Wx_idxT, atD_0, atD_1, atD_2, Wx_abs, Wx_intI, Wx_intB, Wx_cutT, Wx_srcT, Wx_range, Wx_ret, Wx_cond, List.getElem?_cons_zero, List.getElem?_cons_succ, List.length_cons, List.length_nil, List.set_cons_zero, List.set_cons_succ, decide_eq_true_eq, bne_iff_ne, Wx_turn, wipeD, Ws_nil, Ws_cons, Ws_asg, Ws_par, Ws_expr, Ws_ret, Ws_retn, Ws_pass, Ws_ite, asgD, setAll, Wx_pow, p9, p8, p6]
    refine ⟨by decide, by decide, by decide, w_take (b := b) b2 (by decide) fun S3 d3 k3 b3 l3 u3 => ?_⟩
    simp only [Wx_var, Wx_con, Wx_glob, Wx_bin, Wx_neg, Wx_negI, Wx_not, Wx_cmp, Wx_and, Wx_or, Wx_ite, Wx_tup, Wx_lst, Wx_idx, Wx_slice, Wx_call, Wx_bi, Wx_isi, Wx_meth, Wx_nil, Wx_cons, Wx_onone, Wx_osome, Wx_cnone, Wx_csome, Wx_add, Wx_addT, Wx_sub, Wx_mul, Wx_fdiv, Wx_mod, Wx_tbl, Wx_tint, Wx_eqI, Wx_eqS, Wx_eqB, Wx_neI, Wx_ltI, Wx_leI, Wx_gtI, Wx_geI, Wx_idxT, atD_0, atD_1, atD_2, Wx_abs, Wx_intI, Wx_intB, Wx_cutT, Wx_srcT, Wx_range, Wx_ret, Wx_cond, List.getElem?_cons_zero, List.getElem?_cons_succ, List.length_cons, List.length_nil, List.set_cons_zero, List.set_cons_succ, decide_eq_true_eq, bne_iff_ne, Wx_turn, wipeD, Ws_nil, Ws_cons, Ws_asg, Ws_par, Ws_expr, Ws_ret, Ws_retn, Ws_pass, Ws_ite, asgD, setAll]
    refine w_frac _ _ (by omega) (small' (k := 30) (by omega)) (small' (k := 30) (by omega)) (by decide) ?_
    exact h _ _ ((k1.trans k2).trans k3) b3 ((bd_divInt (by omega) (small' (k := 30) (by omega)) (small' (k := 30) (by omega))).mono (by decide))
  · rw [if_neg (by simpa using c0)]
    by_cases c4 : d1 < 4
    · rw [if_pos c4]
      refine w_take (b := b + 1) b1 (by decide) fun S2 d2 k2 b2 l2 u2 => ?_
      simp only [Wx_var, Wx_con, Wx_glob, Wx_bin, Wx_neg, Wx_negI, Wx_not, Wx_cmp, Wx_and, Wx_or, Wx_ite, Wx_tup, Wx_lst, Wx_idx, Wx_slice, Wx_call, Wx_bi, Wx_isi, Wx_meth, Wx_nil, Wx_cons, Wx_onone, Wx_osome, Wx_cnone, Wx_csome, Wx_add, Wx_addT, Wx_sub, Wx_mul, Wx_fdiv, Wx_mod, Wx_tbl, Wx_tint, Wx_eqI, Wx_eqS, Wx_eqB, Wx_neI, Wx_ltI, Wx_leI, Wx_gtI, Wx_geI, Wx_idxT, atD_0, atD_1, atD_2, Wx_abs, Wx_intI, Wx_intB, Wx_cutT, Wx_srcT, Wx_range, Wx_ret, Wx_cond, List.getElem?_cons_zero, List.getElem?_cons_succ, List.length_cons, List.length_nil, List.set_cons_zero, List.set_cons_succ, decide_eq_true_eq, bne_iff_ne, Wx_turn, wipeD, Ws_nil, Ws_cons, Ws_asg, Ws_par, Ws_expr, Ws_ret, Ws_retn, Ws_pass, Ws_ite, asgD, setAll]
      refine ⟨by decide, ?_⟩
      rw [fr_int]
      exact h _ _ (k1.trans k2) (b2.less (by omega)) (bd_int (small' (k := 31) (by omega)) (by decide))
    · rw [if_neg c4]
      refine w_take (b := b + 1) b1 (by decide) fun S2 d2 k2 b2 l2 u2 => ?_
      simp only [Wx_var, Wx_con, Wx_glob, Wx_bin, Wx_neg, Wx_negI, Wx_not, Wx_cmp, Wx_and, Wx_or, Wx_ite, Wx_tup, Wx_lst, Wx_idx, Wx_slice, Wx_call, Wx_bi, Wx_isi, Wx_meth, Wx_nil, Wx_cons, Wx_onone, Wx_osome, Wx_cnone, Wx_csome, Wx_add, Wx_addT, Wx_sub, Wx_mul, Wx_fdiv, Wx_mod, Wx_tbl, Wx_tint, Wx_eqI, Wx_eqS, Wx_eqB, Wx_neI, Wx_ltI, Wx_leI, Wx_gtI, Wx_geI, Wx_idxT, atD_0, atD_1, atD_2, Wx_abs, Wx_intI, Wx_intB, Wx_cutT, Wx_srcT, Wx_range, Wx_ret, Wx_cond, List.getElem?_cons_zero, List.getElem?_cons_succ, List.length_cons, List.length_nil, List.set_cons_zero, List.set_cons_succ, decide_eq_true_eq, bne_iff_ne, Wx_turn, wipeD, Ws_nil, Ws_cons, Ws_asg, Ws_par, Ws_expr, Ws_ret, Ws_retn, Ws_pass, Ws_ite, asgD, setAll]
      refine w_take (b := b) b2 (by decide) fun S3 d3 k3 b3 l3 u3 => ?_
      simp only [Wx_var, Wx_con, Wx_glob, Wx_bin, Wx_neg, Wx_negI, Wx_not, Wx_cmp, Wx_and, Wx_or, Wx_ite, Wx_tup, Wx_lst, Wx_idx, Wx_slice, Wx_call, Wx_bi, Wx_isi, Wx_meth, Wx_nil, Wx_cons, Wx_onone, Wx_osome, Wx_cnone, Wx_csome, Wx_add, Wx_addT, Wx_sub, Wx_mul, Wx_fdiv, Wx_mod, Wx_tbl, Wx_tint, Wx_eqI, Wx_eqS, Wx_eqB, Wx_neI, Wx_ltI, Wx_leI, Wx_gtI, Wx_geI, Wx_idxT, atD_0, atD_1, atD_2, Wx_abs, Wx_intI, Wx_intB, Wx_cutT, Wx_srcT, Wx_range, Wx_ret, Wx_cond, List.getElem?_cons_zero, List.getElem?_cons_succ, List.length_cons, List.length_nil, List.set_cons_zero, List.set_cons_succ, decide_eq_true_eq, bne_iff_ne, Wx_turn, wipeD, Ws_nil, Ws_cons, Ws_asg, Ws_par, Ws_expr, Ws_ret, Ws_retn, Ws_pass, Ws_ite, asgD, setAll]
      refine w_frac _ _ (by omega) (small' (k := 30) (by omega)) (small' (k := 30) (by omega)) (by decide) ?_
      exact h _ _ ((k1.trans k2).trans k3) b3 ((bd_divInt (by omega) (small' (k := 30) (by omega)) (small' (k := 30) (by omega))).mono (by decide))
theorem w_weight {k b : Nat} (hb : BoxAt S k (b + 2)) (h : ∀ (S' : Store) (q : Rat), Kp k S S' → BoxAt S' k b → Bd 3 q → Q (fr q) S') : Wx (run P (n + 3) 32 [.ref k]) S Q E := by
  rw [r__law_weight, Wx_end]
  unfold b__law_weight
  simp only [Wx_var, Wx_con, Wx_glob, Wx_bin, Wx_neg, Wx_negI, Wx_not, Wx_cmp, Wx_and, Wx_or, Wx_ite, Wx_tup, Wx_lst, Wx_idx, Wx_slice, Wx_call, Wx_bi, Wx_isi, Wx_meth, Wx_nil, Wx_cons, Wx_onone, Wx_osome, Wx_cnone, Wx_csome, Wx_add, Wx_addT, Wx_sub, Wx_mul, Wx_fdiv, Wx_mod, Wx_tbl, Wx_tint, Wx_eqI, Wx_eqS, Wx_eqB, Wx_neI, Wx_ltI, Wx_leI, Wx_gtI, Wx_geI, Wx_idxT, atD_0, atD_1, atD_2, Wx_abs, Wx_intI, Wx_intB, Wx_cutT, Wx_srcT, Wx_range, Wx_ret, Wx_cond, List.getElem?_cons_zero, List.getElem?_cons_succ, List.length_cons, List.length_nil, List.set_cons_zero, List.set_cons_succ, decide_eq_true_eq, bne_iff_ne, Wx_turn, wipeD, Ws_nil, Ws_cons, Ws_asg, Ws_par, Ws_expr, Ws_ret, Ws_retn, Ws_pass, Ws_ite, asgD, setAll]
  have hk := hb.lt
  refine ⟨by decide, w_pick (b := b + 1) hb.app get_last (by omega) (by simp) fun S1 x k1 b1 hx => ?_⟩
  refine ⟨by decide, w_pick (b := b) b1.app get_last (by have := b1.lt; omega) (by simp) fun S2 y k2 b2 hy => ?_⟩
  obtain ⟨i, rfl, hi⟩ : ∃ i : Int, x = .int i ∧ i.natAbs < 2 ^ 3 := by
    simp only [List.mem_cons, List.not_mem_nil, or_false] at hx
    rcases hx with rfl | rfl | rfl | rfl | rfl | rfl | rfl | rfl <;> exact ⟨_, rfl, by decide⟩
  obtain ⟨j, rfl, hj, hj2⟩ : ∃ i : Int, y = .int i ∧ i.natAbs < 2 ^ 3 ∧ 0 < i := by
    simp only [List.mem_cons, List.not_mem_nil, or_false] at hy
    rcases hy with rfl | rfl | rfl | rfl | rfl | rfl | rfl <;> exact ⟨_, rfl, by decide, by decide⟩
  refine w_frac _ _ (by omega) hi hj (by decide) ?_
  exact h _ _ (((Kp.app.trans k1).trans Kp.app).trans k2) b2 (bd_divInt hj2 hi hj)
end
end K03

set_option Elab.async false
set_option linter.all false
set_option maxRecDepth 100000
set_option maxHeartbeats 4000000
set_option autoImplicit false
/-! k03, the plain law: the drawn formulas. -/
namespace K03
open Ev
mutual
def F.ok (k : Nat) : F → Prop
  | .sum rs => rs.ok k
  | .top _ fs => fs.list ≠ [] ∧ fs.ok k
  | .size f => f.ok k
  | .held f => f.ok k
def Rs.ok (k : Nat) : Rs → Prop
  | .nil => True
  | .leaf w i r => Bd 3 w ∧ i < k ∧ r.ok k
  | .node w f r => Bd 3 w ∧ f.ok k ∧ r.ok k
def Fs.ok (k : Nat) : Fs → Prop
  | .nil => True
  | .cons f r => f.ok k ∧ r.ok k
end
inductive R1 where
  | leaf (w : Rat) (i : Nat)
  | node (w : Rat) (f : F)
def R1.d : R1 → D
  | .leaf w i => .tup [fr w, .int (i : Int)]
  | .node w f => .tup [fr w, f.d]
def rsOf : List R1 → Rs
  | [] => .nil
  | .leaf w i :: r => .leaf w i (rsOf r)
  | .node w f :: r => .node w f (rsOf r)
def fsOf : List F → Fs
  | [] => .nil
  | f :: r => .cons f (fsOf r)
theorem rsOf_d : ∀ l : List R1, (rsOf l).d = l.map R1.d
  | [] => rfl
  | .leaf w i :: r => by show _ :: (rsOf r).d = _; rw [rsOf_d r]; rfl
  | .node w f :: r => by show _ :: (rsOf r).d = _; rw [rsOf_d r]; rfl
theorem fsOf_d : ∀ l : List F, (fsOf l).d = l.map F.d
  | [] => rfl
  | f :: r => by show _ :: (fsOf r).d = _; rw [fsOf_d r]; rfl
theorem fsOf_list : ∀ l : List F, (fsOf l).list = l
  | [] => rfl
  | f :: r => by show f :: (fsOf r).list = _; rw [fsOf_list r]
/-- depth, size -/
def R1.ok (s p z : Nat) : R1 → Prop
  | .leaf w i => Bd 3 w ∧ i < s
  | .node w f => Bd 3 w ∧ f.ok s ∧ f.dep ≤ p ∧ f.sz ≤ z
theorem rsOf_ok {s p z : Nat} : ∀ {l : List R1}, (∀ x ∈ l, x.ok s p z) → (rsOf l).ok s ∧ (rsOf l).dep ≤ p ∧ (rsOf l).sz ≤ l.length * (z + 1)
  | [], _ => ⟨trivial, Nat.zero_le _, Nat.zero_le _⟩
  | .leaf w i :: r, h => by
    obtain ⟨h1, h2, h3⟩ := rsOf_ok (l := r) fun x hx => h x (List.mem_cons_of_mem _ hx)
    obtain ⟨k1, k2⟩ := h _ List.mem_cons_self
    refine ⟨⟨k1, k2, h1⟩, h2, ?_⟩
    show (rsOf r).sz + 1 ≤ (r.length + 1) * (z + 1)
    rw [Nat.add_mul]
    omega
  | .node w f :: r, h => by
    obtain ⟨h1, h2, h3⟩ := rsOf_ok (l := r) fun x hx => h x (List.mem_cons_of_mem _ hx)
    obtain ⟨k1, k2, k3, k4⟩ := h _ List.mem_cons_self
    refine ⟨⟨k1, k2, h1⟩, Nat.max_le.mpr ⟨k3, h2⟩, ?_⟩
    show f.sz + (rsOf r).sz + 1 ≤ (r.length + 1) * (z + 1)
    rw [Nat.add_mul]
    omega
theorem fsOf_ok {s p z : Nat} : ∀ {l : List F}, (∀ f ∈ l, f.ok s ∧ f.dep ≤ p ∧ f.sz ≤ z) → (fsOf l).ok s ∧ (fsOf l).dep ≤ p ∧ (fsOf l).sz ≤ l.length * (z + 1)
  | [], _ => ⟨trivial, Nat.zero_le _, Nat.zero_le _⟩
  | f :: r, h => by
    obtain ⟨h1, h2, h3⟩ := fsOf_ok (l := r) fun x hx => h x (List.mem_cons_of_mem _ hx)
    obtain ⟨k2, k3, k4⟩ := h _ List.mem_cons_self
    refine ⟨⟨k2, h1⟩, Nat.max_le.mpr ⟨k3, h2⟩, ?_⟩
    show f.sz + (fsOf r).sz + 1 ≤ (r.length + 1) * (z + 1)
    rw [Nat.add_mul]
    omega
def zn : Nat → Nat
  | 0 => 26
  | d + 1 => 1 + 5 * (1 + 3 * (zn d + 1) + 1)
def zs : Nat → Nat
  | 0 => 4
  | d + 1 => 1 + 3 * (zn d + 1)
def zr : Nat → Nat
  | 0 => 0
  | d + 1 => zn d
theorem zs_eq (d : Nat) : zs d = 1 + 3 * (zr d + 1) := by cases d <;> rfl
def cn : Nat → Nat
  | 0 => 72
  | d + 1 => 2 + 5 * (2 + 3 * (4 + cn d))
def c1 : Nat → Nat
  | 0 => 4
  | d + 1 => 4 + cn d
def cs (d : Nat) : Nat := 2 + 3 * c1 d
theorem c1_ge (d : Nat) : 4 ≤ c1 d := by
  cases d with
  | zero => exact Nat.le_refl _
  | succ d => show 4 ≤ 4 + cn d; omega
theorem c1_succ (d : Nat) : c1 (d + 1) = 4 + cn d := rfl
theorem zn_eq (d : Nat) : zn d = 1 + 5 * (zs d + 1) := by cases d <;> rfl
theorem cn_eq (d : Nat) : cn d = 2 + 5 * cs d := by cases d <;> rfl
theorem zs_pos (d : Nat) : 1 ≤ zs d := by
  cases d with
  | zero => decide
  | succ d => show 1 ≤ 1 + 3 * (zn d + 1); omega
/-- what a drawn one is -/
def Fit (s p z : Nat) (f : F) : Prop := f.ok s ∧ f.dep ≤ p ∧ f.sz ≤ z
section
variable {Q : D → Store → Prop} {E : Ex}
def SumSpec (s d : Nat) : Prop := ∀ (m : Nat) (S : Store) (k b : Nat) (Q : D → Store → Prop) (E : Ex), 2 * d + 6 ≤ m → BoxAt S k (b + cs d) → (∀ S' f, Kp k S S' → BoxAt S' k b → Fit s (2 * d + 1) (zs d) f → Q f.d S') → Wx (run P m 33 [.ref k, .int (s : Int), .int (d : Int)]) S Q E
def NodeSpec (s d : Nat) : Prop := ∀ (m : Nat) (S : Store) (k b : Nat) (Q : D → Store → Prop) (E : Ex), 2 * d + 7 ≤ m → BoxAt S k (b + cn d) → (∀ S' f, Kp k S S' → BoxAt S' k b → Fit s (2 * d + 2) (zn d) f → Q f.d S') → Wx (run P m 34 [.ref k, .int (s : Int), .int (d : Int)]) S Q E
def sumTail : ISs := match b__law_drawn_sum with
  | .cons _ (.cons (.for_ _ _ _ (.cons _ t)) _) => t
  | _ => .nil
theorem sum_eq : b__law_drawn_sum = .cons (.asg (.name 3) (.lst .nil))
    (.cons (.for_ (.name 4) .range (.cons (.call 22 (.cons (.var 0) (.cons (.lst (.cons (.con (.int 0)) (.cons (.con (.int 1)) (.cons (.con (.int 1)) (.cons (.con (.int 2)) (.cons (.con (.int 2)) (.cons (.con (.int 3)) .nil))))))) .nil))) .nil)
      (.cons (.asg (.name 5) (.and (.cmp .gt (.var 2) (.con (.int 0))) (.cmp .eq (.call 21 (.cons (.var 0) (.cons (.con (.int 3)) .nil))) (.con (.int 0))))) sumTail))
    (.cons (.ret (.tup (.cons (.con (.str "sum")) (.cons (.bi .tuple (.cons (.var 3) .nil)) .nil)))) .nil)) := rfl
theorem Kp.setR {k r : Nat} {S0 S : Store} {o : Ob} (h : Kp k S0 S) (hr : S0.length ≤ r) : Kp k S0 (S.set r o) :=
  ⟨by rw [List.length_set]; exact h.1, fun j hj hn => by rw [List.getElem?_set_ne (by omega)]; exact h.2 j hj hn⟩
theorem BoxAt.setR {k r b : Nat} {S : Store} {o : Ob} (h : BoxAt S k b) (hr : r ≠ k) : BoxAt (S.set r o) k b := by
  obtain ⟨x, s, d, e, h⟩ := h
  exact ⟨x, s, d, by rw [List.getElem?_set_ne hr]; exact e, h⟩
theorem dsum_tail {n s d k r b : Nat} {l : List R1} {inn : Bool} {S S0 : Store} {o4 : Option D} {N : Env → Store → Prop} {Q : Fl × Env → Store → Prop} (hm : 2 * d + 5 ≤ n) (hinn : inn = true → ∃ d', d = d' + 1 ∧ NodeSpec s d') (hb : BoxAt S k (b + (c1 d - 1)))
    (hr : S[r]? = some (.lst (l.map R1.d))) (hrk : r ≠ k) (hl : l.length < line) (h0 : Kp k S0 S) (hr0 : S0.length ≤ r)
    (hN : ∀ S' l', (l' = l ∨ ∃ x : R1, l' = l ++ [x] ∧ x.ok s (2 * d) (zr d)) → S'[r]? = some (.lst (l'.map R1.d)) → Kp k S0 S' → BoxAt S' k b → N [some (.ref k), some (.int (s : Int)), some (.int (d : Int)), some (.ref r), o4, some (.bl inn)] S') :
    Ws (denSs (run P n) sumTail [some (.ref k), some (.int (s : Int)), some (.int (d : Int)), some (.ref r), o4, some (.bl inn)]) S N Q := by
  obtain ⟨n', rfl⟩ : ∃ n', n = n' + 3 := ⟨n - 3, by omega⟩
  unfold sumTail b__law_drawn_sum
  simp only [Wx_var, Wx_con, Wx_glob, Wx_bin, Wx_neg, Wx_negI, Wx_not, Wx_cmp, Wx_and, Wx_or, Wx_ite, Wx_tup, Wx_lst, Wx_idx, Wx_slice, Wx_call, Wx_bi, Wx_isi, Wx_meth, Wx_nil, Wx_cons, Wx_onone, Wx_osome, Wx_cnone, Wx_csome, Wx_add, Wx_addT, Wx_sub, Wx_mul, Wx_fdiv, Wx_mod, Wx_tbl, Wx_tint, Wx_eqI, Wx_eqS, Wx_eqB, Wx_neI, Wx_ltI, Wx_leI, Wx_gtI, Wx_geI, Wx_idxT, atD_0, atD_1, atD_2, Wx_abs, Wx_intI, Wx_intB, Wx_cutT, Wx_srcT, Wx_range, Wx_ret, Wx_cond, List.getElem?_cons_zero, List.getElem?_cons_succ, List.length_cons, List.length_nil, List.set_cons_zero, List.set_cons_succ, decide_eq_true_eq, bne_iff_ne, Wx_turn, wipeD, Ws_nil, Ws_cons, Ws_asg, Ws_par, Ws_expr, Ws_ret, Ws_retn, Ws_pass, Ws_ite, asgD, setAll]
  by_cases hs : (s : Int) > 0
  · rw [if_pos hs]
    cases inn with
    | false =>
      simp only [Bool.not_false, if_true]
      rw [Wx_ref hr]
      have hb' : BoxAt S k ((b + 1) + 2) := hb.less (by have := c1_ge d; omega)
      refine w_weight (b := b + 1) hb' fun S1 q k1 b1 hq => ?_
      refine w_take b1 hs fun S2 i k2 b2 i0 i1 => ?_
      refine ⟨by decide, ?_⟩
      have hr2 := k2.get (k1.get hr hrk) hrk
      rw [Wx_append hr2]
      refine ⟨by rw [List.length_map]; exact hl, hN _ (l ++ [.leaf q i.toNat]) (.inr ⟨.leaf q i.toNat, rfl, show Bd 3 q ∧ i.toNat < s from ⟨hq, by omega⟩⟩) ?_ (((h0.trans k1).trans k2).setR hr0) (b2.setR hrk)⟩
      rw [get_set hr2, List.map_append]
      have : ((i.toNat : Nat) : Int) = i := by omega
      show some (Ob.lst (_ ++ [D.tup [fr q, .int i]])) = some (Ob.lst (_ ++ [D.tup [fr q, .int ((i.toNat : Nat) : Int)]]))
      rw [this]
    | true =>
      obtain ⟨d', rfl, hn⟩ := hinn rfl
      simp only [Bool.not_true, Bool.false_eq_true, if_false, if_true]
      rw [Wx_ref hr]
      have hb' : BoxAt S k ((b + cn d') + 2) := hb.less (by rw [c1_succ]; omega)
      refine w_weight (b := b + cn d') hb' fun S1 q k1 b1 hq => ?_
      have ed : ((d' + 1 : Nat) : Int) - 1 = (d' : Int) := by omega
      rw [ed]
      refine hn (n' + 3) S1 k b _ _ (by omega) b1 fun S2 f k2 b2 hf => ?_
      refine ⟨by decide, ?_⟩
      have hr2 := k2.get (k1.get hr hrk) hrk
      rw [Wx_append hr2]
      obtain ⟨f1, f2, f3⟩ := hf
      refine ⟨by rw [List.length_map]; exact hl, hN _ (l ++ [.node q f]) (.inr ⟨.node q f, rfl, show Bd 3 q ∧ f.ok s ∧ f.dep ≤ _ ∧ f.sz ≤ _ from ⟨hq, f1, by omega, f3⟩⟩) ?_ (((h0.trans k1).trans k2).setR hr0) (b2.setR hrk)⟩
      rw [get_set hr2, List.map_append]
      rfl
  · rw [if_neg hs]
    cases inn with
    | false =>
      simp only [Bool.false_eq_true, if_false]
      rw [if_neg hs]
      exact hN S l (.inl rfl) hr h0 (hb.less (by omega))
    | true =>
      obtain ⟨d', rfl, hn⟩ := hinn rfl
      simp only [Bool.false_eq_true, if_false, if_true]
      rw [if_neg hs, Wx_ref hr]
      have hb' : BoxAt S k ((b + cn d') + 2) := hb.less (by rw [c1_succ]; omega)
      refine w_weight (b := b + cn d') hb' fun S1 q k1 b1 hq => ?_
      have ed : ((d' + 1 : Nat) : Int) - 1 = (d' : Int) := by omega
      rw [ed]
      refine hn (n' + 3) S1 k b _ _ (by omega) b1 fun S2 f k2 b2 hf => ?_
      refine ⟨by decide, ?_⟩
      have hr2 := k2.get (k1.get hr hrk) hrk
      rw [Wx_append hr2]
      obtain ⟨f1, f2, f3⟩ := hf
      refine ⟨by rw [List.length_map]; exact hl, hN _ (l ++ [.node q f]) (.inr ⟨.node q f, rfl, show Bd 3 q ∧ f.ok s ∧ f.dep ≤ _ ∧ f.sz ≤ _ from ⟨hq, f1, by omega, f3⟩⟩) ?_ (((h0.trans k1).trans k2).setR hr0) (b2.setR hrk)⟩
      rw [get_set hr2, List.map_append]
      rfl
theorem dsum (s d : Nat) (hnode : ∀ d', d = d' + 1 → NodeSpec s d') : SumSpec s d := by
  intro m S k b Q E hm hb h
  obtain ⟨n, rfl⟩ : ∃ n, m = n + 1 := ⟨m - 1, by omega⟩
  rw [r__law_drawn_sum, Wx_end, sum_eq]
  simp only [Wx_var, Wx_con, Wx_glob, Wx_bin, Wx_neg, Wx_negI, Wx_not, Wx_cmp, Wx_and, Wx_or, Wx_ite, Wx_tup, Wx_lst, Wx_idx, Wx_slice, Wx_call, Wx_bi, Wx_isi, Wx_meth, Wx_nil, Wx_cons, Wx_onone, Wx_osome, Wx_cnone, Wx_csome, Wx_add, Wx_addT, Wx_sub, Wx_mul, Wx_fdiv, Wx_mod, Wx_tbl, Wx_tint, Wx_eqI, Wx_eqS, Wx_eqB, Wx_neI, Wx_ltI, Wx_leI, Wx_gtI, Wx_geI, Wx_idxT, atD_0, atD_1, atD_2, Wx_abs, Wx_intI, Wx_intB, Wx_cutT, Wx_srcT, Wx_range, Wx_ret, Wx_cond, List.getElem?_cons_zero, List.getElem?_cons_succ, List.length_cons, List.length_nil, List.set_cons_zero, List.set_cons_succ, decide_eq_true_eq, bne_iff_ne, Wx_turn, wipeD, Ws_nil, Ws_cons, Ws_asg, Ws_par, Ws_expr, Ws_ret, Ws_retn, Ws_pass, Ws_ite, asgD, setAll, Ws_for]
  have hk := hb.lt
  refine ⟨by decide, by decide, ?_⟩
  obtain ⟨n', rfl⟩ : ∃ n', n = n' + 2 := ⟨n - 2, by omega⟩
  refine w_pick (b := b + (1 + 3 * c1 d)) ((hb.app.app).less (by unfold cs; omega)) get_last (by simp; omega) (by simp) fun S1 x k1 b1 hx => ?_
  obtain ⟨i, rfl, hi⟩ : ∃ i : Int, x = .int i ∧ 0 ≤ i ∧ i ≤ 3 := by
    simp only [List.mem_cons, List.not_mem_nil, or_false] at hx
    rcases hx with rfl | rfl | rfl | rfl | rfl | rfl <;> exact ⟨_, rfl, by decide, by decide⟩
  rw [Wx_range]
  refine ⟨by omega, ?_⟩
  have hr0 : S1[S.length]? = some (.lst []) := k1.get (get_app (List.prefix_append _ _) get_last) (by omega)
  have hi3 : i.toNat ≤ 3 := by omega
  have hb1 : BoxAt S1 k (b + i.toNat * c1 d) := b1.less (by have := Nat.mul_le_mul_right (c1 d) hi3; omega)
  refine Ws_forD (I := fun ds δ S' => ∃ (c : Nat) (lo : Int) (l : List R1) (o4 o5 : Option D), ds = rangeD lo c ∧ l.length + c ≤ 3 ∧ BoxAt S' k (b + c * c1 d) ∧ S'[S.length]? = some (.lst (l.map R1.d)) ∧ Kp k S S' ∧ (∀ x ∈ l, x.ok s (2 * d) (zr d)) ∧ δ = [some (.ref k), some (.int (s : Int)), some (.int (d : Int)), some (.ref S.length), o4, o5]) ?_ ?_ ⟨i.toNat, 0, [], none, none, rfl, by simpa using hi3, hb1, hr0, (Kp.app.trans Kp.app).trans k1, by simp, rfl⟩
  · rintro e ds δ S' ⟨c, lo, l, o4, o5, e1, hl, b2, hr, k2, hok, rfl⟩
    cases c with
    | zero => cases e1
    | succ c =>
      cases e1
      refine ⟨keptNil, _, rfl, Wx_block ?_⟩
      have fin : ∀ (inn : Bool) (S2 : Store) (o4 : Option D) (Qf : Fl × Env → Store → Prop), (inn = true → ∃ d', d = d' + 1 ∧ NodeSpec s d') → BoxAt S2 k (b + c * c1 d + (c1 d - 1)) → S2[S.length]? = some (.lst (l.map R1.d)) → Kp k S S2 →
          Ws (denSs (run P (n' + 2)) sumTail [some (.ref k), some (.int (s : Int)), some (.int (d : Int)), some (.ref S.length), o4, some (.bl inn)]) S2 (fun δ S' => ∃ (c' : Nat) (lo' : Int) (l' : List R1) (o4 o5 : Option D), rangeD (lo + 1) c = rangeD lo' c' ∧ l'.length + c' ≤ 3 ∧ BoxAt S' k (b + c' * c1 d) ∧ S'[S.length]? = some (.lst (l'.map R1.d)) ∧ Kp k S S' ∧ (∀ x ∈ l', x.ok s (2 * d) (zr d)) ∧ δ = [some (.ref k), some (.int (s : Int)), some (.int (d : Int)), some (.ref S.length), o4, o5]) Qf := by
        intro inn S2 o4 Qf h1 h2 h3 h4
        refine dsum_tail (b := b + c * c1 d) (by omega) h1 h2 h3 (by omega) (by unfold line; omega) h4 (Nat.le_refl _) fun S' l' hl' h5 h6 h7 => ?_
        rcases hl' with rfl | ⟨x, rfl, hx⟩
        · exact ⟨c, lo + 1, _, _, _, rfl, by omega, h7, h5, h6, hok, rfl⟩
        · refine ⟨c, lo + 1, _, _, _, rfl, by rw [List.length_append, List.length_singleton]; omega, h7, h5, h6, fun y hy => ?_, rfl⟩
          rcases List.mem_append.mp hy with hy | hy
          · exact hok y hy
          · rw [List.mem_singleton.mp hy]; exact hx
      have c4 := c1_ge d
      have e2 : (c + 1) * c1 d = c * c1 d + c1 d := Nat.succ_mul _ _
      rw [Ws_cons, Ws_asg]
      simp only [Wx_var, Wx_con, Wx_glob, Wx_bin, Wx_neg, Wx_negI, Wx_not, Wx_cmp, Wx_and, Wx_or, Wx_ite, Wx_tup, Wx_lst, Wx_idx, Wx_slice, Wx_call, Wx_bi, Wx_isi, Wx_meth, Wx_nil, Wx_cons, Wx_onone, Wx_osome, Wx_cnone, Wx_csome, Wx_add, Wx_addT, Wx_sub, Wx_mul, Wx_fdiv, Wx_mod, Wx_tbl, Wx_tint, Wx_eqI, Wx_eqS, Wx_eqB, Wx_neI, Wx_ltI, Wx_leI, Wx_gtI, Wx_geI, Wx_idxT, atD_0, atD_1, atD_2, Wx_abs, Wx_intI, Wx_intB, Wx_cutT, Wx_srcT, Wx_range, Wx_ret, Wx_cond, List.getElem?_cons_zero, List.getElem?_cons_succ, List.length_cons, List.length_nil, List.set_cons_zero, List.set_cons_succ, decide_eq_true_eq, bne_iff_ne, Wx_turn, wipeD]
      by_cases hd : (d : Int) > 0
      · rw [if_pos hd]
        refine w_take (b := b + c * c1 d + (c1 d - 1)) (b2.less (by omega)) (by decide) fun S3 dg k3 b3 l3 u3 => ?_
        obtain ⟨d', rfl⟩ : ∃ d', d = d' + 1 := ⟨d - 1, by omega⟩
        rw [Wx_eqI]
        exact fin (dg == 0) S3 _ _ (fun _ => ⟨d', rfl, hnode d' rfl⟩) b3 (k3.get hr (by omega)) (k2.trans k3)
      · rw [if_neg hd]
        have ed : decide ((d : Int) > 0) = false := by simpa using hd
        rw [ed]
        exact fin false S' _ _ (fun z => by cases z) (b2.less (by omega)) hr k2
  · rintro δ S' ⟨c, lo, l, o4, o5, e1, hl, b2, hr, k2, hok, rfl⟩
    refine ⟨keptNil, ?_⟩
    simp only [Wx_var, Wx_con, Wx_glob, Wx_bin, Wx_neg, Wx_negI, Wx_not, Wx_cmp, Wx_and, Wx_or, Wx_ite, Wx_tup, Wx_lst, Wx_idx, Wx_slice, Wx_call, Wx_bi, Wx_isi, Wx_meth, Wx_nil, Wx_cons, Wx_onone, Wx_osome, Wx_cnone, Wx_csome, Wx_add, Wx_addT, Wx_sub, Wx_mul, Wx_fdiv, Wx_mod, Wx_tbl, Wx_tint, Wx_eqI, Wx_eqS, Wx_eqB, Wx_neI, Wx_ltI, Wx_leI, Wx_gtI, Wx_geI, Wx_idxT, atD_0, atD_1, atD_2, Wx_abs, Wx_intI, Wx_intB, Wx_cutT, Wx_srcT, Wx_range, Wx_ret, Wx_cond, List.getElem?_cons_zero, List.getElem?_cons_succ, List.length_cons, List.length_nil, List.set_cons_zero, List.set_cons_succ, decide_eq_true_eq, bne_iff_ne, Wx_turn, wipeD, Ws_nil, Ws_cons, Ws_asg, Ws_par, Ws_expr, Ws_ret, Ws_retn, Ws_pass, Ws_ite, asgD, setAll]
    rw [Wx_tuple (seq_lst hr)]
    have hf : (F.sum (rsOf l)).d = .tup [.str "sum", .tup (l.map R1.d)] := by
      unfold F.d
      rw [rsOf_d]
    rw [← hf]
    refine ⟨by decide, h _ _ k2 (b2.less (by omega)) ?_⟩
    obtain ⟨q1, q2, q3⟩ := rsOf_ok hok
    refine ⟨q1, by show (rsOf l).dep + 1 ≤ _; omega, ?_⟩
    show (rsOf l).sz + 1 ≤ zs d
    have := Nat.mul_le_mul_right (zr d + 1) (show l.length ≤ 3 by omega)
    rw [zs_eq]
    omega
theorem g1 : gtag true = ("greatest" : PySem.Str) := rfl
theorem g2 : gtag false = ("least" : PySem.Str) := rfl
theorem in_sh {x : PySem.Str} {S : Store} {Q : Bool → Store → Prop} {E : Ex} : Wx (cmpD .in_ (.str x) (.tup [.str "size", .str "held"])) S Q E = Q (("size" : PySem.Str) == x || ("held" : PySem.Str) == x) S := by
  show Q _ S = _
  simp only [List.any_cons, List.any_nil, Bool.or_false, flatEq]
theorem u1 : (("size" : PySem.Str) == "greatest" || ("held" : PySem.Str) == "greatest") = false := by decide +kernel
theorem u2 : (("size" : PySem.Str) == "least" || ("held" : PySem.Str) == "least") = false := by decide +kernel
theorem u3 : (("size" : PySem.Str) == "size" || ("held" : PySem.Str) == "size") = true := by decide +kernel
theorem u4 : (("size" : PySem.Str) == "held" || ("held" : PySem.Str) == "held") = true := by decide +kernel
/-- the parts of a drawn node -/
theorem each_dsum {n s d k b : Nat} {S0 : Store} {x3 x4 : Option D} (hm : 2 * d + 6 ≤ n) (hsum : SumSpec s d) : ∀ (c : Nat) (lo : Int) (S : Store) (Q : List D → Store → Prop), BoxAt S k (b + c * cs d) →
    (∀ (S' : Store) (l : List F), l.length = c → Kp k S S' → BoxAt S' k b → (∀ f ∈ l, Fit s (2 * d + 1) (zs d) f) → Q (l.map F.d) S') →
    Wx (eachD S0 [] (turnC (.name 4) [4] [some (.ref k), some (.int (s : Int)), some (.int (d : Int)), x3, x4] (denC (run P n) .none) (denE (run P n) (.call 33 (.cons (.var 0) (.cons (.var 1) (.cons (.var 2) .nil)))))) (rangeD lo c)) S Q NoEx
  | 0, lo, S, Q, hb, h => by
    unfold rangeD
    rw [Wx_each_nil]
    exact ⟨keptNil, h S [] rfl .refl (hb.less (by omega)) (by simp)⟩
  | c + 1, lo, S, Q, hb, h => by
    unfold rangeD
    rw [Wx_each_cons]
    refine ⟨keptNil, ?_⟩
    simp only [Wx_var, Wx_con, Wx_glob, Wx_bin, Wx_neg, Wx_negI, Wx_not, Wx_cmp, Wx_and, Wx_or, Wx_ite, Wx_tup, Wx_lst, Wx_idx, Wx_slice, Wx_call, Wx_bi, Wx_isi, Wx_meth, Wx_nil, Wx_cons, Wx_onone, Wx_osome, Wx_cnone, Wx_csome, Wx_add, Wx_addT, Wx_sub, Wx_mul, Wx_fdiv, Wx_mod, Wx_tbl, Wx_tint, Wx_eqI, Wx_eqS, Wx_eqB, Wx_neI, Wx_ltI, Wx_leI, Wx_gtI, Wx_geI, Wx_idxT, atD_0, atD_1, atD_2, Wx_abs, Wx_intI, Wx_intB, Wx_cutT, Wx_srcT, Wx_range, Wx_ret, Wx_cond, List.getElem?_cons_zero, List.getElem?_cons_succ, List.length_cons, List.length_nil, List.set_cons_zero, List.set_cons_succ, decide_eq_true_eq, bne_iff_ne, Wx_turn, wipeD, asgD]
    have e2 : (c + 1) * cs d = c * cs d + cs d := Nat.succ_mul _ _
    rw [if_pos trivial]
    refine hsum n S k (b + c * cs d) _ _ hm (hb.less (by omega)) fun S1 f k1 b1 hf => ?_
    refine each_dsum hm hsum c (lo + 1) S1 _ b1 fun S2 l hl k2 b2 hok => ?_
    exact h S2 (f :: l) (by rw [List.length_cons, hl]) (k1.trans k2) b2 fun g hg => by
      rcases List.mem_cons.mp hg with rfl | hg
      · exact hf
      · exact hok g hg
theorem dnode (s d : Nat) (hsum : SumSpec s d) : NodeSpec s d := by
  intro m S k b Q E hm hb h
  obtain ⟨n, rfl⟩ : ∃ n, m = n + 1 := ⟨m - 1, by omega⟩
  rw [r__law_drawn_node, Wx_end]
  unfold b__law_drawn_node
  simp only [Wx_var, Wx_con, Wx_glob, Wx_bin, Wx_neg, Wx_negI, Wx_not, Wx_cmp, Wx_and, Wx_or, Wx_ite, Wx_tup, Wx_lst, Wx_idx, Wx_slice, Wx_call, Wx_bi, Wx_isi, Wx_meth, Wx_nil, Wx_cons, Wx_onone, Wx_osome, Wx_cnone, Wx_csome, Wx_add, Wx_addT, Wx_sub, Wx_mul, Wx_fdiv, Wx_mod, Wx_tbl, Wx_tint, Wx_eqI, Wx_eqS, Wx_eqB, Wx_neI, Wx_ltI, Wx_leI, Wx_gtI, Wx_geI, Wx_idxT, atD_0, atD_1, atD_2, Wx_abs, Wx_intI, Wx_intB, Wx_cutT, Wx_srcT, Wx_range, Wx_ret, Wx_cond, List.getElem?_cons_zero, List.getElem?_cons_succ, List.length_cons, List.length_nil, List.set_cons_zero, List.set_cons_succ, decide_eq_true_eq, bne_iff_ne, Wx_turn, wipeD, Ws_nil, Ws_cons, Ws_asg, Ws_par, Ws_expr, Ws_ret, Ws_retn, Ws_pass, Ws_ite, asgD, setAll]
  have hk := hb.lt
  have hcn := cn_eq d
  refine ⟨by decide, ?_⟩
  obtain ⟨n', rfl⟩ : ∃ n', n = n' + 2 := ⟨n - 2, by omega⟩
  refine w_pick (b := b + (1 + 5 * cs d)) (hb.app.less (by omega)) get_last (by omega) (by simp) fun S1 x k1 b1 hx => ?_
  refine ⟨by decide, ?_⟩
  have k01 := (Kp.app.trans k1)
  have low : ∀ (held : Bool), Wx (denEs (run P (n' + 2)) (.cons (.var 0) (.cons (.var 1) (.cons (.var 2) .nil))) [some (.ref k), some (.int (s : Int)), some (.int (d : Int)), some x, none]) S1 (fun _ _ => True) NoEx := fun _ => by simp only [Wx_var, Wx_con, Wx_glob, Wx_bin, Wx_neg, Wx_negI, Wx_not, Wx_cmp, Wx_and, Wx_or, Wx_ite, Wx_tup, Wx_lst, Wx_idx, Wx_slice, Wx_call, Wx_bi, Wx_isi, Wx_meth, Wx_nil, Wx_cons, Wx_onone, Wx_osome, Wx_cnone, Wx_csome, Wx_add, Wx_addT, Wx_sub, Wx_mul, Wx_fdiv, Wx_mod, Wx_tbl, Wx_tint, Wx_eqI, Wx_eqS, Wx_eqB, Wx_neI, Wx_ltI, Wx_leI, Wx_gtI, Wx_geI, Wx_idxT, atD_0, atD_1, atD_2, Wx_abs, Wx_intI, Wx_intB, Wx_cutT, Wx_srcT, Wx_range, Wx_ret, Wx_cond, List.getElem?_cons_zero, List.getElem?_cons_succ, List.length_cons, List.length_nil, List.set_cons_zero, List.set_cons_succ, decide_eq_true_eq, bne_iff_ne, Wx_turn, wipeD]
  simp only [List.mem_cons, List.not_mem_nil, or_false] at hx
  rcases hx with rfl | rfl | rfl | rfl
  · rw [Wx_inL get_last, in_sh, u1]
    simp only [Bool.false_eq_true, if_false, Wx_var, Wx_con, Wx_glob, Wx_bin, Wx_neg, Wx_negI, Wx_not, Wx_cmp, Wx_and, Wx_or, Wx_ite, Wx_tup, Wx_lst, Wx_idx, Wx_slice, Wx_call, Wx_bi, Wx_isi, Wx_meth, Wx_nil, Wx_cons, Wx_onone, Wx_osome, Wx_cnone, Wx_csome, Wx_add, Wx_addT, Wx_sub, Wx_mul, Wx_fdiv, Wx_mod, Wx_tbl, Wx_tint, Wx_eqI, Wx_eqS, Wx_eqB, Wx_neI, Wx_ltI, Wx_leI, Wx_gtI, Wx_geI, Wx_idxT, atD_0, atD_1, atD_2, Wx_abs, Wx_intI, Wx_intB, Wx_cutT, Wx_srcT, Wx_range, Wx_ret, Wx_cond, List.getElem?_cons_zero, List.getElem?_cons_succ, List.length_cons, List.length_nil, List.set_cons_zero, List.set_cons_succ, decide_eq_true_eq, bne_iff_ne, Wx_turn, wipeD, Ws_nil, Ws_cons, Ws_asg, Ws_par, Ws_expr, Ws_ret, Ws_retn, Ws_pass, Ws_ite, asgD, setAll, Wx_comp]
    refine ⟨by decide, w_pick (b := b + 5 * cs d) (b1.app.app.less (by omega)) get_last (by have := b1.lt; simp; omega) (by simp) fun S2 y k2 b2 hy => ?_⟩
    obtain ⟨i, rfl, hi⟩ : ∃ i : Int, y = .int i ∧ 1 ≤ i ∧ i ≤ 5 := by
      simp only [List.mem_cons, List.not_mem_nil, or_false] at hy
      rcases hy with rfl | rfl | rfl | rfl <;> exact ⟨_, rfl, by decide, by decide⟩
    rw [Wx_range]
    refine ⟨by omega, ?_⟩
    have hi5 : i.toNat ≤ 5 := by omega
    refine each_dsum (b := b) (by omega) hsum i.toNat 0 S2 _ (b2.less (by have := Nat.mul_le_mul_right (cs d) hi5; omega)) fun S3 l hl k3 b3 hok => ?_
    refine ⟨by rw [List.length_map, hl]; unfold line; omega, ?_⟩
    rw [Wx_tuple (seq_lst get_last)]
    have hf : (F.top true (fsOf l)).d = .tup [.str "greatest", .tup (l.map F.d)] := by
      unfold F.d
      rw [fsOf_d]
      rfl
    rw [← hf]
    refine ⟨by decide, h _ _ ((((k01.trans Kp.app).trans Kp.app).trans k2).trans (k3.trans Kp.app)) b3.app ?_⟩
    obtain ⟨q1, q2, q3⟩ := fsOf_ok hok
    refine ⟨⟨by rw [fsOf_list]; intro z; rw [z] at hl; simp at hl; omega, q1⟩, by show (fsOf l).dep + 1 ≤ _; omega, ?_⟩
    show (fsOf l).sz + 1 ≤ zn d
    have := Nat.mul_le_mul_right (zs d + 1) (show l.length ≤ 5 by omega)
    rw [zn_eq]
    omega
  · rw [Wx_inL get_last, in_sh, u2]
    simp only [Bool.false_eq_true, if_false, Wx_var, Wx_con, Wx_glob, Wx_bin, Wx_neg, Wx_negI, Wx_not, Wx_cmp, Wx_and, Wx_or, Wx_ite, Wx_tup, Wx_lst, Wx_idx, Wx_slice, Wx_call, Wx_bi, Wx_isi, Wx_meth, Wx_nil, Wx_cons, Wx_onone, Wx_osome, Wx_cnone, Wx_csome, Wx_add, Wx_addT, Wx_sub, Wx_mul, Wx_fdiv, Wx_mod, Wx_tbl, Wx_tint, Wx_eqI, Wx_eqS, Wx_eqB, Wx_neI, Wx_ltI, Wx_leI, Wx_gtI, Wx_geI, Wx_idxT, atD_0, atD_1, atD_2, Wx_abs, Wx_intI, Wx_intB, Wx_cutT, Wx_srcT, Wx_range, Wx_ret, Wx_cond, List.getElem?_cons_zero, List.getElem?_cons_succ, List.length_cons, List.length_nil, List.set_cons_zero, List.set_cons_succ, decide_eq_true_eq, bne_iff_ne, Wx_turn, wipeD, Ws_nil, Ws_cons, Ws_asg, Ws_par, Ws_expr, Ws_ret, Ws_retn, Ws_pass, Ws_ite, asgD, setAll, Wx_comp]
    refine ⟨by decide, w_pick (b := b + 5 * cs d) (b1.app.app.less (by omega)) get_last (by have := b1.lt; simp; omega) (by simp) fun S2 y k2 b2 hy => ?_⟩
    obtain ⟨i, rfl, hi⟩ : ∃ i : Int, y = .int i ∧ 1 ≤ i ∧ i ≤ 5 := by
      simp only [List.mem_cons, List.not_mem_nil, or_false] at hy
      rcases hy with rfl | rfl | rfl | rfl <;> exact ⟨_, rfl, by decide, by decide⟩
    rw [Wx_range]
    refine ⟨by omega, ?_⟩
    have hi5 : i.toNat ≤ 5 := by omega
    refine each_dsum (b := b) (by omega) hsum i.toNat 0 S2 _ (b2.less (by have := Nat.mul_le_mul_right (cs d) hi5; omega)) fun S3 l hl k3 b3 hok => ?_
    refine ⟨by rw [List.length_map, hl]; unfold line; omega, ?_⟩
    rw [Wx_tuple (seq_lst get_last)]
    have hf : (F.top false (fsOf l)).d = .tup [.str "least", .tup (l.map F.d)] := by
      unfold F.d
      rw [fsOf_d]
      rfl
    rw [← hf]
    refine ⟨by decide, h _ _ ((((k01.trans Kp.app).trans Kp.app).trans k2).trans (k3.trans Kp.app)) b3.app ?_⟩
    obtain ⟨q1, q2, q3⟩ := fsOf_ok hok
    refine ⟨⟨by rw [fsOf_list]; intro z; rw [z] at hl; simp at hl; omega, q1⟩, by show (fsOf l).dep + 1 ≤ _; omega, ?_⟩
    show (fsOf l).sz + 1 ≤ zn d
    have := Nat.mul_le_mul_right (zs d + 1) (show l.length ≤ 5 by omega)
    rw [zn_eq]
    omega
  · rw [Wx_inL get_last, in_sh, u3, if_pos rfl]
    refine hsum (n' + 2) _ k b _ _ (by omega) (b1.app.less (by omega)) fun S2 f k2 b2 hf => ?_
    refine ⟨by decide, h S2 (.size f) ((k01.trans Kp.app).trans k2) b2 ?_⟩
    obtain ⟨f1, f2, f3⟩ := hf
    exact ⟨f1, by show f.dep + 1 ≤ _; omega, by show f.sz + 1 ≤ _; rw [zn_eq]; omega⟩
  · rw [Wx_inL get_last, in_sh, u4, if_pos rfl]
    refine hsum (n' + 2) _ k b _ _ (by omega) (b1.app.less (by omega)) fun S2 f k2 b2 hf => ?_
    refine ⟨by decide, h S2 (.held f) ((k01.trans Kp.app).trans k2) b2 ?_⟩
    obtain ⟨f1, f2, f3⟩ := hf
    exact ⟨f1, by show f.dep + 1 ≤ _; omega, by show f.sz + 1 ≤ _; rw [zn_eq]; omega⟩
theorem drawn_ok (s : Nat) : ∀ d, SumSpec s d ∧ NodeSpec s d
  | 0 => ⟨dsum s 0 (fun d' e => by omega), dnode s 0 (dsum s 0 (fun d' e => by omega))⟩
  | d + 1 => by
    have ih := (drawn_ok s d).2
    have hs := dsum s (d + 1) fun d' e => by
      obtain rfl : d' = d := by omega
      exact ih
    exact ⟨hs, dnode s (d + 1) hs⟩
end
end K03

set_option Elab.async false
set_option linter.all false
set_option maxRecDepth 100000
set_option maxHeartbeats 4000000
set_option autoImplicit false
/-! k03, the plain law: a formula drawn. -/
namespace K03
open Ev
def CD : Nat := 300000
theorem cs_le : ∀ d, d ≤ 3 → cs d ≤ 260400 ∧ cn d ≤ 260400
  | 0, _ => by decide
  | 1, _ => by decide
  | 2, _ => by decide
  | 3, _ => by decide
  | n + 4, h => by omega
theorem zs_le : ∀ d, d ≤ 3 → zs d ≤ 94016 ∧ zn d ≤ 94016
  | 0, _ => by decide
  | 1, _ => by decide
  | 2, _ => by decide
  | 3, _ => by decide
  | n + 4, h => by omega
theorem F.sz_pos (f : F) : 1 ≤ f.sz := by
  cases f with
  | sum rs => show 1 ≤ rs.sz + 1; omega
  | top g rs => show 1 ≤ rs.sz + 1; omega
  | size f => show 1 ≤ f.sz + 1; omega
  | held f => show 1 ≤ f.sz + 1; omega
theorem rsOf_leaf {s : Nat} {A : Nat → List Int → Int} : ∀ {l : List R1}, (∀ r ∈ l, r.ok s 0 0) → (rsOf l).folds A = []
  | [], _ => rfl
  | .leaf w i :: r, h => by
    show (rsOf r).folds A = []
    exact rsOf_leaf fun x hx => h x (List.mem_cons_of_mem _ hx)
  | .node w f :: r, h => by
    obtain ⟨_, _, _, z⟩ := h _ List.mem_cons_self
    have := f.sz_pos
    omega
abbrev Fit8 (s : Nat) (f : F) : Prop := Fit s 8 94016 f
section
variable {Q : D → Store → Prop} {E : Ex}
/-- rows of weights and nodes -/
theorem each_wn {n s d k b : Nat} {S0 : Store} {x2 x4 x5 x6 : Option D} (hm : 2 * d + 7 ≤ n) (dd : Int) (hd : ∀ x : Int, x = dd → x.fmod 2 = (d : Int)) : ∀ (c : Nat) (lo : Int) (S : Store) (Q : List D → Store → Prop), BoxAt S k (b + c * (2 + cn d)) →
    (∀ (S' : Store) (l : List R1), l.length = c → Kp k S S' → BoxAt S' k b → (∀ r ∈ l, r.ok s (2 * d + 2) (zn d)) → Q (l.map R1.d) S') →
    Wx (eachD S0 [] (turnC (.name 5) [5] [some (.ref k), some (.int (s : Int)), x2, some (.int dd), x4, x5, x6] (denC (run P n) .none) (denE (run P n) (.tup (.cons (.call 32 (.cons (.var 0) .nil)) (.cons (.call 34 (.cons (.var 0) (.cons (.var 1) (.cons (.bin .mod (.bi .int (.cons (.var 3) .nil)) (.con (.int 2))) .nil)))) .nil))))) (rangeD lo c)) S Q NoEx
  | 0, lo, S, Q, hb, h => by
    unfold rangeD
    rw [Wx_each_nil]
    exact ⟨keptNil, h S [] rfl .refl (hb.less (by omega)) (by simp)⟩
  | c + 1, lo, S, Q, hb, h => by
    unfold rangeD
    rw [Wx_each_cons]
    refine ⟨keptNil, ?_⟩
    obtain ⟨n', rfl⟩ : ∃ n', n = n' + 3 := ⟨n - 3, by omega⟩
    simp only [Wx_var, Wx_con, Wx_glob, Wx_bin, Wx_neg, Wx_negI, Wx_not, Wx_cmp, Wx_and, Wx_or, Wx_ite, Wx_tup, Wx_lst, Wx_idx, Wx_slice, Wx_call, Wx_bi, Wx_isi, Wx_meth, Wx_nil, Wx_cons, Wx_onone, Wx_osome, Wx_cnone, Wx_csome, Wx_add, Wx_addT, Wx_sub, Wx_mul, Wx_fdiv, Wx_mod, Wx_tbl, Wx_tint, Wx_eqI, Wx_eqS, Wx_eqB, Wx_neI, Wx_ltI, Wx_leI, Wx_gtI, Wx_geI, Wx_idxT, atD_0, atD_1, atD_2, Wx_abs, Wx_intI, Wx_intB, Wx_cutT, Wx_srcT, Wx_range, Wx_ret, Wx_cond, List.getElem?_cons_zero, List.getElem?_cons_succ, List.length_cons, List.length_nil, List.set_cons_zero, List.set_cons_succ, decide_eq_true_eq, bne_iff_ne, Wx_turn, wipeD, asgD]
    have e2 : (c + 1) * (2 + cn d) = c * (2 + cn d) + (2 + cn d) := Nat.succ_mul _ _
    rw [if_pos trivial]
    refine w_weight (b := b + c * (2 + cn d) + cn d) (hb.less (by omega)) fun S1 q k1 b1 hq => ?_
    refine ⟨by decide, ?_⟩
    rw [hd dd rfl]
    refine (drawn_ok s d).2 (n' + 3) S1 k (b + c * (2 + cn d)) _ _ hm b1 fun S2 f k2 b2 hf => ?_
    refine ⟨by decide, ?_⟩
    refine each_wn hm dd hd c (lo + 1) S2 _ b2 fun S3 l hl k3 b3 hok => ?_
    exact h S3 (.node q f :: l) (by rw [List.length_cons, hl]) ((k1.trans k2).trans k3) b3 fun g hg => by
      rcases List.mem_cons.mp hg with rfl | hg
      · exact ⟨hq, hf⟩
      · exact hok g hg
theorem each_wl {n s k b : Nat} {S0 : Store} {x2 x3 x4 x5 x6 : Option D} (hm : 4 ≤ n) : ∀ (c lo : Nat) (S : Store) (Q : List D → Store → Prop), lo + c ≤ s → BoxAt S k (b + c * 2) →
    (∀ (S' : Store) (l : List R1), l.length = c → Kp k S S' → BoxAt S' k b → (∀ r ∈ l, r.ok s 0 0) → Q (l.map R1.d) S') →
    Wx (eachD S0 [] (turnC (.name 6) [6] [some (.ref k), some (.int (s : Int)), x2, x3, x4, x5, x6] (denC (run P n) .none) (denE (run P n) (.tup (.cons (.call 32 (.cons (.var 0) .nil)) (.cons (.var 6) .nil))))) (rangeD (lo : Int) c)) S Q NoEx
  | 0, lo, S, Q, hs, hb, h => by
    unfold rangeD
    rw [Wx_each_nil]
    exact ⟨keptNil, h S [] rfl .refl (hb.less (by omega)) (by simp)⟩
  | c + 1, lo, S, Q, hs, hb, h => by
    unfold rangeD
    rw [Wx_each_cons]
    refine ⟨keptNil, ?_⟩
    obtain ⟨n', rfl⟩ : ∃ n', n = n' + 3 := ⟨n - 3, by omega⟩
    simp only [Wx_var, Wx_con, Wx_glob, Wx_bin, Wx_neg, Wx_negI, Wx_not, Wx_cmp, Wx_and, Wx_or, Wx_ite, Wx_tup, Wx_lst, Wx_idx, Wx_slice, Wx_call, Wx_bi, Wx_isi, Wx_meth, Wx_nil, Wx_cons, Wx_onone, Wx_osome, Wx_cnone, Wx_csome, Wx_add, Wx_addT, Wx_sub, Wx_mul, Wx_fdiv, Wx_mod, Wx_tbl, Wx_tint, Wx_eqI, Wx_eqS, Wx_eqB, Wx_neI, Wx_ltI, Wx_leI, Wx_gtI, Wx_geI, Wx_idxT, atD_0, atD_1, atD_2, Wx_abs, Wx_intI, Wx_intB, Wx_cutT, Wx_srcT, Wx_range, Wx_ret, Wx_cond, List.getElem?_cons_zero, List.getElem?_cons_succ, List.length_cons, List.length_nil, List.set_cons_zero, List.set_cons_succ, decide_eq_true_eq, bne_iff_ne, Wx_turn, wipeD, asgD]
    rw [if_pos trivial]
    refine w_weight (b := b + c * 2) (hb.less (by omega)) fun S1 q k1 b1 hq => ?_
    refine ⟨by decide, ?_⟩
    have e : ((lo : Int) + 1) = ((lo + 1 : Nat) : Int) := by omega
    rw [e]
    refine each_wl hm c (lo + 1) S1 _ (by omega) b1 fun S3 l hl k3 b3 hok => ?_
    exact h S3 (.leaf q lo :: l) (by rw [List.length_cons, hl]) (k1.trans k3) b3 fun g hg => by
      rcases List.mem_cons.mp hg with rfl | hg
      · exact ⟨hq, by omega⟩
      · exact hok g hg
def drawnTail : ISs := match b__law_drawn with
  | .cons (.for_ _ _ _ (.cons _ (.cons _ (.cons _ t)))) _ => t
  | _ => .nil
def drawnMid : IS := match b__law_drawn with
  | .cons (.for_ _ _ _ (.cons _ (.cons _ (.cons t _)))) _ => t
  | _ => .pass
theorem drawn_eq : b__law_drawn = .cons (.for_ (.name 2) .range (.cons (.con (.int 5)) .nil) (.cons (.asg (.name 3) (.call 22 (.cons (.var 0) (.cons (.lst (.cons (.con (.int 0)) (.cons (.con (.int 1)) (.cons (.con (.int 1)) (.cons (.con (.int 2)) (.cons (.con (.int 3)) .nil)))))) .nil))))
    (.cons (.asg (.name 4) (.ite (.cmp .eq (.call 21 (.cons (.var 0) (.cons (.con (.int 2)) .nil))) (.con (.int 0))) (.call 33 (.cons (.var 0) (.cons (.var 1) (.cons (.var 3) .nil)))) (.call 34 (.cons (.var 0) (.cons (.var 1) (.cons (.var 3) .nil))))))
    (.cons drawnMid drawnTail))))
    (.cons (.ret (.tup (.cons (.con (.str "sum")) (.cons (.bi .tuple (.cons (.comp [("socket", 6)] (.name 6) .range (.cons (.var 1) .nil) .none (.tup (.cons (.call 32 (.cons (.var 0) .nil)) (.cons (.var 6) .nil)))) .nil)) .nil)))) .nil) := rfl
theorem mid_ok {n s k b d : Nat} {f : F} {S : Store} {x2 x5 x6 : Option D} {N : Env → Store → Prop} {Qf : Fl × Env → Store → Prop} (hm : 9 ≤ n) (hd : d ≤ 3) (hb : BoxAt S k (b + 4000)) (hf : Fit8 s f)
    (hN : ∀ (S' : Store) (g : F) (x5' : Option D), Kp k S S' → BoxAt S' k b → Fit8 s g → N [some (.ref k), some (.int (s : Int)), x2, some (.int (d : Int)), some g.d, x5', x6] S') :
    Ws (denS (run P n) drawnMid [some (.ref k), some (.int (s : Int)), x2, some (.int (d : Int)), some f.d, x5, x6]) S N Qf := by
  unfold drawnMid b__law_drawn
  simp only [Wx_var, Wx_con, Wx_glob, Wx_bin, Wx_neg, Wx_negI, Wx_not, Wx_cmp, Wx_and, Wx_or, Wx_ite, Wx_tup, Wx_lst, Wx_idx, Wx_slice, Wx_call, Wx_bi, Wx_isi, Wx_meth, Wx_nil, Wx_cons, Wx_onone, Wx_osome, Wx_cnone, Wx_csome, Wx_add, Wx_addT, Wx_sub, Wx_mul, Wx_fdiv, Wx_mod, Wx_tbl, Wx_tint, Wx_eqI, Wx_eqS, Wx_eqB, Wx_neI, Wx_ltI, Wx_leI, Wx_gtI, Wx_geI, Wx_idxT, atD_0, atD_1, atD_2, Wx_abs, Wx_intI, Wx_intB, Wx_cutT, Wx_srcT, Wx_range, Wx_ret, Wx_cond, List.getElem?_cons_zero, List.getElem?_cons_succ, List.length_cons, List.length_nil, List.set_cons_zero, List.set_cons_succ, decide_eq_true_eq, bne_iff_ne, Wx_turn, wipeD, Ws_nil, Ws_cons, Ws_asg, Ws_par, Ws_expr, Ws_ret, Ws_retn, Ws_pass, Ws_ite, asgD, setAll, Wx_comp]
  obtain ⟨n', rfl⟩ : ∃ n', n = n' + 1 := ⟨n - 1, by omega⟩
  refine w_take (b := b + 3999) hb (by decide) fun S1 x k1 b1 l1 u1 => ?_
  rw [Wx_eqI]
  by_cases c0 : x = 0
  · rw [if_pos (by simpa using c0)]
    refine ⟨by decide, ?_⟩
    have hd2 : ((d : Int)).fmod 2 = ((d % 2 : Nat) : Int) := by
      rw [Int.fmod_eq_emod_of_nonneg _ (by decide)]
      omega
    have c1 : cn (d % 2) ≤ 1152 := by
      rcases (show d % 2 = 0 ∨ d % 2 = 1 by omega) with e | e <;> rw [e] <;> decide
    have z1 : zn (d % 2) ≤ 416 := by
      rcases (show d % 2 = 0 ∨ d % 2 = 1 by omega) with e | e <;> rw [e] <;> decide
    have b1' : BoxAt S1 k (b + 3 * (2 + cn (d % 2))) := b1.less (by omega)
    refine each_wn (d := d % 2) (by omega) (d : Int) (fun y hy => by rw [hy]; exact hd2) 3 0 S1 _ b1' fun S2 l hl k2 b2 hok => ?_
    refine ⟨by rw [List.length_map, hl]; decide, ?_⟩
    rw [Wx_tuple (seq_lst get_last)]
    have hf : (F.sum (rsOf l)).d = .tup [.str "sum", .tup (l.map R1.d)] := by
      unfold F.d
      rw [rsOf_d]
    rw [← hf]
    refine ⟨by decide, hN _ _ _ ((k1.trans k2).trans Kp.app) b2.app ?_⟩
    obtain ⟨q1, q2, q3⟩ := rsOf_ok hok
    refine ⟨q1, by show (rsOf l).dep + 1 ≤ 8; omega, ?_⟩
    show (rsOf l).sz + 1 ≤ 94016
    rw [hl] at q3
    omega
  · rw [if_neg (by simpa using c0)]
    exact hN S1 f x5 k1 (b1.less (by omega)) hf
theorem tail_ok {n s k b : Nat} {f : F} {S : Store} {x2 x3 x5 x6 : Option D} {N : Env → Store → Prop} {Qf : Fl × Env → Store → Prop} (hm : 12 ≤ n) (hb : BoxAt S k b) (hf : Fit8 s f)
    (hN : ∀ (S' : Store), Kp k S S' → BoxAt S' k b → N [some (.ref k), some (.int (s : Int)), x2, x3, some f.d, x5, x6] S')
    (hQ : ∀ (S' : Store) (δ : Env), Kp k S S' → BoxAt S' k b → f.fold aMany ≤ 64 → Qf (.ret f.d, δ) S') :
    Ws (denSs (run P n) drawnTail [some (.ref k), some (.int (s : Int)), x2, x3, some f.d, x5, x6]) S N Qf := by
  unfold drawnTail b__law_drawn
  simp only [Wx_var, Wx_con, Wx_glob, Wx_bin, Wx_neg, Wx_negI, Wx_not, Wx_cmp, Wx_and, Wx_or, Wx_ite, Wx_tup, Wx_lst, Wx_idx, Wx_slice, Wx_call, Wx_bi, Wx_isi, Wx_meth, Wx_nil, Wx_cons, Wx_onone, Wx_osome, Wx_cnone, Wx_csome, Wx_add, Wx_addT, Wx_sub, Wx_mul, Wx_fdiv, Wx_mod, Wx_tbl, Wx_tint, Wx_eqI, Wx_eqS, Wx_eqB, Wx_neI, Wx_ltI, Wx_leI, Wx_gtI, Wx_geI, Wx_idxT, atD_0, atD_1, atD_2, Wx_abs, Wx_intI, Wx_intB, Wx_cutT, Wx_srcT, Wx_range, Wx_ret, Wx_cond, List.getElem?_cons_zero, List.getElem?_cons_succ, List.length_cons, List.length_nil, List.set_cons_zero, List.set_cons_succ, decide_eq_true_eq, bne_iff_ne, Wx_turn, wipeD, Ws_nil, Ws_cons, Ws_asg, Ws_par, Ws_expr, Ws_ret, Ws_retn, Ws_pass, Ws_ite, asgD, setAll]
  obtain ⟨f1, f2, f3⟩ := hf
  have pre : ∀ {S S' : Store}, S <+: S' → BoxAt S k b → BoxAt S' k b := fun h hb => by
    obtain ⟨r, rfl⟩ := h
    exact hb.app
  refine w_lnodes 94016 f f3 (by decide) n S _ _ (by omega) fun S1 h1 => ?_
  simp only [Wx_var, Wx_con, Wx_glob, Wx_bin, Wx_neg, Wx_negI, Wx_not, Wx_cmp, Wx_and, Wx_or, Wx_ite, Wx_tup, Wx_lst, Wx_idx, Wx_slice, Wx_call, Wx_bi, Wx_isi, Wx_meth, Wx_nil, Wx_cons, Wx_onone, Wx_osome, Wx_cnone, Wx_csome, Wx_add, Wx_addT, Wx_sub, Wx_mul, Wx_fdiv, Wx_mod, Wx_tbl, Wx_tint, Wx_eqI, Wx_eqS, Wx_eqB, Wx_neI, Wx_ltI, Wx_leI, Wx_gtI, Wx_geI, Wx_idxT, atD_0, atD_1, atD_2, Wx_abs, Wx_intI, Wx_intB, Wx_cutT, Wx_srcT, Wx_range, Wx_ret, Wx_cond, List.getElem?_cons_zero, List.getElem?_cons_succ, List.length_cons, List.length_nil, List.set_cons_zero, List.set_cons_succ, decide_eq_true_eq, bne_iff_ne, Wx_turn, wipeD, Ws_nil, Ws_cons, Ws_asg, Ws_par, Ws_expr, Ws_ret, Ws_retn, Ws_pass, Ws_ite, asgD, setAll]
  by_cases c1 : f.fold aNodes ≤ 24
  · rw [if_pos c1]
    refine w_lmany 94016 f f3 (by decide) n S1 _ _ (by omega) fun S2 h2 => ?_
    simp only [Wx_var, Wx_con, Wx_glob, Wx_bin, Wx_neg, Wx_negI, Wx_not, Wx_cmp, Wx_and, Wx_or, Wx_ite, Wx_tup, Wx_lst, Wx_idx, Wx_slice, Wx_call, Wx_bi, Wx_isi, Wx_meth, Wx_nil, Wx_cons, Wx_onone, Wx_osome, Wx_cnone, Wx_csome, Wx_add, Wx_addT, Wx_sub, Wx_mul, Wx_fdiv, Wx_mod, Wx_tbl, Wx_tint, Wx_eqI, Wx_eqS, Wx_eqB, Wx_neI, Wx_ltI, Wx_leI, Wx_gtI, Wx_geI, Wx_idxT, atD_0, atD_1, atD_2, Wx_abs, Wx_intI, Wx_intB, Wx_cutT, Wx_srcT, Wx_range, Wx_ret, Wx_cond, List.getElem?_cons_zero, List.getElem?_cons_succ, List.length_cons, List.length_nil, List.set_cons_zero, List.set_cons_succ, decide_eq_true_eq, bne_iff_ne, Wx_turn, wipeD, Ws_nil, Ws_cons, Ws_asg, Ws_par, Ws_expr, Ws_ret, Ws_retn, Ws_pass, Ws_ite, asgD, setAll]
    by_cases c2 : f.fold aMany ≤ 64
    · rw [if_pos c2]
      exact hQ S2 _ (Kp.pre (h1.trans h2)) (pre (h1.trans h2) hb) c2
    · rw [if_neg c2]
      exact hN S2 (Kp.pre (h1.trans h2)) (pre (h1.trans h2) hb)
  · rw [if_neg c1]
    first
      | exact hN S1 (Kp.pre h1) (pre h1 hb)
      | (rw [if_neg c1]; exact hN S1 (Kp.pre h1) (pre h1 hb))
theorem w_drawn {m s k b : Nat} {S : Store} (hs : s ≤ 4) (hm : 20 ≤ m) (hb : BoxAt S k (b + 2000000)) (h : ∀ (S' : Store) (f : F), Kp k S S' → BoxAt S' k b → Fit8 s f → f.fold aMany ≤ 64 → Q f.d S') : Wx (run P m 35 [.ref k, .int (s : Int)]) S Q E := by
  obtain ⟨n, rfl⟩ : ∃ n, m = n + 1 := ⟨m - 1, by omega⟩
  rw [r__law_drawn, Wx_end, drawn_eq]
  simp only [Ws_cons, Ws_for, Wx_cons, Wx_nil, Wx_con]
  rw [Wx_range]
  refine ⟨by decide, ?_⟩
  refine Ws_forD (I := fun ds δ S' => ∃ (c : Nat) (lo : Int) (x2 x3 x4 x5 x6 : Option D), ds = rangeD lo c ∧ BoxAt S' k (b + 100 + c * CD) ∧ Kp k S S' ∧ δ = [some (.ref k), some (.int (s : Int)), x2, x3, x4, x5, x6]) ?_ ?_ ⟨5, 0, none, none, none, none, none, rfl, hb.less (by unfold CD; omega), .refl, rfl⟩
  · rintro e ds δ S' ⟨c, lo, x2, x3, x4, x5, x6, e1, b2, k2, rfl⟩
    cases c with
    | zero => cases e1
    | succ c =>
      cases e1
      refine ⟨keptNil, _, rfl, Wx_block ?_⟩
      have e2 : (c + 1) * CD = c * CD + CD := Nat.succ_mul _ _
      have hcd : CD = 300000 := rfl
      obtain ⟨n', rfl⟩ : ∃ n', n = n' + 2 := ⟨n - 2, by omega⟩
      rw [Ws_cons]
      simp only [Ws_asg, Wx_var, Wx_con, Wx_glob, Wx_bin, Wx_neg, Wx_negI, Wx_not, Wx_cmp, Wx_and, Wx_or, Wx_ite, Wx_tup, Wx_lst, Wx_idx, Wx_slice, Wx_call, Wx_bi, Wx_isi, Wx_meth, Wx_nil, Wx_cons, Wx_onone, Wx_osome, Wx_cnone, Wx_csome, Wx_add, Wx_addT, Wx_sub, Wx_mul, Wx_fdiv, Wx_mod, Wx_tbl, Wx_tint, Wx_eqI, Wx_eqS, Wx_eqB, Wx_neI, Wx_ltI, Wx_leI, Wx_gtI, Wx_geI, Wx_idxT, atD_0, atD_1, atD_2, Wx_abs, Wx_intI, Wx_intB, Wx_cutT, Wx_srcT, Wx_range, Wx_ret, Wx_cond, List.getElem?_cons_zero, List.getElem?_cons_succ, List.length_cons, List.length_nil, List.set_cons_zero, List.set_cons_succ, decide_eq_true_eq, bne_iff_ne, Wx_turn, wipeD, asgD]
      have hk := b2.lt
      refine ⟨by decide, w_pick (b := b + 100 + c * CD + 290000) (b2.app.less (by omega)) get_last (by omega) (by simp) fun S1 x k3 b3 hx => ?_⟩
      obtain ⟨d, rfl, hd⟩ : ∃ d : Nat, x = .int (d : Int) ∧ d ≤ 3 := by
        simp only [List.mem_cons, List.not_mem_nil, or_false] at hx
        rcases hx with rfl | rfl | rfl | rfl | rfl
        · exact ⟨0, rfl, by decide⟩
        · exact ⟨1, rfl, by decide⟩
        · exact ⟨1, rfl, by decide⟩
        · exact ⟨2, rfl, by decide⟩
        · exact ⟨3, rfl, by decide⟩
      rw [Ws_cons]
      simp only [Ws_asg, Wx_var, Wx_con, Wx_glob, Wx_bin, Wx_neg, Wx_negI, Wx_not, Wx_cmp, Wx_and, Wx_or, Wx_ite, Wx_tup, Wx_lst, Wx_idx, Wx_slice, Wx_call, Wx_bi, Wx_isi, Wx_meth, Wx_nil, Wx_cons, Wx_onone, Wx_osome, Wx_cnone, Wx_csome, Wx_add, Wx_addT, Wx_sub, Wx_mul, Wx_fdiv, Wx_mod, Wx_tbl, Wx_tint, Wx_eqI, Wx_eqS, Wx_eqB, Wx_neI, Wx_ltI, Wx_leI, Wx_gtI, Wx_geI, Wx_idxT, atD_0, atD_1, atD_2, Wx_abs, Wx_intI, Wx_intB, Wx_cutT, Wx_srcT, Wx_range, Wx_ret, Wx_cond, List.getElem?_cons_zero, List.getElem?_cons_succ, List.length_cons, List.length_nil, List.set_cons_zero, List.set_cons_succ, decide_eq_true_eq, bne_iff_ne, Wx_turn, wipeD, asgD]
      refine w_take (b := b + 100 + c * CD + 280000) (b3.less (by omega)) (by decide) fun S2 y k4 b4 l4 u4 => ?_
      obtain ⟨cc1, cc2⟩ := cs_le d hd
      obtain ⟨zz1, zz2⟩ := zs_le d hd
      have rest : ∀ (S3 : Store) (f : F) (Qf : Fl × Env → Store → Prop), (∀ (S' : Store) (g : F) (δ : Env), Kp k S S' → BoxAt S' k b → Fit8 s g → g.fold aMany ≤ 64 → Qf (.ret g.d, δ) S') → Kp k S2 S3 → BoxAt S3 k (b + 100 + c * CD + 4000) → Fit8 s f →
          Ws (denSs (run P (n' + 2)) (.cons drawnMid drawnTail) [some (.ref k), some (.int (s : Int)), some (.int lo), some (.int (d : Int)), some f.d, x5, x6]) S3 (fun δ S' => ∃ (c' : Nat) (lo' : Int) (x2 x3 x4 x5 x6 : Option D), rangeD (lo + 1) c = rangeD lo' c' ∧ BoxAt S' k (b + 100 + c' * CD) ∧ Kp k S S' ∧ δ = [some (.ref k), some (.int (s : Int)), x2, x3, x4, x5, x6]) Qf := by
        intro S3 f Qf hQ k5 b5 hf
        rw [Ws_cons]
        refine mid_ok (b := b + 100 + c * CD) (by omega) hd b5 hf fun S4 g x5' k6 b6 hg => ?_
        have kk := (((((k2.trans Kp.app).trans k3).trans k4).trans k5).trans k6)
        refine tail_ok (by omega) b6 hg (fun S5 k7 b7 => ⟨c, lo + 1, _, _, _, _, _, rfl, b7, kk.trans k7, rfl⟩) fun S5 δ k7 b7 hm => ?_
        exact hQ S5 g δ (kk.trans k7) (b7.less (by omega)) hg hm
      by_cases cy : y = 0
      · rw [Wx_eqI, if_pos (by simpa using cy)]
        refine (drawn_ok s d).1 (n' + 2) S2 k (b + 100 + c * CD + 4000) _ _ (by omega) (b4.less (by omega)) fun S3 f k5 b5 hf => ?_
        exact rest S3 f _ (fun S' g δ a b c e => h S' g a b c e) k5 b5 ⟨hf.1, by have := hf.2.1; omega, by have := hf.2.2; omega⟩
      · rw [Wx_eqI, if_neg (by simpa using cy)]
        refine (drawn_ok s d).2 (n' + 2) S2 k (b + 100 + c * CD + 4000) _ _ (by omega) (b4.less (by omega)) fun S3 f k5 b5 hf => ?_
        exact rest S3 f _ (fun S' g δ a b c e => h S' g a b c e) k5 b5 ⟨hf.1, by have := hf.2.1; omega, by have := hf.2.2; omega⟩
  · rintro δ S' ⟨c, lo, x2, x3, x4, x5, x6, e1, b2, k2, rfl⟩
    refine ⟨keptNil, ?_⟩
    simp only [Wx_var, Wx_con, Wx_glob, Wx_bin, Wx_neg, Wx_negI, Wx_not, Wx_cmp, Wx_and, Wx_or, Wx_ite, Wx_tup, Wx_lst, Wx_idx, Wx_slice, Wx_call, Wx_bi, Wx_isi, Wx_meth, Wx_nil, Wx_cons, Wx_onone, Wx_osome, Wx_cnone, Wx_csome, Wx_add, Wx_addT, Wx_sub, Wx_mul, Wx_fdiv, Wx_mod, Wx_tbl, Wx_tint, Wx_eqI, Wx_eqS, Wx_eqB, Wx_neI, Wx_ltI, Wx_leI, Wx_gtI, Wx_geI, Wx_idxT, atD_0, atD_1, atD_2, Wx_abs, Wx_intI, Wx_intB, Wx_cutT, Wx_srcT, Wx_range, Wx_ret, Wx_cond, List.getElem?_cons_zero, List.getElem?_cons_succ, List.length_cons, List.length_nil, List.set_cons_zero, List.set_cons_succ, decide_eq_true_eq, bne_iff_ne, Wx_turn, wipeD, Ws_nil, Ws_cons, Ws_asg, Ws_par, Ws_expr, Ws_ret, Ws_retn, Ws_pass, Ws_ite, asgD, setAll, Wx_comp]
    refine ⟨by omega, ?_⟩
    refine each_wl (b := b) (by omega) s 0 S' _ (by omega) (b2.less (by omega)) fun S3 l hl k3 b3 hok => ?_
    refine ⟨by rw [List.length_map, hl]; unfold line; omega, ?_⟩
    rw [Wx_tuple (seq_lst get_last)]
    have hf : (F.sum (rsOf l)).d = .tup [.str "sum", .tup (l.map R1.d)] := by
      unfold F.d
      rw [rsOf_d]
    rw [← hf]
    refine ⟨by decide, h _ _ ((k2.trans k3).trans Kp.app) b3.app ?_ ?_⟩
    · obtain ⟨q1, q2, q3⟩ := rsOf_ok hok
      refine ⟨q1, by show (rsOf l).dep + 1 ≤ 8; omega, ?_⟩
      show (rsOf l).sz + 1 ≤ 94016
      rw [hl] at q3
      omega
    · show prodI ((rsOf l).folds aMany) ≤ 64
      rw [rsOf_leaf hok]
      decide
end
end K03

set_option Elab.async false
set_option linter.all false
set_option maxRecDepth 100000
set_option maxHeartbeats 4000000
set_option autoImplicit false
/-! k03, the plain law: sameness, the script's box, constants and bounds. -/
namespace K03
open Ev
/-- trees of whole numbers -/
def treeD : Nat → D → Prop
  | _, .int _ => True
  | n + 1, .tup ds => ds.length ≤ line ∧ ∀ d ∈ ds, treeD n d
  | _, _ => False
section
variable {m n : Nat} {S : Store} {Q : D → Store → Prop} {E : Ex}
theorem Wx_isNI {i : Int} {Q : Bool → Store → Prop} : Wx (cmpD .is_ (.int i) .non) S Q E = Q false S := rfl
theorem Wx_isBI {i : Int} {Q : Bool → Store → Prop} : Wx (isinstD [.bool] (.int i)) S Q E = Q false S := rfl
theorem Wx_isSI {i : Int} {Q : Bool → Store → Prop} : Wx (isinstD [.str] (.int i)) S Q E = Q false S := rfl
theorem Wx_lenT {ds : List D} : Wx (biD .len [.tup ds]) S Q E = Q (.int ds.length) S := rfl
theorem Wx_neS {i : Int} {Q : Bool → Store → Prop} : Wx (cmpD .ne (.int i) (.int i)) S Q E = Q false S := by
  have e : (i == i) = true := by simp
  rw [Wx_neI, e]
  rfl
theorem bools_rep : ∀ c : Nat, boolsD (List.replicate c (D.bl true)) = some (List.replicate c true)
  | 0 => rfl
  | c + 1 => by
    rw [List.replicate_succ, List.replicate_succ]
    unfold boolsD
    rw [bools_rep]
    rfl
theorem each_same {k : Nat} {ds : List D} {S0 : Store} {x2 : Option D} (ih : ∀ d ∈ ds, ∀ (S : Store) (Q : D → Store → Prop), (∀ S', S <+: S' → Q (.bl true) S') → Wx (run P n 23 [d, d]) S Q NoEx) : ∀ (c lo : Nat) (S : Store) (Q : List D → Store → Prop), lo + c = ds.length →
    (∀ S', S <+: S' → Q (List.replicate c (.bl true)) S') →
    Wx (eachD S0 [] (turnC (.name 2) [2] [some (.tup ds), some (.tup ds), x2] (denC (run P n) .none) (denE (run P n) (.call 23 (.cons (.idx (.var 0) (.var 2)) (.cons (.idx (.var 1) (.var 2)) .nil))))) (rangeD (lo : Int) c)) S Q NoEx
  | 0, lo, S, Q, hl, h => by
    unfold rangeD
    rw [Wx_each_nil]
    exact ⟨keptNil, h S (List.prefix_refl _)⟩
  | c + 1, lo, S, Q, hl, h => by
    unfold rangeD
    rw [Wx_each_cons]
    refine ⟨keptNil, ?_⟩
    have hlt : lo < ds.length := by omega
    have e := atD_nat (List.getElem?_eq_getElem hlt)
    simp only [Wx_var, Wx_con, Wx_glob, Wx_bin, Wx_neg, Wx_negI, Wx_not, Wx_cmp, Wx_and, Wx_or, Wx_ite, Wx_tup, Wx_lst, Wx_idx, Wx_slice, Wx_call, Wx_bi, Wx_isi, Wx_meth, Wx_nil, Wx_cons, Wx_onone, Wx_osome, Wx_cnone, Wx_csome, Wx_add, Wx_addT, Wx_sub, Wx_mul, Wx_fdiv, Wx_mod, Wx_tbl, Wx_tint, Wx_eqI, Wx_eqS, Wx_eqB, Wx_neI, Wx_ltI, Wx_leI, Wx_gtI, Wx_geI, Wx_idxT, atD_0, atD_1, atD_2, Wx_abs, Wx_intI, Wx_intB, Wx_cutT, Wx_srcT, Wx_range, Wx_ret, Wx_cond, List.getElem?_cons_zero, List.getElem?_cons_succ, List.length_cons, List.length_nil, List.set_cons_zero, List.set_cons_succ, decide_eq_true_eq, bne_iff_ne, Wx_turn, wipeD, asgD, e, if_true]
    refine ih _ (List.getElem_mem hlt) S _ fun S1 h1 => ?_
    have e2 : ((lo : Int) + 1) = ((lo + 1 : Nat) : Int) := by omega
    rw [e2]
    refine each_same (k := k) ih c (lo + 1) S1 _ (by omega) fun S2 h2 => ?_
    exact h S2 (h1.trans h2)
theorem same_int {i : Int} (hm : 1 ≤ m) (h : Q (.bl true) S) : Wx (run P m 23 [.int i, .int i]) S Q E := by
  obtain ⟨n, rfl⟩ : ∃ n, m = n + 1 := ⟨m - 1, by omega⟩
  rw [r__law_same, Wx_end]
  unfold b__law_same
  simp only [Wx_var, Wx_con, Wx_glob, Wx_bin, Wx_neg, Wx_negI, Wx_not, Wx_cmp, Wx_and, Wx_or, Wx_ite, Wx_tup, Wx_lst, Wx_idx, Wx_slice, Wx_call, Wx_bi, Wx_isi, Wx_meth, Wx_nil, Wx_cons, Wx_onone, Wx_osome, Wx_cnone, Wx_csome, Wx_add, Wx_addT, Wx_sub, Wx_mul, Wx_fdiv, Wx_mod, Wx_tbl, Wx_tint, Wx_eqI, Wx_eqS, Wx_eqB, Wx_neI, Wx_ltI, Wx_leI, Wx_gtI, Wx_geI, Wx_idxT, atD_0, atD_1, atD_2, Wx_abs, Wx_intI, Wx_intB, Wx_cutT, Wx_srcT, Wx_range, Wx_ret, Wx_cond, List.getElem?_cons_zero, List.getElem?_cons_succ, List.length_cons, List.length_nil, List.set_cons_zero, List.set_cons_succ, decide_eq_true_eq, bne_iff_ne, Wx_turn, wipeD, Ws_nil, Ws_cons, Ws_asg, Ws_par, Ws_expr, Ws_ret, Ws_retn, Ws_pass, Ws_ite, asgD, setAll, Wx_isTI, Wx_isNI, Wx_isBI, Wx_isSI, Wx_isI, Bool.false_eq_true, if_false, if_true, Bool.not_false, beq_self_eq_true]
  exact h
theorem lt_powI {a k : Nat} (h : a < 2 ^ k) : (a : Int) < 2 ^ k := by
  have := Int.ofNat_lt.mpr h
  simpa using this
theorem neg_powI (k a : Nat) : -(2 ^ k : Int) ≤ (a : Int) := by
  have := one_le_pow k
  omega
theorem line_lt : line < 2 ^ 62 := by decide
theorem len_ok {k : Nat} (h : k ≤ line) : -(2 ^ 62 : Int) ≤ (k : Int) ∧ (k : Int) < 2 ^ 62 := ⟨neg_powI 62 k, lt_powI (k := 62) (Nat.lt_of_le_of_lt h line_lt)⟩
theorem same_tup {ds : List D} (hm : 1 ≤ m) (hl : ds.length ≤ line) (ih : ∀ d ∈ ds, ∀ (S : Store) (Q : D → Store → Prop), (∀ S', S <+: S' → Q (.bl true) S') → Wx (run P (m - 1) 23 [d, d]) S Q NoEx) (h : ∀ S', S <+: S' → Q (.bl true) S') : Wx (run P m 23 [.tup ds, .tup ds]) S Q E := by
  obtain ⟨n, rfl⟩ : ∃ n, m = n + 1 := ⟨m - 1, (Nat.sub_add_cancel hm).symm⟩
  rw [r__law_same, Wx_end]
  unfold b__law_same
  simp only [Wx_var, Wx_con, Wx_glob, Wx_bin, Wx_neg, Wx_negI, Wx_not, Wx_cmp, Wx_and, Wx_or, Wx_ite, Wx_tup, Wx_lst, Wx_idx, Wx_slice, Wx_call, Wx_bi, Wx_isi, Wx_meth, Wx_nil, Wx_cons, Wx_onone, Wx_osome, Wx_cnone, Wx_csome, Wx_add, Wx_addT, Wx_sub, Wx_mul, Wx_fdiv, Wx_mod, Wx_tbl, Wx_tint, Wx_eqI, Wx_eqS, Wx_eqB, Wx_neI, Wx_ltI, Wx_leI, Wx_gtI, Wx_geI, Wx_idxT, atD_0, atD_1, atD_2, Wx_abs, Wx_intI, Wx_intB, Wx_cutT, Wx_srcT, Wx_range, Wx_ret, Wx_cond, List.getElem?_cons_zero, List.getElem?_cons_succ, List.length_cons, List.length_nil, List.set_cons_zero, List.set_cons_succ, decide_eq_true_eq, bne_iff_ne, Wx_turn, wipeD, Ws_nil, Ws_cons, Ws_asg, Ws_par, Ws_expr, Ws_ret, Ws_retn, Ws_pass, Ws_ite, asgD, setAll, Wx_isT, Wx_lenT, beq_self_eq_true, Bool.false_eq_true, if_false, if_true, Bool.not_true, Wx_comp]
  refine ⟨len_ok hl, ?_⟩
  rw [Int.toNat_natCast]
  refine each_same (k := 0) ih ds.length 0 S _ (Nat.zero_add _) fun S1 h1 => ?_
  refine ⟨Nat.le_trans (Nat.le_of_eq List.length_replicate) hl, ?_⟩
  rw [Wx_all (list_lst get_last) (bools_rep _)]
  have e : (List.replicate ds.length true).all id = true := by simp
  rw [e]
  exact h _ (pre_app h1)
theorem w_same : ∀ (t : Nat) (d : D), treeD t d → ∀ (m : Nat) (S : Store) (Q : D → Store → Prop) (E : Ex), t + 1 ≤ m → (∀ S', S <+: S' → Q (.bl true) S') → Wx (run P m 23 [d, d]) S Q E := by
  intro t
  induction t with
  | zero =>
    intro d ht m S Q E hm h
    cases d with
    | int i => exact same_int (by omega) (h S (List.prefix_refl _))
    | _ => exact ht.elim
  | succ t ih =>
    intro d ht m S Q E hm h
    cases d with
    | int i => exact same_int (by omega) (h S (List.prefix_refl _))
    | tup ds => exact same_tup (by omega) ht.1 (fun x hx S Q hq => ih x (ht.2 x hx) (m - 1) S Q NoEx (by omega) hq) h
    | _ => exact ht.elim
theorem p18' : (10 : Int) ^ (18 : Int).toNat = 1000000000000000000 := rfl
/-- the box of the script -/
theorem w_box {ns : List Int} {k : Int} (hS : S[0]? = some (.frz (ns.map D.int))) (hk : 0 ≤ k) (hk4 : k < 4) (h : ∀ S' j, S <+: S' → j < S'.length → S.length ≤ j → BoxAt S' j 1000000000 → Q (.ref j) S') : Wx (run P (n + 1) 20 [.ref 0, .int k]) S Q E := by
  have hsq : seqOf S (.ref 0) = some (ns.map D.int) := by
    unfold seqOf
    simp only [hS]
  have fin : ∀ cell : Int, Ws (denS (run P n) (.ret (.lst (.cons (.idx (.lst (.cons (.con (.int 0)) (.cons (.var 2) .nil))) (.bi .int (.cons (.cmp .ge (.var 2) (.bin .pow (.con (.int 10)) (.con (.int 18)))) .nil))) (.cons (.bin .add (.bin .mod (.bi .int (.cons (.bin .add (.bin .mul (.bin .mod (.bi .int (.cons (.var 2) .nil)) (.con (.int 2147483587))) (.con (.int 52009))) (.bin .mul (.con (.int 47093)) (.var 1))) .nil)) (.con (.int 2147483587))) (.con (.int 1))) (.cons (.con (.int 0)) .nil))))) [some (.ref 0), some (.int k), some (.int cell)]) S (fun _ S' => Q .non S') (fun p S' => match p.1 with | .ret d => Q d S' | .exc c v => E c v S' | _ => False) := by
    intro cell
    simp only [Wx_var, Wx_con, Wx_glob, Wx_bin, Wx_neg, Wx_negI, Wx_not, Wx_cmp, Wx_and, Wx_or, Wx_ite, Wx_tup, Wx_lst, Wx_idx, Wx_slice, Wx_call, Wx_bi, Wx_isi, Wx_meth, Wx_nil, Wx_cons, Wx_onone, Wx_osome, Wx_cnone, Wx_csome, Wx_add, Wx_addT, Wx_sub, Wx_mul, Wx_fdiv, Wx_mod, Wx_tbl, Wx_tint, Wx_eqI, Wx_eqS, Wx_eqB, Wx_neI, Wx_ltI, Wx_leI, Wx_gtI, Wx_geI, Wx_idxT, atD_0, atD_1, atD_2, Wx_abs, Wx_intI, Wx_intB, Wx_cutT, Wx_srcT, Wx_range, Wx_ret, Wx_cond, List.getElem?_cons_zero, List.getElem?_cons_succ, List.length_cons, List.length_nil, List.set_cons_zero, List.set_cons_succ, decide_eq_true_eq, bne_iff_ne, Wx_turn, wipeD, Ws_nil, Ws_cons, Ws_asg, Ws_par, Ws_expr, Ws_ret, Ws_retn, Ws_pass, Ws_ite, asgD, setAll, Wx_pow, p18']
    have r1 : ∀ x : Int, 0 ≤ x.fmod 2147483587 ∧ x.fmod 2147483587 < 2147483587 := fun x => ⟨Int.fmod_nonneg_of_pos x (by decide), Int.fmod_lt_of_pos x (by decide)⟩
    have q1 := r1 cell
    refine ⟨by decide, by decide, ?_⟩
    rw [Wx_idxL (seq_lst get_last)]
    have hx : ∃ x : Int, atD [D.int 0, .int cell] (if decide (cell ≥ 1000000000000000000) = true then 1 else 0) = some (.int x) := by
      by_cases hc : cell ≥ 1000000000000000000
      · rw [if_pos (by simpa using hc)]; exact ⟨cell, atD_1⟩
      · rw [if_neg (by simpa using hc)]; exact ⟨0, atD_0⟩
    obtain ⟨x, hx⟩ := hx
    first
      | rw [hx]
      | (simp only [decide_eq_true_eq] at hx; rw [hx])
    simp only [Wx_var, Wx_con, Wx_glob, Wx_bin, Wx_neg, Wx_negI, Wx_not, Wx_cmp, Wx_and, Wx_or, Wx_ite, Wx_tup, Wx_lst, Wx_idx, Wx_slice, Wx_call, Wx_bi, Wx_isi, Wx_meth, Wx_nil, Wx_cons, Wx_onone, Wx_osome, Wx_cnone, Wx_csome, Wx_add, Wx_addT, Wx_sub, Wx_mul, Wx_fdiv, Wx_mod, Wx_tbl, Wx_tint, Wx_eqI, Wx_eqS, Wx_eqB, Wx_neI, Wx_ltI, Wx_leI, Wx_gtI, Wx_geI, Wx_idxT, atD_0, atD_1, atD_2, Wx_abs, Wx_intI, Wx_intB, Wx_cutT, Wx_srcT, Wx_range, Wx_ret, Wx_cond, List.getElem?_cons_zero, List.getElem?_cons_succ, List.length_cons, List.length_nil, List.set_cons_zero, List.set_cons_succ, decide_eq_true_eq, bne_iff_ne, Wx_turn, wipeD, Ws_nil, Ws_cons, Ws_asg, Ws_par, Ws_expr, Ws_ret, Ws_retn, Ws_pass, Ws_ite, asgD, setAll]
    refine ⟨by decide, mulOk_of (a := 40) (b := 20) (small (by omega) (by omega)) (by decide) (by decide), mulOk_of (a := 20) (b := 10) (by decide) (small (by omega) (by omega)) (by decide), by decide, by decide, ?_⟩
    have q2 := r1 (cell.fmod 2147483587 * 52009 + 47093 * k)
    refine h _ _ ((List.prefix_append _ _).trans (List.prefix_append _ _)) (by simp) (by simp) ⟨x, _, 0, get_last, by omega, by omega, by omega, by decide⟩
  rw [r__law_box, Wx_end]
  unfold b__law_box
  rw [Ws_cons, Ws_asg]
  simp only [Wx_var, Wx_con, Wx_glob, Wx_bin, Wx_neg, Wx_negI, Wx_not, Wx_cmp, Wx_and, Wx_or, Wx_ite, Wx_tup, Wx_lst, Wx_idx, Wx_slice, Wx_call, Wx_bi, Wx_isi, Wx_meth, Wx_nil, Wx_cons, Wx_onone, Wx_osome, Wx_cnone, Wx_csome, Wx_add, Wx_addT, Wx_sub, Wx_mul, Wx_fdiv, Wx_mod, Wx_tbl, Wx_tint, Wx_eqI, Wx_eqS, Wx_eqB, Wx_neI, Wx_ltI, Wx_leI, Wx_gtI, Wx_geI, Wx_idxT, atD_0, atD_1, atD_2, Wx_abs, Wx_intI, Wx_intB, Wx_cutT, Wx_srcT, Wx_range, Wx_ret, Wx_cond, List.getElem?_cons_zero, List.getElem?_cons_succ, List.length_cons, List.length_nil, List.set_cons_zero, List.set_cons_succ, decide_eq_true_eq, bne_iff_ne, Wx_turn, wipeD, asgD]
  refine ⟨mulOk_of (a := 20) (b := 10) (by decide) (small (by omega) (by omega)) (by decide), ?_⟩
  rw [Ws_cons, Ws_ite]
  simp only [Wx_var, Wx_con, Wx_glob, Wx_bin, Wx_neg, Wx_negI, Wx_not, Wx_cmp, Wx_and, Wx_or, Wx_ite, Wx_tup, Wx_lst, Wx_idx, Wx_slice, Wx_call, Wx_bi, Wx_isi, Wx_meth, Wx_nil, Wx_cons, Wx_onone, Wx_osome, Wx_cnone, Wx_csome, Wx_add, Wx_addT, Wx_sub, Wx_mul, Wx_fdiv, Wx_mod, Wx_tbl, Wx_tint, Wx_eqI, Wx_eqS, Wx_eqB, Wx_neI, Wx_ltI, Wx_leI, Wx_gtI, Wx_geI, Wx_idxT, atD_0, atD_1, atD_2, Wx_abs, Wx_intI, Wx_intB, Wx_cutT, Wx_srcT, Wx_range, Wx_ret, Wx_cond, List.getElem?_cons_zero, List.getElem?_cons_succ, List.length_cons, List.length_nil, List.set_cons_zero, List.set_cons_succ, decide_eq_true_eq, bne_iff_ne, Wx_turn, wipeD]
  rw [Wx_len hsq]
  simp only [Wx_var, Wx_con, Wx_glob, Wx_bin, Wx_neg, Wx_negI, Wx_not, Wx_cmp, Wx_and, Wx_or, Wx_ite, Wx_tup, Wx_lst, Wx_idx, Wx_slice, Wx_call, Wx_bi, Wx_isi, Wx_meth, Wx_nil, Wx_cons, Wx_onone, Wx_osome, Wx_cnone, Wx_csome, Wx_add, Wx_addT, Wx_sub, Wx_mul, Wx_fdiv, Wx_mod, Wx_tbl, Wx_tint, Wx_eqI, Wx_eqS, Wx_eqB, Wx_neI, Wx_ltI, Wx_leI, Wx_gtI, Wx_geI, Wx_idxT, atD_0, atD_1, atD_2, Wx_abs, Wx_intI, Wx_intB, Wx_cutT, Wx_srcT, Wx_range, Wx_ret, Wx_cond, List.getElem?_cons_zero, List.getElem?_cons_succ, List.length_cons, List.length_nil, List.set_cons_zero, List.set_cons_succ, decide_eq_true_eq, bne_iff_ne, Wx_turn, wipeD, List.length_map]
  by_cases c1 : k < (ns.length : Int)
  · rw [if_pos c1]
    simp only [Ws_cons, Ws_asg, Ws_nil, Wx_var, Wx_con, Wx_glob, Wx_bin, Wx_neg, Wx_negI, Wx_not, Wx_cmp, Wx_and, Wx_or, Wx_ite, Wx_tup, Wx_lst, Wx_idx, Wx_slice, Wx_call, Wx_bi, Wx_isi, Wx_meth, Wx_nil, Wx_cons, Wx_onone, Wx_osome, Wx_cnone, Wx_csome, Wx_add, Wx_addT, Wx_sub, Wx_mul, Wx_fdiv, Wx_mod, Wx_tbl, Wx_tint, Wx_eqI, Wx_eqS, Wx_eqB, Wx_neI, Wx_ltI, Wx_leI, Wx_gtI, Wx_geI, Wx_idxT, atD_0, atD_1, atD_2, Wx_abs, Wx_intI, Wx_intB, Wx_cutT, Wx_srcT, Wx_range, Wx_ret, Wx_cond, List.getElem?_cons_zero, List.getElem?_cons_succ, List.length_cons, List.length_nil, List.set_cons_zero, List.set_cons_succ, decide_eq_true_eq, bne_iff_ne, Wx_turn, wipeD, asgD]
    rw [Wx_idxL hsq]
    obtain ⟨kk, rfl⟩ := Int.eq_ofNat_of_zero_le hk
    have hlt : kk < ns.length := by omega
    rw [atD_nat (d := .int ns[kk]) (by simp [hlt])]
    simp only [Wx_var, Wx_con, Wx_glob, Wx_bin, Wx_neg, Wx_negI, Wx_not, Wx_cmp, Wx_and, Wx_or, Wx_ite, Wx_tup, Wx_lst, Wx_idx, Wx_slice, Wx_call, Wx_bi, Wx_isi, Wx_meth, Wx_nil, Wx_cons, Wx_onone, Wx_osome, Wx_cnone, Wx_csome, Wx_add, Wx_addT, Wx_sub, Wx_mul, Wx_fdiv, Wx_mod, Wx_tbl, Wx_tint, Wx_eqI, Wx_eqS, Wx_eqB, Wx_neI, Wx_ltI, Wx_leI, Wx_gtI, Wx_geI, Wx_idxT, atD_0, atD_1, atD_2, Wx_abs, Wx_intI, Wx_intB, Wx_cutT, Wx_srcT, Wx_range, Wx_ret, Wx_cond, List.getElem?_cons_zero, List.getElem?_cons_succ, List.length_cons, List.length_nil, List.set_cons_zero, List.set_cons_succ, decide_eq_true_eq, bne_iff_ne, Wx_turn, wipeD]
    exact fin _
  · rw [if_neg c1]
    rw [Ws_cons, Ws_ite]
    simp only [Wx_var, Wx_con, Wx_glob, Wx_bin, Wx_neg, Wx_negI, Wx_not, Wx_cmp, Wx_and, Wx_or, Wx_ite, Wx_tup, Wx_lst, Wx_idx, Wx_slice, Wx_call, Wx_bi, Wx_isi, Wx_meth, Wx_nil, Wx_cons, Wx_onone, Wx_osome, Wx_cnone, Wx_csome, Wx_add, Wx_addT, Wx_sub, Wx_mul, Wx_fdiv, Wx_mod, Wx_tbl, Wx_tint, Wx_eqI, Wx_eqS, Wx_eqB, Wx_neI, Wx_ltI, Wx_leI, Wx_gtI, Wx_geI, Wx_idxT, atD_0, atD_1, atD_2, Wx_abs, Wx_intI, Wx_intB, Wx_cutT, Wx_srcT, Wx_range, Wx_ret, Wx_cond, List.getElem?_cons_zero, List.getElem?_cons_succ, List.length_cons, List.length_nil, List.set_cons_zero, List.set_cons_succ, decide_eq_true_eq, bne_iff_ne, Wx_turn, wipeD]
    rw [Wx_len hsq]
    simp only [Wx_var, Wx_con, Wx_glob, Wx_bin, Wx_neg, Wx_negI, Wx_not, Wx_cmp, Wx_and, Wx_or, Wx_ite, Wx_tup, Wx_lst, Wx_idx, Wx_slice, Wx_call, Wx_bi, Wx_isi, Wx_meth, Wx_nil, Wx_cons, Wx_onone, Wx_osome, Wx_cnone, Wx_csome, Wx_add, Wx_addT, Wx_sub, Wx_mul, Wx_fdiv, Wx_mod, Wx_tbl, Wx_tint, Wx_eqI, Wx_eqS, Wx_eqB, Wx_neI, Wx_ltI, Wx_leI, Wx_gtI, Wx_geI, Wx_idxT, atD_0, atD_1, atD_2, Wx_abs, Wx_intI, Wx_intB, Wx_cutT, Wx_srcT, Wx_range, Wx_ret, Wx_cond, List.getElem?_cons_zero, List.getElem?_cons_succ, List.length_cons, List.length_nil, List.set_cons_zero, List.set_cons_succ, decide_eq_true_eq, bne_iff_ne, Wx_turn, wipeD, List.length_map]
    by_cases c2 : (ns.length : Int) > 0
    · rw [if_pos c2]
      simp only [Ws_cons, Ws_asg, Ws_nil, Wx_var, Wx_con, Wx_glob, Wx_bin, Wx_neg, Wx_negI, Wx_not, Wx_cmp, Wx_and, Wx_or, Wx_ite, Wx_tup, Wx_lst, Wx_idx, Wx_slice, Wx_call, Wx_bi, Wx_isi, Wx_meth, Wx_nil, Wx_cons, Wx_onone, Wx_osome, Wx_cnone, Wx_csome, Wx_add, Wx_addT, Wx_sub, Wx_mul, Wx_fdiv, Wx_mod, Wx_tbl, Wx_tint, Wx_eqI, Wx_eqS, Wx_eqB, Wx_neI, Wx_ltI, Wx_leI, Wx_gtI, Wx_geI, Wx_idxT, atD_0, atD_1, atD_2, Wx_abs, Wx_intI, Wx_intB, Wx_cutT, Wx_srcT, Wx_range, Wx_ret, Wx_cond, List.getElem?_cons_zero, List.getElem?_cons_succ, List.length_cons, List.length_nil, List.set_cons_zero, List.set_cons_succ, decide_eq_true_eq, bne_iff_ne, Wx_turn, wipeD, asgD]
      rw [Wx_len hsq]
      simp only [Wx_var, Wx_con, Wx_glob, Wx_bin, Wx_neg, Wx_negI, Wx_not, Wx_cmp, Wx_and, Wx_or, Wx_ite, Wx_tup, Wx_lst, Wx_idx, Wx_slice, Wx_call, Wx_bi, Wx_isi, Wx_meth, Wx_nil, Wx_cons, Wx_onone, Wx_osome, Wx_cnone, Wx_csome, Wx_add, Wx_addT, Wx_sub, Wx_mul, Wx_fdiv, Wx_mod, Wx_tbl, Wx_tint, Wx_eqI, Wx_eqS, Wx_eqB, Wx_neI, Wx_ltI, Wx_leI, Wx_gtI, Wx_geI, Wx_idxT, atD_0, atD_1, atD_2, Wx_abs, Wx_intI, Wx_intB, Wx_cutT, Wx_srcT, Wx_range, Wx_ret, Wx_cond, List.getElem?_cons_zero, List.getElem?_cons_succ, List.length_cons, List.length_nil, List.set_cons_zero, List.set_cons_succ, decide_eq_true_eq, bne_iff_ne, Wx_turn, wipeD, List.length_map]
      refine ⟨by omega, ?_⟩
      rw [Wx_idxL hsq]
      have f0 := Int.fmod_nonneg_of_pos k c2
      have f1 := Int.fmod_lt_of_pos k c2
      obtain ⟨kk, hkk⟩ := Int.eq_ofNat_of_zero_le f0
      have hlt : kk < ns.length := by omega
      rw [hkk, atD_nat (d := .int ns[kk]) (by simp [hlt])]
      simp only [Wx_var, Wx_con, Wx_glob, Wx_bin, Wx_neg, Wx_negI, Wx_not, Wx_cmp, Wx_and, Wx_or, Wx_ite, Wx_tup, Wx_lst, Wx_idx, Wx_slice, Wx_call, Wx_bi, Wx_isi, Wx_meth, Wx_nil, Wx_cons, Wx_onone, Wx_osome, Wx_cnone, Wx_csome, Wx_add, Wx_addT, Wx_sub, Wx_mul, Wx_fdiv, Wx_mod, Wx_tbl, Wx_tint, Wx_eqI, Wx_eqS, Wx_eqB, Wx_neI, Wx_ltI, Wx_leI, Wx_gtI, Wx_geI, Wx_idxT, atD_0, atD_1, atD_2, Wx_abs, Wx_intI, Wx_intB, Wx_cutT, Wx_srcT, Wx_range, Wx_ret, Wx_cond, List.getElem?_cons_zero, List.getElem?_cons_succ, List.length_cons, List.length_nil, List.set_cons_zero, List.set_cons_succ, decide_eq_true_eq, bne_iff_ne, Wx_turn, wipeD]
      have q0 := Int.fmod_nonneg_of_pos ((ns[kk].natAbs : Int)) (show (0 : Int) < 2147483587 by decide)
      have q1 := Int.fmod_lt_of_pos ((ns[kk].natAbs : Int)) (show (0 : Int) < 2147483587 by decide)
      refine ⟨by decide, mulOk_of (a := 40) (b := 20) (small (by omega) (by omega)) (by decide) (by decide), ?_⟩
      exact fin _
    · rw [if_neg c2]
      simp only [Ws_nil]
      rw [Ws_cons]
      exact fin _
end
end K03

set_option Elab.async false
set_option linter.all false
set_option maxRecDepth 100000
set_option maxHeartbeats 4000000
set_option autoImplicit false
/-! k03, the plain law: what a formula is worth. -/
namespace K03
open Ev
abbrev St := List Rat × List (Rat × Rat)
def clamp (p : Rat × Rat) (v : Rat) : Rat := if v < p.1 then p.1 else if p.2 < v then p.2 else v
def maxQ : List Rat → Rat
  | [] => 0
  | [q] => q
  | q :: r => if q < maxQ r then maxQ r else q
def best (g : Bool) (l : List Rat) : Rat := if g then maxQ l else -maxQ (l.map (- ·))
mutual
def F.val (inp : List Rat) : F → St → Rat × St
  | .sum rs, st => rs.acc inp (st.1.headD 0) (st.1.tail, st.2)
  | .top g fs, st => (best g (fs.vals inp st).1, (fs.vals inp st).2)
  | .size f, st => (ab (f.val inp st).1, (f.val inp st).2)
  | .held f, st => (clamp (st.2.headD (0, 0)) (f.val inp (st.1, st.2.tail)).1, (f.val inp (st.1, st.2.tail)).2)
def Rs.acc (inp : List Rat) : Rs → Rat → St → Rat × St
  | .nil, a, st => (a, st)
  | .leaf w i r, a, st => r.acc inp (a + w * inp.getD i 0) st
  | .node w f r, a, st => r.acc inp (a + w * (f.val inp st).1) (f.val inp st).2
def Fs.vals (inp : List Rat) : Fs → St → List Rat × St
  | .nil, st => ([], st)
  | .cons f r, st => ((f.val inp st).1 :: (r.vals inp (f.val inp st).2).1, (r.vals inp (f.val inp st).2).2)
end
mutual
def F.ns : F → Nat
  | .sum rs => rs.ns + 1
  | .top _ fs => fs.ns
  | .size f => f.ns
  | .held f => f.ns
def Rs.ns : Rs → Nat
  | .nil => 0
  | .leaf _ _ r => r.ns
  | .node _ f r => f.ns + r.ns
def Fs.ns : Fs → Nat
  | .nil => 0
  | .cons f r => f.ns + r.ns
end
mutual
def F.nh : F → Nat
  | .sum rs => rs.nh
  | .top _ fs => fs.nh
  | .size f => f.nh
  | .held f => f.nh + 1
def Rs.nh : Rs → Nat
  | .nil => 0
  | .leaf _ _ r => r.nh
  | .node _ f r => f.nh + r.nh
def Fs.nh : Fs → Nat
  | .nil => 0
  | .cons f r => f.nh + r.nh
end
theorem tail_drop {α : Type} (l : List α) (n : Nat) : l.tail.drop n = l.drop (n + 1) := by
  rw [List.drop_tail] <;> rfl
mutual
theorem val_st (inp : List Rat) : ∀ (f : F) (st : St), (f.val inp st).2 = (st.1.drop f.ns, st.2.drop f.nh)
  | .sum rs, st => by
    show (rs.acc inp _ _).2 = _
    rw [acc_st]
    show (st.1.tail.drop rs.ns, st.2.drop rs.nh) = (st.1.drop (rs.ns + 1), st.2.drop rs.nh)
    rw [tail_drop]
  | .top g fs, st => by
    show (fs.vals inp st).2 = _
    rw [vals_st]
    rfl
  | .size f, st => by
    show (f.val inp st).2 = _
    rw [val_st]
    rfl
  | .held f, st => by
    show (f.val inp (st.1, st.2.tail)).2 = _
    rw [val_st]
    show (st.1.drop f.ns, st.2.tail.drop f.nh) = (st.1.drop f.ns, st.2.drop (f.nh + 1))
    rw [tail_drop]
theorem acc_st (inp : List Rat) : ∀ (rs : Rs) (a : Rat) (st : St), (rs.acc inp a st).2 = (st.1.drop rs.ns, st.2.drop rs.nh)
  | .nil, a, st => rfl
  | .leaf w i r, a, st => by
    show (r.acc inp _ st).2 = _
    rw [acc_st]
    rfl
  | .node w f r, a, st => by
    show (r.acc inp _ (f.val inp st).2).2 = _
    rw [acc_st, val_st]
    show ((st.1.drop f.ns).drop r.ns, (st.2.drop f.nh).drop r.nh) = (st.1.drop (f.ns + r.ns), st.2.drop (f.nh + r.nh))
    rw [List.drop_drop, List.drop_drop]
theorem vals_st (inp : List Rat) : ∀ (fs : Fs) (st : St), (fs.vals inp st).2 = (st.1.drop fs.ns, st.2.drop fs.nh)
  | .nil, st => rfl
  | .cons f r, st => by
    show (r.vals inp (f.val inp st).2).2 = _
    rw [vals_st, val_st]
    show ((st.1.drop f.ns).drop r.ns, (st.2.drop f.nh).drop r.nh) = (st.1.drop (f.ns + r.ns), st.2.drop (f.nh + r.nh))
    rw [List.drop_drop, List.drop_drop]
end
theorem maxQ_is : ∀ {l : List Rat}, l ≠ [] → IsMax l (maxQ l)
  | [], h => absurd rfl h
  | [q], _ => by simp [IsMax, maxQ, Rat.le_refl]
  | q :: x :: r, _ => by
    have ih := maxQ_is (l := x :: r) (by simp)
    show IsMax (q :: x :: r) (if q < maxQ (x :: r) then maxQ (x :: r) else q)
    by_cases h : q < maxQ (x :: r)
    · rw [if_pos h]
      refine ⟨List.mem_cons_of_mem _ ih.1, fun y hy => ?_⟩
      rcases List.mem_cons.mp hy with rfl | hy
      · exact Rat.le_of_lt h
      · exact ih.2 y hy
    · rw [if_neg h]
      refine ⟨List.mem_cons_self, fun y hy => ?_⟩
      rcases List.mem_cons.mp hy with rfl | hy
      · exact Rat.le_refl
      · exact Rat.le_trans (ih.2 y hy) (Rat.not_lt.mp h)
theorem max_uniq {l : List Rat} {a b : Rat} (h1 : IsMax l a) (h2 : IsMax l b) : a = b := Rat.le_antisymm (h2.2 a h1.1) (h1.2 b h2.1)
theorem min_uniq {l : List Rat} {a b : Rat} (h1 : IsMin l a) (h2 : IsMin l b) : a = b := Rat.le_antisymm (h1.2 b h2.1) (h2.2 a h1.1)
theorem max_neg {l : List Rat} {m : Rat} (h : IsMax (l.map (- ·)) m) : IsMin l (-m) := by
  obtain ⟨x, hx, e⟩ := List.mem_map.mp h.1
  refine ⟨by rw [← e, Rat.neg_neg]; exact hx, fun y hy => ?_⟩
  have := h.2 (-y) (List.mem_map.mpr ⟨y, hy, rfl⟩)
  exact Rat.neg_le_iff.mpr this
theorem best_max {l : List Rat} (h : l ≠ []) : IsMax l (best true l) := maxQ_is h
theorem best_min {l : List Rat} (h : l ≠ []) : IsMin l (best false l) := max_neg (maxQ_is (by simpa using h))
/-- what the inputs and the drawn numbers are -/
structure In (s : Nat) (inp : List Rat) : Prop where
  len : inp.length = s
  bd : ∀ q ∈ inp, Bd 40 q
def StOk (st : St) : Prop := (∀ q ∈ st.1, Bd 40 q) ∧ ∀ p ∈ st.2, Bd 40 p.1 ∧ Bd 40 p.2 ∧ p.1 < p.2
theorem StOk.drop {st : St} (h : StOk st) (i j : Nat) : StOk (st.1.drop i, st.2.drop j) := ⟨fun q hq => h.1 q (List.mem_of_mem_drop hq), fun p hp => h.2 p (List.mem_of_mem_drop hp)⟩
theorem bd_neg {k : Nat} {q : Rat} (h : Bd k q) : Bd k (-q) := ⟨by rw [Rat.neg_num, Int.natAbs_neg]; exact h.1, by rw [Rat.neg_den]; exact h.2⟩
theorem bd_ab {k : Nat} {q : Rat} (h : Bd k q) : Bd k (ab q) := by
  unfold ab
  split
  · exact bd_neg h
  · exact h
theorem bd_add {j k : Nat} {a b : Rat} (ha : Bd j a) (hb : Bd k b) : Bd (j + k + 1) (a + b) := by
  have e : Rat.divInt (a.num * (b.den : Int) + b.num * (a.den : Int)) ((a.den : Int) * (b.den : Int)) = a + b := by
    rw [Rat.add_def', ← Int.natCast_mul, Rat.divInt_ofNat]
  rw [← e]
  refine bd_divInt (Int.mul_pos (den_pos' a) (den_pos' b)) (abs_add_lt (abs_mul_lt ha.1 (bd_den hb)) ?_) (pow_le (abs_mul_lt (bd_den ha) (bd_den hb)) (by omega))
  rw [Int.mul_comm]
  exact abs_mul_lt (bd_den ha) hb.1
theorem bd_mul {j k : Nat} {a b : Rat} (ha : Bd j a) (hb : Bd k b) : Bd (j + k) (a * b) := by
  have e : Rat.divInt (a.num * b.num) ((a.den : Int) * (b.den : Int)) = a * b := by
    rw [Rat.mul_def', ← Int.natCast_mul, Rat.divInt_ofNat]
  rw [← e]
  exact bd_divInt (Int.mul_pos (den_pos' a) (den_pos' b)) (abs_mul_lt ha.1 hb.1) (abs_mul_lt (bd_den ha) (bd_den hb))
theorem bd_zero {k : Nat} (hk : 1 ≤ k) : Bd k 0 := bd_int (i := 0) (Nat.two_pow_pos k) hk
mutual
theorem val_bd {s : Nat} {inp : List Rat} (hi : In s inp) : ∀ (f : F) (st : St), f.ok s → StOk st → Bd (50 * f.sz) (f.val inp st).1
  | .sum rs, st, h, hs => by
    show Bd (50 * (rs.sz + 1)) (rs.acc inp (st.1.headD 0) (st.1.tail, st.2)).1
    refine (acc_bd hi rs (st.1.headD 0) 40 (st.1.tail, st.2) h ?_ ?_).mono (by omega)
    · cases e : st.1 with
      | nil => exact bd_zero (by decide)
      | cons q r => exact hs.1 q (by rw [e]; simp)
    · exact ⟨fun q hq => hs.1 q (List.mem_of_mem_tail hq), hs.2⟩
  | .top g fs, st, h, hs => by
    show Bd (50 * (fs.sz + 1)) (best g (fs.vals inp st).1)
    have hv := vals_bd hi fs st h.2 hs
    have hne : (fs.vals inp st).1 ≠ [] := by
      cases fs with
      | nil => exact absurd rfl h.1
      | cons f r => intro z; cases z
    have hm : best g (fs.vals inp st).1 ∈ (fs.vals inp st).1 := by
      cases g with
      | true => exact (best_max hne).1
      | false => exact (best_min hne).1
    exact (hv _ hm).mono (by omega)
  | .size f, st, h, hs => by
    show Bd (50 * (f.sz + 1)) (ab (f.val inp st).1)
    exact (bd_ab (val_bd hi f st h hs)).mono (by omega)
  | .held f, st, h, hs => by
    show Bd (50 * (f.sz + 1)) (clamp (st.2.headD (0, 0)) (f.val inp (st.1, st.2.tail)).1)
    have hv := val_bd hi f (st.1, st.2.tail) h ⟨hs.1, fun p hp => hs.2 p (List.mem_of_mem_tail hp)⟩
    have hp : Bd 40 (st.2.headD (0, 0)).1 ∧ Bd 40 (st.2.headD (0, 0)).2 := by
      cases e : st.2 with
      | nil => exact ⟨bd_zero (by decide), bd_zero (by decide)⟩
      | cons q r => exact ⟨(hs.2 q (by rw [e]; simp)).1, (hs.2 q (by rw [e]; simp)).2.1⟩
    unfold clamp
    split
    · exact hp.1.mono (by omega)
    · split
      · exact hp.2.mono (by omega)
      · exact hv.mono (by omega)
theorem acc_bd {s : Nat} {inp : List Rat} (hi : In s inp) : ∀ (rs : Rs) (a : Rat) (k : Nat) (st : St), rs.ok s → Bd k a → StOk st → Bd (k + 50 * rs.sz) (rs.acc inp a st).1
  | .nil, a, k, st, h, ha, hs => ha.mono (by omega)
  | .leaf w i r, a, k, st, h, ha, hs => by
    show Bd (k + 50 * (r.sz + 1)) (r.acc inp (a + w * inp.getD i 0) st).1
    have hx : Bd 40 (inp.getD i 0) := by
      rw [List.getD_eq_getElem?_getD]
      cases e : inp[i]? with
      | none => exact bd_zero (by decide)
      | some q => exact hi.bd q (List.mem_of_getElem? e)
    exact (acc_bd hi r _ (k + (3 + 40) + 1) st h.2.2 (bd_add ha (bd_mul h.1 hx)) hs).mono (by omega)
  | .node w f r, a, k, st, h, ha, hs => by
    show Bd (k + 50 * (f.sz + r.sz + 1)) (r.acc inp (a + w * (f.val inp st).1) (f.val inp st).2).1
    have hv := val_bd hi f st h.2.1 hs
    have hs2 : StOk (f.val inp st).2 := by rw [val_st]; exact hs.drop _ _
    exact (acc_bd hi r _ (k + (3 + 50 * f.sz) + 1) _ h.2.2 (bd_add ha (bd_mul h.1 hv)) hs2).mono (by omega)
theorem vals_bd {s : Nat} {inp : List Rat} (hi : In s inp) : ∀ (fs : Fs) (st : St), fs.ok s → StOk st → ∀ q ∈ (fs.vals inp st).1, Bd (50 * fs.sz) q
  | .nil, st, h, hs, q, hq => by cases hq
  | .cons f r, st, h, hs, q, hq => by
    have hs2 : StOk (f.val inp st).2 := by rw [val_st]; exact hs.drop _ _
    have hq : q ∈ (f.val inp st).1 :: (r.vals inp (f.val inp st).2).1 := hq
    rcases List.mem_cons.mp hq with rfl | hq
    · exact (val_bd hi f st h.1 hs).mono (by show 50 * f.sz ≤ 50 * (f.sz + r.sz + 1); omega)
    · exact (vals_bd hi r _ h.2 hs2 q hq).mono (by show 50 * r.sz ≤ 50 * (f.sz + r.sz + 1); omega)
end
end K03

set_option Elab.async false
set_option linter.all false
set_option maxRecDepth 100000
set_option maxHeartbeats 4000000
set_option autoImplicit false
/-! k03, the plain law: the law's own worth. -/
namespace K03
open Ev
abbrev pr (p : Rat × Rat) : D := .tup [fr p.1, fr p.2]
abbrev iD (inp : List Rat) : D := .tup (inp.map fr)
abbrev cD (st : St) : D := .tup (st.1.map fr)
abbrev bD (st : St) : D := .tup (st.2.map pr)
theorem cut1 (xs : List D) : cutD xs (some 1) none = xs.tail := by
  unfold cutD
  cases xs with
  | nil => simp
  | cons x xs => simp [HT.sIx]
def worthRow : ISs := match b__law_worth with
  | .cons (.ite _ (.cons _ (.cons (.for_ _ _ _ t) _)) _) _ => t
  | _ => .nil
def WorthAt (n s : Nat) (inp : List Rat) (g : F) : Prop := ∀ (st : St) (S : Store) (Q : D → Store → Prop) (E : Ex), StOk st → g.ns ≤ st.1.length → g.nh ≤ st.2.length →
  (∀ S', S <+: S' → Q (.tup [fr (g.val inp st).1, cD (g.val inp st).2, bD (g.val inp st).2]) S') → Wx (run P n 42 [g.d, iD inp, cD st, bD st]) S Q E
section
variable {N : Env → Store → Prop} {Q : Fl × Env → Store → Prop}
theorem worth_rows {n s : Nat} {inp : List Rat} {S0 : Store} {x0 x2 x3 x10 x11 x12 x13 : Option D} (hi : In s inp) : ∀ (rs : Rs) (a : Rat) (k : Nat) (st : St) (S : Store) (o7 o8 o9 : Option D), (∀ g ∈ rs.inner, WorthAt (n + 2) s inp g) → rs.ok s → Bd k a → k + 50 * rs.sz < 20000000 → StOk st → rs.ns ≤ st.1.length → rs.nh ≤ st.2.length →
    (∀ S' o7 o8 o9, S <+: S' → N [x0, some (iD inp), x2, x3, some (fr (rs.acc inp a st).1), some (cD (rs.acc inp a st).2), some (bD (rs.acc inp a st).2), o7, o8, o9, x10, x11, x12, x13] S') →
    Ws (forD S0 [] (.tup [7, 8]) (denSs (run P (n + 2)) worthRow) rs.d [x0, some (iD inp), x2, x3, some (fr a), some (cD st), some (bD st), o7, o8, o9, x10, x11, x12, x13]) S N Q
  | .nil, a, k, st, S, o7, o8, o9, ih, h, ha, hk, hs, h1, h2, hN => by
    unfold Rs.d
    rw [Ws_for_nil]
    exact ⟨keptNil, hN S o7 o8 o9 (List.prefix_refl _)⟩
  | .leaf w i r, a, k, st, S, o7, o8, o9, ih, h, ha, hk, hs, h1, h2, hN => by
    unfold Rs.d
    rw [Ws_for_cons]
    refine ⟨keptNil, ?_⟩
    have hlt : i < inp.length := by rw [hi.len]; exact h.2.1
    have e : atD (inp.map fr) (i : Int) = some (fr (inp.getD i 0)) := by
      refine atD_nat ?_
      rw [List.getElem?_map, List.getD_eq_getElem?_getD, List.getElem?_eq_getElem hlt]
      rfl
    have hx : Bd 40 (inp.getD i 0) := by
      rw [List.getD_eq_getElem?_getD, List.getElem?_eq_getElem hlt]
      exact hi.bd _ (List.getElem_mem hlt)
    simp only [asgD, setAll, List.set_cons_succ, List.set_cons_zero]
    unfold worthRow b__law_worth
    have hz : (Rs.leaf w i r).sz = r.sz + 1 := rfl
    simp only [Wx_var, Wx_con, Wx_glob, Wx_bin, Wx_neg, Wx_negI, Wx_not, Wx_cmp, Wx_and, Wx_or, Wx_ite, Wx_tup, Wx_lst, Wx_idx, Wx_slice, Wx_call, Wx_bi, Wx_isi, Wx_meth, Wx_nil, Wx_cons, Wx_onone, Wx_osome, Wx_cnone, Wx_csome, Wx_add, Wx_addT, Wx_sub, Wx_mul, Wx_fdiv, Wx_mod, Wx_tbl, Wx_tint, Wx_eqI, Wx_eqS, Wx_eqB, Wx_neI, Wx_ltI, Wx_leI, Wx_gtI, Wx_geI, Wx_idxT, atD_0, atD_1, atD_2, Wx_abs, Wx_intI, Wx_intB, Wx_cutT, Wx_srcT, Wx_range, Wx_ret, Wx_cond, List.getElem?_cons_zero, List.getElem?_cons_succ, List.length_cons, List.length_nil, List.set_cons_zero, List.set_cons_succ, decide_eq_true_eq, bne_iff_ne, Wx_turn, wipeD, Ws_nil, Ws_cons, Ws_asg, Ws_par, Ws_expr, Ws_ret, Ws_retn, Ws_pass, Ws_ite, asgD, setAll, Wx_isI, if_true, e]
    refine ⟨by decide, ?_⟩
    refine w_mult w (inp.getD i 0) h.1 hx (by omega) ?_
    refine w_plus a _ ha (bd_mul h.1 hx) (by omega) ?_
    exact worth_rows hi r _ (k + (3 + 40) + 1) st S _ _ _ ih h.2.2 (bd_add ha (bd_mul h.1 hx)) (by omega) hs h1 h2 hN
  | .node w f r, a, k, st, S, o7, o8, o9, ih, h, ha, hk, hs, h1, h2, hN => by
    unfold Rs.d
    rw [Ws_for_cons]
    refine ⟨keptNil, ?_⟩
    obtain ⟨ds, ed⟩ := f.d_tup
    have hz : (Rs.node w f r).sz = f.sz + r.sz + 1 := rfl
    have n1 : (Rs.node w f r).ns = f.ns + r.ns := rfl
    have n2 : (Rs.node w f r).nh = f.nh + r.nh := rfl
    have hv := val_bd hi f st h.2.1 hs
    have hs2 : StOk (f.val inp st).2 := by rw [val_st]; exact hs.drop _ _
    have l1 : (f.val inp st).2.1.length = st.1.length - f.ns := by rw [val_st]; exact List.length_drop
    have l2 : (f.val inp st).2.2.length = st.2.length - f.nh := by rw [val_st]; exact List.length_drop
    simp only [asgD, setAll, List.set_cons_succ, List.set_cons_zero]
    unfold worthRow b__law_worth
    have isT : ∀ (S : Store) (Q : Bool → Store → Prop) (E : Ex), Wx (isinstD [.int] f.d) S Q E = Q false S := fun S Q E => by rw [ed]; rfl
    simp only [Wx_var, Wx_con, Wx_glob, Wx_bin, Wx_neg, Wx_negI, Wx_not, Wx_cmp, Wx_and, Wx_or, Wx_ite, Wx_tup, Wx_lst, Wx_idx, Wx_slice, Wx_call, Wx_bi, Wx_isi, Wx_meth, Wx_nil, Wx_cons, Wx_onone, Wx_osome, Wx_cnone, Wx_csome, Wx_add, Wx_addT, Wx_sub, Wx_mul, Wx_fdiv, Wx_mod, Wx_tbl, Wx_tint, Wx_eqI, Wx_eqS, Wx_eqB, Wx_neI, Wx_ltI, Wx_leI, Wx_gtI, Wx_geI, Wx_idxT, atD_0, atD_1, atD_2, Wx_abs, Wx_intI, Wx_intB, Wx_cutT, Wx_srcT, Wx_range, Wx_ret, Wx_cond, List.getElem?_cons_zero, List.getElem?_cons_succ, List.length_cons, List.length_nil, List.set_cons_zero, List.set_cons_succ, decide_eq_true_eq, bne_iff_ne, Wx_turn, wipeD, Ws_nil, Ws_cons, Ws_asg, Ws_par, Ws_expr, Ws_ret, Ws_retn, Ws_pass, Ws_ite, asgD, setAll, isT, Bool.false_eq_true, if_false]
    refine ⟨by decide, ?_⟩
    refine ih f List.mem_cons_self st S _ _ hs (by omega) (by omega) fun S1 p1 => ?_
    simp only [Wx_var, Wx_con, Wx_glob, Wx_bin, Wx_neg, Wx_negI, Wx_not, Wx_cmp, Wx_and, Wx_or, Wx_ite, Wx_tup, Wx_lst, Wx_idx, Wx_slice, Wx_call, Wx_bi, Wx_isi, Wx_meth, Wx_nil, Wx_cons, Wx_onone, Wx_osome, Wx_cnone, Wx_csome, Wx_add, Wx_addT, Wx_sub, Wx_mul, Wx_fdiv, Wx_mod, Wx_tbl, Wx_tint, Wx_eqI, Wx_eqS, Wx_eqB, Wx_neI, Wx_ltI, Wx_leI, Wx_gtI, Wx_geI, Wx_idxT, atD_0, atD_1, atD_2, Wx_abs, Wx_intI, Wx_intB, Wx_cutT, Wx_srcT, Wx_range, Wx_ret, Wx_cond, List.getElem?_cons_zero, List.getElem?_cons_succ, List.length_cons, List.length_nil, List.set_cons_zero, List.set_cons_succ, decide_eq_true_eq, bne_iff_ne, Wx_turn, wipeD, Ws_nil, Ws_cons, Ws_asg, Ws_par, Ws_expr, Ws_ret, Ws_retn, Ws_pass, Ws_ite, asgD, setAll]
    refine w_mult w (f.val inp st).1 h.1 hv (by omega) ?_
    refine w_plus a _ ha (bd_mul h.1 hv) (by omega) ?_
    exact worth_rows hi r _ (k + (3 + 50 * f.sz) + 1) _ S1 _ _ _ (fun g hg => ih g (List.mem_cons_of_mem _ hg)) h.2.2 (bd_add ha (bd_mul h.1 hv)) (by omega) hs2 (by omega) (by omega) fun S' o7 o8 o9 p2 => hN S' o7 o8 o9 (p1.trans p2)
theorem set_pre {S0 S : Store} {r : Nat} {o : Ob} (h : S0 <+: S) (hr : S0.length ≤ r) : S0 <+: S.set r o := by
  obtain ⟨t, rfl⟩ := h
  rw [List.set_append_right _ _ hr]
  exact List.prefix_append _ _
def worthTop : ISs := match b__law_worth with
  | .cons _ (.cons (.ite _ (.cons _ (.cons (.for_ _ _ _ t) _)) _) _) => t
  | _ => .nil
def sg (g : Bool) (q : Rat) : Rat := if g then q else -q
theorem bd_sg {g : Bool} {k : Nat} {q : Rat} (h : Bd k q) : Bd k (sg g q) := by
  cases g with
  | true => exact h
  | false => exact bd_neg h
theorem worth_tops {n s : Nat} {inp : List Rat} {S0 Sb : Store} {g : Bool} {fs0 : Fs} {x2 x3 x4 x7 x11 x12 x13 : Option D} {r : Nat} (hr : Sb.length ≤ r) : ∀ (fs : Fs) (st : St) (l : List Rat) (S : Store) (o8 o9 : Option D), (∀ f ∈ fs.list, WorthAt (n + 2) s inp f) → StOk st → fs.ns ≤ st.1.length → fs.nh ≤ st.2.length → l.length + fs.list.length < line → Sb <+: S → S[r]? = some (.lst (l.map fr)) →
    (∀ S' o8 o9, Sb <+: S' → S'[r]? = some (.lst ((l ++ (fs.vals inp st).1.map (sg g)).map fr)) → N [some (F.top g fs0).d, some (iD inp), x2, x3, x4, some (cD (fs.vals inp st).2), some (bD (fs.vals inp st).2), x7, o8, o9, some (.ref r), x11, x12, x13] S') →
    Ws (forD S0 [] (.name 8) (denSs (run P (n + 2)) worthTop) fs.d [some (F.top g fs0).d, some (iD inp), x2, x3, x4, some (cD st), some (bD st), x7, o8, o9, some (.ref r), x11, x12, x13]) S N Q
  | .nil, st, l, S, o8, o9, ih, hs, h1, h2, hl, hb, he, hN => by
    unfold Fs.d
    rw [Ws_for_nil]
    refine ⟨keptNil, hN S o8 o9 hb ?_⟩
    show _ = some (Ob.lst ((l ++ []).map fr))
    rw [List.append_nil]
    exact he
  | .cons f r', st, l, S, o8, o9, ih, hs, h1, h2, hl, hb, he, hN => by
    unfold Fs.d
    rw [Ws_for_cons]
    refine ⟨keptNil, ?_⟩
    have n1 : (Fs.cons f r').ns = f.ns + r'.ns := rfl
    have n2 : (Fs.cons f r').nh = f.nh + r'.nh := rfl
    have hs2 : StOk (f.val inp st).2 := by rw [val_st]; exact hs.drop _ _
    have l1 : (f.val inp st).2.1.length = st.1.length - f.ns := by rw [val_st]; exact List.length_drop
    have l2 : (f.val inp st).2.2.length = st.2.length - f.nh := by rw [val_st]; exact List.length_drop
    have ll : (Fs.cons f r').list.length = r'.list.length + 1 := rfl
    simp only [asgD, List.set_cons_succ, List.set_cons_zero]
    unfold worthTop b__law_worth
    simp only [Wx_var, Wx_con, Wx_glob, Wx_bin, Wx_neg, Wx_negI, Wx_not, Wx_cmp, Wx_and, Wx_or, Wx_ite, Wx_tup, Wx_lst, Wx_idx, Wx_slice, Wx_call, Wx_bi, Wx_isi, Wx_meth, Wx_nil, Wx_cons, Wx_onone, Wx_osome, Wx_cnone, Wx_csome, Wx_add, Wx_addT, Wx_sub, Wx_mul, Wx_fdiv, Wx_mod, Wx_tbl, Wx_tint, Wx_eqI, Wx_eqS, Wx_eqB, Wx_neI, Wx_ltI, Wx_leI, Wx_gtI, Wx_geI, Wx_idxT, atD_0, atD_1, atD_2, Wx_abs, Wx_intI, Wx_intB, Wx_cutT, Wx_srcT, Wx_range, Wx_ret, Wx_cond, List.getElem?_cons_zero, List.getElem?_cons_succ, List.length_cons, List.length_nil, List.set_cons_zero, List.set_cons_succ, decide_eq_true_eq, bne_iff_ne, Wx_turn, wipeD, Ws_nil, Ws_cons, Ws_asg, Ws_par, Ws_expr, Ws_ret, Ws_retn, Ws_pass, Ws_ite, asgD, setAll]
    refine ih f List.mem_cons_self st S _ _ hs (by omega) (by omega) fun S1 p1 => ?_
    simp only [Wx_var, Wx_con, Wx_glob, Wx_bin, Wx_neg, Wx_negI, Wx_not, Wx_cmp, Wx_and, Wx_or, Wx_ite, Wx_tup, Wx_lst, Wx_idx, Wx_slice, Wx_call, Wx_bi, Wx_isi, Wx_meth, Wx_nil, Wx_cons, Wx_onone, Wx_osome, Wx_cnone, Wx_csome, Wx_add, Wx_addT, Wx_sub, Wx_mul, Wx_fdiv, Wx_mod, Wx_tbl, Wx_tint, Wx_eqI, Wx_eqS, Wx_eqB, Wx_neI, Wx_ltI, Wx_leI, Wx_gtI, Wx_geI, Wx_idxT, atD_0, atD_1, atD_2, Wx_abs, Wx_intI, Wx_intB, Wx_cutT, Wx_srcT, Wx_range, Wx_ret, Wx_cond, List.getElem?_cons_zero, List.getElem?_cons_succ, List.length_cons, List.length_nil, List.set_cons_zero, List.set_cons_succ, decide_eq_true_eq, bne_iff_ne, Wx_turn, wipeD, Ws_nil, Ws_cons, Ws_asg, Ws_par, Ws_expr, Ws_ret, Ws_retn, Ws_pass, Ws_ite, asgD, setAll]
    have he1 := get_app p1 he
    rw [Wx_ref he1]
    have tg : ∀ {Q : D → Store → Prop} {E : Ex}, Wx (idxD (F.top g fs0).d (.int 0)) S1 Q E = Q (.str (gtag g)) S1 := fun {Q E} => Wx_tag (f := F.top g fs0)
    simp only [tg, Wx_var, Wx_con, Wx_glob, Wx_bin, Wx_neg, Wx_negI, Wx_not, Wx_cmp, Wx_and, Wx_or, Wx_ite, Wx_tup, Wx_lst, Wx_idx, Wx_slice, Wx_call, Wx_bi, Wx_isi, Wx_meth, Wx_nil, Wx_cons, Wx_onone, Wx_osome, Wx_cnone, Wx_csome, Wx_add, Wx_addT, Wx_sub, Wx_mul, Wx_fdiv, Wx_mod, Wx_tbl, Wx_tint, Wx_eqI, Wx_eqS, Wx_eqB, Wx_neI, Wx_ltI, Wx_leI, Wx_gtI, Wx_geI, Wx_idxT, atD_0, atD_1, atD_2, Wx_abs, Wx_intI, Wx_intB, Wx_cutT, Wx_srcT, Wx_range, Wx_ret, Wx_cond, List.getElem?_cons_zero, List.getElem?_cons_succ, List.length_cons, List.length_nil, List.set_cons_zero, List.set_cons_succ, decide_eq_true_eq, bne_iff_ne, Wx_turn, wipeD, Ws_nil, Ws_cons, Ws_asg, Ws_par, Ws_expr, Ws_ret, Ws_retn, Ws_pass, Ws_ite, asgD, setAll, t19]
    have go : ∀ (v : Rat), v = sg g (f.val inp st).1 → Wx (meD .append (.ref r) [fr v]) S1 (fun _ S2 => Ws (forD S0 [] (.name 8) (denSs (run P (n + 2)) worthTop) r'.d [some (F.top g fs0).d, some (iD inp), x2, x3, x4, some (cD (f.val inp st).2), some (bD (f.val inp st).2), x7, some f.d, some (fr (f.val inp st).1), some (.ref r), x11, x12, x13]) S2 N Q) (fun c v S1 => False) := by
      intro v hv
      rw [Wx_append he1]
      refine ⟨by rw [List.length_map]; omega, ?_⟩
      have e2 : (l.map fr ++ [fr v]) = (l ++ [v]).map fr := by rw [List.map_append]; rfl
      rw [e2]
      refine worth_tops hr r' _ (l ++ [v]) _ _ _ (fun x hx => ih x (List.mem_cons_of_mem _ hx)) hs2 (by omega) (by omega) (by rw [List.length_append, List.length_singleton]; omega) (set_pre (hb.trans p1) hr) (get_set he1) fun S' o8 o9 p2 e3 => hN S' o8 o9 p2 ?_
      rw [e3, List.append_assoc, hv]
      rfl
    cases g with
    | true =>
      rw [if_pos rfl]
      exact (go _ rfl).mono (fun _ _ z => z) fun _ _ _ z => z.elim
    | false =>
      rw [if_neg Bool.false_ne_true]
      refine w_turn _ ?_
      exact (go _ rfl).mono (fun _ _ z => z) fun _ _ _ z => z.elim
end
end K03

set_option Elab.async false
set_option linter.all false
set_option maxRecDepth 100000
set_option maxHeartbeats 4000000
set_option autoImplicit false
/-! k03, the plain law: the law's own worth, whole. -/
namespace K03
open Ev
theorem sg_sg (g : Bool) (q : Rat) : sg g (sg g q) = q := by
  cases g with
  | true => rfl
  | false => exact Rat.neg_neg q
theorem best_sg {g : Bool} {l : List Rat} {m : Rat} (h : IsMax (l.map (sg g)) m) (hne : l ≠ []) : sg g m = best g l := by
  cases g with
  | true =>
    have e : l.map (sg true) = l := List.map_id' l
    rw [e] at h
    exact max_uniq h (best_max hne)
  | false => exact min_uniq (max_neg h) (best_min hne)
theorem Rs.ok_inner {s : Nat} : ∀ {rs : Rs} {f : F}, rs.ok s → f ∈ rs.inner → f.ok s
  | .leaf _ _ r, f, h, hf => Rs.ok_inner (rs := r) h.2.2 hf
  | .node _ g r, f, h, hf => by
    rcases List.mem_cons.mp hf with rfl | hf
    · exact h.2.1
    · exact Rs.ok_inner (rs := r) h.2.2 hf
theorem Fs.ok_list {s : Nat} : ∀ {rs : Fs} {f : F}, rs.ok s → f ∈ rs.list → f.ok s
  | .cons g r, f, h, hf => by
    rcases List.mem_cons.mp hf with rfl | hf
    · exact h.1
    · exact Fs.ok_list (rs := r) h.2 hf
theorem vals_len (inp : List Rat) : ∀ (fs : Fs) (st : St), (fs.vals inp st).1.length = fs.list.length
  | .nil, st => rfl
  | .cons f r, st => by
    show (r.vals inp _).1.length + 1 = r.list.length + 1
    rw [vals_len]
theorem w_worth {s : Nat} {inp : List Rat} (hi : In s inp) : ∀ (b : Nat) (f : F), f.sz ≤ b → b ≤ 300000 → f.ok s → ∀ n, f.dep + 8 ≤ n → WorthAt n s inp f := by
  intro b
  induction b with
  | zero => intro f h; cases f <;> exact absurd h (Nat.not_succ_le_zero _)
  | succ b ih =>
    intro f hb hb2 hok n hn st S Q E hs h1 h2 h
    obtain ⟨n, rfl⟩ : ∃ n', n = n' + 4 := ⟨n - 4, by omega⟩
    rw [r__law_worth, Wx_end]
    unfold b__law_worth
    cases f with
    | sum rs =>
      obtain ⟨cs, bs⟩ := st
      cases cs with
      | nil => exact absurd h1 (Nat.not_succ_le_zero _)
      | cons c cs =>
        have hdef : (F.sum rs).d = .tup [.str "sum", .tup rs.d] := rfl
        rw [hdef]
        rw [Ws_cons, Ws_ite]
        simp only [Wx_var, Wx_con, Wx_glob, Wx_bin, Wx_neg, Wx_negI, Wx_not, Wx_cmp, Wx_and, Wx_or, Wx_ite, Wx_tup, Wx_lst, Wx_idx, Wx_slice, Wx_call, Wx_bi, Wx_isi, Wx_meth, Wx_nil, Wx_cons, Wx_onone, Wx_osome, Wx_cnone, Wx_csome, Wx_add, Wx_addT, Wx_sub, Wx_mul, Wx_fdiv, Wx_mod, Wx_tbl, Wx_tint, Wx_eqI, Wx_eqS, Wx_eqB, Wx_neI, Wx_ltI, Wx_leI, Wx_gtI, Wx_geI, Wx_idxT, atD_0, atD_1, atD_2, Wx_abs, Wx_intI, Wx_intB, Wx_cutT, Wx_srcT, Wx_range, Wx_ret, Wx_cond, List.getElem?_cons_zero, List.getElem?_cons_succ, List.length_cons, List.length_nil, List.set_cons_zero, List.set_cons_succ, decide_eq_true_eq, bne_iff_ne, Wx_turn, wipeD, t1, if_true]
        simp only [Ws_cons, Ws_par, List.map_cons, Wx_var, Wx_con, Wx_glob, Wx_bin, Wx_neg, Wx_negI, Wx_not, Wx_cmp, Wx_and, Wx_or, Wx_ite, Wx_tup, Wx_lst, Wx_idx, Wx_slice, Wx_call, Wx_bi, Wx_isi, Wx_meth, Wx_nil, Wx_cons, Wx_onone, Wx_osome, Wx_cnone, Wx_csome, Wx_add, Wx_addT, Wx_sub, Wx_mul, Wx_fdiv, Wx_mod, Wx_tbl, Wx_tint, Wx_eqI, Wx_eqS, Wx_eqB, Wx_neI, Wx_ltI, Wx_leI, Wx_gtI, Wx_geI, Wx_idxT, atD_0, atD_1, atD_2, Wx_abs, Wx_intI, Wx_intB, Wx_cutT, Wx_srcT, Wx_range, Wx_ret, Wx_cond, List.getElem?_cons_zero, List.getElem?_cons_succ, List.length_cons, List.length_nil, List.set_cons_zero, List.set_cons_succ, decide_eq_true_eq, bne_iff_ne, Wx_turn, wipeD, setAll]
        rw [cut1]
        simp only [Ws_for, Wx_var, Wx_con, Wx_glob, Wx_bin, Wx_neg, Wx_negI, Wx_not, Wx_cmp, Wx_and, Wx_or, Wx_ite, Wx_tup, Wx_lst, Wx_idx, Wx_slice, Wx_call, Wx_bi, Wx_isi, Wx_meth, Wx_nil, Wx_cons, Wx_onone, Wx_osome, Wx_cnone, Wx_csome, Wx_add, Wx_addT, Wx_sub, Wx_mul, Wx_fdiv, Wx_mod, Wx_tbl, Wx_tint, Wx_eqI, Wx_eqS, Wx_eqB, Wx_neI, Wx_ltI, Wx_leI, Wx_gtI, Wx_geI, Wx_idxT, atD_0, atD_1, atD_2, Wx_abs, Wx_intI, Wx_intB, Wx_cutT, Wx_srcT, Wx_range, Wx_ret, Wx_cond, List.getElem?_cons_zero, List.getElem?_cons_succ, List.length_cons, List.length_nil, List.set_cons_zero, List.set_cons_succ, decide_eq_true_eq, bne_iff_ne, Wx_turn, wipeD]
        have hz : (F.sum rs).sz = rs.sz + 1 := rfl
        have hd : (F.sum rs).dep = rs.dep + 1 := rfl
        have e1 : (F.sum rs).ns = rs.ns + 1 := rfl
        have e2 : (F.sum rs).nh = rs.nh := rfl
        have hs' : StOk (cs, bs) := ⟨fun q hq => hs.1 q (List.mem_cons_of_mem _ hq), hs.2⟩
        have g1 : rs.ns ≤ cs.length := by
          have : (F.sum rs).ns ≤ cs.length + 1 := h1
          omega
        refine worth_rows (n := n + 1) hi rs c 40 (cs, bs) S none none none (fun g hg => ?_) hok (hs.1 c List.mem_cons_self) (by omega) hs' g1 h2 fun S' o7 o8 o9 p => ?_
        · have := (Rs.sz_inner (rs := rs)).2 g hg
          have := Rs.dep_inner hg
          exact ih g (by omega) (by omega) (Rs.ok_inner hok hg) (n + 1 + 2) (by omega)
        · simp only [Wx_var, Wx_con, Wx_glob, Wx_bin, Wx_neg, Wx_negI, Wx_not, Wx_cmp, Wx_and, Wx_or, Wx_ite, Wx_tup, Wx_lst, Wx_idx, Wx_slice, Wx_call, Wx_bi, Wx_isi, Wx_meth, Wx_nil, Wx_cons, Wx_onone, Wx_osome, Wx_cnone, Wx_csome, Wx_add, Wx_addT, Wx_sub, Wx_mul, Wx_fdiv, Wx_mod, Wx_tbl, Wx_tint, Wx_eqI, Wx_eqS, Wx_eqB, Wx_neI, Wx_ltI, Wx_leI, Wx_gtI, Wx_geI, Wx_idxT, atD_0, atD_1, atD_2, Wx_abs, Wx_intI, Wx_intB, Wx_cutT, Wx_srcT, Wx_range, Wx_ret, Wx_cond, List.getElem?_cons_zero, List.getElem?_cons_succ, List.length_cons, List.length_nil, List.set_cons_zero, List.set_cons_succ, decide_eq_true_eq, bne_iff_ne, Wx_turn, wipeD, Ws_nil, Ws_cons, Ws_asg, Ws_par, Ws_expr, Ws_ret, Ws_retn, Ws_pass, Ws_ite, asgD, setAll]
          exact ⟨by decide, h S' p⟩
    | top g fs =>
      have hz : (F.top g fs).sz = fs.sz + 1 := rfl
      have hd : (F.top g fs).dep = fs.dep + 1 := rfl
      have hne : (fs.vals inp st).1 ≠ [] := by
        intro z
        have := vals_len inp fs st
        rw [z] at this
        exact hok.1 (List.eq_nil_of_length_eq_zero this.symm)
      have tg : ∀ {S : Store} {Q : D → Store → Prop} {E : Ex}, Wx (idxD (F.top g fs).d (.int 0)) S Q E = Q (.str (gtag g)) S := fun {S Q E} => Wx_tag (f := F.top g fs)
      have ar : ∀ {S : Store} {Q : D → Store → Prop} {E : Ex}, Wx (idxD (F.top g fs).d (.int 1)) S Q E = Q (.tup fs.d) S := fun {S Q E} => by
        show Wx (idxD (.tup [.str (gtag g), .tup fs.d]) (.int 1)) S Q E = _
        rw [Wx_idxT, atD_1]
      rw [Ws_cons, Ws_ite]
      simp only [Wx_var, Wx_con, Wx_glob, Wx_bin, Wx_neg, Wx_negI, Wx_not, Wx_cmp, Wx_and, Wx_or, Wx_ite, Wx_tup, Wx_lst, Wx_idx, Wx_slice, Wx_call, Wx_bi, Wx_isi, Wx_meth, Wx_nil, Wx_cons, Wx_onone, Wx_osome, Wx_cnone, Wx_csome, Wx_add, Wx_addT, Wx_sub, Wx_mul, Wx_fdiv, Wx_mod, Wx_tbl, Wx_tint, Wx_eqI, Wx_eqS, Wx_eqB, Wx_neI, Wx_ltI, Wx_leI, Wx_gtI, Wx_geI, Wx_idxT, atD_0, atD_1, atD_2, Wx_abs, Wx_intI, Wx_intB, Wx_cutT, Wx_srcT, Wx_range, Wx_ret, Wx_cond, List.getElem?_cons_zero, List.getElem?_cons_succ, List.length_cons, List.length_nil, List.set_cons_zero, List.set_cons_succ, decide_eq_true_eq, bne_iff_ne, Wx_turn, wipeD, tg, t16, Bool.false_eq_true, if_false, Ws_nil]
      rw [Ws_cons, Ws_ite]
      simp only [Wx_var, Wx_con, Wx_glob, Wx_bin, Wx_neg, Wx_negI, Wx_not, Wx_cmp, Wx_and, Wx_or, Wx_ite, Wx_tup, Wx_lst, Wx_idx, Wx_slice, Wx_call, Wx_bi, Wx_isi, Wx_meth, Wx_nil, Wx_cons, Wx_onone, Wx_osome, Wx_cnone, Wx_csome, Wx_add, Wx_addT, Wx_sub, Wx_mul, Wx_fdiv, Wx_mod, Wx_tbl, Wx_tint, Wx_eqI, Wx_eqS, Wx_eqB, Wx_neI, Wx_ltI, Wx_leI, Wx_gtI, Wx_geI, Wx_idxT, atD_0, atD_1, atD_2, Wx_abs, Wx_intI, Wx_intB, Wx_cutT, Wx_srcT, Wx_range, Wx_ret, Wx_cond, List.getElem?_cons_zero, List.getElem?_cons_succ, List.length_cons, List.length_nil, List.set_cons_zero, List.set_cons_succ, decide_eq_true_eq, bne_iff_ne, Wx_turn, wipeD, tg]
      refine ⟨by decide, ?_⟩
      rw [Wx_inL get_last, Wx_in2, t20]
      simp only [Wx_tbl, if_true]
      simp only [Ws_cons, Ws_par, Wx_var, Wx_con, Wx_glob, Wx_bin, Wx_neg, Wx_negI, Wx_not, Wx_cmp, Wx_and, Wx_or, Wx_ite, Wx_tup, Wx_lst, Wx_idx, Wx_slice, Wx_call, Wx_bi, Wx_isi, Wx_meth, Wx_nil, Wx_cons, Wx_onone, Wx_osome, Wx_cnone, Wx_csome, Wx_add, Wx_addT, Wx_sub, Wx_mul, Wx_fdiv, Wx_mod, Wx_tbl, Wx_tint, Wx_eqI, Wx_eqS, Wx_eqB, Wx_neI, Wx_ltI, Wx_leI, Wx_gtI, Wx_geI, Wx_idxT, atD_0, atD_1, atD_2, Wx_abs, Wx_intI, Wx_intB, Wx_cutT, Wx_srcT, Wx_range, Wx_ret, Wx_cond, List.getElem?_cons_zero, List.getElem?_cons_succ, List.length_cons, List.length_nil, List.set_cons_zero, List.set_cons_succ, decide_eq_true_eq, bne_iff_ne, Wx_turn, wipeD, setAll]
      refine ⟨by decide, ?_⟩
      simp only [Ws_for, Wx_var, Wx_con, Wx_glob, Wx_bin, Wx_neg, Wx_negI, Wx_not, Wx_cmp, Wx_and, Wx_or, Wx_ite, Wx_tup, Wx_lst, Wx_idx, Wx_slice, Wx_call, Wx_bi, Wx_isi, Wx_meth, Wx_nil, Wx_cons, Wx_onone, Wx_osome, Wx_cnone, Wx_csome, Wx_add, Wx_addT, Wx_sub, Wx_mul, Wx_fdiv, Wx_mod, Wx_tbl, Wx_tint, Wx_eqI, Wx_eqS, Wx_eqB, Wx_neI, Wx_ltI, Wx_leI, Wx_gtI, Wx_geI, Wx_idxT, atD_0, atD_1, atD_2, Wx_abs, Wx_intI, Wx_intB, Wx_cutT, Wx_srcT, Wx_range, Wx_ret, Wx_cond, List.getElem?_cons_zero, List.getElem?_cons_succ, List.length_cons, List.length_nil, List.set_cons_zero, List.set_cons_succ, decide_eq_true_eq, bne_iff_ne, Wx_turn, wipeD, ar]
      have hsz := (Fs.sz_list (rs := fs))
      refine worth_tops (n := n + 1) (s := s) (Sb := S ++ [Ob.lst [D.str "greatest", D.str "least"]]) (Nat.le_refl _) fs st [] _ none none (fun f hf => ?_) hs h1 h2 ?_ (List.prefix_append _ _) get_last fun S' o8 o9 p e3 => ?_
      · have := hsz.2 f hf
        have := Fs.dep_list hf
        exact ih f (by omega) (by omega) (Fs.ok_list hok.2 hf) (n + 1 + 2) (by omega)
      · have := hsz.1
        show 0 + fs.list.length < line
        have : line = 16777216 := rfl
        omega
      · rw [List.nil_append] at e3
        have hv := vals_bd hi fs st hok.2 hs
        simp only [Ws_asg, Wx_var, Wx_con, Wx_glob, Wx_bin, Wx_neg, Wx_negI, Wx_not, Wx_cmp, Wx_and, Wx_or, Wx_ite, Wx_tup, Wx_lst, Wx_idx, Wx_slice, Wx_call, Wx_bi, Wx_isi, Wx_meth, Wx_nil, Wx_cons, Wx_onone, Wx_osome, Wx_cnone, Wx_csome, Wx_add, Wx_addT, Wx_sub, Wx_mul, Wx_fdiv, Wx_mod, Wx_tbl, Wx_tint, Wx_eqI, Wx_eqS, Wx_eqB, Wx_neI, Wx_ltI, Wx_leI, Wx_gtI, Wx_geI, Wx_idxT, atD_0, atD_1, atD_2, Wx_abs, Wx_intI, Wx_intB, Wx_cutT, Wx_srcT, Wx_range, Wx_ret, Wx_cond, List.getElem?_cons_zero, List.getElem?_cons_succ, List.length_cons, List.length_nil, List.set_cons_zero, List.set_cons_succ, decide_eq_true_eq, bne_iff_ne, Wx_turn, wipeD, asgD]
        refine w_ltop (n := n + 1) (K := 50 * fs.sz) e3 (by simpa using hne) (fun q hq => ?_) (by omega) fun m hm => ?_
        · obtain ⟨x, hx, rfl⟩ := List.mem_map.mp hq
          exact bd_sg (hv x hx)
        · have hb := best_sg hm hne
          simp only [Ws_ret, Wx_var, Wx_con, Wx_glob, Wx_bin, Wx_neg, Wx_negI, Wx_not, Wx_cmp, Wx_and, Wx_or, Wx_ite, Wx_tup, Wx_lst, Wx_idx, Wx_slice, Wx_call, Wx_bi, Wx_isi, Wx_meth, Wx_nil, Wx_cons, Wx_onone, Wx_osome, Wx_cnone, Wx_csome, Wx_add, Wx_addT, Wx_sub, Wx_mul, Wx_fdiv, Wx_mod, Wx_tbl, Wx_tint, Wx_eqI, Wx_eqS, Wx_eqB, Wx_neI, Wx_ltI, Wx_leI, Wx_gtI, Wx_geI, Wx_idxT, atD_0, atD_1, atD_2, Wx_abs, Wx_intI, Wx_intB, Wx_cutT, Wx_srcT, Wx_range, Wx_ret, Wx_cond, List.getElem?_cons_zero, List.getElem?_cons_succ, List.length_cons, List.length_nil, List.set_cons_zero, List.set_cons_succ, decide_eq_true_eq, bne_iff_ne, Wx_turn, wipeD, tg, t19]
          have pp : S <+: S' := (List.prefix_append _ _).trans p
          cases g with
          | true =>
            rw [if_pos rfl]
            refine ⟨by decide, ?_⟩
            have : m = best true (fs.vals inp st).1 := hb
            rw [this]
            exact h S' pp
          | false =>
            rw [if_neg Bool.false_ne_true]
            refine w_turn _ ⟨by decide, ?_⟩
            have : -m = best false (fs.vals inp st).1 := hb
            rw [this]
            exact h S' pp
    | size f =>
      have hz : (F.size f).sz = f.sz + 1 := rfl
      have hd : (F.size f).dep = f.dep + 1 := rfl
      have hdef : (F.size f).d = .tup [.str "size", f.d] := rfl
      rw [hdef]
      simp only [Wx_var, Wx_con, Wx_glob, Wx_bin, Wx_neg, Wx_negI, Wx_not, Wx_cmp, Wx_and, Wx_or, Wx_ite, Wx_tup, Wx_lst, Wx_idx, Wx_slice, Wx_call, Wx_bi, Wx_isi, Wx_meth, Wx_nil, Wx_cons, Wx_onone, Wx_osome, Wx_cnone, Wx_csome, Wx_add, Wx_addT, Wx_sub, Wx_mul, Wx_fdiv, Wx_mod, Wx_tbl, Wx_tint, Wx_eqI, Wx_eqS, Wx_eqB, Wx_neI, Wx_ltI, Wx_leI, Wx_gtI, Wx_geI, Wx_idxT, atD_0, atD_1, atD_2, Wx_abs, Wx_intI, Wx_intB, Wx_cutT, Wx_srcT, Wx_range, Wx_ret, Wx_cond, List.getElem?_cons_zero, List.getElem?_cons_succ, List.length_cons, List.length_nil, List.set_cons_zero, List.set_cons_succ, decide_eq_true_eq, bne_iff_ne, Wx_turn, wipeD, Ws_nil, Ws_cons, Ws_asg, Ws_par, Ws_expr, Ws_ret, Ws_retn, Ws_pass, Ws_ite, asgD, setAll, t6, t9, Bool.false_eq_true, if_false, if_true]
      refine ⟨by decide, ?_⟩
      rw [Wx_inL get_last]
      simp only [Wx_in2, t22, Wx_var, Wx_con, Wx_glob, Wx_bin, Wx_neg, Wx_negI, Wx_not, Wx_cmp, Wx_and, Wx_or, Wx_ite, Wx_tup, Wx_lst, Wx_idx, Wx_slice, Wx_call, Wx_bi, Wx_isi, Wx_meth, Wx_nil, Wx_cons, Wx_onone, Wx_osome, Wx_cnone, Wx_csome, Wx_add, Wx_addT, Wx_sub, Wx_mul, Wx_fdiv, Wx_mod, Wx_tbl, Wx_tint, Wx_eqI, Wx_eqS, Wx_eqB, Wx_neI, Wx_ltI, Wx_leI, Wx_gtI, Wx_geI, Wx_idxT, atD_0, atD_1, atD_2, Wx_abs, Wx_intI, Wx_intB, Wx_cutT, Wx_srcT, Wx_range, Wx_ret, Wx_cond, List.getElem?_cons_zero, List.getElem?_cons_succ, List.length_cons, List.length_nil, List.set_cons_zero, List.set_cons_succ, decide_eq_true_eq, bne_iff_ne, Wx_turn, wipeD, Ws_nil, Ws_cons, Ws_asg, Ws_par, Ws_expr, Ws_ret, Ws_retn, Ws_pass, Ws_ite, asgD, setAll, t9, Bool.false_eq_true, if_false, if_true]
      refine ih f (by omega) (by omega) hok (n + 3) (by omega) st _ _ _ hs h1 h2 fun S1 p1 => ?_
      simp only [Wx_var, Wx_con, Wx_glob, Wx_bin, Wx_neg, Wx_negI, Wx_not, Wx_cmp, Wx_and, Wx_or, Wx_ite, Wx_tup, Wx_lst, Wx_idx, Wx_slice, Wx_call, Wx_bi, Wx_isi, Wx_meth, Wx_nil, Wx_cons, Wx_onone, Wx_osome, Wx_cnone, Wx_csome, Wx_add, Wx_addT, Wx_sub, Wx_mul, Wx_fdiv, Wx_mod, Wx_tbl, Wx_tint, Wx_eqI, Wx_eqS, Wx_eqB, Wx_neI, Wx_ltI, Wx_leI, Wx_gtI, Wx_geI, Wx_idxT, atD_0, atD_1, atD_2, Wx_abs, Wx_intI, Wx_intB, Wx_cutT, Wx_srcT, Wx_range, Wx_ret, Wx_cond, List.getElem?_cons_zero, List.getElem?_cons_succ, List.length_cons, List.length_nil, List.set_cons_zero, List.set_cons_succ, decide_eq_true_eq, bne_iff_ne, Wx_turn, wipeD, Ws_nil, Ws_cons, Ws_asg, Ws_par, Ws_expr, Ws_ret, Ws_retn, Ws_pass, Ws_ite, asgD, setAll]
      refine w_labs _ ⟨by decide, h S1 ((List.prefix_append _ _).trans p1)⟩
    | held f =>
      obtain ⟨cs, bs⟩ := st
      cases bs with
      | nil => exact absurd h2 (Nat.not_succ_le_zero _)
      | cons p bs =>
        have hz : (F.held f).sz = f.sz + 1 := rfl
        have hd : (F.held f).dep = f.dep + 1 := rfl
        have hdef : (F.held f).d = .tup [.str "held", f.d] := rfl
        rw [hdef]
        simp only [Wx_var, Wx_con, Wx_glob, Wx_bin, Wx_neg, Wx_negI, Wx_not, Wx_cmp, Wx_and, Wx_or, Wx_ite, Wx_tup, Wx_lst, Wx_idx, Wx_slice, Wx_call, Wx_bi, Wx_isi, Wx_meth, Wx_nil, Wx_cons, Wx_onone, Wx_osome, Wx_cnone, Wx_csome, Wx_add, Wx_addT, Wx_sub, Wx_mul, Wx_fdiv, Wx_mod, Wx_tbl, Wx_tint, Wx_eqI, Wx_eqS, Wx_eqB, Wx_neI, Wx_ltI, Wx_leI, Wx_gtI, Wx_geI, Wx_idxT, atD_0, atD_1, atD_2, Wx_abs, Wx_intI, Wx_intB, Wx_cutT, Wx_srcT, Wx_range, Wx_ret, Wx_cond, List.getElem?_cons_zero, List.getElem?_cons_succ, List.length_cons, List.length_nil, List.set_cons_zero, List.set_cons_succ, decide_eq_true_eq, bne_iff_ne, Wx_turn, wipeD, Ws_nil, Ws_cons, Ws_asg, Ws_par, Ws_expr, Ws_ret, Ws_retn, Ws_pass, Ws_ite, asgD, setAll, t11, t14, Bool.false_eq_true, if_false, if_true, List.map_cons]
        refine ⟨by decide, ?_⟩
        rw [Wx_inL get_last]
        simp only [Wx_in2, t23, Wx_var, Wx_con, Wx_glob, Wx_bin, Wx_neg, Wx_negI, Wx_not, Wx_cmp, Wx_and, Wx_or, Wx_ite, Wx_tup, Wx_lst, Wx_idx, Wx_slice, Wx_call, Wx_bi, Wx_isi, Wx_meth, Wx_nil, Wx_cons, Wx_onone, Wx_osome, Wx_cnone, Wx_csome, Wx_add, Wx_addT, Wx_sub, Wx_mul, Wx_fdiv, Wx_mod, Wx_tbl, Wx_tint, Wx_eqI, Wx_eqS, Wx_eqB, Wx_neI, Wx_ltI, Wx_leI, Wx_gtI, Wx_geI, Wx_idxT, atD_0, atD_1, atD_2, Wx_abs, Wx_intI, Wx_intB, Wx_cutT, Wx_srcT, Wx_range, Wx_ret, Wx_cond, List.getElem?_cons_zero, List.getElem?_cons_succ, List.length_cons, List.length_nil, List.set_cons_zero, List.set_cons_succ, decide_eq_true_eq, bne_iff_ne, Wx_turn, wipeD, Ws_nil, Ws_cons, Ws_asg, Ws_par, Ws_expr, Ws_ret, Ws_retn, Ws_pass, Ws_ite, asgD, setAll, t14, Bool.false_eq_true, if_false, if_true]
        rw [cut1]
        have hs' : StOk (cs, bs) := ⟨hs.1, fun q hq => hs.2 q (List.mem_cons_of_mem _ hq)⟩
        have g2 : f.nh ≤ bs.length := by
          have : f.nh + 1 ≤ bs.length + 1 := h2
          omega
        have hp := hs.2 p List.mem_cons_self
        have hv := val_bd hi f (cs, bs) hok hs'
        refine ih f (by omega) (by omega) hok (n + 3) (by omega) (cs, bs) _ _ _ hs' h1 g2 fun S1 p1 => ?_
        simp only [List.map_cons, Wx_var, Wx_con, Wx_glob, Wx_bin, Wx_neg, Wx_negI, Wx_not, Wx_cmp, Wx_and, Wx_or, Wx_ite, Wx_tup, Wx_lst, Wx_idx, Wx_slice, Wx_call, Wx_bi, Wx_isi, Wx_meth, Wx_nil, Wx_cons, Wx_onone, Wx_osome, Wx_cnone, Wx_csome, Wx_add, Wx_addT, Wx_sub, Wx_mul, Wx_fdiv, Wx_mod, Wx_tbl, Wx_tint, Wx_eqI, Wx_eqS, Wx_eqB, Wx_neI, Wx_ltI, Wx_leI, Wx_gtI, Wx_geI, Wx_idxT, atD_0, atD_1, atD_2, Wx_abs, Wx_intI, Wx_intB, Wx_cutT, Wx_srcT, Wx_range, Wx_ret, Wx_cond, List.getElem?_cons_zero, List.getElem?_cons_succ, List.length_cons, List.length_nil, List.set_cons_zero, List.set_cons_succ, decide_eq_true_eq, bne_iff_ne, Wx_turn, wipeD, Ws_nil, Ws_cons, Ws_asg, Ws_par, Ws_expr, Ws_ret, Ws_retn, Ws_pass, Ws_ite, asgD, setAll]
        have pp : S <+: S1 := (List.prefix_append _ _).trans p1
        have hh := h S1 pp
        refine w_below _ _ hv hp.1 (by omega) ?_
        simp only [Wx_var, Wx_con, Wx_glob, Wx_bin, Wx_neg, Wx_negI, Wx_not, Wx_cmp, Wx_and, Wx_or, Wx_ite, Wx_tup, Wx_lst, Wx_idx, Wx_slice, Wx_call, Wx_bi, Wx_isi, Wx_meth, Wx_nil, Wx_cons, Wx_onone, Wx_osome, Wx_cnone, Wx_csome, Wx_add, Wx_addT, Wx_sub, Wx_mul, Wx_fdiv, Wx_mod, Wx_tbl, Wx_tint, Wx_eqI, Wx_eqS, Wx_eqB, Wx_neI, Wx_ltI, Wx_leI, Wx_gtI, Wx_geI, Wx_idxT, atD_0, atD_1, atD_2, Wx_abs, Wx_intI, Wx_intB, Wx_cutT, Wx_srcT, Wx_range, Wx_ret, Wx_cond, List.getElem?_cons_zero, List.getElem?_cons_succ, List.length_cons, List.length_nil, List.set_cons_zero, List.set_cons_succ, decide_eq_true_eq, bne_iff_ne, Wx_turn, wipeD, Ws_nil, Ws_cons, Ws_asg, Ws_par, Ws_expr, Ws_ret, Ws_retn, Ws_pass, Ws_ite, asgD, setAll]
        have hval : ((F.held f).val inp (cs, p :: bs)).1 = clamp p (f.val inp (cs, bs)).1 := rfl
        have hst : ((F.held f).val inp (cs, p :: bs)).2 = (f.val inp (cs, bs)).2 := rfl
        rw [hval, hst] at hh
        unfold clamp at hh
        by_cases c1 : (f.val inp (cs, bs)).1 < p.1
        · rw [if_pos c1] at hh ⊢
          exact ⟨by decide, hh⟩
        · rw [if_neg c1] at hh ⊢
          refine w_below _ _ hp.2.1 hv (by omega) ?_
          simp only [Wx_var, Wx_con, Wx_glob, Wx_bin, Wx_neg, Wx_negI, Wx_not, Wx_cmp, Wx_and, Wx_or, Wx_ite, Wx_tup, Wx_lst, Wx_idx, Wx_slice, Wx_call, Wx_bi, Wx_isi, Wx_meth, Wx_nil, Wx_cons, Wx_onone, Wx_osome, Wx_cnone, Wx_csome, Wx_add, Wx_addT, Wx_sub, Wx_mul, Wx_fdiv, Wx_mod, Wx_tbl, Wx_tint, Wx_eqI, Wx_eqS, Wx_eqB, Wx_neI, Wx_ltI, Wx_leI, Wx_gtI, Wx_geI, Wx_idxT, atD_0, atD_1, atD_2, Wx_abs, Wx_intI, Wx_intB, Wx_cutT, Wx_srcT, Wx_range, Wx_ret, Wx_cond, List.getElem?_cons_zero, List.getElem?_cons_succ, List.length_cons, List.length_nil, List.set_cons_zero, List.set_cons_succ, decide_eq_true_eq, bne_iff_ne, Wx_turn, wipeD, Ws_nil, Ws_cons, Ws_asg, Ws_par, Ws_expr, Ws_ret, Ws_retn, Ws_pass, Ws_ite, asgD, setAll]
          by_cases c2 : p.2 < (f.val inp (cs, bs)).1
          · rw [if_pos c2] at hh ⊢
            exact ⟨by decide, hh⟩
          · rw [if_neg c2] at hh ⊢
            exact ⟨by decide, hh⟩
end K03

set_option Elab.async false
set_option linter.all false
set_option maxRecDepth 100000
set_option maxHeartbeats 4000000
set_option autoImplicit false
/-! k03, the plain law: the module's value of a formula. -/
namespace K03
open Ev
def Rs.terms (inp : List Rat) : Rs → St → QK
  | .nil, _ => []
  | .leaf w i r, st => (w * inp.getD i 0, 43) :: r.terms inp st
  | .node w f r, st => (w * (f.val inp st).1, 3 + 50 * f.sz) :: r.terms inp (f.val inp st).2
theorem terms_acc (inp : List Rat) : ∀ (rs : Rs) (a : Rat) (st : St), (rs.acc inp a st).1 = a + sumQ ((rs.terms inp st).map (·.1))
  | .nil, a, st => (Rat.add_zero a).symm
  | .leaf w i r, a, st => by
    show (r.acc inp _ st).1 = a + (w * inp.getD i 0 + sumQ _)
    rw [terms_acc inp r, Rat.add_assoc]
  | .node w f r, a, st => by
    show (r.acc inp _ _).1 = a + (w * (f.val inp st).1 + sumQ _)
    rw [terms_acc inp r, Rat.add_assoc]
theorem terms_bits (inp : List Rat) : ∀ (rs : Rs) (st : St), bitsOf (rs.terms inp st) ≤ 1 + 50 * rs.sz ∧ (rs.terms inp st).length ≤ rs.sz
  | .nil, st => ⟨Nat.le_refl _, Nat.le_refl _⟩
  | .leaf w i r, st => by
    obtain ⟨h1, h2⟩ := terms_bits inp r st
    show (43 + 1) + bitsOf (r.terms inp st) ≤ 1 + 50 * (r.sz + 1) ∧ (r.terms inp st).length + 1 ≤ r.sz + 1
    omega
  | .node w f r, st => by
    obtain ⟨h1, h2⟩ := terms_bits inp r (f.val inp st).2
    show (3 + 50 * f.sz + 1) + bitsOf (r.terms inp _) ≤ 1 + 50 * (f.sz + r.sz + 1) ∧ (r.terms inp _).length + 1 ≤ f.sz + r.sz + 1
    omega
theorem terms_bd {s : Nat} {inp : List Rat} (hi : In s inp) : ∀ (rs : Rs) (st : St), rs.ok s → StOk st → ∀ p ∈ rs.terms inp st, Bd p.2 p.1
  | .nil, st, h, hs, p, hp => by cases hp
  | .leaf w i r, st, h, hs, p, hp => by
    have hx : Bd 40 (inp.getD i 0) := by
      rw [List.getD_eq_getElem?_getD]
      cases e : inp[i]? with
      | none => exact bd_zero (by decide)
      | some q => exact hi.bd q (List.mem_of_getElem? e)
    have hp : p ∈ (w * inp.getD i 0, 43) :: r.terms inp st := hp
    rcases List.mem_cons.mp hp with rfl | hp
    · exact bd_mul h.1 hx
    · exact terms_bd hi r st h.2.2 hs p hp
  | .node w f r, st, h, hs, p, hp => by
    have hs2 : StOk (f.val inp st).2 := by rw [val_st]; exact hs.drop _ _
    have hp : p ∈ (w * (f.val inp st).1, 3 + 50 * f.sz) :: r.terms inp (f.val inp st).2 := hp
    rcases List.mem_cons.mp hp with rfl | hp
    · exact bd_mul h.1 (val_bd hi f st h.2.1 hs)
    · exact terms_bd hi r _ h.2.2 hs2 p hp
def AtIs (S : Store) (t i j : Nat) : Prop := S[t]? = some (.lst [.int (i : Int), .int (j : Int)])
abbrev dr (c : St) (i j : Nat) : St := (c.1.drop i, c.2.drop j)
theorem val_dr (inp : List Rat) (f : F) (c : St) (i j : Nat) : (f.val inp (dr c i j)).2 = dr c (i + f.ns) (j + f.nh) := by
  rw [val_st]
  show ((c.1.drop i).drop f.ns, (c.2.drop j).drop f.nh) = _
  rw [List.drop_drop, List.drop_drop]
def NodeAt (n : Nat) (inp : List Rat) (c : St) (f : F) : Prop := ∀ (i j t : Nat) (S : Store) (Q : D → Store → Prop) (E : Ex), i + f.ns ≤ c.1.length → j + f.nh ≤ c.2.length → AtIs S t i j →
  (∀ S', Kp t S S' → AtIs S' t (i + f.ns) (j + f.nh) → Q (fr (f.val inp (dr c i j)).1) S') → Wx (run P n 13 [f.d, iD inp, cD c, bD c, .ref t]) S Q E
def nodeRow : ISs := match b_node_value with
  | .cons (.ite _ (.cons _ (.cons _ (.cons (.for_ _ _ _ t) _))) _) _ => t
  | _ => .nil
theorem AtIs.lt {S : Store} {t i j : Nat} (h : AtIs S t i j) : t < S.length := (List.getElem?_eq_some_iff.mp h).1
section
variable {N : Env → Store → Prop} {Q : Fl × Env → Store → Prop}
theorem node_rows {n s : Nat} {inp : List Rat} {c : St} {S0 Sb : Store} {t r : Nat} {x0 x9 x10 x11 x12 : Option D} (hi : In s inp) (hs : StOk c) (hrt : r ≠ t) (hr : Sb.length ≤ r) : ∀ (rs : Rs) (i j : Nat) (l : QK) (S : Store) (o6 o7 o8 : Option D), (∀ g ∈ rs.inner, NodeAt (n + 3) inp c g) → rs.ok s → i + rs.ns ≤ c.1.length → j + rs.nh ≤ c.2.length → rs.sz ≤ 300000 → l.length + rs.sz < line → AtIs S t i j → S[r]? = some (.lst (l.map fun q : Rat × Nat => fr q.1)) → Kp t Sb S →
    (∀ S' o6 o7 o8, Kp t Sb S' → AtIs S' t (i + rs.ns) (j + rs.nh) → S'[r]? = some (.lst ((l ++ rs.terms inp (dr c i j)).map fun q : Rat × Nat => fr q.1)) → N [x0, some (iD inp), some (cD c), some (bD c), some (.ref t), some (.ref r), o6, o7, o8, x9, x10, x11, x12] S') →
    Ws (forD S0 [] (.tup [6, 7]) (denSs (run P (n + 3)) nodeRow) rs.d [x0, some (iD inp), some (cD c), some (bD c), some (.ref t), some (.ref r), o6, o7, o8, x9, x10, x11, x12]) S N Q
  | .nil, i, j, l, S, o6, o7, o8, ih, h, h1, h2, hz, hl, ha, he, hk, hN => by
    unfold Rs.d
    rw [Ws_for_nil]
    refine ⟨keptNil, hN S o6 o7 o8 hk ha ?_⟩
    show _ = some (Ob.lst ((l ++ []).map _))
    rw [List.append_nil]
    exact he
  | .leaf w p r', i, j, l, S, o6, o7, o8, ih, h, h1, h2, hz, hl, ha, he, hk, hN => by
    unfold Rs.d
    rw [Ws_for_cons]
    refine ⟨keptNil, ?_⟩
    have hsz : (Rs.leaf w p r').sz = r'.sz + 1 := rfl
    have hlt : p < inp.length := by rw [hi.len]; exact h.2.1
    have e : atD (inp.map fr) (p : Int) = some (fr (inp.getD p 0)) := by
      refine atD_nat ?_
      rw [List.getElem?_map, List.getD_eq_getElem?_getD, List.getElem?_eq_getElem hlt]
      rfl
    have hx : Bd 40 (inp.getD p 0) := by
      rw [List.getD_eq_getElem?_getD, List.getElem?_eq_getElem hlt]
      exact hi.bd _ (List.getElem_mem hlt)
    simp only [asgD, setAll, List.set_cons_succ, List.set_cons_zero]
    unfold nodeRow b_node_value
    simp only [Wx_var, Wx_con, Wx_glob, Wx_bin, Wx_neg, Wx_negI, Wx_not, Wx_cmp, Wx_and, Wx_or, Wx_ite, Wx_tup, Wx_lst, Wx_idx, Wx_slice, Wx_call, Wx_bi, Wx_isi, Wx_meth, Wx_nil, Wx_cons, Wx_onone, Wx_osome, Wx_cnone, Wx_csome, Wx_add, Wx_addT, Wx_sub, Wx_mul, Wx_fdiv, Wx_mod, Wx_tbl, Wx_tint, Wx_eqI, Wx_eqS, Wx_eqB, Wx_neI, Wx_ltI, Wx_leI, Wx_gtI, Wx_geI, Wx_idxT, atD_0, atD_1, atD_2, Wx_abs, Wx_intI, Wx_intB, Wx_cutT, Wx_srcT, Wx_range, Wx_ret, Wx_cond, List.getElem?_cons_zero, List.getElem?_cons_succ, List.length_cons, List.length_nil, List.set_cons_zero, List.set_cons_succ, decide_eq_true_eq, bne_iff_ne, Wx_turn, wipeD, Ws_nil, Ws_cons, Ws_asg, Ws_par, Ws_expr, Ws_ret, Ws_retn, Ws_pass, Ws_ite, asgD, setAll, Wx_isTI, Bool.false_eq_true, if_false, e]
    rw [Wx_ref he]
    refine w_times w (inp.getD p 0) h.1 hx (by omega) ?_
    rw [Wx_append he]
    refine ⟨by rw [List.length_map]; omega, ?_⟩
    have e2 : (l.map (fun q : Rat × Nat => fr q.1) ++ [fr (w * inp.getD p 0)]) = (l ++ [(w * inp.getD p 0, 43)]).map fun q : Rat × Nat => fr q.1 := by rw [List.map_append]; rfl
    rw [e2]
    refine node_rows hi hs hrt hr r' i j (l ++ [(w * inp.getD p 0, 43)]) _ _ _ _ ih h.2.2 h1 h2 (by omega) (by rw [List.length_append, List.length_singleton]; omega) ?_ (get_set he) (hk.setR hr) fun S' o6 o7 o8 k2 a2 e3 => hN S' o6 o7 o8 k2 a2 ?_
    · show (S.set r _)[t]? = _
      rw [List.getElem?_set_ne hrt]
      exact ha
    · rw [e3, List.append_assoc]
      rfl
  | .node w f r', i, j, l, S, o6, o7, o8, ih, h, h1, h2, hz, hl, ha, he, hk, hN => by
    unfold Rs.d
    rw [Ws_for_cons]
    refine ⟨keptNil, ?_⟩
    have hsz : (Rs.node w f r').sz = f.sz + r'.sz + 1 := rfl
    have n1 : (Rs.node w f r').ns = f.ns + r'.ns := rfl
    have n2 : (Rs.node w f r').nh = f.nh + r'.nh := rfl
    obtain ⟨ds, ed⟩ := f.d_tup
    have isT : ∀ (S : Store) (Q : Bool → Store → Prop) (E : Ex), Wx (isinstD [.tuple] f.d) S Q E = Q true S := fun S Q E => by rw [ed]; rfl
    have hv := val_bd hi f (dr c i j) h.2.1 (hs.drop i j)
    simp only [asgD, setAll, List.set_cons_succ, List.set_cons_zero]
    unfold nodeRow b_node_value
    simp only [Wx_var, Wx_con, Wx_glob, Wx_bin, Wx_neg, Wx_negI, Wx_not, Wx_cmp, Wx_and, Wx_or, Wx_ite, Wx_tup, Wx_lst, Wx_idx, Wx_slice, Wx_call, Wx_bi, Wx_isi, Wx_meth, Wx_nil, Wx_cons, Wx_onone, Wx_osome, Wx_cnone, Wx_csome, Wx_add, Wx_addT, Wx_sub, Wx_mul, Wx_fdiv, Wx_mod, Wx_tbl, Wx_tint, Wx_eqI, Wx_eqS, Wx_eqB, Wx_neI, Wx_ltI, Wx_leI, Wx_gtI, Wx_geI, Wx_idxT, atD_0, atD_1, atD_2, Wx_abs, Wx_intI, Wx_intB, Wx_cutT, Wx_srcT, Wx_range, Wx_ret, Wx_cond, List.getElem?_cons_zero, List.getElem?_cons_succ, List.length_cons, List.length_nil, List.set_cons_zero, List.set_cons_succ, decide_eq_true_eq, bne_iff_ne, Wx_turn, wipeD, Ws_nil, Ws_cons, Ws_asg, Ws_par, Ws_expr, Ws_ret, Ws_retn, Ws_pass, Ws_ite, asgD, setAll, isT, if_true]
    refine ih f List.mem_cons_self i j t S _ _ (by omega) (by omega) ha fun S1 k1 a1 => ?_
    have he1 := k1.get he hrt
    rw [Wx_ref he1]
    refine w_times w _ h.1 hv (by omega) ?_
    rw [Wx_append he1]
    refine ⟨by rw [List.length_map]; omega, ?_⟩
    have e2 : (l.map (fun q : Rat × Nat => fr q.1) ++ [fr (w * (f.val inp (dr c i j)).1)]) = (l ++ [(w * (f.val inp (dr c i j)).1, 3 + 50 * f.sz)]).map fun q : Rat × Nat => fr q.1 := by rw [List.map_append]; rfl
    rw [e2]
    refine node_rows hi hs hrt hr r' (i + f.ns) (j + f.nh) (l ++ [(w * (f.val inp (dr c i j)).1, 3 + 50 * f.sz)]) _ _ _ _ (fun g hg => ih g (List.mem_cons_of_mem _ hg)) h.2.2 (by omega) (by omega) (by omega) (by rw [List.length_append, List.length_singleton]; omega) ?_ (get_set he1) ((hk.trans k1).setR hr) fun S' o6 o7 o8 k2 a2 e3 => hN S' o6 o7 o8 k2 ?_ ?_
    · show (S1.set r _)[t]? = _
      rw [List.getElem?_set_ne hrt]
      exact a1
    · rw [n1, n2, ← Nat.add_assoc, ← Nat.add_assoc]
      exact a2
    · rw [e3, List.append_assoc]
      show _ = some (Ob.lst ((l ++ ((w * (f.val inp (dr c i j)).1, 3 + 50 * f.sz) :: r'.terms inp (f.val inp (dr c i j)).2)).map _))
      rw [val_dr]
      rfl
end
end K03

set_option Elab.async false
set_option linter.all false
set_option maxRecDepth 100000
set_option maxHeartbeats 4000000
set_option autoImplicit false
/-! k03, the plain law: the module's value of a formula, whole. -/
namespace K03
open Ev
section
variable {S : Store} {Q : D → Store → Prop} {E : Ex}
theorem w_held {n : Nat} (v lo hi : Rat) {k : Nat} (hv : Bd k v) (h1 : Bd 40 lo) (h2 : Bd 40 hi) (hk : k < 90000000) (h : Q (fr (clamp (lo, hi) v)) S) : Wx (run P (n + 2) 12 [fr v, fr lo, fr hi]) S Q E := by
  rw [r_held_within, Wx_end]
  unfold b_held_within
  unfold clamp at h
  simp only [Wx_var, Wx_con, Wx_glob, Wx_bin, Wx_neg, Wx_negI, Wx_not, Wx_cmp, Wx_and, Wx_or, Wx_ite, Wx_tup, Wx_lst, Wx_idx, Wx_slice, Wx_call, Wx_bi, Wx_isi, Wx_meth, Wx_nil, Wx_cons, Wx_onone, Wx_osome, Wx_cnone, Wx_csome, Wx_add, Wx_addT, Wx_sub, Wx_mul, Wx_fdiv, Wx_mod, Wx_tbl, Wx_tint, Wx_eqI, Wx_eqS, Wx_eqB, Wx_neI, Wx_ltI, Wx_leI, Wx_gtI, Wx_geI, Wx_idxT, atD_0, atD_1, atD_2, Wx_abs, Wx_intI, Wx_intB, Wx_cutT, Wx_srcT, Wx_range, Wx_ret, Wx_cond, List.getElem?_cons_zero, List.getElem?_cons_succ, List.length_cons, List.length_nil, List.set_cons_zero, List.set_cons_succ, decide_eq_true_eq, bne_iff_ne, Wx_turn, wipeD, Ws_nil, Ws_cons, Ws_asg, Ws_par, Ws_expr, Ws_ret, Ws_retn, Ws_pass, Ws_ite, asgD, setAll]
  refine w_compared v lo hv h1 (by omega) ?_
  simp only [Wx_var, Wx_con, Wx_glob, Wx_bin, Wx_neg, Wx_negI, Wx_not, Wx_cmp, Wx_and, Wx_or, Wx_ite, Wx_tup, Wx_lst, Wx_idx, Wx_slice, Wx_call, Wx_bi, Wx_isi, Wx_meth, Wx_nil, Wx_cons, Wx_onone, Wx_osome, Wx_cnone, Wx_csome, Wx_add, Wx_addT, Wx_sub, Wx_mul, Wx_fdiv, Wx_mod, Wx_tbl, Wx_tint, Wx_eqI, Wx_eqS, Wx_eqB, Wx_neI, Wx_ltI, Wx_leI, Wx_gtI, Wx_geI, Wx_idxT, atD_0, atD_1, atD_2, Wx_abs, Wx_intI, Wx_intB, Wx_cutT, Wx_srcT, Wx_range, Wx_ret, Wx_cond, List.getElem?_cons_zero, List.getElem?_cons_succ, List.length_cons, List.length_nil, List.set_cons_zero, List.set_cons_succ, decide_eq_true_eq, bne_iff_ne, Wx_turn, wipeD, Ws_nil, Ws_cons, Ws_asg, Ws_par, Ws_expr, Ws_ret, Ws_retn, Ws_pass, Ws_ite, asgD, setAll, cmpr_neg]
  by_cases c : v < lo
  · rw [if_pos c] at h ⊢
    exact h
  · rw [if_neg c] at h ⊢
    refine w_compared v hi hv h2 (by omega) ?_
    simp only [Wx_var, Wx_con, Wx_glob, Wx_bin, Wx_neg, Wx_negI, Wx_not, Wx_cmp, Wx_and, Wx_or, Wx_ite, Wx_tup, Wx_lst, Wx_idx, Wx_slice, Wx_call, Wx_bi, Wx_isi, Wx_meth, Wx_nil, Wx_cons, Wx_onone, Wx_osome, Wx_cnone, Wx_csome, Wx_add, Wx_addT, Wx_sub, Wx_mul, Wx_fdiv, Wx_mod, Wx_tbl, Wx_tint, Wx_eqI, Wx_eqS, Wx_eqB, Wx_neI, Wx_ltI, Wx_leI, Wx_gtI, Wx_geI, Wx_idxT, atD_0, atD_1, atD_2, Wx_abs, Wx_intI, Wx_intB, Wx_cutT, Wx_srcT, Wx_range, Wx_ret, Wx_cond, List.getElem?_cons_zero, List.getElem?_cons_succ, List.length_cons, List.length_nil, List.set_cons_zero, List.set_cons_succ, decide_eq_true_eq, bne_iff_ne, Wx_turn, wipeD, Ws_nil, Ws_cons, Ws_asg, Ws_par, Ws_expr, Ws_ret, Ws_retn, Ws_pass, Ws_ite, asgD, setAll, cmpr_pos]
    by_cases c2 : hi < v
    · rw [if_pos c2] at h ⊢
      exact h
    · rw [if_neg c2] at h ⊢
      exact h
theorem Wx_augI {a b : Int} {Q : D → Store → Prop} : Wx (augD .add (.int a) (.int b)) S Q E = Q (.int (a + b)) S := Wx_add
theorem at_0 {t i j : Nat} (ha : AtIs S t i j) {Q : D → Store → Prop} : Wx (idxD (.ref t) (.int 0)) S Q E = Q (.int (i : Int)) S := by
  rw [Wx_idxL (seq_lst ha), atD_0]
theorem at_1 {t i j : Nat} (ha : AtIs S t i j) {Q : D → Store → Prop} : Wx (idxD (.ref t) (.int 1)) S Q E = Q (.int (j : Int)) S := by
  rw [Wx_idxL (seq_lst ha), atD_1]
theorem AtIs.set0 {t i j : Nat} (ha : AtIs S t i j) : AtIs (S.set t (.lst [.int ((i : Int) + 1), .int (j : Int)])) t (i + 1) j := get_set ha
theorem AtIs.set1 {t i j : Nat} (ha : AtIs S t i j) : AtIs (S.set t (.lst [.int (i : Int), .int ((j : Int) + 1)])) t i (j + 1) := get_set ha
theorem AtIs.app {t i j : Nat} {o : Ob} (ha : AtIs S t i j) : AtIs (S ++ [o]) t i j := get_app (List.prefix_append _ _) ha
end
theorem w_tops {n : Nat} {inp : List Rat} {c : St} {S0 : Store} {t : Nat} {x0 x5 x6 x7 x8 x9 x10 x11 x12 : Option D} : ∀ (fs : Fs) (i j : Nat) (S : Store) (Q : List D → Store → Prop) (E : Ex), (∀ f ∈ fs.list, NodeAt n inp c f) → i + fs.ns ≤ c.1.length → j + fs.nh ≤ c.2.length → AtIs S t i j →
    (∀ S', Kp t S S' → AtIs S' t (i + fs.ns) (j + fs.nh) → Q ((fs.vals inp (dr c i j)).1.map fr) S') →
    Wx (eachD S0 [] (turnC (.name 12) [12] [x0, some (iD inp), some (cD c), some (bD c), some (.ref t), x5, x6, x7, x8, x9, x10, x11, x12] (denC (run P n) .none) (denE (run P n) (.call 13 (.cons (.var 12) (.cons (.var 1) (.cons (.var 2) (.cons (.var 3) (.cons (.var 4) .nil)))))))) fs.d) S Q E
  | .nil, i, j, S, Q, E, ih, h1, h2, ha, h => by
    unfold Fs.d
    rw [Wx_each_nil]
    exact ⟨keptNil, h S Kp.refl ha⟩
  | .cons f r, i, j, S, Q, E, ih, h1, h2, ha, h => by
    unfold Fs.d
    rw [Wx_each_cons]
    refine ⟨keptNil, ?_⟩
    have n1 : (Fs.cons f r).ns = f.ns + r.ns := rfl
    have n2 : (Fs.cons f r).nh = f.nh + r.nh := rfl
    simp only [Wx_var, Wx_con, Wx_glob, Wx_bin, Wx_neg, Wx_negI, Wx_not, Wx_cmp, Wx_and, Wx_or, Wx_ite, Wx_tup, Wx_lst, Wx_idx, Wx_slice, Wx_call, Wx_bi, Wx_isi, Wx_meth, Wx_nil, Wx_cons, Wx_onone, Wx_osome, Wx_cnone, Wx_csome, Wx_add, Wx_addT, Wx_sub, Wx_mul, Wx_fdiv, Wx_mod, Wx_tbl, Wx_tint, Wx_eqI, Wx_eqS, Wx_eqB, Wx_neI, Wx_ltI, Wx_leI, Wx_gtI, Wx_geI, Wx_idxT, atD_0, atD_1, atD_2, Wx_abs, Wx_intI, Wx_intB, Wx_cutT, Wx_srcT, Wx_range, Wx_ret, Wx_cond, List.getElem?_cons_zero, List.getElem?_cons_succ, List.length_cons, List.length_nil, List.set_cons_zero, List.set_cons_succ, decide_eq_true_eq, bne_iff_ne, Wx_turn, wipeD, Ws_nil, Ws_cons, Ws_asg, Ws_par, Ws_expr, Ws_ret, Ws_retn, Ws_pass, Ws_ite, asgD, setAll, if_true]
    refine ih f List.mem_cons_self i j t S _ _ (by omega) (by omega) ha fun S1 k1 a1 => ?_
    refine w_tops r (i + f.ns) (j + f.nh) S1 _ _ (fun x hx => ih x (List.mem_cons_of_mem _ hx)) (by omega) (by omega) a1 fun S2 k2 a2 => ?_
    have := h S2 (k1.trans k2) (by rw [n1, n2, ← Nat.add_assoc, ← Nat.add_assoc]; exact a2)
    rw [← val_dr inp f c i j]
    exact this
theorem headD_drop {α : Type} (l : List α) (i : Nat) (d : α) (h : i < l.length) : l[i]? = some ((l.drop i).headD d) := by
  rw [List.getElem?_eq_getElem h, List.drop_eq_getElem_cons h]
  rfl
theorem w_node {s : Nat} {inp : List Rat} {c : St} (hi : In s inp) (hs : StOk c) : ∀ (b : Nat) (f : F), f.sz ≤ b → b ≤ 300000 → f.ok s → ∀ n, f.dep + 8 ≤ n → NodeAt n inp c f := by
  intro b
  induction b with
  | zero => intro f h; cases f <;> exact absurd h (Nat.not_succ_le_zero _)
  | succ b ih =>
    intro f hb hb2 hok n hn i j t S Q E h1 h2 ha h
    obtain ⟨n, rfl⟩ : ∃ n', n = n' + 4 := ⟨n - 4, by omega⟩
    rw [r_node_value, Wx_end]
    unfold b_node_value
    cases f with
    | sum rs =>
      have hdef : (F.sum rs).d = .tup [.str "sum", .tup rs.d] := rfl
      have hz : (F.sum rs).sz = rs.sz + 1 := rfl
      have hd : (F.sum rs).dep = rs.dep + 1 := rfl
      have e1 : (F.sum rs).ns = rs.ns + 1 := rfl
      have e2 : (F.sum rs).nh = rs.nh := rfl
      have hlt : i < c.1.length := by omega
      rw [hdef]
      rw [Ws_cons, Ws_ite]
      simp only [Wx_var, Wx_con, Wx_glob, Wx_bin, Wx_neg, Wx_negI, Wx_not, Wx_cmp, Wx_and, Wx_or, Wx_ite, Wx_tup, Wx_lst, Wx_idx, Wx_slice, Wx_call, Wx_bi, Wx_isi, Wx_meth, Wx_nil, Wx_cons, Wx_onone, Wx_osome, Wx_cnone, Wx_csome, Wx_add, Wx_addT, Wx_sub, Wx_mul, Wx_fdiv, Wx_mod, Wx_tbl, Wx_tint, Wx_eqI, Wx_eqS, Wx_eqB, Wx_neI, Wx_ltI, Wx_leI, Wx_gtI, Wx_geI, Wx_idxT, atD_0, atD_1, atD_2, Wx_abs, Wx_intI, Wx_intB, Wx_cutT, Wx_srcT, Wx_range, Wx_ret, Wx_cond, List.getElem?_cons_zero, List.getElem?_cons_succ, List.length_cons, List.length_nil, List.set_cons_zero, List.set_cons_succ, decide_eq_true_eq, bne_iff_ne, Wx_turn, wipeD, t1, if_true]
      simp only [Ws_cons, Ws_asg, Wx_var, Wx_con, Wx_glob, Wx_bin, Wx_neg, Wx_negI, Wx_not, Wx_cmp, Wx_and, Wx_or, Wx_ite, Wx_tup, Wx_lst, Wx_idx, Wx_slice, Wx_call, Wx_bi, Wx_isi, Wx_meth, Wx_nil, Wx_cons, Wx_onone, Wx_osome, Wx_cnone, Wx_csome, Wx_add, Wx_addT, Wx_sub, Wx_mul, Wx_fdiv, Wx_mod, Wx_tbl, Wx_tint, Wx_eqI, Wx_eqS, Wx_eqB, Wx_neI, Wx_ltI, Wx_leI, Wx_gtI, Wx_geI, Wx_idxT, atD_0, atD_1, atD_2, Wx_abs, Wx_intI, Wx_intB, Wx_cutT, Wx_srcT, Wx_range, Wx_ret, Wx_cond, List.getElem?_cons_zero, List.getElem?_cons_succ, List.length_cons, List.length_nil, List.set_cons_zero, List.set_cons_succ, decide_eq_true_eq, bne_iff_ne, Wx_turn, wipeD]
      rw [at_0 ha]
      have e3 : atD (c.1.map fr) (i : Int) = some (fr ((c.1.drop i).headD 0)) := by
        refine atD_nat ?_
        rw [List.getElem?_map, headD_drop c.1 i 0 hlt]
        rfl
      simp only [Wx_var, Wx_con, Wx_glob, Wx_bin, Wx_neg, Wx_negI, Wx_not, Wx_cmp, Wx_and, Wx_or, Wx_ite, Wx_tup, Wx_lst, Wx_idx, Wx_slice, Wx_call, Wx_bi, Wx_isi, Wx_meth, Wx_nil, Wx_cons, Wx_onone, Wx_osome, Wx_cnone, Wx_csome, Wx_add, Wx_addT, Wx_sub, Wx_mul, Wx_fdiv, Wx_mod, Wx_tbl, Wx_tint, Wx_eqI, Wx_eqS, Wx_eqB, Wx_neI, Wx_ltI, Wx_leI, Wx_gtI, Wx_geI, Wx_idxT, atD_0, atD_1, atD_2, Wx_abs, Wx_intI, Wx_intB, Wx_cutT, Wx_srcT, Wx_range, Wx_ret, Wx_cond, List.getElem?_cons_zero, List.getElem?_cons_succ, List.length_cons, List.length_nil, List.set_cons_zero, List.set_cons_succ, decide_eq_true_eq, bne_iff_ne, Wx_turn, wipeD, e3, asgD]
      have ha2 := ha.app (o := Ob.lst [fr ((c.1.drop i).headD 0)])
      have ha3 := ha2.set0
      simp only [Ws_augix, Wx_bind, Wx_var, Wx_con, Wx_glob, Wx_bin, Wx_neg, Wx_negI, Wx_not, Wx_cmp, Wx_and, Wx_or, Wx_ite, Wx_tup, Wx_lst, Wx_idx, Wx_slice, Wx_call, Wx_bi, Wx_isi, Wx_meth, Wx_nil, Wx_cons, Wx_onone, Wx_osome, Wx_cnone, Wx_csome, Wx_add, Wx_addT, Wx_sub, Wx_mul, Wx_fdiv, Wx_mod, Wx_tbl, Wx_tint, Wx_eqI, Wx_eqS, Wx_eqB, Wx_neI, Wx_ltI, Wx_leI, Wx_gtI, Wx_geI, Wx_idxT, atD_0, atD_1, atD_2, Wx_abs, Wx_intI, Wx_intB, Wx_cutT, Wx_srcT, Wx_range, Wx_ret, Wx_cond, List.getElem?_cons_zero, List.getElem?_cons_succ, List.length_cons, List.length_nil, List.set_cons_zero, List.set_cons_succ, decide_eq_true_eq, bne_iff_ne, Wx_turn, wipeD]
      rw [Wx_ref ha2]
      rw [at_0 ha2]
      rw [Wx_augI, Wx_set ha2 (j := 0) rfl]
      simp only [Ws_for, Wx_var, Wx_con, Wx_glob, Wx_bin, Wx_neg, Wx_negI, Wx_not, Wx_cmp, Wx_and, Wx_or, Wx_ite, Wx_tup, Wx_lst, Wx_idx, Wx_slice, Wx_call, Wx_bi, Wx_isi, Wx_meth, Wx_nil, Wx_cons, Wx_onone, Wx_osome, Wx_cnone, Wx_csome, Wx_add, Wx_addT, Wx_sub, Wx_mul, Wx_fdiv, Wx_mod, Wx_tbl, Wx_tint, Wx_eqI, Wx_eqS, Wx_eqB, Wx_neI, Wx_ltI, Wx_leI, Wx_gtI, Wx_geI, Wx_idxT, atD_0, atD_1, atD_2, Wx_abs, Wx_intI, Wx_intB, Wx_cutT, Wx_srcT, Wx_range, Wx_ret, Wx_cond, List.getElem?_cons_zero, List.getElem?_cons_succ, List.length_cons, List.length_nil, List.set_cons_zero, List.set_cons_succ, decide_eq_true_eq, bne_iff_ne, Wx_turn, wipeD]
      have hc0 : Bd 40 ((c.1.drop i).headD 0) := by
        have := headD_drop c.1 i 0 hlt
        exact hs.1 _ (List.mem_of_getElem? this)
      have kp0 : Kp t S (S ++ [Ob.lst [fr ((c.1.drop i).headD 0)]]) := Kp.app
      have g9 : (S ++ [Ob.lst [fr ((c.1.drop i).headD 0)]])[S.length]? = some (Ob.lst [fr ((c.1.drop i).headD 0)]) := get_last
      have hrt : S.length ≠ t := Nat.ne_of_gt ha.lt
      refine ⟨by decide, ?_⟩
      refine node_rows (n := n) (r := S.length) (Sb := S) hi hs hrt (Nat.le_refl _) rs (i + 1) j [((c.1.drop i).headD 0, 40)] _ _ _ _ (fun g hg => ?_) hok (by omega) (by omega) (by omega) (by show 1 + rs.sz < line; unfold line; omega) ha3 ?_ (kp0.trans Kp.set) fun S' o6 o7 o8 k2 a2 e4 => ?_
      · have := (Rs.sz_inner (rs := rs)).2 g hg
        have := Rs.dep_inner hg
        exact ih g (by omega) (by omega) (Rs.ok_inner hok hg) (n + 3) (by omega)
      · rw [List.getElem?_set_ne hrt.symm]
        exact g9
      · have hb3 := terms_bits inp rs (dr c (i + 1) j)
        have q : ((F.sum rs).val inp (dr c i j)).1 = sumQ ((((c.1.drop i).headD 0, 40) :: rs.terms inp (dr c (i + 1) j)).map (·.1)) := by
          show (rs.acc inp ((c.1.drop i).headD 0) ((c.1.drop i).tail, c.2.drop j)).1 = _
          rw [terms_acc, List.tail_drop]
          rfl
        simp only [Wx_var, Wx_con, Wx_glob, Wx_bin, Wx_neg, Wx_negI, Wx_not, Wx_cmp, Wx_and, Wx_or, Wx_ite, Wx_tup, Wx_lst, Wx_idx, Wx_slice, Wx_call, Wx_bi, Wx_isi, Wx_meth, Wx_nil, Wx_cons, Wx_onone, Wx_osome, Wx_cnone, Wx_csome, Wx_add, Wx_addT, Wx_sub, Wx_mul, Wx_fdiv, Wx_mod, Wx_tbl, Wx_tint, Wx_eqI, Wx_eqS, Wx_eqB, Wx_neI, Wx_ltI, Wx_leI, Wx_gtI, Wx_geI, Wx_idxT, atD_0, atD_1, atD_2, Wx_abs, Wx_intI, Wx_intB, Wx_cutT, Wx_srcT, Wx_range, Wx_ret, Wx_cond, List.getElem?_cons_zero, List.getElem?_cons_succ, List.length_cons, List.length_nil, List.set_cons_zero, List.set_cons_succ, decide_eq_true_eq, bne_iff_ne, Wx_turn, wipeD, Ws_nil, Ws_cons, Ws_asg, Ws_par, Ws_expr, Ws_ret, Ws_retn, Ws_pass, Ws_ite, asgD, setAll]
        refine w_sum (n := n) (qs := ((c.1.drop i).headD 0, 40) :: rs.terms inp (dr c (i + 1) j)) e4 (fun p hp => ?_) ?_ ?_
        · rcases List.mem_cons.mp hp with rfl | hp
          · exact hc0
          · exact terms_bd hi rs _ hok (hs.drop _ _) p hp
        · show (40 + 1) + bitsOf (rs.terms inp _) < 50000000
          omega
        · rw [← q]
          refine h S' k2 ?_
          rw [e1, e2, Nat.add_comm rs.ns 1, ← Nat.add_assoc]
          exact a2
    | top g fs =>
      have hz : (F.top g fs).sz = fs.sz + 1 := rfl
      have hd : (F.top g fs).dep = fs.dep + 1 := rfl
      have hne : (fs.vals inp (dr c i j)).1 ≠ [] := by
        intro z
        have := vals_len inp fs (dr c i j)
        rw [z] at this
        exact hok.1 (List.eq_nil_of_length_eq_zero this.symm)
      have tg : ∀ {S : Store} {Q : D → Store → Prop} {E : Ex}, Wx (idxD (F.top g fs).d (.int 0)) S Q E = Q (.str (gtag g)) S := fun {S Q E} => Wx_tag (f := F.top g fs)
      have ar : ∀ {S : Store} {Q : D → Store → Prop} {E : Ex}, Wx (idxD (F.top g fs).d (.int 1)) S Q E = Q (.tup fs.d) S := fun {S Q E} => by
        show Wx (idxD (.tup [.str (gtag g), .tup fs.d]) (.int 1)) S Q E = _
        rw [Wx_idxT, atD_1]
      simp only [Wx_var, Wx_con, Wx_glob, Wx_bin, Wx_neg, Wx_negI, Wx_not, Wx_cmp, Wx_and, Wx_or, Wx_ite, Wx_tup, Wx_lst, Wx_idx, Wx_slice, Wx_call, Wx_bi, Wx_isi, Wx_meth, Wx_nil, Wx_cons, Wx_onone, Wx_osome, Wx_cnone, Wx_csome, Wx_add, Wx_addT, Wx_sub, Wx_mul, Wx_fdiv, Wx_mod, Wx_tbl, Wx_tint, Wx_eqI, Wx_eqS, Wx_eqB, Wx_neI, Wx_ltI, Wx_leI, Wx_gtI, Wx_geI, Wx_idxT, atD_0, atD_1, atD_2, Wx_abs, Wx_intI, Wx_intB, Wx_cutT, Wx_srcT, Wx_range, Wx_ret, Wx_cond, List.getElem?_cons_zero, List.getElem?_cons_succ, List.length_cons, List.length_nil, List.set_cons_zero, List.set_cons_succ, decide_eq_true_eq, bne_iff_ne, Wx_turn, wipeD, Ws_nil, Ws_cons, Ws_asg, Ws_par, Ws_expr, Ws_ret, Ws_retn, Ws_pass, Ws_ite, asgD, setAll, tg, ar, t16, t17, t18, Bool.false_eq_true, if_false, Wx_comp]
      refine w_tops fs i j S _ _ (fun x hx => ?_) h1 h2 ha fun S1 k1 a1 => ?_
      · have := (Fs.sz_list (rs := fs)).2 x hx
        have := Fs.dep_list hx
        exact ih x (by omega) (by omega) (Fs.ok_list hok.2 hx) (n + 3) (by omega)
      · have hv := vals_bd hi fs (dr c i j) hok.2 (hs.drop i j)
        refine ⟨by rw [List.length_map, vals_len]; have := (Fs.sz_list (rs := fs)).1; unfold line; omega, ?_⟩
        simp only [Wx_var, Wx_con, Wx_glob, Wx_bin, Wx_neg, Wx_negI, Wx_not, Wx_cmp, Wx_and, Wx_or, Wx_ite, Wx_tup, Wx_lst, Wx_idx, Wx_slice, Wx_call, Wx_bi, Wx_isi, Wx_meth, Wx_nil, Wx_cons, Wx_onone, Wx_osome, Wx_cnone, Wx_csome, Wx_add, Wx_addT, Wx_sub, Wx_mul, Wx_fdiv, Wx_mod, Wx_tbl, Wx_tint, Wx_eqI, Wx_eqS, Wx_eqB, Wx_neI, Wx_ltI, Wx_leI, Wx_gtI, Wx_geI, Wx_idxT, atD_0, atD_1, atD_2, Wx_abs, Wx_intI, Wx_intB, Wx_cutT, Wx_srcT, Wx_range, Wx_ret, Wx_cond, List.getElem?_cons_zero, List.getElem?_cons_succ, List.length_cons, List.length_nil, List.set_cons_zero, List.set_cons_succ, decide_eq_true_eq, bne_iff_ne, Wx_turn, wipeD, Ws_nil, Ws_cons, Ws_asg, Ws_par, Ws_expr, Ws_ret, Ws_retn, Ws_pass, Ws_ite, asgD, setAll, tg, t19]
        cases g with
        | true =>
          rw [if_pos rfl]
          refine w_greatest (n := n + 1) (K := 50 * fs.sz) get_last hne hv (by omega) fun m hm => ?_
          have : m = best true (fs.vals inp (dr c i j)).1 := max_uniq hm (best_max hne)
          rw [this]
          exact h _ (k1.trans Kp.app) a1.app
        | false =>
          rw [if_neg Bool.false_ne_true]
          refine w_least (n := n + 1) (K := 50 * fs.sz) get_last hne hv (by omega) fun m hm => ?_
          have : m = best false (fs.vals inp (dr c i j)).1 := min_uniq hm (best_min hne)
          rw [this]
          exact h _ (k1.trans Kp.app) a1.app
    | size f =>
      have hz : (F.size f).sz = f.sz + 1 := rfl
      have hd : (F.size f).dep = f.dep + 1 := rfl
      have hdef : (F.size f).d = .tup [.str "size", f.d] := rfl
      rw [hdef]
      simp only [Wx_var, Wx_con, Wx_glob, Wx_bin, Wx_neg, Wx_negI, Wx_not, Wx_cmp, Wx_and, Wx_or, Wx_ite, Wx_tup, Wx_lst, Wx_idx, Wx_slice, Wx_call, Wx_bi, Wx_isi, Wx_meth, Wx_nil, Wx_cons, Wx_onone, Wx_osome, Wx_cnone, Wx_csome, Wx_add, Wx_addT, Wx_sub, Wx_mul, Wx_fdiv, Wx_mod, Wx_tbl, Wx_tint, Wx_eqI, Wx_eqS, Wx_eqB, Wx_neI, Wx_ltI, Wx_leI, Wx_gtI, Wx_geI, Wx_idxT, atD_0, atD_1, atD_2, Wx_abs, Wx_intI, Wx_intB, Wx_cutT, Wx_srcT, Wx_range, Wx_ret, Wx_cond, List.getElem?_cons_zero, List.getElem?_cons_succ, List.length_cons, List.length_nil, List.set_cons_zero, List.set_cons_succ, decide_eq_true_eq, bne_iff_ne, Wx_turn, wipeD, Ws_nil, Ws_cons, Ws_asg, Ws_par, Ws_expr, Ws_ret, Ws_retn, Ws_pass, Ws_ite, asgD, setAll, t6, t9, t8, t7, Bool.false_eq_true, if_false, if_true]
      refine ih f (by omega) (by omega) hok (n + 3) (by omega) i j t S _ _ h1 h2 ha fun S1 k1 a1 => ?_
      exact w_size _ (h S1 k1 a1)
    | held f =>
      have hz : (F.held f).sz = f.sz + 1 := rfl
      have hd : (F.held f).dep = f.dep + 1 := rfl
      have hdef : (F.held f).d = .tup [.str "held", f.d] := rfl
      rw [hdef]
      simp only [Wx_var, Wx_con, Wx_glob, Wx_bin, Wx_neg, Wx_negI, Wx_not, Wx_cmp, Wx_and, Wx_or, Wx_ite, Wx_tup, Wx_lst, Wx_idx, Wx_slice, Wx_call, Wx_bi, Wx_isi, Wx_meth, Wx_nil, Wx_cons, Wx_onone, Wx_osome, Wx_cnone, Wx_csome, Wx_add, Wx_addT, Wx_sub, Wx_mul, Wx_fdiv, Wx_mod, Wx_tbl, Wx_tint, Wx_eqI, Wx_eqS, Wx_eqB, Wx_neI, Wx_ltI, Wx_leI, Wx_gtI, Wx_geI, Wx_idxT, atD_0, atD_1, atD_2, Wx_abs, Wx_intI, Wx_intB, Wx_cutT, Wx_srcT, Wx_range, Wx_ret, Wx_cond, List.getElem?_cons_zero, List.getElem?_cons_succ, List.length_cons, List.length_nil, List.set_cons_zero, List.set_cons_succ, decide_eq_true_eq, bne_iff_ne, Wx_turn, wipeD, Ws_nil, Ws_cons, Ws_asg, Ws_par, Ws_expr, Ws_ret, Ws_retn, Ws_pass, Ws_ite, asgD, setAll, t11, t14, Bool.false_eq_true, if_false, if_true]
      have e1 : (F.held f).ns = f.ns := rfl
      have e2 : (F.held f).nh = f.nh + 1 := rfl
      have hlt : j < c.2.length := by omega
      have g0 := headD_drop c.2 j (0, 0) hlt
      have e3 : atD (c.2.map pr) (j : Int) = some (pr ((c.2.drop j).headD (0, 0))) := by
        refine atD_nat ?_
        rw [List.getElem?_map, g0]
        rfl
      have hp := hs.2 _ (List.mem_of_getElem? g0)
      have ha3 := ha.set1
      have hv := val_bd hi f (dr c i (j + 1)) hok (hs.drop _ _)
      rw [at_1 ha]
      simp only [Wx_var, Wx_con, Wx_glob, Wx_bin, Wx_neg, Wx_negI, Wx_not, Wx_cmp, Wx_and, Wx_or, Wx_ite, Wx_tup, Wx_lst, Wx_idx, Wx_slice, Wx_call, Wx_bi, Wx_isi, Wx_meth, Wx_nil, Wx_cons, Wx_onone, Wx_osome, Wx_cnone, Wx_csome, Wx_add, Wx_addT, Wx_sub, Wx_mul, Wx_fdiv, Wx_mod, Wx_tbl, Wx_tint, Wx_eqI, Wx_eqS, Wx_eqB, Wx_neI, Wx_ltI, Wx_leI, Wx_gtI, Wx_geI, Wx_idxT, atD_0, atD_1, atD_2, Wx_abs, Wx_intI, Wx_intB, Wx_cutT, Wx_srcT, Wx_range, Wx_ret, Wx_cond, List.getElem?_cons_zero, List.getElem?_cons_succ, List.length_cons, List.length_nil, List.set_cons_zero, List.set_cons_succ, decide_eq_true_eq, bne_iff_ne, Wx_turn, wipeD, Ws_nil, Ws_cons, Ws_asg, Ws_par, Ws_expr, Ws_ret, Ws_retn, Ws_pass, Ws_ite, asgD, setAll, e3]
      simp only [Wx_var, Wx_con, Wx_glob, Wx_bin, Wx_neg, Wx_negI, Wx_not, Wx_cmp, Wx_and, Wx_or, Wx_ite, Wx_tup, Wx_lst, Wx_idx, Wx_slice, Wx_call, Wx_bi, Wx_isi, Wx_meth, Wx_nil, Wx_cons, Wx_onone, Wx_osome, Wx_cnone, Wx_csome, Wx_add, Wx_addT, Wx_sub, Wx_mul, Wx_fdiv, Wx_mod, Wx_tbl, Wx_tint, Wx_eqI, Wx_eqS, Wx_eqB, Wx_neI, Wx_ltI, Wx_leI, Wx_gtI, Wx_geI, Wx_idxT, atD_0, atD_1, atD_2, Wx_abs, Wx_intI, Wx_intB, Wx_cutT, Wx_srcT, Wx_range, Wx_ret, Wx_cond, List.getElem?_cons_zero, List.getElem?_cons_succ, List.length_cons, List.length_nil, List.set_cons_zero, List.set_cons_succ, decide_eq_true_eq, bne_iff_ne, Wx_turn, wipeD, Ws_nil, Ws_cons, Ws_asg, Ws_par, Ws_expr, Ws_ret, Ws_retn, Ws_pass, Ws_ite, asgD, setAll, t15, if_true, Ws_augix, Wx_bind]
      rw [Wx_ref ha]
      rw [at_1 ha]
      rw [Wx_augI, Wx_set ha (j := 1) rfl]
      simp only [Wx_var, Wx_con, Wx_glob, Wx_bin, Wx_neg, Wx_negI, Wx_not, Wx_cmp, Wx_and, Wx_or, Wx_ite, Wx_tup, Wx_lst, Wx_idx, Wx_slice, Wx_call, Wx_bi, Wx_isi, Wx_meth, Wx_nil, Wx_cons, Wx_onone, Wx_osome, Wx_cnone, Wx_csome, Wx_add, Wx_addT, Wx_sub, Wx_mul, Wx_fdiv, Wx_mod, Wx_tbl, Wx_tint, Wx_eqI, Wx_eqS, Wx_eqB, Wx_neI, Wx_ltI, Wx_leI, Wx_gtI, Wx_geI, Wx_idxT, atD_0, atD_1, atD_2, Wx_abs, Wx_intI, Wx_intB, Wx_cutT, Wx_srcT, Wx_range, Wx_ret, Wx_cond, List.getElem?_cons_zero, List.getElem?_cons_succ, List.length_cons, List.length_nil, List.set_cons_zero, List.set_cons_succ, decide_eq_true_eq, bne_iff_ne, Wx_turn, wipeD, Ws_nil, Ws_cons, Ws_asg, Ws_par, Ws_expr, Ws_ret, Ws_retn, Ws_pass, Ws_ite, asgD, setAll]
      refine ih f (by omega) (by omega) hok (n + 3) (by omega) i (j + 1) t _ _ _ (by omega) (by omega) ha3 fun S1 k1 a1 => ?_
      refine w_held (n := n + 1) _ _ _ hv hp.1 hp.2.1 (by omega) ?_
      have q : ((F.held f).val inp (dr c i j)).1 = clamp ((c.2.drop j).headD (0, 0)) (f.val inp (dr c i (j + 1))).1 := by
        show clamp _ (f.val inp (c.1.drop i, (c.2.drop j).tail)).1 = _
        rw [List.tail_drop]
      have hh := h S1 (Kp.set.trans k1) (by rw [e1, e2, Nat.add_comm f.nh 1, ← Nat.add_assoc]; exact a1)
      rw [q] at hh
      exact hh
theorem w_value {s : Nat} {inp : List Rat} {c : St} (hi : In s inp) (hs : StOk c) {f : F} (hf : f.sz ≤ 300000) (hok : f.ok s) {n : Nat} (hn : f.dep + 9 ≤ n) (h1 : f.ns ≤ c.1.length) (h2 : f.nh ≤ c.2.length) {S : Store} {Q : D → Store → Prop} {E : Ex}
    (h : ∀ S', S <+: S' → Q (fr (f.val inp c).1) S') : Wx (run P n 14 [f.d, iD inp, cD c, bD c]) S Q E := by
  obtain ⟨n, rfl⟩ : ∃ n', n = n' + 1 := ⟨n - 1, by omega⟩
  rw [r_formula_value, Wx_end]
  unfold b_formula_value
  simp only [Wx_var, Wx_con, Wx_glob, Wx_bin, Wx_neg, Wx_negI, Wx_not, Wx_cmp, Wx_and, Wx_or, Wx_ite, Wx_tup, Wx_lst, Wx_idx, Wx_slice, Wx_call, Wx_bi, Wx_isi, Wx_meth, Wx_nil, Wx_cons, Wx_onone, Wx_osome, Wx_cnone, Wx_csome, Wx_add, Wx_addT, Wx_sub, Wx_mul, Wx_fdiv, Wx_mod, Wx_tbl, Wx_tint, Wx_eqI, Wx_eqS, Wx_eqB, Wx_neI, Wx_ltI, Wx_leI, Wx_gtI, Wx_geI, Wx_idxT, atD_0, atD_1, atD_2, Wx_abs, Wx_intI, Wx_intB, Wx_cutT, Wx_srcT, Wx_range, Wx_ret, Wx_cond, List.getElem?_cons_zero, List.getElem?_cons_succ, List.length_cons, List.length_nil, List.set_cons_zero, List.set_cons_succ, decide_eq_true_eq, bne_iff_ne, Wx_turn, wipeD, Ws_nil, Ws_cons, Ws_asg, Ws_par, Ws_expr, Ws_ret, Ws_retn, Ws_pass, Ws_ite, asgD, setAll]
  have ha : AtIs (S ++ [Ob.lst [.int 0, .int 0]]) S.length 0 0 := get_last
  refine ⟨by decide, ?_⟩
  refine w_node hi hs f.sz f (Nat.le_refl _) hf hok n (by omega) 0 0 S.length _ _ _ (by omega) (by omega) ha fun S1 k1 a1 => ?_
  refine h S1 ?_
  refine ⟨S1.drop S.length, ?_⟩
  have hl := k1.1
  rw [List.length_append, List.length_singleton] at hl
  refine List.ext_getElem? fun x => ?_
  by_cases hx : x < S.length
  · rw [List.getElem?_append_left hx]
    have := k1.2 x (by rw [List.length_append, List.length_singleton]; omega) (by omega)
    rw [this, List.getElem?_append_left hx]
  · rw [List.getElem?_append_right (by omega), List.getElem?_drop]
    congr 1
    omega
end K03

set_option Elab.async false
set_option linter.all false
set_option maxRecDepth 100000
set_option maxHeartbeats 4000000
set_option autoImplicit false
/-! k03, the plain law: the drawn numbers. -/
namespace K03
open Ev
mutual
theorem fold_ns : ∀ f : F, f.fold aSums = (f.ns : Int)
  | .sum rs => by
    show (1 : Int) + (rs.folds aSums).sum = ((rs.ns + 1 : Nat) : Int)
    rw [folds_ns]
    omega
  | .top g fs => by
    have h := folds_nsF fs
    cases g with
    | true =>
      show (0 : Int) + (fs.folds aSums).sum = (fs.ns : Int)
      omega
    | false =>
      show (0 : Int) + (fs.folds aSums).sum = (fs.ns : Int)
      omega
  | .size f => by
    have h := fold_ns f
    show (0 : Int) + (f.fold aSums + 0) = (f.ns : Int)
    omega
  | .held f => by
    have h := fold_ns f
    show (0 : Int) + (f.fold aSums + 0) = (f.ns : Int)
    omega
theorem folds_ns : ∀ rs : Rs, (rs.folds aSums).sum = (rs.ns : Int)
  | .nil => rfl
  | .leaf _ _ r => by
    show (r.folds aSums).sum = (r.ns : Int)
    exact folds_ns r
  | .node _ f r => by
    have h1 := fold_ns f
    have h2 := folds_ns r
    show f.fold aSums + (r.folds aSums).sum = ((f.ns + r.ns : Nat) : Int)
    omega
theorem folds_nsF : ∀ fs : Fs, (fs.folds aSums).sum = (fs.ns : Int)
  | .nil => rfl
  | .cons f r => by
    have h1 := fold_ns f
    have h2 := folds_nsF r
    show f.fold aSums + (r.folds aSums).sum = ((f.ns + r.ns : Nat) : Int)
    omega
end
mutual
theorem fold_nh : ∀ f : F, f.fold aHeld = (f.nh : Int)
  | .sum rs => by
    have h := folds_nh rs
    show (0 : Int) + (rs.folds aHeld).sum = (rs.nh : Int)
    omega
  | .top g fs => by
    have h := folds_nhF fs
    cases g with
    | true =>
      show (0 : Int) + (fs.folds aHeld).sum = (fs.nh : Int)
      omega
    | false =>
      show (0 : Int) + (fs.folds aHeld).sum = (fs.nh : Int)
      omega
  | .size f => by
    have h := fold_nh f
    show (0 : Int) + (f.fold aHeld + 0) = (f.nh : Int)
    omega
  | .held f => by
    have h := fold_nh f
    show (1 : Int) + (f.fold aHeld + 0) = ((f.nh + 1 : Nat) : Int)
    omega
theorem folds_nh : ∀ rs : Rs, (rs.folds aHeld).sum = (rs.nh : Int)
  | .nil => rfl
  | .leaf _ _ r => by
    show (r.folds aHeld).sum = (r.nh : Int)
    exact folds_nh r
  | .node _ f r => by
    have h1 := fold_nh f
    have h2 := folds_nh r
    show f.fold aHeld + (r.folds aHeld).sum = ((f.nh + r.nh : Nat) : Int)
    omega
theorem folds_nhF : ∀ fs : Fs, (fs.folds aHeld).sum = (fs.nh : Int)
  | .nil => rfl
  | .cons f r => by
    have h1 := fold_nh f
    have h2 := folds_nhF r
    show f.fold aHeld + (r.folds aHeld).sum = ((f.nh + r.nh : Nat) : Int)
    omega
end
mutual
theorem F.n_sz : ∀ f : F, f.ns + f.nh ≤ f.sz
  | .sum rs => by
    have h := Rs.n_sz rs
    show rs.ns + 1 + rs.nh ≤ rs.sz + 1
    omega
  | .top g fs => by
    have h := Fs.n_sz fs
    show fs.ns + fs.nh ≤ fs.sz + 1
    omega
  | .size f => by
    have h := F.n_sz f
    show f.ns + f.nh ≤ f.sz + 1
    omega
  | .held f => by
    have h := F.n_sz f
    show f.ns + (f.nh + 1) ≤ f.sz + 1
    omega
theorem Rs.n_sz : ∀ rs : Rs, rs.ns + rs.nh ≤ rs.sz
  | .nil => Nat.le_refl _
  | .leaf _ _ r => by
    have h := Rs.n_sz r
    show r.ns + r.nh ≤ r.sz + 1
    omega
  | .node _ f r => by
    have h1 := F.n_sz f
    have h2 := Rs.n_sz r
    show f.ns + r.ns + (f.nh + r.nh) ≤ f.sz + r.sz + 1
    omega
theorem Fs.n_sz : ∀ fs : Fs, fs.ns + fs.nh ≤ fs.sz
  | .nil => Nat.le_refl _
  | .cons f r => by
    have h1 := F.n_sz f
    have h2 := Fs.n_sz r
    show f.ns + r.ns + (f.nh + r.nh) ≤ f.sz + r.sz + 1
    omega
end
theorem range_len : ∀ (n : Nat) (lo : Int), (rangeD lo n).length = n
  | 0, _ => rfl
  | n + 1, lo => by
    show (rangeD (lo + 1) n).length + 1 = n + 1
    rw [range_len]
/-- one list of drawn things -/
theorem each_draw {T : Type} (dT : T → D) (ok : T → Prop) {f : D → M (List D)} {k u : Nat} {S0 : Store} (hf : ∀ (d : D) (b : Nat) (S : Store) (Q : List D → Store → Prop) (E : Ex), BoxAt S k (b + u) → (∀ S' x, Kp k S S' → BoxAt S' k b → ok x → Q [dT x] S') → Wx (f d) S Q E) :
    ∀ (items : List D) (b : Nat) (S : Store) (Q : List D → Store → Prop) (E : Ex), BoxAt S k (b + u * items.length) → (∀ S' (xs : List T), Kp k S S' → BoxAt S' k b → xs.length = items.length → (∀ x ∈ xs, ok x) → Q (xs.map dT) S') → Wx (eachD S0 [] f items) S Q E
  | [], b, S, Q, E, hb, h => by
    rw [Wx_each_nil]
    exact ⟨keptNil, h S [] .refl hb rfl (fun x hx => by cases hx)⟩
  | d :: items, b, S, Q, E, hb, h => by
    rw [Wx_each_cons]
    refine ⟨keptNil, ?_⟩
    have hb2 : BoxAt S k (b + u * items.length + u) := hb.less (by rw [List.length_cons, Nat.mul_add, Nat.mul_one, Nat.add_assoc]; exact Nat.le_refl _)
    refine hf d _ S _ _ hb2 fun S1 x k1 b1 o1 => ?_
    refine each_draw dT ok hf items b S1 _ _ b1 fun S2 xs k2 b2 l2 o2 => ?_
    refine h S2 (x :: xs) (k1.trans k2) b2 (by rw [List.length_cons, List.length_cons, l2]) fun y hy => ?_
    rcases List.mem_cons.mp hy with rfl | hy
    · exact o1
    · exact o2 y hy
abbrev okP (p : Rat × Rat) : Prop := Bd 40 p.1 ∧ Bd 40 p.2 ∧ p.1 < p.2
theorem BoxAt.pre {S S' : Store} {k b : Nat} (p : S <+: S') (h : BoxAt S k b) : BoxAt S' k b := by
  obtain ⟨r, rfl⟩ := p
  exact h.app
def setRow : ISs := match b__law_set with
  | .cons _ (.cons _ (.cons (.for_ _ _ _ t) _)) => t
  | _ => .nil
theorem bd31 {q : Rat} (h : Bd 31 q) : Bd 40 q := h.mono (by decide)
theorem frac_pos {t b : Int} (ht : 0 < t) (hb : 0 < b) : 0 < Rat.divInt t b := by
  have h : 0 < (Rat.divInt t b).num := by
    rw [Rat.num_divInt, Int.sign_eq_one_of_pos hb, Int.one_mul]
    exact Int.ediv_pos_of_pos_of_dvd ht (by omega) (Int.gcd_dvd_right ..)
  rw [Rat.lt_iff]
  show (0 : Int) * _ < _ * ((1 : Nat) : Int)
  omega
section
variable {N : Env → Store → Prop} {Q : Fl × Env → Store → Prop}
theorem set_rows {n k r : Nat} {S0 Sb : Store} {x1 x2 : Option D} (hr : Sb.length ≤ r) (hkr : r ≠ k) : ∀ (items : List D) (b : Nat) (l : List (Rat × Rat)) (S : Store) (o3 o5 : Option D), BoxAt S k (b + 5 * items.length) → l.length + items.length < line → S[r]? = some (.lst (l.map pr)) → Kp k Sb S → (∀ p ∈ l, okP p) →
    (∀ (S' : Store) (l' : List (Rat × Rat)) (o3 o5 : Option D), BoxAt S' k b → S'[r]? = some (.lst (l'.map pr)) → Kp k Sb S' → l'.length = l.length + items.length → (∀ p ∈ l', okP p) → N [some (.ref k), x1, x2, o3, some (.ref r), o5] S') →
    Ws (forD S0 [] (.name 3) (denSs (run P (n + 3)) setRow) items [some (.ref k), x1, x2, o3, some (.ref r), o5]) S N Q
  | [], b, l, S, o3, o5, hb, hl, he, hk, ho, hN => by
    rw [Ws_for_nil]
    exact ⟨keptNil, hN S l o3 o5 hb he hk rfl ho⟩
  | d :: items, b, l, S, o3, o5, hb, hl, he, hk, ho, hN => by
    rw [Ws_for_cons]
    refine ⟨keptNil, ?_⟩
    have hll : (d :: items).length = items.length + 1 := rfl
    have hb5 : BoxAt S k (b + 5 * items.length + 2 + 3) := hb.less (by omega)
    simp only [asgD, List.set_cons_succ, List.set_cons_zero]
    unfold setRow b__law_set
    simp only [Wx_var, Wx_con, Wx_glob, Wx_bin, Wx_neg, Wx_negI, Wx_not, Wx_cmp, Wx_and, Wx_or, Wx_ite, Wx_tup, Wx_lst, Wx_idx, Wx_slice, Wx_call, Wx_bi, Wx_isi, Wx_meth, Wx_nil, Wx_cons, Wx_onone, Wx_osome, Wx_cnone, Wx_csome, Wx_add, Wx_addT, Wx_sub, Wx_mul, Wx_fdiv, Wx_mod, Wx_tbl, Wx_tint, Wx_eqI, Wx_eqS, Wx_eqB, Wx_neI, Wx_ltI, Wx_leI, Wx_gtI, Wx_geI, Wx_idxT, atD_0, atD_1, atD_2, Wx_abs, Wx_intI, Wx_intB, Wx_cutT, Wx_srcT, Wx_range, Wx_ret, Wx_cond, List.getElem?_cons_zero, List.getElem?_cons_succ, List.length_cons, List.length_nil, List.set_cons_zero, List.set_cons_succ, decide_eq_true_eq, bne_iff_ne, Wx_turn, wipeD, Ws_nil, Ws_cons, Ws_asg, Ws_par, Ws_expr, Ws_ret, Ws_retn, Ws_pass, Ws_ite, asgD, setAll]
    refine w_number (n := n + 1) hb5 fun S1 q k1 b1 o1 => ?_
    have he1 : S1[r]? = _ := k1.get he hkr
    rw [Wx_ref he1]
    refine w_take (b := b + 5 * items.length + 1) b1 (by decide) fun S2 d2 k2 b2 l2 u2 => ?_
    simp only [Wx_var, Wx_con, Wx_glob, Wx_bin, Wx_neg, Wx_negI, Wx_not, Wx_cmp, Wx_and, Wx_or, Wx_ite, Wx_tup, Wx_lst, Wx_idx, Wx_slice, Wx_call, Wx_bi, Wx_isi, Wx_meth, Wx_nil, Wx_cons, Wx_onone, Wx_osome, Wx_cnone, Wx_csome, Wx_add, Wx_addT, Wx_sub, Wx_mul, Wx_fdiv, Wx_mod, Wx_tbl, Wx_tint, Wx_eqI, Wx_eqS, Wx_eqB, Wx_neI, Wx_ltI, Wx_leI, Wx_gtI, Wx_geI, Wx_idxT, atD_0, atD_1, atD_2, Wx_abs, Wx_intI, Wx_intB, Wx_cutT, Wx_srcT, Wx_range, Wx_ret, Wx_cond, List.getElem?_cons_zero, List.getElem?_cons_succ, List.length_cons, List.length_nil, List.set_cons_zero, List.set_cons_succ, decide_eq_true_eq, bne_iff_ne, Wx_turn, wipeD, Ws_nil, Ws_cons, Ws_asg, Ws_par, Ws_expr, Ws_ret, Ws_retn, Ws_pass, Ws_ite, asgD, setAll]
    refine w_take (b := b + 5 * items.length) b2 (by decide) fun S3 d3 k3 b3 l3 u3 => ?_
    simp only [Wx_var, Wx_con, Wx_glob, Wx_bin, Wx_neg, Wx_negI, Wx_not, Wx_cmp, Wx_and, Wx_or, Wx_ite, Wx_tup, Wx_lst, Wx_idx, Wx_slice, Wx_call, Wx_bi, Wx_isi, Wx_meth, Wx_nil, Wx_cons, Wx_onone, Wx_osome, Wx_cnone, Wx_csome, Wx_add, Wx_addT, Wx_sub, Wx_mul, Wx_fdiv, Wx_mod, Wx_tbl, Wx_tint, Wx_eqI, Wx_eqS, Wx_eqB, Wx_neI, Wx_ltI, Wx_leI, Wx_gtI, Wx_geI, Wx_idxT, atD_0, atD_1, atD_2, Wx_abs, Wx_intI, Wx_intB, Wx_cutT, Wx_srcT, Wx_range, Wx_ret, Wx_cond, List.getElem?_cons_zero, List.getElem?_cons_succ, List.length_cons, List.length_nil, List.set_cons_zero, List.set_cons_succ, decide_eq_true_eq, bne_iff_ne, Wx_turn, wipeD, Ws_nil, Ws_cons, Ws_asg, Ws_par, Ws_expr, Ws_ret, Ws_retn, Ws_pass, Ws_ite, asgD, setAll]
    refine w_frac (1 + d2) (1 + d3) (j := 8) (k := 8) (by omega) (small' (k := 8) (by omega)) (small' (k := 8) (by omega)) (by decide) ?_
    have hf : Bd 8 (Rat.divInt (1 + d2) (1 + d3)) := bd_divInt (by omega) (small' (k := 8) (by omega)) (small' (k := 8) (by omega))
    have hpos : 0 < Rat.divInt (1 + d2) (1 + d3) := frac_pos (by omega) (by omega)
    refine w_plus q _ o1 hf (by decide) ?_
    have he3 := (k2.trans k3).get he1 hkr
    rw [Wx_append he3]
    refine ⟨by decide, by rw [List.length_map]; omega, ?_⟩
    have e2 : (l.map pr ++ [pr (q, q + Rat.divInt (1 + d2) (1 + d3))]) = (l ++ [(q, q + Rat.divInt (1 + d2) (1 + d3))]).map pr := by rw [List.map_append]; rfl
    have e2 : (l.map pr ++ [D.tup [fr q, fr (q + Rat.divInt (1 + d2) (1 + d3))]]) = (l ++ [(q, q + Rat.divInt (1 + d2) (1 + d3))]).map pr := e2
    rw [e2]
    refine set_rows hr hkr items b (l ++ [(q, q + Rat.divInt (1 + d2) (1 + d3))]) _ _ _ (b3.setR hkr) (by rw [List.length_append, List.length_singleton]; omega) (get_set he3) (((hk.trans k1).trans (k2.trans k3)).setR hr) (fun p hp => ?_) fun S' l' o3 o5 b4 e4 k4 l4 o4 => hN S' l' o3 o5 b4 e4 k4 (by rw [l4, List.length_append, List.length_singleton, hll]; omega) o4
    rcases List.mem_append.mp hp with hp | hp
    · exact ho p hp
    · rw [List.mem_singleton.mp hp]
      refine ⟨bd31 o1, (bd_add o1 hf).mono (by decide), ?_⟩
      have := Rat.add_lt_add_left (c := q) |>.mpr hpos
      rwa [Rat.add_zero] at this
end
theorem w_set {n k b : Nat} {f : F} {S : Store} {Q : D → Store → Prop} {E : Ex} (hf : f.sz ≤ 300000) (hn : f.dep + 9 ≤ n) (hb : BoxAt S k (b + 5 * f.sz)) (h : ∀ (S' : Store) (c : St), Kp k S S' → BoxAt S' k b → StOk c → c.1.length = f.ns → c.2.length = f.nh → Q (.tup [cD c, bD c]) S') : Wx (run P n 41 [.ref k, f.d]) S Q E := by
  obtain ⟨n, rfl⟩ : ∃ n', n = n' + 4 := ⟨n - 4, by omega⟩
  have hz := f.n_sz
  have hk : k < S.length := by obtain ⟨c, s, d, e, _⟩ := hb; exact (List.getElem?_eq_some_iff.mp e).1
  rw [r__law_set, Wx_end]
  unfold b__law_set
  simp only [Wx_var, Wx_con, Wx_glob, Wx_bin, Wx_neg, Wx_negI, Wx_not, Wx_cmp, Wx_and, Wx_or, Wx_ite, Wx_tup, Wx_lst, Wx_idx, Wx_slice, Wx_call, Wx_bi, Wx_isi, Wx_meth, Wx_nil, Wx_cons, Wx_onone, Wx_osome, Wx_cnone, Wx_csome, Wx_add, Wx_addT, Wx_sub, Wx_mul, Wx_fdiv, Wx_mod, Wx_tbl, Wx_tint, Wx_eqI, Wx_eqS, Wx_eqB, Wx_neI, Wx_ltI, Wx_leI, Wx_gtI, Wx_geI, Wx_idxT, atD_0, atD_1, atD_2, Wx_abs, Wx_intI, Wx_intB, Wx_cutT, Wx_srcT, Wx_range, Wx_ret, Wx_cond, List.getElem?_cons_zero, List.getElem?_cons_succ, List.length_cons, List.length_nil, List.set_cons_zero, List.set_cons_succ, decide_eq_true_eq, bne_iff_ne, Wx_turn, wipeD, Ws_nil, Ws_cons, Ws_asg, Ws_par, Ws_expr, Ws_ret, Ws_retn, Ws_pass, Ws_ite, asgD, setAll, Wx_comp]
  refine w_lsums f.sz f (Nat.le_refl _) (by omega) (n + 3) _ _ _ (by omega) fun S1 p1 => ?_
  rw [Wx_range, fold_ns]
  refine ⟨by omega, ?_⟩
  have k1 : Kp k S S1 := Kp.pre p1
  have hb1 : BoxAt S1 k (b + 5 * f.nh + 3 * (rangeD 0 ((f.ns : Int).toNat)).length) := by
    rw [range_len, Int.toNat_natCast]
    exact (BoxAt.pre p1 hb).less (by omega)
  refine each_draw (k := k) (u := 3) fr (Bd 40) (fun d b S Q E hb hq => ?_) _ _ S1 _ _ hb1 fun S2 xs k2 b2 l2 o2 => ?_
  · simp only [Wx_var, Wx_con, Wx_glob, Wx_bin, Wx_neg, Wx_negI, Wx_not, Wx_cmp, Wx_and, Wx_or, Wx_ite, Wx_tup, Wx_lst, Wx_idx, Wx_slice, Wx_call, Wx_bi, Wx_isi, Wx_meth, Wx_nil, Wx_cons, Wx_onone, Wx_osome, Wx_cnone, Wx_csome, Wx_add, Wx_addT, Wx_sub, Wx_mul, Wx_fdiv, Wx_mod, Wx_tbl, Wx_tint, Wx_eqI, Wx_eqS, Wx_eqB, Wx_neI, Wx_ltI, Wx_leI, Wx_gtI, Wx_geI, Wx_idxT, atD_0, atD_1, atD_2, Wx_abs, Wx_intI, Wx_intB, Wx_cutT, Wx_srcT, Wx_range, Wx_ret, Wx_cond, List.getElem?_cons_zero, List.getElem?_cons_succ, List.length_cons, List.length_nil, List.set_cons_zero, List.set_cons_succ, decide_eq_true_eq, bne_iff_ne, Wx_turn, wipeD, Ws_nil, Ws_cons, Ws_asg, Ws_par, Ws_expr, Ws_ret, Ws_retn, Ws_pass, Ws_ite, asgD, setAll, if_true]
    exact w_number hb fun S' q k3 b3 o3 => hq S' q k3 b3 (bd31 o3)
  · rw [range_len, Int.toNat_natCast] at l2
    refine ⟨by rw [List.length_map, l2]; unfold line; omega, ?_⟩
    rw [Wx_tuple (seq_lst get_last)]
    simp only [Wx_var, Wx_con, Wx_glob, Wx_bin, Wx_neg, Wx_negI, Wx_not, Wx_cmp, Wx_and, Wx_or, Wx_ite, Wx_tup, Wx_lst, Wx_idx, Wx_slice, Wx_call, Wx_bi, Wx_isi, Wx_meth, Wx_nil, Wx_cons, Wx_onone, Wx_osome, Wx_cnone, Wx_csome, Wx_add, Wx_addT, Wx_sub, Wx_mul, Wx_fdiv, Wx_mod, Wx_tbl, Wx_tint, Wx_eqI, Wx_eqS, Wx_eqB, Wx_neI, Wx_ltI, Wx_leI, Wx_gtI, Wx_geI, Wx_idxT, atD_0, atD_1, atD_2, Wx_abs, Wx_intI, Wx_intB, Wx_cutT, Wx_srcT, Wx_range, Wx_ret, Wx_cond, List.getElem?_cons_zero, List.getElem?_cons_succ, List.length_cons, List.length_nil, List.set_cons_zero, List.set_cons_succ, decide_eq_true_eq, bne_iff_ne, Wx_turn, wipeD, Ws_nil, Ws_cons, Ws_asg, Ws_par, Ws_expr, Ws_ret, Ws_retn, Ws_pass, Ws_ite, asgD, setAll, Ws_for]
    refine ⟨by decide, ?_⟩
    refine w_lheld f.sz f (Nat.le_refl _) (by omega) (n + 3) _ _ _ (by omega) fun S3 p3 => ?_
    rw [Wx_range, fold_nh]
    refine ⟨by omega, ?_⟩
    have ek : Kp k S S3 := ((k1.trans k2).trans (Kp.app.trans Kp.app)).trans (Kp.pre p3)
    have hkl := k1.1
    have hkl2 := k2.1
    have g3 := get_app p3 (get_last (S := S2 ++ [Ob.lst (xs.map fr)]) (o := Ob.lst []))
    have hb3 : BoxAt S3 k (b + 5 * (rangeD 0 ((f.nh : Int).toNat)).length) := by
      rw [range_len, Int.toNat_natCast]
      exact BoxAt.pre p3 (b2.app.app)
    refine set_rows (n := n) (r := (S2 ++ [Ob.lst (xs.map fr)]).length) (Sb := S) (by rw [List.length_append, List.length_singleton]; omega) (by rw [List.length_append, List.length_singleton]; omega) _ b [] S3 _ _ hb3 (by rw [range_len, Int.toNat_natCast]; show 0 + f.nh < line; unfold line; omega) g3 ek (fun p hp => by cases hp) fun S' l' o3 o5 b4 e4 k4 l4 o4 => ?_
    rw [range_len, Int.toNat_natCast] at l4
    simp only [Wx_var, Wx_con, Wx_glob, Wx_bin, Wx_neg, Wx_negI, Wx_not, Wx_cmp, Wx_and, Wx_or, Wx_ite, Wx_tup, Wx_lst, Wx_idx, Wx_slice, Wx_call, Wx_bi, Wx_isi, Wx_meth, Wx_nil, Wx_cons, Wx_onone, Wx_osome, Wx_cnone, Wx_csome, Wx_add, Wx_addT, Wx_sub, Wx_mul, Wx_fdiv, Wx_mod, Wx_tbl, Wx_tint, Wx_eqI, Wx_eqS, Wx_eqB, Wx_neI, Wx_ltI, Wx_leI, Wx_gtI, Wx_geI, Wx_idxT, atD_0, atD_1, atD_2, Wx_abs, Wx_intI, Wx_intB, Wx_cutT, Wx_srcT, Wx_range, Wx_ret, Wx_cond, List.getElem?_cons_zero, List.getElem?_cons_succ, List.length_cons, List.length_nil, List.set_cons_zero, List.set_cons_succ, decide_eq_true_eq, bne_iff_ne, Wx_turn, wipeD, Ws_nil, Ws_cons, Ws_asg, Ws_par, Ws_expr, Ws_ret, Ws_retn, Ws_pass, Ws_ite, asgD, setAll]
    rw [Wx_tuple (seq_lst e4)]
    exact ⟨by decide, h S' (xs, l') k4 b4 ⟨o2, o4⟩ l2 (by simpa using l4)⟩
end K03

set_option Elab.async false
set_option linter.all false
set_option maxRecDepth 100000
set_option maxHeartbeats 4000000
set_option autoImplicit false
/-! k03, the plain law: the drawn numbers that are alike, and the inputs. -/
namespace K03
open Ev
theorem each_drawJ {T : Type} (dT : T → D) (ok : T → Prop) (J : Store → Prop) {f : D → M (List D)} {k u : Nat} {S0 : Store} (hJ : ∀ S S', Kp k S S' → J S → J S') (hf : ∀ (d : D) (b : Nat) (S : Store) (Q : List D → Store → Prop) (E : Ex), J S → BoxAt S k (b + u) → (∀ S' x, Kp k S S' → BoxAt S' k b → ok x → Q [dT x] S') → Wx (f d) S Q E) :
    ∀ (items : List D) (b : Nat) (S : Store) (Q : List D → Store → Prop) (E : Ex), J S → BoxAt S k (b + u * items.length) → (∀ S' (xs : List T), Kp k S S' → BoxAt S' k b → xs.length = items.length → (∀ x ∈ xs, ok x) → Q (xs.map dT) S') → Wx (eachD S0 [] f items) S Q E
  | [], b, S, Q, E, j, hb, h => by
    rw [Wx_each_nil]
    exact ⟨keptNil, h S [] .refl hb rfl (fun x hx => by cases hx)⟩
  | d :: items, b, S, Q, E, j, hb, h => by
    rw [Wx_each_cons]
    refine ⟨keptNil, ?_⟩
    have hb2 : BoxAt S k (b + u * items.length + u) := hb.less (by rw [List.length_cons, Nat.mul_add, Nat.mul_one, Nat.add_assoc]; exact Nat.le_refl _)
    refine hf d _ S _ _ j hb2 fun S1 x k1 b1 o1 => ?_
    refine each_drawJ dT ok J hJ hf items b S1 _ _ (hJ _ _ k1 j) b1 fun S2 xs k2 b2 l2 o2 => ?_
    refine h S2 (x :: xs) (k1.trans k2) b2 (by rw [List.length_cons, List.length_cons, l2]) fun y hy => ?_
    rcases List.mem_cons.mp hy with rfl | hy
    · exact o1
    · exact o2 y hy
def q5 : List Rat := [0, 0, 1, -1, Rat.divInt 1 2]
def p4 : List (Rat × Rat) := [(0, 1), (-1, 0), (-1, 1), (0, Rat.divInt 1 2)]
theorem fr_is {q : Rat} {a b : Int} (h : q.num = a ∧ (q.den : Int) = b) : fr q = .tup [.int a, .int b] := by
  obtain ⟨rfl, rfl⟩ := h
  rfl
theorem fr_0 : fr 0 = .tup [.int 0, .int 1] := fr_is (by decide +kernel)
theorem fr_1 : fr 1 = .tup [.int 1, .int 1] := fr_is (by decide +kernel)
theorem fr_m : fr (-1) = .tup [.int (-1), .int 1] := fr_is (by decide +kernel)
theorem fr_half : fr (Rat.divInt 1 2) = .tup [.int 1, .int 2] := fr_is (by decide +kernel)
theorem q5_d : q5.map fr = [.tup [.int 0, .int 1], .tup [.int 0, .int 1], .tup [.int 1, .int 1], .tup [.int (-1), .int 1], .tup [.int 1, .int 2]] := by
  unfold q5
  simp only [List.map_cons, List.map_nil, fr_0, fr_1, fr_m, fr_half]
theorem p4_d : p4.map pr = [.tup [.tup [.int 0, .int 1], .tup [.int 1, .int 1]], .tup [.tup [.int (-1), .int 1], .tup [.int 0, .int 1]], .tup [.tup [.int (-1), .int 1], .tup [.int 1, .int 1]], .tup [.tup [.int 0, .int 1], .tup [.int 1, .int 2]]] := by
  show [D.tup [fr 0, fr 1], D.tup [fr (-1), fr 0], D.tup [fr (-1), fr 1], D.tup [fr 0, fr (Rat.divInt 1 2)]] = _
  rw [fr_0, fr_1, fr_m, fr_half]
instance {k : Nat} {q : Rat} : Decidable (Bd k q) := by unfold Bd; infer_instance
theorem q5_ok : ∀ q ∈ q5, Bd 40 q := by decide +kernel
theorem p4_ok : ∀ p ∈ p4, okP p := by decide +kernel
theorem w_alike {n k b : Nat} {f : F} {S : Store} {Q : D → Store → Prop} {E : Ex} (hf : f.sz ≤ 300000) (hn : f.dep + 9 ≤ n) (hb : BoxAt S k (b + 5 * f.sz)) (h : ∀ (S' : Store) (c : St), Kp k S S' → BoxAt S' k b → StOk c → c.1.length = f.ns → c.2.length = f.nh → Q (.tup [cD c, bD c]) S') : Wx (run P n 45 [.ref k, f.d]) S Q E := by
  obtain ⟨n, rfl⟩ : ∃ n', n = n' + 4 := ⟨n - 4, by omega⟩
  have hz := f.n_sz
  have hk : k < S.length := hb.lt
  rw [r__law_alike, Wx_end]
  unfold b__law_alike
  simp only [Wx_var, Wx_con, Wx_glob, Wx_bin, Wx_neg, Wx_negI, Wx_not, Wx_cmp, Wx_and, Wx_or, Wx_ite, Wx_tup, Wx_lst, Wx_idx, Wx_slice, Wx_call, Wx_bi, Wx_isi, Wx_meth, Wx_nil, Wx_cons, Wx_onone, Wx_osome, Wx_cnone, Wx_csome, Wx_add, Wx_addT, Wx_sub, Wx_mul, Wx_fdiv, Wx_mod, Wx_tbl, Wx_tint, Wx_eqI, Wx_eqS, Wx_eqB, Wx_neI, Wx_ltI, Wx_leI, Wx_gtI, Wx_geI, Wx_idxT, atD_0, atD_1, atD_2, Wx_abs, Wx_intI, Wx_intB, Wx_cutT, Wx_srcT, Wx_range, Wx_ret, Wx_cond, List.getElem?_cons_zero, List.getElem?_cons_succ, List.length_cons, List.length_nil, List.set_cons_zero, List.set_cons_succ, decide_eq_true_eq, bne_iff_ne, Wx_turn, wipeD, Ws_nil, Ws_cons, Ws_asg, Ws_par, Ws_expr, Ws_ret, Ws_retn, Ws_pass, Ws_ite, asgD, setAll, Wx_comp]
  refine ⟨by decide, by decide, by decide, by decide, by decide, by decide, ?_⟩
  rw [← q5_d]
  refine w_lsums f.sz f (Nat.le_refl _) (by omega) (n + 3) _ _ _ (by omega) fun S1 p1 => ?_
  rw [Wx_range, fold_ns]
  refine ⟨by omega, ?_⟩
  have k1 : Kp k S S1 := Kp.app.trans (Kp.pre p1)
  have g1 := get_app p1 (get_last (S := S) (o := Ob.lst (q5.map fr)))
  have hb1 : BoxAt S1 k (b + f.nh + 1 * (rangeD 0 ((f.ns : Int).toNat)).length) := by
    rw [range_len, Int.toNat_natCast]
    exact (BoxAt.pre p1 hb.app).less (by omega)
  refine each_drawJ (k := k) (u := 1) fr (Bd 40) (fun S' => S'[S.length]? = some (Ob.lst (q5.map fr))) (fun A B kk j => kk.get j (Nat.ne_of_gt hk)) (fun d b S' Q E j hb hq => ?_) _ _ S1 _ _ g1 hb1 fun S2 xs k2 b2 l2 o2 => ?_
  · simp only [Wx_var, Wx_con, Wx_glob, Wx_bin, Wx_neg, Wx_negI, Wx_not, Wx_cmp, Wx_and, Wx_or, Wx_ite, Wx_tup, Wx_lst, Wx_idx, Wx_slice, Wx_call, Wx_bi, Wx_isi, Wx_meth, Wx_nil, Wx_cons, Wx_onone, Wx_osome, Wx_cnone, Wx_csome, Wx_add, Wx_addT, Wx_sub, Wx_mul, Wx_fdiv, Wx_mod, Wx_tbl, Wx_tint, Wx_eqI, Wx_eqS, Wx_eqB, Wx_neI, Wx_ltI, Wx_leI, Wx_gtI, Wx_geI, Wx_idxT, atD_0, atD_1, atD_2, Wx_abs, Wx_intI, Wx_intB, Wx_cutT, Wx_srcT, Wx_range, Wx_ret, Wx_cond, List.getElem?_cons_zero, List.getElem?_cons_succ, List.length_cons, List.length_nil, List.set_cons_zero, List.set_cons_succ, decide_eq_true_eq, bne_iff_ne, Wx_turn, wipeD, Ws_nil, Ws_cons, Ws_asg, Ws_par, Ws_expr, Ws_ret, Ws_retn, Ws_pass, Ws_ite, asgD, setAll, if_true]
    refine w_pick (n := n + 1) hb j (Nat.ne_of_gt hk) (by unfold q5; simp) fun S3 x k3 b3 m3 => ?_
    obtain ⟨q, hq', rfl⟩ := List.mem_map.mp m3
    exact hq S3 q k3 b3 (q5_ok q hq')
  · rw [range_len, Int.toNat_natCast] at l2
    refine ⟨by rw [List.length_map, l2]; unfold line; omega, ?_⟩
    rw [Wx_tuple (seq_lst get_last)]
    refine w_lheld f.sz f (Nat.le_refl _) (by omega) (n + 3) _ _ _ (by omega) fun S3 p3 => ?_
    rw [Wx_range, fold_nh]
    refine ⟨by omega, ?_⟩
    have ek : Kp k S S3 := (k1.trans k2).trans (Kp.app.trans (Kp.pre p3))
    have hb3 : BoxAt S3 k (b + 1 * (rangeD 0 ((f.nh : Int).toNat)).length) := by
      rw [range_len, Int.toNat_natCast]
      exact (BoxAt.pre p3 b2.app).less (by omega)
    refine each_drawJ (k := k) (u := 1) pr okP (fun _ => True) (fun _ _ _ j => j) (fun d b S' Q E j hb hq => ?_) _ _ S3 _ _ trivial hb3 fun S4 ys k4 b4 l4 o4 => ?_
    · simp only [Wx_var, Wx_con, Wx_glob, Wx_bin, Wx_neg, Wx_negI, Wx_not, Wx_cmp, Wx_and, Wx_or, Wx_ite, Wx_tup, Wx_lst, Wx_idx, Wx_slice, Wx_call, Wx_bi, Wx_isi, Wx_meth, Wx_nil, Wx_cons, Wx_onone, Wx_osome, Wx_cnone, Wx_csome, Wx_add, Wx_addT, Wx_sub, Wx_mul, Wx_fdiv, Wx_mod, Wx_tbl, Wx_tint, Wx_eqI, Wx_eqS, Wx_eqB, Wx_neI, Wx_ltI, Wx_leI, Wx_gtI, Wx_geI, Wx_idxT, atD_0, atD_1, atD_2, Wx_abs, Wx_intI, Wx_intB, Wx_cutT, Wx_srcT, Wx_range, Wx_ret, Wx_cond, List.getElem?_cons_zero, List.getElem?_cons_succ, List.length_cons, List.length_nil, List.set_cons_zero, List.set_cons_succ, decide_eq_true_eq, bne_iff_ne, Wx_turn, wipeD, Ws_nil, Ws_cons, Ws_asg, Ws_par, Ws_expr, Ws_ret, Ws_retn, Ws_pass, Ws_ite, asgD, setAll, if_true]
      refine ⟨by decide, by decide, by decide, by decide, by decide, by decide, by decide, by decide, by decide, by decide, by decide, by decide, by decide, ?_⟩
      rw [← p4_d]
      refine w_pick (n := n + 1) hb.app get_last (Nat.ne_of_gt hb.lt) (by unfold p4; simp) fun S5 x k5 b5 m5 => ?_
      obtain ⟨q, hq', rfl⟩ := List.mem_map.mp m5
      exact hq S5 q (Kp.app.trans k5) b5 (p4_ok q hq')
    · rw [range_len, Int.toNat_natCast] at l4
      refine ⟨by rw [List.length_map, l4]; unfold line; omega, ?_⟩
      rw [Wx_tuple (seq_lst get_last)]
      exact ⟨by decide, h _ (xs, ys) ((ek.trans k4).trans Kp.app) b4.app ⟨o2, o4⟩ l2 l4⟩
end K03

set_option Elab.async false
set_option linter.all false
set_option maxRecDepth 100000
set_option maxHeartbeats 4000000
set_option autoImplicit false
/-! k03, the plain law: the choices that rule, as lists of ints. -/
namespace K03
open Ev
abbrev Row1 := List Int
def on0 (i : Int) (rows : List Row1) : List Row1 := rows.map (i :: ·)
def heldR (p : Rat × Rat) (v : Rat) (rows : List Row1) : List Row1 := (if ¬ v < p.1 ∧ ¬ p.2 < v then on0 0 rows else []) ++ (if p.1 < v then [] else [[1]]) ++ (if v < p.2 then [] else [[2]])
def sizeR (v : Rat) (rows : List Row1) : List Row1 := (if v < 0 then [] else on0 0 rows) ++ (if 0 < v then [] else on0 1 rows)
def joinR (rows some : List Row1) : List Row1 := rows.flatMap fun one => some.map (one ++ ·)
mutual
def F.rul (inp : List Rat) : F → St → List Row1
  | .sum rs, st => rs.rul inp [[]] (st.1.tail, st.2)
  | .top g fs, st => fs.rul inp (best g (fs.vals inp st).1) 0 st
  | .size f, st => sizeR (f.val inp st).1 (f.rul inp st)
  | .held f, st => heldR (st.2.headD (0, 0)) (f.val inp (st.1, st.2.tail)).1 (f.rul inp (st.1, st.2.tail))
def Rs.rul (inp : List Rat) : Rs → List Row1 → St → List Row1
  | .nil, rows, st => rows
  | .leaf _ _ r, rows, st => r.rul inp rows st
  | .node _ f r, rows, st => r.rul inp (joinR rows (f.rul inp st)) (f.val inp st).2
def Fs.rul (inp : List Rat) : Fs → Rat → Nat → St → List Row1
  | .nil, b, i, st => []
  | .cons f r, b, i, st => (if (f.val inp st).1 = b then on0 (i : Int) (f.rul inp st) else []) ++ r.rul inp b (i + 1) (f.val inp st).2
end
/-- the first of two lists comes first, and neither begins the other -/
def Below (a b : Row1) : Prop := ∃ (p : Row1) (x y : Int) (r s : Row1), a = p ++ x :: r ∧ b = p ++ y :: s ∧ x < y
theorem Below.app {a b : Row1} (p : Row1) (h : Below a b) : Below (p ++ a) (p ++ b) := by
  obtain ⟨q, x, y, r, s, rfl, rfl, l⟩ := h
  exact ⟨p ++ q, x, y, r, s, (List.append_assoc ..).symm, (List.append_assoc ..).symm, l⟩
theorem Below.more {a b : Row1} (r s : Row1) (h : Below a b) : Below (a ++ r) (b ++ s) := by
  obtain ⟨q, x, y, r', s', rfl, rfl, l⟩ := h
  exact ⟨q, x, y, r' ++ r, s' ++ s, by rw [List.append_assoc]; rfl, by rw [List.append_assoc]; rfl, l⟩
theorem Below.head {x y : Int} (r s : Row1) (h : x < y) : Below (x :: r) (y :: s) := ⟨[], x, y, r, s, rfl, rfl, h⟩
abbrev Ups (rows : List Row1) : Prop := rows.Pairwise Below
theorem ups_on {i : Int} {rows : List Row1} (h : Ups rows) : Ups (on0 i rows) := by
  unfold on0
  exact List.pairwise_map.mpr (h.imp fun {a b} z => Below.app [i] z)
theorem on0_mem {i : Int} {rows : List Row1} {r : Row1} (h : r ∈ on0 i rows) : ∃ s ∈ rows, r = i :: s := by
  obtain ⟨s, hs, rfl⟩ := List.mem_map.mp h
  exact ⟨s, hs, rfl⟩
theorem ups_join {rows some : List Row1} (h1 : Ups rows) (h2 : Ups some) : Ups (joinR rows some) := by
  unfold joinR
  refine List.pairwise_flatMap.mpr ⟨fun a _ => List.pairwise_map.mpr (h2.imp fun {x y} z => Below.app a z), h1.imp fun {a b} z x hx y hy => ?_⟩
  obtain ⟨x', _, rfl⟩ := List.mem_map.mp hx
  obtain ⟨y', _, rfl⟩ := List.mem_map.mp hy
  exact z.more _ _
theorem ups_nil : Ups [] := List.Pairwise.nil
theorem ups_one (r : Row1) : Ups [r] := List.pairwise_singleton _ _
theorem ups_size {v : Rat} {rows : List Row1} (h : Ups rows) : Ups (sizeR v rows) := by
  unfold sizeR
  refine List.pairwise_append.mpr ⟨?_, ?_, fun a ha b hb => ?_⟩
  · split
    · exact ups_nil
    · exact ups_on h
  · split
    · exact ups_nil
    · exact ups_on h
  · split at ha
    · cases ha
    · split at hb
      · cases hb
      · obtain ⟨a', _, rfl⟩ := on0_mem ha
        obtain ⟨b', _, rfl⟩ := on0_mem hb
        exact Below.head _ _ (by decide)
theorem ups_held {p : Rat × Rat} {v : Rat} {rows : List Row1} (h : Ups rows) : Ups (heldR p v rows) := by
  unfold heldR
  have m1 : ∀ a ∈ (if ¬ v < p.1 ∧ ¬ p.2 < v then on0 0 rows else []), ∃ a', a = 0 :: a' := fun a ha => by
    split at ha
    · obtain ⟨a', _, rfl⟩ := on0_mem ha
      exact ⟨a', rfl⟩
    · cases ha
  have m2 : ∀ a ∈ (if p.1 < v then [] else [[1]] : List Row1), a = [1] := fun a ha => by
    split at ha
    · cases ha
    · exact List.mem_singleton.mp ha
  have m3 : ∀ a ∈ (if v < p.2 then [] else [[2]] : List Row1), a = [2] := fun a ha => by
    split at ha
    · cases ha
    · exact List.mem_singleton.mp ha
  refine List.pairwise_append.mpr ⟨List.pairwise_append.mpr ⟨?_, ?_, fun a ha b hb => ?_⟩, ?_, fun a ha b hb => ?_⟩
  · split
    · exact ups_on h
    · exact ups_nil
  · split
    · exact ups_nil
    · exact ups_one _
  · obtain ⟨a', rfl⟩ := m1 a ha
    rw [m2 b hb]
    exact Below.head _ _ (by decide)
  · split
    · exact ups_nil
    · exact ups_one _
  · rw [m3 b hb]
    rcases List.mem_append.mp ha with ha | ha
    · obtain ⟨a', rfl⟩ := m1 a ha
      exact Below.head _ _ (by decide)
    · rw [m2 a ha]
      exact Below.head _ _ (by decide)
theorem tops_mem {inp : List Rat} {b : Rat} : ∀ (fs : Fs) (i : Nat) (st : St), ∀ a ∈ fs.rul inp b i st, ∃ (j : Nat) (a' : Row1), i ≤ j ∧ a = (j : Int) :: a'
  | .nil, i, st, a, ha => by cases ha
  | .cons f r, i, st, a, ha => by
    have ha : a ∈ (if (f.val inp st).1 = b then on0 (i : Int) (f.rul inp st) else []) ++ r.rul inp b (i + 1) (f.val inp st).2 := ha
    rcases List.mem_append.mp ha with ha | ha
    · split at ha
      · obtain ⟨a', _, rfl⟩ := on0_mem ha
        exact ⟨i, a', Nat.le_refl _, rfl⟩
      · cases ha
    · obtain ⟨j, a', hj, e⟩ := tops_mem r (i + 1) _ a ha
      exact ⟨j, a', by omega, e⟩
mutual
theorem rul_ups (inp : List Rat) : ∀ (f : F) (st : St), Ups (f.rul inp st)
  | .sum rs, st => ruls_ups inp rs [[]] _ (ups_one _)
  | .top g fs, st => rult_ups inp fs _ 0 st
  | .size f, st => ups_size (rul_ups inp f st)
  | .held f, st => ups_held (rul_ups inp f _)
theorem ruls_ups (inp : List Rat) : ∀ (rs : Rs) (rows : List Row1) (st : St), Ups rows → Ups (rs.rul inp rows st)
  | .nil, rows, st, h => h
  | .leaf _ _ r, rows, st, h => ruls_ups inp r rows st h
  | .node _ f r, rows, st, h => ruls_ups inp r _ _ (ups_join h (rul_ups inp f st))
theorem rult_ups (inp : List Rat) : ∀ (fs : Fs) (b : Rat) (i : Nat) (st : St), Ups (fs.rul inp b i st)
  | .nil, b, i, st => ups_nil
  | .cons f r, b, i, st => by
    show Ups ((if (f.val inp st).1 = b then on0 (i : Int) (f.rul inp st) else []) ++ r.rul inp b (i + 1) (f.val inp st).2)
    refine List.pairwise_append.mpr ⟨?_, rult_ups inp r b _ _, fun x hx y hy => ?_⟩
    · split
      · exact ups_on (rul_ups inp f st)
      · exact ups_nil
    · split at hx
      · obtain ⟨x', _, rfl⟩ := on0_mem hx
        obtain ⟨j, y', hj, rfl⟩ := tops_mem r (i + 1) _ y hy
        exact Below.head _ _ (by omega)
      · cases hx
end
end K03

set_option Elab.async false
set_option linter.all false
set_option maxRecDepth 100000
set_option maxHeartbeats 4000000
set_option autoImplicit false
/-! k03, the plain law: how many rows there are, and how long. -/
namespace K03
open Ev
theorem join_len (a b : List Row1) : (joinR a b).length = a.length * b.length := by
  unfold joinR
  induction a with
  | nil => simp
  | cons x r ih =>
    rw [List.flatMap_cons, List.length_append, ih, List.length_map, List.length_cons, Nat.add_mul, Nat.one_mul, Nat.add_comm]
theorem on0_len (i : Int) (a : List Row1) : (on0 i a).length = a.length := List.length_map _
theorem size_len (v : Rat) (a : List Row1) : (sizeR v a).length ≤ a.length * 2 := by
  unfold sizeR
  rw [List.length_append]
  split <;> split <;> simp only [on0_len, List.length_nil] <;> omega
theorem held_len (p : Rat × Rat) (v : Rat) (a : List Row1) : (heldR p v a).length ≤ a.length + 2 := by
  unfold heldR
  rw [List.length_append, List.length_append]
  split <;> split <;> split <;> simp only [on0_len, List.length_nil, List.length_singleton] <;> omega
mutual
theorem rul_len (inp : List Rat) : ∀ (f : F) (st : St), ((f.rul inp st).length : Int) ≤ f.fold aMany
  | .sum rs, st => by
    have h := ruls_len inp rs [[]] (st.1.tail, st.2)
    show ((rs.rul inp [[]] (st.1.tail, st.2)).length : Int) ≤ prodI (rs.folds aMany)
    have e : (([[]] : List Row1).length : Int) = 1 := rfl
    rw [e, Int.one_mul] at h
    exact h
  | .top g fs, st => by
    have h := rult_len inp fs (best g (fs.vals inp st).1) 0 st
    have e : (F.top g fs).fold aMany = (fs.folds aMany).sum := by cases g <;> (show _ * (1 : Int) + 0 = _; omega)
    rw [e]
    exact h
  | .size f, st => by
    have h := rul_len inp f st
    have h2 := size_len (f.val inp st).1 (f.rul inp st)
    show ((sizeR _ (f.rul inp st)).length : Int) ≤ (f.fold aMany + 0) * 2 + 0
    omega
  | .held f, st => by
    have h := rul_len inp f (st.1, st.2.tail)
    have h2 := held_len (st.2.headD (0, 0)) (f.val inp (st.1, st.2.tail)).1 (f.rul inp (st.1, st.2.tail))
    show ((heldR _ _ (f.rul inp (st.1, st.2.tail))).length : Int) ≤ (f.fold aMany + 0) * 1 + 2
    omega
theorem ruls_len (inp : List Rat) : ∀ (rs : Rs) (rows : List Row1) (st : St), ((rs.rul inp rows st).length : Int) ≤ (rows.length : Int) * prodI (rs.folds aMany)
  | .nil, rows, st => by
    show (rows.length : Int) ≤ rows.length * 1
    omega
  | .leaf _ _ r, rows, st => ruls_len inp r rows st
  | .node _ f r, rows, st => by
    have h1 := rul_len inp f st
    have h2 := ruls_len inp r (joinR rows (f.rul inp st)) (f.val inp st).2
    have h3 := folds_pos r
    show ((r.rul inp (joinR rows (f.rul inp st)) (f.val inp st).2).length : Int) ≤ (rows.length : Int) * prodI (f.fold aMany :: r.folds aMany)
    rw [prod_cons]
    refine Int.le_trans h2 ?_
    rw [join_len, Int.natCast_mul, Int.mul_assoc]
    exact Int.mul_le_mul_of_nonneg_left (Int.mul_le_mul_of_nonneg_right h1 h3) (by omega)
theorem rult_len (inp : List Rat) : ∀ (fs : Fs) (b : Rat) (i : Nat) (st : St), ((fs.rul inp b i st).length : Int) ≤ (fs.folds aMany).sum
  | .nil, b, i, st => Int.le_refl _
  | .cons f r, b, i, st => by
    have h1 := rul_len inp f st
    have h2 := rult_len inp r b (i + 1) (f.val inp st).2
    show (((if (f.val inp st).1 = b then on0 (i : Int) (f.rul inp st) else []) ++ r.rul inp b (i + 1) (f.val inp st).2).length : Int) ≤ f.fold aMany + (r.folds aMany).sum
    rw [List.length_append]
    have h3 : (if (f.val inp st).1 = b then on0 (i : Int) (f.rul inp st) else []).length ≤ (f.rul inp st).length := by
      split
      · rw [on0_len]; exact Nat.le_refl _
      · exact Nat.zero_le _
    omega
theorem folds_pos : ∀ (rs : Rs), 0 ≤ prodI (rs.folds aMany)
  | .nil => by decide
  | .leaf _ _ r => folds_pos r
  | .node _ f r => by
    show 0 ≤ prodI (f.fold aMany :: r.folds aMany)
    rw [prod_cons]
    exact Int.mul_nonneg (many_le f).1 (folds_pos r)
end
mutual
theorem rul_row (inp : List Rat) : ∀ (f : F) (st : St), ∀ r ∈ f.rul inp st, r.length ≤ f.sz
  | .sum rs, st, r, hr => by
    have := ruls_row inp rs 0 [[]] (st.1.tail, st.2) (fun x hx => by rw [List.mem_singleton.mp hx]; exact Nat.le_refl _) r hr
    show r.length ≤ rs.sz + 1
    omega
  | .top g fs, st, r, hr => rult_row inp fs (best g (fs.vals inp st).1) 0 st r hr
  | .size f, st, r, hr => by
    have hr : r ∈ sizeR (f.val inp st).1 (f.rul inp st) := hr
    show r.length ≤ f.sz + 1
    unfold sizeR at hr
    rcases List.mem_append.mp hr with hr | hr
    · split at hr
      · cases hr
      · obtain ⟨s, hs, rfl⟩ := on0_mem hr
        exact Nat.succ_le_succ (rul_row inp f st s hs)
    · split at hr
      · cases hr
      · obtain ⟨s, hs, rfl⟩ := on0_mem hr
        exact Nat.succ_le_succ (rul_row inp f st s hs)
  | .held f, st, r, hr => by
    have hr : r ∈ heldR (st.2.headD (0, 0)) (f.val inp (st.1, st.2.tail)).1 (f.rul inp (st.1, st.2.tail)) := hr
    show r.length ≤ f.sz + 1
    unfold heldR at hr
    rcases List.mem_append.mp hr with hr | hr
    · rcases List.mem_append.mp hr with hr | hr
      · split at hr
        · obtain ⟨s, hs, rfl⟩ := on0_mem hr
          exact Nat.succ_le_succ (rul_row inp f _ s hs)
        · cases hr
      · split at hr
        · cases hr
        · rw [List.mem_singleton.mp hr]
          exact Nat.succ_le_succ (Nat.zero_le _)
    · split at hr
      · cases hr
      · rw [List.mem_singleton.mp hr]
        exact Nat.succ_le_succ (Nat.zero_le _)
theorem ruls_row (inp : List Rat) : ∀ (rs : Rs) (L : Nat) (rows : List Row1) (st : St), (∀ r ∈ rows, r.length ≤ L) → ∀ r ∈ rs.rul inp rows st, r.length ≤ L + rs.sz
  | .nil, L, rows, st, h, r, hr => h r hr
  | .leaf _ _ q, L, rows, st, h, r, hr => by
    have := ruls_row inp q L rows st h r hr
    show r.length ≤ L + (q.sz + 1)
    omega
  | .node _ f q, L, rows, st, h, r, hr => by
    have := ruls_row inp q (L + f.sz) (joinR rows (f.rul inp st)) _ (fun x hx => by
      unfold joinR at hx
      obtain ⟨a, ha, hx⟩ := List.mem_flatMap.mp hx
      obtain ⟨b, hb, rfl⟩ := List.mem_map.mp hx
      have h1 := h a ha
      have h2 := rul_row inp f st b hb
      rw [List.length_append]
      omega) r hr
    show r.length ≤ L + (f.sz + q.sz + 1)
    omega
theorem rult_row (inp : List Rat) : ∀ (fs : Fs) (b : Rat) (i : Nat) (st : St), ∀ r ∈ fs.rul inp b i st, r.length ≤ fs.sz + 1
  | .nil, b, i, st, r, hr => by cases hr
  | .cons f q, b, i, st, r, hr => by
    have hr : r ∈ (if (f.val inp st).1 = b then on0 (i : Int) (f.rul inp st) else []) ++ q.rul inp b (i + 1) (f.val inp st).2 := hr
    show r.length ≤ f.sz + q.sz + 1 + 1
    rcases List.mem_append.mp hr with hr | hr
    · split at hr
      · obtain ⟨s, hs, rfl⟩ := on0_mem hr
        have := rul_row inp f st s hs
        rw [List.length_cons]
        omega
      · cases hr
    · have := rult_row inp q b (i + 1) _ r hr
      omega
end
end K03

set_option Elab.async false
set_option linter.all false
set_option maxRecDepth 100000
set_option maxHeartbeats 4000000
set_option autoImplicit false
/-! k03, the plain law: sorted leaves the rows as they are. -/
namespace K03
open Ev PyProof.Rows
def rowD (r : Row1) : D := .tup (r.map D.int)
theorem row_key : ∀ r : Row1, (r.map D.int).filterMap itemK = r.map Sum.inl
  | [] => rfl
  | x :: r => by
    rw [List.map_cons, List.map_cons, List.filterMap_cons, row_key r]
    rfl
theorem below_lt {x y : Int} (h : x < y) (r s : List (Int ⊕ List Nat)) : ∀ p : Row1, lexLt itemOrd (p.map Sum.inl ++ Sum.inl y :: s) (p.map Sum.inl ++ Sum.inl x :: r) = false
  | [] => by
    show (decide (y < x) || (!decide (x < y) && _)) = false
    rw [decide_eq_false (by omega), decide_eq_true h]
    rfl
  | z :: p => by
    show (decide (z < z) || (!decide (z < z) && lexLt itemOrd (p.map Sum.inl ++ Sum.inl y :: s) (p.map Sum.inl ++ Sum.inl x :: r))) = false
    rw [below_lt h r s p, decide_eq_false (by omega)]
    rfl
theorem below_le {a b : Row1} (h : Below a b) : leD (rowD a) (rowD b) := by
  obtain ⟨p, x, y, r, s, rfl, rfl, l⟩ := h
  show lexLt itemOrd (((p ++ y :: s).map D.int).filterMap itemK) (((p ++ x :: r).map D.int).filterMap itemK) = false
  rw [row_key, row_key, List.map_append, List.map_append, List.map_cons, List.map_cons]
  exact below_lt l _ _ p
theorem row_fits : ∀ (r : Row1) (i : Nat), fitsD (fun _ => false) i (r.map D.int) = true
  | [], i => rfl
  | x :: r, i => by
    show (!false && fitsD (fun _ => false) (i + 1) (r.map D.int)) = true
    rw [row_fits r]
    rfl
theorem below_ne {a b : Row1} (h : Below a b) : a ≠ [] ∧ b ≠ [] := by
  obtain ⟨p, x, y, r, s, rfl, rfl, l⟩ := h
  exact ⟨by simp, by simp⟩
theorem ups_ne {rows : List Row1} (h : Ups rows) (hl : 2 ≤ rows.length) : ∀ r ∈ rows, r ≠ [] := by
  match rows, h, hl with
  | a :: b :: l, h, _ =>
    have h := List.pairwise_cons.mp h
    intro r hr
    rcases List.mem_cons.mp hr with rfl | hr
    · exact (below_ne (h.1 b List.mem_cons_self)).1
    · exact (below_ne (h.1 r hr)).2
theorem sorted_rows {rows : List Row1} (h : Ups rows) : sortedD (rows.map rowD) = some (rows.map rowD) := by
  refine sortedD_of ?_ (List.Perm.refl _) (.inr (List.pairwise_map.mpr (h.imp fun {a b} z => below_le z)))
  by_cases hl : rows.length < 2
  · exact .inl (by rw [List.length_map]; exact hl)
  · refine .inr ⟨fun _ => false, fun x hx => ?_⟩
    obtain ⟨r, hr, rfl⟩ := List.mem_map.mp hx
    refine ⟨r.map D.int, rfl, ?_, row_fits r 0⟩
    have := ups_ne h (by omega) r hr
    intro z
    exact this (List.map_eq_nil_iff.mp z)
end K03

set_option Elab.async false
set_option linter.all false
set_option maxRecDepth 100000
set_option maxHeartbeats 4000000
set_option autoImplicit false
/-! k03, the plain law: the module's side_of and joined_choices. -/
namespace K03
open Ev
def sideL (p : Rat × Rat) (v : Rat) : List Int := (if ¬ v < p.1 ∧ ¬ p.2 < v then [0] else []) ++ (if p.1 < v then [] else [1]) ++ (if v < p.2 then [] else [2])
theorem cmpr_ge {a b : Rat} : cmpr a b ≥ 0 ↔ ¬ a < b := by
  rw [← cmpr_neg]
  omega
theorem cmpr_le {a b : Rat} : cmpr a b ≤ 0 ↔ ¬ b < a := by
  rw [← cmpr_pos]
  omega
section
variable {S : Store} {Q : D → Store → Prop} {E : Ex}
theorem w_side {n k : Nat} (p : Rat × Rat) (v : Rat) (hv : Bd k v) (h1 : Bd 40 p.1) (h2 : Bd 40 p.2) (hk : k < 90000000) (h : ∀ S' r, S <+: S' → S'[r]? = some (.lst ((sideL p v).map D.int)) → Q (.ref r) S') : Wx (run P (n + 2) 16 [fr v, fr p.1, fr p.2]) S Q E := by
  rw [r_side_of, Wx_end]
  unfold b_side_of
  simp only [Wx_var, Wx_con, Wx_glob, Wx_bin, Wx_neg, Wx_negI, Wx_not, Wx_cmp, Wx_and, Wx_or, Wx_ite, Wx_tup, Wx_lst, Wx_idx, Wx_slice, Wx_call, Wx_bi, Wx_isi, Wx_meth, Wx_nil, Wx_cons, Wx_onone, Wx_osome, Wx_cnone, Wx_csome, Wx_add, Wx_addT, Wx_sub, Wx_mul, Wx_fdiv, Wx_mod, Wx_tbl, Wx_tint, Wx_eqI, Wx_eqS, Wx_eqB, Wx_neI, Wx_ltI, Wx_leI, Wx_gtI, Wx_geI, Wx_idxT, atD_0, atD_1, atD_2, Wx_abs, Wx_intI, Wx_intB, Wx_cutT, Wx_srcT, Wx_range, Wx_ret, Wx_cond, List.getElem?_cons_zero, List.getElem?_cons_succ, List.length_cons, List.length_nil, List.set_cons_zero, List.set_cons_succ, decide_eq_true_eq, bne_iff_ne, Wx_turn, wipeD, Ws_nil, Ws_cons, Ws_asg, Ws_par, Ws_expr, Ws_ret, Ws_retn, Ws_pass, Ws_ite, asgD, setAll]
  refine w_compared v p.1 hv h1 (by omega) ?_
  refine w_compared v p.2 hv h2 (by omega) ?_
  simp only [Wx_var, Wx_con, Wx_glob, Wx_bin, Wx_neg, Wx_negI, Wx_not, Wx_cmp, Wx_and, Wx_or, Wx_ite, Wx_tup, Wx_lst, Wx_idx, Wx_slice, Wx_call, Wx_bi, Wx_isi, Wx_meth, Wx_nil, Wx_cons, Wx_onone, Wx_osome, Wx_cnone, Wx_csome, Wx_add, Wx_addT, Wx_sub, Wx_mul, Wx_fdiv, Wx_mod, Wx_tbl, Wx_tint, Wx_eqI, Wx_eqS, Wx_eqB, Wx_neI, Wx_ltI, Wx_leI, Wx_gtI, Wx_geI, Wx_idxT, atD_0, atD_1, atD_2, Wx_abs, Wx_intI, Wx_intB, Wx_cutT, Wx_srcT, Wx_range, Wx_ret, Wx_cond, List.getElem?_cons_zero, List.getElem?_cons_succ, List.length_cons, List.length_nil, List.set_cons_zero, List.set_cons_succ, decide_eq_true_eq, bne_iff_ne, Wx_turn, wipeD, Ws_nil, Ws_cons, Ws_asg, Ws_par, Ws_expr, Ws_ret, Ws_retn, Ws_pass, Ws_ite, asgD, setAll, cmpr_ge, cmpr_le]
  unfold sideL at h
  have fin : ∀ (a b c : List D) (u w : Nat), a.length ≤ 1 → b.length ≤ 1 → c.length = w → w ≤ 1 → u ≤ line → (∀ S' r, S <+: S' → S'[r]? = some (.lst (a ++ b ++ c)) → Q (.ref r) S') →
      Wx (binD .add (.ref S.length) (.ref (S ++ [Ob.lst a]).length)) ((S ++ [Ob.lst a]) ++ [Ob.lst b]) (fun x S1 => w ≤ line ∧ Wx (binD .add x (.ref S1.length)) (S1 ++ [Ob.lst c]) (fun d S1 => Q d S1) fun c v S1 => E c v S1) fun c v S1 => E c v S1 := by
    intro a b c u w la lb lc lw _ hh
    have l1 : (1 : Nat) ≤ line := by decide
    have l3 : (3 : Nat) ≤ line := by decide
    have g1 : (S ++ [Ob.lst a] ++ [Ob.lst b])[S.length]? = some (Ob.lst a) := get_app (List.prefix_append _ _) get_last
    rw [Wx_addL g1 get_last]
    refine ⟨by omega, by omega, ?_⟩
    rw [Wx_addL (get_app (List.prefix_append _ _) get_last) get_last]
    refine ⟨by rw [List.length_append]; omega, hh _ _ ?_ get_last⟩
    exact (((List.prefix_append _ _).trans (List.prefix_append _ _)).trans (List.prefix_append _ _)).trans ((List.prefix_append _ _).trans (List.prefix_append _ _))
  have o1 : 0 + 1 ≤ line := by decide
  by_cases c1 : v < p.1 <;> by_cases c2 : p.2 < v <;> by_cases c3 : p.1 < v <;> by_cases c4 : v < p.2 <;> simp only [c1, c2, c3, c4, not_true_eq_false, not_false_eq_true, and_true, and_false, true_and, false_and, if_true, if_false, Wx_var, Wx_con, Wx_glob, Wx_bin, Wx_neg, Wx_negI, Wx_not, Wx_cmp, Wx_and, Wx_or, Wx_ite, Wx_tup, Wx_lst, Wx_idx, Wx_slice, Wx_call, Wx_bi, Wx_isi, Wx_meth, Wx_nil, Wx_cons, Wx_onone, Wx_osome, Wx_cnone, Wx_csome, Wx_add, Wx_addT, Wx_sub, Wx_mul, Wx_fdiv, Wx_mod, Wx_tbl, Wx_tint, Wx_eqI, Wx_eqS, Wx_eqB, Wx_neI, Wx_ltI, Wx_leI, Wx_gtI, Wx_geI, Wx_idxT, atD_0, atD_1, atD_2, Wx_abs, Wx_intI, Wx_intB, Wx_cutT, Wx_srcT, Wx_range, Wx_ret, Wx_cond, List.getElem?_cons_zero, List.getElem?_cons_succ, List.length_cons, List.length_nil, List.set_cons_zero, List.set_cons_succ, decide_eq_true_eq, bne_iff_ne, Wx_turn, wipeD, Ws_nil, Ws_cons, Ws_asg, Ws_par, Ws_expr, Ws_ret, Ws_retn, Ws_pass, Ws_ite, asgD, setAll] at h ⊢
  all_goals first
    | exact ⟨Nat.zero_le _, Nat.zero_le _, fin _ _ _ 0 _ (by decide) (by decide) rfl (by decide) (Nat.zero_le _) h⟩
    | exact ⟨Nat.zero_le _, o1, fin _ _ _ 0 _ (by decide) (by decide) rfl (by decide) (Nat.zero_le _) h⟩
    | exact ⟨o1, Nat.zero_le _, fin _ _ _ 0 _ (by decide) (by decide) rfl (by decide) (Nat.zero_le _) h⟩
    | exact ⟨o1, o1, fin _ _ _ 0 _ (by decide) (by decide) rfl (by decide) (Nat.zero_le _) h⟩
end
end K03

set_option Elab.async false
set_option linter.all false
set_option maxRecDepth 100000
set_option maxHeartbeats 4000000
set_option autoImplicit false
/-! k03, the plain law: loops that change nothing, and joined_choices. -/
namespace K03
open Ev
theorem each_pure {f : D → M (List D)} {g : D → List D} {S0 S : Store} {ks : List Nat} {E : Ex} (hk : kept S0 S ks) : ∀ (items : List D), (∀ d ∈ items, ∀ Q : List D → Store → Prop, Q (g d) S → Wx (f d) S Q E) → ∀ (Q : List D → Store → Prop), Q (items.flatMap g) S → Wx (eachD S0 ks f items) S Q E
  | [], hf, Q, h => by
    rw [Wx_each_nil]
    exact ⟨hk, h⟩
  | d :: items, hf, Q, h => by
    rw [Wx_each_cons]
    refine ⟨hk, hf d List.mem_cons_self _ ?_⟩
    refine each_pure hk items (fun x hx => hf x (List.mem_cons_of_mem _ hx)) _ ?_
    rw [List.flatMap_cons] at h
    exact h
theorem Wx_condD {k : Bool} {a b : M (List D)} {S : Store} {Q : List D → Store → Prop} {E : Ex} : Wx (condD k a b) S Q E = if k = true then Wx a S Q E else Wx b S Q E := by
  cases k <;> rfl
theorem Wx_turn2 {δ : Env} {t t2 : Tg} {vs vs2 : List Nat} {fc fc2 : Env → M Bool} {fi : Env → M Its} {fe : Env → M D} {d : D} {S : Store} {Q : List D → Store → Prop} {E : Ex} : Wx (turnC2 t vs δ fc fi t2 vs2 fc2 fe d) S Q E = match asgD t d (wipeD δ vs) with | some δ1 => Wx (fc δ1) S (fun k S1 => if k = true then Wx (fi δ1) S1 (fun its S2 => Wx (eachD S2 its.keep (turnC t2 vs2 δ1 fc2 fe) its.items) S2 Q E) E else Q [] S1) E | none => False := by
  unfold turnC2
  rw [Wx_bind]
  show Sat (M.opt (asgD t d (wipeD δ vs)) S) _ _ = _
  cases asgD t d (wipeD δ vs) with
  | none => rfl
  | some δ1 =>
    show Wx (M.bind _ _) S Q E = _
    simp only [Wx_bind, Wx_condD, Wx_get, Wx_ret]
theorem keptRefl (S : Store) (ks : List Nat) : kept S S ks := fun _ _ => rfl
theorem rowD_eq (a : Row1) : rowD a = .tup (a.map D.int) := rfl
theorem rowD_app (a b : Row1) : D.tup (a.map D.int ++ b.map D.int) = rowD (a ++ b) := by
  unfold rowD
  rw [List.map_append]
theorem flat_rows (x : Row1) (b : List Row1) : (b.map rowD).flatMap (fun d => match d with | .tup ys => [D.tup (x.map D.int ++ ys)] | _ => []) = (b.map (x ++ ·)).map rowD := by
  induction b with
  | nil => rfl
  | cons y r ih =>
    rw [List.map_cons, List.flatMap_cons, ih, List.map_cons, List.map_cons, ← rowD_app]
    rfl
theorem flat_join (a b : List Row1) : (a.map rowD).flatMap (fun d => match d with | .tup xs => (b.map rowD).flatMap (fun e => match e with | .tup ys => [D.tup (xs ++ ys)] | _ => []) | _ => []) = (joinR a b).map rowD := by
  induction a with
  | nil => rfl
  | cons x r ih =>
    rw [List.map_cons, List.flatMap_cons, ih]
    have e : joinR (x :: r) b = b.map (x ++ ·) ++ joinR r b := by unfold joinR; rw [List.flatMap_cons]
    rw [e, List.map_append, ← flat_rows]
    rfl
section
variable {N : Env → Store → Prop} {Q : Fl × Env → Store → Prop}
def joinRow : ISs := match b_joined_choices with
  | .cons _ (.cons (.for_ _ _ _ t) _) => t
  | _ => .nil
theorem join_step {C : Calls} {S : Store} {r q : Nat} {a b : List Row1} {x0 o3 o4 : Option D} (ha : S[r]? = some (.lst (a.map rowD))) (hb : S[q]? = some (.lst (b.map rowD))) (hl : a.length * b.length ≤ line) (hr : ∀ x ∈ a, ∀ y ∈ b, x.length + y.length ≤ line) (h : N [x0, some (.ref S.length), some (.ref q), o3, o4] (S ++ [Ob.lst ((joinR a b).map rowD)])) :
    Ws (denSs C joinRow [x0, some (.ref r), some (.ref q), o3, o4]) S N Q := by
  unfold joinRow b_joined_choices
  simp only [Wx_var, Wx_con, Wx_glob, Wx_bin, Wx_neg, Wx_negI, Wx_not, Wx_cmp, Wx_and, Wx_or, Wx_ite, Wx_tup, Wx_lst, Wx_idx, Wx_slice, Wx_call, Wx_bi, Wx_isi, Wx_meth, Wx_nil, Wx_cons, Wx_onone, Wx_osome, Wx_cnone, Wx_csome, Wx_add, Wx_addT, Wx_sub, Wx_mul, Wx_fdiv, Wx_mod, Wx_tbl, Wx_tint, Wx_eqI, Wx_eqS, Wx_eqB, Wx_neI, Wx_ltI, Wx_leI, Wx_gtI, Wx_geI, Wx_idxT, atD_0, atD_1, atD_2, Wx_abs, Wx_intI, Wx_intB, Wx_cutT, Wx_srcT, Wx_range, Wx_ret, Wx_cond, List.getElem?_cons_zero, List.getElem?_cons_succ, List.length_cons, List.length_nil, List.set_cons_zero, List.set_cons_succ, decide_eq_true_eq, bne_iff_ne, Wx_turn, wipeD, Ws_nil, Ws_cons, Ws_asg, Ws_par, Ws_expr, Ws_ret, Ws_retn, Ws_pass, Ws_ite, asgD, setAll, Wx_comp2]
  rw [Wx_srcL (seq_lst ha)]
  refine each_pure (g := fun d => match d with | .tup xs => (b.map rowD).flatMap (fun e => match e with | .tup ys => [D.tup (xs ++ ys)] | _ => []) | _ => []) (keptRefl S [r]) (a.map rowD) (fun d hd Q hq => ?_) _ ?_
  · obtain ⟨x, hx, rfl⟩ := List.mem_map.mp hd
    rw [rowD_eq x]
    simp only [Wx_turn2, Wx_bind, List.map_cons, List.map_nil, Wx_var, Wx_con, Wx_glob, Wx_bin, Wx_neg, Wx_negI, Wx_not, Wx_cmp, Wx_and, Wx_or, Wx_ite, Wx_tup, Wx_lst, Wx_idx, Wx_slice, Wx_call, Wx_bi, Wx_isi, Wx_meth, Wx_nil, Wx_cons, Wx_onone, Wx_osome, Wx_cnone, Wx_csome, Wx_add, Wx_addT, Wx_sub, Wx_mul, Wx_fdiv, Wx_mod, Wx_tbl, Wx_tint, Wx_eqI, Wx_eqS, Wx_eqB, Wx_neI, Wx_ltI, Wx_leI, Wx_gtI, Wx_geI, Wx_idxT, atD_0, atD_1, atD_2, Wx_abs, Wx_intI, Wx_intB, Wx_cutT, Wx_srcT, Wx_range, Wx_ret, Wx_cond, List.getElem?_cons_zero, List.getElem?_cons_succ, List.length_cons, List.length_nil, List.set_cons_zero, List.set_cons_succ, decide_eq_true_eq, bne_iff_ne, Wx_turn, wipeD, Ws_nil, Ws_cons, Ws_asg, Ws_par, Ws_expr, Ws_ret, Ws_retn, Ws_pass, Ws_ite, asgD, setAll, if_true]
    rw [Wx_srcL (seq_lst hb)]
    refine each_pure (g := fun e => match e with | .tup ys => [D.tup (x.map D.int ++ ys)] | _ => []) (keptRefl S [q]) (b.map rowD) (fun d hd Q hq => ?_) _ hq
    obtain ⟨y, hy, rfl⟩ := List.mem_map.mp hd
    rw [rowD_eq y]
    simp only [Wx_var, Wx_con, Wx_glob, Wx_bin, Wx_neg, Wx_negI, Wx_not, Wx_cmp, Wx_and, Wx_or, Wx_ite, Wx_tup, Wx_lst, Wx_idx, Wx_slice, Wx_call, Wx_bi, Wx_isi, Wx_meth, Wx_nil, Wx_cons, Wx_onone, Wx_osome, Wx_cnone, Wx_csome, Wx_add, Wx_addT, Wx_sub, Wx_mul, Wx_fdiv, Wx_mod, Wx_tbl, Wx_tint, Wx_eqI, Wx_eqS, Wx_eqB, Wx_neI, Wx_ltI, Wx_leI, Wx_gtI, Wx_geI, Wx_idxT, atD_0, atD_1, atD_2, Wx_abs, Wx_intI, Wx_intB, Wx_cutT, Wx_srcT, Wx_range, Wx_ret, Wx_cond, List.getElem?_cons_zero, List.getElem?_cons_succ, List.length_cons, List.length_nil, List.set_cons_zero, List.set_cons_succ, decide_eq_true_eq, bne_iff_ne, Wx_turn, wipeD, Ws_nil, Ws_cons, Ws_asg, Ws_par, Ws_expr, Ws_ret, Ws_retn, Ws_pass, Ws_ite, asgD, setAll, if_true]
    refine ⟨by rw [List.length_map, List.length_map]; exact hr x hx y hy, hq⟩
  · rw [flat_join]
    refine ⟨by rw [List.length_map, join_len]; exact hl, h⟩
end
end K03

set_option Elab.async false
set_option linter.all false
set_option maxRecDepth 100000
set_option maxHeartbeats 4000000
set_option autoImplicit false
/-! k03, the plain law: joined_choices. -/
namespace K03
open Ev
def fitsJ : List Row1 → List (List Row1) → Prop
  | _, [] => True
  | a, b :: r => a.length * b.length ≤ line ∧ (∀ x ∈ a, ∀ y ∈ b, x.length + y.length ≤ line) ∧ fitsJ (joinR a b) r
abbrev RowsAt (S : Store) (r : Nat) (a : List Row1) : Prop := S[r]? = some (.lst (a.map rowD))
section
variable {N : Env → Store → Prop} {Q : Fl × Env → Store → Prop}
theorem join_rows {C : Calls} {S0 : Store} {k b0 : Nat} (hk : k < S0.length) (hb0 : b0 ≤ S0.length) : ∀ (l : List (Nat × List Row1)) (a : List Row1) (r : Nat) (S : Store) (o2 o3 o4 : Option D), b0 ≤ r → S0 <+: S → RowsAt S r a → (∀ p ∈ l, RowsAt S p.1 p.2) → fitsJ a (l.map (·.2)) →
    (∀ S' r' o2 o3 o4, b0 ≤ r' → S <+: S' → RowsAt S' r' ((l.map (·.2)).foldl joinR a) → N [some (.ref k), some (.ref r'), o2, o3, o4] S') →
    Ws (forD S0 [k] (.name 2) (denSs C joinRow) (l.map fun p => D.ref p.1) [some (.ref k), some (.ref r), o2, o3, o4]) S N Q
  | [], a, r, S, o2, o3, o4, hbr, hp, ha, hl, hf, hN => by
    rw [List.map_nil, Ws_for_nil]
    exact ⟨pre_kept hp rfl hk, hN S r o2 o3 o4 hbr (List.prefix_refl _) ha⟩
  | p :: l, a, r, S, o2, o3, o4, hbr, hp, ha, hl, hf, hN => by
    rw [List.map_cons, Ws_for_cons]
    refine ⟨pre_kept hp rfl hk, ?_⟩
    simp only [asgD, List.set_cons_succ, List.set_cons_zero]
    refine join_step ha (hl p List.mem_cons_self) hf.1 hf.2.1 ?_
    refine join_rows hk hb0 l (joinR a p.2) _ _ _ _ _ (Nat.le_trans hb0 hp.length_le) (hp.trans (List.prefix_append _ _)) get_last (fun q hq => get_app (List.prefix_append _ _) (hl q (List.mem_cons_of_mem _ hq))) hf.2.2 fun S' r' o2 o3 o4 hb' p' h' => hN S' r' o2 o3 o4 hb' ((List.prefix_append _ _).trans p') h'
end
theorem w_joined {n k : Nat} {l : List (Nat × List Row1)} {S : Store} {Q : D → Store → Prop} {E : Ex} (hk : S[k]? = some (.lst (l.map fun p => D.ref p.1))) (hl : ∀ p ∈ l, RowsAt S p.1 p.2) (hf : fitsJ [[]] (l.map (·.2))) (h : ∀ S' r, S <+: S' → S.length ≤ r → RowsAt S' r ((l.map (·.2)).foldl joinR [[]]) → Q (.ref r) S') : Wx (run P (n + 1) 15 [.ref k]) S Q E := by
  have hlt : k < S.length := (List.getElem?_eq_some_iff.mp hk).1
  rw [r_joined_choices, Wx_end]
  unfold b_joined_choices
  simp only [Wx_var, Wx_con, Wx_glob, Wx_bin, Wx_neg, Wx_negI, Wx_not, Wx_cmp, Wx_and, Wx_or, Wx_ite, Wx_tup, Wx_lst, Wx_idx, Wx_slice, Wx_call, Wx_bi, Wx_isi, Wx_meth, Wx_nil, Wx_cons, Wx_onone, Wx_osome, Wx_cnone, Wx_csome, Wx_add, Wx_addT, Wx_sub, Wx_mul, Wx_fdiv, Wx_mod, Wx_tbl, Wx_tint, Wx_eqI, Wx_eqS, Wx_eqB, Wx_neI, Wx_ltI, Wx_leI, Wx_gtI, Wx_geI, Wx_idxT, atD_0, atD_1, atD_2, Wx_abs, Wx_intI, Wx_intB, Wx_cutT, Wx_srcT, Wx_range, Wx_ret, Wx_cond, List.getElem?_cons_zero, List.getElem?_cons_succ, List.length_cons, List.length_nil, List.set_cons_zero, List.set_cons_succ, decide_eq_true_eq, bne_iff_ne, Wx_turn, wipeD, Ws_nil, Ws_cons, Ws_asg, Ws_par, Ws_expr, Ws_ret, Ws_retn, Ws_pass, Ws_ite, asgD, setAll, Ws_for]
  refine ⟨by decide, ?_⟩
  rw [Wx_srcL (seq_lst (get_app (List.prefix_append _ _) hk))]
  have hlt2 : k < (S ++ [Ob.lst [D.tup []]]).length := by rw [List.length_append]; omega
  refine ⟨by decide, ?_⟩
  refine join_rows (b0 := S.length) hlt2 (by rw [List.length_append]; omega) l [[]] S.length _ _ _ _ (Nat.le_refl _) (List.prefix_refl _) get_last (fun p hp => get_app (List.prefix_append _ _) (hl p hp)) hf fun S' r' o2 o3 o4 hb' p' h' => ?_
  exact h S' r' ((List.prefix_append _ _).trans p') hb' h'
end K03

set_option Elab.async false
set_option linter.all false
set_option maxRecDepth 100000
set_option maxHeartbeats 4000000
set_option autoImplicit false
/-! k03, the plain law: the rows of a sum, part by part. -/
namespace K03
open Ev
def Rs.tl (inp : List Rat) : Rs → St → Row1 → Prop
  | .nil, _, t => t = []
  | .leaf _ _ r, st, t => r.tl inp st t
  | .node _ f r, st, t => ∃ a b, t = a ++ b ∧ a ∈ f.rul inp st ∧ r.tl inp (f.val inp st).2 b
theorem ruls_mem {inp : List Rat} : ∀ (rs : Rs) (rows : List Row1) (st : St) (x : Row1), x ∈ rs.rul inp rows st → ∃ a ∈ rows, ∃ t, x = a ++ t ∧ rs.tl inp st t
  | .nil, rows, st, x, hx => ⟨x, hx, [], (List.append_nil x).symm, rfl⟩
  | .leaf _ _ r, rows, st, x, hx => ruls_mem r rows st x hx
  | .node _ f r, rows, st, x, hx => by
    obtain ⟨a, ha, t, rfl, ht⟩ := ruls_mem r (joinR rows (f.rul inp st)) (f.val inp st).2 x hx
    unfold joinR at ha
    obtain ⟨p, hp, ha⟩ := List.mem_flatMap.mp ha
    obtain ⟨q, hq, rfl⟩ := List.mem_map.mp ha
    exact ⟨p, hp, q ++ t, List.append_assoc .., q, t, rfl, hq, ht⟩
theorem sum_mem {inp : List Rat} {rs : Rs} {st : St} {x : Row1} (h : x ∈ (F.sum rs).rul inp st) : rs.tl inp (st.1.tail, st.2) x := by
  obtain ⟨a, ha, t, rfl, ht⟩ := ruls_mem rs [[]] _ x h
  rw [List.mem_singleton.mp ha]
  exact ht
theorem size_mem {v : Rat} {rows : List Row1} {x : Row1} (h : x ∈ sizeR v rows) : (∃ y ∈ rows, x = 0 :: y ∧ ¬ v < 0) ∨ (∃ y ∈ rows, x = 1 :: y ∧ ¬ 0 < v) := by
  unfold sizeR at h
  rcases List.mem_append.mp h with h | h
  · split at h
    · cases h
    · rename_i c
      obtain ⟨y, hy, rfl⟩ := on0_mem h
      exact .inl ⟨y, hy, rfl, c⟩
  · split at h
    · cases h
    · rename_i c
      obtain ⟨y, hy, rfl⟩ := on0_mem h
      exact .inr ⟨y, hy, rfl, c⟩
theorem held_mem {p : Rat × Rat} {v : Rat} {rows : List Row1} {x : Row1} (h : x ∈ heldR p v rows) : (∃ y ∈ rows, x = 0 :: y ∧ ¬ v < p.1 ∧ ¬ p.2 < v) ∨ (x = [1] ∧ ¬ p.1 < v) ∨ (x = [2] ∧ ¬ v < p.2) := by
  unfold heldR at h
  rcases List.mem_append.mp h with h | h
  · rcases List.mem_append.mp h with h | h
    · split at h
      · rename_i c
        obtain ⟨y, hy, rfl⟩ := on0_mem h
        exact .inl ⟨y, hy, rfl, c⟩
      · cases h
    · split at h
      · cases h
      · rename_i c
        exact .inr (.inl ⟨List.mem_singleton.mp h, c⟩)
  · split at h
    · cases h
    · rename_i c
      exact .inr (.inr ⟨List.mem_singleton.mp h, c⟩)
theorem clamp_low {p : Rat × Rat} {v : Rat} (hp : p.1 < p.2) (h : ¬ p.1 < v) : clamp p v = p.1 := by
  unfold clamp
  by_cases c : v < p.1
  · rw [if_pos c]
  · rw [if_neg c]
    have e : v = p.1 := Rat.le_antisymm (Rat.not_lt.mp h) (Rat.not_lt.mp c)
    subst e
    rw [if_neg (Rat.not_lt.mpr (Rat.le_of_lt hp))]
theorem clamp_high {p : Rat × Rat} {v : Rat} (hp : p.1 < p.2) (h : ¬ v < p.2) : clamp p v = p.2 := by
  have h2 : p.2 ≤ v := Rat.not_lt.mp h
  unfold clamp
  rw [if_neg (Rat.not_lt.mpr (Rat.le_trans (Rat.le_of_lt hp) h2))]
  by_cases c : p.2 < v
  · rw [if_pos c]
  · rw [if_neg c]
    exact Rat.le_antisymm (Rat.not_lt.mp c) h2
theorem clamp_mid {p : Rat × Rat} {v : Rat} (h1 : ¬ v < p.1) (h2 : ¬ p.2 < v) : clamp p v = v := by
  unfold clamp
  rw [if_neg h1, if_neg h2]
theorem ab_pos {v : Rat} (h : ¬ v < 0) : ab v = v := by
  unfold ab
  rw [if_neg h]
theorem ab_neg {v : Rat} (h : ¬ 0 < v) : ab v = -v := by
  unfold ab
  by_cases c : v < 0
  · rw [if_pos c]
  · rw [if_neg c]
    have e : v = 0 := Rat.le_antisymm (Rat.not_lt.mp h) (Rat.not_lt.mp c)
    rw [e]
    rfl
end K03

set_option Elab.async false
set_option linter.all false
set_option maxRecDepth 100000
set_option maxHeartbeats 4000000
set_option autoImplicit false
/-! k03, the plain law: the joined rows fit. -/
namespace K03
open Ev
mutual
theorem many_pos {s : Nat} : ∀ (f : F), f.ok s → 1 ≤ f.fold aMany
  | .sum rs, h => by
    show 1 ≤ prodI (rs.folds aMany)
    exact manys_pos rs h
  | .top g fs, h => by
    have e : (F.top g fs).fold aMany = (fs.folds aMany).sum := by cases g <;> (show _ * (1 : Int) + 0 = _; omega)
    rw [e]
    exact manyt_pos fs h.1 h.2
  | .size f, h => by
    have := many_pos f h
    show 1 ≤ (f.fold aMany + 0) * 2 + 0
    omega
  | .held f, h => by
    have := many_pos f h
    show 1 ≤ (f.fold aMany + 0) * 1 + 2
    omega
theorem manys_pos {s : Nat} : ∀ (rs : Rs), rs.ok s → 1 ≤ prodI (rs.folds aMany)
  | .nil, h => by decide
  | .leaf _ _ r, h => manys_pos r h.2.2
  | .node _ f r, h => by
    have h1 := many_pos f h.2.1
    have h2 := manys_pos r h.2.2
    show 1 ≤ prodI (f.fold aMany :: r.folds aMany)
    rw [prod_cons]
    have := Int.mul_le_mul h1 h2 (by decide) (by omega)
    omega
theorem manyt_pos {s : Nat} : ∀ (fs : Fs), fs.list ≠ [] → fs.ok s → 1 ≤ (fs.folds aMany).sum
  | .nil, h, _ => absurd rfl h
  | .cons f r, _, h => by
    have h1 := many_pos f h.1
    have h2 := manyt_nn r
    show 1 ≤ f.fold aMany + (r.folds aMany).sum
    omega
theorem manyt_nn : ∀ (fs : Fs), 0 ≤ (fs.folds aMany).sum
  | .nil => Int.le_refl _
  | .cons f r => by
    have h1 := (many_le f).1
    have h2 := manyt_nn r
    show 0 ≤ f.fold aMany + (r.folds aMany).sum
    omega
end
def Rs.rl (inp : List Rat) : Rs → St → List (List Row1)
  | .nil, _ => []
  | .leaf _ _ r, st => r.rl inp st
  | .node _ f r, st => f.rul inp st :: r.rl inp (f.val inp st).2
theorem rul_rl {inp : List Rat} : ∀ (rs : Rs) (rows : List Row1) (st : St), rs.rul inp rows st = (rs.rl inp st).foldl joinR rows
  | .nil, rows, st => rfl
  | .leaf _ _ r, rows, st => rul_rl r rows st
  | .node _ f r, rows, st => by
    show r.rul inp (joinR rows (f.rul inp st)) (f.val inp st).2 = _
    rw [rul_rl]
    rfl
theorem rl_fits {s : Nat} {inp : List Rat} : ∀ (rs : Rs) (a : List Row1) (L : Nat) (st : St), rs.ok s → (∀ x ∈ a, x.length ≤ L) → L + rs.sz ≤ 1000000 → (a.length : Int) * prodI (rs.folds aMany) ≤ 1000000 → fitsJ a (rs.rl inp st)
  | .nil, a, L, st, h, hl, hz, hp => trivial
  | .leaf w i r, a, L, st, h, hl, hz, hp => by
    have e : (Rs.leaf w i r).sz = r.sz + 1 := rfl
    exact rl_fits r a L st h.2.2 hl (by omega) hp
  | .node w f r, a, L, st, h, hl, hz, hp => by
    have e : (Rs.node w f r).sz = f.sz + r.sz + 1 := rfl
    have hp : (a.length : Int) * prodI (f.fold aMany :: r.folds aMany) ≤ 1000000 := hp
    rw [prod_cons, ← Int.mul_assoc] at hp
    have h1 := rul_len inp f st
    have h2 := manys_pos r h.2.2
    have h3 : ((a.length * (f.rul inp st).length : Nat) : Int) ≤ (a.length : Int) * f.fold aMany := by
      rw [Int.natCast_mul]
      exact Int.mul_le_mul_of_nonneg_left h1 (by omega)
    have h4 : ((a.length * (f.rul inp st).length : Nat) : Int) * prodI (r.folds aMany) ≤ 1000000 := Int.le_trans (Int.mul_le_mul_of_nonneg_right h3 (by omega)) hp
    have h5 : ((a.length * (f.rul inp st).length : Nat) : Int) ≤ 1000000 := by
      refine Int.le_trans ?_ h4
      have := Int.mul_le_mul_of_nonneg_left h2 (Int.natCast_nonneg (a.length * (f.rul inp st).length))
      rwa [Int.mul_one] at this
    refine ⟨by unfold line; omega, fun x hx y hy => ?_, ?_⟩
    · have g1 := hl x hx
      have g2 := rul_row inp f st y hy
      unfold line
      omega
    · refine rl_fits r (joinR a (f.rul inp st)) (L + f.sz) _ h.2.2 (fun x hx => ?_) (by omega) ?_
      · unfold joinR at hx
        obtain ⟨p, hp, hx⟩ := List.mem_flatMap.mp hx
        obtain ⟨q, hq, rfl⟩ := List.mem_map.mp hx
        have g1 := hl p hp
        have g2 := rul_row inp f st q hq
        rw [List.length_append]
        omega
      · rw [join_len]
        exact h4
end K03

set_option Elab.async false
set_option linter.all false
set_option maxRecDepth 100000
set_option maxHeartbeats 4000000
set_option autoImplicit false
/-! k03, the plain law: what a row forces, the sums. -/
namespace K03
open Ev
def forcedRow : ISs := match b__law_forced with
  | .cons (.ite _ (.cons _ (.cons (.for_ _ _ _ t) _)) _) _ => t
  | _ => .nil
def ForcedAt (n : Nat) (inp : List Rat) (g : F) : Prop := ∀ (st : St) (row rest : Row1) (S : Store) (Q : D → Store → Prop) (E : Ex), StOk st → g.ns ≤ st.1.length → g.nh ≤ st.2.length → row ∈ g.rul inp st →
  (∀ S', S <+: S' → Q (.tup [fr (g.val inp st).1, rowD rest, cD (g.val inp st).2, bD (g.val inp st).2]) S') → Wx (run P n 43 [g.d, rowD (row ++ rest), iD inp, cD st, bD st]) S Q E
section
variable {N : Env → Store → Prop} {Q : Fl × Env → Store → Prop}
theorem forced_rows {n s : Nat} {inp : List Rat} {rest : Row1} {S0 : Store} {x0 x1 x3 x4 x12 x13 x14 : Option D} (hi : In s inp) : ∀ (rs : Rs) (row : Row1) (a : Rat) (k : Nat) (st : St) (S : Store) (o9 o10 o11 : Option D), rs.tl inp st row → (∀ g ∈ rs.inner, ForcedAt (n + 2) inp g) → rs.ok s → Bd k a → k + 50 * rs.sz < 20000000 → StOk st → rs.ns ≤ st.1.length → rs.nh ≤ st.2.length →
    (∀ S' o9 o10 o11, S <+: S' → N [x0, x1, some (iD inp), x3, x4, some (fr (rs.acc inp a st).1), some (rowD rest), some (cD (rs.acc inp a st).2), some (bD (rs.acc inp a st).2), o9, o10, o11, x12, x13, x14] S') →
    Ws (forD S0 [] (.tup [9, 10]) (denSs (run P (n + 2)) forcedRow) rs.d [x0, x1, some (iD inp), x3, x4, some (fr a), some (rowD (row ++ rest)), some (cD st), some (bD st), o9, o10, o11, x12, x13, x14]) S N Q
  | .nil, row, a, k, st, S, o7, o8, o9, hr, ih, h, ha, hk, hs, h1, h2, hN => by
    have hr : row = [] := hr
    subst hr
    unfold Rs.d
    rw [Ws_for_nil]
    exact ⟨keptNil, hN S o7 o8 o9 (List.prefix_refl _)⟩
  | .leaf w i r, row, a, k, st, S, o7, o8, o9, hr, ih, h, ha, hk, hs, h1, h2, hN => by
    unfold Rs.d
    rw [Ws_for_cons]
    refine ⟨keptNil, ?_⟩
    have hlt : i < inp.length := by rw [hi.len]; exact h.2.1
    have e : atD (inp.map fr) (i : Int) = some (fr (inp.getD i 0)) := by
      refine atD_nat ?_
      rw [List.getElem?_map, List.getD_eq_getElem?_getD, List.getElem?_eq_getElem hlt]
      rfl
    have hx : Bd 40 (inp.getD i 0) := by
      rw [List.getD_eq_getElem?_getD, List.getElem?_eq_getElem hlt]
      exact hi.bd _ (List.getElem_mem hlt)
    simp only [asgD, setAll, List.set_cons_succ, List.set_cons_zero]
    unfold forcedRow b__law_forced
    have hz : (Rs.leaf w i r).sz = r.sz + 1 := rfl
    simp only [Wx_var, Wx_con, Wx_glob, Wx_bin, Wx_neg, Wx_negI, Wx_not, Wx_cmp, Wx_and, Wx_or, Wx_ite, Wx_tup, Wx_lst, Wx_idx, Wx_slice, Wx_call, Wx_bi, Wx_isi, Wx_meth, Wx_nil, Wx_cons, Wx_onone, Wx_osome, Wx_cnone, Wx_csome, Wx_add, Wx_addT, Wx_sub, Wx_mul, Wx_fdiv, Wx_mod, Wx_tbl, Wx_tint, Wx_eqI, Wx_eqS, Wx_eqB, Wx_neI, Wx_ltI, Wx_leI, Wx_gtI, Wx_geI, Wx_idxT, atD_0, atD_1, atD_2, Wx_abs, Wx_intI, Wx_intB, Wx_cutT, Wx_srcT, Wx_range, Wx_ret, Wx_cond, List.getElem?_cons_zero, List.getElem?_cons_succ, List.length_cons, List.length_nil, List.set_cons_zero, List.set_cons_succ, decide_eq_true_eq, bne_iff_ne, Wx_turn, wipeD, Ws_nil, Ws_cons, Ws_asg, Ws_par, Ws_expr, Ws_ret, Ws_retn, Ws_pass, Ws_ite, asgD, setAll, Wx_isI, if_true, e]
    refine ⟨by decide, ?_⟩
    refine w_mult w (inp.getD i 0) h.1 hx (by omega) ?_
    refine w_plus a _ ha (bd_mul h.1 hx) (by omega) ?_
    exact forced_rows hi r row _ (k + (3 + 40) + 1) st S _ _ _ hr ih h.2.2 (bd_add ha (bd_mul h.1 hx)) (by omega) hs h1 h2 hN
  | .node w f r, row, a, k, st, S, o7, o8, o9, hr, ih, h, ha, hk, hs, h1, h2, hN => by
    obtain ⟨r1, r2, rfl, hr1, hr2⟩ := hr
    unfold Rs.d
    rw [Ws_for_cons]
    refine ⟨keptNil, ?_⟩
    obtain ⟨ds, ed⟩ := f.d_tup
    have hz : (Rs.node w f r).sz = f.sz + r.sz + 1 := rfl
    have n1 : (Rs.node w f r).ns = f.ns + r.ns := rfl
    have n2 : (Rs.node w f r).nh = f.nh + r.nh := rfl
    have hv := val_bd hi f st h.2.1 hs
    have hs2 : StOk (f.val inp st).2 := by rw [val_st]; exact hs.drop _ _
    have l1 : (f.val inp st).2.1.length = st.1.length - f.ns := by rw [val_st]; exact List.length_drop
    have l2 : (f.val inp st).2.2.length = st.2.length - f.nh := by rw [val_st]; exact List.length_drop
    simp only [asgD, setAll, List.set_cons_succ, List.set_cons_zero, List.append_assoc]
    unfold forcedRow b__law_forced
    have isT : ∀ (S : Store) (Q : Bool → Store → Prop) (E : Ex), Wx (isinstD [.int] f.d) S Q E = Q false S := fun S Q E => by rw [ed]; rfl
    simp only [Wx_var, Wx_con, Wx_glob, Wx_bin, Wx_neg, Wx_negI, Wx_not, Wx_cmp, Wx_and, Wx_or, Wx_ite, Wx_tup, Wx_lst, Wx_idx, Wx_slice, Wx_call, Wx_bi, Wx_isi, Wx_meth, Wx_nil, Wx_cons, Wx_onone, Wx_osome, Wx_cnone, Wx_csome, Wx_add, Wx_addT, Wx_sub, Wx_mul, Wx_fdiv, Wx_mod, Wx_tbl, Wx_tint, Wx_eqI, Wx_eqS, Wx_eqB, Wx_neI, Wx_ltI, Wx_leI, Wx_gtI, Wx_geI, Wx_idxT, atD_0, atD_1, atD_2, Wx_abs, Wx_intI, Wx_intB, Wx_cutT, Wx_srcT, Wx_range, Wx_ret, Wx_cond, List.getElem?_cons_zero, List.getElem?_cons_succ, List.length_cons, List.length_nil, List.set_cons_zero, List.set_cons_succ, decide_eq_true_eq, bne_iff_ne, Wx_turn, wipeD, Ws_nil, Ws_cons, Ws_asg, Ws_par, Ws_expr, Ws_ret, Ws_retn, Ws_pass, Ws_ite, asgD, setAll, isT, Bool.false_eq_true, if_false]
    refine ⟨by decide, ?_⟩
    refine ih f List.mem_cons_self st r1 (r2 ++ rest) S _ _ hs (by omega) (by omega) hr1 fun S1 p1 => ?_
    simp only [Wx_var, Wx_con, Wx_glob, Wx_bin, Wx_neg, Wx_negI, Wx_not, Wx_cmp, Wx_and, Wx_or, Wx_ite, Wx_tup, Wx_lst, Wx_idx, Wx_slice, Wx_call, Wx_bi, Wx_isi, Wx_meth, Wx_nil, Wx_cons, Wx_onone, Wx_osome, Wx_cnone, Wx_csome, Wx_add, Wx_addT, Wx_sub, Wx_mul, Wx_fdiv, Wx_mod, Wx_tbl, Wx_tint, Wx_eqI, Wx_eqS, Wx_eqB, Wx_neI, Wx_ltI, Wx_leI, Wx_gtI, Wx_geI, Wx_idxT, atD_0, atD_1, atD_2, Wx_abs, Wx_intI, Wx_intB, Wx_cutT, Wx_srcT, Wx_range, Wx_ret, Wx_cond, List.getElem?_cons_zero, List.getElem?_cons_succ, List.length_cons, List.length_nil, List.set_cons_zero, List.set_cons_succ, decide_eq_true_eq, bne_iff_ne, Wx_turn, wipeD, Ws_nil, Ws_cons, Ws_asg, Ws_par, Ws_expr, Ws_ret, Ws_retn, Ws_pass, Ws_ite, asgD, setAll]
    refine w_mult w (f.val inp st).1 h.1 hv (by omega) ?_
    refine w_plus a _ ha (bd_mul h.1 hv) (by omega) ?_
    exact forced_rows hi r r2 _ (k + (3 + 50 * f.sz) + 1) _ S1 _ _ _ hr2 (fun g hg => ih g (List.mem_cons_of_mem _ hg)) h.2.2 (bd_add ha (bd_mul h.1 hv)) (by omega) hs2 (by omega) (by omega) fun S' o7 o8 o9 p2 => hN S' o7 o8 o9 (p1.trans p2)
end
end K03

set_option Elab.async false
set_option linter.all false
set_option maxRecDepth 100000
set_option maxHeartbeats 4000000
set_option autoImplicit false
/-! k03, the plain law: what a row forces, the size and the sums. -/
namespace K03
open Ev
theorem row_cons (x : Int) (r : Row1) : rowD (x :: r) = .tup (.int x :: r.map D.int) := rfl
theorem row_cut (x : Int) (r : Row1) : cutD (.int x :: r.map D.int) (some 1) none = r.map D.int := by
  rw [cut1]
  rfl
theorem w_forced_sum {n s : Nat} {inp : List Rat} (hi : In s inp) {rs : Rs} (hz : rs.sz ≤ 300000) (hok : rs.ok s) (ih : ∀ g ∈ rs.inner, ForcedAt (n + 3) inp g) : ForcedAt (n + 4) inp (.sum rs) := by
  intro st row rest S Q E hs h1 h2 hr h
  rw [r__law_forced, Wx_end]
  unfold b__law_forced
  obtain ⟨cs, bs⟩ := st
  cases cs with
  | nil => exact absurd h1 (Nat.not_succ_le_zero _)
  | cons c cs =>
    have hdef : (F.sum rs).d = .tup [.str "sum", .tup rs.d] := rfl
    have e1 : (F.sum rs).ns = rs.ns + 1 := rfl
    have e2 : (F.sum rs).nh = rs.nh := rfl
    have hs' : StOk (cs, bs) := ⟨fun q hq => hs.1 q (List.mem_cons_of_mem _ hq), hs.2⟩
    have g1 : rs.ns ≤ cs.length := by
      have : (F.sum rs).ns ≤ cs.length + 1 := h1
      omega
    rw [hdef]
    rw [Ws_cons, Ws_ite]
    simp only [Wx_var, Wx_con, Wx_glob, Wx_bin, Wx_neg, Wx_negI, Wx_not, Wx_cmp, Wx_and, Wx_or, Wx_ite, Wx_tup, Wx_lst, Wx_idx, Wx_slice, Wx_call, Wx_bi, Wx_isi, Wx_meth, Wx_nil, Wx_cons, Wx_onone, Wx_osome, Wx_cnone, Wx_csome, Wx_add, Wx_addT, Wx_sub, Wx_mul, Wx_fdiv, Wx_mod, Wx_tbl, Wx_tint, Wx_eqI, Wx_eqS, Wx_eqB, Wx_neI, Wx_ltI, Wx_leI, Wx_gtI, Wx_geI, Wx_idxT, atD_0, atD_1, atD_2, Wx_abs, Wx_intI, Wx_intB, Wx_cutT, Wx_srcT, Wx_range, Wx_ret, Wx_cond, List.getElem?_cons_zero, List.getElem?_cons_succ, List.length_cons, List.length_nil, List.set_cons_zero, List.set_cons_succ, decide_eq_true_eq, bne_iff_ne, Wx_turn, wipeD, t1, if_true]
    simp only [Ws_cons, Ws_asg, List.map_cons, Wx_var, Wx_con, Wx_glob, Wx_bin, Wx_neg, Wx_negI, Wx_not, Wx_cmp, Wx_and, Wx_or, Wx_ite, Wx_tup, Wx_lst, Wx_idx, Wx_slice, Wx_call, Wx_bi, Wx_isi, Wx_meth, Wx_nil, Wx_cons, Wx_onone, Wx_osome, Wx_cnone, Wx_csome, Wx_add, Wx_addT, Wx_sub, Wx_mul, Wx_fdiv, Wx_mod, Wx_tbl, Wx_tint, Wx_eqI, Wx_eqS, Wx_eqB, Wx_neI, Wx_ltI, Wx_leI, Wx_gtI, Wx_geI, Wx_idxT, atD_0, atD_1, atD_2, Wx_abs, Wx_intI, Wx_intB, Wx_cutT, Wx_srcT, Wx_range, Wx_ret, Wx_cond, List.getElem?_cons_zero, List.getElem?_cons_succ, List.length_cons, List.length_nil, List.set_cons_zero, List.set_cons_succ, decide_eq_true_eq, bne_iff_ne, Wx_turn, wipeD, asgD, setAll]
    rw [cut1]
    simp only [Ws_for, Wx_var, Wx_con, Wx_glob, Wx_bin, Wx_neg, Wx_negI, Wx_not, Wx_cmp, Wx_and, Wx_or, Wx_ite, Wx_tup, Wx_lst, Wx_idx, Wx_slice, Wx_call, Wx_bi, Wx_isi, Wx_meth, Wx_nil, Wx_cons, Wx_onone, Wx_osome, Wx_cnone, Wx_csome, Wx_add, Wx_addT, Wx_sub, Wx_mul, Wx_fdiv, Wx_mod, Wx_tbl, Wx_tint, Wx_eqI, Wx_eqS, Wx_eqB, Wx_neI, Wx_ltI, Wx_leI, Wx_gtI, Wx_geI, Wx_idxT, atD_0, atD_1, atD_2, Wx_abs, Wx_intI, Wx_intB, Wx_cutT, Wx_srcT, Wx_range, Wx_ret, Wx_cond, List.getElem?_cons_zero, List.getElem?_cons_succ, List.length_cons, List.length_nil, List.set_cons_zero, List.set_cons_succ, decide_eq_true_eq, bne_iff_ne, Wx_turn, wipeD]
    refine ⟨by decide, ?_⟩
    refine forced_rows (n := n + 1) hi rs row c 40 (cs, bs) S none none none (sum_mem hr) ih hok (hs.1 c List.mem_cons_self) (by omega) hs' g1 h2 fun S' o7 o8 o9 p => ?_
    simp only [Wx_var, Wx_con, Wx_glob, Wx_bin, Wx_neg, Wx_negI, Wx_not, Wx_cmp, Wx_and, Wx_or, Wx_ite, Wx_tup, Wx_lst, Wx_idx, Wx_slice, Wx_call, Wx_bi, Wx_isi, Wx_meth, Wx_nil, Wx_cons, Wx_onone, Wx_osome, Wx_cnone, Wx_csome, Wx_add, Wx_addT, Wx_sub, Wx_mul, Wx_fdiv, Wx_mod, Wx_tbl, Wx_tint, Wx_eqI, Wx_eqS, Wx_eqB, Wx_neI, Wx_ltI, Wx_leI, Wx_gtI, Wx_geI, Wx_idxT, atD_0, atD_1, atD_2, Wx_abs, Wx_intI, Wx_intB, Wx_cutT, Wx_srcT, Wx_range, Wx_ret, Wx_cond, List.getElem?_cons_zero, List.getElem?_cons_succ, List.length_cons, List.length_nil, List.set_cons_zero, List.set_cons_succ, decide_eq_true_eq, bne_iff_ne, Wx_turn, wipeD, Ws_nil, Ws_cons, Ws_asg, Ws_par, Ws_expr, Ws_ret, Ws_retn, Ws_pass, Ws_ite, asgD, setAll]
    exact ⟨by decide, h S' p⟩
theorem w_forced_size {n s : Nat} {inp : List Rat} (hi : In s inp) {f : F} (hok : f.ok s) (ih : ForcedAt (n + 3) inp f) : ForcedAt (n + 4) inp (.size f) := by
  intro st row rest S Q E hs h1 h2 hr h
  rw [r__law_forced, Wx_end]
  unfold b__law_forced
  have hdef : (F.size f).d = .tup [.str "size", f.d] := rfl
  have hval : ((F.size f).val inp st).1 = ab (f.val inp st).1 := rfl
  have hst : ((F.size f).val inp st).2 = (f.val inp st).2 := rfl
  rw [hval, hst] at h
  rw [hdef]
  rcases size_mem hr with ⟨y, hy, rfl, c⟩ | ⟨y, hy, rfl, c⟩
  · rw [List.cons_append, row_cons]
    simp only [Wx_var, Wx_con, Wx_glob, Wx_bin, Wx_neg, Wx_negI, Wx_not, Wx_cmp, Wx_and, Wx_or, Wx_ite, Wx_tup, Wx_lst, Wx_idx, Wx_slice, Wx_call, Wx_bi, Wx_isi, Wx_meth, Wx_nil, Wx_cons, Wx_onone, Wx_osome, Wx_cnone, Wx_csome, Wx_add, Wx_addT, Wx_sub, Wx_mul, Wx_fdiv, Wx_mod, Wx_tbl, Wx_tint, Wx_eqI, Wx_eqS, Wx_eqB, Wx_neI, Wx_ltI, Wx_leI, Wx_gtI, Wx_geI, Wx_idxT, atD_0, atD_1, atD_2, Wx_abs, Wx_intI, Wx_intB, Wx_cutT, Wx_srcT, Wx_range, Wx_ret, Wx_cond, List.getElem?_cons_zero, List.getElem?_cons_succ, List.length_cons, List.length_nil, List.set_cons_zero, List.set_cons_succ, decide_eq_true_eq, bne_iff_ne, Wx_turn, wipeD, Ws_nil, Ws_cons, Ws_asg, Ws_par, Ws_expr, Ws_ret, Ws_retn, Ws_pass, Ws_ite, asgD, setAll, t6, t9, Bool.false_eq_true, if_false, if_true, row_cut]
    refine ih st y rest S _ _ hs h1 h2 hy fun S1 p1 => ?_
    simp only [Wx_var, Wx_con, Wx_glob, Wx_bin, Wx_neg, Wx_negI, Wx_not, Wx_cmp, Wx_and, Wx_or, Wx_ite, Wx_tup, Wx_lst, Wx_idx, Wx_slice, Wx_call, Wx_bi, Wx_isi, Wx_meth, Wx_nil, Wx_cons, Wx_onone, Wx_osome, Wx_cnone, Wx_csome, Wx_add, Wx_addT, Wx_sub, Wx_mul, Wx_fdiv, Wx_mod, Wx_tbl, Wx_tint, Wx_eqI, Wx_eqS, Wx_eqB, Wx_neI, Wx_ltI, Wx_leI, Wx_gtI, Wx_geI, Wx_idxT, atD_0, atD_1, atD_2, Wx_abs, Wx_intI, Wx_intB, Wx_cutT, Wx_srcT, Wx_range, Wx_ret, Wx_cond, List.getElem?_cons_zero, List.getElem?_cons_succ, List.length_cons, List.length_nil, List.set_cons_zero, List.set_cons_succ, decide_eq_true_eq, bne_iff_ne, Wx_turn, wipeD, Ws_nil, Ws_cons, Ws_asg, Ws_par, Ws_expr, Ws_ret, Ws_retn, Ws_pass, Ws_ite, asgD, setAll]
    rw [ab_pos c] at h
    exact ⟨by decide, h S1 p1⟩
  · rw [List.cons_append, row_cons]
    simp only [Wx_var, Wx_con, Wx_glob, Wx_bin, Wx_neg, Wx_negI, Wx_not, Wx_cmp, Wx_and, Wx_or, Wx_ite, Wx_tup, Wx_lst, Wx_idx, Wx_slice, Wx_call, Wx_bi, Wx_isi, Wx_meth, Wx_nil, Wx_cons, Wx_onone, Wx_osome, Wx_cnone, Wx_csome, Wx_add, Wx_addT, Wx_sub, Wx_mul, Wx_fdiv, Wx_mod, Wx_tbl, Wx_tint, Wx_eqI, Wx_eqS, Wx_eqB, Wx_neI, Wx_ltI, Wx_leI, Wx_gtI, Wx_geI, Wx_idxT, atD_0, atD_1, atD_2, Wx_abs, Wx_intI, Wx_intB, Wx_cutT, Wx_srcT, Wx_range, Wx_ret, Wx_cond, List.getElem?_cons_zero, List.getElem?_cons_succ, List.length_cons, List.length_nil, List.set_cons_zero, List.set_cons_succ, decide_eq_true_eq, bne_iff_ne, Wx_turn, wipeD, Ws_nil, Ws_cons, Ws_asg, Ws_par, Ws_expr, Ws_ret, Ws_retn, Ws_pass, Ws_ite, asgD, setAll, t6, t9, Bool.false_eq_true, if_false, if_true, row_cut]
    refine ih st y rest S _ _ hs h1 h2 hy fun S1 p1 => ?_
    simp only [Wx_var, Wx_con, Wx_glob, Wx_bin, Wx_neg, Wx_negI, Wx_not, Wx_cmp, Wx_and, Wx_or, Wx_ite, Wx_tup, Wx_lst, Wx_idx, Wx_slice, Wx_call, Wx_bi, Wx_isi, Wx_meth, Wx_nil, Wx_cons, Wx_onone, Wx_osome, Wx_cnone, Wx_csome, Wx_add, Wx_addT, Wx_sub, Wx_mul, Wx_fdiv, Wx_mod, Wx_tbl, Wx_tint, Wx_eqI, Wx_eqS, Wx_eqB, Wx_neI, Wx_ltI, Wx_leI, Wx_gtI, Wx_geI, Wx_idxT, atD_0, atD_1, atD_2, Wx_abs, Wx_intI, Wx_intB, Wx_cutT, Wx_srcT, Wx_range, Wx_ret, Wx_cond, List.getElem?_cons_zero, List.getElem?_cons_succ, List.length_cons, List.length_nil, List.set_cons_zero, List.set_cons_succ, decide_eq_true_eq, bne_iff_ne, Wx_turn, wipeD, Ws_nil, Ws_cons, Ws_asg, Ws_par, Ws_expr, Ws_ret, Ws_retn, Ws_pass, Ws_ite, asgD, setAll]
    rw [ab_neg c] at h
    refine w_turn _ ⟨by decide, h S1 p1⟩
end K03

set_option Elab.async false
set_option linter.all false
set_option maxRecDepth 100000
set_option maxHeartbeats 4000000
set_option autoImplicit false
/-! k03, the plain law: what a row forces, held (way 0). -/
namespace K03
open Ev
theorem w_forced_in {n s : Nat} {inp : List Rat} {f : F} (hok : f.ok s) (ih : ForcedAt (n + 3) inp f) {st : St} {y rest : Row1} {S : Store} {Q : D → Store → Prop} {E : Ex} (hs : StOk st) (h1 : f.ns ≤ st.1.length) (h2 : f.nh + 1 ≤ st.2.length) (hy : y ∈ f.rul inp (st.1, st.2.tail)) (c1 : ¬ (f.val inp (st.1, st.2.tail)).1 < (st.2.headD (0, 0)).1) (c2 : ¬ (st.2.headD (0, 0)).2 < (f.val inp (st.1, st.2.tail)).1)
    (h : ∀ S', S <+: S' → Q (.tup [fr ((F.held f).val inp st).1, rowD rest, cD ((F.held f).val inp st).2, bD ((F.held f).val inp st).2]) S') : Wx (run P (n + 4) 43 [(F.held f).d, rowD ((0 :: y) ++ rest), iD inp, cD st, bD st]) S Q E := by
  obtain ⟨cs, bs⟩ := st
  cases bs with
  | nil => exact absurd h2 (Nat.not_succ_le_zero _)
  | cons p bs =>
    have hdef : (F.held f).d = .tup [.str "held", f.d] := rfl
    have hs' : StOk (cs, bs) := ⟨hs.1, fun q hq => hs.2 q (List.mem_cons_of_mem _ hq)⟩
    have hval : ((F.held f).val inp (cs, p :: bs)).1 = (f.val inp (cs, bs)).1 := clamp_mid c1 c2
    have hst : ((F.held f).val inp (cs, p :: bs)).2 = (f.val inp (cs, bs)).2 := rfl
    rw [hval, hst] at h
    rw [r__law_forced, Wx_end]
    unfold b__law_forced
    rw [hdef, List.cons_append, row_cons]
    have z0 : ¬ ((0 : Int) > 0) := by decide
    simp only [Wx_var, Wx_con, Wx_glob, Wx_bin, Wx_neg, Wx_negI, Wx_not, Wx_cmp, Wx_and, Wx_or, Wx_ite, Wx_tup, Wx_lst, Wx_idx, Wx_slice, Wx_call, Wx_bi, Wx_isi, Wx_meth, Wx_nil, Wx_cons, Wx_onone, Wx_osome, Wx_cnone, Wx_csome, Wx_add, Wx_addT, Wx_sub, Wx_mul, Wx_fdiv, Wx_mod, Wx_tbl, Wx_tint, Wx_eqI, Wx_eqS, Wx_eqB, Wx_neI, Wx_ltI, Wx_leI, Wx_gtI, Wx_geI, Wx_idxT, atD_0, atD_1, atD_2, Wx_abs, Wx_intI, Wx_intB, Wx_cutT, Wx_srcT, Wx_range, Wx_ret, Wx_cond, List.getElem?_cons_zero, List.getElem?_cons_succ, List.length_cons, List.length_nil, List.set_cons_zero, List.set_cons_succ, decide_eq_true_eq, bne_iff_ne, Wx_turn, wipeD, Ws_nil, Ws_cons, Ws_asg, Ws_par, Ws_expr, Ws_ret, Ws_retn, Ws_pass, Ws_ite, asgD, setAll, t11, t14, t15, Bool.false_eq_true, if_false, if_true, row_cut, List.map_cons, z0]
    rw [cut1]
    exact ih (cs, bs) y rest S _ _ hs' h1 (Nat.le_of_succ_le_succ h2) hy fun S1 p1 => h S1 p1
end K03

set_option Elab.async false
set_option linter.all false
set_option maxRecDepth 100000
set_option maxHeartbeats 4000000
set_option autoImplicit false
/-! k03, the plain law: slices from a place on. -/
namespace K03
open Ev
theorem cutN (xs : List D) (k : Nat) (h : k ≤ xs.length) : cutD xs (some (k : Int)) none = xs.drop k := by
  unfold cutD
  have e1 : HT.sIx xs.length 0 (some (k : Int)) = k := by
    unfold HT.sIx
    simp only []
    split <;> omega
  have e2 : HT.sIx xs.length xs.length none = xs.length := rfl
  rw [e1, e2]
  exact List.take_of_length_le (by rw [List.length_drop]; exact Nat.le_refl _)
end K03

set_option Elab.async false
set_option linter.all false
set_option maxRecDepth 100000
set_option maxHeartbeats 4000000
set_option autoImplicit false
/-! k03, the plain law: what a row forces, held (ways 1 and 2). -/
namespace K03
open Ev
theorem w_forced_end {n s : Nat} {inp : List Rat} {f : F} (hz : f.sz ≤ 300000) (hn : f.dep + 2 ≤ n + 3) {st : St} {rest : Row1} {S : Store} {Q : D → Store → Prop} {E : Ex} (h1 : f.ns ≤ st.1.length) (h2 : f.nh + 1 ≤ st.2.length) (w : Bool) (c : ((F.held f).val inp st).1 = if w then (st.2.headD (0, 0)).2 else (st.2.headD (0, 0)).1)
    (h : ∀ S', S <+: S' → Q (.tup [fr ((F.held f).val inp st).1, rowD rest, cD ((F.held f).val inp st).2, bD ((F.held f).val inp st).2]) S') : Wx (run P (n + 4) 43 [(F.held f).d, rowD ([if w then 2 else 1] ++ rest), iD inp, cD st, bD st]) S Q E := by
  have hst : ((F.held f).val inp st).2 = (st.1.drop f.ns, st.2.drop (f.nh + 1)) := val_st inp (.held f) st
  rw [c, hst] at h
  obtain ⟨cs, bs⟩ := st
  cases bs with
  | nil => exact absurd h2 (Nat.not_succ_le_zero _)
  | cons p bs =>
    have hdef : (F.held f).d = .tup [.str "held", f.d] := rfl
    rw [r__law_forced, Wx_end]
    unfold b__law_forced
    rw [hdef, List.cons_append, row_cons]
    have e1 : (1 : Int) + (f.nh : Int) = ((f.nh + 1 : Nat) : Int) := by omega
    cases w with
    | true =>
      have z0 : ((2 : Int) > 0) := by decide
      simp only [Wx_var, Wx_con, Wx_glob, Wx_bin, Wx_neg, Wx_negI, Wx_not, Wx_cmp, Wx_and, Wx_or, Wx_ite, Wx_tup, Wx_lst, Wx_idx, Wx_slice, Wx_call, Wx_bi, Wx_isi, Wx_meth, Wx_nil, Wx_cons, Wx_onone, Wx_osome, Wx_cnone, Wx_csome, Wx_add, Wx_addT, Wx_sub, Wx_mul, Wx_fdiv, Wx_mod, Wx_tbl, Wx_tint, Wx_eqI, Wx_eqS, Wx_eqB, Wx_neI, Wx_ltI, Wx_leI, Wx_gtI, Wx_geI, Wx_idxT, atD_0, atD_1, atD_2, Wx_abs, Wx_intI, Wx_intB, Wx_cutT, Wx_srcT, Wx_range, Wx_ret, Wx_cond, List.getElem?_cons_zero, List.getElem?_cons_succ, List.length_cons, List.length_nil, List.set_cons_zero, List.set_cons_succ, decide_eq_true_eq, bne_iff_ne, Wx_turn, wipeD, Ws_nil, Ws_cons, Ws_asg, Ws_par, Ws_expr, Ws_ret, Ws_retn, Ws_pass, Ws_ite, asgD, setAll, t11, t14, t15, Bool.false_eq_true, if_false, if_true, row_cut, List.map_cons, z0]
      refine w_lsums f.sz f (Nat.le_refl _) (by omega) (n + 3) _ _ _ hn fun S1 p1 => ?_
      refine w_lheld f.sz f (Nat.le_refl _) (by omega) (n + 3) _ _ _ hn fun S2 p2 => ?_
      rw [Wx_add, fold_ns, fold_nh, e1]
      have hh := h S2 (p1.trans p2)
      have f1 : cutD (cs.map fr) (some (f.ns : Int)) none = (cs.drop f.ns).map fr := by rw [cutN _ _ (by rw [List.length_map]; exact h1), List.map_drop]
      have f2 : cutD (pr p :: bs.map pr) (some ((f.nh + 1 : Nat) : Int)) none = ((p :: bs).drop (f.nh + 1)).map pr := by rw [← List.map_cons, cutN _ _ (by rw [List.length_map]; exact h2), List.map_drop]
      refine ⟨by decide, ?_⟩
      rw [f1, f2]
      exact hh
    | false =>
      have z0 : ((1 : Int) > 0) := by decide
      simp only [Wx_var, Wx_con, Wx_glob, Wx_bin, Wx_neg, Wx_negI, Wx_not, Wx_cmp, Wx_and, Wx_or, Wx_ite, Wx_tup, Wx_lst, Wx_idx, Wx_slice, Wx_call, Wx_bi, Wx_isi, Wx_meth, Wx_nil, Wx_cons, Wx_onone, Wx_osome, Wx_cnone, Wx_csome, Wx_add, Wx_addT, Wx_sub, Wx_mul, Wx_fdiv, Wx_mod, Wx_tbl, Wx_tint, Wx_eqI, Wx_eqS, Wx_eqB, Wx_neI, Wx_ltI, Wx_leI, Wx_gtI, Wx_geI, Wx_idxT, atD_0, atD_1, atD_2, Wx_abs, Wx_intI, Wx_intB, Wx_cutT, Wx_srcT, Wx_range, Wx_ret, Wx_cond, List.getElem?_cons_zero, List.getElem?_cons_succ, List.length_cons, List.length_nil, List.set_cons_zero, List.set_cons_succ, decide_eq_true_eq, bne_iff_ne, Wx_turn, wipeD, Ws_nil, Ws_cons, Ws_asg, Ws_par, Ws_expr, Ws_ret, Ws_retn, Ws_pass, Ws_ite, asgD, setAll, t11, t14, t15, Bool.false_eq_true, if_false, if_true, row_cut, List.map_cons, z0]
      refine w_lsums f.sz f (Nat.le_refl _) (by omega) (n + 3) _ _ _ hn fun S1 p1 => ?_
      refine w_lheld f.sz f (Nat.le_refl _) (by omega) (n + 3) _ _ _ hn fun S2 p2 => ?_
      rw [Wx_add, fold_ns, fold_nh, e1]
      have hh := h S2 (p1.trans p2)
      have f1 : cutD (cs.map fr) (some (f.ns : Int)) none = (cs.drop f.ns).map fr := by rw [cutN _ _ (by rw [List.length_map]; exact h1), List.map_drop]
      have f2 : cutD (pr p :: bs.map pr) (some ((f.nh + 1 : Nat) : Int)) none = ((p :: bs).drop (f.nh + 1)).map pr := by rw [← List.map_cons, cutN _ _ (by rw [List.length_map]; exact h2), List.map_drop]
      refine ⟨by decide, ?_⟩
      rw [f1, f2]
      exact hh
end K03

set_option Elab.async false
set_option linter.all false
set_option maxRecDepth 100000
set_option maxHeartbeats 4000000
set_option autoImplicit false
/-! k03, the plain law: what a row forces, the tops' rows. -/
namespace K03
open Ev
/-- the row says: part i + j of the list, by the row y -/
def Fs.at (inp : List Rat) (b : Rat) : Fs → Nat → St → Row1 → Prop
  | .nil, _, _, _ => False
  | .cons f r, i, st, x => (∃ y ∈ f.rul inp st, x = (i : Int) :: y ∧ (f.val inp st).1 = b) ∨ r.at inp b (i + 1) (f.val inp st).2 x
theorem tops_at {inp : List Rat} {b : Rat} : ∀ (fs : Fs) (i : Nat) (st : St) (x : Row1), x ∈ fs.rul inp b i st → fs.at inp b i st x
  | .nil, i, st, x, h => by cases h
  | .cons f r, i, st, x, h => by
    have h : x ∈ (if (f.val inp st).1 = b then on0 (i : Int) (f.rul inp st) else []) ++ r.rul inp b (i + 1) (f.val inp st).2 := h
    rcases List.mem_append.mp h with h | h
    · split at h
      · rename_i c
        obtain ⟨y, hy, rfl⟩ := on0_mem h
        exact .inl ⟨y, hy, rfl, c⟩
      · cases h
    · exact .inr (tops_at r (i + 1) _ x h)
end K03

set_option Elab.async false
set_option linter.all false
set_option maxRecDepth 100000
set_option maxHeartbeats 400000
set_option autoImplicit false
/-! k03, the plain law: what a row forces, the parts of a top. -/
namespace K03
open Ev
def forcedPlace : ISs := match b__law_forced with
  | .cons _ (.cons _ (.cons _ (.cons _ (.cons (.for_ _ _ _ t) _)))) => t
  | _ => .nil
theorem top_ar {g : Bool} {fs : Fs} {S : Store} {Q : D → Store → Prop} {E : Ex} : Wx (idxD (F.top g fs).d (.int 1)) S Q E = Q (.tup fs.d) S := by
  show Wx (idxD (.tup [.str (gtag g), .tup fs.d]) (.int 1)) S Q E = _
  rw [Wx_idxT, atD_1]
section
variable {N : Env → Store → Prop} {Q : Fl × Env → Store → Prop}
theorem skip_part {n i : Nat} {j : Int} {g : Bool} {fs0 : Fs} {f : F} {st : St} {row : Row1} {S : Store} {x2 x3 x4 x5 x6 x9 x10 x11 x12 x13 : Option D} (hf : fs0.d[i]? = some f.d) (hij : (i : Int) ≠ j) (hz : f.sz ≤ 300000) (hn : f.dep + 2 ≤ n) (h1 : f.ns ≤ st.1.length) (h2 : f.nh ≤ st.2.length)
    (hN : ∀ S', S <+: S' → N [some (F.top g fs0).d, some (rowD (j :: row)), x2, x3, x4, x5, x6, some (cD (st.1.drop f.ns, st.2.drop f.nh)), some (bD (st.1.drop f.ns, st.2.drop f.nh)), x9, some f.d, x11, x12, x13, some (.int (i : Int))] S') :
    Ws (denSs (run P n) forcedPlace [some (F.top g fs0).d, some (rowD (j :: row)), x2, x3, x4, x5, x6, some (cD st), some (bD st), x9, x10, x11, x12, x13, some (.int (i : Int))]) S N Q := by
  unfold forcedPlace b__law_forced
  have e := atD_nat hf
  have nb : ((i : Int) == j) = false := by simpa using hij
  simp only [Wx_var, Wx_con, Wx_glob, Wx_bin, Wx_neg, Wx_negI, Wx_not, Wx_cmp, Wx_and, Wx_or, Wx_ite, Wx_tup, Wx_lst, Wx_idx, Wx_slice, Wx_call, Wx_bi, Wx_isi, Wx_meth, Wx_nil, Wx_cons, Wx_onone, Wx_osome, Wx_cnone, Wx_csome, Wx_add, Wx_addT, Wx_sub, Wx_mul, Wx_fdiv, Wx_mod, Wx_tbl, Wx_tint, Wx_eqI, Wx_eqS, Wx_eqB, Wx_neI, Wx_ltI, Wx_leI, Wx_gtI, Wx_geI, Wx_idxT, atD_0, atD_1, atD_2, Wx_abs, Wx_intI, Wx_intB, Wx_cutT, Wx_srcT, Wx_range, Wx_ret, Wx_cond, List.getElem?_cons_zero, List.getElem?_cons_succ, List.length_cons, List.length_nil, List.set_cons_zero, List.set_cons_succ, decide_eq_true_eq, bne_iff_ne, Wx_turn, wipeD, Ws_nil, Ws_cons, Ws_asg, Ws_par, Ws_expr, Ws_ret, Ws_retn, Ws_pass, Ws_ite, asgD, setAll, top_ar, e, row_cons, nb, Bool.false_eq_true, if_false]
  refine w_lsums f.sz f (Nat.le_refl _) (by omega) n _ _ _ hn fun S1 p1 => ?_
  simp only [Wx_var, Wx_con, Wx_glob, Wx_bin, Wx_neg, Wx_negI, Wx_not, Wx_cmp, Wx_and, Wx_or, Wx_ite, Wx_tup, Wx_lst, Wx_idx, Wx_slice, Wx_call, Wx_bi, Wx_isi, Wx_meth, Wx_nil, Wx_cons, Wx_onone, Wx_osome, Wx_cnone, Wx_csome, Wx_add, Wx_addT, Wx_sub, Wx_mul, Wx_fdiv, Wx_mod, Wx_tbl, Wx_tint, Wx_eqI, Wx_eqS, Wx_eqB, Wx_neI, Wx_ltI, Wx_leI, Wx_gtI, Wx_geI, Wx_idxT, atD_0, atD_1, atD_2, Wx_abs, Wx_intI, Wx_intB, Wx_cutT, Wx_srcT, Wx_range, Wx_ret, Wx_cond, List.getElem?_cons_zero, List.getElem?_cons_succ, List.length_cons, List.length_nil, List.set_cons_zero, List.set_cons_succ, decide_eq_true_eq, bne_iff_ne, Wx_turn, wipeD, Ws_nil, Ws_cons, Ws_asg, Ws_par, Ws_expr, Ws_ret, Ws_retn, Ws_pass, Ws_ite, asgD, setAll, fold_ns]
  refine w_lheld f.sz f (Nat.le_refl _) (by omega) n _ _ _ hn fun S2 p2 => ?_
  simp only [Wx_var, Wx_con, Wx_glob, Wx_bin, Wx_neg, Wx_negI, Wx_not, Wx_cmp, Wx_and, Wx_or, Wx_ite, Wx_tup, Wx_lst, Wx_idx, Wx_slice, Wx_call, Wx_bi, Wx_isi, Wx_meth, Wx_nil, Wx_cons, Wx_onone, Wx_osome, Wx_cnone, Wx_csome, Wx_add, Wx_addT, Wx_sub, Wx_mul, Wx_fdiv, Wx_mod, Wx_tbl, Wx_tint, Wx_eqI, Wx_eqS, Wx_eqB, Wx_neI, Wx_ltI, Wx_leI, Wx_gtI, Wx_geI, Wx_idxT, atD_0, atD_1, atD_2, Wx_abs, Wx_intI, Wx_intB, Wx_cutT, Wx_srcT, Wx_range, Wx_ret, Wx_cond, List.getElem?_cons_zero, List.getElem?_cons_succ, List.length_cons, List.length_nil, List.set_cons_zero, List.set_cons_succ, decide_eq_true_eq, bne_iff_ne, Wx_turn, wipeD, Ws_nil, Ws_cons, Ws_asg, Ws_par, Ws_expr, Ws_ret, Ws_retn, Ws_pass, Ws_ite, asgD, setAll, fold_nh]
  have f1 : cutD (st.1.map fr) (some (f.ns : Int)) none = (st.1.drop f.ns).map fr := by rw [cutN _ _ (by rw [List.length_map]; exact h1), List.map_drop]
  have f2 : cutD (st.2.map pr) (some (f.nh : Int)) none = (st.2.drop f.nh).map pr := by rw [cutN _ _ (by rw [List.length_map]; exact h2), List.map_drop]
  rw [f1, f2]
  exact hN S2 (p1.trans p2)
theorem take_part {n i : Nat} {j : Int} {g : Bool} {fs0 : Fs} {f : F} {st : St} {inp : List Rat} {row y rest : Row1} {S : Store} {x3 x4 x5 x9 x10 x11 x12 x13 : Option D} (hf : fs0.d[i]? = some f.d) (hij : (i : Int) = j) (ih : ForcedAt n inp f) (hs : StOk st) (h1 : f.ns ≤ st.1.length) (h2 : f.nh ≤ st.2.length) (hy : y ∈ f.rul inp st)
    (hN : ∀ S', S <+: S' → N [some (F.top g fs0).d, some (rowD (j :: row)), some (iD inp), x3, x4, some (fr (f.val inp st).1), some (rowD rest), some (cD (f.val inp st).2), some (bD (f.val inp st).2), x9, some f.d, x11, x12, x13, some (.int (i : Int))] S') :
    Ws (denSs (run P n) forcedPlace [some (F.top g fs0).d, some (rowD (j :: row)), some (iD inp), x3, x4, x5, some (rowD (y ++ rest)), some (cD st), some (bD st), x9, x10, x11, x12, x13, some (.int (i : Int))]) S N Q := by
  unfold forcedPlace b__law_forced
  have e := atD_nat hf
  have nb : ((i : Int) == j) = true := by simpa using hij
  simp only [Wx_var, Wx_con, Wx_glob, Wx_bin, Wx_neg, Wx_negI, Wx_not, Wx_cmp, Wx_and, Wx_or, Wx_ite, Wx_tup, Wx_lst, Wx_idx, Wx_slice, Wx_call, Wx_bi, Wx_isi, Wx_meth, Wx_nil, Wx_cons, Wx_onone, Wx_osome, Wx_cnone, Wx_csome, Wx_add, Wx_addT, Wx_sub, Wx_mul, Wx_fdiv, Wx_mod, Wx_tbl, Wx_tint, Wx_eqI, Wx_eqS, Wx_eqB, Wx_neI, Wx_ltI, Wx_leI, Wx_gtI, Wx_geI, Wx_idxT, atD_0, atD_1, atD_2, Wx_abs, Wx_intI, Wx_intB, Wx_cutT, Wx_srcT, Wx_range, Wx_ret, Wx_cond, List.getElem?_cons_zero, List.getElem?_cons_succ, List.length_cons, List.length_nil, List.set_cons_zero, List.set_cons_succ, decide_eq_true_eq, bne_iff_ne, Wx_turn, wipeD, Ws_nil, Ws_cons, Ws_asg, Ws_par, Ws_expr, Ws_ret, Ws_retn, Ws_pass, Ws_ite, asgD, setAll, top_ar, e, row_cons, nb, if_true]
  refine ih st y rest S _ _ hs h1 h2 hy fun S1 p1 => ?_
  simp only [Wx_var, Wx_con, Wx_glob, Wx_bin, Wx_neg, Wx_negI, Wx_not, Wx_cmp, Wx_and, Wx_or, Wx_ite, Wx_tup, Wx_lst, Wx_idx, Wx_slice, Wx_call, Wx_bi, Wx_isi, Wx_meth, Wx_nil, Wx_cons, Wx_onone, Wx_osome, Wx_cnone, Wx_csome, Wx_add, Wx_addT, Wx_sub, Wx_mul, Wx_fdiv, Wx_mod, Wx_tbl, Wx_tint, Wx_eqI, Wx_eqS, Wx_eqB, Wx_neI, Wx_ltI, Wx_leI, Wx_gtI, Wx_geI, Wx_idxT, atD_0, atD_1, atD_2, Wx_abs, Wx_intI, Wx_intB, Wx_cutT, Wx_srcT, Wx_range, Wx_ret, Wx_cond, List.getElem?_cons_zero, List.getElem?_cons_succ, List.length_cons, List.length_nil, List.set_cons_zero, List.set_cons_succ, decide_eq_true_eq, bne_iff_ne, Wx_turn, wipeD, Ws_nil, Ws_cons, Ws_asg, Ws_par, Ws_expr, Ws_ret, Ws_retn, Ws_pass, Ws_ite, asgD, setAll]
  exact hN S1 p1
theorem skip_all {n : Nat} {j : Int} {g : Bool} {fs0 : Fs} {row : Row1} {S0 : Store} {x2 x3 x4 x5 x6 x9 x11 x12 x13 : Option D} : ∀ (fs : Fs) (i : Nat) (st : St) (S : Store) (o10 o14 : Option D), fs0.d.drop i = fs.d → j < (i : Int) → fs.sz ≤ 300000 → (∀ f ∈ fs.list, f.dep + 2 ≤ n) → fs.ns ≤ st.1.length → fs.nh ≤ st.2.length →
    (∀ S' o10 o14, S <+: S' → N [some (F.top g fs0).d, some (rowD (j :: row)), x2, x3, x4, x5, x6, some (cD (st.1.drop fs.ns, st.2.drop fs.nh)), some (bD (st.1.drop fs.ns, st.2.drop fs.nh)), x9, o10, x11, x12, x13, o14] S') →
    Ws (forD S0 [] (.name 14) (denSs (run P n) forcedPlace) (rangeD (i : Int) fs.list.length) [some (F.top g fs0).d, some (rowD (j :: row)), x2, x3, x4, x5, x6, some (cD st), some (bD st), x9, o10, x11, x12, x13, o14]) S N Q
  | .nil, i, st, S, o10, o14, hd, hj, hz, hn, h1, h2, hN => by
    show Ws (forD S0 [] _ _ [] _) S N Q
    rw [Ws_for_nil]
    exact ⟨keptNil, hN S o10 o14 (List.prefix_refl _)⟩
  | .cons f r, i, st, S, o10, o14, hd, hj, hz, hn, h1, h2, hN => by
    show Ws (forD S0 [] _ _ (.int (i : Int) :: rangeD ((i : Int) + 1) r.list.length) _) S N Q
    rw [Ws_for_cons]
    refine ⟨keptNil, ?_⟩
    have e1 : (Fs.cons f r).sz = f.sz + r.sz + 1 := rfl
    have n1 : (Fs.cons f r).ns = f.ns + r.ns := rfl
    have n2 : (Fs.cons f r).nh = f.nh + r.nh := rfl
    have hf : fs0.d[i]? = some f.d := by
      have : (fs0.d.drop i)[0]? = some f.d := by rw [hd]; rfl
      rw [List.getElem?_drop] at this
      exact this
    have hd2 : fs0.d.drop (i + 1) = r.d := by
      rw [← List.drop_drop, hd]
      rfl
    simp only [asgD, List.set_cons_succ, List.set_cons_zero]
    refine skip_part hf (by omega) (by omega) (hn f List.mem_cons_self) (by omega) (by omega) fun S1 p1 => ?_
    have ic : ((i : Int) + 1) = ((i + 1 : Nat) : Int) := by omega
    rw [ic]
    refine skip_all r (i + 1) (st.1.drop f.ns, st.2.drop f.nh) S1 _ _ hd2 (by omega) (by omega) (fun x hx => hn x (List.mem_cons_of_mem _ hx)) (by rw [List.length_drop]; omega) (by rw [List.length_drop]; omega) fun S2 o10 o14 p2 => ?_
    have := hN S2 o10 o14 (p1.trans p2)
    rw [n1, n2] at this
    rw [List.drop_drop, List.drop_drop]
    exact this
theorem at_ge {inp : List Rat} {b : Rat} {j : Int} {y : Row1} : ∀ (fs : Fs) (i : Nat) (st : St), fs.at inp b i st (j :: y) → (i : Int) ≤ j
  | .nil, i, st, h => h.elim
  | .cons f r, i, st, h => by
    rcases h with ⟨y', hy, e, _⟩ | h
    · cases e
      exact Int.le_refl _
    · have := at_ge r (i + 1) _ h
      omega
theorem forced_tops {n : Nat} {j : Int} {g : Bool} {fs0 : Fs} {inp : List Rat} {b : Rat} {row y rest : Row1} {S0 : Store} {x3 x4 x9 x11 x12 x13 : Option D} : ∀ (fs : Fs) (i : Nat) (st : St) (S : Store) (x5 o10 o14 : Option D), fs.at inp b i st (j :: y) → fs0.d.drop i = fs.d → fs.sz ≤ 300000 → (∀ f ∈ fs.list, f.dep + 2 ≤ n ∧ ForcedAt n inp f) → StOk st → fs.ns ≤ st.1.length → fs.nh ≤ st.2.length →
    (∀ S' o10 o14, S <+: S' → N [some (F.top g fs0).d, some (rowD (j :: row)), some (iD inp), x3, x4, some (fr b), some (rowD rest), some (cD (st.1.drop fs.ns, st.2.drop fs.nh)), some (bD (st.1.drop fs.ns, st.2.drop fs.nh)), x9, o10, x11, x12, x13, o14] S') →
    Ws (forD S0 [] (.name 14) (denSs (run P n) forcedPlace) (rangeD (i : Int) fs.list.length) [some (F.top g fs0).d, some (rowD (j :: row)), some (iD inp), x3, x4, x5, some (rowD (y ++ rest)), some (cD st), some (bD st), x9, o10, x11, x12, x13, o14]) S N Q
  | .nil, i, st, S, x5, o10, o14, ha, hd, hz, ih, hs, h1, h2, hN => ha.elim
  | .cons f r, i, st, S, x5, o10, o14, ha, hd, hz, ih, hs, h1, h2, hN => by
    show Ws (forD S0 [] _ _ (.int (i : Int) :: rangeD ((i : Int) + 1) r.list.length) _) S N Q
    rw [Ws_for_cons]
    refine ⟨keptNil, ?_⟩
    have e1 : (Fs.cons f r).sz = f.sz + r.sz + 1 := rfl
    have n1 : (Fs.cons f r).ns = f.ns + r.ns := rfl
    have n2 : (Fs.cons f r).nh = f.nh + r.nh := rfl
    have hf : fs0.d[i]? = some f.d := by
      have : (fs0.d.drop i)[0]? = some f.d := by rw [hd]; rfl
      rw [List.getElem?_drop] at this
      exact this
    have hd2 : fs0.d.drop (i + 1) = r.d := by
      rw [← List.drop_drop, hd]
      rfl
    have ic : ((i : Int) + 1) = ((i + 1 : Nat) : Int) := by omega
    simp only [asgD, List.set_cons_succ, List.set_cons_zero]
    rcases ha with ⟨y', hy, e, hb⟩ | ha
    · injection e with ej ey
      subst ey
      refine take_part hf ej.symm (ih f List.mem_cons_self).2 hs (by omega) (by omega) hy fun S1 p1 => ?_
      rw [ic, hb, val_st]
      refine skip_all r (i + 1) (st.1.drop f.ns, st.2.drop f.nh) S1 _ _ hd2 (by omega) (by omega) (fun x hx => (ih x (List.mem_cons_of_mem _ hx)).1) (by rw [List.length_drop]; omega) (by rw [List.length_drop]; omega) fun S2 o10 o14 p2 => ?_
      have := hN S2 o10 o14 (p1.trans p2)
      rw [n1, n2] at this
      rw [List.drop_drop, List.drop_drop]
      exact this
    · have hge := at_ge r (i + 1) _ ha
      refine skip_part hf (by omega) (by omega) (ih f List.mem_cons_self).1 (by omega) (by omega) fun S1 p1 => ?_
      rw [val_st] at ha
      rw [ic]
      refine forced_tops r (i + 1) (st.1.drop f.ns, st.2.drop f.nh) S1 _ _ _ ha hd2 (by omega) (fun x hx => ih x (List.mem_cons_of_mem _ hx)) (hs.drop _ _) (by rw [List.length_drop]; omega) (by rw [List.length_drop]; omega) fun S2 o10 o14 p2 => ?_
      have := hN S2 o10 o14 (p1.trans p2)
      rw [n1, n2] at this
      rw [List.drop_drop, List.drop_drop]
      exact this
end
end K03

set_option Elab.async false
set_option linter.all false
set_option maxRecDepth 100000
set_option maxHeartbeats 400000
set_option autoImplicit false
/-! k03, the plain law: what a row forces, whole. -/
namespace K03
open Ev
theorem Fs.len_sz : ∀ {fs : Fs}, fs.d.length ≤ fs.sz := fun {fs} => by
  rw [Fs.d_list, List.length_map]
  exact Fs.sz_list.1
theorem w_forced_top {n s : Nat} {inp : List Rat} (hi : In s inp) {g : Bool} {fs : Fs} (hz : fs.sz ≤ 300000) (ih : ∀ f ∈ fs.list, f.dep + 2 ≤ n + 3 ∧ ForcedAt (n + 3) inp f) : ForcedAt (n + 4) inp (.top g fs) := by
  intro st row rest S Q E hs h1 h2 hr h
  have ha := tops_at fs 0 st row hr
  obtain ⟨j, y, hj, rfl⟩ := tops_mem fs 0 st row hr
  rw [r__law_forced, Wx_end]
  unfold b__law_forced
  have tg : ∀ {S : Store} {Q : D → Store → Prop} {E : Ex}, Wx (idxD (F.top g fs).d (.int 0)) S Q E = Q (.str (gtag g)) S := fun {S Q E} => Wx_tag (f := F.top g fs)
  rw [List.cons_append]
  have rc : rowD ((j : Int) :: (y ++ rest)) = .tup (.int (j : Int) :: (y ++ rest).map D.int) := rfl
  rw [rc]
  rw [Ws_cons, Ws_ite]
  simp only [Wx_var, Wx_con, Wx_glob, Wx_bin, Wx_neg, Wx_negI, Wx_not, Wx_cmp, Wx_and, Wx_or, Wx_ite, Wx_tup, Wx_lst, Wx_idx, Wx_slice, Wx_call, Wx_bi, Wx_isi, Wx_meth, Wx_nil, Wx_cons, Wx_onone, Wx_osome, Wx_cnone, Wx_csome, Wx_add, Wx_addT, Wx_sub, Wx_mul, Wx_fdiv, Wx_mod, Wx_tbl, Wx_tint, Wx_eqI, Wx_eqS, Wx_eqB, Wx_neI, Wx_ltI, Wx_leI, Wx_gtI, Wx_geI, Wx_idxT, atD_0, atD_1, atD_2, Wx_abs, Wx_intI, Wx_intB, Wx_cutT, Wx_srcT, Wx_range, Wx_ret, Wx_cond, List.getElem?_cons_zero, List.getElem?_cons_succ, List.length_cons, List.length_nil, List.set_cons_zero, List.set_cons_succ, decide_eq_true_eq, bne_iff_ne, Wx_turn, wipeD, tg, t16, Bool.false_eq_true, if_false, Ws_nil]
  rw [Ws_cons, Ws_ite]
  simp only [Wx_var, Wx_con, Wx_glob, Wx_bin, Wx_neg, Wx_negI, Wx_not, Wx_cmp, Wx_and, Wx_or, Wx_ite, Wx_tup, Wx_lst, Wx_idx, Wx_slice, Wx_call, Wx_bi, Wx_isi, Wx_meth, Wx_nil, Wx_cons, Wx_onone, Wx_osome, Wx_cnone, Wx_csome, Wx_add, Wx_addT, Wx_sub, Wx_mul, Wx_fdiv, Wx_mod, Wx_tbl, Wx_tint, Wx_eqI, Wx_eqS, Wx_eqB, Wx_neI, Wx_ltI, Wx_leI, Wx_gtI, Wx_geI, Wx_idxT, atD_0, atD_1, atD_2, Wx_abs, Wx_intI, Wx_intB, Wx_cutT, Wx_srcT, Wx_range, Wx_ret, Wx_cond, List.getElem?_cons_zero, List.getElem?_cons_succ, List.length_cons, List.length_nil, List.set_cons_zero, List.set_cons_succ, decide_eq_true_eq, bne_iff_ne, Wx_turn, wipeD, tg, t17, Bool.false_eq_true, if_false, Ws_nil]
  rw [Ws_cons, Ws_ite]
  simp only [Wx_var, Wx_con, Wx_glob, Wx_bin, Wx_neg, Wx_negI, Wx_not, Wx_cmp, Wx_and, Wx_or, Wx_ite, Wx_tup, Wx_lst, Wx_idx, Wx_slice, Wx_call, Wx_bi, Wx_isi, Wx_meth, Wx_nil, Wx_cons, Wx_onone, Wx_osome, Wx_cnone, Wx_csome, Wx_add, Wx_addT, Wx_sub, Wx_mul, Wx_fdiv, Wx_mod, Wx_tbl, Wx_tint, Wx_eqI, Wx_eqS, Wx_eqB, Wx_neI, Wx_ltI, Wx_leI, Wx_gtI, Wx_geI, Wx_idxT, atD_0, atD_1, atD_2, Wx_abs, Wx_intI, Wx_intB, Wx_cutT, Wx_srcT, Wx_range, Wx_ret, Wx_cond, List.getElem?_cons_zero, List.getElem?_cons_succ, List.length_cons, List.length_nil, List.set_cons_zero, List.set_cons_succ, decide_eq_true_eq, bne_iff_ne, Wx_turn, wipeD, tg, t18, Bool.false_eq_true, if_false, Ws_nil]
  simp only [Ws_cons, Ws_asg, Wx_var, Wx_con, Wx_glob, Wx_bin, Wx_neg, Wx_negI, Wx_not, Wx_cmp, Wx_and, Wx_or, Wx_ite, Wx_tup, Wx_lst, Wx_idx, Wx_slice, Wx_call, Wx_bi, Wx_isi, Wx_meth, Wx_nil, Wx_cons, Wx_onone, Wx_osome, Wx_cnone, Wx_csome, Wx_add, Wx_addT, Wx_sub, Wx_mul, Wx_fdiv, Wx_mod, Wx_tbl, Wx_tint, Wx_eqI, Wx_eqS, Wx_eqB, Wx_neI, Wx_ltI, Wx_leI, Wx_gtI, Wx_geI, Wx_idxT, atD_0, atD_1, atD_2, Wx_abs, Wx_intI, Wx_intB, Wx_cutT, Wx_srcT, Wx_range, Wx_ret, Wx_cond, List.getElem?_cons_zero, List.getElem?_cons_succ, List.length_cons, List.length_nil, List.set_cons_zero, List.set_cons_succ, decide_eq_true_eq, bne_iff_ne, Wx_turn, wipeD, asgD, setAll, row_cut, Ws_for, top_ar]
  have hl := Fs.len_sz (fs := fs)
  have e0 : fs.d.length = fs.list.length := by rw [Fs.d_list, List.length_map]
  refine ⟨by decide, by decide, ?_⟩
  rw [Wx_len rfl]
  simp only [Wx_var, Wx_con, Wx_glob, Wx_bin, Wx_neg, Wx_negI, Wx_not, Wx_cmp, Wx_and, Wx_or, Wx_ite, Wx_tup, Wx_lst, Wx_idx, Wx_slice, Wx_call, Wx_bi, Wx_isi, Wx_meth, Wx_nil, Wx_cons, Wx_onone, Wx_osome, Wx_cnone, Wx_csome, Wx_add, Wx_addT, Wx_sub, Wx_mul, Wx_fdiv, Wx_mod, Wx_tbl, Wx_tint, Wx_eqI, Wx_eqS, Wx_eqB, Wx_neI, Wx_ltI, Wx_leI, Wx_gtI, Wx_geI, Wx_idxT, atD_0, atD_1, atD_2, Wx_abs, Wx_intI, Wx_intB, Wx_cutT, Wx_srcT, Wx_range, Wx_ret, Wx_cond, List.getElem?_cons_zero, List.getElem?_cons_succ, List.length_cons, List.length_nil, List.set_cons_zero, List.set_cons_succ, decide_eq_true_eq, bne_iff_ne, Wx_turn, wipeD]
  refine ⟨len_ok (by unfold line; omega), ?_⟩
  rw [Int.toNat_natCast, e0]
  refine forced_tops (row := y ++ rest) (y := y) (rest := rest) fs 0 st S _ _ _ ha rfl hz ih hs h1 h2 fun S' o10 o14 p => ?_
  simp only [Wx_var, Wx_con, Wx_glob, Wx_bin, Wx_neg, Wx_negI, Wx_not, Wx_cmp, Wx_and, Wx_or, Wx_ite, Wx_tup, Wx_lst, Wx_idx, Wx_slice, Wx_call, Wx_bi, Wx_isi, Wx_meth, Wx_nil, Wx_cons, Wx_onone, Wx_osome, Wx_cnone, Wx_csome, Wx_add, Wx_addT, Wx_sub, Wx_mul, Wx_fdiv, Wx_mod, Wx_tbl, Wx_tint, Wx_eqI, Wx_eqS, Wx_eqB, Wx_neI, Wx_ltI, Wx_leI, Wx_gtI, Wx_geI, Wx_idxT, atD_0, atD_1, atD_2, Wx_abs, Wx_intI, Wx_intB, Wx_cutT, Wx_srcT, Wx_range, Wx_ret, Wx_cond, List.getElem?_cons_zero, List.getElem?_cons_succ, List.length_cons, List.length_nil, List.set_cons_zero, List.set_cons_succ, decide_eq_true_eq, bne_iff_ne, Wx_turn, wipeD, Ws_nil, Ws_cons, Ws_asg, Ws_par, Ws_expr, Ws_ret, Ws_retn, Ws_pass, Ws_ite, asgD, setAll]
  refine ⟨by decide, ?_⟩
  have e := h S' p
  have e2 : ((F.top g fs).val inp st).2 = (st.1.drop fs.ns, st.2.drop fs.nh) := vals_st inp fs st
  rw [e2] at e
  exact e
theorem w_forced {s : Nat} {inp : List Rat} (hi : In s inp) : ∀ (b : Nat) (f : F), f.sz ≤ b → b ≤ 300000 → f.ok s → ∀ n, f.dep + 8 ≤ n → ForcedAt n inp f := by
  intro b
  induction b with
  | zero => intro f h; cases f <;> exact absurd h (Nat.not_succ_le_zero _)
  | succ b ih =>
    intro f hb hb2 hok n hn
    obtain ⟨n, rfl⟩ : ∃ n', n = n' + 4 := ⟨n - 4, by omega⟩
    cases f with
    | sum rs =>
      have hz : (F.sum rs).sz = rs.sz + 1 := rfl
      have hd : (F.sum rs).dep = rs.dep + 1 := rfl
      refine w_forced_sum hi (by omega) hok fun g hg => ?_
      have := (Rs.sz_inner (rs := rs)).2 g hg
      have := Rs.dep_inner hg
      exact ih g (by omega) (by omega) (Rs.ok_inner hok hg) (n + 3) (by omega)
    | top g fs =>
      have hz : (F.top g fs).sz = fs.sz + 1 := rfl
      have hd : (F.top g fs).dep = fs.dep + 1 := rfl
      refine w_forced_top hi (by omega) fun f hf => ?_
      have := (Fs.sz_list (rs := fs)).2 f hf
      have := Fs.dep_list hf
      exact ⟨by omega, ih f (by omega) (by omega) (Fs.ok_list hok.2 hf) (n + 3) (by omega)⟩
    | size f =>
      have hz : (F.size f).sz = f.sz + 1 := rfl
      have hd : (F.size f).dep = f.dep + 1 := rfl
      exact w_forced_size (f := f) hi hok (ih f (by omega) (by omega) hok (n + 3) (by omega))
    | held f =>
      have hz : (F.held f).sz = f.sz + 1 := rfl
      have hd : (F.held f).dep = f.dep + 1 := rfl
      have ihf := ih f (by omega) (by omega) hok (n + 3) (by omega)
      intro st row rest S Q E hs h1 h2 hr h
      have hp : (st.2.headD (0, 0)).1 < (st.2.headD (0, 0)).2 := by
        cases e : st.2 with
        | nil => rw [e] at h2; exact absurd h2 (Nat.not_succ_le_zero _)
        | cons p bs => exact (hs.2 p (by rw [e]; exact List.mem_cons_self)).2.2
      have hval : ((F.held f).val inp st).1 = clamp (st.2.headD (0, 0)) (f.val inp (st.1, st.2.tail)).1 := rfl
      rcases held_mem hr with ⟨y, hy, rfl, c1, c2⟩ | ⟨rfl, c⟩ | ⟨rfl, c⟩
      · exact w_forced_in (f := f) hok ihf hs h1 h2 hy c1 c2 h
      · have e := w_forced_end (f := f) (st := st) (rest := rest) (S := S) (Q := Q) (E := E) (n := n) (s := s) (inp := inp) (by omega) (by omega) h1 h2 false (by rw [hval, clamp_low hp c, if_neg Bool.false_ne_true]) h
        rw [if_neg Bool.false_ne_true] at e
        exact e
      · have e := w_forced_end (f := f) (st := st) (rest := rest) (S := S) (Q := Q) (E := E) (n := n) (s := s) (inp := inp) (by omega) (by omega) h1 h2 true (by rw [hval, clamp_high hp c, if_pos rfl]) h
        rw [if_pos rfl] at e
        exact e
end K03

set_option Elab.async false
set_option linter.all false
set_option maxRecDepth 100000
set_option maxHeartbeats 400000
set_option autoImplicit false
/-! k03, the plain law: fractions compared whole, rows with a number ahead, parts' counts. -/
namespace K03
open Ev
section
variable {S : Store} {E : Ex}
theorem shaped_fr (q : Rat) : PySem.SeqAt.shaped (.tuple [.int q.num, .int (q.den : Int)]) = true := by
  unfold PySem.SeqAt.shaped
  rfl
theorem eqv_fr (a b : Rat) : PySem.PyData.eqv (.tuple [.int a.num, .int (a.den : Int)]) (.tuple [.int b.num, .int (b.den : Int)]) = decide (a = b) := by
  simp only [PySem.PyData.eqv, PySem.PyData.eqvAll, Bool.and_true]
  by_cases h : a = b
  · subst h
    simp
  · rw [decide_eq_false h]
    rw [Bool.and_eq_false_iff]
    by_cases h1 : a.num = b.num
    · right
      have : a.den ≠ b.den := fun z => h (Rat.ext h1 z)
      simp
      omega
    · left
      simpa using h1
theorem Wx_eqF (a b : Rat) {Q : Bool → Store → Prop} : Wx (cmpD .eq (fr a) (fr b)) S Q E = Q (decide (a = b)) S := by
  rw [← eqv_fr]
  show Sat (if PySem.SeqAt.shaped (.tuple [.int a.num, .int (a.den : Int)]) && PySem.SeqAt.shaped (.tuple [.int b.num, .int (b.den : Int)]) then R.ok (PySem.PyData.eqv _ _) S else .bad) Q E = _
  rw [shaped_fr, shaped_fr]
  rfl
theorem Wx_neF (a b : Rat) {Q : Bool → Store → Prop} : Wx (cmpD .ne (fr a) (fr b)) S Q E = Q (!decide (a = b)) S := by
  show Wx (M.bind (cmpD .eq (fr a) (fr b)) fun r => M.ret (!r)) S Q E = _
  rw [Wx_bind, Wx_eqF, Wx_ret]
theorem Wx_isNT {ds : List D} {Q : Bool → Store → Prop} : Wx (cmpD .is_ (.tup ds) .non) S Q E = Q false S := rfl
theorem Wx_isNN {Q : Bool → Store → Prop} : Wx (cmpD .is_ .non .non) S Q E = Q true S := rfl
/-- a number put ahead of each row -/
def addTo (i : Int) (d : D) : List D := match d with
  | .tup xs => [.tup (.int i :: xs)]
  | _ => []
theorem flat_on (i : Int) (rows : List Row1) : (rows.map rowD).flatMap (addTo i) = (on0 i rows).map rowD := by
  induction rows with
  | nil => rfl
  | cons x r ih =>
    rw [List.map_cons, List.flatMap_cons, ih]
    rfl
theorem each_on {C : Calls} {p : Nat} {i : Int} {e : IE} {δ : Env} {S0 : Store} {ks : List Nat} {rows : List Row1} (hk : kept S0 S ks) (hp : p < δ.length) (hl : ∀ x ∈ rows, x.length < line) (he : ∀ (x : D) (Q : D → Store → Prop), Q (.int i) S → Wx (denE C e ((δ.set p none).set p (some x))) S Q NoEx) (Q : List D → Store → Prop) (h : Q ((on0 i rows).map rowD) S) :
    Wx (eachD S0 ks (turnC (.name p) [p] δ (denC C .none) (denE C (.bin .add (.tup (.cons e .nil)) (.var p)))) (rows.map rowD)) S Q NoEx := by
  refine each_pure (g := addTo i) hk (rows.map rowD) (fun d hd Q hq => ?_) Q ?_
  · obtain ⟨x, hx, rfl⟩ := List.mem_map.mp hd
    have e2 : ((δ.set p none).set p (some (rowD x)))[p]? = some (some (rowD x)) := by
      rw [List.getElem?_set_self (by rw [List.length_set]; exact hp)]
    simp only [Wx_turn, wipeD, asgD, Wx_cnone, if_true, Wx_bin, Wx_tup, Wx_cons, Wx_nil]
    refine he _ _ ?_
    refine ⟨(by decide : (1 : Nat) ≤ line), ?_⟩
    rw [Wx_var, e2]
    show Wx (binD .add (.tup [.int i]) (.tup (x.map D.int))) S _ _
    rw [Wx_addT]
    refine ⟨by have := hl x hx; rw [List.length_map, List.length_singleton]; unfold line at *; omega, hq⟩
  · rw [flat_on]
    exact h
theorem on_comp {C : Calls} {p q r : Nat} {i : Int} {ow : PySem.Str} {e : IE} {δ : Env} {rows : List Row1} {Q : D → Store → Prop} (hq : δ[q]? = some (some (.ref r))) (hr : RowsAt S r rows) (hp : p < δ.length) (hz : rows.length ≤ line) (hl : ∀ x ∈ rows, x.length < line) (he : ∀ (x : D) (Q : D → Store → Prop), Q (.int i) S → Wx (denE C e ((δ.set p none).set p (some x))) S Q NoEx) (h : Q (.ref S.length) (S ++ [Ob.lst ((on0 i rows).map rowD)])) :
    Wx (denE C (.comp [(ow, p)] (.name p) .seq (.cons (.var q) .nil) .none (.bin .add (.tup (.cons e .nil)) (.var p))) δ) S Q E := by
  rw [Wx_comp]
  simp only [Wx_cons, Wx_nil, Wx_var, hq]
  rw [Wx_srcL (seq_lst hr)]
  refine each_on (kept_self) hp hl he _ ?_
  exact ⟨by rw [List.length_map, on0_len]; exact hz, h⟩
end
/-! ### inner counts -/
theorem many_sum {s : Nat} : ∀ (fs : Fs) (g : F), fs.ok s → g ∈ fs.list → g.fold aMany ≤ (fs.folds aMany).sum
  | .cons f r, g, h, hg => by
    have h0 := manyt_nn r
    have h1 := (many_le f).1
    show g.fold aMany ≤ f.fold aMany + (r.folds aMany).sum
    rcases List.mem_cons.mp hg with rfl | hg
    · omega
    · have := many_sum r g h.2 hg
      omega
theorem many_prod {s : Nat} : ∀ (rs : Rs) (g : F), rs.ok s → g ∈ rs.inner → g.fold aMany ≤ prodI (rs.folds aMany)
  | .leaf _ _ r, g, h, hg => many_prod r g h.2.2 hg
  | .node _ f r, g, h, hg => by
    show g.fold aMany ≤ prodI (f.fold aMany :: r.folds aMany)
    rw [prod_cons]
    have h1 := many_pos f h.2.1
    have h2 := manys_pos r h.2.2
    rcases List.mem_cons.mp hg with rfl | hg
    · have := Int.mul_le_mul_of_nonneg_left h2 (show 0 ≤ g.fold aMany by omega)
      rwa [Int.mul_one] at this
    · have h3 := many_prod r g h.2.2 hg
      have := Int.mul_le_mul_of_nonneg_right h1 (show 0 ≤ prodI (r.folds aMany) by omega)
      rw [Int.one_mul] at this
      omega
theorem many_top {g : Bool} {fs : Fs} : (F.top g fs).fold aMany = (fs.folds aMany).sum := by cases g <;> (show _ * (1 : Int) + 0 = _; omega)
theorem many_size {f : F} : (F.size f).fold aMany = f.fold aMany * 2 := by
  show (f.fold aMany + 0) * 2 + 0 = _
  omega
theorem many_held {f : F} : (F.held f).fold aMany = f.fold aMany + 2 := by
  show (f.fold aMany + 0) * 1 + 2 = _
  omega
end K03

set_option Elab.async false
set_option linter.all false
set_option maxRecDepth 100000
set_option maxHeartbeats 400000
set_option autoImplicit false
/-! k03, the plain law: the module's ruling_sum. -/
namespace K03
open Ev
def RulAt (n fi : Nat) (inp : List Rat) (c : St) (f : F) : Prop := ∀ (i j t : Nat) (S : Store) (Q : D → Store → Prop) (E : Ex), i + f.ns ≤ c.1.length → j + f.nh ≤ c.2.length → AtIs S t i j →
  (∀ S' r, Kp t S S' → AtIs S' t (i + f.ns) (j + f.nh) → S.length ≤ r → RowsAt S' r (f.rul inp (dr c i j)) → Q (.tup [fr (f.val inp (dr c i j)).1, .ref r]) S') → Wx (run P n fi [f.d, iD inp, cD c, bD c, .ref t]) S Q E
def rsumRow : ISs := match b_ruling_sum with
  | .cons _ (.cons _ (.cons (.for_ _ _ _ t) _)) => t
  | _ => .nil
def Rws (S : Store) (u : Nat) (L : List (Nat × List Row1)) : Prop := ∀ p ∈ L, u < p.1 ∧ RowsAt S p.1 p.2
theorem Rws.kp {S S' : Store} {t u : Nat} {L : List (Nat × List Row1)} (h : Rws S u L) (k : Kp t S S') (ht : t ≤ u) : Rws S' u L := fun p hp => ⟨(h p hp).1, k.get (h p hp).2 (by have := (h p hp).1; omega)⟩
theorem Rws.add {S : Store} {u r : Nat} {L : List (Nat × List Row1)} {rows : List Row1} (h : Rws S u L) (hu : u < r) (hr : RowsAt S r rows) : Rws S u (L ++ [(r, rows)]) := fun p hp => by
  rcases List.mem_append.mp hp with hp | hp
  · exact h p hp
  · rw [List.mem_singleton.mp hp]
    exact ⟨hu, hr⟩
section
variable {N : Env → Store → Prop} {Q : Fl × Env → Store → Prop}
theorem rsum_rows {n s : Nat} {inp : List Rat} {c : St} {S0 Sb : Store} {t r1 r2 : Nat} {x0 : Option D} (hi : In s inp) (hs : StOk c) (h1t : r1 ≠ t) (h12 : r1 < r2) (ht : t < r2) (hr : Sb.length ≤ r1) : ∀ (rs : Rs) (i j : Nat) (l : QK) (L : List (Nat × List Row1)) (S : Store) (o7 o8 o9 o10 : Option D), (∀ g ∈ rs.inner, RulAt (n + 3) 18 inp c g) → rs.ok s → i + rs.ns ≤ c.1.length → j + rs.nh ≤ c.2.length → rs.sz ≤ 300000 → l.length + rs.sz < line → L.length + rs.sz < line → AtIs S t i j → S[r1]? = some (.lst (l.map fun q : Rat × Nat => fr q.1)) → S[r2]? = some (.lst (L.map fun p => D.ref p.1)) → Rws S r2 L → Kp t Sb S →
    (∀ S' L' o7 o8 o9 o10, Kp t Sb S' → AtIs S' t (i + rs.ns) (j + rs.nh) → S'[r1]? = some (.lst ((l ++ rs.terms inp (dr c i j)).map fun q : Rat × Nat => fr q.1)) → S'[r2]? = some (.lst (L'.map fun p => D.ref p.1)) → Rws S' r2 L' → L'.map (·.2) = L.map (·.2) ++ rs.rl inp (dr c i j) → S.length ≤ S'.length → N [x0, some (iD inp), some (cD c), some (bD c), some (.ref t), some (.ref r1), some (.ref r2), o7, o8, o9, o10] S') →
    Ws (forD S0 [] (.tup [7, 8]) (denSs (run P (n + 3)) rsumRow) rs.d [x0, some (iD inp), some (cD c), some (bD c), some (.ref t), some (.ref r1), some (.ref r2), o7, o8, o9, o10]) S N Q
  | .nil, i, j, l, L, S, o7, o8, o9, o10, ih, h, h1, h2, hz, hl, hL, ha, he, he2, hw, hk, hN => by
    unfold Rs.d
    rw [Ws_for_nil]
    refine ⟨keptNil, hN S L o7 o8 o9 o10 hk ha ?_ he2 hw (List.append_nil _).symm (Nat.le_refl _)⟩
    show _ = some (Ob.lst ((l ++ []).map _))
    rw [List.append_nil]
    exact he
  | .leaf w p r', i, j, l, L, S, o7, o8, o9, o10, ih, h, h1, h2, hz, hl, hL, ha, he, he2, hw, hk, hN => by
    unfold Rs.d
    rw [Ws_for_cons]
    refine ⟨keptNil, ?_⟩
    have hsz : (Rs.leaf w p r').sz = r'.sz + 1 := rfl
    have hlt : p < inp.length := by rw [hi.len]; exact h.2.1
    have e : atD (inp.map fr) (p : Int) = some (fr (inp.getD p 0)) := by
      refine atD_nat ?_
      rw [List.getElem?_map, List.getD_eq_getElem?_getD, List.getElem?_eq_getElem hlt]
      rfl
    have hx : Bd 40 (inp.getD p 0) := by
      rw [List.getD_eq_getElem?_getD, List.getElem?_eq_getElem hlt]
      exact hi.bd _ (List.getElem_mem hlt)
    simp only [asgD, setAll, List.set_cons_succ, List.set_cons_zero]
    unfold rsumRow b_ruling_sum
    simp only [Wx_var, Wx_con, Wx_glob, Wx_bin, Wx_neg, Wx_negI, Wx_not, Wx_cmp, Wx_and, Wx_or, Wx_ite, Wx_tup, Wx_lst, Wx_idx, Wx_slice, Wx_call, Wx_bi, Wx_isi, Wx_meth, Wx_nil, Wx_cons, Wx_onone, Wx_osome, Wx_cnone, Wx_csome, Wx_add, Wx_addT, Wx_sub, Wx_mul, Wx_fdiv, Wx_mod, Wx_tbl, Wx_tint, Wx_eqI, Wx_eqS, Wx_eqB, Wx_neI, Wx_ltI, Wx_leI, Wx_gtI, Wx_geI, Wx_idxT, atD_0, atD_1, atD_2, Wx_abs, Wx_intI, Wx_intB, Wx_cutT, Wx_srcT, Wx_range, Wx_ret, Wx_cond, List.getElem?_cons_zero, List.getElem?_cons_succ, List.length_cons, List.length_nil, List.set_cons_zero, List.set_cons_succ, decide_eq_true_eq, bne_iff_ne, Wx_turn, wipeD, Ws_nil, Ws_cons, Ws_asg, Ws_par, Ws_expr, Ws_ret, Ws_retn, Ws_pass, Ws_ite, asgD, setAll, Wx_isTI, Bool.not_false, Bool.false_eq_true, if_false, if_true, e, Wx_isNT]
    rw [Wx_ref he]
    refine w_times w (inp.getD p 0) h.1 hx (by omega) ?_
    rw [Wx_append he]
    refine ⟨by rw [List.length_map]; omega, ?_⟩
    have e2 : (l.map (fun q : Rat × Nat => fr q.1) ++ [fr (w * inp.getD p 0)]) = (l ++ [(w * inp.getD p 0, 43)]).map fun q : Rat × Nat => fr q.1 := by rw [List.map_append]; rfl
    rw [e2]
    have k1 : Kp r1 S (S.set r1 (.lst ((l ++ [(w * inp.getD p 0, 43)]).map fun q : Rat × Nat => fr q.1))) := Kp.set
    refine rsum_rows hi hs h1t h12 ht hr r' i j (l ++ [(w * inp.getD p 0, 43)]) L _ _ _ _ _ ih h.2.2 h1 h2 (by omega) (by rw [List.length_append, List.length_singleton]; omega) (by omega) (k1.get ha h1t.symm) (get_set he) (k1.get he2 (by omega)) (hw.kp k1 (by omega)) (hk.setR hr) fun S' L' o7 o8 o9 o10 k2 a2 e3 e4 w4 m4 z4 => hN S' L' o7 o8 o9 o10 k2 a2 ?_ e4 w4 m4 (by rw [List.length_set] at z4; exact z4)
    rw [e3, List.append_assoc]
    rfl
  | .node w f r', i, j, l, L, S, o7, o8, o9, o10, ih, h, h1, h2, hz, hl, hL, ha, he, he2, hw, hk, hN => by
    unfold Rs.d
    rw [Ws_for_cons]
    refine ⟨keptNil, ?_⟩
    have hsz : (Rs.node w f r').sz = f.sz + r'.sz + 1 := rfl
    have n1 : (Rs.node w f r').ns = f.ns + r'.ns := rfl
    have n2 : (Rs.node w f r').nh = f.nh + r'.nh := rfl
    obtain ⟨ds, ed⟩ := f.d_tup
    have isT : ∀ (S : Store) (Q : Bool → Store → Prop) (E : Ex), Wx (isinstD [.tuple] f.d) S Q E = Q true S := fun S Q E => by rw [ed]; rfl
    have hv := val_bd hi f (dr c i j) h.2.1 (hs.drop i j)
    have u2 : r2 < S.length := (List.getElem?_eq_some_iff.mp he2).1
    simp only [asgD, setAll, List.set_cons_succ, List.set_cons_zero]
    unfold rsumRow b_ruling_sum
    simp only [Wx_var, Wx_con, Wx_glob, Wx_bin, Wx_neg, Wx_negI, Wx_not, Wx_cmp, Wx_and, Wx_or, Wx_ite, Wx_tup, Wx_lst, Wx_idx, Wx_slice, Wx_call, Wx_bi, Wx_isi, Wx_meth, Wx_nil, Wx_cons, Wx_onone, Wx_osome, Wx_cnone, Wx_csome, Wx_add, Wx_addT, Wx_sub, Wx_mul, Wx_fdiv, Wx_mod, Wx_tbl, Wx_tint, Wx_eqI, Wx_eqS, Wx_eqB, Wx_neI, Wx_ltI, Wx_leI, Wx_gtI, Wx_geI, Wx_idxT, atD_0, atD_1, atD_2, Wx_abs, Wx_intI, Wx_intB, Wx_cutT, Wx_srcT, Wx_range, Wx_ret, Wx_cond, List.getElem?_cons_zero, List.getElem?_cons_succ, List.length_cons, List.length_nil, List.set_cons_zero, List.set_cons_succ, decide_eq_true_eq, bne_iff_ne, Wx_turn, wipeD, Ws_nil, Ws_cons, Ws_asg, Ws_par, Ws_expr, Ws_ret, Ws_retn, Ws_pass, Ws_ite, asgD, setAll, isT, Bool.not_true, Bool.false_eq_true, if_false, if_true, Wx_isNN]
    refine ih f List.mem_cons_self i j t S _ _ (by omega) (by omega) ha fun S1 r k1 a1 lr w1 => ?_
    have he1 := k1.get he h1t
    have he21 := k1.get he2 (by omega)
    simp only [Wx_var, Wx_con, Wx_glob, Wx_bin, Wx_neg, Wx_negI, Wx_not, Wx_cmp, Wx_and, Wx_or, Wx_ite, Wx_tup, Wx_lst, Wx_idx, Wx_slice, Wx_call, Wx_bi, Wx_isi, Wx_meth, Wx_nil, Wx_cons, Wx_onone, Wx_osome, Wx_cnone, Wx_csome, Wx_add, Wx_addT, Wx_sub, Wx_mul, Wx_fdiv, Wx_mod, Wx_tbl, Wx_tint, Wx_eqI, Wx_eqS, Wx_eqB, Wx_neI, Wx_ltI, Wx_leI, Wx_gtI, Wx_geI, Wx_idxT, atD_0, atD_1, atD_2, Wx_abs, Wx_intI, Wx_intB, Wx_cutT, Wx_srcT, Wx_range, Wx_ret, Wx_cond, List.getElem?_cons_zero, List.getElem?_cons_succ, List.length_cons, List.length_nil, List.set_cons_zero, List.set_cons_succ, decide_eq_true_eq, bne_iff_ne, Wx_turn, wipeD, Ws_nil, Ws_cons, Ws_asg, Ws_par, Ws_expr, Ws_ret, Ws_retn, Ws_pass, Ws_ite, asgD, setAll]
    rw [Wx_ref he21]
    rw [Wx_append he21]
    refine ⟨by rw [List.length_map]; omega, ?_⟩
    have eL : (L.map (fun p => D.ref p.1) ++ [D.ref r]) = (L ++ [(r, f.rul inp (dr c i j))]).map fun p => D.ref p.1 := by rw [List.map_append]; rfl
    rw [eL]
    have k2 : Kp r2 S1 (S1.set r2 (.lst ((L ++ [(r, f.rul inp (dr c i j))]).map fun p => D.ref p.1))) := Kp.set
    have he3 := k2.get he1 (by omega)
    rw [Wx_ref he3]
    refine w_times w _ h.1 hv (by omega) ?_
    rw [Wx_append he3]
    refine ⟨by rw [List.length_map]; omega, ?_⟩
    have e2 : (l.map (fun q : Rat × Nat => fr q.1) ++ [fr (w * (f.val inp (dr c i j)).1)]) = (l ++ [(w * (f.val inp (dr c i j)).1, 3 + 50 * f.sz)]).map fun q : Rat × Nat => fr q.1 := by rw [List.map_append]; rfl
    rw [e2]
    have k3 : Kp r1 (S1.set r2 (.lst ((L ++ [(r, f.rul inp (dr c i j))]).map fun p => D.ref p.1))) ((S1.set r2 (.lst ((L ++ [(r, f.rul inp (dr c i j))]).map fun p => D.ref p.1))).set r1 (.lst ((l ++ [(w * (f.val inp (dr c i j)).1, 3 + 50 * f.sz)]).map fun q : Rat × Nat => fr q.1))) := Kp.set
    have W1 : Rws S1 r2 (L ++ [(r, f.rul inp (dr c i j))]) := (hw.kp k1 (by omega)).add (by omega) w1
    refine rsum_rows hi hs h1t h12 ht hr r' (i + f.ns) (j + f.nh) (l ++ [(w * (f.val inp (dr c i j)).1, 3 + 50 * f.sz)]) (L ++ [(r, f.rul inp (dr c i j))]) _ _ _ _ _ (fun g hg => ih g (List.mem_cons_of_mem _ hg)) h.2.2 (by omega) (by omega) (by omega) (by rw [List.length_append, List.length_singleton]; omega) (by rw [List.length_append, List.length_singleton]; omega) (k3.get (k2.get a1 (by omega)) h1t.symm) (get_set he3) (k3.get (get_set he21) (by omega)) ((W1.kp k2 (by omega)).kp k3 (by omega)) (((hk.trans k1).setR (by omega)).setR hr) fun S' L' o7 o8 o9 o10 k4 a4 e3 e4 w4 m4 z4 => hN S' L' o7 o8 o9 o10 k4 ?_ ?_ e4 w4 ?_ ?_
    · rw [n1, n2, ← Nat.add_assoc, ← Nat.add_assoc]
      exact a4
    · rw [e3, List.append_assoc]
      show _ = some (Ob.lst ((l ++ ((w * (f.val inp (dr c i j)).1, 3 + 50 * f.sz) :: r'.terms inp (f.val inp (dr c i j)).2)).map _))
      rw [val_dr]
      rfl
    · rw [m4, List.map_append, List.append_assoc]
      show _ = L.map (·.2) ++ (f.rul inp (dr c i j) :: r'.rl inp (f.val inp (dr c i j)).2)
      rw [val_dr]
      rfl
    · rw [List.length_set, List.length_set] at z4
      have := k1.1
      omega
end
theorem w_rsum {n s : Nat} {inp : List Rat} {c : St} {rs : Rs} (hi : In s inp) (hs : StOk c) (hz : rs.sz ≤ 300000) (hok : rs.ok s) (hm : prodI (rs.folds aMany) ≤ 1000000) (ih : ∀ g ∈ rs.inner, RulAt (n + 3) 18 inp c g) : RulAt (n + 4) 17 inp c (.sum rs) := by
  intro i j t S Q E h1 h2 ha h
  have hdef : (F.sum rs).d = .tup [.str "sum", .tup rs.d] := rfl
  have e1 : (F.sum rs).ns = rs.ns + 1 := rfl
  have e2 : (F.sum rs).nh = rs.nh := rfl
  have hlt : i < c.1.length := by omega
  rw [r_ruling_sum, Wx_end]
  unfold b_ruling_sum
  rw [hdef]
  rw [Ws_cons, Ws_par]
  simp only [Wx_var, Wx_con, Wx_glob, Wx_bin, Wx_neg, Wx_negI, Wx_not, Wx_cmp, Wx_and, Wx_or, Wx_ite, Wx_tup, Wx_lst, Wx_idx, Wx_slice, Wx_call, Wx_bi, Wx_isi, Wx_meth, Wx_nil, Wx_cons, Wx_onone, Wx_osome, Wx_cnone, Wx_csome, Wx_add, Wx_addT, Wx_sub, Wx_mul, Wx_fdiv, Wx_mod, Wx_tbl, Wx_tint, Wx_eqI, Wx_eqS, Wx_eqB, Wx_neI, Wx_ltI, Wx_leI, Wx_gtI, Wx_geI, Wx_idxT, atD_0, atD_1, atD_2, Wx_abs, Wx_intI, Wx_intB, Wx_cutT, Wx_srcT, Wx_range, Wx_ret, Wx_cond, List.getElem?_cons_zero, List.getElem?_cons_succ, List.length_cons, List.length_nil, List.set_cons_zero, List.set_cons_succ, decide_eq_true_eq, bne_iff_ne, Wx_turn, wipeD]
  rw [at_0 ha]
  have e3 : atD (c.1.map fr) (i : Int) = some (fr ((c.1.drop i).headD 0)) := by
    refine atD_nat ?_
    rw [List.getElem?_map, headD_drop c.1 i 0 hlt]
    rfl
  have ha2 := (ha.app (o := Ob.lst [fr ((c.1.drop i).headD 0)])).app (o := Ob.lst [])
  have ha3 := ha2.set0
  simp only [Wx_var, Wx_con, Wx_glob, Wx_bin, Wx_neg, Wx_negI, Wx_not, Wx_cmp, Wx_and, Wx_or, Wx_ite, Wx_tup, Wx_lst, Wx_idx, Wx_slice, Wx_call, Wx_bi, Wx_isi, Wx_meth, Wx_nil, Wx_cons, Wx_onone, Wx_osome, Wx_cnone, Wx_csome, Wx_add, Wx_addT, Wx_sub, Wx_mul, Wx_fdiv, Wx_mod, Wx_tbl, Wx_tint, Wx_eqI, Wx_eqS, Wx_eqB, Wx_neI, Wx_ltI, Wx_leI, Wx_gtI, Wx_geI, Wx_idxT, atD_0, atD_1, atD_2, Wx_abs, Wx_intI, Wx_intB, Wx_cutT, Wx_srcT, Wx_range, Wx_ret, Wx_cond, List.getElem?_cons_zero, List.getElem?_cons_succ, List.length_cons, List.length_nil, List.set_cons_zero, List.set_cons_succ, decide_eq_true_eq, bne_iff_ne, Wx_turn, wipeD, e3, setAll]
  refine ⟨by decide, by decide, ?_⟩
  simp only [Ws_cons, Ws_augix, Wx_bind, Wx_var, Wx_con, Wx_glob, Wx_bin, Wx_neg, Wx_negI, Wx_not, Wx_cmp, Wx_and, Wx_or, Wx_ite, Wx_tup, Wx_lst, Wx_idx, Wx_slice, Wx_call, Wx_bi, Wx_isi, Wx_meth, Wx_nil, Wx_cons, Wx_onone, Wx_osome, Wx_cnone, Wx_csome, Wx_add, Wx_addT, Wx_sub, Wx_mul, Wx_fdiv, Wx_mod, Wx_tbl, Wx_tint, Wx_eqI, Wx_eqS, Wx_eqB, Wx_neI, Wx_ltI, Wx_leI, Wx_gtI, Wx_geI, Wx_idxT, atD_0, atD_1, atD_2, Wx_abs, Wx_intI, Wx_intB, Wx_cutT, Wx_srcT, Wx_range, Wx_ret, Wx_cond, List.getElem?_cons_zero, List.getElem?_cons_succ, List.length_cons, List.length_nil, List.set_cons_zero, List.set_cons_succ, decide_eq_true_eq, bne_iff_ne, Wx_turn, wipeD]
  rw [Wx_ref ha2, at_0 ha2, Wx_augI, Wx_set ha2 (j := 0) rfl]
  simp only [Ws_for, Wx_var, Wx_con, Wx_glob, Wx_bin, Wx_neg, Wx_negI, Wx_not, Wx_cmp, Wx_and, Wx_or, Wx_ite, Wx_tup, Wx_lst, Wx_idx, Wx_slice, Wx_call, Wx_bi, Wx_isi, Wx_meth, Wx_nil, Wx_cons, Wx_onone, Wx_osome, Wx_cnone, Wx_csome, Wx_add, Wx_addT, Wx_sub, Wx_mul, Wx_fdiv, Wx_mod, Wx_tbl, Wx_tint, Wx_eqI, Wx_eqS, Wx_eqB, Wx_neI, Wx_ltI, Wx_leI, Wx_gtI, Wx_geI, Wx_idxT, atD_0, atD_1, atD_2, Wx_abs, Wx_intI, Wx_intB, Wx_cutT, Wx_srcT, Wx_range, Wx_ret, Wx_cond, List.getElem?_cons_zero, List.getElem?_cons_succ, List.length_cons, List.length_nil, List.set_cons_zero, List.set_cons_succ, decide_eq_true_eq, bne_iff_ne, Wx_turn, wipeD]
  have hc0 : Bd 40 ((c.1.drop i).headD 0) := hs.1 _ (List.mem_of_getElem? (headD_drop c.1 i 0 hlt))
  have lt := ha.lt
  have kp0 : Kp t S ((S ++ [Ob.lst [fr ((c.1.drop i).headD 0)]]) ++ [Ob.lst []]) := Kp.app.trans Kp.app
  have g9 : ((S ++ [Ob.lst [fr ((c.1.drop i).headD 0)]]) ++ [Ob.lst []])[S.length]? = some (Ob.lst [fr ((c.1.drop i).headD 0)]) := get_app (List.prefix_append _ _) get_last
  have l1 : (S ++ [Ob.lst [fr ((c.1.drop i).headD 0)]]).length = S.length + 1 := by rw [List.length_append]; rfl
  have g10 : ((S ++ [Ob.lst [fr ((c.1.drop i).headD 0)]]) ++ [Ob.lst []])[S.length + 1]? = some (Ob.lst []) := by rw [← l1]; exact get_last
  rw [l1]
  refine rsum_rows (n := n) (r1 := S.length) (r2 := S.length + 1) (Sb := S) hi hs (by omega) (by omega) (by omega) (Nat.le_refl _) rs (i + 1) j [((c.1.drop i).headD 0, 40)] [] _ _ _ _ _ ih hok (by omega) (by omega) hz (by show 1 + rs.sz < line; unfold line; omega) (by show 0 + rs.sz < line; unfold line; omega) ha3 ?_ ?_ (fun p hp => by cases hp) (kp0.trans Kp.set) fun S' L' o7 o8 o9 o10 k2 a2 e4 e5 w5 m5 z5 => ?_
  · rw [List.getElem?_set_ne (by omega)]
    exact g9
  · rw [List.getElem?_set_ne (by omega)]
    exact g10
  · have hb3 := terms_bits inp rs (dr c (i + 1) j)
    have q : ((F.sum rs).val inp (dr c i j)).1 = sumQ ((((c.1.drop i).headD 0, 40) :: rs.terms inp (dr c (i + 1) j)).map (·.1)) := by
      show (rs.acc inp ((c.1.drop i).headD 0) ((c.1.drop i).tail, c.2.drop j)).1 = _
      rw [terms_acc, List.tail_drop]
      rfl
    have qr : (F.sum rs).rul inp (dr c i j) = (rs.rl inp (dr c (i + 1) j)).foldl joinR [[]] := by
      show rs.rul inp [[]] ((c.1.drop i).tail, c.2.drop j) = _
      rw [rul_rl, List.tail_drop]
    simp only [Wx_var, Wx_con, Wx_glob, Wx_bin, Wx_neg, Wx_negI, Wx_not, Wx_cmp, Wx_and, Wx_or, Wx_ite, Wx_tup, Wx_lst, Wx_idx, Wx_slice, Wx_call, Wx_bi, Wx_isi, Wx_meth, Wx_nil, Wx_cons, Wx_onone, Wx_osome, Wx_cnone, Wx_csome, Wx_add, Wx_addT, Wx_sub, Wx_mul, Wx_fdiv, Wx_mod, Wx_tbl, Wx_tint, Wx_eqI, Wx_eqS, Wx_eqB, Wx_neI, Wx_ltI, Wx_leI, Wx_gtI, Wx_geI, Wx_idxT, atD_0, atD_1, atD_2, Wx_abs, Wx_intI, Wx_intB, Wx_cutT, Wx_srcT, Wx_range, Wx_ret, Wx_cond, List.getElem?_cons_zero, List.getElem?_cons_succ, List.length_cons, List.length_nil, List.set_cons_zero, List.set_cons_succ, decide_eq_true_eq, bne_iff_ne, Wx_turn, wipeD, Ws_nil, Ws_cons, Ws_asg, Ws_par, Ws_expr, Ws_ret, Ws_retn, Ws_pass, Ws_ite, asgD, setAll]
    refine w_sum (n := n) (qs := ((c.1.drop i).headD 0, 40) :: rs.terms inp (dr c (i + 1) j)) e4 (fun p hp => ?_) ?_ ?_
    · rcases List.mem_cons.mp hp with rfl | hp
      · exact hc0
      · exact terms_bd hi rs _ hok (hs.drop _ _) p hp
    · show (40 + 1) + bitsOf (rs.terms inp _) < 50000000
      omega
    · rw [← q]
      have m6 : L'.map (·.2) = rs.rl inp (dr c (i + 1) j) := m5
      refine w_joined (n := n + 2) (l := L') e5 (fun p hp => (w5 p hp).2) ?_ fun S2 r p2 hge hr2 => ?_
      · rw [m6]
        exact rl_fits rs [[]] 0 _ hok (fun x hx => by rw [List.mem_singleton.mp hx]; exact Nat.le_refl _) (by omega) (by rw [List.length_singleton, Int.natCast_one, Int.one_mul]; exact hm)
      · rw [m6] at hr2
        refine ⟨by decide, h S2 r (k2.trans (Kp.pre p2)) ?_ ?_ ?_⟩
        · rw [e1, e2, Nat.add_comm rs.ns 1, ← Nat.add_assoc]
          exact get_app p2 a2
        · exact Nat.le_trans k2.1 hge
        · rw [qr]
          exact hr2
end K03

set_option Elab.async false
set_option linter.all false
set_option maxRecDepth 100000
set_option maxHeartbeats 400000
set_option autoImplicit false
/-! k03, the plain law: the module's ruling_node, its loops. -/
namespace K03
open Ev
theorem clamp_mm {p : Rat × Rat} {v m x : Rat} (h : p.1 < p.2) (hm : IsMin [v, p.2] m) (hx : IsMax [p.1, m] x) : x = clamp p v := by
  unfold clamp
  by_cases c : v < p.1
  · rw [if_pos c]
    refine max_uniq hx ⟨by simp, fun y hy => ?_⟩
    simp only [List.mem_cons, List.not_mem_nil, or_false] at hy
    rcases hy with rfl | rfl
    · exact Rat.le_refl
    · exact Rat.le_trans (hm.2 v (by simp)) (Rat.le_of_lt c)
  · rw [if_neg c]
    have c := Rat.not_lt.mp c
    by_cases d : p.2 < v
    · rw [if_pos d]
      have e : m = p.2 := min_uniq hm ⟨by simp, fun y hy => by
        simp only [List.mem_cons, List.not_mem_nil, or_false] at hy
        rcases hy with rfl | rfl
        · exact Rat.le_of_lt d
        · exact Rat.le_refl⟩
      subst e
      refine max_uniq hx ⟨by simp, fun y hy => ?_⟩
      simp only [List.mem_cons, List.not_mem_nil, or_false] at hy
      rcases hy with rfl | rfl
      · exact Rat.le_of_lt h
      · exact Rat.le_refl
    · rw [if_neg d]
      have d := Rat.not_lt.mp d
      have e : m = v := min_uniq hm ⟨by simp, fun y hy => by
        simp only [List.mem_cons, List.not_mem_nil, or_false] at hy
        rcases hy with rfl | rfl
        · exact Rat.le_refl
        · exact d⟩
      subst e
      refine max_uniq hx ⟨by simp, fun y hy => ?_⟩
      simp only [List.mem_cons, List.not_mem_nil, or_false] at hy
      rcases hy with rfl | rfl
      · exact c
      · exact Rat.le_refl
def wayR (rows : List Row1) (w : Int) : List Row1 := if w = 0 then on0 0 rows else [[w]]
theorem held_side (p : Rat × Rat) (v : Rat) (rows : List Row1) : (sideL p v).flatMap (wayR rows) = heldR p v rows := by
  unfold sideL heldR
  rw [List.flatMap_append, List.flatMap_append]
  congr 1
  · congr 1
    · split
      · simp [wayR]
      · rfl
    · split
      · rfl
      · simp [wayR]
  · split
    · rfl
    · simp [wayR]
theorem side_len (p : Rat × Rat) (v : Rat) : (sideL p v).length ≤ 3 := by
  unfold sideL
  rw [List.length_append, List.length_append]
  split <;> split <;> split <;> simp
def rulWay : ISs := match b_ruling_node with
  | .cons _ (.cons (.ite _ (.cons _ (.cons _ (.cons _ (.cons _ (.cons (.for_ _ _ _ t) _))))) _) _) => t
  | _ => .nil
section
variable {N : Env → Store → Prop} {Q : Fl × Env → Store → Prop}
theorem rul_ways {n k r b0 : Nat} {rows : List Row1} {S0 : Store} {x0 x1 x2 x3 x4 x5 x6 x7 x12 x13 x14 x15 x16 x17 x18 : Option D} (hk : k < S0.length) (hb : b0 ≤ S0.length) (hl : ∀ x ∈ rows, x.length < line) (hz : rows.length ≤ line) : ∀ (ws : List Int) (acc : List Row1) (q : Nat) (S : Store) (o10 o11 : Option D), S0 <+: S → b0 ≤ q → RowsAt S r rows → RowsAt S q acc → acc.length + ws.length * (rows.length + 1) ≤ line →
    (∀ S' q' o10 o11, S <+: S' → b0 ≤ q' → RowsAt S' q' (acc ++ ws.flatMap (wayR rows)) → N [x0, x1, x2, x3, x4, x5, x6, x7, some (.ref r), some (.ref q'), o10, o11, x12, x13, x14, x15, x16, x17, x18] S') →
    Ws (forD S0 [k] (.name 10) (denSs (run P n) rulWay) (ws.map D.int) [x0, x1, x2, x3, x4, x5, x6, x7, some (.ref r), some (.ref q), o10, o11, x12, x13, x14, x15, x16, x17, x18]) S N Q
  | [], acc, q, S, o10, o11, hp, hq, hr, ha, hs, hN => by
    rw [List.map_nil, Ws_for_nil]
    refine ⟨pre_kept hp rfl hk, hN S q o10 o11 (List.prefix_refl _) hq ?_⟩
    rw [List.flatMap_nil, List.append_nil]
    exact ha
  | w :: ws, acc, q, S, o10, o11, hp, hq, hr, ha, hs, hN => by
    rw [List.map_cons, Ws_for_cons]
    refine ⟨pre_kept hp rfl hk, ?_⟩
    have e1 : (w :: ws).length * (rows.length + 1) = ws.length * (rows.length + 1) + (rows.length + 1) := by rw [List.length_cons, Nat.succ_mul]
    have go : ∀ (some1 : List Row1) (S1 : Store) (q1 : Nat), S <+: S1 → some1 = wayR rows w → RowsAt S1 q1 some1 → some1.length ≤ rows.length + 1 → Wx (binD .add (.ref q) (.ref q1)) S1 (fun d S2 => Ws (forD S0 [k] (.name 10) (denSs (run P n) rulWay) (ws.map D.int) [x0, x1, x2, x3, x4, x5, x6, x7, some (.ref r), some d, some (.int w), o11, x12, x13, x14, x15, x16, x17, x18]) S2 N Q) (fun _ _ _ => False) := by
      intro some1 S1 q1 p1 hsome hq1 hlen
      have ha1 : RowsAt S1 q acc := get_app p1 ha
      rw [Wx_addL ha1 hq1]
      refine ⟨by rw [List.length_map, List.length_map]; omega, ?_⟩
      have g : RowsAt (S1 ++ [Ob.lst (acc.map rowD ++ some1.map rowD)]) S1.length (acc ++ some1) := by
        show _ = some (Ob.lst ((acc ++ some1).map rowD))
        rw [List.map_append]
        exact get_last
      refine rul_ways hk hb hl hz ws (acc ++ some1) _ _ _ _ ((hp.trans p1).trans (List.prefix_append _ _)) ?_ (get_app (p1.trans (List.prefix_append _ _)) hr) g (by rw [List.length_append]; omega) fun S' q' o10 o11 p2 h2 h3 => hN S' q' o10 o11 ((p1.trans (List.prefix_append _ _)).trans p2) h2 ?_
      · have := hp.length_le
        have := p1.length_le
        omega
      · rw [List.flatMap_cons, ← hsome, ← List.append_assoc]
        exact h3
    simp only [asgD, List.set_cons_succ, List.set_cons_zero]
    unfold rulWay b_ruling_node
    simp only [Wx_var, Wx_con, Wx_glob, Wx_bin, Wx_neg, Wx_negI, Wx_not, Wx_cmp, Wx_and, Wx_or, Wx_ite, Wx_tup, Wx_lst, Wx_idx, Wx_slice, Wx_call, Wx_bi, Wx_isi, Wx_meth, Wx_nil, Wx_cons, Wx_onone, Wx_osome, Wx_cnone, Wx_csome, Wx_add, Wx_addT, Wx_sub, Wx_mul, Wx_fdiv, Wx_mod, Wx_tbl, Wx_tint, Wx_eqI, Wx_eqS, Wx_eqB, Wx_neI, Wx_ltI, Wx_leI, Wx_gtI, Wx_geI, Wx_idxT, atD_0, atD_1, atD_2, Wx_abs, Wx_intI, Wx_intB, Wx_cutT, Wx_srcT, Wx_range, Wx_ret, Wx_cond, List.getElem?_cons_zero, List.getElem?_cons_succ, List.length_cons, List.length_nil, List.set_cons_zero, List.set_cons_succ, decide_eq_true_eq, bne_iff_ne, Wx_turn, wipeD, Ws_nil, Ws_cons, Ws_asg, Ws_par, Ws_expr, Ws_ret, Ws_retn, Ws_pass, Ws_ite, asgD, setAll]
    by_cases hw : w = 0
    · subst hw
      rw [if_pos (by decide)]
      refine on_comp (q := 8) (r := r) (rows := rows) (i := 0) rfl hr (by simp) hz hl (fun x Q hq => hq) ?_
      refine (go (on0 0 rows) _ _ (List.prefix_append _ _) (by unfold wayR; rw [if_pos rfl]) get_last (by rw [on0_len]; omega)).mono (fun _ _ z => z) fun _ _ _ z => z.elim
    · rw [if_neg (by simpa using hw)]
      refine ⟨(by decide : (1 : Nat) ≤ line), (by decide : (1 : Nat) ≤ line), ?_⟩
      refine (go [[w]] _ _ (List.prefix_append _ _) (by unfold wayR; rw [if_neg hw]) get_last (by simp)).mono (fun _ _ z => z) fun _ _ _ z => z.elim
end
/-! ### size -/
def signL (v : Rat) : List Int := (if v < 0 then [] else [0]) ++ (if 0 < v then [] else [1])
theorem num_neg {q : Rat} : q < 0 ↔ q.num < 0 := by
  rw [Rat.lt_iff]
  simp
theorem num_pos {q : Rat} : 0 < q ↔ 0 < q.num := by
  rw [Rat.lt_iff]
  simp
theorem sign_rows (v : Rat) (rows : List Row1) : (signL v).flatMap (fun s => on0 s rows) = sizeR v rows := by
  unfold signL sizeR
  rw [List.flatMap_append]
  congr 1
  · split
    · rfl
    · simp
  · split
    · rfl
    · simp
theorem w_signs {C : Calls} {v : Rat} {S : Store} {Q : D → Store → Prop} {E : Ex} {x0 x1 x2 x3 x4 x5 x6 x8 x9 x10 x11 x12 x13 x14 x15 x16 x17 x18 : Option D} (h : Q (.ref S.length) (S ++ [Ob.lst ((signL v).map D.int)])) :
    Wx (denE C (.comp [("sign", 13)] (.name 13) .seq (.cons (.tup (.cons (.con (.int 0)) (.cons (.con (.int 1)) .nil))) .nil) (.some (.or (.cmp .eq (.idx (.var 7) (.con (.int 0))) (.con (.int 0))) (.cmp .eq (.cmp .lt (.idx (.var 7) (.con (.int 0))) (.con (.int 0))) (.cmp .eq (.var 13) (.con (.int 1)))))) (.var 13)) [x0, x1, x2, x3, x4, x5, x6, some (fr v), x8, x9, x10, x11, x12, x13, x14, x15, x16, x17, x18]) S Q E := by
  simp only [Wx_comp, Wx_var, Wx_con, Wx_glob, Wx_bin, Wx_neg, Wx_negI, Wx_not, Wx_cmp, Wx_and, Wx_or, Wx_ite, Wx_tup, Wx_lst, Wx_idx, Wx_slice, Wx_call, Wx_bi, Wx_isi, Wx_meth, Wx_nil, Wx_cons, Wx_onone, Wx_osome, Wx_cnone, Wx_csome, Wx_add, Wx_addT, Wx_sub, Wx_mul, Wx_fdiv, Wx_mod, Wx_tbl, Wx_tint, Wx_eqI, Wx_eqS, Wx_eqB, Wx_neI, Wx_ltI, Wx_leI, Wx_gtI, Wx_geI, Wx_idxT, atD_0, atD_1, atD_2, Wx_abs, Wx_intI, Wx_intB, Wx_cutT, Wx_srcT, Wx_range, Wx_ret, Wx_cond, List.getElem?_cons_zero, List.getElem?_cons_succ, List.length_cons, List.length_nil, List.set_cons_zero, List.set_cons_succ, decide_eq_true_eq, bne_iff_ne, Wx_turn, wipeD]
  refine ⟨by decide, ?_⟩
  rw [Wx_each_cons]
  refine ⟨keptNil, ?_⟩
  simp only [Wx_var, Wx_con, Wx_glob, Wx_bin, Wx_neg, Wx_negI, Wx_not, Wx_cmp, Wx_and, Wx_or, Wx_ite, Wx_tup, Wx_lst, Wx_idx, Wx_slice, Wx_call, Wx_bi, Wx_isi, Wx_meth, Wx_nil, Wx_cons, Wx_onone, Wx_osome, Wx_cnone, Wx_csome, Wx_add, Wx_addT, Wx_sub, Wx_mul, Wx_fdiv, Wx_mod, Wx_tbl, Wx_tint, Wx_eqI, Wx_eqS, Wx_eqB, Wx_neI, Wx_ltI, Wx_leI, Wx_gtI, Wx_geI, Wx_idxT, atD_0, atD_1, atD_2, Wx_abs, Wx_intI, Wx_intB, Wx_cutT, Wx_srcT, Wx_range, Wx_ret, Wx_cond, List.getElem?_cons_zero, List.getElem?_cons_succ, List.length_cons, List.length_nil, List.set_cons_zero, List.set_cons_succ, decide_eq_true_eq, bne_iff_ne, Wx_turn, wipeD, List.map_cons, List.map_nil, asgD, Wx_eqB]
  have z0 : ((0 : Int) == 1) = false := by decide
  have z1 : ((1 : Int) == 1) = true := by decide
  unfold signL at h
  have nn := num_neg (q := v)
  have np := num_pos (q := v)
  rcases Int.lt_trichotomy v.num 0 with c | c | c
  · have c0 : (v.num == 0) = false := beq_false_of_ne (by omega)
    have c1 : decide (v.num < 0) = true := decide_eq_true c
    rw [if_pos (nn.mpr c), if_neg (fun z => by have := np.mp z; omega)] at h
    simp only [c0, c1, z0, Bool.false_eq_true, if_false, beq_iff_eq, Bool.true_eq_false, Wx_each_cons, Wx_each_nil, Wx_var, Wx_con, Wx_glob, Wx_bin, Wx_neg, Wx_negI, Wx_not, Wx_cmp, Wx_and, Wx_or, Wx_ite, Wx_tup, Wx_lst, Wx_idx, Wx_slice, Wx_call, Wx_bi, Wx_isi, Wx_meth, Wx_nil, Wx_cons, Wx_onone, Wx_osome, Wx_cnone, Wx_csome, Wx_add, Wx_addT, Wx_sub, Wx_mul, Wx_fdiv, Wx_mod, Wx_tbl, Wx_tint, Wx_eqI, Wx_eqS, Wx_eqB, Wx_neI, Wx_ltI, Wx_leI, Wx_gtI, Wx_geI, Wx_idxT, atD_0, atD_1, atD_2, Wx_abs, Wx_intI, Wx_intB, Wx_cutT, Wx_srcT, Wx_range, Wx_ret, Wx_cond, List.getElem?_cons_zero, List.getElem?_cons_succ, List.length_cons, List.length_nil, List.set_cons_zero, List.set_cons_succ, decide_eq_true_eq, bne_iff_ne, Wx_turn, wipeD, List.map_cons, List.map_nil, asgD, Wx_eqB, z1, if_true]
    exact ⟨keptNil, keptNil, (by decide : (1 : Nat) ≤ line), h⟩
  · have c0 : (v.num == 0) = true := beq_iff_eq.mpr c
    rw [if_neg (fun z => by have := nn.mp z; omega), if_neg (fun z => by have := np.mp z; omega)] at h
    simp only [c0, if_true, Wx_each_cons, Wx_each_nil, Wx_var, Wx_con, Wx_glob, Wx_bin, Wx_neg, Wx_negI, Wx_not, Wx_cmp, Wx_and, Wx_or, Wx_ite, Wx_tup, Wx_lst, Wx_idx, Wx_slice, Wx_call, Wx_bi, Wx_isi, Wx_meth, Wx_nil, Wx_cons, Wx_onone, Wx_osome, Wx_cnone, Wx_csome, Wx_add, Wx_addT, Wx_sub, Wx_mul, Wx_fdiv, Wx_mod, Wx_tbl, Wx_tint, Wx_eqI, Wx_eqS, Wx_eqB, Wx_neI, Wx_ltI, Wx_leI, Wx_gtI, Wx_geI, Wx_idxT, atD_0, atD_1, atD_2, Wx_abs, Wx_intI, Wx_intB, Wx_cutT, Wx_srcT, Wx_range, Wx_ret, Wx_cond, List.getElem?_cons_zero, List.getElem?_cons_succ, List.length_cons, List.length_nil, List.set_cons_zero, List.set_cons_succ, decide_eq_true_eq, bne_iff_ne, Wx_turn, wipeD, List.map_cons, List.map_nil, asgD]
    exact ⟨keptNil, keptNil, (by decide : (2 : Nat) ≤ line), h⟩
  · have c0 : (v.num == 0) = false := beq_false_of_ne (by omega)
    have c1 : decide (v.num < 0) = false := decide_eq_false (by omega)
    rw [if_neg (fun z => by have := nn.mp z; omega), if_pos (np.mpr c)] at h
    simp only [c0, c1, z0, Bool.false_eq_true, if_false, beq_iff_eq, Wx_each_cons, Wx_each_nil, Wx_var, Wx_con, Wx_glob, Wx_bin, Wx_neg, Wx_negI, Wx_not, Wx_cmp, Wx_and, Wx_or, Wx_ite, Wx_tup, Wx_lst, Wx_idx, Wx_slice, Wx_call, Wx_bi, Wx_isi, Wx_meth, Wx_nil, Wx_cons, Wx_onone, Wx_osome, Wx_cnone, Wx_csome, Wx_add, Wx_addT, Wx_sub, Wx_mul, Wx_fdiv, Wx_mod, Wx_tbl, Wx_tint, Wx_eqI, Wx_eqS, Wx_eqB, Wx_neI, Wx_ltI, Wx_leI, Wx_gtI, Wx_geI, Wx_idxT, atD_0, atD_1, atD_2, Wx_abs, Wx_intI, Wx_intB, Wx_cutT, Wx_srcT, Wx_range, Wx_ret, Wx_cond, List.getElem?_cons_zero, List.getElem?_cons_succ, List.length_cons, List.length_nil, List.set_cons_zero, List.set_cons_succ, decide_eq_true_eq, bne_iff_ne, Wx_turn, wipeD, List.map_cons, List.map_nil, asgD, Wx_eqB, z1, if_true]
    exact ⟨keptNil, keptNil, (by decide : (1 : Nat) ≤ line), h⟩
theorem w_ons {C : Calls} {k r : Nat} {ss : List Int} {rows : List Row1} {S : Store} {Q : D → Store → Prop} {E : Ex} {x0 x1 x2 x3 x4 x5 x6 x7 x9 x10 x11 x13 x14 x15 x16 x17 x18 : Option D} (hk : S[k]? = some (.lst (ss.map D.int))) (hr : RowsAt S r rows) (hl : ∀ x ∈ rows, x.length < line) (hz : (ss.flatMap fun s => on0 s rows).length ≤ line) (h : Q (.ref S.length) (S ++ [Ob.lst ((ss.flatMap fun s => on0 s rows).map rowD)])) :
    Wx (denE C (.comp2 [("sign", 13), ("one", 11)] (.name 13) .seq (.cons (.var 12) .nil) .none [11] (.name 11) .seq (.cons (.var 8) .nil) .none (.bin .add (.tup (.cons (.var 13) .nil)) (.var 11))) [x0, x1, x2, x3, x4, x5, x6, x7, some (.ref r), x9, x10, x11, some (.ref k), x13, x14, x15, x16, x17, x18]) S Q E := by
  simp only [Wx_comp2, Wx_var, Wx_con, Wx_glob, Wx_bin, Wx_neg, Wx_negI, Wx_not, Wx_cmp, Wx_and, Wx_or, Wx_ite, Wx_tup, Wx_lst, Wx_idx, Wx_slice, Wx_call, Wx_bi, Wx_isi, Wx_meth, Wx_nil, Wx_cons, Wx_onone, Wx_osome, Wx_cnone, Wx_csome, Wx_add, Wx_addT, Wx_sub, Wx_mul, Wx_fdiv, Wx_mod, Wx_tbl, Wx_tint, Wx_eqI, Wx_eqS, Wx_eqB, Wx_neI, Wx_ltI, Wx_leI, Wx_gtI, Wx_geI, Wx_idxT, atD_0, atD_1, atD_2, Wx_abs, Wx_intI, Wx_intB, Wx_cutT, Wx_srcT, Wx_range, Wx_ret, Wx_cond, List.getElem?_cons_zero, List.getElem?_cons_succ, List.length_cons, List.length_nil, List.set_cons_zero, List.set_cons_succ, decide_eq_true_eq, bne_iff_ne, Wx_turn, wipeD]
  rw [Wx_srcL (seq_lst hk)]
  refine each_pure (g := fun d => match d with | .int s => (on0 s rows).map rowD | _ => []) (keptRefl S [k]) (ss.map D.int) (fun d hd Q hq => ?_) _ ?_
  · obtain ⟨s, hs, rfl⟩ := List.mem_map.mp hd
    simp only [Wx_turn2, Wx_bind, List.map_cons, List.map_nil, Wx_var, Wx_con, Wx_glob, Wx_bin, Wx_neg, Wx_negI, Wx_not, Wx_cmp, Wx_and, Wx_or, Wx_ite, Wx_tup, Wx_lst, Wx_idx, Wx_slice, Wx_call, Wx_bi, Wx_isi, Wx_meth, Wx_nil, Wx_cons, Wx_onone, Wx_osome, Wx_cnone, Wx_csome, Wx_add, Wx_addT, Wx_sub, Wx_mul, Wx_fdiv, Wx_mod, Wx_tbl, Wx_tint, Wx_eqI, Wx_eqS, Wx_eqB, Wx_neI, Wx_ltI, Wx_leI, Wx_gtI, Wx_geI, Wx_idxT, atD_0, atD_1, atD_2, Wx_abs, Wx_intI, Wx_intB, Wx_cutT, Wx_srcT, Wx_range, Wx_ret, Wx_cond, List.getElem?_cons_zero, List.getElem?_cons_succ, List.length_cons, List.length_nil, List.set_cons_zero, List.set_cons_succ, decide_eq_true_eq, bne_iff_ne, Wx_turn, wipeD, Ws_nil, Ws_cons, Ws_asg, Ws_par, Ws_expr, Ws_ret, Ws_retn, Ws_pass, Ws_ite, asgD, setAll, if_true]
    rw [Wx_srcL (seq_lst hr)]
    refine each_on (p := 11) (i := s) (e := .var 13) kept_self (by simp) hl (fun x Q hq => ?_) _ hq
    exact hq
  · have e : (ss.map D.int).flatMap (fun d => match d with | .int s => (on0 s rows).map rowD | _ => []) = (ss.flatMap fun s => on0 s rows).map rowD := by
      rw [List.flatMap_map, List.map_flatMap]
    rw [e]
    exact ⟨by rw [List.length_map]; exact hz, h⟩
end K03

set_option Elab.async false
set_option linter.all false
set_option maxRecDepth 100000
set_option maxHeartbeats 400000
set_option autoImplicit false
/-! k03, the plain law: the module's ruling_node, the tops. -/
namespace K03
open Ev
abbrev Told := List (Rat × Nat × List Row1)
def tD (x : Rat × Nat × List Row1) : D := .tup [fr x.1, .ref x.2.1]
def Fs.rws (inp : List Rat) : Fs → St → List (Rat × List Row1)
  | .nil, _ => []
  | .cons f r, st => ((f.val inp st).1, f.rul inp st) :: r.rws inp (f.val inp st).2
theorem rws_vals (inp : List Rat) : ∀ (fs : Fs) (st : St), (fs.rws inp st).map (·.1) = (fs.vals inp st).1
  | .nil, st => rfl
  | .cons f r, st => by
    show (f.val inp st).1 :: (r.rws inp _).map (·.1) = (f.val inp st).1 :: (r.vals inp _).1
    rw [rws_vals]
def rulR (b : Rat) : Nat → List (Rat × List Row1) → List Row1
  | _, [] => []
  | i, x :: r => (if x.1 = b then on0 (i : Int) x.2 else []) ++ rulR b (i + 1) r
theorem rws_rul (inp : List Rat) (b : Rat) : ∀ (fs : Fs) (i : Nat) (st : St), rulR b i (fs.rws inp st) = fs.rul inp b i st
  | .nil, i, st => rfl
  | .cons f r, i, st => by
    show (if (f.val inp st).1 = b then on0 (i : Int) (f.rul inp st) else []) ++ rulR b (i + 1) (r.rws inp _) = _
    rw [rws_rul]
    rfl
def TAt (S : Store) (b0 : Nat) (T : Told) : Prop := ∀ x ∈ T, b0 ≤ x.2.1 ∧ RowsAt S x.2.1 x.2.2
theorem w_tolds {n : Nat} {inp : List Rat} {c : St} {S0 : Store} {t b0 : Nat} {x0 x5 x6 x7 x8 x9 x10 x11 x12 x13 x14 x15 x16 x17 x18 : Option D} (htb : t < b0) : ∀ (fs : Fs) (i j : Nat) (S : Store) (Q : List D → Store → Prop) (E : Ex), (∀ f ∈ fs.list, RulAt n 18 inp c f) → i + fs.ns ≤ c.1.length → j + fs.nh ≤ c.2.length → AtIs S t i j → b0 ≤ S.length →
    (∀ S' T, Kp t S S' → AtIs S' t (i + fs.ns) (j + fs.nh) → TAt S' b0 T → T.map (fun x => (x.1, x.2.2)) = fs.rws inp (dr c i j) → Q (T.map tD) S') →
    Wx (eachD S0 [] (turnC (.name 11) [11] [x0, some (iD inp), some (cD c), some (bD c), some (.ref t), x5, x6, x7, x8, x9, x10, x11, x12, x13, x14, x15, x16, x17, x18] (denC (run P n) .none) (denE (run P n) (.call 18 (.cons (.var 11) (.cons (.var 1) (.cons (.var 2) (.cons (.var 3) (.cons (.var 4) .nil)))))))) fs.d) S Q E
  | .nil, i, j, S, Q, E, ih, h1, h2, ha, hb, h => by
    unfold Fs.d
    rw [Wx_each_nil]
    exact ⟨keptNil, h S [] Kp.refl ha (fun x hx => by cases hx) rfl⟩
  | .cons f r, i, j, S, Q, E, ih, h1, h2, ha, hb, h => by
    unfold Fs.d
    rw [Wx_each_cons]
    refine ⟨keptNil, ?_⟩
    have n1 : (Fs.cons f r).ns = f.ns + r.ns := rfl
    have n2 : (Fs.cons f r).nh = f.nh + r.nh := rfl
    simp only [Wx_var, Wx_con, Wx_glob, Wx_bin, Wx_neg, Wx_negI, Wx_not, Wx_cmp, Wx_and, Wx_or, Wx_ite, Wx_tup, Wx_lst, Wx_idx, Wx_slice, Wx_call, Wx_bi, Wx_isi, Wx_meth, Wx_nil, Wx_cons, Wx_onone, Wx_osome, Wx_cnone, Wx_csome, Wx_add, Wx_addT, Wx_sub, Wx_mul, Wx_fdiv, Wx_mod, Wx_tbl, Wx_tint, Wx_eqI, Wx_eqS, Wx_eqB, Wx_neI, Wx_ltI, Wx_leI, Wx_gtI, Wx_geI, Wx_idxT, atD_0, atD_1, atD_2, Wx_abs, Wx_intI, Wx_intB, Wx_cutT, Wx_srcT, Wx_range, Wx_ret, Wx_cond, List.getElem?_cons_zero, List.getElem?_cons_succ, List.length_cons, List.length_nil, List.set_cons_zero, List.set_cons_succ, decide_eq_true_eq, bne_iff_ne, Wx_turn, wipeD, Ws_nil, Ws_cons, Ws_asg, Ws_par, Ws_expr, Ws_ret, Ws_retn, Ws_pass, Ws_ite, asgD, setAll, if_true]
    refine ih f List.mem_cons_self i j t S _ _ (by omega) (by omega) ha fun S1 q k1 a1 l1 w1 => ?_
    refine w_tolds htb r (i + f.ns) (j + f.nh) S1 _ _ (fun x hx => ih x (List.mem_cons_of_mem _ hx)) (by omega) (by omega) a1 (by have := k1.1; omega) fun S2 T k2 a2 t2 m2 => ?_
    refine h S2 (((f.val inp (dr c i j)).1, q, f.rul inp (dr c i j)) :: T) (k1.trans k2) (by rw [n1, n2, ← Nat.add_assoc, ← Nat.add_assoc]; exact a2) ?_ ?_
    · intro x hx
      rcases List.mem_cons.mp hx with rfl | hx
      · have g1 : b0 ≤ q := Nat.le_trans hb l1
        have g2 : q ≠ t := by omega
        exact ⟨g1, k2.get w1 g2⟩
      · exact t2 x hx
    · rw [List.map_cons, m2]
      show _ = ((f.val inp (dr c i j)).1, f.rul inp (dr c i j)) :: r.rws inp (f.val inp (dr c i j)).2
      rw [val_dr]
theorem nums_of (T : Told) : (T.map tD).flatMap (fun d => match d with | .tup [x, _] => [x] | _ => []) = (T.map (·.1)).map fr := by
  induction T with
  | nil => rfl
  | cons x r ih =>
    rw [List.map_cons, List.flatMap_cons, ih]
    rfl
theorem w_numbers {C : Calls} {k : Nat} {T : Told} {S : Store} {Q : D → Store → Prop} {E : Ex} {x0 x1 x2 x3 x4 x5 x6 x7 x8 x9 x10 x11 x12 x13 x15 x16 x17 x18 : Option D} (hk : S[k]? = some (.lst (T.map tD))) (hl : T.length ≤ line) (h : Q (.ref S.length) (S ++ [Ob.lst ((T.map (·.1)).map fr)])) :
    Wx (denE C (.comp [("number", 7), ("row", 8)] (.tup [7, 8]) .seq (.cons (.var 14) .nil) .none (.var 7)) [x0, x1, x2, x3, x4, x5, x6, x7, x8, x9, x10, x11, x12, x13, some (.ref k), x15, x16, x17, x18]) S Q E := by
  simp only [Wx_comp, Wx_var, Wx_con, Wx_glob, Wx_bin, Wx_neg, Wx_negI, Wx_not, Wx_cmp, Wx_and, Wx_or, Wx_ite, Wx_tup, Wx_lst, Wx_idx, Wx_slice, Wx_call, Wx_bi, Wx_isi, Wx_meth, Wx_nil, Wx_cons, Wx_onone, Wx_osome, Wx_cnone, Wx_csome, Wx_add, Wx_addT, Wx_sub, Wx_mul, Wx_fdiv, Wx_mod, Wx_tbl, Wx_tint, Wx_eqI, Wx_eqS, Wx_eqB, Wx_neI, Wx_ltI, Wx_leI, Wx_gtI, Wx_geI, Wx_idxT, atD_0, atD_1, atD_2, Wx_abs, Wx_intI, Wx_intB, Wx_cutT, Wx_srcT, Wx_range, Wx_ret, Wx_cond, List.getElem?_cons_zero, List.getElem?_cons_succ, List.length_cons, List.length_nil, List.set_cons_zero, List.set_cons_succ, decide_eq_true_eq, bne_iff_ne, Wx_turn, wipeD]
  rw [Wx_srcL (seq_lst hk)]
  refine each_pure (g := fun d => match d with | .tup [x, _] => [x] | _ => []) (keptRefl S [k]) (T.map tD) (fun d hd Q hq => ?_) _ ?_
  · obtain ⟨x, hx, rfl⟩ := List.mem_map.mp hd
    unfold tD at hq ⊢
    simp only [List.map_cons, List.map_nil, Wx_var, Wx_con, Wx_glob, Wx_bin, Wx_neg, Wx_negI, Wx_not, Wx_cmp, Wx_and, Wx_or, Wx_ite, Wx_tup, Wx_lst, Wx_idx, Wx_slice, Wx_call, Wx_bi, Wx_isi, Wx_meth, Wx_nil, Wx_cons, Wx_onone, Wx_osome, Wx_cnone, Wx_csome, Wx_add, Wx_addT, Wx_sub, Wx_mul, Wx_fdiv, Wx_mod, Wx_tbl, Wx_tint, Wx_eqI, Wx_eqS, Wx_eqB, Wx_neI, Wx_ltI, Wx_leI, Wx_gtI, Wx_geI, Wx_idxT, atD_0, atD_1, atD_2, Wx_abs, Wx_intI, Wx_intB, Wx_cutT, Wx_srcT, Wx_range, Wx_ret, Wx_cond, List.getElem?_cons_zero, List.getElem?_cons_succ, List.length_cons, List.length_nil, List.set_cons_zero, List.set_cons_succ, decide_eq_true_eq, bne_iff_ne, Wx_turn, wipeD, Ws_nil, Ws_cons, Ws_asg, Ws_par, Ws_expr, Ws_ret, Ws_retn, Ws_pass, Ws_ite, asgD, setAll, if_true]
    exact hq
  · rw [nums_of]
    exact ⟨by rw [List.length_map, List.length_map]; exact hl, h⟩
theorem each_found {C : Calls} {b : Rat} {S0 S : Store} {ks : List Nat} {x0 x1 x2 x3 x4 x5 x6 x7 x8 x9 x10 x11 x12 x13 x14 x15 x17 x18 : Option D} (hk : kept S0 S ks) : ∀ (T : Told) (i : Nat) (Q : List D → Store → Prop), (∀ x ∈ T, RowsAt S x.2.1 x.2.2 ∧ ∀ y ∈ x.2.2, y.length < line) → Q ((rulR b i (T.map fun x => (x.1, x.2.2))).map rowD) S →
    Wx (eachD S0 ks (turnC2 (.tup [17, 18]) [17, 18, 11] [x0, x1, x2, x3, x4, x5, x6, x7, x8, x9, x10, x11, x12, x13, x14, x15, some (fr b), x17, x18] (denC C (.some (.cmp .eq (.idx (.var 18) (.con (.int 0))) (.var 16)))) (fun δ1 => M.bind (denEs C (.cons (.idx (.var 18) (.con (.int 1))) .nil) δ1) (srcD .seq)) (.name 11) [11] (denC C .none) (denE C (.bin .add (.tup (.cons (.var 17) .nil)) (.var 11)))) (enumD i (T.map tD))) S Q NoEx
  | [], i, Q, hT, h => by
    show Wx (eachD S0 ks _ []) S Q NoEx
    rw [Wx_each_nil]
    exact ⟨hk, h⟩
  | x :: T, i, Q, hT, h => by
    show Wx (eachD S0 ks _ (.tup [.int (i : Nat), tD x] :: enumD (i + 1) (T.map tD))) S Q NoEx
    rw [Wx_each_cons]
    refine ⟨hk, ?_⟩
    obtain ⟨v, q, rows⟩ := x
    obtain ⟨h1, h2⟩ := hT _ List.mem_cons_self
    have rest := fun (Q : List D → Store → Prop) (hq : Q ((rulR b (i + 1) (T.map fun x => (x.1, x.2.2))).map rowD) S) => each_found (C := C) (b := b) (x0 := x0) (x1 := x1) (x2 := x2) (x3 := x3) (x4 := x4) (x5 := x5) (x6 := x6) (x7 := x7) (x8 := x8) (x9 := x9) (x10 := x10) (x11 := x11) (x12 := x12) (x13 := x13) (x14 := x14) (x15 := x15) (x17 := x17) (x18 := x18) hk T (i + 1) Q (fun x hx => hT x (List.mem_cons_of_mem _ hx)) hq
    have h : Q (((if v = b then on0 (i : Int) rows else []) ++ rulR b (i + 1) (T.map fun x => (x.1, x.2.2))).map rowD) S := h
    rw [List.map_append] at h
    unfold tD
    simp only [Wx_turn2, Wx_bind, List.map_cons, List.map_nil, Wx_var, Wx_con, Wx_glob, Wx_bin, Wx_neg, Wx_negI, Wx_not, Wx_cmp, Wx_and, Wx_or, Wx_ite, Wx_tup, Wx_lst, Wx_idx, Wx_slice, Wx_call, Wx_bi, Wx_isi, Wx_meth, Wx_nil, Wx_cons, Wx_onone, Wx_osome, Wx_cnone, Wx_csome, Wx_add, Wx_addT, Wx_sub, Wx_mul, Wx_fdiv, Wx_mod, Wx_tbl, Wx_tint, Wx_eqI, Wx_eqS, Wx_eqB, Wx_neI, Wx_ltI, Wx_leI, Wx_gtI, Wx_geI, Wx_idxT, atD_0, atD_1, atD_2, Wx_abs, Wx_intI, Wx_intB, Wx_cutT, Wx_srcT, Wx_range, Wx_ret, Wx_cond, List.getElem?_cons_zero, List.getElem?_cons_succ, List.length_cons, List.length_nil, List.set_cons_zero, List.set_cons_succ, decide_eq_true_eq, bne_iff_ne, Wx_turn, wipeD, Ws_nil, Ws_cons, Ws_asg, Ws_par, Ws_expr, Ws_ret, Ws_retn, Ws_pass, Ws_ite, asgD, setAll, Wx_eqF]
    by_cases c : v = b
    · rw [if_pos c]
      rw [if_pos c] at h
      rw [Wx_srcL (seq_lst h1)]
      refine each_on (p := 11) (i := (i : Int)) (e := .var 17) kept_self (by simp) h2 (fun x Q hq => ?_) _ ?_
      · exact hq
      · exact rest _ h
    · rw [if_neg c]
      rw [if_neg c] at h
      exact rest _ h
theorem rulR_len (b : Rat) : ∀ (T : List (Rat × List Row1)) (i : Nat), (rulR b i T).length ≤ (T.map (·.2.length)).sum
  | [], i => Nat.le_refl _
  | x :: T, i => by
    show ((if x.1 = b then on0 (i : Int) x.2 else []) ++ rulR b (i + 1) T).length ≤ x.2.length + (T.map (·.2.length)).sum
    have := rulR_len b T (i + 1)
    rw [List.length_append]
    split
    · rw [on0_len]
      omega
    · rw [List.length_nil]
      omega
theorem w_founds {C : Calls} {k : Nat} {b : Rat} {T : Told} {S : Store} {Q : D → Store → Prop} {E : Ex} {x0 x1 x2 x3 x4 x5 x6 x7 x8 x9 x10 x11 x12 x13 x15 x17 x18 : Option D} (hk : S[k]? = some (.lst (T.map tD))) (hT : ∀ x ∈ T, RowsAt S x.2.1 x.2.2 ∧ ∀ y ∈ x.2.2, y.length < line) (hz : (rulR b 0 (T.map fun x => (x.1, x.2.2))).length ≤ line) (h : Q (.ref S.length) (S ++ [Ob.lst ((rulR b 0 (T.map fun x => (x.1, x.2.2))).map rowD)])) :
    Wx (denE C (.comp2 [("place", 17), ("pair", 18), ("one", 11)] (.tup [17, 18]) .enum (.cons (.var 14) .nil) (.some (.cmp .eq (.idx (.var 18) (.con (.int 0))) (.var 16))) [11] (.name 11) .seq (.cons (.idx (.var 18) (.con (.int 1))) .nil) .none (.bin .add (.tup (.cons (.var 17) .nil)) (.var 11))) [x0, x1, x2, x3, x4, x5, x6, x7, x8, x9, x10, x11, x12, x13, some (.ref k), x15, some (fr b), x17, x18]) S Q E := by
  simp only [Wx_comp2, Wx_var, Wx_con, Wx_glob, Wx_bin, Wx_neg, Wx_negI, Wx_not, Wx_cmp, Wx_and, Wx_or, Wx_ite, Wx_tup, Wx_lst, Wx_idx, Wx_slice, Wx_call, Wx_bi, Wx_isi, Wx_meth, Wx_nil, Wx_cons, Wx_onone, Wx_osome, Wx_cnone, Wx_csome, Wx_add, Wx_addT, Wx_sub, Wx_mul, Wx_fdiv, Wx_mod, Wx_tbl, Wx_tint, Wx_eqI, Wx_eqS, Wx_eqB, Wx_neI, Wx_ltI, Wx_leI, Wx_gtI, Wx_geI, Wx_idxT, atD_0, atD_1, atD_2, Wx_abs, Wx_intI, Wx_intB, Wx_cutT, Wx_srcT, Wx_range, Wx_ret, Wx_cond, List.getElem?_cons_zero, List.getElem?_cons_succ, List.length_cons, List.length_nil, List.set_cons_zero, List.set_cons_succ, decide_eq_true_eq, bne_iff_ne, Wx_turn, wipeD]
  rw [Wx_enum (list_lst hk)]
  refine each_found (keptRefl S _) T 0 _ hT ?_
  exact ⟨by rw [List.length_map]; exact hz, h⟩
end K03

set_option Elab.async false
set_option linter.all false
set_option maxRecDepth 100000
set_option maxHeartbeats 1000000
set_option autoImplicit false
/-! k03, the plain law: the module's ruling_node and ruling, whole. -/
namespace K03
open Ev
theorem rws_len {s : Nat} (inp : List Rat) : ∀ (fs : Fs) (st : St), fs.ok s → ((((fs.rws inp st).map (·.2.length)).sum : Nat) : Int) ≤ (fs.folds aMany).sum ∧ (fs.rws inp st).length = fs.list.length
  | .nil, st, h => ⟨Int.le_refl _, rfl⟩
  | .cons f r, st, h => by
    obtain ⟨h1, h2⟩ := rws_len inp r (f.val inp st).2 h.2
    have h3 := rul_len inp f st
    refine ⟨?_, congrArg (· + 1) h2⟩
    show (((f.rul inp st).length + ((r.rws inp _).map (·.2.length)).sum : Nat) : Int) ≤ f.fold aMany + (r.folds aMany).sum
    omega
theorem rws_row {inp : List Rat} : ∀ (fs : Fs) (st : St), ∀ x ∈ fs.rws inp st, ∀ y ∈ x.2, y.length ≤ fs.sz
  | .cons f r, st, x, hx, y, hy => by
    have hx : x ∈ ((f.val inp st).1, f.rul inp st) :: r.rws inp (f.val inp st).2 := hx
    have e : (Fs.cons f r).sz = f.sz + r.sz + 1 := rfl
    rcases List.mem_cons.mp hx with rfl | hx
    · have := rul_row inp f st y hy
      omega
    · have := rws_row r _ x hx y hy
      omega
theorem w_ruln {s : Nat} {inp : List Rat} {c : St} (hi : In s inp) (hs : StOk c) : ∀ (b : Nat) (f : F), f.sz ≤ b → b ≤ 300000 → f.ok s → f.fold aMany ≤ 1000000 → ∀ n, 2 * f.dep + 10 ≤ n → RulAt n 18 inp c f := by
  intro b
  induction b with
  | zero => intro f h; cases f <;> exact absurd h (Nat.not_succ_le_zero _)
  | succ b ih =>
    intro f hb hb2 hok hm n hn
    obtain ⟨n, rfl⟩ : ∃ n', n = n' + 5 := ⟨n - 5, by omega⟩
    cases f with
    | sum rs =>
      have hz : (F.sum rs).sz = rs.sz + 1 := rfl
      have hd : (F.sum rs).dep = rs.dep + 1 := rfl
      have hmm : prodI (rs.folds aMany) ≤ 1000000 := hm
      have key := w_rsum (n := n) (c := c) hi hs (by omega) hok hmm fun g hg => by
        have := (Rs.sz_inner (rs := rs)).2 g hg
        have := Rs.dep_inner hg
        have := many_prod rs g hok hg
        exact ih g (by omega) (by omega) (Rs.ok_inner hok hg) (by omega) (n + 3) (by omega)
      intro i j t S Q E h1 h2 ha h
      rw [r_ruling_node, Wx_end]
      unfold b_ruling_node
      have hdef : (F.sum rs).d = .tup [.str "sum", .tup rs.d] := rfl
      rw [hdef]
      simp only [Wx_var, Wx_con, Wx_glob, Wx_bin, Wx_neg, Wx_negI, Wx_not, Wx_cmp, Wx_and, Wx_or, Wx_ite, Wx_tup, Wx_lst, Wx_idx, Wx_slice, Wx_call, Wx_bi, Wx_isi, Wx_meth, Wx_nil, Wx_cons, Wx_onone, Wx_osome, Wx_cnone, Wx_csome, Wx_add, Wx_addT, Wx_sub, Wx_mul, Wx_fdiv, Wx_mod, Wx_tbl, Wx_tint, Wx_eqI, Wx_eqS, Wx_eqB, Wx_neI, Wx_ltI, Wx_leI, Wx_gtI, Wx_geI, Wx_idxT, atD_0, atD_1, atD_2, Wx_abs, Wx_intI, Wx_intB, Wx_cutT, Wx_srcT, Wx_range, Wx_ret, Wx_cond, List.getElem?_cons_zero, List.getElem?_cons_succ, List.length_cons, List.length_nil, List.set_cons_zero, List.set_cons_succ, decide_eq_true_eq, bne_iff_ne, Wx_turn, wipeD, Ws_nil, Ws_cons, Ws_asg, Ws_par, Ws_expr, Ws_ret, Ws_retn, Ws_pass, Ws_ite, asgD, setAll, t1, if_true]
      exact key i j t S _ _ h1 h2 ha h
    | top g fs =>
      have hz : (F.top g fs).sz = fs.sz + 1 := rfl
      have hd : (F.top g fs).dep = fs.dep + 1 := rfl
      rw [many_top] at hm
      intro i j t S Q E h1 h2 ha h
      rw [r_ruling_node, Wx_end]
      unfold b_ruling_node
      have hne : (fs.vals inp (dr c i j)).1 ≠ [] := by
        intro z
        have := vals_len inp fs (dr c i j)
        rw [z] at this
        exact hok.1 (List.eq_nil_of_length_eq_zero this.symm)
      have tg : ∀ {S : Store} {Q : D → Store → Prop} {E : Ex}, Wx (idxD (F.top g fs).d (.int 0)) S Q E = Q (.str (gtag g)) S := fun {S Q E} => Wx_tag (f := F.top g fs)
      simp only [Wx_var, Wx_con, Wx_glob, Wx_bin, Wx_neg, Wx_negI, Wx_not, Wx_cmp, Wx_and, Wx_or, Wx_ite, Wx_tup, Wx_lst, Wx_idx, Wx_slice, Wx_call, Wx_bi, Wx_isi, Wx_meth, Wx_nil, Wx_cons, Wx_onone, Wx_osome, Wx_cnone, Wx_csome, Wx_add, Wx_addT, Wx_sub, Wx_mul, Wx_fdiv, Wx_mod, Wx_tbl, Wx_tint, Wx_eqI, Wx_eqS, Wx_eqB, Wx_neI, Wx_ltI, Wx_leI, Wx_gtI, Wx_geI, Wx_idxT, atD_0, atD_1, atD_2, Wx_abs, Wx_intI, Wx_intB, Wx_cutT, Wx_srcT, Wx_range, Wx_ret, Wx_cond, List.getElem?_cons_zero, List.getElem?_cons_succ, List.length_cons, List.length_nil, List.set_cons_zero, List.set_cons_succ, decide_eq_true_eq, bne_iff_ne, Wx_turn, wipeD, Ws_nil, Ws_cons, Ws_asg, Ws_par, Ws_expr, Ws_ret, Ws_retn, Ws_pass, Ws_ite, asgD, setAll, tg, top_ar, t16, t17, t18, Bool.false_eq_true, if_false]
      rw [Wx_comp]
      simp only [Wx_var, Wx_con, Wx_glob, Wx_bin, Wx_neg, Wx_negI, Wx_not, Wx_cmp, Wx_and, Wx_or, Wx_ite, Wx_tup, Wx_lst, Wx_idx, Wx_slice, Wx_call, Wx_bi, Wx_isi, Wx_meth, Wx_nil, Wx_cons, Wx_onone, Wx_osome, Wx_cnone, Wx_csome, Wx_add, Wx_addT, Wx_sub, Wx_mul, Wx_fdiv, Wx_mod, Wx_tbl, Wx_tint, Wx_eqI, Wx_eqS, Wx_eqB, Wx_neI, Wx_ltI, Wx_leI, Wx_gtI, Wx_geI, Wx_idxT, atD_0, atD_1, atD_2, Wx_abs, Wx_intI, Wx_intB, Wx_cutT, Wx_srcT, Wx_range, Wx_ret, Wx_cond, List.getElem?_cons_zero, List.getElem?_cons_succ, List.length_cons, List.length_nil, List.set_cons_zero, List.set_cons_succ, decide_eq_true_eq, bne_iff_ne, Wx_turn, wipeD, Ws_nil, Ws_cons, Ws_asg, Ws_par, Ws_expr, Ws_ret, Ws_retn, Ws_pass, Ws_ite, asgD, setAll, top_ar]
      have lt := ha.lt
      refine w_tolds (b0 := S.length) lt fs i j S _ _ (fun x hx => ?_) h1 h2 ha (Nat.le_refl _) fun S1 T k1 a1 T1 m1 => ?_
      · have := (Fs.sz_list (rs := fs)).2 x hx
        have := Fs.dep_list hx
        have := many_sum fs x hok.2 hx
        exact ih x (by omega) (by omega) (Fs.ok_list hok.2 hx) (by omega) (n + 4) (by omega)
      have hv := vals_bd hi fs (dr c i j) hok.2 (hs.drop i j)
      obtain ⟨q1, q2⟩ := rws_len inp fs (dr c i j) hok.2
      have q3 := (Fs.sz_list (rs := fs)).1
      have lT : T.length = fs.list.length := by rw [← q2, ← m1, List.length_map]
      have nT : T.map (·.1) = (fs.vals inp (dr c i j)).1 := by
        rw [← rws_vals, ← m1, List.map_map]
        rfl
      have lv := vals_len inp fs (dr c i j)
      refine ⟨by rw [List.length_map]; unfold line; omega, ?_⟩
      refine w_numbers get_last (by unfold line; omega) ?_
      simp only [Wx_var, Wx_con, Wx_glob, Wx_bin, Wx_neg, Wx_negI, Wx_not, Wx_cmp, Wx_and, Wx_or, Wx_ite, Wx_tup, Wx_lst, Wx_idx, Wx_slice, Wx_call, Wx_bi, Wx_isi, Wx_meth, Wx_nil, Wx_cons, Wx_onone, Wx_osome, Wx_cnone, Wx_csome, Wx_add, Wx_addT, Wx_sub, Wx_mul, Wx_fdiv, Wx_mod, Wx_tbl, Wx_tint, Wx_eqI, Wx_eqS, Wx_eqB, Wx_neI, Wx_ltI, Wx_leI, Wx_gtI, Wx_geI, Wx_idxT, atD_0, atD_1, atD_2, Wx_abs, Wx_intI, Wx_intB, Wx_cutT, Wx_srcT, Wx_range, Wx_ret, Wx_cond, List.getElem?_cons_zero, List.getElem?_cons_succ, List.length_cons, List.length_nil, List.set_cons_zero, List.set_cons_succ, decide_eq_true_eq, bne_iff_ne, Wx_turn, wipeD, Ws_nil, Ws_cons, Ws_asg, Ws_par, Ws_expr, Ws_ret, Ws_retn, Ws_pass, Ws_ite, asgD, setAll, tg, t19]
      rw [nT]
      have gT : ((S1 ++ [Ob.lst (T.map tD)]) ++ [Ob.lst ((fs.vals inp (dr c i j)).1.map fr)])[S1.length]? = some (.lst (T.map tD)) := get_app (List.prefix_append _ _) get_last
      have pT : S1 <+: ((S1 ++ [Ob.lst (T.map tD)]) ++ [Ob.lst ((fs.vals inp (dr c i j)).1.map fr)]) := (List.prefix_append _ _).trans (List.prefix_append _ _)
      have fin : ∀ (b : Rat), b = best g (fs.vals inp (dr c i j)).1 → Wx (denE (run P (n + 4)) (.comp2 [("place", 17), ("pair", 18), ("one", 11)] (.tup [17, 18]) .enum (.cons (.var 14) .nil) (.some (.cmp .eq (.idx (.var 18) (.con (.int 0))) (.var 16))) [11] (.name 11) .seq (.cons (.idx (.var 18) (.con (.int 1))) .nil) .none (.bin .add (.tup (.cons (.var 17) .nil)) (.var 11))) [some (F.top g fs).d, some (iD inp), some (cD c), some (bD c), some (.ref t), none, none, none, none, none, none, none, none, none, some (.ref S1.length), some (.ref (S1 ++ [Ob.lst (T.map tD)]).length), some (fr b), none, none]) ((S1 ++ [Ob.lst (T.map tD)]) ++ [Ob.lst ((fs.vals inp (dr c i j)).1.map fr)]) (fun d S1 => 2 ≤ line ∧ Q (.tup [fr b, d]) S1) E := by
        intro b hb
        refine w_founds gT (fun x hx => ⟨get_app pT (T1 x hx).2, fun y hy => ?_⟩) ?_ ?_
        · have hx2 : (x.1, x.2.2) ∈ fs.rws inp (dr c i j) := by
            rw [← m1]
            exact List.mem_map.mpr ⟨x, hx, rfl⟩
          have := rws_row fs (dr c i j) _ hx2 y hy
          unfold line
          omega
        · rw [m1]
          have := rulR_len b (fs.rws inp (dr c i j)) 0
          unfold line
          omega
        · refine ⟨by decide, ?_⟩
          subst hb
          have e : rulR (best g (fs.vals inp (dr c i j)).1) 0 (T.map fun x => (x.1, x.2.2)) = (F.top g fs).rul inp (dr c i j) := by
            rw [m1, rws_rul]
            rfl
          rw [e]
          refine h _ _ ((k1.trans (Kp.pre pT)).trans Kp.app) ?_ ?_ get_last
          · exact (get_app (pT.trans (List.prefix_append _ _)) a1)
          · have := (k1.trans (Kp.pre pT)).1
            exact this
      cases g with
      | true =>
        rw [if_pos rfl]
        refine w_greatest (n := n + 2) (K := 50 * fs.sz) get_last hne hv (by omega) fun m hm => ?_
        exact fin m (max_uniq hm (best_max hne))
      | false =>
        rw [if_neg Bool.false_ne_true]
        refine w_least (n := n + 2) (K := 50 * fs.sz) get_last hne hv (by omega) fun m hm => ?_
        exact fin m (min_uniq hm (best_min hne))
    | size f =>
      have hz : (F.size f).sz = f.sz + 1 := rfl
      have hd : (F.size f).dep = f.dep + 1 := rfl
      rw [many_size] at hm
      have hp := many_pos f hok
      have hdef : (F.size f).d = .tup [.str "size", f.d] := rfl
      intro i j t S Q E h1 h2 ha h
      rw [r_ruling_node, Wx_end]
      unfold b_ruling_node
      rw [hdef]
      simp only [Wx_var, Wx_con, Wx_glob, Wx_bin, Wx_neg, Wx_negI, Wx_not, Wx_cmp, Wx_and, Wx_or, Wx_ite, Wx_tup, Wx_lst, Wx_idx, Wx_slice, Wx_call, Wx_bi, Wx_isi, Wx_meth, Wx_nil, Wx_cons, Wx_onone, Wx_osome, Wx_cnone, Wx_csome, Wx_add, Wx_addT, Wx_sub, Wx_mul, Wx_fdiv, Wx_mod, Wx_tbl, Wx_tint, Wx_eqI, Wx_eqS, Wx_eqB, Wx_neI, Wx_ltI, Wx_leI, Wx_gtI, Wx_geI, Wx_idxT, atD_0, atD_1, atD_2, Wx_abs, Wx_intI, Wx_intB, Wx_cutT, Wx_srcT, Wx_range, Wx_ret, Wx_cond, List.getElem?_cons_zero, List.getElem?_cons_succ, List.length_cons, List.length_nil, List.set_cons_zero, List.set_cons_succ, decide_eq_true_eq, bne_iff_ne, Wx_turn, wipeD, Ws_nil, Ws_cons, Ws_asg, Ws_par, Ws_expr, Ws_ret, Ws_retn, Ws_pass, Ws_ite, asgD, setAll, t6, t10, t9, Bool.false_eq_true, if_false, if_true]
      refine ih f (by omega) (by omega) hok (by omega) (n + 4) (by omega) i j t S _ _ h1 h2 ha fun S1 r k1 a1 l1 w1 => ?_
      simp only [Wx_var, Wx_con, Wx_glob, Wx_bin, Wx_neg, Wx_negI, Wx_not, Wx_cmp, Wx_and, Wx_or, Wx_ite, Wx_tup, Wx_lst, Wx_idx, Wx_slice, Wx_call, Wx_bi, Wx_isi, Wx_meth, Wx_nil, Wx_cons, Wx_onone, Wx_osome, Wx_cnone, Wx_csome, Wx_add, Wx_addT, Wx_sub, Wx_mul, Wx_fdiv, Wx_mod, Wx_tbl, Wx_tint, Wx_eqI, Wx_eqS, Wx_eqB, Wx_neI, Wx_ltI, Wx_leI, Wx_gtI, Wx_geI, Wx_idxT, atD_0, atD_1, atD_2, Wx_abs, Wx_intI, Wx_intB, Wx_cutT, Wx_srcT, Wx_range, Wx_ret, Wx_cond, List.getElem?_cons_zero, List.getElem?_cons_succ, List.length_cons, List.length_nil, List.set_cons_zero, List.set_cons_succ, decide_eq_true_eq, bne_iff_ne, Wx_turn, wipeD, Ws_nil, Ws_cons, Ws_asg, Ws_par, Ws_expr, Ws_ret, Ws_retn, Ws_pass, Ws_ite, asgD, setAll]
      refine w_signs ?_
      refine w_size (n := n + 3) _ ?_
      have hrl := rul_len inp f (dr c i j)
      have hsl := size_len (f.val inp (dr c i j)).1 (f.rul inp (dr c i j))
      refine w_ons get_last (get_app (List.prefix_append _ _) w1) (fun x hx => ?_) ?_ ?_
      · have := rul_row inp f (dr c i j) x hx
        unfold line
        omega
      · rw [sign_rows]
        unfold line
        omega
      · rw [sign_rows]
        refine ⟨by decide, h _ _ (k1.trans (Kp.app.trans Kp.app)) ?_ ?_ get_last⟩
        · exact a1.app.app
        · rw [List.length_append]
          have := k1.1
          omega
    | held f =>
      have hz : (F.held f).sz = f.sz + 1 := rfl
      have hd : (F.held f).dep = f.dep + 1 := rfl
      rw [many_held] at hm
      have hp1 := many_pos f hok
      have hdef : (F.held f).d = .tup [.str "held", f.d] := rfl
      intro i j t S Q E h1 h2 ha h
      rw [r_ruling_node, Wx_end]
      unfold b_ruling_node
      rw [hdef]
      have e1 : (F.held f).ns = f.ns := rfl
      have e2 : (F.held f).nh = f.nh + 1 := rfl
      have hlt : j < c.2.length := by omega
      have g0 := headD_drop c.2 j (0, 0) hlt
      have e3 : atD (c.2.map pr) (j : Int) = some (pr ((c.2.drop j).headD (0, 0))) := by
        refine atD_nat ?_
        rw [List.getElem?_map, g0]
        rfl
      have hp := hs.2 _ (List.mem_of_getElem? g0)
      have ha3 := ha.set1
      have hv := val_bd hi f (dr c i (j + 1)) hok (hs.drop _ _)
      simp only [Wx_var, Wx_con, Wx_glob, Wx_bin, Wx_neg, Wx_negI, Wx_not, Wx_cmp, Wx_and, Wx_or, Wx_ite, Wx_tup, Wx_lst, Wx_idx, Wx_slice, Wx_call, Wx_bi, Wx_isi, Wx_meth, Wx_nil, Wx_cons, Wx_onone, Wx_osome, Wx_cnone, Wx_csome, Wx_add, Wx_addT, Wx_sub, Wx_mul, Wx_fdiv, Wx_mod, Wx_tbl, Wx_tint, Wx_eqI, Wx_eqS, Wx_eqB, Wx_neI, Wx_ltI, Wx_leI, Wx_gtI, Wx_geI, Wx_idxT, atD_0, atD_1, atD_2, Wx_abs, Wx_intI, Wx_intB, Wx_cutT, Wx_srcT, Wx_range, Wx_ret, Wx_cond, List.getElem?_cons_zero, List.getElem?_cons_succ, List.length_cons, List.length_nil, List.set_cons_zero, List.set_cons_succ, decide_eq_true_eq, bne_iff_ne, Wx_turn, wipeD, Ws_nil, Ws_cons, Ws_asg, Ws_par, Ws_expr, Ws_ret, Ws_retn, Ws_pass, Ws_ite, asgD, setAll, t11, t15, Bool.false_eq_true, if_false, if_true]
      rw [at_1 ha]
      simp only [Wx_var, Wx_con, Wx_glob, Wx_bin, Wx_neg, Wx_negI, Wx_not, Wx_cmp, Wx_and, Wx_or, Wx_ite, Wx_tup, Wx_lst, Wx_idx, Wx_slice, Wx_call, Wx_bi, Wx_isi, Wx_meth, Wx_nil, Wx_cons, Wx_onone, Wx_osome, Wx_cnone, Wx_csome, Wx_add, Wx_addT, Wx_sub, Wx_mul, Wx_fdiv, Wx_mod, Wx_tbl, Wx_tint, Wx_eqI, Wx_eqS, Wx_eqB, Wx_neI, Wx_ltI, Wx_leI, Wx_gtI, Wx_geI, Wx_idxT, atD_0, atD_1, atD_2, Wx_abs, Wx_intI, Wx_intB, Wx_cutT, Wx_srcT, Wx_range, Wx_ret, Wx_cond, List.getElem?_cons_zero, List.getElem?_cons_succ, List.length_cons, List.length_nil, List.set_cons_zero, List.set_cons_succ, decide_eq_true_eq, bne_iff_ne, Wx_turn, wipeD, Ws_nil, Ws_cons, Ws_asg, Ws_par, Ws_expr, Ws_ret, Ws_retn, Ws_pass, Ws_ite, asgD, setAll, e3]
      simp only [Wx_var, Wx_con, Wx_glob, Wx_bin, Wx_neg, Wx_negI, Wx_not, Wx_cmp, Wx_and, Wx_or, Wx_ite, Wx_tup, Wx_lst, Wx_idx, Wx_slice, Wx_call, Wx_bi, Wx_isi, Wx_meth, Wx_nil, Wx_cons, Wx_onone, Wx_osome, Wx_cnone, Wx_csome, Wx_add, Wx_addT, Wx_sub, Wx_mul, Wx_fdiv, Wx_mod, Wx_tbl, Wx_tint, Wx_eqI, Wx_eqS, Wx_eqB, Wx_neI, Wx_ltI, Wx_leI, Wx_gtI, Wx_geI, Wx_idxT, atD_0, atD_1, atD_2, Wx_abs, Wx_intI, Wx_intB, Wx_cutT, Wx_srcT, Wx_range, Wx_ret, Wx_cond, List.getElem?_cons_zero, List.getElem?_cons_succ, List.length_cons, List.length_nil, List.set_cons_zero, List.set_cons_succ, decide_eq_true_eq, bne_iff_ne, Wx_turn, wipeD, Ws_nil, Ws_cons, Ws_asg, Ws_par, Ws_expr, Ws_ret, Ws_retn, Ws_pass, Ws_ite, asgD, setAll, Ws_augix, Wx_bind]
      rw [Wx_ref ha]
      rw [at_1 ha]
      rw [Wx_augI, Wx_set ha (j := 1) rfl]
      simp only [Wx_var, Wx_con, Wx_glob, Wx_bin, Wx_neg, Wx_negI, Wx_not, Wx_cmp, Wx_and, Wx_or, Wx_ite, Wx_tup, Wx_lst, Wx_idx, Wx_slice, Wx_call, Wx_bi, Wx_isi, Wx_meth, Wx_nil, Wx_cons, Wx_onone, Wx_osome, Wx_cnone, Wx_csome, Wx_add, Wx_addT, Wx_sub, Wx_mul, Wx_fdiv, Wx_mod, Wx_tbl, Wx_tint, Wx_eqI, Wx_eqS, Wx_eqB, Wx_neI, Wx_ltI, Wx_leI, Wx_gtI, Wx_geI, Wx_idxT, atD_0, atD_1, atD_2, Wx_abs, Wx_intI, Wx_intB, Wx_cutT, Wx_srcT, Wx_range, Wx_ret, Wx_cond, List.getElem?_cons_zero, List.getElem?_cons_succ, List.length_cons, List.length_nil, List.set_cons_zero, List.set_cons_succ, decide_eq_true_eq, bne_iff_ne, Wx_turn, wipeD, Ws_nil, Ws_cons, Ws_asg, Ws_par, Ws_expr, Ws_ret, Ws_retn, Ws_pass, Ws_ite, asgD, setAll]
      refine ih f (by omega) (by omega) hok (by omega) (n + 4) (by omega) i (j + 1) t _ _ _ (by omega) (by omega) ha3 fun S1 r k1 a1 l1 w1 => ?_
      simp only [Wx_var, Wx_con, Wx_glob, Wx_bin, Wx_neg, Wx_negI, Wx_not, Wx_cmp, Wx_and, Wx_or, Wx_ite, Wx_tup, Wx_lst, Wx_idx, Wx_slice, Wx_call, Wx_bi, Wx_isi, Wx_meth, Wx_nil, Wx_cons, Wx_onone, Wx_osome, Wx_cnone, Wx_csome, Wx_add, Wx_addT, Wx_sub, Wx_mul, Wx_fdiv, Wx_mod, Wx_tbl, Wx_tint, Wx_eqI, Wx_eqS, Wx_eqB, Wx_neI, Wx_ltI, Wx_leI, Wx_gtI, Wx_geI, Wx_idxT, atD_0, atD_1, atD_2, Wx_abs, Wx_intI, Wx_intB, Wx_cutT, Wx_srcT, Wx_range, Wx_ret, Wx_cond, List.getElem?_cons_zero, List.getElem?_cons_succ, List.length_cons, List.length_nil, List.set_cons_zero, List.set_cons_succ, decide_eq_true_eq, bne_iff_ne, Wx_turn, wipeD, Ws_nil, Ws_cons, Ws_asg, Ws_par, Ws_expr, Ws_ret, Ws_retn, Ws_pass, Ws_ite, asgD, setAll, Ws_for]
      refine ⟨by decide, ?_⟩
      have hsd := side_len ((c.2.drop j).headD (0, 0)) (f.val inp (dr c i (j + 1))).1
      have hrl := rul_len inp f (dr c i (j + 1))
      refine w_side (n := n + 2) ((c.2.drop j).headD (0, 0)) (f.val inp (dr c i (j + 1))).1 hv hp.1 hp.2.1 (by omega) fun S2 rk p2 hk2 => ?_
      rw [Wx_srcL (seq_lst hk2)]
      have lk : rk < S2.length := (List.getElem?_eq_some_iff.mp hk2).1
      have L1 := k1.1
      rw [List.length_set] at L1
      have L2 := p2.length_le
      rw [List.length_append, List.length_singleton] at L2
      refine rul_ways (b0 := S.length) (rows := f.rul inp (dr c i (j + 1))) lk (by omega) (fun x hx => ?_) ?_ (sideL ((c.2.drop j).headD (0, 0)) (f.val inp (dr c i (j + 1))).1) [] S1.length S2 _ _ (List.prefix_refl _) (by omega) (get_app ((List.prefix_append _ _).trans p2) w1) (get_app p2 get_last) ?_ fun S3 q3 o10 o11 p3 b3 w3 => ?_
      · have := rul_row inp f (dr c i (j + 1)) x hx
        unfold line
        omega
      · unfold line
        omega
      · rw [List.length_nil, Nat.zero_add]
        have : (sideL ((c.2.drop j).headD (0, 0)) (f.val inp (dr c i (j + 1))).1).length * ((f.rul inp (dr c i (j + 1))).length + 1) ≤ 3 * (1000000 + 1) := Nat.mul_le_mul hsd (by omega)
        unfold line
        omega
      · rw [List.nil_append, held_side] at w3
        simp only [Wx_var, Wx_con, Wx_glob, Wx_bin, Wx_neg, Wx_negI, Wx_not, Wx_cmp, Wx_and, Wx_or, Wx_ite, Wx_tup, Wx_lst, Wx_idx, Wx_slice, Wx_call, Wx_bi, Wx_isi, Wx_meth, Wx_nil, Wx_cons, Wx_onone, Wx_osome, Wx_cnone, Wx_csome, Wx_add, Wx_addT, Wx_sub, Wx_mul, Wx_fdiv, Wx_mod, Wx_tbl, Wx_tint, Wx_eqI, Wx_eqS, Wx_eqB, Wx_neI, Wx_ltI, Wx_leI, Wx_gtI, Wx_geI, Wx_idxT, atD_0, atD_1, atD_2, Wx_abs, Wx_intI, Wx_intB, Wx_cutT, Wx_srcT, Wx_range, Wx_ret, Wx_cond, List.getElem?_cons_zero, List.getElem?_cons_succ, List.length_cons, List.length_nil, List.set_cons_zero, List.set_cons_succ, decide_eq_true_eq, bne_iff_ne, Wx_turn, wipeD, Ws_nil, Ws_cons, Ws_asg, Ws_par, Ws_expr, Ws_ret, Ws_retn, Ws_pass, Ws_ite, asgD, setAll]
        have low := hp.1
        refine ⟨by decide, ?_⟩
        refine w_least (n := n + 2) (K := 50 * f.sz + 40) (qs := [(f.val inp (dr c i (j + 1))).1, ((c.2.drop j).headD (0, 0)).2]) get_last (by simp) (fun q hq => ?_) (by omega) fun m hm => ?_
        · simp only [List.mem_cons, List.not_mem_nil, or_false] at hq
          rcases hq with rfl | rfl
          · exact hv.mono (by omega)
          · exact hp.2.1.mono (by omega)
        · refine ⟨by decide, ?_⟩
          have bm : Bd (50 * f.sz + 40) m := by
            have := hm.1
            simp only [List.mem_cons, List.not_mem_nil, or_false] at this
            rcases this with rfl | rfl
            · exact hv.mono (by omega)
            · exact hp.2.1.mono (by omega)
          refine w_greatest (n := n + 2) (K := 50 * f.sz + 40) (qs := [((c.2.drop j).headD (0, 0)).1, m]) get_last (by simp) (fun q hq => ?_) (by omega) fun x hx => ?_
          · simp only [List.mem_cons, List.not_mem_nil, or_false] at hq
            rcases hq with rfl | rfl
            · exact hp.1.mono (by omega)
            · exact bm
          · have ex := clamp_mm hp.2.2 hm hx
            have q : ((F.held f).val inp (dr c i j)).1 = clamp ((c.2.drop j).headD (0, 0)) (f.val inp (dr c i (j + 1))).1 := by
              show clamp _ (f.val inp (c.1.drop i, (c.2.drop j).tail)).1 = _
              rw [List.tail_drop]
            have qr : (F.held f).rul inp (dr c i j) = heldR ((c.2.drop j).headD (0, 0)) (f.val inp (dr c i (j + 1))).1 (f.rul inp (dr c i (j + 1))) := by
              show heldR _ (f.val inp (c.1.drop i, (c.2.drop j).tail)).1 (f.rul inp (c.1.drop i, (c.2.drop j).tail)) = _
              rw [List.tail_drop]
            refine ⟨by decide, ?_⟩
            have pq : S1 <+: S3 := ((List.prefix_append _ _).trans p2).trans p3
            rw [ex, ← q]
            refine h _ q3 (((Kp.set.trans k1).trans (Kp.pre pq)).trans (Kp.app.trans Kp.app)) ?_ b3 ?_
            · rw [e1, e2, Nat.add_comm f.nh 1, ← Nat.add_assoc]
              exact get_app ((pq.trans (List.prefix_append _ _)).trans (List.prefix_append _ _)) a1
            · rw [qr]
              exact get_app ((List.prefix_append _ _).trans (List.prefix_append _ _)) w3
theorem kp_pre {S S' : Store} {o : Ob} (k : Kp S.length (S ++ [o]) S') : S <+: S' := by
  refine ⟨S'.drop S.length, ?_⟩
  have hl := k.1
  rw [List.length_append, List.length_singleton] at hl
  refine List.ext_getElem? fun x => ?_
  by_cases hx : x < S.length
  · rw [List.getElem?_append_left hx]
    have := k.2 x (by rw [List.length_append, List.length_singleton]; omega) (by omega)
    rw [this, List.getElem?_append_left hx]
  · rw [List.getElem?_append_right (by omega), List.getElem?_drop]
    congr 1
    omega
theorem w_ruling {s : Nat} {inp : List Rat} {c : St} (hi : In s inp) (hs : StOk c) {f : F} (hf : f.sz ≤ 300000) (hok : f.ok s) (hm : f.fold aMany ≤ 1000000) {n : Nat} (hn : 2 * f.dep + 11 ≤ n) (h1 : f.ns ≤ c.1.length) (h2 : f.nh ≤ c.2.length) {S : Store} {Q : D → Store → Prop} {E : Ex}
    (h : ∀ S', S <+: S' → Q (.tup ((f.rul inp c).map rowD)) S') : Wx (run P n 19 [f.d, iD inp, cD c, bD c]) S Q E := by
  obtain ⟨n, rfl⟩ : ∃ n', n = n' + 1 := ⟨n - 1, by omega⟩
  rw [r_ruling, Wx_end]
  unfold b_ruling
  simp only [Wx_var, Wx_con, Wx_glob, Wx_bin, Wx_neg, Wx_negI, Wx_not, Wx_cmp, Wx_and, Wx_or, Wx_ite, Wx_tup, Wx_lst, Wx_idx, Wx_slice, Wx_call, Wx_bi, Wx_isi, Wx_meth, Wx_nil, Wx_cons, Wx_onone, Wx_osome, Wx_cnone, Wx_csome, Wx_add, Wx_addT, Wx_sub, Wx_mul, Wx_fdiv, Wx_mod, Wx_tbl, Wx_tint, Wx_eqI, Wx_eqS, Wx_eqB, Wx_neI, Wx_ltI, Wx_leI, Wx_gtI, Wx_geI, Wx_idxT, atD_0, atD_1, atD_2, Wx_abs, Wx_intI, Wx_intB, Wx_cutT, Wx_srcT, Wx_range, Wx_ret, Wx_cond, List.getElem?_cons_zero, List.getElem?_cons_succ, List.length_cons, List.length_nil, List.set_cons_zero, List.set_cons_succ, decide_eq_true_eq, bne_iff_ne, Wx_turn, wipeD, Ws_nil, Ws_cons, Ws_asg, Ws_par, Ws_expr, Ws_ret, Ws_retn, Ws_pass, Ws_ite, asgD, setAll]
  have ha : AtIs (S ++ [Ob.lst [.int 0, .int 0]]) S.length 0 0 := get_last
  refine ⟨by decide, ?_⟩
  refine w_ruln hi hs f.sz f (Nat.le_refl _) hf hok hm n (by omega) 0 0 S.length _ _ _ (by omega) (by omega) ha fun S1 r k1 a1 l1 w1 => ?_
  simp only [Wx_var, Wx_con, Wx_glob, Wx_bin, Wx_neg, Wx_negI, Wx_not, Wx_cmp, Wx_and, Wx_or, Wx_ite, Wx_tup, Wx_lst, Wx_idx, Wx_slice, Wx_call, Wx_bi, Wx_isi, Wx_meth, Wx_nil, Wx_cons, Wx_onone, Wx_osome, Wx_cnone, Wx_csome, Wx_add, Wx_addT, Wx_sub, Wx_mul, Wx_fdiv, Wx_mod, Wx_tbl, Wx_tint, Wx_eqI, Wx_eqS, Wx_eqB, Wx_neI, Wx_ltI, Wx_leI, Wx_gtI, Wx_geI, Wx_idxT, atD_0, atD_1, atD_2, Wx_abs, Wx_intI, Wx_intB, Wx_cutT, Wx_srcT, Wx_range, Wx_ret, Wx_cond, List.getElem?_cons_zero, List.getElem?_cons_succ, List.length_cons, List.length_nil, List.set_cons_zero, List.set_cons_succ, decide_eq_true_eq, bne_iff_ne, Wx_turn, wipeD, Ws_nil, Ws_cons, Ws_asg, Ws_par, Ws_expr, Ws_ret, Ws_retn, Ws_pass, Ws_ite, asgD, setAll]
  rw [Wx_tuple (seq_lst w1)]
  exact h S1 (kp_pre k1)
end K03

set_option Elab.async false
set_option linter.all false
set_option maxRecDepth 100000
set_option maxHeartbeats 400000
set_option autoImplicit false
/-! k03, the plain law: the law's own ruling, its sums. -/
namespace K03
open Ev
def LRulAt (n : Nat) (inp : List Rat) (g : F) : Prop := ∀ (st : St) (S : Store) (Q : D → Store → Prop) (E : Ex), StOk st → g.ns ≤ st.1.length → g.nh ≤ st.2.length →
  (∀ S' r, S <+: S' → S.length ≤ r → RowsAt S' r (g.rul inp st) → Q (.tup [.ref r, fr (g.val inp st).1, cD (g.val inp st).2, bD (g.val inp st).2]) S') → Wx (run P n 44 [g.d, iD inp, cD st, bD st]) S Q E
def lrulRow : ISs := match b__law_ruling with
  | .cons (.ite _ (.cons _ (.cons (.for_ _ _ _ t) _)) _) _ => t
  | _ => .nil
def lrulLong : ISs := match lrulRow with
  | .cons _ (.cons (.ite _ _ (.cons _ (.cons _ (.cons (.for_ _ _ _ t) _)))) _) => t
  | _ => .nil
theorem lrulRow_eq : lrulRow = .cons (.asg (.name 10) (.tup (.cons (.con (.int 0)) (.cons (.con (.int 1)) .nil))))
    (.cons (.ite (.isinst (.var 9) [.int]) (.cons (.asg (.name 10) (.idx (.var 1) (.var 9))) .nil)
      (.cons (.asg (.tup [11, 10, 6, 7]) (.call 44 (.cons (.var 9) (.cons (.var 1) (.cons (.var 6) (.cons (.var 7) .nil))))))
      (.cons (.asg (.name 12) (.lst .nil))
      (.cons (.for_ (.name 13) .seq (.cons (.var 5) .nil) lrulLong)
      (.cons (.asg (.name 5) (.var 12)) .nil)))))
    (.cons (.asg (.name 4) (.call 25 (.cons (.var 4) (.cons (.call 26 (.cons (.var 8) (.cons (.var 10) .nil))) .nil)))) .nil)) := rfl
def catTo (x : Row1) (d : D) : List D := match d with
  | .tup ys => [D.tup (x.map D.int ++ ys)]
  | _ => []
theorem flat_cat (x : Row1) (b : List Row1) : (b.map rowD).flatMap (catTo x) = (b.map (x ++ ·)).map rowD := by
  induction b with
  | nil => rfl
  | cons y r ih =>
    rw [List.map_cons, List.flatMap_cons, ih, List.map_cons, List.map_cons, ← rowD_app]
    rfl
section
variable {N : Env → Store → Prop} {Q : Fl × Env → Store → Prop}
theorem lrul_long {n k r b0 : Nat} {b : List Row1} {S0 : Store} {x0 x1 x2 x3 x4 x5 x6 x7 x8 x9 x10 x15 x16 x17 x18 x19 x20 x21 : Option D} (hk : k < S0.length) (hb : b0 ≤ S0.length) (hz : b.length ≤ line) : ∀ (todo acc : List Row1) (q : Nat) (S : Store) (o13 o14 : Option D), S0 <+: S → b0 ≤ q → RowsAt S r b → RowsAt S q acc → acc.length + todo.length * b.length ≤ line → (∀ x ∈ todo, ∀ y ∈ b, x.length + y.length ≤ line) →
    (∀ S' q' o13 o14, S <+: S' → b0 ≤ q' → RowsAt S' q' (acc ++ joinR todo b) → N [x0, x1, x2, x3, x4, x5, x6, x7, x8, x9, x10, some (.ref r), some (.ref q'), o13, o14, x15, x16, x17, x18, x19, x20, x21] S') →
    Ws (forD S0 [k] (.name 13) (denSs (run P n) lrulLong) (todo.map rowD) [x0, x1, x2, x3, x4, x5, x6, x7, x8, x9, x10, some (.ref r), some (.ref q), o13, o14, x15, x16, x17, x18, x19, x20, x21]) S N Q
  | [], acc, q, S, o13, o14, hp, hq, hr, ha, hs, hl, hN => by
    rw [List.map_nil, Ws_for_nil]
    refine ⟨pre_kept hp rfl hk, hN S q o13 o14 (List.prefix_refl _) hq ?_⟩
    show RowsAt S q (acc ++ [])
    rw [List.append_nil]
    exact ha
  | x :: todo, acc, q, S, o13, o14, hp, hq, hr, ha, hs, hl, hN => by
    rw [List.map_cons, Ws_for_cons]
    refine ⟨pre_kept hp rfl hk, ?_⟩
    have e1 : (x :: todo).length * b.length = todo.length * b.length + b.length := by rw [List.length_cons, Nat.succ_mul]
    simp only [asgD, List.set_cons_succ, List.set_cons_zero]
    unfold lrulLong lrulRow b__law_ruling
    simp only [Wx_var, Wx_con, Wx_glob, Wx_bin, Wx_neg, Wx_negI, Wx_not, Wx_cmp, Wx_and, Wx_or, Wx_ite, Wx_tup, Wx_lst, Wx_idx, Wx_slice, Wx_call, Wx_bi, Wx_isi, Wx_meth, Wx_nil, Wx_cons, Wx_onone, Wx_osome, Wx_cnone, Wx_csome, Wx_add, Wx_addT, Wx_sub, Wx_mul, Wx_fdiv, Wx_mod, Wx_tbl, Wx_tint, Wx_eqI, Wx_eqS, Wx_eqB, Wx_neI, Wx_ltI, Wx_leI, Wx_gtI, Wx_geI, Wx_idxT, atD_0, atD_1, atD_2, Wx_abs, Wx_intI, Wx_intB, Wx_cutT, Wx_srcT, Wx_range, Wx_ret, Wx_cond, List.getElem?_cons_zero, List.getElem?_cons_succ, List.length_cons, List.length_nil, List.set_cons_zero, List.set_cons_succ, decide_eq_true_eq, bne_iff_ne, Wx_turn, wipeD, Ws_nil, Ws_cons, Ws_asg, Ws_par, Ws_expr, Ws_ret, Ws_retn, Ws_pass, Ws_ite, asgD, setAll, Wx_comp]
    rw [Wx_srcL (seq_lst hr)]
    refine each_pure (g := catTo x) (keptRefl S [r]) (b.map rowD) (fun d hd Q hq => ?_) _ ?_
    · obtain ⟨y, hy, rfl⟩ := List.mem_map.mp hd
      rw [rowD_eq y] at hq ⊢
      rw [rowD_eq x]
      simp only [List.map_cons, List.map_nil, Wx_var, Wx_con, Wx_glob, Wx_bin, Wx_neg, Wx_negI, Wx_not, Wx_cmp, Wx_and, Wx_or, Wx_ite, Wx_tup, Wx_lst, Wx_idx, Wx_slice, Wx_call, Wx_bi, Wx_isi, Wx_meth, Wx_nil, Wx_cons, Wx_onone, Wx_osome, Wx_cnone, Wx_csome, Wx_add, Wx_addT, Wx_sub, Wx_mul, Wx_fdiv, Wx_mod, Wx_tbl, Wx_tint, Wx_eqI, Wx_eqS, Wx_eqB, Wx_neI, Wx_ltI, Wx_leI, Wx_gtI, Wx_geI, Wx_idxT, atD_0, atD_1, atD_2, Wx_abs, Wx_intI, Wx_intB, Wx_cutT, Wx_srcT, Wx_range, Wx_ret, Wx_cond, List.getElem?_cons_zero, List.getElem?_cons_succ, List.length_cons, List.length_nil, List.set_cons_zero, List.set_cons_succ, decide_eq_true_eq, bne_iff_ne, Wx_turn, wipeD, Ws_nil, Ws_cons, Ws_asg, Ws_par, Ws_expr, Ws_ret, Ws_retn, Ws_pass, Ws_ite, asgD, setAll, if_true]
      refine ⟨by rw [List.length_map, List.length_map]; exact hl x List.mem_cons_self y hy, hq⟩
    · rw [flat_cat]
      refine ⟨by rw [List.length_map, List.length_map]; exact hz, ?_⟩
      have ha1 : RowsAt (S ++ [Ob.lst ((b.map (x ++ ·)).map rowD)]) q acc := get_app (List.prefix_append _ _) ha
      rw [Wx_addL ha1 get_last]
      refine ⟨by rw [List.length_map, List.length_map, List.length_map]; omega, ?_⟩
      have g : RowsAt ((S ++ [Ob.lst ((b.map (x ++ ·)).map rowD)]) ++ [Ob.lst (acc.map rowD ++ (b.map (x ++ ·)).map rowD)]) (S ++ [Ob.lst ((b.map (x ++ ·)).map rowD)]).length (acc ++ b.map (x ++ ·)) := by
        show _ = some (Ob.lst ((acc ++ b.map (x ++ ·)).map rowD))
        rw [List.map_append]
        exact get_last
      have pp : S <+: (S ++ [Ob.lst ((b.map (x ++ ·)).map rowD)]) ++ [Ob.lst (acc.map rowD ++ (b.map (x ++ ·)).map rowD)] := (List.prefix_append _ _).trans (List.prefix_append _ _)
      refine lrul_long hk hb hz todo (acc ++ b.map (x ++ ·)) _ _ _ _ (hp.trans pp) ?_ (get_app pp hr) g (by rw [List.length_append, List.length_map]; omega) (fun y hy => hl y (List.mem_cons_of_mem _ hy)) fun S' q' o13 o14 p2 h2 h3 => hN S' q' o13 o14 (pp.trans p2) h2 ?_
      · have := hp.length_le
        rw [List.length_append]
        omega
      · have e : joinR (x :: todo) b = b.map (x ++ ·) ++ joinR todo b := by unfold joinR; rw [List.flatMap_cons]
        rw [e, ← List.append_assoc]
        exact h3
theorem lrul_rows {n s : Nat} {inp : List Rat} {S0 : Store} {b0 : Nat} {x0 x2 x3 x15 x16 x17 x18 x19 x20 x21 : Option D} (hi : In s inp) : ∀ (rs : Rs) (a : Rat) (k : Nat) (rows : List Row1) (L r : Nat) (st : St) (S : Store) (o8 o9 o10 o11 o12 o13 o14 : Option D), (∀ g ∈ rs.inner, LRulAt (n + 2) inp g) → rs.ok s → Bd k a → k + 50 * rs.sz < 20000000 → StOk st → rs.ns ≤ st.1.length → rs.nh ≤ st.2.length → b0 ≤ S.length → b0 ≤ r → RowsAt S r rows → (∀ x ∈ rows, x.length ≤ L) → L + rs.sz ≤ 1000000 → (rows.length : Int) * prodI (rs.folds aMany) ≤ 1000000 → (∀ g ∈ rs.inner, g.fold aMany ≤ 1000000) →
    (∀ S' r' o8 o9 o10 o11 o12 o13 o14, S <+: S' → b0 ≤ r' → RowsAt S' r' (rs.rul inp rows st) → N [x0, some (iD inp), x2, x3, some (fr (rs.acc inp a st).1), some (.ref r'), some (cD (rs.acc inp a st).2), some (bD (rs.acc inp a st).2), o8, o9, o10, o11, o12, o13, o14, x15, x16, x17, x18, x19, x20, x21] S') →
    Ws (forD S0 [] (.tup [8, 9]) (denSs (run P (n + 2)) lrulRow) rs.d [x0, some (iD inp), x2, x3, some (fr a), some (.ref r), some (cD st), some (bD st), o8, o9, o10, o11, o12, o13, o14, x15, x16, x17, x18, x19, x20, x21]) S N Q
  | .nil, a, k, rows, L, r, st, S, o8, o9, o10, o11, o12, o13, o14, ih, h, ha, hk, hs, h1, h2, hb, hbr, hr, hl, hz, hm, hM, hN => by
    unfold Rs.d
    rw [Ws_for_nil]
    exact ⟨keptNil, hN S r o8 o9 o10 o11 o12 o13 o14 (List.prefix_refl _) hbr hr⟩
  | .leaf w i q, a, k, rows, L, r, st, S, o8, o9, o10, o11, o12, o13, o14, ih, h, ha, hk, hs, h1, h2, hb, hbr, hr, hl, hz, hm, hM, hN => by
    unfold Rs.d
    rw [Ws_for_cons]
    refine ⟨keptNil, ?_⟩
    have hlt : i < inp.length := by rw [hi.len]; exact h.2.1
    have e : atD (inp.map fr) (i : Int) = some (fr (inp.getD i 0)) := by
      refine atD_nat ?_
      rw [List.getElem?_map, List.getD_eq_getElem?_getD, List.getElem?_eq_getElem hlt]
      rfl
    have hx : Bd 40 (inp.getD i 0) := by
      rw [List.getD_eq_getElem?_getD, List.getElem?_eq_getElem hlt]
      exact hi.bd _ (List.getElem_mem hlt)
    simp only [asgD, setAll, List.set_cons_succ, List.set_cons_zero]
    have hz1 : (Rs.leaf w i q).sz = q.sz + 1 := rfl
    rw [lrulRow_eq]
    simp only [Wx_var, Wx_con, Wx_glob, Wx_bin, Wx_neg, Wx_negI, Wx_not, Wx_cmp, Wx_and, Wx_or, Wx_ite, Wx_tup, Wx_lst, Wx_idx, Wx_slice, Wx_call, Wx_bi, Wx_isi, Wx_meth, Wx_nil, Wx_cons, Wx_onone, Wx_osome, Wx_cnone, Wx_csome, Wx_add, Wx_addT, Wx_sub, Wx_mul, Wx_fdiv, Wx_mod, Wx_tbl, Wx_tint, Wx_eqI, Wx_eqS, Wx_eqB, Wx_neI, Wx_ltI, Wx_leI, Wx_gtI, Wx_geI, Wx_idxT, atD_0, atD_1, atD_2, Wx_abs, Wx_intI, Wx_intB, Wx_cutT, Wx_srcT, Wx_range, Wx_ret, Wx_cond, List.getElem?_cons_zero, List.getElem?_cons_succ, List.length_cons, List.length_nil, List.set_cons_zero, List.set_cons_succ, decide_eq_true_eq, bne_iff_ne, Wx_turn, wipeD, Ws_nil, Ws_cons, Ws_asg, Ws_par, Ws_expr, Ws_ret, Ws_retn, Ws_pass, Ws_ite, asgD, setAll, Wx_isI, if_true, e]
    refine ⟨by decide, ?_⟩
    refine w_mult w (inp.getD i 0) h.1 hx (by omega) ?_
    refine w_plus a _ ha (bd_mul h.1 hx) (by omega) ?_
    rw [← lrulRow_eq]
    exact lrul_rows hi q _ (k + (3 + 40) + 1) rows L r st S _ _ _ _ _ _ _ ih h.2.2 (bd_add ha (bd_mul h.1 hx)) (by omega) hs h1 h2 hb hbr hr hl (by omega) hm hM hN
  | .node w f q, a, k, rows, L, r, st, S, o8, o9, o10, o11, o12, o13, o14, ih, h, ha, hk, hs, h1, h2, hb, hbr, hr, hl, hz, hm, hM, hN => by
    unfold Rs.d
    rw [Ws_for_cons]
    refine ⟨keptNil, ?_⟩
    obtain ⟨ds, ed⟩ := f.d_tup
    have hz1 : (Rs.node w f q).sz = f.sz + q.sz + 1 := rfl
    have n1 : (Rs.node w f q).ns = f.ns + q.ns := rfl
    have n2 : (Rs.node w f q).nh = f.nh + q.nh := rfl
    have hv := val_bd hi f st h.2.1 hs
    have hs2 : StOk (f.val inp st).2 := by rw [val_st]; exact hs.drop _ _
    have l1 : (f.val inp st).2.1.length = st.1.length - f.ns := by rw [val_st]; exact List.length_drop
    have l2 : (f.val inp st).2.2.length = st.2.length - f.nh := by rw [val_st]; exact List.length_drop
    have fits := rl_fits (inp := inp) (.node w f q) rows L st h hl hz hm
    have hm2 : ((joinR rows (f.rul inp st)).length : Int) * prodI (q.folds aMany) ≤ 1000000 := by
      have hm : (rows.length : Int) * prodI (f.fold aMany :: q.folds aMany) ≤ 1000000 := hm
      rw [prod_cons, ← Int.mul_assoc] at hm
      rw [join_len, Int.natCast_mul]
      have h0 := rul_len inp f st
      have h2 := manys_pos q h.2.2
      exact Int.le_trans (Int.mul_le_mul_of_nonneg_right (Int.mul_le_mul_of_nonneg_left h0 (by omega)) (by omega)) hm
    simp only [asgD, setAll, List.set_cons_succ, List.set_cons_zero]
    rw [lrulRow_eq]
    have isT : ∀ (S : Store) (Q : Bool → Store → Prop) (E : Ex), Wx (isinstD [.int] f.d) S Q E = Q false S := fun S Q E => by rw [ed]; rfl
    simp only [Wx_var, Wx_con, Wx_glob, Wx_bin, Wx_neg, Wx_negI, Wx_not, Wx_cmp, Wx_and, Wx_or, Wx_ite, Wx_tup, Wx_lst, Wx_idx, Wx_slice, Wx_call, Wx_bi, Wx_isi, Wx_meth, Wx_nil, Wx_cons, Wx_onone, Wx_osome, Wx_cnone, Wx_csome, Wx_add, Wx_addT, Wx_sub, Wx_mul, Wx_fdiv, Wx_mod, Wx_tbl, Wx_tint, Wx_eqI, Wx_eqS, Wx_eqB, Wx_neI, Wx_ltI, Wx_leI, Wx_gtI, Wx_geI, Wx_idxT, atD_0, atD_1, atD_2, Wx_abs, Wx_intI, Wx_intB, Wx_cutT, Wx_srcT, Wx_range, Wx_ret, Wx_cond, List.getElem?_cons_zero, List.getElem?_cons_succ, List.length_cons, List.length_nil, List.set_cons_zero, List.set_cons_succ, decide_eq_true_eq, bne_iff_ne, Wx_turn, wipeD, Ws_nil, Ws_cons, Ws_asg, Ws_par, Ws_expr, Ws_ret, Ws_retn, Ws_pass, Ws_ite, asgD, setAll, isT, Bool.false_eq_true, if_false]
    refine ⟨by decide, ?_⟩
    refine ih f List.mem_cons_self st S _ _ hs (by omega) (by omega) fun S1 r1 p1 b1 w1 => ?_
    simp only [Wx_var, Wx_con, Wx_glob, Wx_bin, Wx_neg, Wx_negI, Wx_not, Wx_cmp, Wx_and, Wx_or, Wx_ite, Wx_tup, Wx_lst, Wx_idx, Wx_slice, Wx_call, Wx_bi, Wx_isi, Wx_meth, Wx_nil, Wx_cons, Wx_onone, Wx_osome, Wx_cnone, Wx_csome, Wx_add, Wx_addT, Wx_sub, Wx_mul, Wx_fdiv, Wx_mod, Wx_tbl, Wx_tint, Wx_eqI, Wx_eqS, Wx_eqB, Wx_neI, Wx_ltI, Wx_leI, Wx_gtI, Wx_geI, Wx_idxT, atD_0, atD_1, atD_2, Wx_abs, Wx_intI, Wx_intB, Wx_cutT, Wx_srcT, Wx_range, Wx_ret, Wx_cond, List.getElem?_cons_zero, List.getElem?_cons_succ, List.length_cons, List.length_nil, List.set_cons_zero, List.set_cons_succ, decide_eq_true_eq, bne_iff_ne, Wx_turn, wipeD, Ws_nil, Ws_cons, Ws_asg, Ws_par, Ws_expr, Ws_ret, Ws_retn, Ws_pass, Ws_ite, asgD, setAll, Ws_for]
    refine ⟨by decide, ?_⟩
    have hr1 := get_app (p1.trans (List.prefix_append _ [Ob.lst []])) hr
    rw [Wx_srcL (seq_lst hr1)]
    have lr : r < S1.length := (List.getElem?_eq_some_iff.mp (get_app p1 hr)).1
    have lS := p1.length_le
    have fr2 : (f.rul inp st).length ≤ line := by
      have h0 := rul_len inp f st
      have h5 := hM f List.mem_cons_self
      unfold line
      omega
    refine lrul_long (k := r) (b0 := b0) (r := r1) (b := f.rul inp st) (by rw [List.length_append]; omega) (by rw [List.length_append]; omega) fr2 rows [] S1.length _ _ _ (List.prefix_refl _) (by omega) (get_app (List.prefix_append _ _) w1) get_last (by rw [List.length_nil, Nat.zero_add]; exact fits.1) fits.2.1 fun S2 r2 o13 o14 p2 b2 w2 => ?_
    rw [List.nil_append] at w2
    simp only [Wx_var, Wx_con, Wx_glob, Wx_bin, Wx_neg, Wx_negI, Wx_not, Wx_cmp, Wx_and, Wx_or, Wx_ite, Wx_tup, Wx_lst, Wx_idx, Wx_slice, Wx_call, Wx_bi, Wx_isi, Wx_meth, Wx_nil, Wx_cons, Wx_onone, Wx_osome, Wx_cnone, Wx_csome, Wx_add, Wx_addT, Wx_sub, Wx_mul, Wx_fdiv, Wx_mod, Wx_tbl, Wx_tint, Wx_eqI, Wx_eqS, Wx_eqB, Wx_neI, Wx_ltI, Wx_leI, Wx_gtI, Wx_geI, Wx_idxT, atD_0, atD_1, atD_2, Wx_abs, Wx_intI, Wx_intB, Wx_cutT, Wx_srcT, Wx_range, Wx_ret, Wx_cond, List.getElem?_cons_zero, List.getElem?_cons_succ, List.length_cons, List.length_nil, List.set_cons_zero, List.set_cons_succ, decide_eq_true_eq, bne_iff_ne, Wx_turn, wipeD, Ws_nil, Ws_cons, Ws_asg, Ws_par, Ws_expr, Ws_ret, Ws_retn, Ws_pass, Ws_ite, asgD, setAll]
    refine w_mult w (f.val inp st).1 h.1 hv (by omega) ?_
    refine w_plus a _ ha (bd_mul h.1 hv) (by omega) ?_
    rw [← lrulRow_eq]
    have pp : S <+: S2 := (p1.trans (List.prefix_append _ _)).trans p2
    refine lrul_rows hi q _ (k + (3 + 50 * f.sz) + 1) (joinR rows (f.rul inp st)) (L + f.sz) r2 _ S2 _ _ _ _ _ _ _ (fun g hg => ih g (List.mem_cons_of_mem _ hg)) h.2.2 (bd_add ha (bd_mul h.1 hv)) (by omega) hs2 (by omega) (by omega) (by have := pp.length_le; omega) b2 w2 (fun x hx => ?_) (by omega) hm2 (fun g hg => hM g (List.mem_cons_of_mem _ hg)) fun S' r' o8 o9 o10 o11 o12 o13 o14 p3 b3 w3 => hN S' r' o8 o9 o10 o11 o12 o13 o14 (pp.trans p3) b3 w3
    unfold joinR at hx
    obtain ⟨p, hp, hx⟩ := List.mem_flatMap.mp hx
    obtain ⟨y, hy, rfl⟩ := List.mem_map.mp hx
    have g1 := hl p hp
    have g2 := rul_row inp f st y hy
    rw [List.length_append]
    omega
end
end K03

set_option Elab.async false
set_option linter.all false
set_option maxRecDepth 100000
set_option maxHeartbeats 400000
set_option autoImplicit false
/-! k03, the plain law: the law's own ruling, held, size, tops' parts. -/
namespace K03
open Ev
section
variable {S : Store} {Q : D → Store → Prop} {E : Ex}
/-- a list of one row, or none -/
theorem w_piece {n x y : Nat} {δ : Env} {a b : Rat} {i : Int} {j k : Nat} (hx : δ[x]? = some (some (fr a))) (hy : δ[y]? = some (some (fr b))) (ha : Bd j a) (hb : Bd k b) (hk : j + k < 100000000) (h : Q (.ref S.length) (S ++ [Ob.lst ((if a < b then [] else [[i]] : List Row1).map rowD)])) :
    Wx (denE (run P (n + 1)) (.ite (.not (.call 28 (.cons (.var x) (.cons (.var y) .nil)))) (.lst (.cons (.tup (.cons (.con (.int i)) .nil)) .nil)) (.lst .nil)) δ) S Q E := by
  simp only [Wx_ite, Wx_not, Wx_call, Wx_cons, Wx_nil, Wx_var, hx, hy]
  refine w_below a b ha hb hk ?_
  simp only [Wx_var, Wx_con, Wx_glob, Wx_bin, Wx_neg, Wx_negI, Wx_not, Wx_cmp, Wx_and, Wx_or, Wx_ite, Wx_tup, Wx_lst, Wx_idx, Wx_slice, Wx_call, Wx_bi, Wx_isi, Wx_meth, Wx_nil, Wx_cons, Wx_onone, Wx_osome, Wx_cnone, Wx_csome, Wx_add, Wx_addT, Wx_sub, Wx_mul, Wx_fdiv, Wx_mod, Wx_tbl, Wx_tint, Wx_eqI, Wx_eqS, Wx_eqB, Wx_neI, Wx_ltI, Wx_leI, Wx_gtI, Wx_geI, Wx_idxT, atD_0, atD_1, atD_2, Wx_abs, Wx_intI, Wx_intB, Wx_cutT, Wx_srcT, Wx_range, Wx_ret, Wx_cond, List.getElem?_cons_zero, List.getElem?_cons_succ, List.length_cons, List.length_nil, List.set_cons_zero, List.set_cons_succ, decide_eq_true_eq, bne_iff_ne, Wx_turn, wipeD]
  by_cases c : a < b
  · rw [if_pos c] at h
    rw [decide_eq_true c]
    simp only [Wx_var, Wx_con, Wx_glob, Wx_bin, Wx_neg, Wx_negI, Wx_not, Wx_cmp, Wx_and, Wx_or, Wx_ite, Wx_tup, Wx_lst, Wx_idx, Wx_slice, Wx_call, Wx_bi, Wx_isi, Wx_meth, Wx_nil, Wx_cons, Wx_onone, Wx_osome, Wx_cnone, Wx_csome, Wx_add, Wx_addT, Wx_sub, Wx_mul, Wx_fdiv, Wx_mod, Wx_tbl, Wx_tint, Wx_eqI, Wx_eqS, Wx_eqB, Wx_neI, Wx_ltI, Wx_leI, Wx_gtI, Wx_geI, Wx_idxT, atD_0, atD_1, atD_2, Wx_abs, Wx_intI, Wx_intB, Wx_cutT, Wx_srcT, Wx_range, Wx_ret, Wx_cond, List.getElem?_cons_zero, List.getElem?_cons_succ, List.length_cons, List.length_nil, List.set_cons_zero, List.set_cons_succ, decide_eq_true_eq, bne_iff_ne, Wx_turn, wipeD, Bool.not_true, Bool.false_eq_true, if_false]
    exact ⟨by decide, h⟩
  · rw [if_neg c] at h
    rw [decide_eq_false c]
    simp only [Wx_var, Wx_con, Wx_glob, Wx_bin, Wx_neg, Wx_negI, Wx_not, Wx_cmp, Wx_and, Wx_or, Wx_ite, Wx_tup, Wx_lst, Wx_idx, Wx_slice, Wx_call, Wx_bi, Wx_isi, Wx_meth, Wx_nil, Wx_cons, Wx_onone, Wx_osome, Wx_cnone, Wx_csome, Wx_add, Wx_addT, Wx_sub, Wx_mul, Wx_fdiv, Wx_mod, Wx_tbl, Wx_tint, Wx_eqI, Wx_eqS, Wx_eqB, Wx_neI, Wx_ltI, Wx_leI, Wx_gtI, Wx_geI, Wx_idxT, atD_0, atD_1, atD_2, Wx_abs, Wx_intI, Wx_intB, Wx_cutT, Wx_srcT, Wx_range, Wx_ret, Wx_cond, List.getElem?_cons_zero, List.getElem?_cons_succ, List.length_cons, List.length_nil, List.set_cons_zero, List.set_cons_succ, decide_eq_true_eq, bne_iff_ne, Wx_turn, wipeD, Bool.not_false, if_true]
    exact ⟨(by decide : (1 : Nat) ≤ line), (by decide : (1 : Nat) ≤ line), h⟩
theorem w_adds {a b : List Row1} {q r : Nat} {Q : D → Store → Prop} {E : Ex} (ha : RowsAt S q a) (hb : RowsAt S r b) (hl : a.length + b.length ≤ line) (h : RowsAt (S ++ [Ob.lst ((a ++ b).map rowD)]) S.length (a ++ b) → Q (.ref S.length) (S ++ [Ob.lst ((a ++ b).map rowD)])) : Wx (binD .add (.ref q) (.ref r)) S Q E := by
  rw [Wx_addL ha hb]
  refine ⟨by rw [List.length_map, List.length_map]; exact hl, ?_⟩
  rw [← List.map_append]
  exact h get_last
theorem w_pieceA {n r : Nat} {δ : Env} {v lo hi : Rat} {rows : List Row1} {j k : Nat} (hx : δ[10]? = some (some (fr v))) (hy : δ[15]? = some (some (fr lo))) (hh : δ[16]? = some (some (fr hi))) (hr : δ[11]? = some (some (.ref r))) (hp : 13 < δ.length) (hR : RowsAt S r rows) (hz : rows.length ≤ line) (hl : ∀ x ∈ rows, x.length < line) (ha : Bd j v) (hb : Bd k lo) (hc : Bd k hi) (hk : j + k < 100000000) (h : Q (.ref S.length) (S ++ [Ob.lst ((if ¬ v < lo ∧ ¬ hi < v then on0 0 rows else [] : List Row1).map rowD)])) :
    Wx (denE (run P (n + 1)) (.ite (.and (.not (.call 28 (.cons (.var 10) (.cons (.var 15) .nil)))) (.not (.call 28 (.cons (.var 16) (.cons (.var 10) .nil))))) (.comp [("one", 13)] (.name 13) .seq (.cons (.var 11) .nil) .none (.bin .add (.tup (.cons (.con (.int 0)) .nil)) (.var 13))) (.lst .nil)) δ) S Q E := by
  simp only [Wx_ite, Wx_and, Wx_not, Wx_call, Wx_cons, Wx_nil, Wx_var, hx, hy, hh]
  refine w_below v lo ha hb hk ?_
  simp only [Wx_tbl]
  by_cases c : v < lo
  · rw [if_neg (fun z => z.1 c)] at h
    rw [decide_eq_true c]
    simp only [Wx_var, Wx_con, Wx_glob, Wx_bin, Wx_neg, Wx_negI, Wx_not, Wx_cmp, Wx_and, Wx_or, Wx_ite, Wx_tup, Wx_lst, Wx_idx, Wx_slice, Wx_call, Wx_bi, Wx_isi, Wx_meth, Wx_nil, Wx_cons, Wx_onone, Wx_osome, Wx_cnone, Wx_csome, Wx_add, Wx_addT, Wx_sub, Wx_mul, Wx_fdiv, Wx_mod, Wx_tbl, Wx_tint, Wx_eqI, Wx_eqS, Wx_eqB, Wx_neI, Wx_ltI, Wx_leI, Wx_gtI, Wx_geI, Wx_idxT, atD_0, atD_1, atD_2, Wx_abs, Wx_intI, Wx_intB, Wx_cutT, Wx_srcT, Wx_range, Wx_ret, Wx_cond, List.getElem?_cons_zero, List.getElem?_cons_succ, List.length_cons, List.length_nil, List.set_cons_zero, List.set_cons_succ, decide_eq_true_eq, bne_iff_ne, Wx_turn, wipeD, Bool.not_true, Bool.false_eq_true, if_false]
    exact ⟨by decide, h⟩
  · rw [decide_eq_false c]
    simp only [Wx_tbl, Bool.not_false, if_true]
    refine w_below hi v hc ha (by omega) ?_
    simp only [Wx_tbl]
    by_cases d : hi < v
    · rw [if_neg (fun z => z.2 d)] at h
      rw [decide_eq_true d]
      simp only [Wx_var, Wx_con, Wx_glob, Wx_bin, Wx_neg, Wx_negI, Wx_not, Wx_cmp, Wx_and, Wx_or, Wx_ite, Wx_tup, Wx_lst, Wx_idx, Wx_slice, Wx_call, Wx_bi, Wx_isi, Wx_meth, Wx_nil, Wx_cons, Wx_onone, Wx_osome, Wx_cnone, Wx_csome, Wx_add, Wx_addT, Wx_sub, Wx_mul, Wx_fdiv, Wx_mod, Wx_tbl, Wx_tint, Wx_eqI, Wx_eqS, Wx_eqB, Wx_neI, Wx_ltI, Wx_leI, Wx_gtI, Wx_geI, Wx_idxT, atD_0, atD_1, atD_2, Wx_abs, Wx_intI, Wx_intB, Wx_cutT, Wx_srcT, Wx_range, Wx_ret, Wx_cond, List.getElem?_cons_zero, List.getElem?_cons_succ, List.length_cons, List.length_nil, List.set_cons_zero, List.set_cons_succ, decide_eq_true_eq, bne_iff_ne, Wx_turn, wipeD, Bool.not_true, Bool.false_eq_true, if_false]
      exact ⟨by decide, h⟩
    · rw [if_pos ⟨c, d⟩] at h
      rw [decide_eq_false d]
      simp only [Wx_tbl, Bool.not_false, if_true]
      exact on_comp (q := 11) (r := r) (rows := rows) (i := 0) hr hR hp hz hl (fun x Q hq => hq) h
theorem w_pieceS {C : Calls} {r : Nat} {δ : Env} {v : Rat} {rows : List Row1} {i : Int} {o : COp} {c : Bool} (ho : ∀ (Q : Bool → Store → Prop), Q c S → Wx (cmpD o (.int v.num) (.int 0)) S Q E) (hx : δ[10]? = some (some (fr v))) (hr : δ[11]? = some (some (.ref r))) (hp : 13 < δ.length) (hR : RowsAt S r rows) (hz : rows.length ≤ line) (hl : ∀ x ∈ rows, x.length < line) (h : Q (.ref S.length) (S ++ [Ob.lst ((if c then on0 i rows else [] : List Row1).map rowD)])) :
    Wx (denE C (.ite (.cmp o (.idx (.var 10) (.con (.int 0))) (.con (.int 0))) (.comp [("one", 13)] (.name 13) .seq (.cons (.var 11) .nil) .none (.bin .add (.tup (.cons (.con (.int i)) .nil)) (.var 13))) (.lst .nil)) δ) S Q E := by
  simp only [Wx_ite, Wx_cmp, Wx_idx, Wx_con, Wx_var, hx, Wx_idxT, atD_0]
  refine ho _ ?_
  simp only [Wx_tbl]
  cases c with
  | true =>
    rw [if_pos rfl] at h ⊢
    exact on_comp (q := 11) (r := r) (rows := rows) (i := i) hr hR hp hz hl (fun x Q hq => hq) h
  | false =>
    rw [if_neg Bool.false_ne_true] at h ⊢
    simp only [Wx_var, Wx_con, Wx_glob, Wx_bin, Wx_neg, Wx_negI, Wx_not, Wx_cmp, Wx_and, Wx_or, Wx_ite, Wx_tup, Wx_lst, Wx_idx, Wx_slice, Wx_call, Wx_bi, Wx_isi, Wx_meth, Wx_nil, Wx_cons, Wx_onone, Wx_osome, Wx_cnone, Wx_csome, Wx_add, Wx_addT, Wx_sub, Wx_mul, Wx_fdiv, Wx_mod, Wx_tbl, Wx_tint, Wx_eqI, Wx_eqS, Wx_eqB, Wx_neI, Wx_ltI, Wx_leI, Wx_gtI, Wx_geI, Wx_idxT, atD_0, atD_1, atD_2, Wx_abs, Wx_intI, Wx_intB, Wx_cutT, Wx_srcT, Wx_range, Wx_ret, Wx_cond, List.getElem?_cons_zero, List.getElem?_cons_succ, List.length_cons, List.length_nil, List.set_cons_zero, List.set_cons_succ, decide_eq_true_eq, bne_iff_ne, Wx_turn, wipeD]
    exact ⟨by decide, h⟩
end
theorem w_lrul_held {n s : Nat} {inp : List Rat} (hi : In s inp) {f : F} (hz : f.sz ≤ 300000) (hok : f.ok s) (hm : f.fold aMany ≤ 1000000) (ih : LRulAt (n + 3) inp f) : LRulAt (n + 4) inp (.held f) := by
  intro st S Q E hs h1 h2 h
  obtain ⟨cs, bs⟩ := st
  cases bs with
  | nil => exact absurd h2 (Nat.not_succ_le_zero _)
  | cons p bs =>
    have hs' : StOk (cs, bs) := ⟨hs.1, fun q hq => hs.2 q (List.mem_cons_of_mem _ hq)⟩
    have hp := hs.2 p List.mem_cons_self
    have hdef : (F.held f).d = .tup [.str "held", f.d] := rfl
    have hv := val_bd hi f (cs, bs) hok hs'
    have hrl := rul_len inp f (cs, bs)
    rw [r__law_ruling, Wx_end]
    unfold b__law_ruling
    rw [hdef]
    rw [Ws_cons, Ws_ite]
    simp only [Wx_var, Wx_con, Wx_glob, Wx_bin, Wx_neg, Wx_negI, Wx_not, Wx_cmp, Wx_and, Wx_or, Wx_ite, Wx_tup, Wx_lst, Wx_idx, Wx_slice, Wx_call, Wx_bi, Wx_isi, Wx_meth, Wx_nil, Wx_cons, Wx_onone, Wx_osome, Wx_cnone, Wx_csome, Wx_add, Wx_addT, Wx_sub, Wx_mul, Wx_fdiv, Wx_mod, Wx_tbl, Wx_tint, Wx_eqI, Wx_eqS, Wx_eqB, Wx_neI, Wx_ltI, Wx_leI, Wx_gtI, Wx_geI, Wx_idxT, atD_0, atD_1, atD_2, Wx_abs, Wx_intI, Wx_intB, Wx_cutT, Wx_srcT, Wx_range, Wx_ret, Wx_cond, List.getElem?_cons_zero, List.getElem?_cons_succ, List.length_cons, List.length_nil, List.set_cons_zero, List.set_cons_succ, decide_eq_true_eq, bne_iff_ne, Wx_turn, wipeD, t11, Bool.false_eq_true, if_false, Ws_nil]
    rw [Ws_cons, Ws_ite]
    simp only [Wx_var, Wx_con, Wx_glob, Wx_bin, Wx_neg, Wx_negI, Wx_not, Wx_cmp, Wx_and, Wx_or, Wx_ite, Wx_tup, Wx_lst, Wx_idx, Wx_slice, Wx_call, Wx_bi, Wx_isi, Wx_meth, Wx_nil, Wx_cons, Wx_onone, Wx_osome, Wx_cnone, Wx_csome, Wx_add, Wx_addT, Wx_sub, Wx_mul, Wx_fdiv, Wx_mod, Wx_tbl, Wx_tint, Wx_eqI, Wx_eqS, Wx_eqB, Wx_neI, Wx_ltI, Wx_leI, Wx_gtI, Wx_geI, Wx_idxT, atD_0, atD_1, atD_2, Wx_abs, Wx_intI, Wx_intB, Wx_cutT, Wx_srcT, Wx_range, Wx_ret, Wx_cond, List.getElem?_cons_zero, List.getElem?_cons_succ, List.length_cons, List.length_nil, List.set_cons_zero, List.set_cons_succ, decide_eq_true_eq, bne_iff_ne, Wx_turn, wipeD, t15, if_true, List.map_cons]
    rw [Ws_cons, Ws_asg]
    simp only [Wx_var, Wx_con, Wx_glob, Wx_bin, Wx_neg, Wx_negI, Wx_not, Wx_cmp, Wx_and, Wx_or, Wx_ite, Wx_tup, Wx_lst, Wx_idx, Wx_slice, Wx_call, Wx_bi, Wx_isi, Wx_meth, Wx_nil, Wx_cons, Wx_onone, Wx_osome, Wx_cnone, Wx_csome, Wx_add, Wx_addT, Wx_sub, Wx_mul, Wx_fdiv, Wx_mod, Wx_tbl, Wx_tint, Wx_eqI, Wx_eqS, Wx_eqB, Wx_neI, Wx_ltI, Wx_leI, Wx_gtI, Wx_geI, Wx_idxT, atD_0, atD_1, atD_2, Wx_abs, Wx_intI, Wx_intB, Wx_cutT, Wx_srcT, Wx_range, Wx_ret, Wx_cond, List.getElem?_cons_zero, List.getElem?_cons_succ, List.length_cons, List.length_nil, List.set_cons_zero, List.set_cons_succ, decide_eq_true_eq, bne_iff_ne, Wx_turn, wipeD, asgD, setAll, List.map_cons]
    rw [Ws_cons, Ws_asg]
    simp only [Wx_var, Wx_con, Wx_glob, Wx_bin, Wx_neg, Wx_negI, Wx_not, Wx_cmp, Wx_and, Wx_or, Wx_ite, Wx_tup, Wx_lst, Wx_idx, Wx_slice, Wx_call, Wx_bi, Wx_isi, Wx_meth, Wx_nil, Wx_cons, Wx_onone, Wx_osome, Wx_cnone, Wx_csome, Wx_add, Wx_addT, Wx_sub, Wx_mul, Wx_fdiv, Wx_mod, Wx_tbl, Wx_tint, Wx_eqI, Wx_eqS, Wx_eqB, Wx_neI, Wx_ltI, Wx_leI, Wx_gtI, Wx_geI, Wx_idxT, atD_0, atD_1, atD_2, Wx_abs, Wx_intI, Wx_intB, Wx_cutT, Wx_srcT, Wx_range, Wx_ret, Wx_cond, List.getElem?_cons_zero, List.getElem?_cons_succ, List.length_cons, List.length_nil, List.set_cons_zero, List.set_cons_succ, decide_eq_true_eq, bne_iff_ne, Wx_turn, wipeD, asgD, setAll, List.map_cons]
    rw [cut1]
    refine ih (cs, bs) S _ _ hs' h1 (Nat.le_of_succ_le_succ h2) fun S1 r p1 b1 w1 => ?_
    simp only [setAll, List.set_cons_succ, List.set_cons_zero]
    have hrow : ∀ x ∈ f.rul inp (cs, bs), x.length < line := fun x hx => by
      have := rul_row inp f (cs, bs) x hx
      unfold line
      omega
    have hlen : (f.rul inp (cs, bs)).length ≤ 1000000 := by omega
    rw [Ws_cons, Ws_asg]
    refine w_pieceA (n := n + 2) (r := r) rfl rfl rfl rfl (by simp) w1 (by unfold line; omega) hrow hv hp.1 hp.2.1 (by omega) ?_
    simp only [asgD, List.set_cons_succ, List.set_cons_zero]
    have al : (if ¬ (f.val inp (cs, bs)).1 < p.1 ∧ ¬ p.2 < (f.val inp (cs, bs)).1 then on0 0 (f.rul inp (cs, bs)) else [] : List Row1).length ≤ 1000000 := by
      split
      · rw [on0_len]
        exact hlen
      · exact Nat.zero_le _
    generalize hA : (if ¬ (f.val inp (cs, bs)).1 < p.1 ∧ ¬ p.2 < (f.val inp (cs, bs)).1 then on0 0 (f.rul inp (cs, bs)) else [] : List Row1) = A at al ⊢
    have gA : RowsAt (S1 ++ [Ob.lst (A.map rowD)]) S1.length A := get_last
    generalize eS2 : S1 ++ [Ob.lst (A.map rowD)] = S2 at gA ⊢
    have p2 : S1 <+: S2 := by rw [← eS2]; exact List.prefix_append _ _
    rw [Ws_cons, Ws_asg, Wx_bin, Wx_bin, Wx_var]
    simp only [List.getElem?_cons_zero, List.getElem?_cons_succ]
    refine w_piece (n := n + 2) (x := 15) (y := 10) rfl rfl hp.1 hv (by omega) ?_
    generalize hB : (if p.1 < (f.val inp (cs, bs)).1 then [] else [[1]] : List Row1) = B
    have lB : B.length ≤ 1 := by
      rw [← hB]
      split <;> simp
    have gB : RowsAt (S2 ++ [Ob.lst (B.map rowD)]) S2.length B := get_last
    refine w_adds (get_app (List.prefix_append _ _) gA) gB (by unfold line; omega) fun gAB => ?_
    refine w_piece (n := n + 2) (x := 10) (y := 16) rfl rfl hv hp.2.1 (by omega) ?_
    generalize hC : (if (f.val inp (cs, bs)).1 < p.2 then [] else [[2]] : List Row1) = C
    have lC : C.length ≤ 1 := by
      rw [← hC]
      split <;> simp
    refine w_adds (get_app (List.prefix_append _ _) gAB) get_last (by rw [List.length_append]; unfold line; omega) fun gABC => ?_
    simp only [asgD, List.set_cons_succ, List.set_cons_zero]
    simp only [Wx_var, Wx_con, Wx_glob, Wx_bin, Wx_neg, Wx_negI, Wx_not, Wx_cmp, Wx_and, Wx_or, Wx_ite, Wx_tup, Wx_lst, Wx_idx, Wx_slice, Wx_call, Wx_bi, Wx_isi, Wx_meth, Wx_nil, Wx_cons, Wx_onone, Wx_osome, Wx_cnone, Wx_csome, Wx_add, Wx_addT, Wx_sub, Wx_mul, Wx_fdiv, Wx_mod, Wx_tbl, Wx_tint, Wx_eqI, Wx_eqS, Wx_eqB, Wx_neI, Wx_ltI, Wx_leI, Wx_gtI, Wx_geI, Wx_idxT, atD_0, atD_1, atD_2, Wx_abs, Wx_intI, Wx_intB, Wx_cutT, Wx_srcT, Wx_range, Wx_ret, Wx_cond, List.getElem?_cons_zero, List.getElem?_cons_succ, List.length_cons, List.length_nil, List.set_cons_zero, List.set_cons_succ, decide_eq_true_eq, bne_iff_ne, Wx_turn, wipeD, Ws_nil, Ws_cons, Ws_asg, Ws_par, Ws_expr, Ws_ret, Ws_retn, Ws_pass, Ws_ite, asgD, setAll]
    have q : (F.held f).rul inp (cs, p :: bs) = A ++ B ++ C := by
      rw [← hA, ← hB, ← hC]
      rfl
    have q2 : ((F.held f).val inp (cs, p :: bs)).1 = clamp p (f.val inp (cs, bs)).1 := rfl
    rw [q2] at h
    unfold clamp at h
    have pp : S <+: ((S2 ++ [Ob.lst (B.map rowD)]) ++ [Ob.lst ((A ++ B).map rowD)]) ++ [Ob.lst (C.map rowD)] := (((p1.trans p2).trans (List.prefix_append _ _)).trans (List.prefix_append _ _)).trans (List.prefix_append _ _)
    have hh := h _ _ (pp.trans (List.prefix_append _ _)) pp.length_le (by rw [q]; exact gABC)
    refine w_below _ _ hv hp.1 (by omega) ?_
    simp only [Wx_var, Wx_con, Wx_glob, Wx_bin, Wx_neg, Wx_negI, Wx_not, Wx_cmp, Wx_and, Wx_or, Wx_ite, Wx_tup, Wx_lst, Wx_idx, Wx_slice, Wx_call, Wx_bi, Wx_isi, Wx_meth, Wx_nil, Wx_cons, Wx_onone, Wx_osome, Wx_cnone, Wx_csome, Wx_add, Wx_addT, Wx_sub, Wx_mul, Wx_fdiv, Wx_mod, Wx_tbl, Wx_tint, Wx_eqI, Wx_eqS, Wx_eqB, Wx_neI, Wx_ltI, Wx_leI, Wx_gtI, Wx_geI, Wx_idxT, atD_0, atD_1, atD_2, Wx_abs, Wx_intI, Wx_intB, Wx_cutT, Wx_srcT, Wx_range, Wx_ret, Wx_cond, List.getElem?_cons_zero, List.getElem?_cons_succ, List.length_cons, List.length_nil, List.set_cons_zero, List.set_cons_succ, decide_eq_true_eq, bne_iff_ne, Wx_turn, wipeD, Ws_nil, Ws_cons, Ws_asg, Ws_par, Ws_expr, Ws_ret, Ws_retn, Ws_pass, Ws_ite, asgD, setAll, decide_eq_true_eq]
    by_cases c : (f.val inp (cs, bs)).1 < p.1
    · rw [if_pos c] at hh ⊢
      exact ⟨by decide, hh⟩
    · rw [if_neg c] at hh ⊢
      refine w_below _ _ hp.2.1 hv (by omega) ?_
      simp only [Wx_var, Wx_con, Wx_glob, Wx_bin, Wx_neg, Wx_negI, Wx_not, Wx_cmp, Wx_and, Wx_or, Wx_ite, Wx_tup, Wx_lst, Wx_idx, Wx_slice, Wx_call, Wx_bi, Wx_isi, Wx_meth, Wx_nil, Wx_cons, Wx_onone, Wx_osome, Wx_cnone, Wx_csome, Wx_add, Wx_addT, Wx_sub, Wx_mul, Wx_fdiv, Wx_mod, Wx_tbl, Wx_tint, Wx_eqI, Wx_eqS, Wx_eqB, Wx_neI, Wx_ltI, Wx_leI, Wx_gtI, Wx_geI, Wx_idxT, atD_0, atD_1, atD_2, Wx_abs, Wx_intI, Wx_intB, Wx_cutT, Wx_srcT, Wx_range, Wx_ret, Wx_cond, List.getElem?_cons_zero, List.getElem?_cons_succ, List.length_cons, List.length_nil, List.set_cons_zero, List.set_cons_succ, decide_eq_true_eq, bne_iff_ne, Wx_turn, wipeD, Ws_nil, Ws_cons, Ws_asg, Ws_par, Ws_expr, Ws_ret, Ws_retn, Ws_pass, Ws_ite, asgD, setAll, decide_eq_true_eq]
      by_cases d : p.2 < (f.val inp (cs, bs)).1
      · rw [if_pos d] at hh ⊢
        exact ⟨by decide, hh⟩
      · rw [if_neg d] at hh ⊢
        exact ⟨by decide, hh⟩
theorem w_lrul_size {n s : Nat} {inp : List Rat} (hi : In s inp) {f : F} (hz : f.sz ≤ 300000) (hok : f.ok s) (hm : f.fold aMany ≤ 1000000) (ih : LRulAt (n + 3) inp f) : LRulAt (n + 4) inp (.size f) := by
  intro st S Q E hs h1 h2 h
  have hdef : (F.size f).d = .tup [.str "size", f.d] := rfl
  have hrl := rul_len inp f st
  rw [r__law_ruling, Wx_end]
  unfold b__law_ruling
  rw [hdef]
  rw [Ws_cons, Ws_ite]
  simp only [Wx_var, Wx_con, Wx_glob, Wx_bin, Wx_neg, Wx_negI, Wx_not, Wx_cmp, Wx_and, Wx_or, Wx_ite, Wx_tup, Wx_lst, Wx_idx, Wx_slice, Wx_call, Wx_bi, Wx_isi, Wx_meth, Wx_nil, Wx_cons, Wx_onone, Wx_osome, Wx_cnone, Wx_csome, Wx_add, Wx_addT, Wx_sub, Wx_mul, Wx_fdiv, Wx_mod, Wx_tbl, Wx_tint, Wx_eqI, Wx_eqS, Wx_eqB, Wx_neI, Wx_ltI, Wx_leI, Wx_gtI, Wx_geI, Wx_idxT, atD_0, atD_1, atD_2, Wx_abs, Wx_intI, Wx_intB, Wx_cutT, Wx_srcT, Wx_range, Wx_ret, Wx_cond, List.getElem?_cons_zero, List.getElem?_cons_succ, List.length_cons, List.length_nil, List.set_cons_zero, List.set_cons_succ, decide_eq_true_eq, bne_iff_ne, Wx_turn, wipeD, t6, Bool.false_eq_true, if_false, Ws_nil]
  rw [Ws_cons, Ws_ite]
  simp only [Wx_var, Wx_con, Wx_glob, Wx_bin, Wx_neg, Wx_negI, Wx_not, Wx_cmp, Wx_and, Wx_or, Wx_ite, Wx_tup, Wx_lst, Wx_idx, Wx_slice, Wx_call, Wx_bi, Wx_isi, Wx_meth, Wx_nil, Wx_cons, Wx_onone, Wx_osome, Wx_cnone, Wx_csome, Wx_add, Wx_addT, Wx_sub, Wx_mul, Wx_fdiv, Wx_mod, Wx_tbl, Wx_tint, Wx_eqI, Wx_eqS, Wx_eqB, Wx_neI, Wx_ltI, Wx_leI, Wx_gtI, Wx_geI, Wx_idxT, atD_0, atD_1, atD_2, Wx_abs, Wx_intI, Wx_intB, Wx_cutT, Wx_srcT, Wx_range, Wx_ret, Wx_cond, List.getElem?_cons_zero, List.getElem?_cons_succ, List.length_cons, List.length_nil, List.set_cons_zero, List.set_cons_succ, decide_eq_true_eq, bne_iff_ne, Wx_turn, wipeD, t10, Bool.false_eq_true, if_false, Ws_nil]
  rw [Ws_cons, Ws_ite]
  simp only [Wx_var, Wx_con, Wx_glob, Wx_bin, Wx_neg, Wx_negI, Wx_not, Wx_cmp, Wx_and, Wx_or, Wx_ite, Wx_tup, Wx_lst, Wx_idx, Wx_slice, Wx_call, Wx_bi, Wx_isi, Wx_meth, Wx_nil, Wx_cons, Wx_onone, Wx_osome, Wx_cnone, Wx_csome, Wx_add, Wx_addT, Wx_sub, Wx_mul, Wx_fdiv, Wx_mod, Wx_tbl, Wx_tint, Wx_eqI, Wx_eqS, Wx_eqB, Wx_neI, Wx_ltI, Wx_leI, Wx_gtI, Wx_geI, Wx_idxT, atD_0, atD_1, atD_2, Wx_abs, Wx_intI, Wx_intB, Wx_cutT, Wx_srcT, Wx_range, Wx_ret, Wx_cond, List.getElem?_cons_zero, List.getElem?_cons_succ, List.length_cons, List.length_nil, List.set_cons_zero, List.set_cons_succ, decide_eq_true_eq, bne_iff_ne, Wx_turn, wipeD, t9, if_true]
  rw [Ws_cons, Ws_asg]
  simp only [Wx_var, Wx_con, Wx_glob, Wx_bin, Wx_neg, Wx_negI, Wx_not, Wx_cmp, Wx_and, Wx_or, Wx_ite, Wx_tup, Wx_lst, Wx_idx, Wx_slice, Wx_call, Wx_bi, Wx_isi, Wx_meth, Wx_nil, Wx_cons, Wx_onone, Wx_osome, Wx_cnone, Wx_csome, Wx_add, Wx_addT, Wx_sub, Wx_mul, Wx_fdiv, Wx_mod, Wx_tbl, Wx_tint, Wx_eqI, Wx_eqS, Wx_eqB, Wx_neI, Wx_ltI, Wx_leI, Wx_gtI, Wx_geI, Wx_idxT, atD_0, atD_1, atD_2, Wx_abs, Wx_intI, Wx_intB, Wx_cutT, Wx_srcT, Wx_range, Wx_ret, Wx_cond, List.getElem?_cons_zero, List.getElem?_cons_succ, List.length_cons, List.length_nil, List.set_cons_zero, List.set_cons_succ, decide_eq_true_eq, bne_iff_ne, Wx_turn, wipeD, asgD, setAll]
  refine ih st S _ _ hs h1 h2 fun S1 r p1 b1 w1 => ?_
  simp only [setAll, List.set_cons_succ, List.set_cons_zero]
  have hrow : ∀ x ∈ f.rul inp st, x.length < line := fun x hx => by
    have := rul_row inp f st x hx
    unfold line
    omega
  rw [Ws_cons, Ws_asg, Wx_bin]
  have nn := num_neg (q := (f.val inp st).1)
  have np := num_pos (q := (f.val inp st).1)
  refine w_pieceS (c := decide ((f.val inp st).1.num ≥ 0)) (r := r) (fun Q hq => hq) rfl rfl (by simp) w1 (by unfold line; omega) hrow ?_
  have w2 : RowsAt (S1 ++ [Ob.lst ((if decide ((f.val inp st).1.num ≥ 0) = true then on0 0 (f.rul inp st) else [] : List Row1).map rowD)]) r (f.rul inp st) := get_app (List.prefix_append _ _) w1
  refine w_pieceS (c := decide ((f.val inp st).1.num ≤ 0)) (r := r) (fun Q hq => hq) rfl rfl (by simp) w2 (by unfold line; omega) hrow ?_
  have sl := size_len (f.val inp st).1 (f.rul inp st)
  have e : (if decide ((f.val inp st).1.num ≥ 0) = true then on0 0 (f.rul inp st) else [] : List Row1) ++ (if decide ((f.val inp st).1.num ≤ 0) = true then on0 1 (f.rul inp st) else [] : List Row1) = (F.size f).rul inp st := by
    show _ = sizeR (f.val inp st).1 (f.rul inp st)
    unfold sizeR
    congr 1
    · by_cases c : (f.val inp st).1 < 0
      · rw [if_pos c, if_neg (by have := nn.mp c; rw [decide_eq_true_eq]; omega)]
      · rw [if_neg c, if_pos (by have := mt nn.mpr c; rw [decide_eq_true_eq]; omega)]
    · by_cases c : 0 < (f.val inp st).1
      · rw [if_pos c, if_neg (by have := np.mp c; rw [decide_eq_true_eq]; omega)]
      · rw [if_neg c, if_pos (by have := mt np.mpr c; rw [decide_eq_true_eq]; omega)]
  generalize (if decide ((f.val inp st).1.num ≥ 0) = true then on0 0 (f.rul inp st) else [] : List Row1) = A at e w2 ⊢
  generalize (if decide ((f.val inp st).1.num ≤ 0) = true then on0 1 (f.rul inp st) else [] : List Row1) = B at e ⊢
  have e2 : (F.size f).rul inp st = sizeR (f.val inp st).1 (f.rul inp st) := rfl
  refine w_adds (get_app (List.prefix_append _ _) get_last) get_last (by rw [← List.length_append, e, e2]; unfold line; omega) fun g => ?_
  rw [e] at g ⊢
  simp only [asgD, List.set_cons_succ, List.set_cons_zero]
  simp only [Wx_var, Wx_con, Wx_glob, Wx_bin, Wx_neg, Wx_negI, Wx_not, Wx_cmp, Wx_and, Wx_or, Wx_ite, Wx_tup, Wx_lst, Wx_idx, Wx_slice, Wx_call, Wx_bi, Wx_isi, Wx_meth, Wx_nil, Wx_cons, Wx_onone, Wx_osome, Wx_cnone, Wx_csome, Wx_add, Wx_addT, Wx_sub, Wx_mul, Wx_fdiv, Wx_mod, Wx_tbl, Wx_tint, Wx_eqI, Wx_eqS, Wx_eqB, Wx_neI, Wx_ltI, Wx_leI, Wx_gtI, Wx_geI, Wx_idxT, atD_0, atD_1, atD_2, Wx_abs, Wx_intI, Wx_intB, Wx_cutT, Wx_srcT, Wx_range, Wx_ret, Wx_cond, List.getElem?_cons_zero, List.getElem?_cons_succ, List.length_cons, List.length_nil, List.set_cons_zero, List.set_cons_succ, decide_eq_true_eq, bne_iff_ne, Wx_turn, wipeD, Ws_nil, Ws_cons, Ws_asg, Ws_par, Ws_expr, Ws_ret, Ws_retn, Ws_pass, Ws_ite, asgD, setAll]
  refine w_labs _ ⟨by decide, h _ _ ?_ ?_ g⟩
  · exact ((p1.trans (List.prefix_append _ _)).trans (List.prefix_append _ _)).trans (List.prefix_append _ _)
  · exact ((p1.trans (List.prefix_append _ _)).trans (List.prefix_append _ _)).length_le
end K03

set_option Elab.async false
set_option linter.all false
set_option maxRecDepth 100000
set_option maxHeartbeats 400000
set_option autoImplicit false
/-! k03, the plain law: the law's own ruling, tops. -/
namespace K03
open Ev
def tE (x : Rat × Nat × List Row1) : D := .tup [.ref x.2.1, fr x.1]
def wless (g : Bool) (a b : Rat) : Bool := if g then decide (a < b) else decide (b < a)
def worseB (g : Bool) (T : Told) (a : Rat) : Bool := (T.map fun o => wless g a o.1).any id
def lrulTop : ISs := match b__law_ruling with
  | .cons _ (.cons _ (.cons _ (.cons _ (.cons (.for_ _ _ _ t) _)))) => t
  | _ => .nil
def lrulPlace : ISs := match b__law_ruling with
  | .cons _ (.cons _ (.cons _ (.cons _ (.cons _ (.cons _ (.cons _ (.cons (.for_ _ _ _ t) _))))))) => t
  | _ => .nil
section
variable {N : Env → Store → Prop} {Q : Fl × Env → Store → Prop}
theorem lrul_tops {n : Nat} {inp : List Rat} {S0 Sb : Store} {r : Nat} {x0 x2 x3 x4 x5 x8 x12 x13 x14 x15 x16 x18 x19 x20 x21 : Option D} (hr : Sb.length ≤ r) : ∀ (fs : Fs) (st : St) (T : Told) (S : Store) (o9 o10 o11 : Option D), (∀ f ∈ fs.list, LRulAt (n + 2) inp f) → StOk st → fs.ns ≤ st.1.length → fs.nh ≤ st.2.length → T.length + fs.list.length < line → Sb <+: S → S[r]? = some (.lst (T.map tE)) → TAt S (r + 1) T →
    (∀ S' T' o9 o10 o11, Sb <+: S' → S'[r]? = some (.lst (T'.map tE)) → TAt S' (r + 1) T' → T'.map (fun x => (x.1, x.2.2)) = T.map (fun x => (x.1, x.2.2)) ++ fs.rws inp st → N [x0, some (iD inp), x2, x3, x4, x5, some (cD (fs.vals inp st).2), some (bD (fs.vals inp st).2), x8, o9, o10, o11, x12, x13, x14, x15, x16, some (.ref r), x18, x19, x20, x21] S') →
    Ws (forD S0 [] (.name 9) (denSs (run P (n + 2)) lrulTop) fs.d [x0, some (iD inp), x2, x3, x4, x5, some (cD st), some (bD st), x8, o9, o10, o11, x12, x13, x14, x15, x16, some (.ref r), x18, x19, x20, x21]) S N Q
  | .nil, st, T, S, o9, o10, o11, ih, hs, h1, h2, hl, hb, he, ht, hN => by
    unfold Fs.d
    rw [Ws_for_nil]
    exact ⟨keptNil, hN S T o9 o10 o11 hb he ht (List.append_nil _).symm⟩
  | .cons f r', st, T, S, o9, o10, o11, ih, hs, h1, h2, hl, hb, he, ht, hN => by
    unfold Fs.d
    rw [Ws_for_cons]
    refine ⟨keptNil, ?_⟩
    have n1 : (Fs.cons f r').ns = f.ns + r'.ns := rfl
    have n2 : (Fs.cons f r').nh = f.nh + r'.nh := rfl
    have hs2 : StOk (f.val inp st).2 := by rw [val_st]; exact hs.drop _ _
    have l1 : (f.val inp st).2.1.length = st.1.length - f.ns := by rw [val_st]; exact List.length_drop
    have l2 : (f.val inp st).2.2.length = st.2.length - f.nh := by rw [val_st]; exact List.length_drop
    have ll : (Fs.cons f r').list.length = r'.list.length + 1 := rfl
    simp only [asgD, List.set_cons_succ, List.set_cons_zero]
    unfold lrulTop b__law_ruling
    simp only [Wx_var, Wx_con, Wx_glob, Wx_bin, Wx_neg, Wx_negI, Wx_not, Wx_cmp, Wx_and, Wx_or, Wx_ite, Wx_tup, Wx_lst, Wx_idx, Wx_slice, Wx_call, Wx_bi, Wx_isi, Wx_meth, Wx_nil, Wx_cons, Wx_onone, Wx_osome, Wx_cnone, Wx_csome, Wx_add, Wx_addT, Wx_sub, Wx_mul, Wx_fdiv, Wx_mod, Wx_tbl, Wx_tint, Wx_eqI, Wx_eqS, Wx_eqB, Wx_neI, Wx_ltI, Wx_leI, Wx_gtI, Wx_geI, Wx_idxT, atD_0, atD_1, atD_2, Wx_abs, Wx_intI, Wx_intB, Wx_cutT, Wx_srcT, Wx_range, Wx_ret, Wx_cond, List.getElem?_cons_zero, List.getElem?_cons_succ, List.length_cons, List.length_nil, List.set_cons_zero, List.set_cons_succ, decide_eq_true_eq, bne_iff_ne, Wx_turn, wipeD, Ws_nil, Ws_cons, Ws_asg, Ws_par, Ws_expr, Ws_ret, Ws_retn, Ws_pass, Ws_ite, asgD, setAll]
    refine ih f List.mem_cons_self st S _ _ hs (by omega) (by omega) fun S1 q p1 b1 w1 => ?_
    simp only [Wx_var, Wx_con, Wx_glob, Wx_bin, Wx_neg, Wx_negI, Wx_not, Wx_cmp, Wx_and, Wx_or, Wx_ite, Wx_tup, Wx_lst, Wx_idx, Wx_slice, Wx_call, Wx_bi, Wx_isi, Wx_meth, Wx_nil, Wx_cons, Wx_onone, Wx_osome, Wx_cnone, Wx_csome, Wx_add, Wx_addT, Wx_sub, Wx_mul, Wx_fdiv, Wx_mod, Wx_tbl, Wx_tint, Wx_eqI, Wx_eqS, Wx_eqB, Wx_neI, Wx_ltI, Wx_leI, Wx_gtI, Wx_geI, Wx_idxT, atD_0, atD_1, atD_2, Wx_abs, Wx_intI, Wx_intB, Wx_cutT, Wx_srcT, Wx_range, Wx_ret, Wx_cond, List.getElem?_cons_zero, List.getElem?_cons_succ, List.length_cons, List.length_nil, List.set_cons_zero, List.set_cons_succ, decide_eq_true_eq, bne_iff_ne, Wx_turn, wipeD, Ws_nil, Ws_cons, Ws_asg, Ws_par, Ws_expr, Ws_ret, Ws_retn, Ws_pass, Ws_ite, asgD, setAll]
    have he1 := get_app p1 he
    have hrl := (List.getElem?_eq_some_iff.mp he).1
    rw [Wx_ref he1]
    refine ⟨by decide, ?_⟩
    rw [Wx_append he1]
    refine ⟨by rw [List.length_map]; omega, ?_⟩
    have e2 : (T.map tE ++ [.tup [.ref q, fr (f.val inp st).1]]) = (T ++ [((f.val inp st).1, q, f.rul inp st)]).map tE := by rw [List.map_append]; rfl
    rw [e2]
    have k1 : Kp r S1 (S1.set r (.lst ((T ++ [((f.val inp st).1, q, f.rul inp st)]).map tE))) := Kp.set
    refine lrul_tops hr r' _ (T ++ [((f.val inp st).1, q, f.rul inp st)]) _ _ _ _ (fun x hx => ih x (List.mem_cons_of_mem _ hx)) hs2 (by omega) (by omega) (by rw [List.length_append, List.length_singleton]; omega) (set_pre (hb.trans p1) hr) (get_set he1) ?_ fun S' T' o9 o10 o11 p2 e3 t3 m3 => hN S' T' o9 o10 o11 p2 e3 t3 ?_
    · intro x hx
      rcases List.mem_append.mp hx with hx | hx
      · have g1 := (ht x hx).1
        exact ⟨g1, k1.get (get_app p1 (ht x hx).2) (by omega)⟩
      · rw [List.mem_singleton.mp hx]
        have g1 : r + 1 ≤ q := by omega
        have g2 : q ≠ r := by omega
        exact ⟨g1, k1.get w1 g2⟩
    · rw [m3, List.map_append, List.append_assoc]
      rfl
/-! ### which are worse -/
theorem bools_map {α : Type} (f : α → Bool) : ∀ l : List α, boolsD (l.map fun x => D.bl (f x)) = some (l.map f)
  | [] => rfl
  | x :: l => by
    rw [List.map_cons, List.map_cons]
    unfold boolsD
    rw [bools_map f l]
    rfl
theorem each_wless {n K : Nat} {g : Bool} {fs0 : Fs} {y : Rat × Nat × List Row1} {S0 S : Store} {ks : List Nat} {x1 x2 x3 x4 x5 x6 x7 x8 x9 x10 x11 x12 x13 x14 x15 x16 x17 x18 x20 x21 : Option D} (hk : kept S0 S ks) (hy : Bd K y.1) (hK : K + K < 100000000) (T : Told) (hT : ∀ x ∈ T, Bd K x.1) (Q : List D → Store → Prop) (h : Q (T.map fun o => D.bl (wless g y.1 o.1)) S) :
    Wx (eachD S0 ks (turnC (.name 14) [14] [some (F.top g fs0).d, x1, x2, x3, x4, x5, x6, x7, x8, x9, x10, x11, x12, x13, x14, x15, x16, x17, x18, some (tE y), x20, x21] (denC (run P (n + 1)) .none) (denE (run P (n + 1)) (.ite (.cmp .eq (.idx (.var 0) (.con (.int 0))) (.con (.str "greatest"))) (.call 28 (.cons (.idx (.var 19) (.con (.int 1))) (.cons (.idx (.var 14) (.con (.int 1))) .nil))) (.call 28 (.cons (.idx (.var 14) (.con (.int 1))) (.cons (.idx (.var 19) (.con (.int 1))) .nil)))))) (T.map tE)) S Q NoEx := by
  have tg : ∀ {S : Store} {Q : D → Store → Prop} {E : Ex}, Wx (idxD (F.top g fs0).d (.int 0)) S Q E = Q (.str (gtag g)) S := fun {S Q E} => Wx_tag (f := F.top g fs0)
  induction T generalizing Q with
  | nil =>
    rw [List.map_nil, Wx_each_nil]
    exact ⟨hk, h⟩
  | cons x T ih =>
    rw [List.map_cons, Wx_each_cons]
    refine ⟨hk, ?_⟩
    have bx := hT x List.mem_cons_self
    have ih := fun Q h => ih (fun x hx => hT x (List.mem_cons_of_mem _ hx)) Q h
    have h : Q (D.bl (wless g y.1 x.1) :: T.map fun o => D.bl (wless g y.1 o.1)) S := h
    unfold wless at h ih
    have ex : tE x = .tup [.ref x.2.1, fr x.1] := rfl
    have ey : tE y = .tup [.ref y.2.1, fr y.1] := rfl
    rw [ex]
    simp only [Wx_var, Wx_con, Wx_glob, Wx_bin, Wx_neg, Wx_negI, Wx_not, Wx_cmp, Wx_and, Wx_or, Wx_ite, Wx_tup, Wx_lst, Wx_idx, Wx_slice, Wx_call, Wx_bi, Wx_isi, Wx_meth, Wx_nil, Wx_cons, Wx_onone, Wx_osome, Wx_cnone, Wx_csome, Wx_add, Wx_addT, Wx_sub, Wx_mul, Wx_fdiv, Wx_mod, Wx_tbl, Wx_tint, Wx_eqI, Wx_eqS, Wx_eqB, Wx_neI, Wx_ltI, Wx_leI, Wx_gtI, Wx_geI, Wx_idxT, atD_0, atD_1, atD_2, Wx_abs, Wx_intI, Wx_intB, Wx_cutT, Wx_srcT, Wx_range, Wx_ret, Wx_cond, List.getElem?_cons_zero, List.getElem?_cons_succ, List.length_cons, List.length_nil, List.set_cons_zero, List.set_cons_succ, decide_eq_true_eq, bne_iff_ne, Wx_turn, wipeD, Ws_nil, Ws_cons, Ws_asg, Ws_par, Ws_expr, Ws_ret, Ws_retn, Ws_pass, Ws_ite, asgD, setAll, tg, t19, if_true]
    cases g with
    | true =>
      rw [if_pos rfl, ey]
      simp only [Wx_var, Wx_con, Wx_glob, Wx_bin, Wx_neg, Wx_negI, Wx_not, Wx_cmp, Wx_and, Wx_or, Wx_ite, Wx_tup, Wx_lst, Wx_idx, Wx_slice, Wx_call, Wx_bi, Wx_isi, Wx_meth, Wx_nil, Wx_cons, Wx_onone, Wx_osome, Wx_cnone, Wx_csome, Wx_add, Wx_addT, Wx_sub, Wx_mul, Wx_fdiv, Wx_mod, Wx_tbl, Wx_tint, Wx_eqI, Wx_eqS, Wx_eqB, Wx_neI, Wx_ltI, Wx_leI, Wx_gtI, Wx_geI, Wx_idxT, atD_0, atD_1, atD_2, Wx_abs, Wx_intI, Wx_intB, Wx_cutT, Wx_srcT, Wx_range, Wx_ret, Wx_cond, List.getElem?_cons_zero, List.getElem?_cons_succ, List.length_cons, List.length_nil, List.set_cons_zero, List.set_cons_succ, decide_eq_true_eq, bne_iff_ne, Wx_turn, wipeD, Ws_nil, Ws_cons, Ws_asg, Ws_par, Ws_expr, Ws_ret, Ws_retn, Ws_pass, Ws_ite, asgD, setAll]
      refine w_below _ _ hy bx hK ?_
      simp only [if_true] at h ih
      rw [← ey]
      exact ih _ h
    | false =>
      rw [if_neg Bool.false_ne_true, ey]
      simp only [Wx_var, Wx_con, Wx_glob, Wx_bin, Wx_neg, Wx_negI, Wx_not, Wx_cmp, Wx_and, Wx_or, Wx_ite, Wx_tup, Wx_lst, Wx_idx, Wx_slice, Wx_call, Wx_bi, Wx_isi, Wx_meth, Wx_nil, Wx_cons, Wx_onone, Wx_osome, Wx_cnone, Wx_csome, Wx_add, Wx_addT, Wx_sub, Wx_mul, Wx_fdiv, Wx_mod, Wx_tbl, Wx_tint, Wx_eqI, Wx_eqS, Wx_eqB, Wx_neI, Wx_ltI, Wx_leI, Wx_gtI, Wx_geI, Wx_idxT, atD_0, atD_1, atD_2, Wx_abs, Wx_intI, Wx_intB, Wx_cutT, Wx_srcT, Wx_range, Wx_ret, Wx_cond, List.getElem?_cons_zero, List.getElem?_cons_succ, List.length_cons, List.length_nil, List.set_cons_zero, List.set_cons_succ, decide_eq_true_eq, bne_iff_ne, Wx_turn, wipeD, Ws_nil, Ws_cons, Ws_asg, Ws_par, Ws_expr, Ws_ret, Ws_retn, Ws_pass, Ws_ite, asgD, setAll]
      refine w_below _ _ bx hy hK ?_
      simp only [Bool.false_eq_true, if_false] at h ih
      rw [← ey]
      exact ih _ h
end
end K03

set_option Elab.async false
set_option linter.all false
set_option maxRecDepth 100000
set_option maxHeartbeats 400000
set_option autoImplicit false
/-! k03, the plain law: the law's own ruling, which parts are worse, and the places. -/
namespace K03
open Ev
def lrulWorse : IE := match b__law_ruling with
  | .cons _ (.cons _ (.cons _ (.cons _ (.cons _ (.cons (.asg _ e) _))))) => e
  | _ => .con .non
theorem lrulWorse_eq : lrulWorse = .comp [("pair", 19)] (.name 19) .seq (.cons (.var 17) .nil) .none (.bi .any (.cons (.comp [("other", 14)] (.name 14) .seq (.cons (.var 17) .nil) .none (.ite (.cmp .eq (.idx (.var 0) (.con (.int 0))) (.con (.str "greatest"))) (.call 28 (.cons (.idx (.var 19) (.con (.int 1))) (.cons (.idx (.var 14) (.con (.int 1))) .nil))) (.call 28 (.cons (.idx (.var 14) (.con (.int 1))) (.cons (.idx (.var 19) (.con (.int 1))) .nil))))) .nil)) := rfl
theorem each_worse {n K r : Nat} {g : Bool} {fs0 : Fs} {T : Told} {S0 : Store} {x1 x2 x3 x4 x5 x6 x7 x8 x9 x10 x11 x12 x13 x14 x15 x16 x18 x19 x20 x21 : Option D} (hK : K + K < 100000000) (hT : ∀ x ∈ T, Bd K x.1) (hz : T.length ≤ line) (hr : S0[r]? = some (.lst (T.map tE))) : ∀ (todo : Told) (S : Store) (Q : List D → Store → Prop), (∀ x ∈ todo, x ∈ T) → S0 <+: S → (∀ S', S <+: S' → Q (todo.map fun x => D.bl (worseB g T x.1)) S') →
    Wx (eachD S0 [r] (turnC (.name 19) [19] [some (F.top g fs0).d, x1, x2, x3, x4, x5, x6, x7, x8, x9, x10, x11, x12, x13, x14, x15, x16, some (.ref r), x18, x19, x20, x21] (denC (run P (n + 1)) .none) (denE (run P (n + 1)) (.bi .any (.cons (.comp [("other", 14)] (.name 14) .seq (.cons (.var 17) .nil) .none (.ite (.cmp .eq (.idx (.var 0) (.con (.int 0))) (.con (.str "greatest"))) (.call 28 (.cons (.idx (.var 19) (.con (.int 1))) (.cons (.idx (.var 14) (.con (.int 1))) .nil))) (.call 28 (.cons (.idx (.var 14) (.con (.int 1))) (.cons (.idx (.var 19) (.con (.int 1))) .nil))))) .nil)))) (todo.map tE)) S Q NoEx
  | [], S, Q, hm, hp, h => by
    rw [List.map_nil, Wx_each_nil]
    exact ⟨pre_kept hp rfl (List.getElem?_eq_some_iff.mp hr).1, h S (List.prefix_refl _)⟩
  | y :: todo, S, Q, hm, hp, h => by
    rw [List.map_cons, Wx_each_cons]
    refine ⟨pre_kept hp rfl (List.getElem?_eq_some_iff.mp hr).1, ?_⟩
    rw [Wx_turn]
    simp only [List.map_cons, List.map_nil, wipeD, asgD, List.set_cons_succ, List.set_cons_zero, Wx_cnone, if_true, Wx_bi, Wx_cons, Wx_nil, Wx_comp]
    rw [Wx_var]
    simp only [List.getElem?_cons_zero, List.getElem?_cons_succ]
    have hr1 := get_app hp hr
    rw [Wx_srcL (seq_lst hr1)]
    refine each_wless (K := K) kept_self (hT y (hm y List.mem_cons_self)) hK T hT _ ?_
    refine ⟨by rw [List.length_map]; exact hz, ?_⟩
    rw [Wx_any (list_lst get_last) (bools_map (fun o : Rat × Nat × List Row1 => wless g y.1 o.1) T)]
    refine each_worse hK hT hz hr todo _ _ (fun x hx => hm x (List.mem_cons_of_mem _ hx)) (hp.trans (List.prefix_append _ _)) fun S' p' => ?_
    exact h S' ((List.prefix_append _ _).trans p')
theorem w_worse {n K r : Nat} {g : Bool} {fs0 : Fs} {T : Told} {S : Store} {Q : D → Store → Prop} {E : Ex} {x1 x2 x3 x4 x5 x6 x7 x8 x9 x10 x11 x12 x13 x14 x15 x16 x18 x19 x20 x21 : Option D} (hK : K + K < 100000000) (hT : ∀ x ∈ T, Bd K x.1) (hz : T.length ≤ line) (hr : S[r]? = some (.lst (T.map tE)))
    (h : ∀ S' w, S <+: S' → S'[w]? = some (.lst (T.map fun x => D.bl (worseB g T x.1))) → Q (.ref w) S') :
    Wx (denE (run P (n + 1)) lrulWorse [some (F.top g fs0).d, x1, x2, x3, x4, x5, x6, x7, x8, x9, x10, x11, x12, x13, x14, x15, x16, some (.ref r), x18, x19, x20, x21]) S Q E := by
  rw [lrulWorse_eq, Wx_comp]
  simp only [List.map_cons, List.map_nil, Wx_cons, Wx_nil]
  rw [Wx_var]
  simp only [List.getElem?_cons_zero, List.getElem?_cons_succ]
  rw [Wx_srcL (seq_lst hr)]
  refine each_worse hK hT hz hr T S _ (fun x hx => hx) (List.prefix_refl _) fun S' p => ?_
  exact ⟨by rw [List.length_map]; exact hz, h _ _ (p.trans (List.prefix_append _ _)) get_last⟩
/-! ### places -/
def rulW (W : Rat → Bool) : Nat → List (Rat × List Row1) → List Row1
  | _, [] => []
  | i, x :: r => (if W x.1 then [] else on0 (i : Int) x.2) ++ rulW W (i + 1) r
def bestW (W : Rat → Bool) : Rat → List (Rat × List Row1) → Rat
  | b, [] => b
  | b, x :: r => bestW W (if W x.1 then b else x.1) r
theorem rulW_R {W : Rat → Bool} {b : Rat} : ∀ (l : List (Rat × List Row1)) (i : Nat), (∀ x ∈ l, W x.1 = false ↔ x.1 = b) → rulW W i l = rulR b i l
  | [], i, h => rfl
  | x :: l, i, h => by
    show (if W x.1 then [] else on0 (i : Int) x.2) ++ rulW W (i + 1) l = (if x.1 = b then on0 (i : Int) x.2 else []) ++ rulR b (i + 1) l
    rw [rulW_R l (i + 1) fun y hy => h y (List.mem_cons_of_mem _ hy)]
    congr 1
    have := h x List.mem_cons_self
    by_cases c : x.1 = b
    · rw [if_pos c, if_neg (by rw [this.mpr c]; exact Bool.false_ne_true)]
    · rw [if_neg c, if_pos]
      cases e : W x.1 with
      | true => rfl
      | false => exact absurd (this.mp e) c
theorem bestW_b {W : Rat → Bool} {b : Rat} : ∀ (l : List (Rat × List Row1)) (a : Rat), (∀ x ∈ l, W x.1 = false ↔ x.1 = b) → (a = b ∨ ∃ x ∈ l, x.1 = b) → bestW W a l = b
  | [], a, h, o => by
    rcases o with o | ⟨x, hx, _⟩
    · exact o
    · cases hx
  | x :: l, a, h, o => by
    show bestW W (if W x.1 then a else x.1) l = b
    refine bestW_b l _ (fun y hy => h y (List.mem_cons_of_mem _ hy)) ?_
    have hh := h x List.mem_cons_self
    rcases o with o | ⟨y, hy, e⟩
    · left
      cases e : W x.1 with
      | true => exact o
      | false => exact hh.mp e
    · rcases List.mem_cons.mp hy with rfl | hy
      · left
        rw [hh.mpr e]
        exact e
      · exact .inr ⟨y, hy, e⟩
section
variable {N : Env → Store → Prop} {Q : Fl × Env → Store → Prop}
theorem lrul_places {n r w b0 : Nat} {T : Told} {W : Rat → Bool} {S0 : Store} {x0 x1 x2 x3 x4 x6 x7 x8 x9 x10 x11 x12 x13 x14 x15 x16 x19 : Option D} (hl : ∀ x ∈ T, ∀ y ∈ x.2.2, y.length < line) : ∀ (todo : Told) (i : Nat) (acc : List Row1) (q : Nat) (b : Rat) (S : Store) (o21 : Option D), T.drop i = todo → b0 ≤ S.length → b0 ≤ q → S[r]? = some (.lst (T.map tE)) → S[w]? = some (.lst (T.map fun x => D.bl (W x.1))) → (∀ x ∈ T, RowsAt S x.2.1 x.2.2) → RowsAt S q acc → acc.length + (todo.map (·.2.2.length)).sum ≤ line →
    (∀ S' q' o21, S <+: S' → b0 ≤ q' → RowsAt S' q' (acc ++ rulW W i (todo.map fun x => (x.1, x.2.2))) → N [x0, x1, x2, x3, x4, some (.ref q'), x6, x7, x8, x9, x10, x11, x12, x13, x14, x15, x16, some (.ref r), some (.ref w), x19, some (fr (bestW W b (todo.map fun x => (x.1, x.2.2)))), o21] S') →
    Ws (forD S0 [] (.name 21) (denSs (run P n) lrulPlace) (rangeD (i : Int) todo.length) [x0, x1, x2, x3, x4, some (.ref q), x6, x7, x8, x9, x10, x11, x12, x13, x14, x15, x16, some (.ref r), some (.ref w), x19, some (fr b), o21]) S N Q
  | [], i, acc, q, b, S, o21, hd, hb, hq, hr, hw, hT, ha, hs, hN => by
    show Ws (forD S0 [] _ _ [] _) S N Q
    rw [Ws_for_nil]
    refine ⟨keptNil, hN S q o21 (List.prefix_refl _) hq ?_⟩
    show RowsAt S q (acc ++ [])
    rw [List.append_nil]
    exact ha
  | x :: todo, i, acc, q, b, S, o21, hd, hb, hq, hr, hw, hT, ha, hs, hN => by
    show Ws (forD S0 [] _ _ (.int (i : Int) :: rangeD ((i : Int) + 1) todo.length) _) S N Q
    rw [Ws_for_cons]
    refine ⟨keptNil, ?_⟩
    have ic : ((i : Int) + 1) = ((i + 1 : Nat) : Int) := by omega
    have hi : T[i]? = some x := by
      have : (T.drop i)[0]? = some x := by rw [hd]; rfl
      rw [List.getElem?_drop] at this
      exact this
    have hd2 : T.drop (i + 1) = todo := by
      rw [← List.drop_drop, hd]
      rfl
    have mx : x ∈ T := List.mem_of_getElem? hi
    have aw : atD (T.map fun x => D.bl (W x.1)) (i : Int) = some (.bl (W x.1)) := by
      refine atD_nat ?_
      rw [List.getElem?_map, hi]
      rfl
    have at' : atD (T.map tE) (i : Int) = some (tE x) := by
      refine atD_nat ?_
      rw [List.getElem?_map, hi]
      rfl
    have ex : tE x = .tup [.ref x.2.1, fr x.1] := rfl
    simp only [List.map_cons, List.sum_cons] at hs
    simp only [asgD, List.set_cons_succ, List.set_cons_zero]
    unfold lrulPlace b__law_ruling
    rw [Ws_cons, Ws_ite]
    simp only [Wx_not, Wx_idx, Wx_var, List.getElem?_cons_zero, List.getElem?_cons_succ]
    rw [Wx_idxL (seq_lst hw), aw]
    simp only [Wx_tbl]
    by_cases c : W x.1 = true
    · rw [c]
      simp only [Bool.not_true, Bool.false_eq_true, if_false, Ws_nil]
      rw [ic]
      refine lrul_places (b0 := b0) hl todo (i + 1) acc q b S _ hd2 hb hq hr hw hT ha (by omega) fun S' q' o21 p' b' h' => ?_
      have := hN S' q' o21 p' b' (by
        show RowsAt S' q' (acc ++ ((if W x.1 then [] else on0 (i : Int) x.2.2) ++ rulW W (i + 1) (todo.map fun x => (x.1, x.2.2))))
        rw [if_pos c, List.nil_append]
        exact h')
      have e : bestW W b ((x :: todo).map fun x => (x.1, x.2.2)) = bestW W b (todo.map fun x => (x.1, x.2.2)) := by
        show bestW W (if W x.1 then b else x.1) _ = _
        rw [if_pos c]
      rw [e] at this
      exact this
    · have c : W x.1 = false := by simpa using c
      rw [c]
      simp only [Bool.not_false, if_true]
      rw [Ws_cons, Ws_par]
      simp only [Wx_cons, Wx_nil, Wx_bin, Wx_var, List.getElem?_cons_zero, List.getElem?_cons_succ, Wx_comp, Wx_idx, Wx_con]
      rw [Wx_idxL (seq_lst hr), at']
      simp only []
      rw [ex, Wx_idxT, atD_0]
      simp only []
      rw [Wx_srcL (seq_lst (hT x mx))]
      refine each_on (p := 13) (i := (i : Int)) (e := .var 21) kept_self (by simp) (hl x mx) (fun x Q hq => ?_) _ ?_
      · exact hq
      refine ⟨by rw [List.length_map, on0_len]; omega, ?_⟩
      refine w_adds (get_app (List.prefix_append _ _) ha) get_last (by rw [on0_len]; omega) fun g => ?_
      have pp : S <+: (S ++ [Ob.lst ((on0 (i : Int) x.2.2).map rowD)]) ++ [Ob.lst ((acc ++ on0 (i : Int) x.2.2).map rowD)] := (List.prefix_append _ _).trans (List.prefix_append _ _)
      rw [Wx_idxL (seq_lst (get_app pp hr)), at']
      simp only []
      rw [ex, Wx_idxT, atD_1]
      simp only [setAll, List.set_cons_succ, List.set_cons_zero, Ws_nil]
      rw [ic]
      refine lrul_places (b0 := b0) hl todo (i + 1) (acc ++ on0 (i : Int) x.2.2) _ x.1 _ _ hd2 (by have := pp.length_le; omega) (by rw [List.length_append]; omega) (get_app pp hr) (get_app pp hw) (fun y hy => get_app pp (hT y hy)) g (by rw [List.length_append, on0_len]; omega) fun S' q' o21 p' b' h' => ?_
      have := hN S' q' o21 (pp.trans p') b' (by
        show RowsAt S' q' (acc ++ ((if W x.1 then [] else on0 (i : Int) x.2.2) ++ rulW W (i + 1) (todo.map fun x => (x.1, x.2.2))))
        rw [c, if_neg Bool.false_ne_true, ← List.append_assoc]
        exact h')
      have e : bestW W b ((x :: todo).map fun x => (x.1, x.2.2)) = bestW W x.1 (todo.map fun x => (x.1, x.2.2)) := by
        show bestW W (if W x.1 then b else x.1) _ = _
        rw [c, if_neg Bool.false_ne_true]
      rw [e] at this
      exact this
end
end K03

set_option Elab.async false
set_option linter.all false
set_option maxRecDepth 100000
set_option maxHeartbeats 400000
set_option autoImplicit false
/-! k03, the plain law: the law's own ruling, whole. -/
namespace K03
open Ev
theorem worse_iff {g : Bool} {T : Told} {l : List Rat} (hT : T.map (·.1) = l) (hne : l ≠ []) {a : Rat} (ha : a ∈ l) : worseB g T a = false ↔ a = best g l := by
  unfold worseB
  have e1 : (T.map fun o => wless g a o.1) = l.map (wless g a) := by rw [← hT, List.map_map]; rfl
  rw [e1]
  have e2 : (l.map (wless g a)).any id = false ↔ ∀ x ∈ l, wless g a x = false := by
    rw [List.any_eq_false]
    constructor
    · intro h x hx
      have := h (wless g a x) (List.mem_map.mpr ⟨x, hx, rfl⟩)
      simpa using this
    · intro h y hy
      obtain ⟨x, hx, rfl⟩ := List.mem_map.mp hy
      simpa using h x hx
  rw [e2]
  cases g with
  | true =>
    have hb := best_max hne
    constructor
    · intro h
      refine max_uniq ⟨ha, fun x hx => ?_⟩ hb
      have := h x hx
      unfold wless at this
      simp only [if_true, decide_eq_false_iff_not] at this
      exact Rat.not_lt.mp this
    · intro h x hx
      unfold wless
      simp only [if_true, decide_eq_false_iff_not]
      rw [h]
      exact Rat.not_lt.mpr (hb.2 x hx)
  | false =>
    have hb := best_min hne
    constructor
    · intro h
      refine min_uniq ⟨ha, fun x hx => ?_⟩ hb
      have := h x hx
      unfold wless at this
      simp only [Bool.false_eq_true, if_false, decide_eq_false_iff_not] at this
      exact Rat.not_lt.mp this
    · intro h x hx
      unfold wless
      simp only [Bool.false_eq_true, if_false, decide_eq_false_iff_not]
      rw [h]
      exact Rat.not_lt.mpr (hb.2 x hx)
theorem best_mem {g : Bool} {l : List Rat} (h : l ≠ []) : best g l ∈ l := by
  cases g with
  | true => exact (best_max h).1
  | false => exact (best_min h).1
theorem w_lrul_top {n s : Nat} {inp : List Rat} (hi : In s inp) {g : Bool} {fs : Fs} (hz : fs.sz ≤ 300000) (hok : (F.top g fs).ok s) (hm : (fs.folds aMany).sum ≤ 1000000) (ih : ∀ f ∈ fs.list, LRulAt (n + 3) inp f) : LRulAt (n + 4) inp (.top g fs) := by
  intro st S Q E hs h1 h2 h
  have tg : ∀ {S : Store} {Q : D → Store → Prop} {E : Ex}, Wx (idxD (F.top g fs).d (.int 0)) S Q E = Q (.str (gtag g)) S := fun {S Q E} => Wx_tag (f := F.top g fs)
  have hne : (fs.vals inp st).1 ≠ [] := by
    intro z
    have := vals_len inp fs st
    rw [z] at this
    exact hok.1 (List.eq_nil_of_length_eq_zero this.symm)
  have hv := vals_bd hi fs st hok.2 hs
  rw [r__law_ruling, Wx_end]
  unfold b__law_ruling
  rw [Ws_cons, Ws_ite]
  simp only [Wx_var, Wx_con, Wx_glob, Wx_bin, Wx_neg, Wx_negI, Wx_not, Wx_cmp, Wx_and, Wx_or, Wx_ite, Wx_tup, Wx_lst, Wx_idx, Wx_slice, Wx_call, Wx_bi, Wx_isi, Wx_meth, Wx_nil, Wx_cons, Wx_onone, Wx_osome, Wx_cnone, Wx_csome, Wx_add, Wx_addT, Wx_sub, Wx_mul, Wx_fdiv, Wx_mod, Wx_tbl, Wx_tint, Wx_eqI, Wx_eqS, Wx_eqB, Wx_neI, Wx_ltI, Wx_leI, Wx_gtI, Wx_geI, Wx_idxT, atD_0, atD_1, atD_2, Wx_abs, Wx_intI, Wx_intB, Wx_cutT, Wx_srcT, Wx_range, Wx_ret, Wx_cond, List.getElem?_cons_zero, List.getElem?_cons_succ, List.length_cons, List.length_nil, List.set_cons_zero, List.set_cons_succ, decide_eq_true_eq, bne_iff_ne, Wx_turn, wipeD, tg, t16, Bool.false_eq_true, if_false, Ws_nil]
  rw [Ws_cons, Ws_ite]
  simp only [Wx_var, Wx_con, Wx_glob, Wx_bin, Wx_neg, Wx_negI, Wx_not, Wx_cmp, Wx_and, Wx_or, Wx_ite, Wx_tup, Wx_lst, Wx_idx, Wx_slice, Wx_call, Wx_bi, Wx_isi, Wx_meth, Wx_nil, Wx_cons, Wx_onone, Wx_osome, Wx_cnone, Wx_csome, Wx_add, Wx_addT, Wx_sub, Wx_mul, Wx_fdiv, Wx_mod, Wx_tbl, Wx_tint, Wx_eqI, Wx_eqS, Wx_eqB, Wx_neI, Wx_ltI, Wx_leI, Wx_gtI, Wx_geI, Wx_idxT, atD_0, atD_1, atD_2, Wx_abs, Wx_intI, Wx_intB, Wx_cutT, Wx_srcT, Wx_range, Wx_ret, Wx_cond, List.getElem?_cons_zero, List.getElem?_cons_succ, List.length_cons, List.length_nil, List.set_cons_zero, List.set_cons_succ, decide_eq_true_eq, bne_iff_ne, Wx_turn, wipeD, tg, t18, Bool.false_eq_true, if_false, Ws_nil]
  rw [Ws_cons, Ws_ite]
  simp only [Wx_var, Wx_con, Wx_glob, Wx_bin, Wx_neg, Wx_negI, Wx_not, Wx_cmp, Wx_and, Wx_or, Wx_ite, Wx_tup, Wx_lst, Wx_idx, Wx_slice, Wx_call, Wx_bi, Wx_isi, Wx_meth, Wx_nil, Wx_cons, Wx_onone, Wx_osome, Wx_cnone, Wx_csome, Wx_add, Wx_addT, Wx_sub, Wx_mul, Wx_fdiv, Wx_mod, Wx_tbl, Wx_tint, Wx_eqI, Wx_eqS, Wx_eqB, Wx_neI, Wx_ltI, Wx_leI, Wx_gtI, Wx_geI, Wx_idxT, atD_0, atD_1, atD_2, Wx_abs, Wx_intI, Wx_intB, Wx_cutT, Wx_srcT, Wx_range, Wx_ret, Wx_cond, List.getElem?_cons_zero, List.getElem?_cons_succ, List.length_cons, List.length_nil, List.set_cons_zero, List.set_cons_succ, decide_eq_true_eq, bne_iff_ne, Wx_turn, wipeD, tg, t17, Bool.false_eq_true, if_false, Ws_nil]
  rw [Ws_cons, Ws_asg]
  simp only [Wx_var, Wx_con, Wx_glob, Wx_bin, Wx_neg, Wx_negI, Wx_not, Wx_cmp, Wx_and, Wx_or, Wx_ite, Wx_tup, Wx_lst, Wx_idx, Wx_slice, Wx_call, Wx_bi, Wx_isi, Wx_meth, Wx_nil, Wx_cons, Wx_onone, Wx_osome, Wx_cnone, Wx_csome, Wx_add, Wx_addT, Wx_sub, Wx_mul, Wx_fdiv, Wx_mod, Wx_tbl, Wx_tint, Wx_eqI, Wx_eqS, Wx_eqB, Wx_neI, Wx_ltI, Wx_leI, Wx_gtI, Wx_geI, Wx_idxT, atD_0, atD_1, atD_2, Wx_abs, Wx_intI, Wx_intB, Wx_cutT, Wx_srcT, Wx_range, Wx_ret, Wx_cond, List.getElem?_cons_zero, List.getElem?_cons_succ, List.length_cons, List.length_nil, List.set_cons_zero, List.set_cons_succ, decide_eq_true_eq, bne_iff_ne, Wx_turn, wipeD, asgD, setAll]
  refine ⟨by decide, by decide, ?_⟩
  rw [Ws_cons, Ws_for]
  simp only [Wx_var, Wx_con, Wx_glob, Wx_bin, Wx_neg, Wx_negI, Wx_not, Wx_cmp, Wx_and, Wx_or, Wx_ite, Wx_tup, Wx_lst, Wx_idx, Wx_slice, Wx_call, Wx_bi, Wx_isi, Wx_meth, Wx_nil, Wx_cons, Wx_onone, Wx_osome, Wx_cnone, Wx_csome, Wx_add, Wx_addT, Wx_sub, Wx_mul, Wx_fdiv, Wx_mod, Wx_tbl, Wx_tint, Wx_eqI, Wx_eqS, Wx_eqB, Wx_neI, Wx_ltI, Wx_leI, Wx_gtI, Wx_geI, Wx_idxT, atD_0, atD_1, atD_2, Wx_abs, Wx_intI, Wx_intB, Wx_cutT, Wx_srcT, Wx_range, Wx_ret, Wx_cond, List.getElem?_cons_zero, List.getElem?_cons_succ, List.length_cons, List.length_nil, List.set_cons_zero, List.set_cons_succ, decide_eq_true_eq, bne_iff_ne, Wx_turn, wipeD, top_ar]
  have q3 := (Fs.sz_list (rs := fs)).1
  refine lrul_tops (n := n + 1) (Sb := S) (r := S.length) (Nat.le_refl _) fs st [] _ _ _ _ ih hs h1 h2 (by show 0 + fs.list.length < line; unfold line; omega) (List.prefix_append _ _) get_last (fun x hx => by cases hx) fun S1 T o9 o10 o11 p1 e1 t1 m1 => ?_
  have m1 : T.map (fun x => (x.1, x.2.2)) = fs.rws inp st := m1
  have nT : T.map (·.1) = (fs.vals inp st).1 := by
    rw [← rws_vals, ← m1, List.map_map]
    rfl
  obtain ⟨q1, q2⟩ := rws_len inp fs st hok.2
  have lT : T.length = fs.list.length := by rw [← q2, ← m1, List.length_map]
  have bT : ∀ x ∈ T, Bd (50 * fs.sz) x.1 := fun x hx => hv _ (by rw [← nT]; exact List.mem_map.mpr ⟨x, hx, rfl⟩)
  have rT : ∀ x ∈ T, ∀ y ∈ x.2.2, y.length < line := fun x hx y hy => by
    have := rws_row fs st (x.1, x.2.2) (by rw [← m1]; exact List.mem_map.mpr ⟨x, hx, rfl⟩) y hy
    unfold line
    omega
  rw [Ws_cons, Ws_asg, ← lrulWorse_eq]
  refine w_worse (n := n + 2) (K := 50 * fs.sz) (by omega) bT (by unfold line; omega) e1 fun S2 w p2 e2 => ?_
  simp only [asgD, List.set_cons_succ, List.set_cons_zero]
  rw [Ws_cons, Ws_par]
  simp only [Wx_var, Wx_con, Wx_glob, Wx_bin, Wx_neg, Wx_negI, Wx_not, Wx_cmp, Wx_and, Wx_or, Wx_ite, Wx_tup, Wx_lst, Wx_idx, Wx_slice, Wx_call, Wx_bi, Wx_isi, Wx_meth, Wx_nil, Wx_cons, Wx_onone, Wx_osome, Wx_cnone, Wx_csome, Wx_add, Wx_addT, Wx_sub, Wx_mul, Wx_fdiv, Wx_mod, Wx_tbl, Wx_tint, Wx_eqI, Wx_eqS, Wx_eqB, Wx_neI, Wx_ltI, Wx_leI, Wx_gtI, Wx_geI, Wx_idxT, atD_0, atD_1, atD_2, Wx_abs, Wx_intI, Wx_intB, Wx_cutT, Wx_srcT, Wx_range, Wx_ret, Wx_cond, List.getElem?_cons_zero, List.getElem?_cons_succ, List.length_cons, List.length_nil, List.set_cons_zero, List.set_cons_succ, decide_eq_true_eq, bne_iff_ne, Wx_turn, wipeD, setAll]
  refine ⟨by decide, by decide, ?_⟩
  rw [Ws_cons, Ws_for]
  simp only [Wx_cons, Wx_nil, Wx_bi, Wx_var, List.getElem?_cons_zero, List.getElem?_cons_succ]
  have p3 : S1 <+: S2 ++ [Ob.lst []] := p2.trans (List.prefix_append _ _)
  rw [Wx_len (seq_lst (get_app p3 e1)), Wx_range]
  refine ⟨len_ok (by rw [List.length_map]; unfold line; omega), ?_⟩
  rw [Int.toNat_natCast, List.length_map, ← fr_0]
  have L1 := p1.length_le
  have L2 := p2.length_le
  refine lrul_places (n := n + 3) (b0 := S.length) (W := worseB g T) rT T 0 [] S2.length 0 _ _ rfl (by rw [List.length_append]; omega) (by omega) (get_app p3 e1) (get_app (List.prefix_append _ _) e2) (fun x hx => get_app p3 (t1 x hx).2) get_last ?_ fun S' q' o21 p4 b4 w4 => ?_
  · have e : (T.map (·.2.2.length)).sum = ((fs.rws inp st).map (·.2.length)).sum := by
      rw [← m1, List.map_map]
      rfl
    rw [List.length_nil, e]
    unfold line
    omega
  · have iff : ∀ x ∈ fs.rws inp st, worseB g T x.1 = false ↔ x.1 = best g (fs.vals inp st).1 := fun x hx => worse_iff nT hne (by rw [← rws_vals]; exact List.mem_map.mpr ⟨x, hx, rfl⟩)
    rw [m1, List.nil_append, rulW_R _ _ iff, rws_rul] at w4
    have hb : bestW (worseB g T) 0 (T.map fun x => (x.1, x.2.2)) = best g (fs.vals inp st).1 := by
      rw [m1]
      refine bestW_b _ _ iff (.inr ?_)
      have := best_mem (g := g) hne
      rw [← rws_vals] at this
      obtain ⟨x, hx, e⟩ := List.mem_map.mp this
      exact ⟨x, hx, by rw [e, rws_vals]⟩
    rw [hb]
    simp only [Wx_var, Wx_con, Wx_glob, Wx_bin, Wx_neg, Wx_negI, Wx_not, Wx_cmp, Wx_and, Wx_or, Wx_ite, Wx_tup, Wx_lst, Wx_idx, Wx_slice, Wx_call, Wx_bi, Wx_isi, Wx_meth, Wx_nil, Wx_cons, Wx_onone, Wx_osome, Wx_cnone, Wx_csome, Wx_add, Wx_addT, Wx_sub, Wx_mul, Wx_fdiv, Wx_mod, Wx_tbl, Wx_tint, Wx_eqI, Wx_eqS, Wx_eqB, Wx_neI, Wx_ltI, Wx_leI, Wx_gtI, Wx_geI, Wx_idxT, atD_0, atD_1, atD_2, Wx_abs, Wx_intI, Wx_intB, Wx_cutT, Wx_srcT, Wx_range, Wx_ret, Wx_cond, List.getElem?_cons_zero, List.getElem?_cons_succ, List.length_cons, List.length_nil, List.set_cons_zero, List.set_cons_succ, decide_eq_true_eq, bne_iff_ne, Wx_turn, wipeD, Ws_nil, Ws_cons, Ws_asg, Ws_par, Ws_expr, Ws_ret, Ws_retn, Ws_pass, Ws_ite, asgD, setAll]
    exact ⟨by decide, h S' q' ((p1.trans p3).trans p4) b4 w4⟩
theorem w_lrul {s : Nat} {inp : List Rat} (hi : In s inp) : ∀ (b : Nat) (f : F), f.sz ≤ b → b ≤ 300000 → f.ok s → f.fold aMany ≤ 1000000 → ∀ n, f.dep + 8 ≤ n → LRulAt n inp f := by
  intro b
  induction b with
  | zero => intro f h; cases f <;> exact absurd h (Nat.not_succ_le_zero _)
  | succ b ih =>
    intro f hb hb2 hok hm n hn
    obtain ⟨n, rfl⟩ : ∃ n', n = n' + 4 := ⟨n - 4, by omega⟩
    cases f with
    | sum rs =>
      have hz : (F.sum rs).sz = rs.sz + 1 := rfl
      have hd : (F.sum rs).dep = rs.dep + 1 := rfl
      have hmm : prodI (rs.folds aMany) ≤ 1000000 := hm
      have hM : ∀ g ∈ rs.inner, g.fold aMany ≤ 1000000 := fun g hg => Int.le_trans (many_prod rs g hok hg) hmm
      have ih' : ∀ g ∈ rs.inner, LRulAt (n + 3) inp g := fun g hg => by
        have := (Rs.sz_inner (rs := rs)).2 g hg
        have := Rs.dep_inner hg
        exact ih g (by omega) (by omega) (Rs.ok_inner hok hg) (hM g hg) (n + 3) (by omega)
      intro st S Q E hs h1 h2 h
      rw [r__law_ruling, Wx_end]
      unfold b__law_ruling
      obtain ⟨cs, bs⟩ := st
      cases cs with
      | nil => exact absurd h1 (Nat.not_succ_le_zero _)
      | cons c cs =>
        have hdef : (F.sum rs).d = .tup [.str "sum", .tup rs.d] := rfl
        have hs' : StOk (cs, bs) := ⟨fun q hq => hs.1 q (List.mem_cons_of_mem _ hq), hs.2⟩
        have g1 : rs.ns ≤ cs.length := by
          have h1 : rs.ns + 1 ≤ cs.length + 1 := h1
          omega
        rw [hdef]
        rw [Ws_cons, Ws_ite]
        simp only [Wx_var, Wx_con, Wx_glob, Wx_bin, Wx_neg, Wx_negI, Wx_not, Wx_cmp, Wx_and, Wx_or, Wx_ite, Wx_tup, Wx_lst, Wx_idx, Wx_slice, Wx_call, Wx_bi, Wx_isi, Wx_meth, Wx_nil, Wx_cons, Wx_onone, Wx_osome, Wx_cnone, Wx_csome, Wx_add, Wx_addT, Wx_sub, Wx_mul, Wx_fdiv, Wx_mod, Wx_tbl, Wx_tint, Wx_eqI, Wx_eqS, Wx_eqB, Wx_neI, Wx_ltI, Wx_leI, Wx_gtI, Wx_geI, Wx_idxT, atD_0, atD_1, atD_2, Wx_abs, Wx_intI, Wx_intB, Wx_cutT, Wx_srcT, Wx_range, Wx_ret, Wx_cond, List.getElem?_cons_zero, List.getElem?_cons_succ, List.length_cons, List.length_nil, List.set_cons_zero, List.set_cons_succ, decide_eq_true_eq, bne_iff_ne, Wx_turn, wipeD, t1, if_true]
        rw [Ws_cons, Ws_asg]
        simp only [List.map_cons, Wx_var, Wx_con, Wx_glob, Wx_bin, Wx_neg, Wx_negI, Wx_not, Wx_cmp, Wx_and, Wx_or, Wx_ite, Wx_tup, Wx_lst, Wx_idx, Wx_slice, Wx_call, Wx_bi, Wx_isi, Wx_meth, Wx_nil, Wx_cons, Wx_onone, Wx_osome, Wx_cnone, Wx_csome, Wx_add, Wx_addT, Wx_sub, Wx_mul, Wx_fdiv, Wx_mod, Wx_tbl, Wx_tint, Wx_eqI, Wx_eqS, Wx_eqB, Wx_neI, Wx_ltI, Wx_leI, Wx_gtI, Wx_geI, Wx_idxT, atD_0, atD_1, atD_2, Wx_abs, Wx_intI, Wx_intB, Wx_cutT, Wx_srcT, Wx_range, Wx_ret, Wx_cond, List.getElem?_cons_zero, List.getElem?_cons_succ, List.length_cons, List.length_nil, List.set_cons_zero, List.set_cons_succ, decide_eq_true_eq, bne_iff_ne, Wx_turn, wipeD, asgD, setAll]
        rw [cut1]
        refine ⟨by decide, (by decide : (1 : Nat) ≤ line), (by decide : (4 : Nat) ≤ line), ?_⟩
        rw [Ws_cons, Ws_for]
        simp only [Wx_var, Wx_con, Wx_glob, Wx_bin, Wx_neg, Wx_negI, Wx_not, Wx_cmp, Wx_and, Wx_or, Wx_ite, Wx_tup, Wx_lst, Wx_idx, Wx_slice, Wx_call, Wx_bi, Wx_isi, Wx_meth, Wx_nil, Wx_cons, Wx_onone, Wx_osome, Wx_cnone, Wx_csome, Wx_add, Wx_addT, Wx_sub, Wx_mul, Wx_fdiv, Wx_mod, Wx_tbl, Wx_tint, Wx_eqI, Wx_eqS, Wx_eqB, Wx_neI, Wx_ltI, Wx_leI, Wx_gtI, Wx_geI, Wx_idxT, atD_0, atD_1, atD_2, Wx_abs, Wx_intI, Wx_intB, Wx_cutT, Wx_srcT, Wx_range, Wx_ret, Wx_cond, List.getElem?_cons_zero, List.getElem?_cons_succ, List.length_cons, List.length_nil, List.set_cons_zero, List.set_cons_succ, decide_eq_true_eq, bne_iff_ne, Wx_turn, wipeD]
        refine lrul_rows (n := n + 1) (b0 := S.length) hi rs c 40 [[]] 0 S.length (cs, bs) _ none none none none none none none ih' hok (hs.1 c List.mem_cons_self) (by omega) hs' g1 h2 (by rw [List.length_append]; omega) (Nat.le_refl _) get_last (fun x hx => by rw [List.mem_singleton.mp hx]; exact Nat.le_refl _) (by omega) (by rw [List.length_singleton, Int.natCast_one, Int.one_mul]; exact hmm) hM fun S' r' o8 o9 o10 o11 o12 o13 o14 p b w => ?_
        simp only [Wx_var, Wx_con, Wx_glob, Wx_bin, Wx_neg, Wx_negI, Wx_not, Wx_cmp, Wx_and, Wx_or, Wx_ite, Wx_tup, Wx_lst, Wx_idx, Wx_slice, Wx_call, Wx_bi, Wx_isi, Wx_meth, Wx_nil, Wx_cons, Wx_onone, Wx_osome, Wx_cnone, Wx_csome, Wx_add, Wx_addT, Wx_sub, Wx_mul, Wx_fdiv, Wx_mod, Wx_tbl, Wx_tint, Wx_eqI, Wx_eqS, Wx_eqB, Wx_neI, Wx_ltI, Wx_leI, Wx_gtI, Wx_geI, Wx_idxT, atD_0, atD_1, atD_2, Wx_abs, Wx_intI, Wx_intB, Wx_cutT, Wx_srcT, Wx_range, Wx_ret, Wx_cond, List.getElem?_cons_zero, List.getElem?_cons_succ, List.length_cons, List.length_nil, List.set_cons_zero, List.set_cons_succ, decide_eq_true_eq, bne_iff_ne, Wx_turn, wipeD, Ws_nil, Ws_cons, Ws_asg, Ws_par, Ws_expr, Ws_ret, Ws_retn, Ws_pass, Ws_ite, asgD, setAll]
        exact ⟨by decide, h S' r' ((List.prefix_append _ _).trans p) b w⟩
    | top g fs =>
      have hz : (F.top g fs).sz = fs.sz + 1 := rfl
      have hd : (F.top g fs).dep = fs.dep + 1 := rfl
      rw [many_top] at hm
      refine w_lrul_top hi (by omega) hok hm fun f hf => ?_
      have := (Fs.sz_list (rs := fs)).2 f hf
      have := Fs.dep_list hf
      exact ih f (by omega) (by omega) (Fs.ok_list hok.2 hf) (Int.le_trans (many_sum fs f hok.2 hf) hm) (n + 3) (by omega)
    | size f =>
      have hz : (F.size f).sz = f.sz + 1 := rfl
      have hd : (F.size f).dep = f.dep + 1 := rfl
      rw [many_size] at hm
      have hp := many_pos (s := s) f hok
      have hm2 : f.fold aMany ≤ 1000000 := by omega
      exact w_lrul_size (f := f) hi (by omega) hok hm2 (ih f (by omega) (by omega) hok hm2 (n + 3) (by omega))
    | held f =>
      have hz : (F.held f).sz = f.sz + 1 := rfl
      have hd : (F.held f).dep = f.dep + 1 := rfl
      rw [many_held] at hm
      have hm2 : f.fold aMany ≤ 1000000 := by omega
      exact w_lrul_held (f := f) hi (by omega) hok hm2 (ih f (by omega) (by omega) hok hm2 (n + 3) (by omega))
end K03

set_option Elab.async false
set_option linter.all false
set_option maxRecDepth 100000
set_option maxHeartbeats 400000
set_option autoImplicit false
/-! k03, the plain law: the law, one turn. -/
namespace K03
open Ev
theorem Kp0 {S S' : Store} {k j : Nat} {o : Ob} (h : Kp k S S') (e : S[j]? = some o) (hj : j ≠ k) : S'[j]? = some o := h.get e hj
theorem tree_int (n : Nat) (i : Int) : treeD n (.int i) := by cases n <;> trivial
theorem tree_fr (q : Rat) : treeD 1 (fr q) := ⟨(by decide : (2 : Nat) ≤ line), fun d hd => by
  simp only [List.mem_cons, List.not_mem_nil, or_false] at hd
  rcases hd with rfl | rfl <;> exact tree_int 0 _⟩
theorem tree_rows {rows : List Row1} (hz : rows.length ≤ line) (hl : ∀ r ∈ rows, r.length ≤ line) : treeD 2 (.tup (rows.map rowD)) := ⟨by rw [List.length_map]; exact hz, fun d hd => by
  obtain ⟨r, hr, rfl⟩ := List.mem_map.mp hd
  exact ⟨by rw [List.length_map]; exact hl r hr, fun e he => by
    obtain ⟨i, _, rfl⟩ := List.mem_map.mp he
    exact tree_int 0 i⟩⟩
def lawK : ISs := match b_law with
  | .cons (.for_ _ _ _ t) _ => t
  | _ => .nil
def lawTurn : ISs := match lawK with
  | .cons _ (.cons _ (.cons _ (.cons _ (.cons _ (.cons (.for_ _ _ _ t) _))))) => t
  | _ => .nil
def lawInp : IE := match lawTurn with
  | .cons (.asg _ (.bi _ (.cons e _))) _ => e
  | _ => .con .non
def lawInpE : IE := match lawInp with
  | .comp _ _ _ _ _ e => e
  | _ => .con .non
theorem lawInp_eq : lawInp = .comp [("socket", 7)] (.name 7) .range (.cons (.var 3) .nil) .none lawInpE := rfl
def lawRest : ISs := match lawTurn with
  | .cons _ t => t
  | _ => .nil
theorem lawTurn_eq : lawTurn = .cons (.asg (.name 6) (.bi .tuple (.cons lawInp .nil))) lawRest := rfl
theorem w_inp1 {n bx b : Nat} {t : Int} {d : D} {S : Store} {Q : List D → Store → Prop} {E : Ex} {x0 x1 x3 x4 x6 x7 x8 x9 x10 x11 x12 : Option D} (hb : BoxAt S bx (b + 3)) (h : ∀ S' (q : Rat), Kp bx S S' → BoxAt S' bx b → Bd 40 q → Q [fr q] S') :
    Wx (turnC (.name 7) [7] [x0, x1, some (.ref bx), x3, x4, some (.int t), x6, x7, x8, x9, x10, x11, x12] (denC (run P (n + 3)) .none) (denE (run P (n + 3)) lawInpE) d) S Q E := by
  rw [Wx_turn]
  simp only [wipeD, asgD, List.set_cons_succ, List.set_cons_zero, Wx_cnone, if_true]
  unfold lawInpE lawInp lawTurn lawK b_law
  simp only [Wx_var, Wx_con, Wx_glob, Wx_bin, Wx_neg, Wx_negI, Wx_not, Wx_cmp, Wx_and, Wx_or, Wx_ite, Wx_tup, Wx_lst, Wx_idx, Wx_slice, Wx_call, Wx_bi, Wx_isi, Wx_meth, Wx_nil, Wx_cons, Wx_onone, Wx_osome, Wx_cnone, Wx_csome, Wx_add, Wx_addT, Wx_sub, Wx_mul, Wx_fdiv, Wx_mod, Wx_tbl, Wx_tint, Wx_eqI, Wx_eqS, Wx_eqB, Wx_neI, Wx_ltI, Wx_leI, Wx_gtI, Wx_geI, Wx_idxT, atD_0, atD_1, atD_2, Wx_abs, Wx_intI, Wx_intB, Wx_cutT, Wx_srcT, Wx_range, Wx_ret, Wx_cond, List.getElem?_cons_zero, List.getElem?_cons_succ, List.length_cons, List.length_nil, List.set_cons_zero, List.set_cons_succ, decide_eq_true_eq, bne_iff_ne, Wx_turn, wipeD]
  by_cases c : t > 0
  · rw [if_pos (by simpa using c)]
    exact w_number (n := n + 1) hb fun S' q k1 b1 q1 => h S' q k1 b1 (q1.mono (by decide))
  · rw [if_neg (by simpa using c)]
    refine ⟨(by decide : (2 : Nat) ≤ line), (by decide : (2 : Nat) ≤ line), (by decide : (2 : Nat) ≤ line), (by decide : (3 : Nat) ≤ line), ?_⟩
    have hlt := hb.lt
    refine w_pick (n := n + 1) (b := b) (hb.app.less (by omega)) get_last (by omega) (by simp) fun S' x k1 b1 hx => ?_
    obtain ⟨q, rfl, hq⟩ : ∃ q : Rat, x = fr q ∧ Bd 40 q := by
      simp only [List.mem_cons, List.not_mem_nil, or_false] at hx
      rcases hx with rfl | rfl | rfl
      · exact ⟨0, fr_0.symm, by decide +kernel⟩
      · exact ⟨1, fr_1.symm, by decide +kernel⟩
      · exact ⟨-1, fr_m.symm, by decide +kernel⟩
    exact h S' q (Kp.app.trans k1) b1 hq
theorem w_inps {n bx b s : Nat} {t : Int} {S : Store} {Q : D → Store → Prop} {E : Ex} {x0 x1 x4 x6 x7 x8 x9 x10 x11 x12 : Option D} (hs : s ≤ 4) (hb : BoxAt S bx (b + 12)) (h : ∀ S' (inp : List Rat), Kp bx S S' → BoxAt S' bx b → In s inp → Q (iD inp) S') :
    Wx (denE (run P (n + 3)) (.bi .tuple (.cons lawInp .nil)) [x0, x1, some (.ref bx), some (.int (s : Int)), x4, some (.int t), x6, x7, x8, x9, x10, x11, x12]) S Q E := by
  rw [lawInp_eq, Wx_bi, Wx_cons, Wx_comp]
  simp only [Wx_cons, Wx_nil, Wx_var, List.getElem?_cons_zero, List.getElem?_cons_succ, List.map_cons, List.map_nil]
  rw [Wx_range]
  refine ⟨len_ok (by unfold line; omega), ?_⟩
  rw [Int.toNat_natCast]
  refine each_draw (u := 3) (k := bx) fr (Bd 40) (fun d b S Q E hb h => w_inp1 hb h) (rangeD 0 s) b S _ _ (hb.less (by rw [range_len]; omega)) fun S' inp k1 b1 l1 o1 => ?_
  rw [range_len] at l1
  refine ⟨by rw [List.length_map, l1]; unfold line; omega, ?_⟩
  rw [Wx_tuple (seq_lst get_last)]
  exact h _ inp (k1.trans Kp.app) b1.app ⟨l1, o1⟩
def lawAny : IE := match lawRest with
  | .cons _ (.cons _ (.cons _ (.cons _ (.cons _ (.cons (.ite (.bi _ (.cons e _)) _ _) _))))) => e
  | _ => .con .non
theorem lawAny_eq : lawAny = .comp [("row", 12)] (.name 12) .seq (.cons (.var 11) .nil) .none (.cmp .ne (.idx (.call 43 (.cons (.var 4) (.cons (.var 12) (.cons (.var 6) (.cons (.var 8) (.cons (.var 9) .nil)))))) (.con (.int 0))) (.var 10)) := rfl
theorem each_any {n r : Nat} {f : F} {inp : List Rat} {c : St} {S0 : Store} {x0 x1 x2 x3 x5 x7 x11 x12 : Option D} (hf : ForcedAt n inp f) (hc : StOk c) (h1 : f.ns ≤ c.1.length) (h2 : f.nh ≤ c.2.length) (hr : r < S0.length) : ∀ (rows : List Row1) (S : Store) (Q : List D → Store → Prop), (∀ x ∈ rows, x ∈ f.rul inp c) → S0 <+: S → (∀ S', S <+: S' → Q (List.replicate rows.length (.bl false)) S') →
    Wx (eachD S0 [r] (turnC (.name 12) [12] [x0, x1, x2, x3, some f.d, x5, some (iD inp), x7, some (cD c), some (bD c), some (fr (f.val inp c).1), x11, x12] (denC (run P n) .none) (denE (run P n) (.cmp .ne (.idx (.call 43 (.cons (.var 4) (.cons (.var 12) (.cons (.var 6) (.cons (.var 8) (.cons (.var 9) .nil)))))) (.con (.int 0))) (.var 10)))) (rows.map rowD)) S Q NoEx
  | [], S, Q, hm, hp, h => by
    rw [List.map_nil, Wx_each_nil]
    exact ⟨pre_kept hp rfl hr, h S (List.prefix_refl _)⟩
  | x :: rows, S, Q, hm, hp, h => by
    rw [List.map_cons, Wx_each_cons]
    refine ⟨pre_kept hp rfl hr, ?_⟩
    simp only [Wx_var, Wx_con, Wx_glob, Wx_bin, Wx_neg, Wx_negI, Wx_not, Wx_cmp, Wx_and, Wx_or, Wx_ite, Wx_tup, Wx_lst, Wx_idx, Wx_slice, Wx_call, Wx_bi, Wx_isi, Wx_meth, Wx_nil, Wx_cons, Wx_onone, Wx_osome, Wx_cnone, Wx_csome, Wx_add, Wx_addT, Wx_sub, Wx_mul, Wx_fdiv, Wx_mod, Wx_tbl, Wx_tint, Wx_eqI, Wx_eqS, Wx_eqB, Wx_neI, Wx_ltI, Wx_leI, Wx_gtI, Wx_geI, Wx_idxT, atD_0, atD_1, atD_2, Wx_abs, Wx_intI, Wx_intB, Wx_cutT, Wx_srcT, Wx_range, Wx_ret, Wx_cond, List.getElem?_cons_zero, List.getElem?_cons_succ, List.length_cons, List.length_nil, List.set_cons_zero, List.set_cons_succ, decide_eq_true_eq, bne_iff_ne, Wx_turn, wipeD, asgD, if_true]
    have e : rowD x = rowD (x ++ []) := by rw [List.append_nil]
    rw [e]
    refine hf c x [] S _ _ hc h1 h2 (hm x List.mem_cons_self) fun S1 p1 => ?_
    simp only [Wx_var, Wx_con, Wx_glob, Wx_bin, Wx_neg, Wx_negI, Wx_not, Wx_cmp, Wx_and, Wx_or, Wx_ite, Wx_tup, Wx_lst, Wx_idx, Wx_slice, Wx_call, Wx_bi, Wx_isi, Wx_meth, Wx_nil, Wx_cons, Wx_onone, Wx_osome, Wx_cnone, Wx_csome, Wx_add, Wx_addT, Wx_sub, Wx_mul, Wx_fdiv, Wx_mod, Wx_tbl, Wx_tint, Wx_eqI, Wx_eqS, Wx_eqB, Wx_neI, Wx_ltI, Wx_leI, Wx_gtI, Wx_geI, Wx_idxT, atD_0, atD_1, atD_2, Wx_abs, Wx_intI, Wx_intB, Wx_cutT, Wx_srcT, Wx_range, Wx_ret, Wx_cond, List.getElem?_cons_zero, List.getElem?_cons_succ, List.length_cons, List.length_nil, List.set_cons_zero, List.set_cons_succ, decide_eq_true_eq, bne_iff_ne, Wx_turn, wipeD]
    rw [Wx_neF, decide_eq_true rfl]
    refine each_any hf hc h1 h2 hr rows S1 _ (fun y hy => hm y (List.mem_cons_of_mem _ hy)) (hp.trans p1) fun S' p' => ?_
    exact h S' (p1.trans p')
theorem falses : ∀ c : Nat, boolsD (List.replicate c (D.bl false)) = some (List.replicate c false)
  | 0 => rfl
  | c + 1 => by
    rw [List.replicate_succ, List.replicate_succ]
    unfold boolsD
    rw [falses c]
    rfl
section
variable {N : Env → Store → Prop} {Q : Fl × Env → Store → Prop}
theorem law_turn {n bx b s : Nat} {t : Int} {f : F} {S : Store} {x0 x1 x6 x7 x8 x9 x10 x11 x12 : Option D} (hn : 40 ≤ n) (hs : s ≤ 4) (hf : Fit8 s f) (hm : f.fold aMany ≤ 64) (hb : BoxAt S bx (b + 500000))
    (hN : ∀ S' o6 o7 o8 o9 o10 o11 o12, Kp bx S S' → BoxAt S' bx b → N [x0, x1, some (.ref bx), some (.int (s : Int)), some f.d, some (.int t), o6, o7, o8, o9, o10, o11, o12] S') :
    Ws (denSs (run P n) lawTurn [x0, x1, some (.ref bx), some (.int (s : Int)), some f.d, some (.int t), x6, x7, x8, x9, x10, x11, x12]) S N Q := by
  obtain ⟨n, rfl⟩ : ∃ n', n = n' + 3 := ⟨n - 3, by omega⟩
  obtain ⟨hok, hd, hz⟩ := hf
  rw [lawTurn_eq, Ws_cons, Ws_asg]
  refine w_inps (b := b + 480000) hs (hb.less (by omega)) fun S1 inp k1 b1 hi => ?_
  simp only [asgD, List.set_cons_succ, List.set_cons_zero]
  unfold lawRest lawTurn lawK b_law
  rw [Ws_cons, Ws_asg]
  simp only [Wx_var, Wx_con, Wx_glob, Wx_bin, Wx_neg, Wx_negI, Wx_not, Wx_cmp, Wx_and, Wx_or, Wx_ite, Wx_tup, Wx_lst, Wx_idx, Wx_slice, Wx_call, Wx_bi, Wx_isi, Wx_meth, Wx_nil, Wx_cons, Wx_onone, Wx_osome, Wx_cnone, Wx_csome, Wx_add, Wx_addT, Wx_sub, Wx_mul, Wx_fdiv, Wx_mod, Wx_tbl, Wx_tint, Wx_eqI, Wx_eqS, Wx_eqB, Wx_neI, Wx_ltI, Wx_leI, Wx_gtI, Wx_geI, Wx_idxT, atD_0, atD_1, atD_2, Wx_abs, Wx_intI, Wx_intB, Wx_cutT, Wx_srcT, Wx_range, Wx_ret, Wx_cond, List.getElem?_cons_zero, List.getElem?_cons_succ, List.length_cons, List.length_nil, List.set_cons_zero, List.set_cons_succ, decide_eq_true_eq, bne_iff_ne, Wx_turn, wipeD]
  have go : ∀ (S2 : Store) (c : St), Kp bx S1 S2 → BoxAt S2 bx b → StOk c → c.1.length = f.ns → c.2.length = f.nh →
      Ws (denSs (run P (n + 3)) (match lawRest with | .cons _ t => t | _ => .nil) [x0, x1, some (.ref bx), some (.int (s : Int)), some f.d, some (.int t), some (iD inp), x7, some (cD c), some (bD c), x10, x11, x12]) S2 N Q := by
    intro S2 c k2 b2 hc c1 c2
    unfold lawRest lawTurn lawK b_law
    simp only []
    rw [Ws_cons, Ws_asg]
    simp only [Wx_var, Wx_con, Wx_glob, Wx_bin, Wx_neg, Wx_negI, Wx_not, Wx_cmp, Wx_and, Wx_or, Wx_ite, Wx_tup, Wx_lst, Wx_idx, Wx_slice, Wx_call, Wx_bi, Wx_isi, Wx_meth, Wx_nil, Wx_cons, Wx_onone, Wx_osome, Wx_cnone, Wx_csome, Wx_add, Wx_addT, Wx_sub, Wx_mul, Wx_fdiv, Wx_mod, Wx_tbl, Wx_tint, Wx_eqI, Wx_eqS, Wx_eqB, Wx_neI, Wx_ltI, Wx_leI, Wx_gtI, Wx_geI, Wx_idxT, atD_0, atD_1, atD_2, Wx_abs, Wx_intI, Wx_intB, Wx_cutT, Wx_srcT, Wx_range, Wx_ret, Wx_cond, List.getElem?_cons_zero, List.getElem?_cons_succ, List.length_cons, List.length_nil, List.set_cons_zero, List.set_cons_succ, decide_eq_true_eq, bne_iff_ne, Wx_turn, wipeD]
    refine w_worth hi f.sz f (Nat.le_refl _) (by omega) hok (n + 3) (by omega) c S2 _ _ hc (by omega) (by omega) fun S3 p3 => ?_
    simp only [Wx_var, Wx_con, Wx_glob, Wx_bin, Wx_neg, Wx_negI, Wx_not, Wx_cmp, Wx_and, Wx_or, Wx_ite, Wx_tup, Wx_lst, Wx_idx, Wx_slice, Wx_call, Wx_bi, Wx_isi, Wx_meth, Wx_nil, Wx_cons, Wx_onone, Wx_osome, Wx_cnone, Wx_csome, Wx_add, Wx_addT, Wx_sub, Wx_mul, Wx_fdiv, Wx_mod, Wx_tbl, Wx_tint, Wx_eqI, Wx_eqS, Wx_eqB, Wx_neI, Wx_ltI, Wx_leI, Wx_gtI, Wx_geI, Wx_idxT, atD_0, atD_1, atD_2, Wx_abs, Wx_intI, Wx_intB, Wx_cutT, Wx_srcT, Wx_range, Wx_ret, Wx_cond, List.getElem?_cons_zero, List.getElem?_cons_succ, List.length_cons, List.length_nil, List.set_cons_zero, List.set_cons_succ, decide_eq_true_eq, bne_iff_ne, Wx_turn, wipeD, asgD]
    rw [Ws_cons, Ws_ite]
    simp only [Wx_var, Wx_con, Wx_glob, Wx_bin, Wx_neg, Wx_negI, Wx_not, Wx_cmp, Wx_and, Wx_or, Wx_ite, Wx_tup, Wx_lst, Wx_idx, Wx_slice, Wx_call, Wx_bi, Wx_isi, Wx_meth, Wx_nil, Wx_cons, Wx_onone, Wx_osome, Wx_cnone, Wx_csome, Wx_add, Wx_addT, Wx_sub, Wx_mul, Wx_fdiv, Wx_mod, Wx_tbl, Wx_tint, Wx_eqI, Wx_eqS, Wx_eqB, Wx_neI, Wx_ltI, Wx_leI, Wx_gtI, Wx_geI, Wx_idxT, atD_0, atD_1, atD_2, Wx_abs, Wx_intI, Wx_intB, Wx_cutT, Wx_srcT, Wx_range, Wx_ret, Wx_cond, List.getElem?_cons_zero, List.getElem?_cons_succ, List.length_cons, List.length_nil, List.set_cons_zero, List.set_cons_succ, decide_eq_true_eq, bne_iff_ne, Wx_turn, wipeD]
    refine w_value hi hc (by omega) hok (by omega) (by omega) (by omega) fun S4 p4 => ?_
    refine w_same 1 _ (tree_fr _) _ _ _ _ (by omega) fun S5 p5 => ?_
    simp only [Wx_var, Wx_con, Wx_glob, Wx_bin, Wx_neg, Wx_negI, Wx_not, Wx_cmp, Wx_and, Wx_or, Wx_ite, Wx_tup, Wx_lst, Wx_idx, Wx_slice, Wx_call, Wx_bi, Wx_isi, Wx_meth, Wx_nil, Wx_cons, Wx_onone, Wx_osome, Wx_cnone, Wx_csome, Wx_add, Wx_addT, Wx_sub, Wx_mul, Wx_fdiv, Wx_mod, Wx_tbl, Wx_tint, Wx_eqI, Wx_eqS, Wx_eqB, Wx_neI, Wx_ltI, Wx_leI, Wx_gtI, Wx_geI, Wx_idxT, atD_0, atD_1, atD_2, Wx_abs, Wx_intI, Wx_intB, Wx_cutT, Wx_srcT, Wx_range, Wx_ret, Wx_cond, List.getElem?_cons_zero, List.getElem?_cons_succ, List.length_cons, List.length_nil, List.set_cons_zero, List.set_cons_succ, decide_eq_true_eq, bne_iff_ne, Wx_turn, wipeD, Bool.not_true, Bool.false_eq_true, if_false, Ws_nil]
    rw [Ws_cons, Ws_asg]
    simp only [Wx_var, Wx_con, Wx_glob, Wx_bin, Wx_neg, Wx_negI, Wx_not, Wx_cmp, Wx_and, Wx_or, Wx_ite, Wx_tup, Wx_lst, Wx_idx, Wx_slice, Wx_call, Wx_bi, Wx_isi, Wx_meth, Wx_nil, Wx_cons, Wx_onone, Wx_osome, Wx_cnone, Wx_csome, Wx_add, Wx_addT, Wx_sub, Wx_mul, Wx_fdiv, Wx_mod, Wx_tbl, Wx_tint, Wx_eqI, Wx_eqS, Wx_eqB, Wx_neI, Wx_ltI, Wx_leI, Wx_gtI, Wx_geI, Wx_idxT, atD_0, atD_1, atD_2, Wx_abs, Wx_intI, Wx_intB, Wx_cutT, Wx_srcT, Wx_range, Wx_ret, Wx_cond, List.getElem?_cons_zero, List.getElem?_cons_succ, List.length_cons, List.length_nil, List.set_cons_zero, List.set_cons_succ, decide_eq_true_eq, bne_iff_ne, Wx_turn, wipeD]
    refine w_lrul hi f.sz f (Nat.le_refl _) (by omega) hok (by omega) (n + 3) (by omega) c S5 _ _ hc (by omega) (by omega) fun S6 r p6 l6 w6 => ?_
    simp only [Wx_var, Wx_con, Wx_glob, Wx_bin, Wx_neg, Wx_negI, Wx_not, Wx_cmp, Wx_and, Wx_or, Wx_ite, Wx_tup, Wx_lst, Wx_idx, Wx_slice, Wx_call, Wx_bi, Wx_isi, Wx_meth, Wx_nil, Wx_cons, Wx_onone, Wx_osome, Wx_cnone, Wx_csome, Wx_add, Wx_addT, Wx_sub, Wx_mul, Wx_fdiv, Wx_mod, Wx_tbl, Wx_tint, Wx_eqI, Wx_eqS, Wx_eqB, Wx_neI, Wx_ltI, Wx_leI, Wx_gtI, Wx_geI, Wx_idxT, atD_0, atD_1, atD_2, Wx_abs, Wx_intI, Wx_intB, Wx_cutT, Wx_srcT, Wx_range, Wx_ret, Wx_cond, List.getElem?_cons_zero, List.getElem?_cons_succ, List.length_cons, List.length_nil, List.set_cons_zero, List.set_cons_succ, decide_eq_true_eq, bne_iff_ne, Wx_turn, wipeD]
    rw [Wx_sorted (list_lst w6) (sorted_rows (rul_ups inp f c))]
    simp only [Wx_var, Wx_con, Wx_glob, Wx_bin, Wx_neg, Wx_negI, Wx_not, Wx_cmp, Wx_and, Wx_or, Wx_ite, Wx_tup, Wx_lst, Wx_idx, Wx_slice, Wx_call, Wx_bi, Wx_isi, Wx_meth, Wx_nil, Wx_cons, Wx_onone, Wx_osome, Wx_cnone, Wx_csome, Wx_add, Wx_addT, Wx_sub, Wx_mul, Wx_fdiv, Wx_mod, Wx_tbl, Wx_tint, Wx_eqI, Wx_eqS, Wx_eqB, Wx_neI, Wx_ltI, Wx_leI, Wx_gtI, Wx_geI, Wx_idxT, atD_0, atD_1, atD_2, Wx_abs, Wx_intI, Wx_intB, Wx_cutT, Wx_srcT, Wx_range, Wx_ret, Wx_cond, List.getElem?_cons_zero, List.getElem?_cons_succ, List.length_cons, List.length_nil, List.set_cons_zero, List.set_cons_succ, decide_eq_true_eq, bne_iff_ne, Wx_turn, wipeD, asgD]
    rw [Ws_cons, Ws_ite]
    simp only [Wx_var, Wx_con, Wx_glob, Wx_bin, Wx_neg, Wx_negI, Wx_not, Wx_cmp, Wx_and, Wx_or, Wx_ite, Wx_tup, Wx_lst, Wx_idx, Wx_slice, Wx_call, Wx_bi, Wx_isi, Wx_meth, Wx_nil, Wx_cons, Wx_onone, Wx_osome, Wx_cnone, Wx_csome, Wx_add, Wx_addT, Wx_sub, Wx_mul, Wx_fdiv, Wx_mod, Wx_tbl, Wx_tint, Wx_eqI, Wx_eqS, Wx_eqB, Wx_neI, Wx_ltI, Wx_leI, Wx_gtI, Wx_geI, Wx_idxT, atD_0, atD_1, atD_2, Wx_abs, Wx_intI, Wx_intB, Wx_cutT, Wx_srcT, Wx_range, Wx_ret, Wx_cond, List.getElem?_cons_zero, List.getElem?_cons_succ, List.length_cons, List.length_nil, List.set_cons_zero, List.set_cons_succ, decide_eq_true_eq, bne_iff_ne, Wx_turn, wipeD]
    have hrl := rul_len inp f c
    have g7 : RowsAt (S6 ++ [Ob.lst ((f.rul inp c).map rowD)]) S6.length (f.rul inp c) := get_last
    refine w_ruling hi hc (by omega) hok (by omega) (by omega) (by omega) (by omega) fun S7 p7 => ?_
    rw [Wx_tuple (seq_lst (get_app p7 g7))]
    refine w_same 2 _ (tree_rows (by unfold line; omega) fun r hr => by have := rul_row inp f c r hr; unfold line; omega) _ _ _ _ (by omega) fun S8 p8 => ?_
    simp only [Wx_var, Wx_con, Wx_glob, Wx_bin, Wx_neg, Wx_negI, Wx_not, Wx_cmp, Wx_and, Wx_or, Wx_ite, Wx_tup, Wx_lst, Wx_idx, Wx_slice, Wx_call, Wx_bi, Wx_isi, Wx_meth, Wx_nil, Wx_cons, Wx_onone, Wx_osome, Wx_cnone, Wx_csome, Wx_add, Wx_addT, Wx_sub, Wx_mul, Wx_fdiv, Wx_mod, Wx_tbl, Wx_tint, Wx_eqI, Wx_eqS, Wx_eqB, Wx_neI, Wx_ltI, Wx_leI, Wx_gtI, Wx_geI, Wx_idxT, atD_0, atD_1, atD_2, Wx_abs, Wx_intI, Wx_intB, Wx_cutT, Wx_srcT, Wx_range, Wx_ret, Wx_cond, List.getElem?_cons_zero, List.getElem?_cons_succ, List.length_cons, List.length_nil, List.set_cons_zero, List.set_cons_succ, decide_eq_true_eq, bne_iff_ne, Wx_turn, wipeD, Bool.not_true, Bool.false_eq_true, if_false, Ws_nil]
    rw [Ws_cons, Ws_ite]
    simp only [Wx_var, Wx_con, Wx_glob, Wx_bin, Wx_neg, Wx_negI, Wx_not, Wx_cmp, Wx_and, Wx_or, Wx_ite, Wx_tup, Wx_lst, Wx_idx, Wx_slice, Wx_call, Wx_bi, Wx_isi, Wx_meth, Wx_nil, Wx_cons, Wx_onone, Wx_osome, Wx_cnone, Wx_csome, Wx_add, Wx_addT, Wx_sub, Wx_mul, Wx_fdiv, Wx_mod, Wx_tbl, Wx_tint, Wx_eqI, Wx_eqS, Wx_eqB, Wx_neI, Wx_ltI, Wx_leI, Wx_gtI, Wx_geI, Wx_idxT, atD_0, atD_1, atD_2, Wx_abs, Wx_intI, Wx_intB, Wx_cutT, Wx_srcT, Wx_range, Wx_ret, Wx_cond, List.getElem?_cons_zero, List.getElem?_cons_succ, List.length_cons, List.length_nil, List.set_cons_zero, List.set_cons_succ, decide_eq_true_eq, bne_iff_ne, Wx_turn, wipeD, Wx_comp]
    have g8 := get_app (p7.trans p8) g7
    rw [Wx_srcL (seq_lst g8)]
    refine each_any (w_forced hi f.sz f (Nat.le_refl _) (by omega) hok (n + 3) (by omega)) hc (by omega) (by omega) (List.getElem?_eq_some_iff.mp g8).1 (f.rul inp c) S8 _ (fun x hx => hx) (List.prefix_refl _) fun S9 p9 => ?_
    refine ⟨by rw [List.length_replicate]; unfold line; omega, ?_⟩
    rw [Wx_any (list_lst get_last) (falses _)]
    have ef : (List.replicate (f.rul inp c).length false).any id = false := by simp
    rw [ef]
    simp only [Wx_var, Wx_con, Wx_glob, Wx_bin, Wx_neg, Wx_negI, Wx_not, Wx_cmp, Wx_and, Wx_or, Wx_ite, Wx_tup, Wx_lst, Wx_idx, Wx_slice, Wx_call, Wx_bi, Wx_isi, Wx_meth, Wx_nil, Wx_cons, Wx_onone, Wx_osome, Wx_cnone, Wx_csome, Wx_add, Wx_addT, Wx_sub, Wx_mul, Wx_fdiv, Wx_mod, Wx_tbl, Wx_tint, Wx_eqI, Wx_eqS, Wx_eqB, Wx_neI, Wx_ltI, Wx_leI, Wx_gtI, Wx_geI, Wx_idxT, atD_0, atD_1, atD_2, Wx_abs, Wx_intI, Wx_intB, Wx_cutT, Wx_srcT, Wx_range, Wx_ret, Wx_cond, List.getElem?_cons_zero, List.getElem?_cons_succ, List.length_cons, List.length_nil, List.set_cons_zero, List.set_cons_succ, decide_eq_true_eq, bne_iff_ne, Wx_turn, wipeD, Bool.false_eq_true, if_false, Ws_nil]
    have pp : S2 <+: S9 ++ [Ob.lst (List.replicate (f.rul inp c).length (D.bl false))] := (((((p3.trans p4).trans p5).trans p6).trans (List.prefix_append _ _)).trans (p7.trans p8)).trans (p9.trans (List.prefix_append _ _))
    exact hN _ _ _ _ _ _ _ _ ((k1.trans k2).trans (Kp.pre pp)) (b2.pre pp)
  by_cases ct : t < 2
  · rw [if_pos (by simpa using ct)]
    refine w_alike (b := b) (by omega) (by omega) (b1.less (by omega)) fun S2 c k2 b2 hc c1 c2 => ?_
    simp only [asgD, setAll, List.set_cons_succ, List.set_cons_zero]
    exact go S2 c k2 b2 hc c1 c2
  · rw [if_neg (by simpa using ct)]
    refine w_set (b := b) (by omega) (by omega) (b1.less (by omega)) fun S2 c k2 b2 hc c1 c2 => ?_
    simp only [asgD, setAll, List.set_cons_succ, List.set_cons_zero]
    exact go S2 c k2 b2 hc c1 c2
end
end K03

set_option Elab.async false
set_option linter.all false
set_option maxRecDepth 100000
set_option maxHeartbeats 400000
set_option autoImplicit false
/-! k03, the plain law: the law, whole. -/
namespace K03
open Ev
section
variable {N : Env → Store → Prop} {Q : Fl × Env → Store → Prop}
theorem law_turns {n bx s : Nat} {f : F} {S0 : Store} {x0 x1 : Option D} (hn : 40 ≤ n) (hs : s ≤ 4) (hf : Fit8 s f) (hm : f.fold aMany ≤ 64) : ∀ (c : Nat) (t : Int) (S : Store) (x5 x6 x7 x8 x9 x10 x11 x12 : Option D), BoxAt S bx (c * 500000) →
    (∀ S' o5 o6 o7 o8 o9 o10 o11 o12, Kp bx S S' → N [x0, x1, some (.ref bx), some (.int (s : Int)), some f.d, o5, o6, o7, o8, o9, o10, o11, o12] S') →
    Ws (forD S0 [] (.name 5) (denSs (run P n) lawTurn) (rangeD t c) [x0, x1, some (.ref bx), some (.int (s : Int)), some f.d, x5, x6, x7, x8, x9, x10, x11, x12]) S N Q
  | 0, t, S, x5, x6, x7, x8, x9, x10, x11, x12, hb, hN => by
    show Ws (forD S0 [] _ _ [] _) S N Q
    rw [Ws_for_nil]
    exact ⟨keptNil, hN S _ _ _ _ _ _ _ _ Kp.refl⟩
  | c + 1, t, S, x5, x6, x7, x8, x9, x10, x11, x12, hb, hN => by
    show Ws (forD S0 [] _ _ (.int t :: rangeD (t + 1) c) _) S N Q
    rw [Ws_for_cons]
    refine ⟨keptNil, ?_⟩
    simp only [asgD, List.set_cons_succ, List.set_cons_zero]
    refine law_turn hn hs hf hm (b := c * 500000) (hb.less (by omega)) fun S' o6 o7 o8 o9 o10 o11 o12 k1 b1 => ?_
    exact law_turns hn hs hf hm c (t + 1) S' _ _ _ _ _ _ _ _ b1 fun S2 o5 o6 o7 o8 o9 o10 o11 o12 k2 => hN S2 o5 o6 o7 o8 o9 o10 o11 o12 (k1.trans k2)
theorem tree_pair (a b : Int) : treeD 1 (.tup [.int a, .int b]) := ⟨(by decide : (2 : Nat) ≤ line), fun d hd => by
  simp only [List.mem_cons, List.not_mem_nil, or_false] at hd
  rcases hd with rfl | rfl <;> exact tree_int 0 _⟩
theorem law_cell {n : Nat} {k : Int} {ns : List Int} {S : Store} {x2 x3 x4 x5 x6 x7 x8 x9 x10 x11 x12 : Option D} (hn : 40 ≤ n) (hk : 0 ≤ k) (hk4 : k < 4) (hS : S[0]? = some (.frz (ns.map D.int)))
    (hN : ∀ S' o2 o3 o4 o5 o6 o7 o8 o9 o10 o11 o12, S'[0]? = some (.frz (ns.map D.int)) → N [some (.ref 0), some (.int k), o2, o3, o4, o5, o6, o7, o8, o9, o10, o11, o12] S') :
    Ws (denSs (run P n) lawK [some (.ref 0), some (.int k), x2, x3, x4, x5, x6, x7, x8, x9, x10, x11, x12]) S N Q := by
  obtain ⟨n, rfl⟩ : ∃ n', n = n' + 3 := ⟨n - 3, by omega⟩
  unfold lawK b_law
  rw [Ws_cons, Ws_asg]
  simp only [Wx_var, Wx_con, Wx_glob, Wx_bin, Wx_neg, Wx_negI, Wx_not, Wx_cmp, Wx_and, Wx_or, Wx_ite, Wx_tup, Wx_lst, Wx_idx, Wx_slice, Wx_call, Wx_bi, Wx_isi, Wx_meth, Wx_nil, Wx_cons, Wx_onone, Wx_osome, Wx_cnone, Wx_csome, Wx_add, Wx_addT, Wx_sub, Wx_mul, Wx_fdiv, Wx_mod, Wx_tbl, Wx_tint, Wx_eqI, Wx_eqS, Wx_eqB, Wx_neI, Wx_ltI, Wx_leI, Wx_gtI, Wx_geI, Wx_idxT, atD_0, atD_1, atD_2, Wx_abs, Wx_intI, Wx_intB, Wx_cutT, Wx_srcT, Wx_range, Wx_ret, Wx_cond, List.getElem?_cons_zero, List.getElem?_cons_succ, List.length_cons, List.length_nil, List.set_cons_zero, List.set_cons_succ, decide_eq_true_eq, bne_iff_ne, Wx_turn, wipeD]
  refine w_box (n := n + 2) hS hk hk4 fun S1 bx p1 l1 g1 b1 => ?_
  have hlt : 0 < S.length := (List.getElem?_eq_some_iff.mp hS).1
  have hbx : 0 ≠ bx := by omega
  simp only [asgD, List.set_cons_succ, List.set_cons_zero]
  rw [Ws_cons, Ws_asg]
  simp only [Wx_var, Wx_con, Wx_glob, Wx_bin, Wx_neg, Wx_negI, Wx_not, Wx_cmp, Wx_and, Wx_or, Wx_ite, Wx_tup, Wx_lst, Wx_idx, Wx_slice, Wx_call, Wx_bi, Wx_isi, Wx_meth, Wx_nil, Wx_cons, Wx_onone, Wx_osome, Wx_cnone, Wx_csome, Wx_add, Wx_addT, Wx_sub, Wx_mul, Wx_fdiv, Wx_mod, Wx_tbl, Wx_tint, Wx_eqI, Wx_eqS, Wx_eqB, Wx_neI, Wx_ltI, Wx_leI, Wx_gtI, Wx_geI, Wx_idxT, atD_0, atD_1, atD_2, Wx_abs, Wx_intI, Wx_intB, Wx_cutT, Wx_srcT, Wx_range, Wx_ret, Wx_cond, List.getElem?_cons_zero, List.getElem?_cons_succ, List.length_cons, List.length_nil, List.set_cons_zero, List.set_cons_succ, decide_eq_true_eq, bne_iff_ne, Wx_turn, wipeD]
  refine w_take (n := n + 2) (b := 900000000) (b1.less (by omega)) (by decide) fun S2 d k2 b2 d0 d5 => ?_
  obtain ⟨s, rfl⟩ : ∃ s : Nat, d = (s : Int) := ⟨d.toNat, (Int.toNat_of_nonneg d0).symm⟩
  have hs : s ≤ 4 := by omega
  simp only [asgD, List.set_cons_succ, List.set_cons_zero]
  rw [Ws_cons, Ws_asg]
  simp only [Wx_var, Wx_con, Wx_glob, Wx_bin, Wx_neg, Wx_negI, Wx_not, Wx_cmp, Wx_and, Wx_or, Wx_ite, Wx_tup, Wx_lst, Wx_idx, Wx_slice, Wx_call, Wx_bi, Wx_isi, Wx_meth, Wx_nil, Wx_cons, Wx_onone, Wx_osome, Wx_cnone, Wx_csome, Wx_add, Wx_addT, Wx_sub, Wx_mul, Wx_fdiv, Wx_mod, Wx_tbl, Wx_tint, Wx_eqI, Wx_eqS, Wx_eqB, Wx_neI, Wx_ltI, Wx_leI, Wx_gtI, Wx_geI, Wx_idxT, atD_0, atD_1, atD_2, Wx_abs, Wx_intI, Wx_intB, Wx_cutT, Wx_srcT, Wx_range, Wx_ret, Wx_cond, List.getElem?_cons_zero, List.getElem?_cons_succ, List.length_cons, List.length_nil, List.set_cons_zero, List.set_cons_succ, decide_eq_true_eq, bne_iff_ne, Wx_turn, wipeD]
  refine w_drawn (b := 800000000) hs (by omega) (b2.less (by omega)) fun S3 f k3 b3 hf hm => ?_
  have hd := hf.2.1
  have hz := hf.2.2
  simp only [asgD, List.set_cons_succ, List.set_cons_zero]
  rw [Ws_cons, Ws_ite]
  simp only [Wx_var, Wx_con, Wx_glob, Wx_bin, Wx_neg, Wx_negI, Wx_not, Wx_cmp, Wx_and, Wx_or, Wx_ite, Wx_tup, Wx_lst, Wx_idx, Wx_slice, Wx_call, Wx_bi, Wx_isi, Wx_meth, Wx_nil, Wx_cons, Wx_onone, Wx_osome, Wx_cnone, Wx_csome, Wx_add, Wx_addT, Wx_sub, Wx_mul, Wx_fdiv, Wx_mod, Wx_tbl, Wx_tint, Wx_eqI, Wx_eqS, Wx_eqB, Wx_neI, Wx_ltI, Wx_leI, Wx_gtI, Wx_geI, Wx_idxT, atD_0, atD_1, atD_2, Wx_abs, Wx_intI, Wx_intB, Wx_cutT, Wx_srcT, Wx_range, Wx_ret, Wx_cond, List.getElem?_cons_zero, List.getElem?_cons_succ, List.length_cons, List.length_nil, List.set_cons_zero, List.set_cons_succ, decide_eq_true_eq, bne_iff_ne, Wx_turn, wipeD]
  refine w_counts f.sz f (Nat.le_refl _) (by omega) _ _ _ _ (by omega) fun S4 p4 => ?_
  refine w_lsums f.sz f (Nat.le_refl _) (by omega) _ _ _ _ (by omega) fun S5 p5 => ?_
  refine w_lheld f.sz f (Nat.le_refl _) (by omega) _ _ _ _ (by omega) fun S6 p6 => ?_
  refine ⟨by decide, ?_⟩
  refine w_same 1 _ (tree_pair _ _) _ _ _ _ (by omega) fun S7 p7 => ?_
  simp only [Wx_var, Wx_con, Wx_glob, Wx_bin, Wx_neg, Wx_negI, Wx_not, Wx_cmp, Wx_and, Wx_or, Wx_ite, Wx_tup, Wx_lst, Wx_idx, Wx_slice, Wx_call, Wx_bi, Wx_isi, Wx_meth, Wx_nil, Wx_cons, Wx_onone, Wx_osome, Wx_cnone, Wx_csome, Wx_add, Wx_addT, Wx_sub, Wx_mul, Wx_fdiv, Wx_mod, Wx_tbl, Wx_tint, Wx_eqI, Wx_eqS, Wx_eqB, Wx_neI, Wx_ltI, Wx_leI, Wx_gtI, Wx_geI, Wx_idxT, atD_0, atD_1, atD_2, Wx_abs, Wx_intI, Wx_intB, Wx_cutT, Wx_srcT, Wx_range, Wx_ret, Wx_cond, List.getElem?_cons_zero, List.getElem?_cons_succ, List.length_cons, List.length_nil, List.set_cons_zero, List.set_cons_succ, decide_eq_true_eq, bne_iff_ne, Wx_turn, wipeD, Bool.not_true, Bool.false_eq_true, if_false, Ws_nil]
  rw [Ws_cons, Ws_ite]
  simp only [Wx_var, Wx_con, Wx_glob, Wx_bin, Wx_neg, Wx_negI, Wx_not, Wx_cmp, Wx_and, Wx_or, Wx_ite, Wx_tup, Wx_lst, Wx_idx, Wx_slice, Wx_call, Wx_bi, Wx_isi, Wx_meth, Wx_nil, Wx_cons, Wx_onone, Wx_osome, Wx_cnone, Wx_csome, Wx_add, Wx_addT, Wx_sub, Wx_mul, Wx_fdiv, Wx_mod, Wx_tbl, Wx_tint, Wx_eqI, Wx_eqS, Wx_eqB, Wx_neI, Wx_ltI, Wx_leI, Wx_gtI, Wx_geI, Wx_idxT, atD_0, atD_1, atD_2, Wx_abs, Wx_intI, Wx_intB, Wx_cutT, Wx_srcT, Wx_range, Wx_ret, Wx_cond, List.getElem?_cons_zero, List.getElem?_cons_succ, List.length_cons, List.length_nil, List.set_cons_zero, List.set_cons_succ, decide_eq_true_eq, bne_iff_ne, Wx_turn, wipeD]
  refine w_node_count f.sz f (Nat.le_refl _) (by omega) _ _ _ _ (by omega) fun S8 p8 => ?_
  refine w_lnodes f.sz f (Nat.le_refl _) (by omega) _ _ _ _ (by omega) fun S9 p9 => ?_
  refine w_same 0 _ (tree_int 0 _) _ _ _ _ (by omega) fun S10 p10 => ?_
  simp only [Wx_var, Wx_con, Wx_glob, Wx_bin, Wx_neg, Wx_negI, Wx_not, Wx_cmp, Wx_and, Wx_or, Wx_ite, Wx_tup, Wx_lst, Wx_idx, Wx_slice, Wx_call, Wx_bi, Wx_isi, Wx_meth, Wx_nil, Wx_cons, Wx_onone, Wx_osome, Wx_cnone, Wx_csome, Wx_add, Wx_addT, Wx_sub, Wx_mul, Wx_fdiv, Wx_mod, Wx_tbl, Wx_tint, Wx_eqI, Wx_eqS, Wx_eqB, Wx_neI, Wx_ltI, Wx_leI, Wx_gtI, Wx_geI, Wx_idxT, atD_0, atD_1, atD_2, Wx_abs, Wx_intI, Wx_intB, Wx_cutT, Wx_srcT, Wx_range, Wx_ret, Wx_cond, List.getElem?_cons_zero, List.getElem?_cons_succ, List.length_cons, List.length_nil, List.set_cons_zero, List.set_cons_succ, decide_eq_true_eq, bne_iff_ne, Wx_turn, wipeD, Bool.not_true, Bool.false_eq_true, if_false]
  refine w_choices f.sz f (Nat.le_refl _) (by omega) _ _ _ _ (by omega) fun S11 p11 => ?_
  refine w_lmany f.sz f (Nat.le_refl _) (by omega) _ _ _ _ (by omega) fun S12 p12 => ?_
  refine w_same 0 _ (tree_int 0 _) _ _ _ _ (by omega) fun S13 p13 => ?_
  simp only [Wx_var, Wx_con, Wx_glob, Wx_bin, Wx_neg, Wx_negI, Wx_not, Wx_cmp, Wx_and, Wx_or, Wx_ite, Wx_tup, Wx_lst, Wx_idx, Wx_slice, Wx_call, Wx_bi, Wx_isi, Wx_meth, Wx_nil, Wx_cons, Wx_onone, Wx_osome, Wx_cnone, Wx_csome, Wx_add, Wx_addT, Wx_sub, Wx_mul, Wx_fdiv, Wx_mod, Wx_tbl, Wx_tint, Wx_eqI, Wx_eqS, Wx_eqB, Wx_neI, Wx_ltI, Wx_leI, Wx_gtI, Wx_geI, Wx_idxT, atD_0, atD_1, atD_2, Wx_abs, Wx_intI, Wx_intB, Wx_cutT, Wx_srcT, Wx_range, Wx_ret, Wx_cond, List.getElem?_cons_zero, List.getElem?_cons_succ, List.length_cons, List.length_nil, List.set_cons_zero, List.set_cons_succ, decide_eq_true_eq, bne_iff_ne, Wx_turn, wipeD, Bool.not_true, Bool.false_eq_true, if_false, Ws_nil]
  have pp : S3 <+: S13 := ((((p4.trans p5).trans (p6.trans p7)).trans (p8.trans p9)).trans (p10.trans p11)).trans (p12.trans p13)
  rw [Ws_cons, Ws_for]
  simp only [Wx_cons, Wx_nil, Wx_con]
  rw [Wx_range]
  refine ⟨by decide, ?_⟩
  refine law_turns (n := n + 3) (by omega) hs hf hm 3 0 S13 _ _ _ _ _ _ _ _ ((BoxAt.pre pp b3).less (by omega)) fun S' o5 o6 o7 o8 o9 o10 o11 o12 k5 => ?_
  rw [Ws_nil]
  refine hN S' _ _ _ _ _ _ _ _ _ _ _ ?_
  have e1 := get_app p1 hS
  exact ((k2.trans k3).trans ((Kp.pre pp).trans k5)).get e1 hbx
theorem law_cells {n : Nat} {ns : List Int} {S0 : Store} (hn : 40 ≤ n) : ∀ (c : Nat) (k : Int) (S : Store) (x1 x2 x3 x4 x5 x6 x7 x8 x9 x10 x11 x12 : Option D), 0 ≤ k → k + c ≤ 4 → S[0]? = some (.frz (ns.map D.int)) →
    (∀ S' o1 o2 o3 o4 o5 o6 o7 o8 o9 o10 o11 o12, N [some (.ref 0), o1, o2, o3, o4, o5, o6, o7, o8, o9, o10, o11, o12] S') →
    Ws (forD S0 [] (.name 1) (denSs (run P n) lawK) (rangeD k c) [some (.ref 0), x1, x2, x3, x4, x5, x6, x7, x8, x9, x10, x11, x12]) S N Q
  | 0, k, S, x1, x2, x3, x4, x5, x6, x7, x8, x9, x10, x11, x12, hk, hk4, hS, hN => by
    show Ws (forD S0 [] _ _ [] _) S N Q
    rw [Ws_for_nil]
    exact ⟨keptNil, hN S _ _ _ _ _ _ _ _ _ _ _ _⟩
  | c + 1, k, S, x1, x2, x3, x4, x5, x6, x7, x8, x9, x10, x11, x12, hk, hk4, hS, hN => by
    show Ws (forD S0 [] _ _ (.int k :: rangeD (k + 1) c) _) S N Q
    rw [Ws_for_cons]
    refine ⟨keptNil, ?_⟩
    simp only [asgD, List.set_cons_succ, List.set_cons_zero]
    refine law_cell hn hk (by omega) hS fun S' o2 o3 o4 o5 o6 o7 o8 o9 o10 o11 o12 h0 => ?_
    exact law_cells hn c (k + 1) S' _ _ _ _ _ _ _ _ _ _ _ _ (by omega) (by omega) h0 hN
end
theorem pure_law : ∀ ns : List Int, ns.length ≤ 63 → (∀ z ∈ ns, PySem.Builtin.Int.intBits z ≤ 1048576) → Sat (bodyD (fnsOf rows) (150 + 1) 46 [.ref 0] [Ob.frz (ns.map D.int)]) (fun d _ => d = .bl true) NoEx := by
  intro ns _ _
  have e : bodyD (fnsOf rows) (150 + 1) 46 [.ref 0] = endD (denSs (run P 150) b_law [some (.ref 0), none, none, none, none, none, none, none, none, none, none, none, none]) := rfl
  rw [e]
  show Wx (endD _) [Ob.frz (ns.map D.int)] (fun d _ => d = .bl true) NoEx
  rw [Wx_end]
  have eb : b_law = .cons (.for_ (.name 1) .range (.cons (.con (.int 4)) .nil) lawK) (.cons (.ret (.con (.bl true))) .nil) := rfl
  rw [eb, Ws_cons, Ws_for]
  simp only [Wx_cons, Wx_nil, Wx_con]
  rw [Wx_range]
  refine ⟨by decide, ?_⟩
  refine law_cells (by decide) 4 0 _ _ _ _ _ _ _ _ _ _ _ _ _ (by decide) (by decide) rfl fun S' o1 o2 o3 o4 o5 o6 o7 o8 o9 o10 o11 o12 => ?_
  rw [Ws_cons, Ws_ret]
  exact rfl
end K03

set_option Elab.async false
set_option linter.all false
set_option maxRecDepth 100000
set_option maxHeartbeats 0
namespace K03
open Ev
abbrev prog : PySem.Program := PySem.Challenge.pw_shrinksanyhow_k03_whole_worth_and_what_r
theorem rows_ok : rows.all (rowOk prog (fnsOf rows) cons) = true := by decide +kernel
theorem cons_ok : cons.all consOk = true := by decide +kernel
def names0 : List PySem.Str := ["divisor_of", "lowest", "times", "compared", "size_of", "greatest_of", "least_of", "sum_of", "inner_of", "counts", "node_count", "choice_count", "held_within", "node_value", "formula_value", "joined_choices", "side_of", "ruling_sum", "ruling_node", "ruling", "_law_box", "_law_take", "_law_pick", "_law_same", "_law_frac", "_law_plus", "_law_mult", "_law_turn", "_law_below", "_law_abs"]
def names1 : List PySem.Str := ["_law_top", "_law_number", "_law_weight", "_law_drawn_sum", "_law_drawn_node", "_law_drawn", "_law_inner", "_law_nodes", "_law_held", "_law_sums", "_law_many", "_law_set", "_law_worth", "_law_forced", "_law_ruling", "_law_alike", "SUM", "GREATEST", "LEAST", "SIZE", "HELD"]
def names : List PySem.Str := names0 ++ names1
abbrev R : PySem.W.OpenRow := PySem.W.OpenLaw.row PySem.Challenge.rw_shrinksanyhow_k03_whole_worth_and_what_r
abbrev fa : List He.Fa := faOf rows cons
abbrev ds : List He.DefD := rows.map (Ev.rowD prog)
abbrev hk : PySem.W.Hook := He.hookD 4 fa ds
def ob (s : PySem.W.SharedT) : He.AlD := He.obsDG 4 fa ds (HandSHeadRun.getT s)
theorem ob_eq (s : PySem.W.SharedT) : ob s = hk.obs s.abs := He.obsDG_eq (HandSHeadRun.getT_eq s)
theorem run (w : PySem.World) : HandSHeadRun.RunEq R (PySem.W.view R.prog [55]) hk ob 4000 names w := by
  intro os
  kernel_rfl
open PySem PySem.W PySem.Calls PyProof.Rows
theorem walk (pure : ∀ ns : List Int, ns.length ≤ 63 → (∀ z ∈ ns, Builtin.Int.intBits z ≤ 1048576) → Sat (bodyD (fnsOf rows) (150 + 1) 46 [.ref 0] [Ob.frz (ns.map D.int)]) (fun d _ => d = .bl true) NoEx) : PySem.Challenge.rw_shrinksanyhow_k03_whole_worth_and_what_r.Holds := by
  w_on; o_law
  refine HandSHeadRun.head_any (r := OpenLaw.row PySem.Challenge.rw_shrinksanyhow_k03_whole_worth_and_what_r) (q := view (OpenLaw.row PySem.Challenge.rw_shrinksanyhow_k03_whole_worth_and_what_r).prog [55]) (H := hk) (ob := ob) (M := 4000) (loose := names) (d := HandSHeadRun.topDef (OpenLaw.row PySem.Challenge.rw_shrinksanyhow_k03_whole_worth_and_what_r).prog 55) (kwd := []) ob_eq
    (by kernel_rfl) (fun s => by kernel_rfl) run (by kernel_rfl) (by kernel_rfl) (by kernel_rfl) (by rfl) (by first | assumption | decide +kernel) (by decide +kernel) ⟨rfl, rfl, rfl, rfl, rfl, by decide +kernel⟩ ?hw ?hc
  case hw => w_witness2
  case hc =>
    refine walk_ev (l := PySem.Challenge.rw_shrinksanyhow_k03_whole_worth_and_what_r) (n := 63) (x := "script") (fnsOf rows) cons 46 150 rfl (by decide) (by kernel_rfl) (by kernel_rfl) (by kernel_rfl) ⟨rfl, by decide, by decide⟩ ?F pure
    intro w mg fa h Y G hmg0
    obtain ⟨K, KX, c⟩ := Y
    have hmg : mg ("law" : PySem.Str) = some (.ref fa) := by
      have e : (HandSHeadRun.topDef (OpenLaw.row PySem.Challenge.rw_shrinksanyhow_k03_whole_worth_and_what_r).prog 55).name = ("law" : PySem.Str) := by kernel_rfl
      rw [← e]
      exact hmg0
    exact ⟨K, KX, hd_of (p := prog) (lr := ⟨f_law, 55⟩) KX G c rows_ok cons_ok rfl rfl hmg⟩

end K03
open PySem PySem.W PyProof.Rows
theorem PySem.Challenge.cw_shrinksanyhow_k03_whole_worth_and_what_r_holds : PySem.Challenge.rw_shrinksanyhow_k03_whole_worth_and_what_r.Holds :=
  K03.walk K03.pure_law
