import PyProof.Rows.All
import Wide.All
import OpenK.AllK
import Wide.FinOn
import PySem.Challenge.RW_gaprules_k04_least_strings
import PyProof.P3Statements
import PyProof.ReprReads
import HandS.ForMost
import HandS.ForExc
import HandS.Flow
import HandS.CallSlots
import KE.KDictKeyed
import HandS.Lambda
import HandS.TupAny
import HandS.StrMore
import HandS.Style
import HandS.Zip
import HandS.Defaults
import HandS.EndBits
import HandS.HeadHook3
import PyProof.Claim2Refuses
import KE.GoesEnum
import KE.GoesMore
import HandS.IsInst
import HandS.RaiseMore
import PyProof.ListStr
import PyProof.ReprRoads
import KE.SortCalls
import KE.DataCmp
import HandS.SortInts
import HandS.Dict
import HandS.ExcInit
import KE.KExcInit
import PyProof.ExcBaseAll.LookupError
import PyProof.ExcBaseAll.RuntimeError
import PyProof.ExcBaseAll.OverflowError
import HandS.TryMany
import HandS.ExcField
import HandS.ExcIs
import HandS.Head2
import HandS.HeadEnd
import KE.DataFind
import HandS.SetFor
import HandS.Strs
import HandS.DictComp
import HandS.Conv
import HandS.SetKeys
import HandS.Sort
import HandS.Replace
import KE.SortKeyHeap
import HandS.HeadHook4
import PyProof.StrLawsRepr
import PyProof.FitsInt
import KE.DataEq
import KE.SortData
set_option linter.all false
set_option maxRecDepth 100000
set_option Elab.async false
set_option maxHeartbeats 0
/-! MP: a small pure semantics of the Python subset that the program and the laws use: data as trees, mutable objects in a store, statements and expressions as combinators. Own work. -/
namespace MP
open PySem (PyData Str)

/-! ### data -/
inductive D where
  | non | bl (b : Bool) | int (i : Int) | str (s : List Nat) | tup (xs : List D) | ref (n : Nat)
  | exn (c : Nat) (fs : List (Nat × D))
  | lam (f : Nat) (env : List D)
  deriving Inhabited

namespace D
mutual
def beq : D → D → Bool
  | .non, .non => true
  | .bl a, .bl b => a == b
  | .int a, .int b => a == b
  | .str a, .str b => a == b
  | .tup a, .tup b => beqAll a b
  | .ref a, .ref b => a == b
  | .lam f a, .lam g b => f == g && beqAll a b
  | _, _ => false
def beqAll : List D → List D → Bool
  | [], [] => true
  | a :: as, b :: bs => beq a b && beqAll as bs
  | _, _ => false
end
mutual
/-- a key of a dict: ints, texts, None, tuples of such -/
def isKey : Nat → D → Bool
  | _, .non => true
  | _, .int _ => true
  | _, .str _ => true
  | n, .tup xs => (match n with | 0 => false | n + 1 => isKeys n xs)
  | _, _ => false
def isKeys : Nat → List D → Bool
  | _, [] => true
  | n, x :: xs => isKey n x && isKeys n xs
end
def isTup : D → Bool
  | .tup _ => true
  | _ => false
end D

/-! ### objects, the store -/
inductive Ob where
  | lst (xs : List D)
  | rol (xs : List D)
  | dct (kvs : List (D × D))
  | dtu (kvs : List (D × D))
  | fdt (kvs : List (D × D))
  | fdk (kvs : List (D × D))
  | ins (c : Nat) (fs : List (Nat × D))
  deriving Inhabited

inductive Trie where
  | leaf
  | node (v : Option Ob) (l r : Trie)
namespace Trie
def get : Trie → Nat → Option Ob
  | .leaf, _ => none
  | .node v l r, i => if i = 0 then v else if i % 2 = 1 then get l (i / 2) else get r (i / 2 - 1)
def setF : Nat → Trie → Nat → Ob → Trie
  | 0, t, _, _ => t
  | k + 1, .leaf, i, o => if i = 0 then .node (some o) .leaf .leaf else if i % 2 = 1 then .node none (setF k .leaf (i / 2) o) .leaf else .node none .leaf (setF k .leaf (i / 2 - 1) o)
  | k + 1, .node v l r, i, o => if i = 0 then .node (some o) l r else if i % 2 = 1 then .node v (setF k l (i / 2) o) r else .node v l (setF k r (i / 2 - 1) o)
theorem get_leaf (i : Nat) : get .leaf i = none := by cases i <;> rfl
theorem get_setF : ∀ (k : Nat) (t : Trie) (i j : Nat) (o : Ob), i < k → get (setF k t i o) j = if j = i then some o else get t j
  | 0, _, _, _, _, h => absurd h (Nat.not_lt_zero _)
  | k + 1, .leaf, i, j, o, h => by
    unfold setF
    by_cases hi : i = 0
    · subst hi
      rw [if_pos rfl]
      unfold get
      by_cases hj : j = 0
      · rw [if_pos hj, if_pos hj]
      · rw [if_neg hj, if_neg hj]
        split <;> rw [get_leaf]
    · rw [if_neg hi]
      by_cases ho : i % 2 = 1
      · rw [if_pos ho]
        show get (.node none (setF k .leaf (i / 2) o) .leaf) j = _
        unfold get
        by_cases hj : j = 0
        · rw [if_pos hj, if_neg (by omega)]
        · rw [if_neg hj]
          by_cases hjo : j % 2 = 1
          · rw [if_pos hjo, get_setF k .leaf (i / 2) (j / 2) o (by omega), get_leaf]
            by_cases e : j = i
            · rw [if_pos e, if_pos (by omega)]
            · rw [if_neg e, if_neg (by omega)]
          · rw [if_neg hjo, get_leaf, if_neg (by omega)]
      · rw [if_neg ho]
        show get (.node none .leaf (setF k .leaf (i / 2 - 1) o)) j = _
        unfold get
        by_cases hj : j = 0
        · rw [if_pos hj, if_neg (by omega)]
        · rw [if_neg hj]
          by_cases hjo : j % 2 = 1
          · rw [if_pos hjo, get_leaf, if_neg (by omega)]
          · rw [if_neg hjo, get_setF k .leaf (i / 2 - 1) (j / 2 - 1) o (by omega), get_leaf]
            by_cases e : j = i
            · rw [if_pos e, if_pos (by omega)]
            · rw [if_neg e, if_neg (by omega)]
  | k + 1, .node v l r, i, j, o, h => by
    unfold setF
    by_cases hi : i = 0
    · subst hi
      rw [if_pos rfl]
      unfold get
      by_cases hj : j = 0
      · rw [if_pos hj, if_pos hj]
      · rw [if_neg hj, if_neg hj, if_neg hj]
    · rw [if_neg hi]
      by_cases ho : i % 2 = 1
      · rw [if_pos ho]
        unfold get
        by_cases hj : j = 0
        · rw [if_pos hj, if_pos hj, if_neg (by omega)]
        · rw [if_neg hj, if_neg hj]
          by_cases hjo : j % 2 = 1
          · rw [if_pos hjo, if_pos hjo, get_setF k l (i / 2) (j / 2) o (by omega)]
            by_cases e : j = i
            · rw [if_pos e, if_pos (by omega)]
            · rw [if_neg e, if_neg (by omega)]
          · rw [if_neg hjo, if_neg hjo, if_neg (by omega)]
      · rw [if_neg ho]
        unfold get
        by_cases hj : j = 0
        · rw [if_pos hj, if_pos hj, if_neg (by omega)]
        · rw [if_neg hj, if_neg hj]
          by_cases hjo : j % 2 = 1
          · rw [if_pos hjo, if_pos hjo, if_neg (by omega)]
          · rw [if_neg hjo, if_neg hjo, get_setF k r (i / 2 - 1) (j / 2 - 1) o (by omega)]
            by_cases e : j = i
            · rw [if_pos e, if_pos (by omega)]
            · rw [if_neg e, if_neg (by omega)]
end Trie

structure Store where
  size : Nat
  t : Trie
namespace Store
def empty : Store := ⟨0, .leaf⟩
def get (S : Store) (n : Nat) : Option Ob := if n < S.size then S.t.get n else none
def set (S : Store) (n : Nat) (o : Ob) : Store := ⟨S.size, S.t.setF (S.size + 1) n o⟩
def push (S : Store) (o : Ob) : Store := ⟨S.size + 1, S.t.setF (S.size + 1) S.size o⟩
theorem size_push (S : Store) (o : Ob) : (S.push o).size = S.size + 1 := rfl
theorem size_set (S : Store) (n : Nat) (o : Ob) : (S.set n o).size = S.size := rfl
theorem get_lt {S : Store} {n : Nat} {o : Ob} (h : S.get n = some o) : n < S.size := by
  unfold get at h
  split at h
  · assumption
  · cases h
theorem get_push_same (S : Store) (o : Ob) : (S.push o).get S.size = some o := by
  show (if S.size < S.size + 1 then (S.t.setF (S.size + 1) S.size o).get S.size else none) = some o
  rw [if_pos (Nat.lt_succ_self _), Trie.get_setF _ _ _ _ _ (Nat.lt_succ_self _), if_pos rfl]
theorem get_push_lt {S : Store} {o : Ob} {n : Nat} (h : n < S.size) : (S.push o).get n = S.get n := by
  show (if n < S.size + 1 then (S.t.setF (S.size + 1) S.size o).get n else none) = (if n < S.size then S.t.get n else none)
  rw [if_pos (by omega), if_pos h, Trie.get_setF _ _ _ _ _ (Nat.lt_succ_self _), if_neg (by omega)]
theorem get_push_of {S : Store} {o o' : Ob} {n : Nat} (h : S.get n = some o) : (S.push o').get n = some o := by
  rw [get_push_lt (get_lt h)]; exact h
theorem get_set_same {S : Store} {n : Nat} (o : Ob) (h : n < S.size) : (S.set n o).get n = some o := by
  show (if n < S.size then (S.t.setF (S.size + 1) n o).get n else none) = some o
  rw [if_pos h, Trie.get_setF _ _ _ _ _ (by omega), if_pos rfl]
theorem get_set_ne {S : Store} {n k : Nat} (o : Ob) (hn : n < S.size) (h : k ≠ n) : (S.set n o).get k = S.get k := by
  show (if k < S.size then (S.t.setF (S.size + 1) n o).get k else none) = (if k < S.size then S.t.get k else none)
  rw [Trie.get_setF _ _ _ _ _ (by omega), if_neg h]
end Store

/-! ### results -/
abbrev Fs := List (Nat × D)
inductive R (α : Type) where
  | ok (a : α) (S : Store)
  | ex (c : Nat) (fs : Fs) (S : Store)
  | bad
abbrev M (α : Type) := Store → R α
namespace M
def ret {α} (a : α) : M α := fun S => .ok a S
def bad {α} : M α := fun _ => .bad
def bind {α β} (m : M α) (f : α → M β) : M β := fun S => match m S with
  | .ok a S' => f a S'
  | .ex c fs S' => .ex c fs S'
  | .bad => .bad
def opt {α} : Option α → M α
  | some a => ret a
  | none => bad
def guard (b : Bool) : M Unit := fun S => if b = true then .ok () S else .bad
end M
instance : Monad M where
  pure := M.ret
  bind := M.bind
theorem bind_def {α β} (m : M α) (f : α → M β) : (m >>= f) = M.bind m f := rfl
theorem pure_def {α} (a : α) : (pure a : M α) = M.ret a := rfl

/-- what raises nothing -/
abbrev P (α : Type) := Store → Option (α × Store)
namespace P
def ret {α} (a : α) : P α := fun S => some (a, S)
def bad {α} : P α := fun _ => none
end P
def M.of {α} (p : P α) : M α := fun S => match p S with
  | some (a, S') => .ok a S'
  | none => .bad
abbrev Slots := List (Option D)
structure Cfg where
  call : Nat → List D → M D
abbrev ME := Cfg → Slots → M D
abbrev MA := Cfg → Slots → M (List D)
abbrev MT := Cfg → Slots → M Bool
inductive SR where
  | nx (σ : Slots) (S : Store)
  | rt (d : D) (S : Store)
  | bk (σ : Slots) (S : Store)
  | ct (σ : Slots) (S : Store)
  | ex (c : Nat) (fs : Fs) (σ : Slots) (S : Store)
  | bad
abbrev MS := Cfg → Slots → Store → SR

/-- the largest size -/
def line : Nat := 16777216

/-! ### allocation, reading -/
def mkL (xs : List D) : P D := fun S => if xs.length ≤ line then some (.ref S.size, S.push (.lst xs)) else none
def mkT (xs : List D) : P D := fun S => if xs.length ≤ line then some (.tup xs, S) else none
/-- the items of a list, by its place -/
def lstAt (S : Store) (n : Nat) : Option (List D) := match S.get n with
  | some (.lst xs) => some xs
  | some (.rol xs) => some xs
  | _ => none
/-- the items of a list or a tuple -/
def seqOf (S : Store) : D → Option (List D)
  | .tup xs => some xs
  | .ref n => lstAt S n
  | _ => none

/-! ### snapshots: a value as data of any depth -/
def optAll {α β : Type} (f : α → Option β) : List α → Option (List β)
  | [] => some []
  | x :: xs => (match f x, optAll f xs with
    | some a, some b => some (a :: b)
    | _, _ => none)
def snap (S : Store) : Nat → D → Option PyData
  | 0, _ => none
  | _ + 1, .non => some .none
  | _ + 1, .bl b => some (.bool b)
  | _ + 1, .int i => some (.int i)
  | _ + 1, .str s => some (.str ⟨s.toArray⟩)
  | k + 1, .tup xs => (optAll (snap S k) xs).map .tuple
  | k + 1, .ref n => (match lstAt S n with
    | some xs => (optAll (snap S k) xs).map .list
    | none => none)
  | _ + 1, .exn _ _ => none
  | _ + 1, .lam _ _ => none
def snaps (S : Store) (k : Nat) (xs : List D) : Option (List PyData) := optAll (snap S k) xs
/-- the deepest data that are compared, shown -/
def deep : Nat := 40

/-! ### expressions -/
def fget (f : Nat) : Fs → Option D
  | [] => none
  | (g, x) :: r => if g = f then some x else fget f r
def fput (f : Nat) (v : D) : Fs → Fs
  | [] => [(f, v)]
  | (g, x) :: r => if g = f then (g, v) :: r else (g, x) :: fput f v r
def isX : D → Bool
  | .exn _ _ => true
  | _ => false
def eVar (i : Nat) : ME := fun _ σ S => match σ[i]? with
  | some (some d) => if isX d = true then .bad else .ok d S
  | _ => .bad
/-- e.f, e the exception in slot i -/
def eXf (i f : Nat) : ME := fun _ σ S => match σ[i]? with
  | some (some (.exn _ fs)) => (match fget f fs with
    | some d => .ok d S
    | none => .bad)
  | _ => .bad
def eC (d : D) : ME := fun _ _ S => .ok d S
def aNil : MA := fun _ _ S => .ok [] S
def aCons (a : ME) (r : MA) : MA := fun C σ => (a C σ).bind fun x => (r C σ).bind fun xs => M.ret (x :: xs)
def eTup (a : MA) : ME := fun C σ => (a C σ).bind fun xs => M.of (mkT xs)
def eLst (a : MA) : ME := fun C σ => (a C σ).bind fun xs => M.of (mkL xs)
def e1 (f : D → P D) (a : ME) : ME := fun C σ => (a C σ).bind fun x => M.of (f x)
def e2 (f : D → D → P D) (a b : ME) : ME := fun C σ => (a C σ).bind fun x => (b C σ).bind fun y => M.of (f x y)

/-- a factor that is small -/
def small64 (i : Int) : Bool := decide (-18446744073709551616 < i) && decide (i < 18446744073709551616)
def repeatL {α} (n : Nat) (xs : List α) : List α := (List.replicate n xs).flatten
def opAdd : D → D → P D
  | .int i, .int j => P.ret (.int (i + j))
  | .str a, .str b => fun S => if a.length + b.length ≤ line then some (.str (a ++ b), S) else none
  | .tup a, .tup b => fun S => if a.length + b.length ≤ line then some (.tup (a ++ b), S) else none
  | .ref a, .ref b => fun S => match S.get a, S.get b with
    | some (.lst xs), some (.lst ys) => if xs.length + ys.length ≤ line then some (.ref S.size, S.push (.lst (xs ++ ys))) else none
    | _, _ => none
  | _, _ => P.bad
/-- += of ints, texts, tuples -/
def opIAdd : D → D → P D
  | .int i, .int j => P.ret (.int (i + j))
  | _, _ => P.bad
def opSub : D → D → P D
  | .int i, .int j => P.ret (.int (i - j))
  | _, _ => P.bad
def opMul : D → D → P D
  | .int i, .int j => fun S => if (small64 i || small64 j) = true then some (.int (i * j), S) else none
  | .str a, .int k => fun S => if 0 ≤ k ∧ k < 1000000 ∧ a.length * k.toNat ≤ line then some (.str (repeatL k.toNat a), S) else none
  | .ref a, .int k => fun S => match S.get a with
    | some (.lst xs) => if 0 ≤ k ∧ k < 1000000 ∧ xs.length * k.toNat ≤ line then some (.ref S.size, S.push (.lst (repeatL k.toNat xs))) else none
    | _ => none
  | _, _ => P.bad
def opDiv : D → D → P D
  | .int i, .int j => fun S => if j ≠ 0 ∧ j.natAbs < 1073741824 then some (.int (i.fdiv j), S) else none
  | _, _ => P.bad
def opMod : D → D → P D
  | .int i, .int j => fun S => if j ≠ 0 then some (.int (i.fmod j), S) else none
  | _, _ => P.bad
def opPow : D → D → P D
  | .int i, .int j => fun S => if 0 ≤ j ∧ j ≤ 1000000 ∧ i.natAbs < 18446744073709551616 then some (.int (i ^ j.toNat), S) else none
  | _, _ => P.bad
def opNeg : D → P D
  | .int i => P.ret (.int (-i))
  | _ => P.bad

/-! ### comparisons -/
/-- the first list is less -/
def ltN : List Nat → List Nat → Bool
  | [], [] => false
  | [], _ :: _ => true
  | _ :: _, [] => false
  | a :: r, b :: t => decide (a < b) || (decide (a = b) && ltN r t)
/-- what is ordered: ints, texts, tuples of such -/
inductive Sig where
  | int | str | tup (ss : List Sig)
mutual
def Sig.beq : Sig → Sig → Bool
  | .int, .int => true
  | .str, .str => true
  | .tup a, .tup b => Sig.beqs a b
  | _, _ => false
def Sig.beqs : List Sig → List Sig → Bool
  | [], [] => true
  | a :: r, b :: t => Sig.beq a b && Sig.beqs r t
  | _, _ => false
end
mutual
def sigOf : Nat → D → Option Sig
  | _, .int _ => some .int
  | _, .str _ => some .str
  | 0, .tup _ => none
  | k + 1, .tup xs => (sigsOf k xs).map .tup
  | _, _ => none
def sigsOf : Nat → List D → Option (List Sig)
  | _, [] => some []
  | k, x :: xs => (match sigOf k x, sigsOf k xs with
    | some a, some b => some (a :: b)
    | _, _ => none)
end
mutual
/-- the order of data of one signature -/
def ltD : D → D → Bool
  | .int i, .int j => decide (i < j)
  | .str a, .str b => ltN a b
  | .tup a, .tup b => ltDs a b
  | _, _ => false
def ltDs : List D → List D → Bool
  | [], [] => false
  | [], _ :: _ => true
  | _ :: _, [] => false
  | a :: r, b :: t => if D.beq a b = true then ltDs r t else ltD a b
end
def oneSig (x y : D) : Bool := match sigOf 16 x, sigOf 16 y with
  | some a, some b => Sig.beq a b
  | _, _ => false
/-- data that can be ordered, whatever their lengths: tuples of ints -/
def isInts : D → Bool
  | .tup xs => xs.all fun d => match d with | .int _ => true | _ => false
  | _ => false
def orderable (x y : D) : Bool := match x, y with
  | .int _, .int _ => true
  | .str _, .str _ => true
  | _, _ => false
def opLt (x y : D) : P D := fun S => if orderable x y = true then some (.bl (ltD x y), S) else none
def opGt (x y : D) : P D := fun S => if orderable x y = true then some (.bl (ltD y x), S) else none
def opLe (x y : D) : P D := fun S => if orderable x y = true then some (.bl (!ltD y x), S) else none
def opGe (x y : D) : P D := fun S => if orderable x y = true then some (.bl (!ltD x y), S) else none
def eqD (S : Store) (x y : D) : Option Bool := match snap S deep x, snap S deep y with
  | some a, some b => some (PyData.eqv a b)
  | _, _ => none
def opEq (x y : D) : P D := fun S => match eqD S x y with
  | some b => some (.bl b, S)
  | none => none
def opNe (x y : D) : P D := fun S => match eqD S x y with
  | some b => some (.bl (!b), S)
  | none => none
def isNonB : D → Bool
  | .non => true
  | _ => false
/-- x is None -/
def opIs (x y : D) : P D := match y with
  | .non => P.ret (.bl (isNonB x))
  | .bl b => (match x with
    | .bl a => P.ret (.bl (decide (a = b)))
    | _ => P.bad)
  | _ => P.bad
def opIsNot (x y : D) : P D := match y with
  | .non => P.ret (.bl (!isNonB x))
  | .bl b => (match x with
    | .bl a => P.ret (.bl (!decide (a = b)))
    | _ => P.bad)
  | _ => P.bad
/-- the text a stands within b -/
def within (a : List Nat) : List Nat → Bool
  | [] => a.isEmpty
  | c :: r => a.isPrefixOf (c :: r) || within a r
def memD (a : PyData) : List PyData → Bool
  | [] => false
  | y :: r => PyData.eqv y a || memD a r
def dget (k : D) : List (D × D) → Option D
  | [] => none
  | (a, b) :: r => if D.beq a k = true then some b else dget k r
def dput (k v : D) (l : List (D × D)) : List (D × D) :=
  if (l.any fun p => D.beq p.1 k) = true then l.map (fun p => if D.beq p.1 k = true then (p.1, v) else p) else l ++ [(k, v)]
/-- a key of a dict: an int, a text -/
def keyFits (k : D) (_ : List (D × D)) : Bool := match k with
  | .int _ => true
  | .str _ => true
  | _ => false
def inD (S : Store) (x y : D) : Option Bool := match y with
  | .str b => (match x with
    | .str a => some (within a b)
    | _ => none)
  | .tup xs => (match snap S deep x, snaps S deep xs with
    | some a, some bs => some (memD a bs)
    | _, _ => none)
  | .ref n => (match S.get n with
    | some (.dct kvs) => if keyFits x kvs = true then some (dget x kvs).isSome else none
    | _ => (match lstAt S n with
      | some xs => (match snap S deep x, snaps S deep xs with
        | some a, some bs => some (memD a bs)
        | _, _ => none)
      | none => none))
  | _ => none
def opIn (x y : D) : P D := fun S => match inD S x y with
  | some b => some (.bl b, S)
  | none => none
def opNotIn (x y : D) : P D := fun S => match inD S x y with
  | some b => some (.bl (!b), S)
  | none => none

/-! ### tests -/
def truth (S : Store) : D → Option Bool
  | .non => some false
  | .bl b => some b
  | .int i => some (i != 0)
  | .str s => if s.length ≤ line then some (!s.isEmpty) else none
  | .tup xs => some (!xs.isEmpty)
  | .ref n => (match lstAt S n with
    | some xs => some (!xs.isEmpty)
    | none => none)
  | _ => none
/-- a bool -/
def asB : D → P Bool
  | .bl b => P.ret b
  | _ => P.bad
def tB (a : ME) : MT := fun C σ => (a C σ).bind fun x => M.of (asB x)
def truthP (x : D) : P Bool := fun S => match truth S x with
  | some b => some (b, S)
  | none => none
def tV (a : ME) : MT := fun C σ => (a C σ).bind fun x => M.of (truthP x)
def tNot (t : MT) : MT := fun C σ => (t C σ).bind fun b => M.ret (!b)
def tAnd (t u : MT) : MT := fun C σ => (t C σ).bind fun b => if b = true then u C σ else M.ret false
def tOr (t u : MT) : MT := fun C σ => (t C σ).bind fun b => if b = true then M.ret true else u C σ
/-- as values -/
def eAnd (a b : ME) : ME := fun C σ => (tB a C σ).bind fun c => if c = true then b C σ else M.ret (.bl false)
def eOr (a b : ME) : ME := fun C σ => (tB a C σ).bind fun c => if c = true then M.ret (.bl true) else b C σ
def eNot (a : ME) : ME := fun C σ => (tB a C σ).bind fun c => M.ret (.bl (!c))
def eIf (t : MT) (a b : ME) : ME := fun C σ => (t C σ).bind fun c => if c = true then a C σ else b C σ
/-- a op1 b op2 c -/
def eChain (f g : D → D → P D) (a b c : ME) : ME := fun C σ => (a C σ).bind fun x => (b C σ).bind fun y => (M.of (f x y)).bind fun r => (M.of (asB r)).bind fun k =>
  if k = true then (c C σ).bind fun z => M.of (g y z) else M.ret (.bl false)

/-! ### items, slices -/
def ixN (n : Nat) (i : Int) : Option Nat := if 0 ≤ i then (if i < n then some i.toNat else none) else if -(n : Int) ≤ i then some (i + n).toNat else none
def atI {α : Type} (xs : List α) (i : Int) : Option α := (ixN xs.length i).bind fun j => xs[j]?
def getItem (S : Store) (x y : D) : Option D := match x with
  | .str s => (match y with
    | .int i => if s.length ≤ line then (atI s i).map fun c => .str [c] else none
    | _ => none)
  | .tup xs => (match y with
    | .int i => atI xs i
    | _ => none)
  | .ref n => (match S.get n with
    | some (.dct kvs) => if keyFits y kvs = true then dget y kvs else none
    | some (.lst xs) => (match y with
      | .int i => atI xs i
      | _ => none)
    | some (.rol xs) => (match y with
      | .int i => atI xs i
      | _ => none)
    | _ => none)
  | _ => none
def opItem (x y : D) : P D := fun S => match getItem S x y with
  | some d => some (d, S)
  | none => none
def sIx (n d : Nat) : Option Int → Nat
  | none => d
  | some v => if v < 0 then (max (v + (n : Int)) 0).toNat else min v.toNat n
def cut {α : Type} (xs : List α) (lo hi : Option Int) : List α := (xs.drop (sIx xs.length 0 lo)).take (sIx xs.length xs.length hi - sIx xs.length 0 lo)
def partI : Option D → Option (Option Int)
  | none => some none
  | some (.int i) => some (some i)
  | _ => none
def opCut (x : D) (lo hi : Option Int) : P D := match x with
  | .str s => fun S => if s.length ≤ line then some (.str (cut s lo hi), S) else none
  | .tup xs => P.ret (.tup (cut xs lo hi))
  | .ref n => fun S => match lstAt S n with
    | some xs => if xs.length ≤ line then some (.ref S.size, S.push (.lst (cut xs lo hi))) else none
    | none => none
  | _ => P.bad
def pNone : Cfg → Slots → M (Option Int) := fun _ _ S => .ok none S
def asI : D → P (Option Int)
  | .int i => P.ret (some i)
  | _ => P.bad
def pSome (a : ME) : Cfg → Slots → M (Option Int) := fun C σ => (a C σ).bind fun x => M.of (asI x)
def eCut (a : ME) (lo hi : Cfg → Slots → M (Option Int)) : ME := fun C σ => (a C σ).bind fun x => (lo C σ).bind fun l => (hi C σ).bind fun h => M.of (opCut x l h)
/-- xs[::-1] -/
def opRev (x : D) : P D := match x with
  | .ref n => fun S => match S.get n with
    | some (.lst xs) => some (.ref S.size, S.push (.lst xs.reverse))
    | _ => none
  | _ => P.bad

/-! ### instances -/
/-- o.f, o of one of the classes cs -/
def opFld (cs : List Nat) (f : Nat) (x : D) : P D := match x with
  | .ref n => fun S => match S.get n with
    | some (.ins c fs) => if cs.contains c = true then (match fget f fs with
      | some d => some (d, S)
      | none => none) else none
    | _ => none
  | _ => P.bad
def eFld (cs : List Nat) (f : Nat) (a : ME) : ME := e1 (opFld cs f) a
/-- f(..); dd: the defaults that fill up -/
def eCall (f : Nat) (a : MA) (dd : List D) : ME := fun C σ => (a C σ).bind fun xs => C.call f (xs ++ dd)
/-- o.m(..): by the class of o -/
def methOf (S : Store) (tbl : List (Nat × Nat)) : D → Option Nat
  | .ref n => (match S.get n with
    | some (.ins c _) => (tbl.find? fun p => p.1 == c).map (·.2)
    | _ => none)
  | _ => none
def eMeth (tbl : List (Nat × Nat)) (o : ME) (a : MA) (dd : List D) : ME := fun C σ => (o C σ).bind fun x S => match methOf S tbl x with
  | some f => ((a C σ).bind fun xs => C.call f (x :: (xs ++ dd))) S
  | none => .bad
/-- C(..): a new instance, then __init__ -/
def eNew (c f : Nat) (a : MA) (dd : List D) : ME := fun C σ => (a C σ).bind fun xs S => match C.call f (.ref S.size :: (xs ++ dd)) (S.push (.ins c [])) with
  | .ok .non S' => .ok (.ref S.size) S'
  | .ok _ _ => .bad
  | .ex c fs S' => .ex c fs S'
  | .bad => .bad

/-! ### targets -/
inductive Tg where
  | nm (i : Nat)
  | tp (ts : List Tg)
mutual
def asg (S : Store) : Tg → D → Slots → Option Slots
  | .nm i, d, σ => if i < σ.length then some (σ.set i (some d)) else none
  | .tp ts, d, σ => (match seqOf S d with
    | some xs => asgs S ts xs σ
    | none => none)
def asgs (S : Store) : List Tg → List D → Slots → Option Slots
  | [], [], σ => some σ
  | t :: ts, x :: xs, σ => (match asg S t x σ with
    | some σ' => asgs S ts xs σ'
    | none => none)
  | _, _, _ => none
end

/-! ### what is walked -/
inductive It where
  | seq (xs : List D)
  | lst (n : Nat)
  | enum (i : It)
  | zip (strict : Bool) (is : List It)
  | dK (n k : Nat) | dV (n k : Nat) | dI (n k : Nat)
mutual
/-- at turn i: none: stuck; some none: the end; some (some d): the item d -/
def It.next (S : Store) : It → Nat → Option (Option D)
  | .seq xs, i => some xs[i]?
  | .lst n, i => (match lstAt S n with
    | some xs => some xs[i]?
    | none => none)
  | .enum t, i => (match It.next S t i with
    | some (some d) => some (some (.tup [.int i, d]))
    | some none => some none
    | none => none)
  | .zip strict ts, i => (match It.nexts S ts i with
    | none => none
    | some ds => if ds.all Option.isSome = true then some (some (.tup (ds.filterMap id))) else if strict = true then (if ds.all Option.isNone = true then some none else none) else some none)
  | .dK n k, i => (match S.get n with
    | some (.dct kvs) => if kvs.length = k then some (kvs[i]?.map (·.1)) else none
    | _ => none)
  | .dV n k, i => (match S.get n with
    | some (.dct kvs) => if kvs.length = k then some (kvs[i]?.map (·.2)) else none
    | _ => none)
  | .dI n k, i => (match S.get n with
    | some (.dct kvs) => if kvs.length = k then some (kvs[i]?.map fun p => .tup [p.1, p.2]) else none
    | _ => none)
def It.nexts (S : Store) : List It → Nat → Option (List (Option D))
  | [], _ => some []
  | t :: ts, i => (match It.next S t i, It.nexts S ts i with
    | some a, some b => some (a :: b)
    | _, _ => none)
end
abbrev MI := Cfg → Slots → M It
def itOf (S : Store) : D → Option It
  | .str s => some (.seq (s.map fun c => .str [c]))
  | .tup xs => some (.seq xs)
  | .ref n => (match S.get n with
    | some (.lst _) => some (.lst n)
    | some (.rol _) => some (.lst n)
    | _ => none)
  | _ => none
def itP (x : D) : P It := fun S => (itOf S x).map fun t => (t, S)
def itI (x : D) : P It := fun S => match x with
  | .ref n => (match S.get n with
    | some (.dct kvs) => some (.dI n kvs.length, S)
    | _ => none)
  | _ => none
def itV (x : D) : P It := fun S => match x with
  | .ref n => (match S.get n with
    | some (.dct kvs) => some (.dV n kvs.length, S)
    | _ => none)
  | _ => none
def i1 (f : D → P It) (a : ME) : MI := fun C σ => (a C σ).bind fun x => M.of (f x)
def i2 (f : D → D → P It) (a b : ME) : MI := fun C σ => (a C σ).bind fun x => (b C σ).bind fun y => M.of (f x y)
abbrev iSeq : ME → MI := i1 itP
abbrev iItems : ME → MI := i1 itI
abbrev iValues : ME → MI := i1 itV
/-- lo, lo + c, .. (n of them) -/
def rangeL (lo c : Int) : Nat → List D
  | 0 => []
  | n + 1 => .int lo :: rangeL (lo + c) c n
def okR (i : Int) : Bool := decide (-4611686018427387904 ≤ i) && decide (i < 4611686018427387904)
def rg1 : D → P It
  | .int j => fun S => if okR j = true then some (.seq (rangeL 0 1 j.toNat), S) else none
  | _ => P.bad
def rg2 : D → D → P It
  | .int i, .int j => fun S => if (okR i && okR j) = true then some (.seq (rangeL i 1 (j - i).toNat), S) else none
  | _, _ => P.bad
def rgD : D → D → P It
  | .int i, .int j => fun S => if (okR i && okR j) = true then some (.seq (rangeL i (-1) (i - j).toNat), S) else none
  | _, _ => P.bad
abbrev iRange1 : ME → MI := i1 rg1
abbrev iRange2 : ME → ME → MI := i2 rg2
/-- range(a, b, -1) -/
abbrev iRangeD : ME → ME → MI := i2 rgD
def iEnum (t : MI) : MI := fun C σ => (t C σ).bind fun i => M.ret (.enum i)
def iZip2 (strict : Bool) (t u : MI) : MI := fun C σ => (t C σ).bind fun i => (u C σ).bind fun j => M.ret (.zip strict [i, j])
def iZip3 (strict : Bool) (t u v : MI) : MI := fun C σ => (t C σ).bind fun i => (u C σ).bind fun j => (v C σ).bind fun k => M.ret (.zip strict [i, j, k])

/-! ### statements -/
def lift (m : M α) (σ : Slots) (S : Store) (k : α → Store → SR) : SR := match m S with
  | .ok a S' => k a S'
  | .ex c fs S' => .ex c fs σ S'
  | .bad => .bad
def sPass : MS := fun _ σ S => .nx σ S
def sBreak : MS := fun _ σ S => .bk σ S
def sCont : MS := fun _ σ S => .ct σ S
def sSeq (a b : MS) : MS := fun C σ S => match a C σ S with
  | .nx σ' S' => b C σ' S'
  | r => r
def sSet (t : Tg) (a : ME) : MS := fun C σ S => lift (a C σ) σ S fun x S' => match asg S' t x σ with
  | some σ' => .nx σ' S'
  | none => .bad
def sExpr (a : ME) : MS := fun C σ S => lift (a C σ) σ S fun _ S' => .nx σ S'
def sRet (a : ME) : MS := fun C σ S => lift (a C σ) σ S fun x S' => .rt x S'
def sRetN : MS := fun _ _ S => .rt .non S
def sIf (t : MT) (a b : MS) : MS := fun C σ S => lift (t C σ) σ S fun c S' => if c = true then a C σ S' else b C σ S'
def sRaise (c : Nat) (fn : List Nat) (a : MA) : MS := fun C σ S => match a C σ S with
  | .ok xs S' => if xs.length = fn.length then .ex c (fn.zip xs) σ S' else .bad
  | .ex c fs S' => .ex c fs σ S'
  | .bad => .bad
/-- o.f = v: v first, then o -/
def putFld (cs : List Nat) (f : Nat) (x v : D) : P Unit := match x with
  | .ref n => fun S => match S.get n with
    | some (.ins c fs) => if (cs.contains c && decide (fs.length < 900)) = true then some ((), S.set n (.ins c (fput f v fs))) else none
    | _ => none
  | _ => P.bad
def sFld (cs : List Nat) (f : Nat) (o v : ME) : MS := fun C σ S => lift (v C σ) σ S fun y S1 => lift (o C σ) σ S1 fun x S2 => lift (M.of (putFld cs f x y)) σ S2 fun _ S3 => .nx σ S3
/-- o.f op= v -/
def sFldAug (cs : List Nat) (f : Nat) (op : D → D → P D) (o v : ME) : MS := fun C σ S => lift (o C σ) σ S fun x S1 => lift (M.of (opFld cs f x)) σ S1 fun old S2 => lift (v C σ) σ S2 fun y S3 =>
  lift (M.of (op old y)) σ S3 fun z S4 => lift (M.of (putFld cs f x z)) σ S4 fun _ S5 => .nx σ S5
/-- o[i] = v -/
def putItem (x i v : D) : P Unit := match x with
  | .ref n => fun S => match S.get n with
    | some (.lst xs) => (match i with
      | .int k => (match ixN xs.length k with
        | some j => some ((), S.set n (.lst (xs.set j v)))
        | none => none)
      | _ => none)
    | some (.dct kvs) => if (keyFits i kvs && decide (kvs.length < line)) = true then some ((), S.set n (.dct (dput i v kvs))) else none
    | _ => none
  | _ => P.bad
def sItem (o i v : ME) : MS := fun C σ S => lift (v C σ) σ S fun y S1 => lift (o C σ) σ S1 fun x S2 => lift (i C σ) σ S2 fun k S3 => lift (M.of (putItem x k y)) σ S3 fun _ S4 => .nx σ S4
/-- o[i] op= v -/
def sItemAug (op : D → D → P D) (o i v : ME) : MS := fun C σ S => lift (o C σ) σ S fun x S1 => lift (i C σ) σ S1 fun k S2 => lift (M.of (opItem x k)) σ S2 fun old S3 => lift (v C σ) σ S3 fun y S4 =>
  lift (M.of (op old y)) σ S4 fun z S5 => lift (M.of (putItem x k z)) σ S5 fun _ S6 => .nx σ S6
/-- x op= v, x in slot i -/
def sAug (i : Nat) (op : D → D → P D) (v : ME) : MS := fun C σ S => lift (eVar i C σ) σ S fun old S1 => lift (v C σ) σ S1 fun y S2 => lift (M.of (op old y)) σ S2 fun z S3 =>
  if i < σ.length then .nx (σ.set i (some z)) S3 else .bad
/-- a, b = x, y -/
def sPar (i j : Nat) (a b : ME) : MS := fun C σ S => lift (a C σ) σ S fun x S1 => lift (b C σ) σ S1 fun y S2 => if i < σ.length ∧ j < σ.length then .nx ((σ.set i (some x)).set j (some y)) S2 else .bad

/-- the most turns of a loop -/
def turns : Nat := 1152921504606846976
def whileN (t : MT) (b : MS) (C : Cfg) : Nat → Slots → Store → SR
  | 0, _, _ => .bad
  | n + 1, σ, S => lift (t C σ) σ S fun c S1 => if c = true then (match b C σ S1 with
    | .nx σ' S' => whileN t b C n σ' S'
    | .ct σ' S' => whileN t b C n σ' S'
    | .bk σ' S' => .nx σ' S'
    | .rt d S' => .rt d S'
    | .ex c fs σ' S' => .ex c fs σ' S'
    | .bad => .bad) else .nx σ S1
def sWhile (t : MT) (b : MS) : MS := fun C σ S => whileN t b C turns σ S
def forN (t : It) (g : Tg) (b : MS) (C : Cfg) : Nat → Nat → Slots → Store → SR
  | 0, _, _, _ => .bad
  | n + 1, i, σ, S => match t.next S i with
    | none => .bad
    | some none => .nx σ S
    | some (some d) => (match asg S g d σ with
      | none => .bad
      | some σ1 => (match b C σ1 S with
        | .nx σ' S' => forN t g b C n (i + 1) σ' S'
        | .ct σ' S' => forN t g b C n (i + 1) σ' S'
        | .bk σ' S' => .nx σ' S'
        | .rt d S' => .rt d S'
        | .ex c fs σ' S' => .ex c fs σ' S'
        | .bad => .bad))
def sFor (g : Tg) (t : MI) (b : MS) : MS := fun C σ S => lift (t C σ) σ S fun i S1 => forN i g b C turns 0 σ S1

/-! ### comprehensions: own names are wiped behind -/
/-- one clause: f is asked at each item that passes the tests -/
def compN (t : It) (g : Tg) (c : MT) (f : Slots → M Unit) (C : Cfg) (σ : Slots) : Nat → Nat → M Unit
  | 0, _ => M.bad
  | n + 1, i => fun S => match t.next S i with
    | none => .bad
    | some none => .ok () S
    | some (some d) => (match asg S g d σ with
      | none => .bad
      | some σ1 => (match c C σ1 S with
        | .ok true S1 => (match f σ1 S1 with
          | .ok _ S' => compN t g c f C σ n (i + 1) S'
          | .ex _ _ _ => .bad
          | .bad => .bad)
        | .ok false S1 => compN t g c f C σ n (i + 1) S1
        | .ex _ _ _ => .bad
        | .bad => .bad))
/-- a comprehension's element, appended to the list at D -/
def emit (e : ME) (D : Nat) (C : Cfg) (σ : Slots) : M Unit := fun S => match e C σ S with
  | .ok d S' => (match S'.get D with
    | some (.lst acc) => if acc.length < line then .ok () (S'.set D (.lst (acc ++ [d]))) else .bad
    | _ => .bad)
  | _ => .bad
/-- own: the slots of the comprehension's own names -/
def wipe (σ : Slots) : List Nat → Slots
  | [] => σ
  | i :: r => wipe (σ.set i none) r
def tYes : MT := fun _ _ S => .ok true S
/-- [e for g in t if c] -/
def eLc (e : ME) (g : Tg) (t : MI) (c : MT) (own : List Nat) : ME := fun C σ => (t C σ).bind fun i S => match compN i g c (emit e S.size C) C (wipe σ own) turns 0 (S.push (.lst [])) with
  | .ok _ S' => .ok (.ref S.size) S'
  | _ => .bad
/-- [e for g in t if c for g1 in t1 if c1] -/
def eLc2 (e : ME) (g : Tg) (t : MI) (c : MT) (g1 : Tg) (t1 : MI) (c1 : MT) (own own1 : List Nat) : ME := fun C σ => (t C σ).bind fun i S =>
  match compN i g c (fun σ1 => (t1 C σ1).bind fun j => compN j g1 c1 (emit e S.size C) C (wipe σ1 own1) turns 0) C (wipe σ own) turns 0 (S.push (.lst [])) with
  | .ok _ S' => .ok (.ref S.size) S'
  | _ => .bad
/-- {k: v for g in t if c} -/
def emitD (k v : ME) (D : Nat) (C : Cfg) (σ : Slots) : M Unit := fun S => match k C σ S with
  | .ok x S1 => (match v C σ S1 with
    | .ok y S2 => (match S2.get D with
      | some (.dct kvs) => if (keyFits x kvs && decide (kvs.length < line)) = true then .ok () (S2.set D (.dct (dput x y kvs))) else .bad
      | _ => .bad)
    | _ => .bad)
  | _ => .bad
def eDc (k v : ME) (g : Tg) (t : MI) (c : MT) (own : List Nat) : ME := fun C σ => (t C σ).bind fun i S => match compN i g c (emitD k v S.size C) C (wipe σ own) turns 0 (S.push (.dct [])) with
  | .ok _ S' => .ok (.ref S.size) S'
  | _ => .bad

/-! ### built-in functions, by their arguments -/
def eB (f : List D → P D) (a : MA) : ME := fun C σ => (a C σ).bind fun xs => M.of (f xs)
def lenOf (S : Store) : D → Option Nat
  | .str s => if s.length ≤ line then some s.length else none
  | .tup xs => some xs.length
  | .ref n => (match S.get n with
    | some (.lst xs) => some xs.length
    | some (.rol xs) => some xs.length
    | some (.dct kvs) => some kvs.length
    | _ => none)
  | _ => none
def bLen : List D → P D
  | [x] => fun S => match lenOf S x with
    | some k => some (.int (k : Nat), S)
    | none => none
  | _ => P.bad
def bList : List D → P D
  | [.str s] => fun S => if s.length ≤ line then some (.ref S.size, S.push (.lst (s.map fun c => .str [c]))) else none
  | [.tup xs] => fun S => some (.ref S.size, S.push (.lst xs))
  | [.ref n] => fun S => match S.get n with
    | some (.lst xs) => some (.ref S.size, S.push (.lst xs))
    | some (.rol xs) => some (.ref S.size, S.push (.lst xs))
    | some (.dct kvs) => some (.ref S.size, S.push (.lst (kvs.map (·.1))))
    | _ => none
  | _ => P.bad
/-- list(..) of a list, a tuple -/
def bListS : List D → P D
  | [.tup xs] => fun S => some (.ref S.size, S.push (.lst xs))
  | [.ref n] => fun S => match lstAt S n with
    | some xs => some (.ref S.size, S.push (.lst xs))
    | _ => none
  | _ => P.bad
def bTuple : List D → P D
  | [.tup xs] => P.ret (.tup xs)
  | [.ref n] => fun S => match S.get n with
    | some (.lst xs) => some (.tup xs, S)
    | some (.rol xs) => some (.tup xs, S)
    | _ => none
  | _ => P.bad
def bInt : List D → P D
  | [.int i] => P.ret (.int i)
  | [.bl b] => P.ret (.int (if b then 1 else 0))
  | _ => P.bad
def allB : List D → Option (List Bool)
  | [] => some []
  | .bl b :: r => (allB r).map (b :: ·)
  | _ => none
def bAll : List D → P D
  | [.ref n] => fun S => match lstAt S n with
    | some xs => (match allB xs with
      | some bs => some (.bl (bs.all id), S)
      | none => none)
    | none => none
  | _ => P.bad
def bAny : List D → P D
  | [.ref n] => fun S => match lstAt S n with
    | some xs => (match allB xs with
      | some bs => some (.bl (bs.any id), S)
      | none => none)
    | none => none
  | _ => P.bad
def bAbs : List D → P D
  | [.int i] => P.ret (.int (if i < 0 then -i else i))
  | _ => P.bad

/-! ### methods of built-ins -/
def eBM (ty : D → Store → Bool) (f : D → List D → P D) (o : ME) (a : MA) : ME := fun C σ => (o C σ).bind fun x S => if ty x S = true then ((a C σ).bind fun xs => M.of (f x xs)) S else .bad
def tyStr : D → Store → Bool
  | .str _, _ => true
  | _, _ => false
def tyLst : D → Store → Bool
  | .ref n, S => (match S.get n with
    | some (.lst _) => true
    | some (.rol _) => true
    | _ => false)
  | _, _ => false
def mAppend : D → List D → P D
  | .ref n, [y] => fun S => match S.get n with
    | some (.lst xs) => if xs.length < line then some (.non, S.set n (.lst (xs ++ [y]))) else none
    | _ => none
  | _, _ => P.bad
/-- the first place from i on where the sign c stands -/
def findC (c : Nat) : List Nat → Nat → Option Nat
  | [], _ => none
  | a :: r, i => if a = c then some i else findC c r (i + 1)
/-- s.find(sign, start), 0 ≤ start -/
def mFind : D → List D → P D
  | .str s, [.str [c], .int i] => fun S => if 0 ≤ i then some (.int (match findC c (s.drop i.toNat) i.toNat with
    | some j => (j : Nat)
    | none => -1), S) else none
  | _, _ => P.bad
def strsOf : List D → Option (List (List Nat))
  | [] => some []
  | .str s :: r => (strsOf r).map (s :: ·)
  | _ => none
def joinL (sep : List Nat) : List (List Nat) → List Nat
  | [] => []
  | [x] => x
  | x :: y :: r => x ++ sep ++ joinL sep (y :: r)
def mJoin : D → List D → P D
  | .str sep, [.ref n] => fun S => match lstAt S n with
    | some xs => (match strsOf xs with
      | some ys => if (ys.map fun y => y.length + sep.length).sum ≤ line then some (.str (joinL sep ys), S) else none
      | none => none)
    | none => none
  | _, _ => P.bad

/-! ### try -/
/-- the slots bear no exception -/
def noX (σ : Slots) : Bool := σ.all fun o => match o with
  | some d => !isX d
  | none => true
/-- an except clause: whether it takes the class, the slot of its name, its suite -/
structure Hd where
  m : Nat → Bool
  o : Option Nat
  s : MS
/-- behind a suite: the name goes -/
def outX (o : Option Nat) : SR → SR
  | .nx σ S => (match o with
    | some i => if noX (σ.set i none) = true then .nx (σ.set i none) S else .bad
    | none => if noX σ = true then .nx σ S else .bad)
  | .rt d S => .rt d S
  | .bk σ S => (match o with
    | some i => if noX (σ.set i none) = true then .bk (σ.set i none) S else .bad
    | none => if noX σ = true then .bk σ S else .bad)
  | .ct σ S => (match o with
    | some i => if noX (σ.set i none) = true then .ct (σ.set i none) S else .bad
    | none => if noX σ = true then .ct σ S else .bad)
  | _ => .bad
def handle (c : Nat) (fs : Fs) (C : Cfg) (σ : Slots) (S : Store) : List Hd → SR
  | [] => .ex c fs σ S
  | h :: r => if h.m c = true then outX h.o (h.s C (match h.o with
    | some i => σ.set i (some (.exn c fs))
    | none => σ) S) else handle c fs C σ S r
/-- cs: the classes that the clauses are known to tell -/
def sTry (cs : List Nat) (b : MS) (hs : List Hd) : MS := fun C σ S => match b C σ S with
  | .ex c fs σ' S' => if (cs.contains c && noX σ') = true then handle c fs C σ' S' hs else .bad
  | r => r

/-! ### functions -/
structure Fn where
  ar : Nat
  sl : Nat
  body : MS
/-- the slots at the entry -/
def enter (F : Fn) (as : List D) : Slots := as.map some ++ List.replicate (F.sl - as.length) none
def runFn (F : Fn) (C : Cfg) (as : List D) : M D := fun S => if as.length = F.ar then (match F.body C (enter F as) S with
  | .nx _ S' => .ok .non S'
  | .rt d S' => .ok d S'
  | .ex c fs _ S' => .ex c fs S'
  | _ => .bad) else .bad
/-- calls, by levels -/
def callN (tb : List Fn) : Nat → Nat → List D → M D
  | 0, _, _ => M.bad
  | n + 1, f, as => match tb[f]? with
    | some F => runFn F ⟨callN tb n⟩ as
    | none => M.bad
end MP

/-! MP: how the pure semantics stands to the abstract heap of the layer: values, objects, the store; what a reading asks of the pure run. Own work. -/
namespace MP
open PySem PySem.Spec PyProof.Rows L2

/-- the names of the text: the classes' addresses, the fields' names -/
structure NE where
  w : World
  cls : Nat → Addr
  fld : Nat → Str
  inj : ∀ a b, fld a = fld b → a = b
  /-- the tables of code objects of the defs that make lambdas, the lambdas' names -/
  tabs : List Addr := []
  tq : Addr → Str := fun _ => Str.empty

/-- the exception that is handled: where it is, its class, its own dict -/
abbrev XR := Addr → Nat → Option Addr → Prop

structure Gx where
  K : PySem.W.Frag
  ne : NE
  xr : XR

variable (G : Gx)

mutual
inductive RepV (m : List Addr) (H : Hp) : V → D → Prop
  | non : RepV m H .non .non
  | bl (b : Bool) : RepV m H (.bl b) (.bl b)
  | int (i : Int) : RepV m H (.int i) (.int i)
  | str (s : List Nat) : RepV m H (.str ⟨s.toArray⟩) (.str s)
  | tup {p : Addr} {vs : List V} {ds : List D} : SqT G.K H p vs → RepVs m H vs ds → RepV m H (.ref p) (.tup ds)
  | ref {p : Addr} {n : Nat} : m[n]? = some p → RepV m H (.ref p) (.ref n)
inductive RepVs (m : List Addr) (H : Hp) : List V → List D → Prop
  | nil : RepVs m H [] []
  | cons {v : V} {vs : List V} {d : D} {ds : List D} : RepV m H v d → RepVs m H vs ds → RepVs m H (v :: vs) (d :: ds)
/-- an exception's own dict -/
inductive RepX (m : List Addr) (H : Hp) : Option Addr → Fs → Prop
  | nil : RepX m H none []
  | some {a : Addr} {fv : List (Str × V)} {fs : Fs} : H a = some (.xd fv) → RepF m H fv fs → RepX m H (some a) fs
/-- fields by name -/
inductive RepF (m : List Addr) (H : Hp) : List (Str × V) → Fs → Prop
  | nil : RepF m H [] []
  | cons {v : V} {f : Nat} {d : D} {fv : List (Str × V)} {fs : Fs} : RepV m H v d → RepF m H fv fs → RepF m H ((G.ne.fld f, v) :: fv) ((f, d) :: fs)
end

/-- what grows, what stays -/
structure Ext (m : List Addr) (H : Hp) (m' : List Addr) (H' : Hp) : Prop where
  pre : ∀ (n : Nat) (p : Addr), m[n]? = some p → m'[n]? = some p
  tup : ∀ p vs, SqT G.K H p vs → SqT G.K H' p vs
  xd : ∀ a fv, H a = some (.xd fv) → H' a = some (.xd fv)
  frz : ∀ a o u, H a = some (.frz o u) → H' a = some (.frz o u)
  tab : ∀ P ∈ G.ne.tabs, LamX.TabS H P (G.ne.tq P) → LamX.TabS H' P (G.ne.tq P)
variable {G}
theorem Ext.refl {m H} : Ext G m H m H := ⟨fun _ _ h => h, fun _ _ h => h, fun _ _ h => h, fun _ _ _ h => h, fun _ _ h => h⟩
theorem Ext.trans {m H m1 H1 m2 H2} (a : Ext G m H m1 H1) (b : Ext G m1 H1 m2 H2) : Ext G m H m2 H2 :=
  ⟨fun n p h => b.pre n p (a.pre n p h), fun p vs h => b.tup p vs (a.tup p vs h), fun p vs h => b.xd p vs (a.xd p vs h), fun p o u h => b.frz p o u (a.frz p o u h), fun P h t => b.tab P h (a.tab P h t)⟩

mutual
theorem RepV.mono {m H m' H'} (e : Ext G m H m' H') : ∀ {v d}, RepV G m H v d → RepV G m' H' v d
  | _, _, .non => .non
  | _, _, .bl b => .bl b
  | _, _, .int i => .int i
  | _, _, .str s => .str s
  | _, _, .tup h hs => .tup (e.tup _ _ h) (RepVs.mono e hs)
  | _, _, .ref h => .ref (e.pre _ _ h)
theorem RepVs.mono {m H m' H'} (e : Ext G m H m' H') : ∀ {vs ds}, RepVs G m H vs ds → RepVs G m' H' vs ds
  | _, _, .nil => .nil
  | _, _, .cons h hs => .cons (RepV.mono e h) (RepVs.mono e hs)
theorem RepX.mono {m H m' H'} (e : Ext G m H m' H') : ∀ {d fs}, RepX G m H d fs → RepX G m' H' d fs
  | _, _, .nil => .nil
  | _, _, .some h hf => .some (e.xd _ _ h) (RepF.mono e hf)
theorem RepF.mono {m H m' H'} (e : Ext G m H m' H') : ∀ {fv fs}, RepF G m H fv fs → RepF G m' H' fv fs
  | _, _, .nil => .nil
  | _, _, .cons h hs => .cons (RepV.mono e h) (RepF.mono e hs)
end

theorem RepVs.length {m H} : ∀ {vs ds}, RepVs G m H vs ds → vs.length = ds.length
  | _, _, .nil => rfl
  | _, _, .cons _ hs => by rw [List.length_cons, List.length_cons, RepVs.length hs]
theorem RepVs.get {m H} : ∀ {vs ds} {i : Nat} {d : D}, RepVs G m H vs ds → ds[i]? = some d → ∃ v, vs[i]? = some v ∧ RepV G m H v d
  | _, _, _, _, .nil, e => by simp at e
  | _, _, 0, _, .cons h _, e => by
    simp only [List.getElem?_cons_zero, Option.some.injEq] at e
    subst e
    exact ⟨_, rfl, h⟩
  | _, _, i + 1, d, .cons _ hs, e => by
    obtain ⟨v, h1, h2⟩ := RepVs.get (i := i) (d := d) hs (by simpa using e)
    exact ⟨v, by simpa using h1, h2⟩
theorem RepVs.getV {m H} : ∀ {vs ds} {i : Nat} {v : V}, RepVs G m H vs ds → vs[i]? = some v → ∃ d, ds[i]? = some d ∧ RepV G m H v d
  | _, _, _, _, .nil, e => by simp at e
  | _, _, 0, _, .cons h _, e => by
    simp only [List.getElem?_cons_zero, Option.some.injEq] at e
    subst e
    exact ⟨_, rfl, h⟩
  | _, _, i + 1, d, .cons _ hs, e => by
    obtain ⟨v, h1, h2⟩ := RepVs.getV (i := i) (v := d) hs (by simpa using e)
    exact ⟨v, by simpa using h1, h2⟩
theorem RepVs.append {m H} : ∀ {vs ds vs' ds'}, RepVs G m H vs ds → RepVs G m H vs' ds' → RepVs G m H (vs ++ vs') (ds ++ ds')
  | _, _, _, _, .nil, h => h
  | _, _, _, _, .cons h hs, h' => .cons h (RepVs.append hs h')
theorem RepVs.take {m H} : ∀ {vs ds} (n : Nat), RepVs G m H vs ds → RepVs G m H (vs.take n) (ds.take n)
  | _, _, 0, _ => .nil
  | _, _, _ + 1, .nil => .nil
  | _, _, n + 1, .cons h hs => .cons h (RepVs.take n hs)
theorem RepVs.drop {m H} : ∀ {vs ds} (n : Nat), RepVs G m H vs ds → RepVs G m H (vs.drop n) (ds.drop n)
  | _, _, 0, h => h
  | _, _, _ + 1, .nil => .nil
  | _, _, n + 1, .cons _ hs => RepVs.drop n hs
theorem RepVs.set {m H v d} (h : RepV G m H v d) : ∀ {vs ds} (i : Nat), RepVs G m H vs ds → RepVs G m H (vs.set i v) (ds.set i d)
  | _, _, _, .nil => .nil
  | _, _, 0, .cons _ hs => .cons h hs
  | _, _, i + 1, .cons h' hs => .cons h' (RepVs.set h i hs)
theorem RepVs.revAux {m H} : ∀ (ds : List D) {vs : List V} {vs' : List V} {ds' : List D}, RepVs G m H vs ds → RepVs G m H vs' ds' → RepVs G m H (vs.reverseAux vs') (ds.reverseAux ds')
  | [], _, _, _, h, h' => by cases h; exact h'
  | d :: ds, _, _, _, h, h' => by
    cases h with
    | @cons v vs _ _ a b =>
      rename_i vs' ds'
      exact RepVs.revAux (vs := vs) (vs' := v :: vs') (ds' := d :: ds') ds b (.cons a h')
theorem RepVs.reverse {m H} {vs ds} (h : RepVs G m H vs ds) : RepVs G m H vs.reverse ds.reverse := RepVs.revAux ds h .nil
theorem RepF.length {m H} : ∀ {fv fs}, RepF G m H fv fs → fv.length = fs.length
  | _, _, .nil => rfl
  | _, _, .cons _ hs => by rw [List.length_cons, List.length_cons, RepF.length hs]
theorem RepF.lookup {m H} : ∀ {fv fs} {f : Nat} {d : D}, RepF G m H fv fs → fget f fs = some d → ∃ v, fv.lookup (G.ne.fld f) = some v ∧ RepV G m H v d
  | _, _, _, _, .nil, e => by simp [fget] at e
  | _, _, f, d, .cons (f := g) h hs, e => by
    unfold fget at e
    by_cases q : g = f
    · subst q
      rw [if_pos rfl] at e
      cases e
      exact ⟨_, by simp [List.lookup], h⟩
    · rw [if_neg q] at e
      obtain ⟨v, h1, h2⟩ := RepF.lookup hs e
      refine ⟨v, ?_, h2⟩
      have hb : (G.ne.fld f == G.ne.fld g) = false := beq_eq_false_iff_ne.mpr fun z => q (G.ne.inj _ _ z).symm
      simp only [List.lookup, hb]
      exact h1
theorem RepF.put {m H} {f : Nat} {v : V} {d : D} (h : RepV G m H v d) : ∀ {fv fs}, RepF G m H fv fs → RepF G m H (putF (G.ne.fld f) v fv) (fput f d fs)
  | _, _, .nil => .cons h .nil
  | _, _, .cons (f := g) h' hs => by
    unfold putF fput
    by_cases q : g = f
    · subst q
      rw [if_pos rfl, if_pos rfl]
      exact .cons h hs
    · rw [if_neg q, if_neg fun z => q (G.ne.inj _ _ z)]
      exact .cons h' (RepF.put h hs)
theorem RepF.zip {m H} : ∀ {fn : List Nat} {vs : List V} {ds : List D}, fn.length = ds.length → RepVs G m H vs ds → RepF G m H ((fn.map G.ne.fld).zip vs) (fn.zip ds)
  | [], _, _, _, _ => .nil
  | _ :: _, _, [], e, _ => by simp at e
  | f :: fn, _, d :: ds, e, .cons h hs => .cons h (RepF.zip (by simpa using e) hs)

/-- a key: an int, a text -/
def dKey : D → Option Key
  | .int i => some (.inl i)
  | .str s => some (.inr ⟨s.toArray⟩)
  | _ => none
/-- the entries of a dict -/
inductive RepK (G : Gx) (m : List Addr) (H : Hp) : List (Key × V) → List (D × D) → Prop
  | nil : RepK G m H [] []
  | cons {k : Key} {v : V} {a x : D} {kv : List (Key × V)} {ds : List (D × D)} : dKey a = some k → RepV G m H v x → RepK G m H kv ds → RepK G m H ((k, v) :: kv) ((a, x) :: ds)
theorem RepK.mono {m H m' H'} (e : Ext G m H m' H') : ∀ {kv ds}, RepK G m H kv ds → RepK G m' H' kv ds
  | _, _, .nil => .nil
  | _, _, .cons k h hs => .cons k (h.mono e) (RepK.mono e hs)
theorem RepK.length {m H} : ∀ {kv ds}, RepK G m H kv ds → kv.length = ds.length
  | _, _, .nil => rfl
  | _, _, .cons _ _ hs => by rw [List.length_cons, List.length_cons, RepK.length hs]
theorem dKey_eq {a b : D} {k l : Key} (ha : dKey a = some k) (hb : dKey b = some l) : D.beq a b = true ↔ k = l := by
  cases a <;> unfold dKey at ha <;> cases ha <;> cases b <;> unfold dKey at hb <;> cases hb <;> unfold D.beq <;> simp
theorem dKey_rep {m H} {v : V} {d : D} {k : Key} (r : RepV G m H v d) (h : dKey d = some k) : v = kV k := by
  cases r <;> unfold dKey at h <;> cases h <;> rfl
theorem dKey_repv {m H} {d : D} {k : Key} (h : dKey d = some k) : RepV G m H (kV k) d := by
  cases d <;> unfold dKey at h <;> cases h
  · exact .int _
  · exact .str _
theorem keyFits_some {d : D} {l : List (D × D)} (h : keyFits d l = true) : ∃ k, dKey d = some k := by
  cases d <;> first | exact ⟨_, rfl⟩ | exact nomatch h
theorem RepK.get {m H} {d : D} {k : Key} (h : dKey d = some k) : ∀ {kv ds}, RepK G m H kv ds → (∀ x, dget d ds = some x → ∃ v, valV kv k = some v ∧ RepV G m H v x) ∧ (dget d ds = none → valV kv k = none)
  | _, _, .nil => ⟨fun x e => by simp [dget] at e, fun _ => rfl⟩
  | _, _, .cons (a := a) hk hv hs => by
    obtain ⟨i1, i2⟩ := RepK.get h hs
    unfold dget
    by_cases e : D.beq a d = true
    · have ek := (dKey_eq hk h).mp e
      rw [if_pos e]
      refine ⟨fun x q => ?_, fun q => by cases q⟩
      cases q
      exact ⟨_, valV_pos ek, hv⟩
    · have ek : ¬ _ = _ := fun z => e ((dKey_eq hk h).mpr z)
      rw [if_neg e]
      exact ⟨fun x q => by rw [valV_neg ek]; exact i1 x q, fun q => by rw [valV_neg ek]; exact i2 q⟩
theorem RepK.isSome {m H} {d : D} {k : Key} (h : dKey d = some k) {kv ds} (r : RepK G m H kv ds) : (valV kv k).isSome = (dget d ds).isSome := by
  obtain ⟨i1, i2⟩ := r.get h
  cases q : dget d ds with
  | none => rw [i2 q]; rfl
  | some x =>
    obtain ⟨v, e, _⟩ := i1 x q
    rw [e]; rfl
theorem RepK.append {m H} : ∀ {kv ds kv' ds'}, RepK G m H kv ds → RepK G m H kv' ds' → RepK G m H (kv ++ kv') (ds ++ ds')
  | _, _, _, _, .nil, h => h
  | _, _, _, _, .cons a b c, h => .cons a b (RepK.append c h)
theorem RepK.any {m H} {d : D} {k : Key} (h : dKey d = some k) : ∀ {kv ds}, RepK G m H kv ds → (kv.any fun p => decide (p.1 = k)) = ds.any fun p => D.beq p.1 d
  | _, _, .nil => rfl
  | _, _, .cons (a := a) (k := l) hk hv hs => by
    rw [List.any_cons, List.any_cons, RepK.any h hs]
    have z := dKey_eq hk h
    show (decide (l = k) || _) = (D.beq a d || _)
    cases q : D.beq a d with
    | true => rw [decide_eq_true (z.mp q)]
    | false => rw [decide_eq_false fun y => by rw [z.mpr y] at q; cases q]
theorem RepK.maps {m H} {d x : D} {k : Key} {v : V} (h : dKey d = some k) (rx : RepV G m H v x) : ∀ {kv ds}, RepK G m H kv ds → RepK G m H (kv.map fun p => if p.1 = k then (p.1, v) else p) (ds.map fun p => if D.beq p.1 d = true then (p.1, x) else p)
  | _, _, .nil => .nil
  | _, _, .cons (a := a) (k := l) hk hv hs => by
    rw [List.map_cons, List.map_cons]
    have z := dKey_eq hk h
    show RepK G m H ((if l = k then (l, v) else _) :: _) ((if D.beq a d = true then (a, x) else _) :: _)
    by_cases q : l = k
    · rw [if_pos q, if_pos (z.mpr q)]
      exact .cons hk rx (RepK.maps h rx hs)
    · rw [if_neg q, if_neg fun y => q (z.mp y)]
      exact .cons hk hv (RepK.maps h rx hs)
theorem RepK.put {m H} {d x : D} {k : Key} {v : V} (h : dKey d = some k) (rx : RepV G m H v x) {kv ds} (r : RepK G m H kv ds) : RepK G m H (putK kv k v) (dput d x ds) := by
  unfold putK dput
  rw [r.any h]
  split
  · exact r.maps h rx
  · exact r.append (.cons h rx .nil)
theorem RepK.keys {m H} : ∀ {kv ds}, RepK G m H kv ds → RepVs G m H (kv.map fun p => kV p.1) (ds.map (·.1))
  | _, _, .nil => .nil
  | _, _, .cons k _ hs => .cons (dKey_repv k) (RepK.keys hs)
/-- a list that is read alone -/
def SqF (K : PySem.W.Frag) (H : Hp) (a : Addr) (xs : List V) : Prop := (∃ o, H a = some (.frz o (.lst xs))) ∨
  ∃ (o : Obj) (its : Array Value) (n : Nat), K.lookup a = some o ∧ o.cls = .type "list" ∧ o.dict = none ∧ o.data = .seq its n ∧ its.size ≤ sizeLine ∧ Vals xs its.toList
theorem SqF.sq {K H a xs} (h : SqF K H a xs) : SqL K H a xs := by
  rcases h with h | h
  · exact .inl (.inr h)
  · exact .inr h
/-! ### dicts whose keys are tuples -/
mutual
/-- a key: an int, a text, None, a tuple of such -/
def nk : Nat → D → Option NestedKey
  | _, .non => some .none
  | _, .int i => some (.num i)
  | _, .str s => some (.text ⟨s.toArray⟩)
  | n, .tup xs => (match n with
    | 0 => none
    | n + 1 => (nks n xs).map .tup)
  | _, _ => none
def nks : Nat → List D → Option (List NestedKey)
  | _, [] => some []
  | n, x :: xs => (match nk n x, nks n xs with
    | some a, some b => some (a :: b)
    | _, _ => none)
end
/-- a tuple that is a key -/
def tk (d : D) : Option NestedKey := match d with
  | .tup xs => nk 8 (.tup xs)
  | _ => none
/-- a dict whose keys are the tuples that are told -/
def DTO (w : World) (d : Addr) (xs : List (NestedKey × Addr × V)) : HO := .ext fun h =>
  (d == sysModules) = false ∧ xs.length ≤ sizeLine ∧ (xs.map (·.1)).Nodup ∧
  ∃ (ys : List (NestedKey × Addr × Value)) (o : Obj) (es : Array DictEntry) (ep : Nat), Paired (fun (p : NestedKey × Addr × V) (q : NestedKey × Addr × Value) => p.1 = q.1 ∧ p.2.1 = q.2.1 ∧ RelV p.2.2 q.2.2) xs ys ∧
    h.get? d = some o ∧ o.ExactDict ∧ o.data = .dict es ep ∧ es.toList = ys.map fun x => ⟨x.1.hash w, .ref x.2.1, x.2.2⟩
inductive RepN (G : Gx) (m : List Addr) (H : Hp) : List (NestedKey × Addr × V) → List (D × D) → Prop
  | nil : RepN G m H [] []
  | cons {k : NestedKey} {q : Addr} {v : V} {a x : D} {kv : List (NestedKey × Addr × V)} {ds : List (D × D)} : tk a = some k → RepV G m H (.ref q) a → RepV G m H v x → RepN G m H kv ds → RepN G m H ((k, q, v) :: kv) ((a, x) :: ds)
theorem RepN.mono {m H m' H'} (e : Ext G m H m' H') : ∀ {kv ds}, RepN G m H kv ds → RepN G m' H' kv ds
  | _, _, .nil => .nil
  | _, _, .cons k a h hs => .cons k (a.mono e) (h.mono e) (RepN.mono e hs)
theorem RepN.length {m H} : ∀ {kv ds}, RepN G m H kv ds → kv.length = ds.length
  | _, _, .nil => rfl
  | _, _, .cons _ _ _ hs => by rw [List.length_cons, List.length_cons, RepN.length hs]
/-- an object of the store at its address -/
inductive RepO (G : Gx) (m : List Addr) (H : Hp) (p : Addr) : Ob → Prop
  | lst {vs : List V} {xs : List D} : H p = some (.lst vs) → RepVs G m H vs xs → RepO G m H p (.lst xs)
  | rol {vs : List V} {xs : List D} : SqF G.K H p vs → RepVs G m H vs xs → RepO G m H p (.rol xs)
  | ins {dx : Addr} {c : Nat} {fv : List (Str × V)} {fs : Fs} : H p = some (.ins (G.ne.cls c) dx fv) → RepF G m H fv fs → RepO G m H p (.ins c fs)
  | dct {kv : List (Key × V)} {ds : List (D × D)} : H p = some (.dK kv) → RepK G m H kv ds → RepO G m H p (.dct ds)
  | dtu {kv : List (NestedKey × Addr × V)} {ds : List (D × D)} : H p = some (DTO G.ne.w p kv) → RepN G m H kv ds → RepO G m H p (.dtu ds)
  | fdt {o : Obj} {kv : List (NestedKey × Addr × V)} {ds : List (D × D)} : H p = some (.frz o (DTO G.ne.w p kv)) → RepN G m H kv ds → RepO G m H p (.fdt ds)
  | fdk {o : Obj} {kv : List (Key × V)} {ds : List (D × D)} : H p = some (.frz o (.dK kv)) → RepK G m H kv ds → RepO G m H p (.fdk ds)

def isRol : Ob → Bool
  | .rol _ => true
  | .fdt _ => true
  | .fdk _ => true
  | _ => false
structure Sim (G : Gx) (m : List Addr) (S : Store) (H : Hp) : Prop where
  len : m.length = S.size
  nd : ∀ (i j : Nat) (p : Addr) (a b : Ob), S.get i = some a → isRol a = false → S.get j = some b → isRol b = false → m[i]? = some p → m[j]? = some p → i = j
  obj : ∀ (n : Nat) (o : Ob), S.get n = some o → ∃ p, m[n]? = some p ∧ RepO G m H p o
  tbs : ∀ P ∈ G.ne.tabs, LamX.TabS H P (G.ne.tq P)

/-- what a slot holds: a value, the exception that is handled -/
inductive SV (G : Gx) (m : List Addr) (H : Hp) : V → D → Prop
  | val {v : V} {d : D} (h : RepV G m H v d) : SV G m H v d
  | exn {a : Addr} {c : Nat} {d : Option Addr} {fs : Fs} (h : G.xr a c d) (hx : RepX G m H d fs) : SV G m H (.ref a) (.exn c fs)
theorem SV.mono {m H m' H' v d} (e : Ext G m H m' H') : SV G m H v d → SV G m' H' v d
  | .val h => .val (h.mono e)
  | .exn h hx => .exn h (hx.mono e)
theorem SV.rep {m H v d} (h : SV G m H v d) (n : isX d = false) : RepV G m H v d := by
  cases h with
  | val h => exact h
  | exn h hx => cases n
def SlotR (G : Gx) (m : List Addr) (H : Hp) (ls : Slots) (σ : L2.St) : Prop := ls.length = σ.length ∧ ∀ (i : Nat) (d : D), ls[i]? = some (some d) → ∃ v, σ[i]? = some (some v) ∧ SV G m H v d
theorem SlotR.mono {m H m' H' ls σ} (e : Ext G m H m' H') (h : SlotR G m H ls σ) : SlotR G m' H' ls σ :=
  ⟨h.1, fun i d q => let ⟨v, a, b⟩ := h.2 i d q; ⟨v, a, b.mono e⟩⟩
theorem SlotR.set {m H ls σ} {i : Nat} {v : V} {d : D} (h : SlotR G m H ls σ) (r : RepV G m H v d) : SlotR G m H (ls.set i (some d)) (σ.set i (some v)) := by
  refine ⟨by rw [List.length_set, List.length_set, h.1], fun j x q => ?_⟩
  by_cases e : i = j
  · subst e
    by_cases hi : i < ls.length
    · rw [List.getElem?_set_self hi] at q
      cases q
      exact ⟨v, List.getElem?_set_self (h.1 ▸ hi), .val r⟩
    · rw [List.getElem?_eq_none (by simpa using hi)] at q
      cases q
  · rw [List.getElem?_set_ne e] at q
    obtain ⟨w, a, b⟩ := h.2 j x q
    exact ⟨w, by rw [List.getElem?_set_ne e]; exact a, b⟩
theorem SlotR.drop1 {m H ls σ} {i : Nat} {o : Option V} (h : SlotR G m H ls σ) : SlotR G m H (ls.set i none) (σ.set i o) := by
  refine ⟨by rw [List.length_set, List.length_set, h.1], fun j x q => ?_⟩
  by_cases e : i = j
  · subst e
    by_cases hi : i < ls.length
    · rw [List.getElem?_set_self hi] at q
      cases q
    · rw [List.getElem?_eq_none (by simpa using hi)] at q
      cases q
  · rw [List.getElem?_set_ne e] at q
    obtain ⟨w, a, b⟩ := h.2 j x q
    exact ⟨w, by rw [List.getElem?_set_ne e]; exact a, b⟩

/-- what may be written here: of the cells by what is true of them, a dict's alone -/
def Mut1 : Option HO → Prop
  | some (.lst _) => True
  | some (.dK _) => True
  | some (.dT _) => True
  | some (.set _ _) => True
  | some (.ins _ _ _) => True
  | some (.ext φ) => ∃ w d xs, HO.ext φ = DTO w d xs
  | _ => False
theorem Mut1.m {u : Option HO} (h : Mut1 u) : Mut u := by
  cases u with
  | none => exact (show False from h).elim
  | some o =>
    cases o <;> first | exact True.intro | exact (show False from h).elim
def fldO (q : Str) : Obj := { cls := .none, data := .fields #[.none, .str q 0] }
theorem fldH_get {q : Str} {n b : Nat} {o : Obj} (h : ({ objs := Array.replicate n (fldO q) } : Heap).get? b = some o) : o = fldO q := by
  unfold Heap.get? at h
  simp only [Array.getElem?_replicate] at h
  by_cases hl : b < n
  · rw [if_pos hl] at h
    exact (Option.some.inj h).symm
  · rw [if_neg hl] at h
    cases h
theorem fldH_at {q : Str} {n b : Nat} (hl : b < n) : ({ objs := Array.replicate n (fldO q) } : Heap).get? b = some (fldO q) := by
  unfold Heap.get?
  simp only [Array.getElem?_replicate, if_pos hl]
  rfl
/-- a code object's cell is no dict's -/
theorem codeO_dto {c d : Addr} {q : Str} {w : World} {xs : List (NestedKey × Addr × V)} : LamX.CodeO c q ≠ DTO w d xs := fun e => by
  unfold LamX.CodeO DTO at e
  have e' := congrFun (HO.ext.inj e) { objs := Array.replicate (c + 1) (fldO q) }
  have hx : ∃ (oc : Obj) (vs : Array Value) (t : Tok), ({ objs := Array.replicate (c + 1) (fldO q) } : Heap).get? c = some oc ∧ oc.data = .fields vs ∧ vs[1]? = some (.str q t) := ⟨fldO q, #[.none, .str q 0], 0, fldH_at (Nat.lt_succ_self c), rfl, rfl⟩
  rw [e'] at hx
  obtain ⟨_, _, _, ys, o, es, ep, _, h1, _, h2, _⟩ := hx
  have h3 := fldH_get h1
  subst h3
  have h4 : (Data.fields #[.none, .str q 0] : Data) = .dict es ep := h2
  cases h4
theorem tabS_mut {H : Hp} {P a : Addr} {q : Str} {o : HO} (h : LamX.TabS H P q) (n : Mut1 (H a)) : LamX.TabS (upd H a o) P q := by
  obtain ⟨ps, h1, h2, h3⟩ := h
  refine ⟨ps, by rw [upd_ne (fun z => by subst z; rw [h1] at n; exact n)]; exact h1, h2, fun pos cv hc => ?_⟩
  obtain ⟨c, e1, e2⟩ := h3 pos cv hc
  refine ⟨c, e1, ?_⟩
  rw [upd_ne (fun z => ?_)]
  · exact e2
  · subst z
    rw [e2] at n
    obtain ⟨w, d, xs, z⟩ : ∃ w d xs, LamX.CodeO c q = DTO w d xs := n
    exact codeO_dto z
theorem tabS_new {H : Hp} {P a : Addr} {q : Str} {o : HO} (h : LamX.TabS H P q) (n : H a = none) : LamX.TabS (upd H a o) P q := h.ext fun b u e => by rw [upd_ne (ne_of_none e n)]; exact e
/-- what is tracked at an address that a store's object has -/
theorem Sim.isSome {m S H} (s : Sim G m S H) {n : Nat} {o : Ob} (h : S.get n = some o) : ∃ p, m[n]? = some p ∧ RepO G m H p o := s.obj n o h
theorem RepO.tracked {m H p o} (h : RepO G m H p o) (n : isRol o = false) : ∃ u, H p = some u ∧ Mut1 (some u) := by
  cases h with
  | lst a b => exact ⟨_, a, trivial⟩
  | ins a b => exact ⟨_, a, trivial⟩
  | dct a b => exact ⟨_, a, trivial⟩
  | dtu a b => exact ⟨_, a, ⟨_, _, _, rfl⟩⟩
  | rol a b => cases n
  | fdt a b => cases n
  | fdk a b => cases n
theorem Sim.lst {m S H} (s : Sim G m S H) {n : Nat} {xs : List D} (h : S.get n = some (.lst xs)) : ∃ p vs, m[n]? = some p ∧ H p = some (.lst vs) ∧ RepVs G m H vs xs := by
  obtain ⟨p, h1, h2⟩ := s.obj n _ h
  cases h2 with
  | lst h3 h4 => exact ⟨p, _, h1, h3, h4⟩
theorem Sim.ins {m S H} (s : Sim G m S H) {n c : Nat} {fs : Fs} (h : S.get n = some (.ins c fs)) : ∃ p dx fv, m[n]? = some p ∧ H p = some (.ins (G.ne.cls c) dx fv) ∧ RepF G m H fv fs := by
  obtain ⟨p, h1, h2⟩ := s.obj n _ h
  cases h2 with
  | ins h3 h4 => exact ⟨p, _, _, h1, h3, h4⟩
theorem Sim.seqL {m S H} (s : Sim G m S H) {n : Nat} {xs : List D} (h : lstAt S n = some xs) : ∃ p vs, m[n]? = some p ∧ SqL G.K H p vs ∧ RepVs G m H vs xs := by
  unfold lstAt at h
  cases q : S.get n with
  | none => rw [q] at h; cases h
  | some o =>
    rw [q] at h
    obtain ⟨p, h1, h2⟩ := s.obj n o q
    cases h2 with
    | lst h3 h4 => cases h; exact ⟨p, _, h1, .of h3, h4⟩
    | rol h3 h4 => cases h; exact ⟨p, _, h1, h3.sq, h4⟩
    | ins h3 h4 => cases h
    | dct h3 h4 => cases h
    | dtu h3 h4 => cases h
    | fdt h3 h4 => cases h
    | fdk h3 h4 => cases h
theorem Sim.dtu {m S H} (s : Sim G m S H) {n : Nat} {ds : List (D × D)} (h : S.get n = some (.dtu ds)) : ∃ p kv, m[n]? = some p ∧ H p = some (DTO G.ne.w p kv) ∧ RepN G m H kv ds := by
  obtain ⟨p, h1, h2⟩ := s.obj n _ h
  cases h2 with
  | dtu h3 h4 => exact ⟨p, _, h1, h3, h4⟩
theorem Sim.fdt {m S H} (s : Sim G m S H) {n : Nat} {ds : List (D × D)} (h : S.get n = some (.fdt ds)) : ∃ p o kv, m[n]? = some p ∧ H p = some (.frz o (DTO G.ne.w p kv)) ∧ RepN G m H kv ds := by
  obtain ⟨p, h1, h2⟩ := s.obj n _ h
  cases h2 with
  | fdt h3 h4 => exact ⟨p, _, _, h1, h3, h4⟩
theorem Sim.fdk {m S H} (s : Sim G m S H) {n : Nat} {ds : List (D × D)} (h : S.get n = some (.fdk ds)) : ∃ p o kv, m[n]? = some p ∧ H p = some (.frz o (.dK kv)) ∧ RepK G m H kv ds := by
  obtain ⟨p, h1, h2⟩ := s.obj n _ h
  cases h2 with
  | fdk h3 h4 => exact ⟨p, _, _, h1, h3, h4⟩
theorem Sim.dct {m S H} (s : Sim G m S H) {n : Nat} {ds : List (D × D)} (h : S.get n = some (.dct ds)) : ∃ p kv, m[n]? = some p ∧ H p = some (.dK kv) ∧ RepK G m H kv ds := by
  obtain ⟨p, h1, h2⟩ := s.obj n _ h
  cases h2 with
  | dct h3 h4 => exact ⟨p, _, h1, h3, h4⟩

theorem sqT_new {K : PySem.W.Frag} {H : Hp} {p q : Addr} {vs : List V} {o : HO} (h : SqT K H p vs) (n : H q = none) : SqT K (upd H q o) p vs := by
  rcases h with (h | ⟨ob, h⟩) | h
  · exact .inl (.inl (by rw [upd_ne (ne_of_none h n)]; exact h))
  · exact .inl (.inr ⟨ob, by rw [upd_ne (ne_of_none h n)]; exact h⟩)
  · exact .inr h
theorem sqT_mut {K : PySem.W.Frag} {H : Hp} {p q : Addr} {vs : List V} {o : HO} (h : SqT K H p vs) (n : Mut (H q)) : SqT K (upd H q o) p vs := by
  have ne : ∀ u, H p = some u → ¬ Mut (some u) → p ≠ q := fun u e nm z => by subst z; rw [e] at n; exact nm n
  rcases h with (h | ⟨ob, h⟩) | h
  · exact .inl (.inl (by rw [upd_ne (ne _ h fun z => z)]; exact h))
  · exact .inl (.inr ⟨ob, by rw [upd_ne (ne _ h fun z => z)]; exact h⟩)
  · exact .inr h
theorem sqL_new {K : PySem.W.Frag} {H : Hp} {p q : Addr} {vs : List V} {o : HO} (h : SqF K H p vs) (n : H q = none) : SqF K (upd H q o) p vs := by
  rcases h with ⟨ob, h⟩ | h
  · exact .inl ⟨ob, by rw [upd_ne (ne_of_none h n)]; exact h⟩
  · exact .inr h

/-- a new address -/
theorem Ext.new {m H} {q : Addr} {o : HO} (n : H q = none) : Ext G m H m (upd H q o) :=
  ⟨fun _ _ h => h, fun _ _ h => sqT_new h n, fun a fv h => by rw [upd_ne (ne_of_none h n)]; exact h, fun a o u h => by rw [upd_ne (ne_of_none h n)]; exact h, fun P _ t => tabS_new t n⟩
theorem Ext.app {m H} {q : Addr} : Ext G m H (m ++ [q]) H :=
  ⟨fun i p h => by rw [List.getElem?_append_left (List.getElem?_eq_some_iff.mp h).1]; exact h, fun _ _ h => h, fun _ _ h => h, fun _ _ _ h => h, fun _ _ h => h⟩
theorem Ext.mut {m H} {q : Addr} {o : HO} (n : Mut1 (H q)) : Ext G m H m (upd H q o) :=
  ⟨fun _ _ h => h, fun _ _ h => sqT_mut h (Mut1.m n), fun a fv h => by rw [upd_ne (fun z => by subst z; rw [h] at n; exact n)]; exact h, fun a o u h => by rw [upd_ne (fun z => by subst z; rw [h] at n; exact n)]; exact h, fun P _ t => tabS_mut t n⟩
theorem RepO.new {m H m'} {p q : Addr} {o : Ob} {u : HO} (h : RepO G m H p o) (n : H q = none) (e : Ext G m H m' (upd H q u)) : RepO G m' (upd H q u) p o := by
  cases h with
  | lst h1 h2 => exact .lst (by rw [upd_ne (ne_of_none h1 n)]; exact h1) (h2.mono e)
  | ins h1 h2 => exact .ins (by rw [upd_ne (ne_of_none h1 n)]; exact h1) (h2.mono e)
  | rol h1 h2 => exact .rol (sqL_new h1 n) (h2.mono e)
  | dct h1 h2 => exact .dct (by rw [upd_ne (ne_of_none h1 n)]; exact h1) (h2.mono e)
  | fdt h1 h2 => exact .fdt (by rw [upd_ne (ne_of_none h1 n)]; exact h1) (h2.mono e)
  | fdk h1 h2 => exact .fdk (by rw [upd_ne (ne_of_none h1 n)]; exact h1) (h2.mono e)
  | dtu h1 h2 => exact .dtu (by rw [upd_ne (ne_of_none h1 n)]; exact h1) (h2.mono e)

/-! ### what a reading asks of the pure run -/
section
variable (G : Gx) (W : WX)
/-- the end of a run that starts at m, H -/
def post {α β : Type} (Rp : List Addr → Hp → β → α → Prop) (σ : L2.St) (m : List Addr) (H : Hp) (Q : β → Hp → Prop) : R α → Prop
  | .ok a S' => ∀ m' H' b, Ext G m H m' H' → Sim G m' S' H' → Rp m' H' b a → Q b H'
  | .ex c fs S' => ∀ m' H' d, Ext G m H m' H' → Sim G m' S' H' → RepX G m' H' d fs → W (.ref (G.ne.cls c)) d σ H'
  | .bad => False
/-- .. that raises nothing -/
def postP {α β : Type} (Rp : List Addr → Hp → β → α → Prop) (m : List Addr) (H : Hp) (Q : β → Hp → Prop) : Option (α × Store) → Prop
  | some (a, S') => ∀ m' H' b, Ext G m H m' H' → Sim G m' S' H' → Rp m' H' b a → Q b H'
  | none => False
/-- a run from a state that stands to ours -/
def tX {α β : Type} (Rp : List Addr → Hp → β → α → Prop) (C : Cfg) (e : Cfg → Slots → M α) : L2.St → Hp → (β → Hp → Prop) → Prop :=
  fun σ H Q => ∃ m S ls, Sim G m S H ∧ SlotR G m H ls σ ∧ post G W Rp σ m H Q (e C ls S)
/-- .. behind a value -/
def tK {α β α' β' : Type} (Ra : List Addr → Hp → β' → α' → Prop) (Rp : List Addr → Hp → β → α → Prop) (C : Cfg) (k : Cfg → Slots → α' → M α) : L2.St → Hp → β' → (β → Hp → Prop) → Prop :=
  fun σ H x Q => ∃ m S ls a, Sim G m S H ∧ SlotR G m H ls σ ∧ Ra m H x a ∧ post G W Rp σ m H Q (k C ls a S)
abbrev RB : List Addr → Hp → Bool → Bool → Prop := fun _ _ b a => b = a
abbrev RO : List Addr → Hp → Option Int → Option Int → Prop := fun _ _ b a => b = a
abbrev tE (C : Cfg) (e : ME) : TE := tX G W (RepV G) C e
abbrev tA (C : Cfg) (e : MA) : TA := tX G W (RepVs G) C e
abbrev tT (C : Cfg) (e : MT) : TT := tX G W RB C e
abbrev tO (C : Cfg) (e : Cfg → Slots → M (Option Int)) : L2.St → Hp → (Option Int → Hp → Prop) → Prop := tX G W RO C e
variable {G W}

theorem post.ext {α β : Type} {Rp : List Addr → Hp → β → α → Prop} {σ m H m1 H1} {Q : β → Hp → Prop} {r : R α} (e : Ext G m H m1 H1) (h : post G W Rp σ m H Q r) : post G W Rp σ m1 H1 Q r := by
  cases r with
  | ok a S' => exact fun m' H' b e' s r => h m' H' b (e.trans e') s r
  | ex c fs S' => exact fun m' H' d e' s r => h m' H' d (e.trans e') s r
  | bad => exact h
theorem postP.ext {α β : Type} {Rp : List Addr → Hp → β → α → Prop} {m H m1 H1} {Q : β → Hp → Prop} {r : Option (α × Store)} (e : Ext G m H m1 H1) (h : postP G Rp m H Q r) : postP G Rp m1 H1 Q r := by
  cases r with
  | some p => exact fun m' H' b e' s r => h m' H' b (e.trans e') s r
  | none => exact h
theorem post.of {α β : Type} {Rp : List Addr → Hp → β → α → Prop} {σ m H} {Q : β → Hp → Prop} {p : P α} {S : Store} (h : post G W Rp σ m H Q (M.of p S)) : postP G Rp m H Q (p S) := by
  unfold M.of at h
  cases q : p S with
  | none => rw [q] at h; exact h
  | some a =>
    rw [q] at h
    exact h
theorem post.imp {α β : Type} {Rp : List Addr → Hp → β → α → Prop} {σ m H} {Q Q' : β → Hp → Prop} {r : R α} (h : post G W Rp σ m H Q r) (hq : ∀ b H', Q b H' → Q' b H') : post G W Rp σ m H Q' r := by
  cases r with
  | ok a S' => exact fun m' H' b e s r => hq _ _ (h m' H' b e s r)
  | ex c fs S' => exact h
  | bad => exact h

/-- THE STEP: a run, then another one -/
theorem tX.bind {α β α' β' : Type} {Ra : List Addr → Hp → β' → α' → Prop} {Rp : List Addr → Hp → β → α → Prop} {C : Cfg} {e : Cfg → Slots → M α'} {k : Cfg → Slots → α' → M α} {σ H} {Q : β → Hp → Prop}
    (h : tX G W Rp C (fun C σ => (e C σ).bind (k C σ)) σ H Q) : tX G W Ra C e σ H fun x H1 => tK G W Ra Rp C k σ H1 x Q := by
  obtain ⟨m, S, ls, s, r, h⟩ := h
  refine ⟨m, S, ls, s, r, ?_⟩
  have h : post G W Rp σ m H Q (match e C ls S with
    | .ok a S' => k C ls a S'
    | .ex c fs S' => .ex c fs S'
    | .bad => .bad) := h
  cases q : e C ls S with
  | ok a S' =>
    rw [q] at h
    exact fun m' H' b x s' ra => ⟨m', S', ls, a, s', r.mono x, ra, post.ext x h⟩
  | ex c fs S' =>
    rw [q] at h
    exact h
  | bad =>
    rw [q] at h
    exact h
/-- .. within: behind the first value -/
theorem tK.bind {α β α' β' α2 β2 : Type} {Ra : List Addr → Hp → β' → α' → Prop} {Rb : List Addr → Hp → β2 → α2 → Prop} {Rp : List Addr → Hp → β → α → Prop} {C : Cfg} {e : Cfg → Slots → M α2} {k : Cfg → Slots → α' → α2 → M α} {σ H x} {Q : β → Hp → Prop}
    (mono : ∀ {m H m' H' b a}, Ext G m H m' H' → Ra m H b a → Ra m' H' b a)
    (h : tK G W Ra Rp C (fun C σ a => (e C σ).bind (k C σ a)) σ H x Q) : tX G W Rb C e σ H fun y H1 => tK G W (fun m H (p : β' × β2) (q : α' × α2) => Ra m H p.1 q.1 ∧ Rb m H p.2 q.2) Rp C (fun C σ p => k C σ p.1 p.2) σ H1 (x, y) Q := by
  obtain ⟨m, S, ls, a, s, r, ra, h⟩ := h
  refine ⟨m, S, ls, s, r, ?_⟩
  have h : post G W Rp σ m H Q (match e C ls S with
    | .ok b S' => k C ls a b S'
    | .ex c fs S' => .ex c fs S'
    | .bad => .bad) := h
  cases q : e C ls S with
  | ok b S' =>
    rw [q] at h
    exact fun m' H' y x s' rb => ⟨m', S', ls, (a, b), s', r.mono x, ⟨mono x ra, rb⟩, post.ext x h⟩
  | ex c fs S' =>
    rw [q] at h
    exact h
  | bad =>
    rw [q] at h
    exact h

/-! ### weaker readings -/
theorem PE.weak {X : Cx} {e : Expr} {t t' : TE} (h : PE X e t) (i : ∀ σ H Q, t' σ H Q → t σ H Q) : PE X e t' := ⟨fun pins s σ H Q I q => h.run pins s σ H Q I (i σ H Q q)⟩
theorem PT.weak {X : Cx} {e : Expr} {t t' : TT} (h : PT X e t) (i : ∀ σ H Q, t' σ H Q → t σ H Q) : PT X e t' := ⟨fun pins s σ H Q I q => h.run pins s σ H Q I (i σ H Q q)⟩
theorem PW.weak {X : Cx} {e : Expr} {t t' : TT} (h : PW X e t) (i : ∀ σ H Q, t' σ H Q → t σ H Q) : PW X e t' := ⟨fun wh pins s σ H Q I q => h.run wh pins s σ H Q I (i σ H Q q)⟩
theorem PA.weak {X : Cx} {e : List Expr} {t t' : TA} (h : PA X e t) (i : ∀ σ H Q, t' σ H Q → t σ H Q) : PA X e t' := ⟨fun pos pins s σ H Q I q => h.run pos pins s σ H Q I (i σ H Q q)⟩
theorem PS.weak {X : Cx} {e : Stmt} {t t' : TS} (h : PS X e t) (i : ∀ D σ H, t' D σ H → t D σ H) : PS X e t' := ⟨fun pins s σ H Q I q => h.run pins s σ H Q I (i Q σ H q)⟩
theorem PSs.weak {X : Cx} {e : List Stmt} {t t' : TS} (h : PSs X e t) (i : ∀ D σ H, t' D σ H → t D σ H) : PSs X e t' := ⟨fun pins s σ H Q I q => h.run pins s σ H Q I (i Q σ H q)⟩

/-! ### operations by values -/
/-- what an operation on two values asks -/
def rP2 (G : Gx) (f : D → D → P D) : R2 := fun x y H Q => ∃ m S a b, Sim G m S H ∧ RepV G m H x a ∧ RepV G m H y b ∧ postP G (RepV G) m H Q (f a b S)
def rP1 {α β : Type} (G : Gx) (Rp : List Addr → Hp → β → α → Prop) (f : D → P α) : V → Hp → (β → Hp → Prop) → Prop := fun x H Q => ∃ m S a, Sim G m S H ∧ RepV G m H x a ∧ postP G Rp m H Q (f a S)
/-- a call of a builtin with values -/
def rPA (G : Gx) (f : List D → P D) : List V → Hp → VK → Prop := fun xs H Q => ∃ m S as, Sim G m S H ∧ RepVs G m H xs as ∧ postP G (RepV G) m H Q (f as S)

theorem w2 {C : Cfg} {f : D → D → P D} {a b : ME} {σ H Q} (h : tE G W C (e2 f a b) σ H Q) : tOp (rP2 G f) (tE G W C a) (tE G W C b) σ H Q := by
  have h1 := tX.bind (Ra := RepV G) (k := fun C σ x => (b C σ).bind fun y => M.of (f x y)) h
  obtain ⟨m, S, ls, s, r, p⟩ := h1
  refine ⟨m, S, ls, s, r, post.imp p fun x H1 q => ?_⟩
  have h2 := tK.bind (G := G) (W := W) (Ra := RepV G) (Rb := RepV G) (Rp := RepV G) (C := C) (e := b) (k := fun _ _ x y => M.of (f x y)) (fun {_ _ _ _ _ _} e r => RepV.mono e r) q
  obtain ⟨m, S, ls, s, r, p⟩ := h2
  refine ⟨m, S, ls, s, r, post.imp p fun y H2 q => ?_⟩
  obtain ⟨m, S, ls, ab, s, r, ⟨ra, rb⟩, p⟩ := q
  exact ⟨m, S, ab.1, ab.2, s, ra, rb, post.of p⟩
theorem w1 {α β : Type} {Rp : List Addr → Hp → β → α → Prop} {C : Cfg} {f : D → P α} {a : ME} {σ H} {Q : β → Hp → Prop} (h : tX G W Rp C (fun C σ => (a C σ).bind fun x => M.of (f x)) σ H Q) : tE G W C a σ H fun x H1 => rP1 G Rp f x H1 Q := by
  have h1 := tX.bind (Ra := RepV G) (k := fun _ _ x => M.of (f x)) h
  obtain ⟨m, S, ls, s, r, p⟩ := h1
  refine ⟨m, S, ls, s, r, post.imp p fun x H1 q => ?_⟩
  obtain ⟨m, S, ls, a, s, r, ra, p⟩ := q
  exact ⟨m, S, a, s, ra, post.of p⟩
theorem wA {C : Cfg} {f : List D → P D} {a : MA} {σ H Q} (h : tE G W C (fun C σ => (a C σ).bind fun x => M.of (f x)) σ H Q) : tA G W C a σ H fun x H1 => rPA G f x H1 Q := by
  have h1 := tX.bind (Ra := RepVs G) (k := fun _ _ x => M.of (f x)) h
  obtain ⟨m, S, ls, s, r, p⟩ := h1
  refine ⟨m, S, ls, s, r, post.imp p fun x H1 q => ?_⟩
  obtain ⟨m, S, ls, a, s, r, ra, p⟩ := q
  exact ⟨m, S, a, s, ra, post.of p⟩
end
end MP

/-! MP: the operations of the model, by values, give what the pure operations give. Own work. -/
namespace MP
open PySem PySem.Spec PyProof.Rows L2

section
variable {G : Gx} {m : List Addr} {H : Hp} {v : V} {S : Store}
theorem RepV.int_ {i} (h : RepV G m H v (.int i)) : v = .int i := by cases h; rfl
theorem RepV.bl_ {i} (h : RepV G m H v (.bl i)) : v = .bl i := by cases h; rfl
theorem RepV.non_ (h : RepV G m H v .non) : v = .non := by cases h; rfl
theorem RepV.str_ {s} (h : RepV G m H v (.str s)) : v = .str ⟨s.toArray⟩ := by cases h; rfl
theorem RepV.tup_ {ds} (h : RepV G m H v (.tup ds)) : ∃ p vs, v = .ref p ∧ SqT G.K H p vs ∧ RepVs G m H vs ds := by
  cases h with
  | tup a b => exact ⟨_, _, rfl, a, b⟩
theorem RepV.ref_ {n} (h : RepV G m H v (.ref n)) : ∃ p, v = .ref p ∧ m[n]? = some p := by
  cases h with
  | ref a => exact ⟨_, rfl, a⟩
theorem line_eq : line = sizeLine := by rw [sizeLine_eq]; rfl
theorem len_mk (s : List Nat) : (⟨s.toArray⟩ : Str).length = s.length := by simp [Str.length]
theorem app_mk (a b : List Nat) : (⟨a.toArray⟩ : Str) ++ ⟨b.toArray⟩ = ⟨(a ++ b).toArray⟩ := by
  show Str.append _ _ = _
  simp [Str.append]
theorem ref_inj {p q : Addr} (h : V.ref p = V.ref q) : p = q := by cases h; rfl

/-! ### the store grows, is written -/
theorem ext_push {p : Addr} {u : HO} (n : H p = none) : Ext G m H (m ++ [p]) (upd H p u) := Ext.trans (Ext.new n) Ext.app
theorem sim_new {p : Addr} {o : Ob} {u : HO} (s : Sim G m S H) (n : H p = none) (h : RepO G (m ++ [p]) (upd H p u) p o) : Sim G (m ++ [p]) (S.push o) (upd H p u) where
  tbs := fun P h => tabS_new (s.tbs P h) n
  len := by rw [List.length_append, s.len, Store.size_push]; rfl
  nd := fun i j q a b ea na eb nb hi hj => by
    have key : ∀ {k : Nat} {c : Ob}, (S.push o).get k = some c → isRol c = false → (m ++ [p])[k]? = some q → (k < S.size ∧ S.get k = some c ∧ m[k]? = some q) ∨ (k = S.size ∧ q = p) := fun {k c} e nc hk => by
      by_cases h1 : k < S.size
      · rw [Store.get_push_lt h1] at e
        rw [List.getElem?_append_left (by rw [s.len]; exact h1)] at hk
        exact .inl ⟨h1, e, hk⟩
      · have hl := Store.get_lt e
        rw [Store.size_push] at hl
        have hk' : k = S.size := by omega
        subst hk'
        rw [← s.len, List.getElem?_append_right (Nat.le_refl _), Nat.sub_self] at hk
        exact .inr ⟨rfl, by simpa using hk.symm⟩
    have old : ∀ {k : Nat} {c : Ob}, S.get k = some c → isRol c = false → m[k]? = some p → False := fun {k c} e nc hk => by
      obtain ⟨q', h1, h2⟩ := s.obj k c e
      rw [hk] at h1
      cases h1
      obtain ⟨u', h3, _⟩ := h2.tracked nc
      rw [n] at h3
      cases h3
    rcases key ea na hi with ⟨_, e1, h1⟩ | ⟨e1, h1⟩
    · rcases key eb nb hj with ⟨_, e2, h2⟩ | ⟨e2, h2⟩
      · exact s.nd i j q a b e1 na e2 nb h1 h2
      · subst h2; exact (old e1 na h1).elim
    · rcases key eb nb hj with ⟨_, e2, h2⟩ | ⟨e2, h2⟩
      · subst h1; exact (old e2 nb h2).elim
      · rw [e1, e2]
  obj := fun k x e => by
    by_cases hk : k < S.size
    · rw [Store.get_push_lt hk] at e
      obtain ⟨q, h1, h2⟩ := s.obj k x e
      exact ⟨q, (ext_push (G := G) (u := u) n).pre _ _ h1, h2.new n (ext_push n)⟩
    · have hl := Store.get_lt e
      rw [Store.size_push] at hl
      have hk' : k = S.size := by omega
      subst hk'
      rw [Store.get_push_same] at e
      cases e
      refine ⟨p, ?_, h⟩
      rw [← s.len, List.getElem?_append_right (Nat.le_refl _), Nat.sub_self]
      rfl
theorem ref_new {p : Addr} (s : Sim G m S H) {H' : Hp} : RepV G (m ++ [p]) H' (.ref p) (.ref S.size) := by
  refine .ref ?_
  rw [← s.len, List.getElem?_append_right (Nat.le_refl _), Nat.sub_self]
  rfl
/-- an object of the store is written -/
theorem sim_set0 {p : Addr} {n : Nat} {o o' : Ob} {u : HO} (s : Sim G m S H) (hn : S.get n = some o) (no : isRol o = false) (hp : m[n]? = some p) (mu : Mut1 (H p)) (h : RepO G m (upd H p u) p o') : Sim G m (S.set n o') (upd H p u) where
  tbs := fun P h => tabS_mut (s.tbs P h) mu
  len := by rw [s.len, Store.size_set]
  nd := fun i j q a b ea na eb nb hi hj => by
    have hlt := Store.get_lt hn
    have key : ∀ {k : Nat} {c : Ob}, (S.set n o').get k = some c → isRol c = false → ∃ c', S.get k = some c' ∧ isRol c' = false := fun {k c} e nc => by
      by_cases hk : k = n
      · subst hk; exact ⟨_, hn, no⟩
      · rw [Store.get_set_ne _ hlt hk] at e; exact ⟨_, e, nc⟩
    obtain ⟨_, e1, n1⟩ := key ea na
    obtain ⟨_, e2, n2⟩ := key eb nb
    exact s.nd i j q _ _ e1 n1 e2 n2 hi hj
  obj := fun k x e => by
    have hlt := Store.get_lt hn
    by_cases hk : k = n
    · subst hk
      rw [Store.get_set_same _ hlt] at e
      cases e
      exact ⟨p, hp, h⟩
    · rw [Store.get_set_ne _ hlt hk] at e
      obtain ⟨q, h1, h2⟩ := s.obj k x e
      have ext : Ext G m H m (upd H p u) := Ext.mut mu
      refine ⟨q, h1, ?_⟩
      cases h2 with
      | lst a b =>
        have ne : q ≠ p := fun z => hk (s.nd k n p _ _ e rfl hn no (z ▸ h1) hp)
        exact .lst (by rw [upd_ne ne]; exact a) (b.mono ext)
      | ins a b =>
        have ne : q ≠ p := fun z => hk (s.nd k n p _ _ e rfl hn no (z ▸ h1) hp)
        exact .ins (by rw [upd_ne ne]; exact a) (b.mono ext)
      | dct a b =>
        have ne : q ≠ p := fun z => hk (s.nd k n p _ _ e rfl hn no (z ▸ h1) hp)
        exact .dct (by rw [upd_ne ne]; exact a) (b.mono ext)
      | dtu a b =>
        have ne : q ≠ p := fun z => hk (s.nd k n p _ _ e rfl hn no (z ▸ h1) hp)
        exact .dtu (by rw [upd_ne ne]; exact a) (b.mono ext)
      | fdt a b =>
        have ne : q ≠ p := fun z => by subst z; rw [a] at mu; exact mu
        exact .fdt (by rw [upd_ne ne]; exact a) (b.mono ext)
      | fdk a b =>
        have ne : q ≠ p := fun z => by subst z; rw [a] at mu; exact mu
        exact .fdk (by rw [upd_ne ne]; exact a) (b.mono ext)
      | rol a b =>
        refine .rol ?_ (b.mono ext)
        rcases a with ⟨ob, a⟩ | a
        · by_cases z : q = p
          · subst z
            rw [a] at mu
            exact mu.elim
          · exact .inl ⟨ob, by rw [upd_ne z]; exact a⟩
        · exact .inr a
theorem sim_set {p : Addr} {n : Nat} {o o' : Ob} {u : HO} (s : Sim G m S H) (hn : S.get n = some o) (no : isRol o = false) (no' : isRol o' = false) (hp : m[n]? = some p) (mu : Mut1 (H p)) (h : RepO G m (upd H p u) p o') : Sim G m (S.set n o') (upd H p u) := sim_set0 s hn no hp mu h
end

/-- a new list, a new tuple -/
theorem new_lst {G : Gx} {m : List Addr} {H : Hp} {S : Store} {vs : List V} {xs : List D} {Q : VK} (s : Sim G m S H) (r : RepVs G m H vs xs) (p : postP G (RepV G) m H Q (some (.ref S.size, S.push (.lst xs)))) :
    ∀ q, H q = none → Q (.ref q) (upd H q (.lst vs)) := fun q n =>
  p _ _ _ (ext_push n) (sim_new s n (.lst upd_same (r.mono (ext_push n)))) (ref_new s)
theorem sim_same {G : Gx} {m : List Addr} {H : Hp} {S : Store} {q : Addr} {u : HO} (s : Sim G m S H) (n : H q = none) : Sim G m S (upd H q u) where
  tbs := fun P h => tabS_new (s.tbs P h) n
  len := s.len
  nd := s.nd
  obj := fun k x e => by
    obtain ⟨p, h1, h2⟩ := s.obj k x e
    exact ⟨p, h1, h2.new n (Ext.new n)⟩
theorem new_tup {G : Gx} {m : List Addr} {H : Hp} {S : Store} {vs : List V} {xs : List D} {Q : VK} (s : Sim G m S H) (r : RepVs G m H vs xs) (p : postP G (RepV G) m H Q (some (.tup xs, S))) :
    ∀ q, H q = none → Q (.ref q) (upd H q (.tup vs)) := fun q n =>
  p _ _ _ (Ext.new n) (sim_same s n) (.tup (SqT.of upd_same) (r.mono (Ext.new n)))
/-- a value of its own -/
theorem fin_val {G : Gx} {m : List Addr} {H : Hp} {S : Store} {v : V} {d : D} {Q : VK} (s : Sim G m S H) (r : RepV G m H v d) (p : postP G (RepV G) m H Q (some (d, S))) : Q v H := p m H v Ext.refl s r

section
variable {G : Gx} {X : Cx} (hK : G.K = X.K)
include hK
theorem o_add : OpR X (binaryOp .Add) (rP2 G opAdd) := by
  intro pins s σ H x y v u Q I rx ry h
  obtain ⟨m, S, a, b, sim, ra, rb, p⟩ := h
  unfold opAdd at p
  split at p
  · cases ra.int_; cases rb.int_
    exact op_add pins s σ H _ _ v u Q I rx ry ⟨_, _, rfl, rfl, fin_val sim (.int _) p⟩
  · cases ra.str_; cases rb.str_
    split at p
    · rename_i hz
      refine op_add_str pins s σ H _ _ v u Q I rx ry ⟨_, _, rfl, rfl, by rw [len_mk, len_mk, ← line_eq]; exact hz, ?_⟩
      rw [app_mk]
      exact fin_val sim (.str _) p
    · exact p.elim
  · obtain ⟨pa, va, rfl, sa, ra⟩ := ra.tup_
    obtain ⟨pb, vb, rfl, sb, rb⟩ := rb.tup_
    split at p
    · rename_i hz
      refine op_catA pins s σ H _ _ v u Q I rx ry ⟨pa, pb, va, vb, rfl, rfl, hK ▸ sa, hK ▸ sb, by rw [ra.length, rb.length, ← line_eq]; exact hz, fun e => ?_, fun e1 e2 => ?_, fun e1 e2 => new_tup sim (ra.append rb) p⟩
      · subst e
        cases ra
        exact fin_val sim (.tup sb rb) p
      · subst e2
        cases rb
        rw [List.append_nil] at p
        exact fin_val sim (.tup sa ra) p
    · exact p.elim
  · obtain ⟨pa, rfl, ea⟩ := ra.ref_
    obtain ⟨pb, rfl, eb⟩ := rb.ref_
    split at p
    · rename_i xs ys h1 h2
      split at p
      · rename_i hz
        obtain ⟨pa', va, e1, e2, r1⟩ := sim.lst h1
        obtain ⟨pb', vb, e3, e4, r2⟩ := sim.lst h2
        rw [ea] at e1; cases e1
        rw [eb] at e3; cases e3
        exact op_cat pins s σ H _ _ v u Q I rx ry ⟨pa, pb, va, vb, rfl, rfl, e2, e4, by rw [r1.length, r2.length, ← line_eq]; exact hz, new_lst sim (r1.append r2) p⟩
      · exact p.elim
    · exact p.elim
  · exact p.elim
omit hK in
theorem o_sub : OpR X (binaryOp .Sub) (rP2 G opSub) := by
  intro pins s σ H x y v u Q I rx ry h
  obtain ⟨m, S, a, b, sim, ra, rb, p⟩ := h
  unfold opSub at p
  split at p
  · cases ra.int_; cases rb.int_
    exact op_sub pins s σ H _ _ v u Q I rx ry ⟨_, _, rfl, rfl, fin_val sim (.int _) p⟩
  · exact p.elim
omit hK in
theorem o_div : OpR X (binaryOp .FloorDiv) (rP2 G opDiv) := by
  intro pins s σ H x y v u Q I rx ry h
  obtain ⟨m, S, a, b, sim, ra, rb, p⟩ := h
  unfold opDiv at p
  split at p
  · cases ra.int_; cases rb.int_
    split at p
    · rename_i hz
      exact op_fdivN pins s σ H _ _ v u Q I rx ry ⟨_, _, rfl, rfl, hz, fin_val sim (.int _) p⟩
    · exact p.elim
  · exact p.elim
omit hK in
theorem o_mod : OpR X (binaryOp .Mod) (rP2 G opMod) := by
  intro pins s σ H x y v u Q I rx ry h
  obtain ⟨m, S, a, b, sim, ra, rb, p⟩ := h
  unfold opMod at p
  split at p
  · cases ra.int_; cases rb.int_
    split at p
    · rename_i hz
      exact op_modN pins s σ H _ _ v u Q I rx ry ⟨_, _, rfl, rfl, hz, fin_val sim (.int _) p⟩
    · exact p.elim
  · exact p.elim
omit hK in
theorem o_pow : OpR X (binaryOp .Pow) (rP2 G opPow) := by
  intro pins s σ H x y v u Q I rx ry h
  obtain ⟨m, S, a, b, sim, ra, rb, p⟩ := h
  unfold opPow at p
  split at p
  · cases ra.int_; cases rb.int_
    split at p
    · rename_i hz
      exact op_pow pins s σ H _ _ v u Q I rx ry ⟨_, _, rfl, rfl, ⟨hz.1, hz.2.1, hz.2.2⟩, fin_val sim (.int _) p⟩
    · exact p.elim
  · exact p.elim
omit hK in
theorem o_neg : UnR X (unaryOp .USub) (rP1 G (RepV G) opNeg) := by
  intro pins s σ H x v Q I rx h
  obtain ⟨m, S, a, sim, ra, p⟩ := h
  unfold opNeg at p
  split at p
  · cases ra.int_
    exact un_neg pins s σ H _ v Q I rx ⟨_, rfl, fin_val sim (.int _) p⟩
  · exact p.elim
end
end MP

/-! MP: == of data without dicts, whatever the texts' signs. Own work. -/
namespace MP
open PySem PySem.Spec PyProof.Rows L2 SeqAt

/-! ### what is read is one -/
theorem nd_cons {x : PyData} {xs : List PyData} (h : PyData.hasDictAll (x :: xs) = false) : x.hasDict = false ∧ PyData.hasDictAll xs = false := by
  simp only [PyData.hasDictAll, Bool.or_eq_false_iff] at h
  exact h
mutual
theorem reads_one {h : Heap} {v : Value} {d e : PyData} {as bs : List Addr} (r : Reads h v d as) (q : Reads h v e bs) (nd : d.hasDict = false) : d = e := by
  cases r with
  | none => cases q; rfl
  | bool _ => cases q; rfl
  | int _ _ => cases q; rfl
  | str _ _ => cases q; rfl
  | dict _ _ _ _ _ => simp [PyData.hasDict] at nd
  | list a1 a2 a3 a4 =>
    cases q with
    | list b1 b2 b3 b4 =>
      obtain rfl := Option.some.inj (a1.symm.trans b1)
      have := a3.symm.trans b3
      injection this with e1 _
      subst e1
      rw [readsAll_one a4 b4 (by simpa [PyData.hasDict] using nd)]
    | tuple b1 b2 _ _ =>
      obtain rfl := Option.some.inj (a1.symm.trans b1)
      exact absurd (a2.symm.trans b2) (by simp)
    | dict b1 b2 _ _ _ =>
      obtain rfl := Option.some.inj (a1.symm.trans b1)
      exact absurd (a2.symm.trans b2) (by simp)
  | tuple a1 a2 a3 a4 =>
    cases q with
    | tuple b1 b2 b3 b4 =>
      obtain rfl := Option.some.inj (a1.symm.trans b1)
      have := a3.symm.trans b3
      injection this with e1 _
      subst e1
      rw [readsAll_one a4 b4 (by simpa [PyData.hasDict] using nd)]
    | list b1 b2 _ _ =>
      obtain rfl := Option.some.inj (a1.symm.trans b1)
      exact absurd (a2.symm.trans b2) (by simp)
    | dict b1 b2 _ _ _ =>
      obtain rfl := Option.some.inj (a1.symm.trans b1)
      exact absurd (a2.symm.trans b2) (by simp)
theorem readsAll_one {h : Heap} {vs : List Value} {ds es : List PyData} {as bs : List Addr} (r : ReadsAll h vs ds as) (q : ReadsAll h vs es bs) (nd : PyData.hasDictAll ds = false) : ds = es := by
  cases r with
  | nil => cases q; rfl
  | cons r1 r2 =>
    cases q with
    | cons q1 q2 =>
      obtain ⟨n1, n2⟩ := nd_cons nd
      rw [reads_one r1 q1 n1, readsAll_one r2 q2 n2]
end
mutual
theorem eqv_same : ∀ d : PyData, d.hasDict = false → PyData.eqv d d = true
  | .none, _ => rfl
  | .bool b, _ => by simp [PyData.eqv]
  | .int i, _ => by simp [PyData.eqv]
  | .str x, _ => by simp [PyData.eqv]
  | .list xs, n => by rw [PyData.eqv]; exact eqvs_same xs (by simpa [PyData.hasDict] using n)
  | .tuple xs, n => by rw [PyData.eqv]; exact eqvs_same xs (by simpa [PyData.hasDict] using n)
  | .dict _, n => by simp [PyData.hasDict] at n
theorem eqvs_same : ∀ ds : List PyData, PyData.hasDictAll ds = false → PyData.eqvAll ds ds = true
  | [], _ => rfl
  | d :: ds, n => by
    obtain ⟨n1, n2⟩ := nd_cons n
    rw [PyData.eqvAll, eqv_same d n1, eqvs_same ds n2]; rfl
end
theorem readsAll_len {h : Heap} {vs : List Value} {ds : List PyData} {as : List Addr} (r : ReadsAll h vs ds as) : vs.length = ds.length := SeqAt.ReadsAll.length ds vs as r

theorem readsAll_at {h : Heap} : ∀ {vs : List Value} {ds : List PyData} {as : List Addr} (j : Nat) (hj : j < vs.length), ReadsAll h vs ds as → ∃ d cs, ds[j]? = some d ∧ Reads h vs[j] d cs ∧ d.depth ≤ PyData.depthAll ds ∧ (PyData.hasDictAll ds = false → d.hasDict = false)
  | _, _, _, j, hj, .nil => absurd hj (Nat.not_lt_zero _)
  | _, _, _, 0, _, .cons r _ => ⟨_, _, rfl, r, by simp only [PyData.depthAll]; exact Nat.le_max_left _ _, fun n => (nd_cons n).1⟩
  | _, _, _, j + 1, hj, .cons _ q => by
    obtain ⟨d, cs, e, r, l, n⟩ := readsAll_at j (Nat.lt_of_succ_lt_succ hj) q
    exact ⟨d, cs, by simpa using e, by simpa using r, by simp only [PyData.depthAll]; exact Nat.le_trans l (Nat.le_max_right _ _), fun z => n (nd_cons z).2⟩
theorem getD_of {ds : List PyData} {j : Nat} {d : PyData} (h : ds[j]? = some d) : ds.getD j .none = d := by simp [List.getD, h]

theorem eqA : ∀ (k : Nat) (da db : PyData) (A : Around) (s : Shared) (a b : Value) (as bs : List Addr), da.depth ≤ k → db.depth ≤ k → Reads s.heap a da as → Reads s.heap b db bs → da.hasDict = false → db.hasDict = false → A.units + k < cLine →
    EqAt A s a b (PyData.eqv da db) := by
  intro k
  induction k with
  | zero =>
    intro da db A s a b as bs h1 h2 ra rb n1 n2 hu
    cases ra with
    | none =>
      cases rb with
      | none => exact EqAt.same _
      | bool y => exact EqAt.none_bool  y
      | int y u => exact EqAt.none_int  y u
      | str y u => exact EqAt.none_str  y u
      | list _ _ _ _ => simp [PyData.depth] at h2
      | tuple _ _ _ _ => simp [PyData.depth] at h2
      | dict _ _ _ _ _ => simp [PyData.hasDict] at n2
    | bool x =>
      cases rb with
      | none => exact EqAt.bool_none x
      | bool y => exact EqAt.bool_bool x y
      | int y u => exact EqAt.bool_int x y u
      | str y u => exact EqAt.bool_str x y u
      | list _ _ _ _ => simp [PyData.depth] at h2
      | tuple _ _ _ _ => simp [PyData.depth] at h2
      | dict _ _ _ _ _ => simp [PyData.hasDict] at n2
    | int x t =>
      cases rb with
      | none => exact EqAt.int_none x t
      | bool y => exact EqAt.int_bool x t y
      | int y u => exact EqAt.int_int x t y u
      | str y u => exact EqAt.int_str x t y u
      | list _ _ _ _ => simp [PyData.depth] at h2
      | tuple _ _ _ _ => simp [PyData.depth] at h2
      | dict _ _ _ _ _ => simp [PyData.hasDict] at n2
    | str x t =>
      cases rb with
      | none => exact EqAt.str_none x t
      | bool y => exact EqAt.str_bool x t y
      | int y u => exact EqAt.str_int x t y u
      | str y u => exact EqAt.str_str x t y u
      | list _ _ _ _ => simp [PyData.depth] at h2
      | tuple _ _ _ _ => simp [PyData.depth] at h2
      | dict _ _ _ _ _ => simp [PyData.hasDict] at n2
    | list _ _ _ _ => simp [PyData.depth] at h1
    | tuple _ _ _ _ => simp [PyData.depth] at h1
    | dict _ _ _ _ _ => simp [PyData.hasDict] at n1
  | succ k ih =>
    intro da db A s a b as bs h1 h2 ra rb n1 n2 hu
    have hu0 : A.units < cLine := by omega
    have hu1 : A.in1.units + k < cLine := by
      show A.units + 1 + k < cLine
      omega
    have item : ∀ {vs ws : Array Value} {xs ys : List PyData} {cs es : List Addr}, ReadsAll s.heap vs.toList xs cs → ReadsAll s.heap ws.toList ys es → PyData.depthAll xs ≤ k → PyData.depthAll ys ≤ k → PyData.hasDictAll xs = false → PyData.hasDictAll ys = false →
        ∀ j (j1 : j < vs.size) (j2 : j < ws.size), EqAt A.in1 s vs[j] ws[j] (pairEq xs ys j) := fun {vs ws xs ys cs es} r q d1 d2 m1 m2 j j1 j2 => by
      obtain ⟨x, _, e1, r1, l1, o1⟩ := readsAll_at j (by simpa using j1) r
      obtain ⟨y, _, e2, r2, l2, o2⟩ := readsAll_at j (by simpa using j2) q
      have key := ih x y A.in1 s _ _ _ _ (by omega) (by omega) r1 r2 (o1 m1) (o2 m2) hu1
      show EqAt A.in1 s vs[j] ws[j] (PyData.eqv (xs.getD j .none) (ys.getD j .none))
      rw [getD_of e1, getD_of e2]
      simpa using key
    cases ra with
    | dict _ _ _ _ _ => simp [PyData.hasDict] at n1
    | @list l _ vs _ xs _ a1 a2 a3 a4 =>
      have hl : s.heap.IsList l vs := ⟨_, a1, a2, _, a3⟩
      cases rb with
      | dict _ _ _ _ _ => simp [PyData.hasDict] at n2
      | none => exact EqAt.list_none hl hu0
      | bool y => exact EqAt.list_bool y hl hu0
      | int y u => exact EqAt.list_int y u hl hu0
      | str y u => exact EqAt.list_str y u hl hu0
      | tuple b1 b2 b3 b4 => exact EqAt.list_tuple hl ⟨_, b1, b2, _, b3⟩ hu0
      | @list l' _ ws _ ys _ b1 b2 b3 b4 =>
        have hl' : s.heap.IsList l' ws := ⟨_, b1, b2, _, b3⟩
        have z1 : vs.size = xs.length := by simpa using readsAll_len a4
        have z2 : ws.size = ys.length := by simpa using readsAll_len b4
        have m1 : PyData.hasDictAll xs = false := by simpa [PyData.hasDict] using n1
        have m2 : PyData.hasDictAll ys = false := by simpa [PyData.hasDict] using n2
        by_cases e : l = l'
        · subst e
          rw [← reads_one (.list a1 a2 a3 a4) (.list b1 b2 b3 b4) n1, eqv_same _ n1]
          exact EqAt.same _
        · show EqAt A s _ _ (PyData.eqvAll xs ys)
          by_cases q : vs.size = ws.size
          · rw [← eqvAll_same_length (show xs.length = ys.length by omega), ← z1]
            exact EqAt.of_refs e (RcAt.lists hl hl' q hu0 (item a4 b4 (by simp only [PyData.depth] at h1; omega) (by simp only [PyData.depth] at h2; omega) m1 m2))
          · rw [eqvAll_other_length (show xs.length ≠ ys.length by omega)]
            exact EqAt.of_refs e (RcAt.lists_lengths hl hl' (by simpa using q) hu0)
    | @tuple l _ vs _ xs _ a1 a2 a3 a4 =>
      have hl : s.heap.IsTuple l vs := ⟨_, a1, a2, _, a3⟩
      cases rb with
      | dict _ _ _ _ _ => simp [PyData.hasDict] at n2
      | none => exact EqAt.tuple_none hl hu0
      | bool y => exact EqAt.tuple_bool y hl hu0
      | int y u => exact EqAt.tuple_int y u hl hu0
      | str y u => exact EqAt.tuple_str y u hl hu0
      | list b1 b2 b3 b4 => exact EqAt.tuple_list hl ⟨_, b1, b2, _, b3⟩ hu0
      | @tuple l' _ ws _ ys _ b1 b2 b3 b4 =>
        have hl' : s.heap.IsTuple l' ws := ⟨_, b1, b2, _, b3⟩
        have z1 : vs.size = xs.length := by simpa using readsAll_len a4
        have z2 : ws.size = ys.length := by simpa using readsAll_len b4
        have m1 : PyData.hasDictAll xs = false := by simpa [PyData.hasDict] using n1
        have m2 : PyData.hasDictAll ys = false := by simpa [PyData.hasDict] using n2
        by_cases e : l = l'
        · subst e
          rw [← reads_one (.tuple a1 a2 a3 a4) (.tuple b1 b2 b3 b4) n1, eqv_same _ n1]
          exact EqAt.same _
        · show EqAt A s _ _ (PyData.eqvAll xs ys)
          rw [← eqvAll_eq xs ys, ← z1, ← z2]
          exact EqAt.of_refs e (RcAt.tuples hl hl' hu0 (item a4 b4 (by simp only [PyData.depth] at h1; omega) (by simp only [PyData.depth] at h2; omega) m1 m2))
    | none =>
      cases rb with
      | none => exact EqAt.same _
      | bool y => exact EqAt.none_bool  y
      | int y u => exact EqAt.none_int  y u
      | str y u => exact EqAt.none_str  y u
      | list b1 b2 b3 b4 => exact EqAt.none_list  ⟨_, b1, b2, _, b3⟩ hu0
      | tuple b1 b2 b3 b4 => exact EqAt.none_tuple  ⟨_, b1, b2, _, b3⟩ hu0
      | dict _ _ _ _ _ => simp [PyData.hasDict] at n2
    | bool x =>
      cases rb with
      | none => exact EqAt.bool_none x
      | bool y => exact EqAt.bool_bool x y
      | int y u => exact EqAt.bool_int x y u
      | str y u => exact EqAt.bool_str x y u
      | list b1 b2 b3 b4 => exact EqAt.bool_list x ⟨_, b1, b2, _, b3⟩ hu0
      | tuple b1 b2 b3 b4 => exact EqAt.bool_tuple x ⟨_, b1, b2, _, b3⟩ hu0
      | dict _ _ _ _ _ => simp [PyData.hasDict] at n2
    | int x t =>
      cases rb with
      | none => exact EqAt.int_none x t
      | bool y => exact EqAt.int_bool x t y
      | int y u => exact EqAt.int_int x t y u
      | str y u => exact EqAt.int_str x t y u
      | list b1 b2 b3 b4 => exact EqAt.int_list x t ⟨_, b1, b2, _, b3⟩ hu0
      | tuple b1 b2 b3 b4 => exact EqAt.int_tuple x t ⟨_, b1, b2, _, b3⟩ hu0
      | dict _ _ _ _ _ => simp [PyData.hasDict] at n2
    | str x t =>
      cases rb with
      | none => exact EqAt.str_none x t
      | bool y => exact EqAt.str_bool x t y
      | int y u => exact EqAt.str_int x t y u
      | str y u => exact EqAt.str_str x t y u
      | list b1 b2 b3 b4 => exact EqAt.str_list x t ⟨_, b1, b2, _, b3⟩ hu0
      | tuple b1 b2 b3 b4 => exact EqAt.str_tuple x t ⟨_, b1, b2, _, b3⟩ hu0
      | dict _ _ _ _ _ => simp [PyData.hasDict] at n2

/-! ### snapshots are read -/
theorem optAll_cons {α β : Type} {f : α → Option β} {x : α} {xs : List α} {ys : List β} (h : optAll f (x :: xs) = some ys) : ∃ y r, f x = some y ∧ optAll f xs = some r ∧ ys = y :: r := by
  unfold optAll at h
  cases q : f x with
  | none => rw [q] at h; cases h
  | some y =>
    rw [q] at h
    cases q2 : optAll f xs with
    | none => rw [q2] at h; cases h
    | some r =>
      rw [q2] at h
      cases h
      exact ⟨y, r, rfl, rfl, rfl⟩
section
variable {G : Gx} {X : Cx} (hK : G.K = X.K) {m : List Addr} {H : Hp} {S : Store} {pins : List (Addr × Obj)} {s : Shared} {σ : L2.St}
include hK
theorem snap_reads (I : Inv X pins σ H s) (sim : Sim G m S H) : ∀ (k : Nat) (d : D) (da : PyData) (v : V) (u : Value), RepV G m H v d → snap S k d = some da → RelV v u → ∃ as, Reads s.heap u da as ∧ da.depth ≤ k ∧ da.hasDict = false := by
  intro k
  induction k with
  | zero =>
    intro d da v u _ h _
    cases d <;> cases h
  | succ k ih =>
    have all : ∀ (xs : List D) (ds : List PyData) (vs : List V) (us : List Value), RepVs G m H vs xs → optAll (snap S k) xs = some ds → Vals vs us → ∃ as, ReadsAll s.heap us ds as ∧ PyData.depthAll ds ≤ k ∧ PyData.hasDictAll ds = false := by
      intro xs
      induction xs with
      | nil =>
        intro ds vs us r h rv
        cases r
        cases rv
        cases h
        exact ⟨_, ReadsAll.nil, Nat.zero_le _, rfl⟩
      | cons x xs ihx =>
        intro ds vs us r h rv
        obtain ⟨y, t, e1, e2, rfl⟩ := optAll_cons h
        cases r with
        | cons r1 r2 =>
          cases rv with
          | cons q1 q2 =>
            obtain ⟨as, a1, a2, a3⟩ := ih _ _ _ _ r1 e1 q1
            obtain ⟨bs, b1, b2, b3⟩ := ihx _ _ _ r2 e2 q2
            exact ⟨_, ReadsAll.cons a1 b1, by simp only [PyData.depthAll]; exact Nat.max_le.mpr ⟨a2, b2⟩, by simp only [PyData.hasDictAll, a3, b3, Bool.or_self]⟩
    intro d da v u r h rv
    cases d with
    | non => cases h; cases r.non_; cases rv; exact ⟨_, Reads.none, Nat.zero_le _, rfl⟩
    | bl b => cases h; cases r.bl_; cases rv; exact ⟨_, Reads.bool b, Nat.zero_le _, rfl⟩
    | int i => cases h; cases r.int_; obtain ⟨t, rfl⟩ := rv; exact ⟨_, Reads.int i t, Nat.zero_le _, rfl⟩
    | str l => cases h; cases r.str_; obtain ⟨t, rfl⟩ := rv; exact ⟨_, Reads.str _ t, Nat.zero_le _, rfl⟩
    | tup xs =>
      obtain ⟨p, vs, rfl, hs, hv⟩ := r.tup_
      cases rv
      have h' : (optAll (snap S k) xs).map PyData.tuple = some da := h
      obtain ⟨ds, e1, rfl⟩ := Option.map_eq_some_iff.mp h'
      obtain ⟨its, rr, ⟨o, ho, hc, n, hd⟩, _⟩ := I.tuple (hK ▸ hs)
      obtain ⟨as, a1, a2, a3⟩ := all xs ds vs its hv e1 rr
      exact ⟨_, Reads.tuple ho hc hd a1, by simp only [PyData.depth]; omega, by simpa [PyData.hasDict] using a3⟩
    | ref n =>
      obtain ⟨p, rfl, hp⟩ := r.ref_
      cases rv
      have h' : (match lstAt S n with
        | some xs => (optAll (snap S k) xs).map PyData.list
        | none => none) = some da := h
      cases q : lstAt S n with
      | none => rw [q] at h'; cases h'
      | some xs =>
        rw [q] at h'
        obtain ⟨ds, e1, rfl⟩ := Option.map_eq_some_iff.mp h'
        obtain ⟨p', vs, e2, hs, hv⟩ := sim.seqL q
        rw [hp] at e2
        cases e2
        obtain ⟨its, rr, ⟨o, n', ho, hc, _, hd⟩, _⟩ := I.list (hK ▸ hs)
        obtain ⟨as, a1, a2, a3⟩ := all xs ds vs its hv e1 rr
        exact ⟨_, Reads.list ho hc hd a1, by simp only [PyData.depth]; omega, by simpa [PyData.hasDict] using a3⟩
    | exn c fs => cases h
    | lam f e => cases h
theorem eqAt_snap (I : Inv X pins σ H s) (sim : Sim G m S H) {x y : D} {da db : PyData} {v w : V} {u z : Value} {A : Around} (hu : A.units + deep < cLine) (rx : RepV G m H v x) (ry : RepV G m H w y) (ex : snap S deep x = some da) (ey : snap S deep y = some db) (rv : RelV v u) (rw' : RelV w z) :
    EqAt A s u z (PyData.eqv da db) := by
  obtain ⟨as, r1, d1, n1⟩ := snap_reads hK I sim _ _ _ _ _ rx ex rv
  obtain ⟨bs, r2, d2, n2⟩ := snap_reads hK I sim _ _ _ _ _ ry ey rw'
  exact eqA deep da db A s u z as bs d1 d2 r1 r2 n1 n2 hu
end

/-! ### == and != at the top -/
theorem itemsA {k : Nat} {A : Around} {s : Shared} {vs ws : Array Value} {xs ys : List PyData} {cs es : List Addr} (r : ReadsAll s.heap vs.toList xs cs) (q : ReadsAll s.heap ws.toList ys es) (d1 : PyData.depthAll xs ≤ k) (d2 : PyData.depthAll ys ≤ k)
    (m1 : PyData.hasDictAll xs = false) (m2 : PyData.hasDictAll ys = false) (hu : A.units + 1 + k < cLine) : ∀ j (j1 : j < vs.size) (j2 : j < ws.size), EqAt A.in1 s vs[j] ws[j] (pairEq xs ys j) := fun j j1 j2 => by
  obtain ⟨x, _, e1, r1, l1, o1⟩ := readsAll_at j (by simpa using j1) r
  obtain ⟨y, _, e2, r2, l2, o2⟩ := readsAll_at j (by simpa using j2) q
  have key := eqA k x y A.in1 s _ _ _ _ (by omega) (by omega) r1 r2 (o1 m1) (o2 m2) hu
  show EqAt A.in1 s vs[j] ws[j] (PyData.eqv (xs.getD j .none) (ys.getD j .none))
  rw [getD_of e1, getD_of e2]
  simpa using key
theorem rcA (k : Nat) (da db : PyData) (A : Around) (s : Shared) (a b : Value) (as bs : List Addr) (h1 : da.depth ≤ k) (h2 : db.depth ≤ k) (ra : Reads s.heap a da as) (rb : Reads s.heap b db bs) (n1 : da.hasDict = false) (n2 : db.hasDict = false) (hu : A.units + k < cLine) :
    RcAt A s a b (PyData.eqv da db) := by
  have hu0 : A.units < cLine := by omega
  cases ra with
  | dict _ _ _ _ _ => simp [PyData.hasDict] at n1
  | none =>
    cases rb with
    | none => exact RcAt.none_none
    | bool y => exact RcAt.none_bool  y
    | int y u => exact RcAt.none_int  y u
    | str y u => exact RcAt.none_str  y u
    | list b1 b2 b3 b4 => exact RcAt.none_list  ⟨_, b1, b2, _, b3⟩ hu0
    | tuple b1 b2 b3 b4 => exact RcAt.none_tuple  ⟨_, b1, b2, _, b3⟩ hu0
    | dict _ _ _ _ _ => simp [PyData.hasDict] at n2
  | bool x =>
    cases rb with
    | none => exact RcAt.bool_none x
    | bool y => exact RcAt.bool_bool x y
    | int y u => exact RcAt.bool_int x y u
    | str y u => exact RcAt.bool_str x y u
    | list b1 b2 b3 b4 => exact RcAt.bool_list x ⟨_, b1, b2, _, b3⟩ hu0
    | tuple b1 b2 b3 b4 => exact RcAt.bool_tuple x ⟨_, b1, b2, _, b3⟩ hu0
    | dict _ _ _ _ _ => simp [PyData.hasDict] at n2
  | int x t =>
    cases rb with
    | none => exact RcAt.int_none x t
    | bool y => exact RcAt.int_bool x t y
    | int y u => exact RcAt.int_int x t y u
    | str y u => exact RcAt.int_str x t y u
    | list b1 b2 b3 b4 => exact RcAt.int_list x t ⟨_, b1, b2, _, b3⟩ hu0
    | tuple b1 b2 b3 b4 => exact RcAt.int_tuple x t ⟨_, b1, b2, _, b3⟩ hu0
    | dict _ _ _ _ _ => simp [PyData.hasDict] at n2
  | str x t =>
    cases rb with
    | none => exact RcAt.str_none x t
    | bool y => exact RcAt.str_bool x t y
    | int y u => exact RcAt.str_int x t y u
    | str y u => exact RcAt.str_str x t y u
    | list b1 b2 b3 b4 => exact RcAt.str_list x t ⟨_, b1, b2, _, b3⟩ hu0
    | tuple b1 b2 b3 b4 => exact RcAt.str_tuple x t ⟨_, b1, b2, _, b3⟩ hu0
    | dict _ _ _ _ _ => simp [PyData.hasDict] at n2
  | @list l _ vs _ xs _ a1 a2 a3 a4 =>
    have hl : s.heap.IsList l vs := ⟨_, a1, a2, _, a3⟩
    cases rb with
    | dict _ _ _ _ _ => simp [PyData.hasDict] at n2
    | none => exact RcAt.list_none hl hu0
    | bool y => exact RcAt.list_bool y hl hu0
    | int y u => exact RcAt.list_int y u hl hu0
    | str y u => exact RcAt.list_str y u hl hu0
    | tuple b1 b2 b3 b4 => exact RcAt.list_tuple hl ⟨_, b1, b2, _, b3⟩ hu0
    | @list l' _ ws _ ys _ b1 b2 b3 b4 =>
      have hl' : s.heap.IsList l' ws := ⟨_, b1, b2, _, b3⟩
      have z1 : vs.size = xs.length := by simpa using readsAll_len a4
      have z2 : ws.size = ys.length := by simpa using readsAll_len b4
      have m1 : PyData.hasDictAll xs = false := by simpa [PyData.hasDict] using n1
      have m2 : PyData.hasDictAll ys = false := by simpa [PyData.hasDict] using n2
      simp only [PyData.depth] at h1 h2
      have it := itemsA (k := k - 1) (A := A) (s := s) a4 b4 (by omega) (by omega) m1 m2 (by omega)
      show RcAt A s _ _ (PyData.eqvAll xs ys)
      by_cases q : vs.size = ws.size
      · rw [← eqvAll_same_length (show xs.length = ys.length by omega), ← z1]
        exact RcAt.lists hl hl' q hu0 it
      · rw [eqvAll_other_length (show xs.length ≠ ys.length by omega)]
        exact RcAt.lists_lengths hl hl' (by simpa using q) hu0
  | @tuple l _ vs _ xs _ a1 a2 a3 a4 =>
    have hl : s.heap.IsTuple l vs := ⟨_, a1, a2, _, a3⟩
    cases rb with
    | dict _ _ _ _ _ => simp [PyData.hasDict] at n2
    | none => exact RcAt.tuple_none hl hu0
    | bool y => exact RcAt.tuple_bool y hl hu0
    | int y u => exact RcAt.tuple_int y u hl hu0
    | str y u => exact RcAt.tuple_str y u hl hu0
    | list b1 b2 b3 b4 => exact RcAt.tuple_list hl ⟨_, b1, b2, _, b3⟩ hu0
    | @tuple l' _ ws _ ys _ b1 b2 b3 b4 =>
      have hl' : s.heap.IsTuple l' ws := ⟨_, b1, b2, _, b3⟩
      have z1 : vs.size = xs.length := by simpa using readsAll_len a4
      have z2 : ws.size = ys.length := by simpa using readsAll_len b4
      have m1 : PyData.hasDictAll xs = false := by simpa [PyData.hasDict] using n1
      have m2 : PyData.hasDictAll ys = false := by simpa [PyData.hasDict] using n2
      simp only [PyData.depth] at h1 h2
      have it := itemsA (k := k - 1) (A := A) (s := s) a4 b4 (by omega) (by omega) m1 m2 (by omega)
      show RcAt A s _ _ (PyData.eqvAll xs ys)
      rw [← eqvAll_eq xs ys, ← z1, ← z2]
      exact RcAt.tuples hl hl' hu0 it
theorem rcNeA (k : Nat) (da db : PyData) (A : Around) (s : Shared) (a b : Value) (as bs : List Addr) (h1 : da.depth ≤ k) (h2 : db.depth ≤ k) (ra : Reads s.heap a da as) (rb : Reads s.heap b db bs) (n1 : da.hasDict = false) (n2 : db.hasDict = false) (hu : A.units + k < cLine) :
    RcNeAt A s a b (!PyData.eqv da db) := by
  have hu0 : A.units < cLine := by omega
  cases ra with
  | dict _ _ _ _ _ => simp [PyData.hasDict] at n1
  | none =>
    cases rb with
    | none => exact RcNeAt.none_none
    | bool y => exact RcNeAt.none_bool  y
    | int y u => exact RcNeAt.none_int  y u
    | str y u => exact RcNeAt.none_str  y u
    | list b1 b2 b3 b4 => exact RcNeAt.none_list  ⟨_, b1, b2, _, b3⟩ hu0
    | tuple b1 b2 b3 b4 => exact RcNeAt.none_tuple  ⟨_, b1, b2, _, b3⟩ hu0
    | dict _ _ _ _ _ => simp [PyData.hasDict] at n2
  | bool x =>
    cases rb with
    | none => exact RcNeAt.bool_none x
    | bool y => exact RcNeAt.bool_bool x y
    | int y u => exact RcNeAt.bool_int x y u
    | str y u => exact RcNeAt.bool_str x y u
    | list b1 b2 b3 b4 => exact RcNeAt.bool_list x ⟨_, b1, b2, _, b3⟩ hu0
    | tuple b1 b2 b3 b4 => exact RcNeAt.bool_tuple x ⟨_, b1, b2, _, b3⟩ hu0
    | dict _ _ _ _ _ => simp [PyData.hasDict] at n2
  | int x t =>
    cases rb with
    | none => exact RcNeAt.int_none x t
    | bool y => exact RcNeAt.int_bool x t y
    | int y u => exact RcNeAt.int_int x t y u
    | str y u => exact RcNeAt.int_str x t y u
    | list b1 b2 b3 b4 => exact RcNeAt.int_list x t ⟨_, b1, b2, _, b3⟩ hu0
    | tuple b1 b2 b3 b4 => exact RcNeAt.int_tuple x t ⟨_, b1, b2, _, b3⟩ hu0
    | dict _ _ _ _ _ => simp [PyData.hasDict] at n2
  | str x t =>
    cases rb with
    | none => exact RcNeAt.str_none x t
    | bool y => exact RcNeAt.str_bool x t y
    | int y u => exact RcNeAt.str_int x t y u
    | str y u => exact RcNeAt.str_str x t y u
    | list b1 b2 b3 b4 => exact RcNeAt.str_list x t ⟨_, b1, b2, _, b3⟩ hu0
    | tuple b1 b2 b3 b4 => exact RcNeAt.str_tuple x t ⟨_, b1, b2, _, b3⟩ hu0
    | dict _ _ _ _ _ => simp [PyData.hasDict] at n2
  | @list l _ vs _ xs _ a1 a2 a3 a4 =>
    have hl : s.heap.IsList l vs := ⟨_, a1, a2, _, a3⟩
    cases rb with
    | dict _ _ _ _ _ => simp [PyData.hasDict] at n2
    | none => exact RcNeAt.list_none hl hu0
    | bool y => exact RcNeAt.list_bool y hl hu0
    | int y u => exact RcNeAt.list_int y u hl hu0
    | str y u => exact RcNeAt.list_str y u hl hu0
    | tuple b1 b2 b3 b4 => exact RcNeAt.list_tuple hl ⟨_, b1, b2, _, b3⟩ hu0
    | @list l' _ ws _ ys _ b1 b2 b3 b4 =>
      have hl' : s.heap.IsList l' ws := ⟨_, b1, b2, _, b3⟩
      have z1 : vs.size = xs.length := by simpa using readsAll_len a4
      have z2 : ws.size = ys.length := by simpa using readsAll_len b4
      have m1 : PyData.hasDictAll xs = false := by simpa [PyData.hasDict] using n1
      have m2 : PyData.hasDictAll ys = false := by simpa [PyData.hasDict] using n2
      simp only [PyData.depth] at h1 h2
      have it := itemsA (k := k - 1) (A := A) (s := s) a4 b4 (by omega) (by omega) m1 m2 (by omega)
      show RcNeAt A s _ _ (!PyData.eqvAll xs ys)
      by_cases q : vs.size = ws.size
      · rw [← eqvAll_same_length (show xs.length = ys.length by omega), ← z1]
        exact RcNeAt.lists hl hl' q hu0 it
      · rw [eqvAll_other_length (show xs.length ≠ ys.length by omega)]
        exact RcNeAt.lists_lengths hl hl' (by simpa using q) hu0
  | @tuple l _ vs _ xs _ a1 a2 a3 a4 =>
    have hl : s.heap.IsTuple l vs := ⟨_, a1, a2, _, a3⟩
    cases rb with
    | dict _ _ _ _ _ => simp [PyData.hasDict] at n2
    | none => exact RcNeAt.tuple_none hl hu0
    | bool y => exact RcNeAt.tuple_bool y hl hu0
    | int y u => exact RcNeAt.tuple_int y u hl hu0
    | str y u => exact RcNeAt.tuple_str y u hl hu0
    | list b1 b2 b3 b4 => exact RcNeAt.tuple_list hl ⟨_, b1, b2, _, b3⟩ hu0
    | @tuple l' _ ws _ ys _ b1 b2 b3 b4 =>
      have hl' : s.heap.IsTuple l' ws := ⟨_, b1, b2, _, b3⟩
      have z1 : vs.size = xs.length := by simpa using readsAll_len a4
      have z2 : ws.size = ys.length := by simpa using readsAll_len b4
      have m1 : PyData.hasDictAll xs = false := by simpa [PyData.hasDict] using n1
      have m2 : PyData.hasDictAll ys = false := by simpa [PyData.hasDict] using n2
      simp only [PyData.depth] at h1 h2
      have it := itemsA (k := k - 1) (A := A) (s := s) a4 b4 (by omega) (by omega) m1 m2 (by omega)
      show RcNeAt A s _ _ (!PyData.eqvAll xs ys)
      rw [← eqvAll_eq xs ys, ← z1, ← z2]
      exact RcNeAt.tuples hl hl' hu0 it

section
variable {G : Gx} {X : Cx} (hK : G.K = X.K)
include hK
theorem o_eq (hu : X.A.units + 64 < cLine) : OpR X (compareOp .Eq) (rP2 G opEq) := by
  intro pins s σ H x y v u Q I rx ry h
  obtain ⟨m, S, a, b, sim, ra, rb, p⟩ := h
  unfold opEq eqD at p
  cases ea : snap S deep a with
  | none => rw [ea] at p; exact p.elim
  | some da =>
    cases eb : snap S deep b with
    | none => rw [ea, eb] at p; exact p.elim
    | some db =>
      rw [ea, eb] at p
      obtain ⟨as, r1, d1, n1⟩ := snap_reads hK I sim _ _ _ _ _ ra ea rx
      obtain ⟨bs, r2, d2, n2⟩ := snap_reads hK I sim _ _ _ _ _ rb eb ry
      exact rcA deep da db X.A s v u as bs d1 d2 r1 r2 n1 n2 (by unfold deep; omega) X.prog X.w X.xe _ ⟨.bl _, H, I, rfl, fin_val sim (.bl _) p⟩
theorem o_ne (hu : X.A.units + 64 < cLine) : OpR X (compareOp .NotEq) (rP2 G opNe) := by
  intro pins s σ H x y v u Q I rx ry h
  obtain ⟨m, S, a, b, sim, ra, rb, p⟩ := h
  unfold opNe eqD at p
  cases ea : snap S deep a with
  | none => rw [ea] at p; exact p.elim
  | some da =>
    cases eb : snap S deep b with
    | none => rw [ea, eb] at p; exact p.elim
    | some db =>
      rw [ea, eb] at p
      obtain ⟨as, r1, d1, n1⟩ := snap_reads hK I sim _ _ _ _ _ ra ea rx
      obtain ⟨bs, r2, d2, n2⟩ := snap_reads hK I sim _ _ _ _ _ rb eb ry
      exact rcNeA deep da db X.A s v u as bs d1 d2 r1 r2 n1 n2 (by unfold deep; omega) X.prog X.w X.xe _ ⟨.bl _, H, I, rfl, fin_val sim (.bl _) p⟩
omit hK in
theorem ltN_iff : ∀ (a b : List Nat), ltN a b = decide (a < b)
  | [], [] => by simp [ltN]
  | [], _ :: _ => by simp [ltN]
  | _ :: _, [] => by simp [ltN]
  | a :: r, b :: t => by
    rw [ltN, ltN_iff r t, Bool.eq_iff_iff]
    simp [List.cons_lt_cons_iff]
omit hK in
theorem ord_cases {x y : D} (h : orderable x y = true) : (∃ i j, x = .int i ∧ y = .int j) ∨ ∃ a b, x = .str a ∧ y = .str b := by
  cases x <;> cases y <;> simp [orderable] at h <;> simp
omit hK in
theorem o_lt : OpR X (compareOp .Lt) (rP2 G opLt) := by
  intro pins s σ H x y v u Q I rx ry h
  obtain ⟨m, S, a, b, sim, ra, rb, p⟩ := h
  unfold opLt at p
  split at p
  · rename_i ho
    rcases ord_cases ho with ⟨i, j, rfl, rfl⟩ | ⟨i, j, rfl, rfl⟩
    · cases ra.int_; cases rb.int_
      exact op_lt pins s σ H _ _ v u Q I rx ry ⟨_, _, rfl, rfl, fin_val sim (.bl _) p⟩
    · cases ra.str_; cases rb.str_
      refine op_lt_str pins s σ H _ _ v u Q I rx ry ⟨_, _, rfl, rfl, ?_⟩
      have e : ltD (.str i) (.str j) = decide (i < j) := by rw [← ltN_iff]; rfl
      rw [e] at p
      exact fin_val sim (.bl _) p
  · exact p.elim
omit hK in
theorem o_gt : OpR X (compareOp .Gt) (rP2 G opGt) := by
  intro pins s σ H x y v u Q I rx ry h
  obtain ⟨m, S, a, b, sim, ra, rb, p⟩ := h
  unfold opGt at p
  split at p
  · rename_i ho
    rcases ord_cases ho with ⟨i, j, rfl, rfl⟩ | ⟨i, j, rfl, rfl⟩
    · cases ra.int_; cases rb.int_
      exact op_gt pins s σ H _ _ v u Q I rx ry ⟨_, _, rfl, rfl, fin_val sim (.bl _) p⟩
    · cases ra.str_; cases rb.str_
      refine op_gt_str pins s σ H _ _ v u Q I rx ry ⟨_, _, rfl, rfl, ?_⟩
      have e : ltD (.str j) (.str i) = decide (j < i) := by rw [← ltN_iff]; rfl
      rw [e] at p
      exact fin_val sim (.bl _) p
  · exact p.elim
omit hK in
theorem o_le : OpR X (compareOp .LtE) (rP2 G opLe) := by
  intro pins s σ H x y v u Q I rx ry h
  obtain ⟨m, S, a, b, sim, ra, rb, p⟩ := h
  unfold opLe at p
  split at p
  · rename_i ho
    rcases ord_cases ho with ⟨i, j, rfl, rfl⟩ | ⟨i, j, rfl, rfl⟩
    · cases ra.int_; cases rb.int_
      refine op_le pins s σ H _ _ v u Q I rx ry ⟨_, _, rfl, rfl, ?_⟩
      have e : (!ltD (.int j) (.int i)) = decide (i ≤ j) := by
        show (!decide (j < i)) = _
        rw [Bool.eq_iff_iff]; simp
      rw [e] at p
      exact fin_val sim (.bl _) p
    · cases ra.str_; cases rb.str_
      refine op_le_str pins s σ H _ _ v u Q I rx ry ⟨_, _, rfl, rfl, ?_⟩
      have e : ltD (.str j) (.str i) = decide (j < i) := by rw [← ltN_iff]; rfl
      rw [e] at p
      exact fin_val sim (.bl _) p
  · exact p.elim
omit hK in
theorem o_ge : OpR X (compareOp .GtE) (rP2 G opGe) := by
  intro pins s σ H x y v u Q I rx ry h
  obtain ⟨m, S, a, b, sim, ra, rb, p⟩ := h
  unfold opGe at p
  split at p
  · rename_i ho
    rcases ord_cases ho with ⟨i, j, rfl, rfl⟩ | ⟨i, j, rfl, rfl⟩
    · cases ra.int_; cases rb.int_
      refine op_ge pins s σ H _ _ v u Q I rx ry ⟨_, _, rfl, rfl, ?_⟩
      have e : (!ltD (.int i) (.int j)) = decide (j ≤ i) := by
        show (!decide (i < j)) = _
        rw [Bool.eq_iff_iff]; simp
      rw [e] at p
      exact fin_val sim (.bl _) p
    · cases ra.str_; cases rb.str_
      refine op_ge_str pins s σ H _ _ v u Q I rx ry ⟨_, _, rfl, rfl, ?_⟩
      have e : ltD (.str i) (.str j) = decide (i < j) := by rw [← ltN_iff]; rfl
      rw [e] at p
      exact fin_val sim (.bl _) p
  · exact p.elim
omit hK in
theorem isNon_of {m : List Addr} {H : Hp} {v : V} {d : D} (r : RepV G m H v d) : decide (v = .non) = isNonB d := by
  cases r <;> simp [isNonB]
omit hK in
theorem o_is : OpR X (compareOp .Is) (rP2 G opIs) := by
  intro pins s σ H x y v u Q I rx ry h
  obtain ⟨m, S, a, b, sim, ra, rb, p⟩ := h
  unfold opIs at p
  split at p
  · cases rb.non_
    refine op_isN pins s σ H _ _ v u Q I rx ry ⟨rfl, ?_⟩
    rw [isNon_of ra]
    exact fin_val sim (.bl _) p
  · split at p
    · cases ra.bl_; cases rb.bl_
      exact op_isBl pins s σ H _ _ v u Q I rx ry ⟨_, _, rfl, rfl, fin_val sim (.bl _) p⟩
    · exact p.elim
  · exact p.elim
omit hK in
theorem o_isnot : OpR X (compareOp .IsNot) (rP2 G opIsNot) := by
  intro pins s σ H x y v u Q I rx ry h
  obtain ⟨m, S, a, b, sim, ra, rb, p⟩ := h
  unfold opIsNot at p
  split at p
  · cases rb.non_
    refine op_notN pins s σ H _ _ v u Q I rx ry ⟨rfl, ?_⟩
    rw [isNon_of ra]
    exact fin_val sim (.bl _) p
  · split at p
    · cases ra.bl_; cases rb.bl_
      exact op_notBl pins s σ H _ _ v u Q I rx ry ⟨_, _, rfl, rfl, fin_val sim (.bl _) p⟩
    · exact p.elim
  · exact p.elim
end
end MP

/-! MP: products, items, slices, builtins, methods of builtins, by values. Own work. -/
namespace MP
open PySem PySem.Spec PyProof.Rows L2

theorem ixN_eq (n : Nat) (i : Int) : MP.ixN n i = L2.ixN n i := rfl
theorem atI_eq {α : Type} (xs : List α) (i : Int) : MP.atI xs i = L2.atI xs i := rfl
theorem repeatL_eq {α : Type} (n : Nat) (xs : List α) : repeatL n xs = (List.replicate n xs).flatten := rfl
theorem RepVs.rep {G : Gx} {m H vs ds} (h : RepVs G m H vs ds) : ∀ n, RepVs G m H (repeatL n vs) (repeatL n ds)
  | 0 => .nil
  | n + 1 => by
    show RepVs G m H (List.replicate (n + 1) vs).flatten (List.replicate (n + 1) ds).flatten
    rw [List.replicate_succ, List.replicate_succ, List.flatten_cons, List.flatten_cons]
    exact h.append (RepVs.rep h n)
theorem sIx_eq (n d : Nat) (h : d ≤ n) (o : Option Int) : MP.sIx n d o = HT.sIx n d o := by
  cases o with
  | none => rw [HT.sIx_none]; rfl
  | some v =>
    have e := HT.clip_eq v n d
    have hn : ∀ a : Nat, min v.toNat n = a ↔ min v.toNat n = a := fun _ => Iff.rfl
    show (if v < 0 then (max (v + (n : Int)) 0).toNat else min v.toNat n) = _
    by_cases hv : v < 0
    · rw [if_pos hv] at e ⊢
      omega
    · rw [if_neg hv] at e ⊢
      omega
theorem cut_eq (xs : List V) (lo hi : Option Int) : MP.cut xs lo hi = cutV xs lo hi := by
  unfold MP.cut cutV
  rw [sIx_eq _ _ (Nat.zero_le _), sIx_eq _ _ (Nat.le_refl _)]
theorem RepVs.cut {G : Gx} {m H vs ds} (h : RepVs G m H vs ds) (lo hi : Option Int) : RepVs G m H (cutV vs lo hi) (MP.cut ds lo hi) := by
  rw [← cut_eq]
  unfold MP.cut
  rw [h.length]
  exact (h.drop _).take _
theorem cutS_eq (s : List Nat) (lo hi : Option Int) : cutS ⟨s.toArray⟩ lo hi = ⟨(MP.cut s lo hi).toArray⟩ := by
  unfold cutS MP.cut
  rw [sIx_eq _ _ (Nat.zero_le _), sIx_eq _ _ (Nat.le_refl _)]
  simp [Str.length]
theorem foldl_reps (c : Array Nat) : ∀ (k : Nat) (acc : Array Nat), (List.replicate k c).foldl (· ++ ·) acc = acc ++ (repeatL k c.toList).toArray
  | 0, acc => by simp [repeatL]
  | k + 1, acc => by
    rw [List.replicate_succ, List.foldl_cons, foldl_reps c k]
    apply Array.toList_inj.mp
    simp [repeatL, List.replicate_succ]
theorem mul_eq (s : List Nat) (k : Int) (h0 : 0 ≤ k) : Txt.mul ⟨s.toArray⟩ k = ⟨(repeatL k.toNat s).toArray⟩ := by
  unfold Txt.mul
  by_cases h1 : k < 1
  · rw [if_pos h1]
    have e : k = 0 := by omega
    subst e
    rfl
  · rw [if_neg h1]
    split
    · rename_i hc
      rw [Bool.or_eq_true, beq_iff_eq, beq_iff_eq, len_mk] at hc
      rcases hc with e | e
      · subst e
        simp [repeatL]
      · have e' : s = [] := List.eq_nil_of_length_eq_zero e
        subst e'
        simp [repeatL]
    · rw [foldl_reps]
      simp

section
variable {G : Gx} {X : Cx} (hK : G.K = X.K)
include hK
omit hK in
theorem o_mul : OpR X (binaryOp .Mult) (rP2 G opMul) := by
  intro pins s σ H x y v u Q I rx ry h
  obtain ⟨m, S, a, b, sim, ra, rb, p⟩ := h
  unfold opMul at p
  split at p
  · cases ra.int_; cases rb.int_
    split at p
    · rename_i i j hz
      refine op_mul pins s σ H _ _ v u Q I rx ry ⟨_, _, rfl, rfl, ?_, fin_val sim (.int _) p⟩
      simp only [small64, Bool.or_eq_true, Bool.and_eq_true, decide_eq_true_eq] at hz
      rcases hz with ⟨z1, z2⟩ | ⟨z1, z2⟩
      · exact .inl ⟨by omega, by omega⟩
      · exact .inr ⟨by omega, by omega⟩
    · exact p.elim
  · cases ra.str_; cases rb.int_
    split at p
    · rename_i i k hz
      obtain ⟨t, rfl⟩ := rx
      obtain ⟨t', rfl⟩ := ry
      refine SB.mul (mulOk_of i.length k.toNat (by rw [len_mk]; exact Nat.le_refl _) (by omega) (by omega) (by omega) (by have := hz.2.2; unfold line at this; exact this)) fun t' tk => ?_
      rw [mul_eq _ _ hz.1]
      exact ⟨.str _, H, I.tok _, ⟨_, rfl⟩, fin_val sim (.str _) p⟩
    · exact p.elim
  · obtain ⟨pa, rfl, ea⟩ := ra.ref_
    cases rb.int_
    split at p
    · rename_i xs h1
      split at p
      · rename_i hz
        obtain ⟨pa', va, e1, e2, r1⟩ := sim.lst h1
        rw [ea] at e1; cases e1
        exact op_rep pins s σ H _ _ v u Q I rx ry ⟨pa, _, va, rfl, rfl, e2, by omega, by omega, by rw [r1.length, ← line_eq]; exact hz.2.2, new_lst sim (r1.rep _) p⟩
      · exact p.elim
    · exact p.elim
  · exact p.elim

/-! ### subscripts -/
theorem o_item : IxR X (rP2 G opItem) := by
  intro value slice pins s σ H x y v u Q I rx ry h hs
  obtain ⟨m, S, a, b, sim, ra, rb, p⟩ := h
  unfold opItem at p
  split at p
  · rename_i d hd
    unfold getItem at hd
    split at hd
    · rename_i z
      split at hd
      · rename_i i
        cases ra.str_; cases rb.int_
        split at hd
        · rename_i hz
          obtain ⟨c, h1, rfl⟩ := Option.map_eq_some_iff.mp hd
          exact ix_str value slice pins s σ H _ _ v u Q I rx ry ⟨_, i, c, rfl, rfl, by rw [len_mk, ← line_eq]; exact hz, h1, fin_val sim (.str [c]) p⟩ hs
        · cases hd
      · cases hd
    · rename_i xs
      split at hd
      · rename_i i
        cases rb.int_
        obtain ⟨q, vs, rfl, hq, hv⟩ := ra.tup_
        rw [atI_eq] at hd
        obtain ⟨j, j1, j2, j3, j4, j5⟩ := atI_get hd
        obtain ⟨w, w1, w2⟩ := hv.get j2
        refine ix_tup value slice pins s σ H _ _ v u Q I rx ry ⟨q, vs, i, w, rfl, rfl, hK ▸ hq, ?_, fin_val sim w2 p⟩ hs
        unfold L2.atI at hd ⊢
        rw [hv.length]
        obtain ⟨k, k1, k2⟩ := Option.bind_eq_some_iff.mp hd
        rw [k1]
        obtain ⟨q1, _⟩ := ixN_seq k1
        rw [j1] at q1
        cases q1
        exact w1
      · cases hd
    · rename_i n
      obtain ⟨q, rfl, hq⟩ := ra.ref_
      have lst : ∀ xs i, lstAt S n = some xs → MP.atI xs i = some d → b = .int i → wpAny (model X.prog X.w) X.A (subscriptTail value slice v u) (EP X pins σ Q) X.xe s := fun xs i hl hi hb => by
        subst hb
        cases rb.int_
        obtain ⟨q', vs, e1, hq', hv⟩ := sim.seqL hl
        rw [hq] at e1
        cases e1
        rw [atI_eq] at hi
        obtain ⟨j, j1, j2, j3, j4, j5⟩ := atI_get hi
        obtain ⟨w, w1, w2⟩ := hv.get j2
        refine ix_list value slice pins s σ H _ _ v u Q I rx ry ⟨q, vs, i, w, rfl, rfl, hK ▸ hq', ?_, fin_val sim w2 p⟩ hs
        unfold L2.atI at hi ⊢
        rw [hv.length]
        obtain ⟨k, k1, k2⟩ := Option.bind_eq_some_iff.mp hi
        rw [k1]
        obtain ⟨q1, _⟩ := ixN_seq k1
        rw [j1] at q1
        cases q1
        exact w1
      split at hd
      · rename_i kvs hg
        split at hd
        · rename_i hf
          obtain ⟨k, hk⟩ := keyFits_some hf
          obtain ⟨q', kv, e1, hq', hv⟩ := sim.dct hg
          rw [hq] at e1
          cases e1
          obtain ⟨w, w1, w2⟩ := (hv.get hk).1 _ hd
          cases dKey_rep rb hk
          cases rx
          obtain ⟨_, lo, vs, rel, dd⟩ := dk_of I.hok hq'
          obtain ⟨w', hw, rw'⟩ := RelO.some_of (v := w) (o := valueAt vs k) (by rw [← w1]; exact rel.val k)
          exact tail_any dd.typeIs slot_dict_getitem.lookup (wpAny_getItem_of (kV_is ry) dd.mapOf hw ⟨w, H, I.tok _, rw', fin_val sim w2 p⟩) hs
        · cases hd
      · rename_i xs hg
        split at hd
        · exact lst xs _ (by unfold lstAt; rw [hg]) hd rfl
        · cases hd
      · rename_i xs hg
        split at hd
        · exact lst xs _ (by unfold lstAt; rw [hg]) hd rfl
        · cases hd
      · cases hd
    · cases hd
  · exact p.elim
theorem o_cut : SlR X fun x lo hi H Q => ∃ m S a, Sim G m S H ∧ RepV G m H x a ∧ postP G (RepV G) m H Q (opCut a lo hi S) := by
  intro pins s σ H x v vl vu lo hi sl Q I rx hs pl pu h
  obtain ⟨m, S, a, sim, ra, p⟩ := h
  unfold opCut at p
  split at p
  · cases ra.str_
    split at p
    · rename_i hz
      refine sl_str pins s σ H _ v vl vu lo hi sl Q I rx hs pl pu ⟨_, rfl, by rw [len_mk, ← line_eq]; exact hz, ?_⟩
      rw [cutS_eq]
      exact fin_val sim (.str _) p
    · exact p.elim
  · rename_i xs
    obtain ⟨q, vs, rfl, hq, hv⟩ := ra.tup_
    refine sl_tupA pins s σ H _ v vl vu lo hi sl Q I rx hs pl pu ⟨q, vs, rfl, hK ▸ hq, fun hw => ?_, fun _ => new_tup sim (hv.cut lo hi) p⟩
    have e : MP.cut xs lo hi = xs := by
      unfold MP.cut
      rw [sIx_eq _ _ (Nat.zero_le _), sIx_eq _ _ (Nat.le_refl _), ← hv.length, hw.1, hw.2, Nat.sub_zero, hv.length]
      simp
    have p' : postP G (RepV G) m H Q (some (.tup xs, S)) := by
      rw [← e]
      exact p
    exact fin_val sim (.tup hq hv) p'
  · obtain ⟨q, rfl, hq⟩ := ra.ref_
    split at p
    · rename_i xs hl
      split at p
      · obtain ⟨q', vs, e1, hq', hv⟩ := sim.seqL hl
        rw [hq] at e1
        cases e1
        exact sl_list pins s σ H _ v vl vu lo hi sl Q I rx hs pl pu ⟨q, vs, rfl, hK ▸ hq', new_lst sim (hv.cut lo hi) p⟩
      · exact p.elim
    · exact p.elim
  · exact p.elim
end
end MP

/-! MP: readings of expressions. Own work. -/
namespace MP
open PySem PySem.Spec PyProof.Rows L2

/-- what a place in the text has around it -/
structure Ctx0 (G : Gx) (X : Cx) : Prop where
  hK : G.K = X.K
  hN : X.N.Nodup
  hu : X.A.units + 64 < cLine
  gd : X.A.guards = some []
  hW : G.ne.w = X.w
/-- .. not within an except suite -/
structure Ctx (G : Gx) (X : Cx) (W : WX) : Prop extends Ctx0 G X where
  tk : Takes X W
  hp : PassesOwn (model X.prog X.w) X.A X.env X.xe
  calm : X.calm = true

section
variable {G : Gx} {X : Cx} {W : WX} {C : Cfg}
/-- .. within, behind a value -/
theorem tKV {α β α2 β2 : Type} {Rb : List Addr → Hp → β2 → α2 → Prop} {Rp : List Addr → Hp → β → α → Prop} {e : Cfg → Slots → M α2} {k : Cfg → Slots → D → α2 → M α} {σ H x} {Q : β → Hp → Prop}
    (h : tK G W (RepV G) Rp C (fun C σ a => (e C σ).bind (k C σ a)) σ H x Q) : tX G W Rb C e σ H fun y H1 => tK G W (fun m H (p : V × β2) (q : D × α2) => RepV G m H p.1 q.1 ∧ Rb m H p.2 q.2) Rp C (fun C σ p => k C σ p.1 p.2) σ H1 (x, y) Q :=
  tK.bind (G := G) (W := W) (Ra := RepV G) (Rb := Rb) (Rp := Rp) (C := C) (e := e) (k := k) (fun {_ _ _ _ _ _} e r => RepV.mono e r) h
theorem fin {σ m H d v} {S : Store} {Q : VK} (s : Sim G m S H) (r : RepV G m H v d) (p : post G W (RepV G) σ m H Q (.ok d S)) : Q v H := p m H v Ext.refl s r
theorem r_var {i : Nat} {x : Str} {pos : Pos} (hN : X.N[i]? = some x) (hv : Vis X.env.scope x) (hd : (x == ("__debug__" : Str)) = false := by decide) (hcd : (x == ("__classdict__" : Str)) = false := by decide) : PE X (.Name x pos) (tE G W C (eVar i)) :=
  PE.weak (pe_var hN hv hd hcd) fun σ H Q ⟨m, S, ls, s, r, p⟩ => by
    unfold eVar at p
    cases e : ls[i]? with
    | none => rw [e] at p; exact p.elim
    | some o =>
      cases o with
      | none => rw [e] at p; exact p.elim
      | some d =>
        rw [e] at p
        obtain ⟨v, h1, h2⟩ := r.2 i d e
        simp only at p
        split at p
        · exact p.elim
        · rename_i hx
          exact ⟨v, h1, fin s (h2.rep (by simpa using hx)) p⟩
/-- a name, by its place -/
theorem rv {x : Str} {pos : Pos} (i : Nat) (hN : X.N[i]? = some x := by rfl) (hv : Vis X.env.scope x := by first | exact .inl rfl | exact .inr (.inl rfl) | exact .inr (.inr rfl)) (hd : (x == ("__debug__" : Str)) = false := by decide) (hcd : (x == ("__classdict__" : Str)) = false := by decide) : PE X (.Name x pos) (tE G W C (eVar i)) := r_var hN hv hd hcd
theorem r_c {e : Expr} {v : V} {d : D} (h : PE X e (tC v)) (r : ∀ m H, RepV G m H v d) : PE X e (tE G W C (eC d)) :=
  PE.weak h fun σ H Q ⟨m, S, ls, s, _, p⟩ => fin s (r m H) p
theorem r_int {i j pos} : PE X (.Constant (.int i) j pos) (tE G W C (eC (.int i))) := r_c pe_int fun _ _ => .int i
theorem r_bl {i j pos} : PE X (.Constant (.bool i) j pos) (tE G W C (eC (.bl i))) := r_c pe_bl fun _ _ => .bl i
theorem r_non {j pos} : PE X (.Constant .none j pos) (tE G W C (eC .non)) := r_c pe_non fun _ _ => .non
theorem r_str {x : Str} {l : List Nat} {j pos} (h : x.cps.toList = l) : PE X (.Constant (.str x) j pos) (tE G W C (eC (.str l))) := r_c pe_str fun m H => by
  have e : x = ⟨l.toArray⟩ := by cases x; subst h; simp
  rw [e]; exact .str l
/-- a module's constant -/
theorem r_glob {x : Str} {v : V} {u : Value} {pos : Pos} {d : D} (hg : Gl X x) (hm : X.mg x = some u) (r : RelV v u) (rd : ∀ m H, RepV G m H v d) (hd : (x == ("__debug__" : Str)) = false := by decide) : PE X (.Name x pos) (tE G W C (eC d)) :=
  r_c (pe_glob hg hm r hd) rd

/-! ### arguments, displays -/
theorem r_nil : PA X [] (tA G W C aNil) := PA.weak pa_nil fun σ H Q ⟨m, S, ls, s, _, p⟩ => p m H [] Ext.refl s .nil
theorem r_cons {e : Expr} {es : List Expr} {a : ME} {r : MA} (ha : PE X e (tE G W C a)) (hr : PA X es (tA G W C r)) (hs : starEach (e :: es) X.env = (false, eval e X.env) :: starEach es X.env := by rfl) : PA X (e :: es) (tA G W C (aCons a r)) :=
  PA.weak (pa_cons ha hr hs) fun σ H Q h => by
    have h1 := tX.bind (Ra := RepV G) (k := fun C σ x => (r C σ).bind fun xs => M.ret (x :: xs)) h
    obtain ⟨m, S, ls, s, q, p⟩ := h1
    refine ⟨m, S, ls, s, q, post.imp p fun x H1 z => ?_⟩
    have h2 := tKV (Rb := RepVs G) (k := fun _ _ x xs => M.ret (x :: xs)) z
    obtain ⟨m, S, ls, s, q, p⟩ := h2
    refine ⟨m, S, ls, s, q, post.imp p fun y H2 z => ?_⟩
    obtain ⟨m, S, ls, ab, s, q, ⟨ra, rb⟩, p⟩ := z
    exact p m H2 _ Ext.refl s (.cons ra rb)
theorem r_tup {es : List Expr} {a : MA} {x1 pos} (h : PA X es (tA G W C a)) : PE X (.Tuple es x1 pos) (tE G W C (eTup a)) := PE.weak (pe_tup h) fun σ H Q q => by
  have h1 := tX.bind (Ra := RepVs G) (k := fun _ _ x => M.of (mkT x)) q
  obtain ⟨m, S, ls, s, r, p⟩ := h1
  refine ⟨m, S, ls, s, r, post.imp p fun x H1 z => ?_⟩
  obtain ⟨m, S, ls, a, s, r, ra, p⟩ := z
  have p := post.of p
  unfold mkT at p
  split at p
  · rename_i hz
    exact ⟨by rw [ra.length, ← line_eq]; exact hz, new_tup s ra p⟩
  · exact p.elim
theorem r_lst {es : List Expr} {a : MA} {pos} (h : PA X es (tA G W C a)) : PE X (.List es pos) (tE G W C (eLst a)) := PE.weak (pe_lst h) fun σ H Q q => by
  have h1 := tX.bind (Ra := RepVs G) (k := fun _ _ x => M.of (mkL x)) q
  obtain ⟨m, S, ls, s, r, p⟩ := h1
  refine ⟨m, S, ls, s, r, post.imp p fun x H1 z => ?_⟩
  obtain ⟨m, S, ls, a, s, r, ra, p⟩ := z
  have p := post.of p
  unfold mkL at p
  split at p
  · rename_i hz
    exact ⟨by rw [ra.length, ← line_eq]; exact hz, new_lst s ra p⟩
  · exact p.elim

/-! ### operators -/
theorem r_op {op : Operator} {f : D → D → P D} {a b : Expr} {ea eb : ME} {pos} (ho : OpR X (binaryOp op) (rP2 G f)) (ha : PE X a (tE G W C ea)) (hb : PE X b (tE G W C eb)) : PE X (.BinOp a op b pos) (tE G W C (e2 f ea eb)) :=
  PE.weak (pe_op ho ha hb) fun σ H Q h => w2 h
theorem r_un {op : UnaryOp} {f : D → P D} {a : Expr} {ea : ME} {pos} (ho : UnR X (unaryOp op) (rP1 G (RepV G) f)) (ha : PE X a (tE G W C ea)) : PE X (.UnaryOp op a pos) (tE G W C (e1 f ea)) :=
  PE.weak (pe_un ho ha) fun σ H Q h => w1 h
theorem r_cmp {op : CmpOp} {f : D → D → P D} {a b : Expr} {ea eb : ME} {pos} (ho : OpR X (compareOp op) (rP2 G f)) (ha : PE X a (tE G W C ea)) (hb : PE X b (tE G W C eb)) (hm : behindInMarks op b = false) : PE X (.Compare a [op] [b] pos) (tE G W C (e2 f ea eb)) :=
  PE.weak (pe_cmpR ho ha hb hm) fun σ H Q h => w2 h
theorem r_ix {a b : Expr} {ea eb : ME} {pos} (c : Ctx0 G X) (ha : PE X a (tE G W C ea)) (hb : PE X b (tE G W C eb)) (hs : PlainIx b := by intro _ _; rfl) : PE X (.Subscript a b pos) (tE G W C (e2 opItem ea eb)) :=
  PE.weak (pe_ix (o_item c.hK) ha hb hs) fun σ H Q h => w2 h

/-! ### tests -/
/-- behind a test -/
theorem tX.imp {α β : Type} {Rp : List Addr → Hp → β → α → Prop} {e : Cfg → Slots → M α} {σ H} {Q Q' : β → Hp → Prop} (h : tX G W Rp C e σ H Q) (q : ∀ b H', Q b H' → Q' b H') : tX G W Rp C e σ H Q' := by
  obtain ⟨m, S, ls, s, r, p⟩ := h
  exact ⟨m, S, ls, s, r, post.imp p q⟩
theorem rb_mono {m H m' H' : _} {b a : Bool} (e : Ext G m H m' H') (r : RB m H b a) : RB m' H' b a := r
theorem asB_fin {x : V} {H : Hp} {Q : Bool → Hp → Prop} (h : rP1 G RB asB x H Q) : ∃ k, x = .bl k ∧ Q k H := by
  obtain ⟨m, S, a, s, r, p⟩ := h
  unfold asB at p
  split at p
  · exact ⟨_, r.bl_, p m H _ Ext.refl s rfl⟩
  · exact p.elim
theorem r_tb {op : CmpOp} {f : D → D → P D} {a b : Expr} {ea eb : ME} {pos} (ho : OpR X (compareOp op) (rP2 G f)) (ha : PE X a (tE G W C ea)) (hb : PE X b (tE G W C eb)) (hm : behindInMarks op b = false) : PT X (.Compare a [op] [b] pos) (tT G W C (tB (e2 f ea eb))) :=
  PT.weak (pt_cmpR ho ha hb hm) fun σ H Q h => by
    have h1 := w1 (Rp := RB) (f := asB) h
    exact w2 (tX.imp h1 fun x H1 z => asB_fin z)
theorem tru_fin {x : V} {H : Hp} {Q : Bool → Hp → Prop} (hK : G.K = X.K) (h : rP1 G RB truthP x H Q) : ∃ k, TruV X.K x H k ∧ Q k H := by
  obtain ⟨m, S, a, s, r, p⟩ := h
  unfold truthP at p
  split at p
  · rename_i b hb
    refine ⟨b, ?_, p m H _ Ext.refl s rfl⟩
    unfold truth at hb
    split at hb
    · cases r.non_; cases hb; rfl
    · cases r.bl_; cases hb; rfl
    · cases r.int_; cases hb; rfl
    · cases r.str_
      split at hb
      · rename_i l hz
        cases hb
        refine ⟨by rw [len_mk, ← line_eq]; exact hz, ?_⟩
        rw [len_mk]
        cases l with
        | nil => rfl
        | cons c l =>
          have h2 : ((((c :: l).length : Nat) : Int) != 0) = true := by
            rw [bne_iff_ne]
            simp only [List.length_cons]
            omega
          rw [h2]
          rfl
      · cases hb
    · obtain ⟨q, vs, rfl, hq, hv⟩ := r.tup_
      cases hb
      refine .inr (.inl ⟨vs, hK ▸ hq, ?_⟩)
      cases hv <;> rfl
    · obtain ⟨q, rfl, hq⟩ := r.ref_
      split at hb
      · rename_i hl
        obtain ⟨q', vs, e1, hq', hv⟩ := s.seqL hl
        rw [hq] at e1
        cases e1
        cases hb
        refine .inl ⟨vs, hK ▸ hq', ?_⟩
        cases hv <;> rfl
      · cases hb
    · cases hb
  · exact p.elim
theorem r_tv {a : Expr} {ea : ME} (c : Ctx0 G X) (ha : PE X a (tE G W C ea)) (he : ∀ whole, isTrue a X.env whole = (do let v ← whole; standAt a.pos; holding [v] (truthy v)) := by intro _; rfl) : PT X a (tT G W C (tV ea)) :=
  PT.weak (pt_truth ha he) fun σ H Q h => tX.imp (w1 (Rp := RB) (f := truthP) h) fun x H1 z => tru_fin c.hK z
theorem r_not {a : Expr} {ta : MT} {pos} (ha : PT X a (tT G W C ta)) : PT X (.UnaryOp .Not a pos) (tT G W C (MP.tNot ta)) :=
  PT.weak (pt_not ha) fun σ H Q h => by
    have h1 := tX.bind (Ra := RB) (k := fun _ _ b => M.ret (!b)) h
    refine tX.imp h1 fun b H1 z => ?_
    obtain ⟨m, S, ls, a, s, r, ra, p⟩ := z
    cases ra
    exact p m H1 _ Ext.refl s rfl
/-- behind a run, by a bool -/
theorem if_k {α β : Type} {Rp : List Addr → Hp → β → α → Prop} {σ H} {Q : β → Hp → Prop} {b : Bool} {e1 e2 : Cfg → Slots → M α}
    (h : tK G W RB Rp C (fun C σ b => if b = true then e1 C σ else e2 C σ) σ H b Q) : if b = true then tX G W Rp C e1 σ H Q else tX G W Rp C e2 σ H Q := by
  obtain ⟨m, S, ls, a, s, r, ra, p⟩ := h
  cases ra
  cases b with
  | true => exact ⟨m, S, ls, s, r, p⟩
  | false => exact ⟨m, S, ls, s, r, p⟩
theorem ret_fin {β : Type} {b : β} {α : Type} {a : α} {Rp : List Addr → Hp → β → α → Prop} {σ H} {Q : β → Hp → Prop} (h : tX G W Rp C (fun _ _ => M.ret a) σ H Q) (r : ∀ m, Rp m H b a) : Q b H := by
  obtain ⟨m, S, ls, s, _, p⟩ := h
  exact p m H b Ext.refl s (r m)
theorem r_and {a b : Expr} {rest : List Expr} {ta tb : MT} {pos} (ha : PT X a (tT G W C ta)) (hb : PW X (.BoolOp .And (b :: rest) pos) (tT G W C tb)) : PW X (.BoolOp .And (a :: b :: rest) pos) (tT G W C (MP.tAnd ta tb)) :=
  PW.weak (pw_and ha hb) fun σ H Q h => by
    have h1 := tX.bind (Ra := RB) (k := fun C σ b => if b = true then tb C σ else M.ret false) h
    refine tX.imp h1 fun b H1 z => ?_
    have z := if_k (e1 := tb) (e2 := fun _ _ => M.ret false) z
    cases b with
    | true => exact z
    | false => exact ret_fin (C := C) z fun _ => rfl
theorem r_or {a b : Expr} {rest : List Expr} {ta tb : MT} {pos} (ha : PT X a (tT G W C ta)) (hb : PW X (.BoolOp .Or (b :: rest) pos) (tT G W C tb)) : PW X (.BoolOp .Or (a :: b :: rest) pos) (tT G W C (MP.tOr ta tb)) :=
  PW.weak (pw_or ha hb) fun σ H Q h => by
    have h1 := tX.bind (Ra := RB) (k := fun C σ b => if b = true then M.ret true else tb C σ) h
    refine tX.imp h1 fun b H1 z => ?_
    have z := if_k (e1 := fun _ _ => M.ret true) (e2 := tb) z
    cases b with
    | false => exact z
    | true => exact ret_fin (C := C) z fun _ => rfl
theorem r_and1 {a : Expr} {ta : MT} {pos} (ha : PT X a (tT G W C ta)) : PW X (.BoolOp .And [a] pos) (tT G W C ta) := pw_and1 ha
theorem r_or1 {a : Expr} {ta : MT} {pos} (ha : PT X a (tT G W C ta)) : PW X (.BoolOp .Or [a] pos) (tT G W C ta) := pw_or1 ha
/-! .. as values -/
theorem r_eand {a b : Expr} {rest : List Expr} {ea eb : ME} {pos} (ha : PE X a (tE G W C ea)) (hb : PE X (.BoolOp .And (b :: rest) pos) (tE G W C eb)) : PE X (.BoolOp .And (a :: b :: rest) pos) (tE G W C (eAnd ea eb)) :=
  PE.weak (pe_and ha hb) fun σ H Q h => by
    have h1 := tX.bind (Ra := RB) (k := fun C σ b => if b = true then eb C σ else M.ret (.bl false)) h
    refine tX.imp (w1 (Rp := RB) (f := asB) h1) fun x H1 z => ?_
    obtain ⟨k, e, z⟩ := asB_fin z
    refine ⟨k, e, ?_⟩
    have z := if_k (e1 := eb) (e2 := fun _ _ => M.ret (.bl false)) z
    cases k with
    | true => exact z
    | false => exact ret_fin (C := C) z fun m => .bl _
theorem r_eor {a b : Expr} {rest : List Expr} {ea eb : ME} {pos} (ha : PE X a (tE G W C ea)) (hb : PE X (.BoolOp .Or (b :: rest) pos) (tE G W C eb)) : PE X (.BoolOp .Or (a :: b :: rest) pos) (tE G W C (eOr ea eb)) :=
  PE.weak (pe_or ha hb) fun σ H Q h => by
    have h1 := tX.bind (Ra := RB) (k := fun C σ b => if b = true then M.ret (.bl true) else eb C σ) h
    refine tX.imp (w1 (Rp := RB) (f := asB) h1) fun x H1 z => ?_
    obtain ⟨k, e, z⟩ := asB_fin z
    refine ⟨k, e, ?_⟩
    have z := if_k (e1 := fun _ _ => M.ret (.bl true)) (e2 := eb) z
    cases k with
    | true => exact ret_fin (C := C) z fun m => .bl _
    | false => exact z
theorem r_enot {a : Expr} {ea : ME} {pos} (ha : PE X a (tE G W C ea)) : PE X (.UnaryOp .Not a pos) (tE G W C (eNot ea)) :=
  PE.weak (pe_not ha) fun σ H Q h => by
    have h1 := tX.bind (Ra := RB) (k := fun _ _ b => M.ret (D.bl (!b))) h
    refine tX.imp (w1 (Rp := RB) (f := asB) h1) fun x H1 z => ?_
    obtain ⟨k, e, z⟩ := asB_fin z
    refine ⟨k, e, ?_⟩
    obtain ⟨m, S, ls, a, s, r, ra, p⟩ := z
    cases ra
    exact p m H1 _ Ext.refl s (.bl _)
theorem r_if {c a b : Expr} {tc : MT} {ea eb : ME} {pos} (hc : PT X c (tT G W C tc)) (ha : PE X a (tE G W C ea)) (hb : PE X b (tE G W C eb)) : PE X (.IfExp c a b pos) (tE G W C (MP.eIf tc ea eb)) :=
  PE.weak (pe_ifExp hc ha hb) fun σ H Q h => by
    have h1 := tX.bind (Ra := RB) (k := fun C σ b => if b = true then ea C σ else eb C σ) h
    exact tX.imp h1 fun b H1 z => if_k (e1 := ea) (e2 := eb) z
/-- a op1 b op2 c -/
theorem chain_fin {f g : D → D → P D} {ea eb ec : ME} {σ H Q} (h : tE G W C (eChain f g ea eb ec) σ H Q) : tChain (rP2 G f) (rP2 G g) (tE G W C ea) (tE G W C eb) (tE G W C ec) σ H Q := by
  have h1 := tX.bind (Ra := RepV G) (k := fun C σ x => (eb C σ).bind fun y => (M.of (f x y)).bind fun r => (M.of (asB r)).bind fun k => if k = true then (ec C σ).bind fun z => M.of (g y z) else M.ret (.bl false)) h
  refine tX.imp h1 fun x H1 z => ?_
  have h2 := tKV (Rb := RepV G) (k := fun C σ x y => (M.of (f x y)).bind fun r => (M.of (asB r)).bind fun k => if k = true then (ec C σ).bind fun z => M.of (g y z) else M.ret (.bl false)) z
  refine tX.imp h2 fun y H2 z => ?_
  obtain ⟨m, S, ls, ab, s, r, ⟨ra, rb⟩, p⟩ := z
  refine ⟨m, S, ab.1, ab.2, s, ra, rb, ?_⟩
  unfold M.bind M.of at p
  cases e : f ab.1 ab.2 S with
  | none => simp only [e] at p; exact p
  | some w =>
    obtain ⟨d, S1⟩ := w
    simp only [e] at p
    intro m' H' v ex s' rv
    cases d with
    | bl k =>
      cases rv.bl_
      refine ⟨k, rfl, ?_⟩
      cases k with
      | false => exact (show post G W (RepV G) σ m H2 Q (.ok (.bl false) S1) from p) m' H' _ ex s' (.bl _)
      | true =>
        have p0 : post G W (RepV G) σ m H2 Q (((ec C ls).bind fun z => M.of (g ab.2 z)) S1) := p
        have p' : post G W (RepV G) σ m' H' Q (((ec C ls).bind fun z => M.of (g ab.2 z)) S1) := post.ext ex p0
        have q : tK G W (RepV G) (RepV G) C (fun C σ y => (ec C σ).bind fun z => M.of (g y z)) σ H' y Q := ⟨m', S1, ls, ab.2, s', r.mono ex, rb.mono ex, p'⟩
        have h3 := tKV (Rb := RepV G) (k := fun _ _ y z => M.of (g y z)) q
        refine tX.imp h3 fun z H4 t => ?_
        obtain ⟨m, S, ls, ab, s, r, ⟨ra, rb⟩, p⟩ := t
        exact ⟨m, S, ab.1, ab.2, s, ra, rb, post.of p⟩
    | _ => exact False.elim p
theorem r_chain {op op' : CmpOp} {f g : D → D → P D} {a b c : Expr} {ea eb ec : ME} {pos} (ho : OpR X (compareOp op) (rP2 G f)) (ho' : OpR X (compareOp op') (rP2 G g)) (ha : PE X a (tE G W C ea)) (hb : PE X b (tE G W C eb)) (hc : PE X c (tE G W C ec))
    (hm : lastMarks [op, op'] [b, c] = false := by with_unfolding_all rfl) : PE X (.Compare a [op, op'] [b, c] pos) (tE G W C (eChain f g ea eb ec)) := PE.weak (pe_chain ho ho' ha hb hc hm) fun σ H Q h => chain_fin h
theorem r_tchain {op op' : CmpOp} {f g : D → D → P D} {a b c : Expr} {ea eb ec : ME} {pos} (ho : OpR X (compareOp op) (rP2 G f)) (ho' : OpR X (compareOp op') (rP2 G g)) (ha : PE X a (tE G W C ea)) (hb : PE X b (tE G W C eb)) (hc : PE X c (tE G W C ec))
    (hm : lastMarks [op, op'] [b, c] = false := by with_unfolding_all rfl) : PT X (.Compare a [op, op'] [b, c] pos) (tT G W C (tB (eChain f g ea eb ec))) := PT.weak (pt_chain ho ho' ha hb hc hm) fun σ H Q h => by
  have h1 := w1 (Rp := RB) (f := asB) h
  exact chain_fin (tX.imp h1 fun x H1 z => asB_fin z)

/-! ### slices -/
theorem r_pn : PO X none (tO G W C pNone) := ⟨fun pins s σ H Q I h => po_none.run pins s σ H Q I (by
  obtain ⟨m, S, ls, s, r, p⟩ := h
  exact p m H none Ext.refl s rfl)⟩
theorem r_ps {e : Expr} {a : ME} (h : PE X e (tE G W C a)) : PO X (some e) (tO G W C (pSome a)) := ⟨fun pins s σ H Q I hh => (po_some h).run pins s σ H Q I (by
  refine tX.imp (w1 (Rp := RO) (f := asI) hh) fun x H1 z => ?_
  obtain ⟨m, S, a, s, r, p⟩ := z
  unfold asI at p
  split at p
  · exact ⟨_, r.int_, p m H1 _ Ext.refl s rfl⟩
  · exact p.elim)⟩
theorem r_cut {e : Expr} {lo hi : Option Expr} {a : ME} {el eh : Cfg → Slots → M (Option Int)} {p2 pos} (c : Ctx0 G X) (he : PE X e (tE G W C a)) (hl : PO X lo (tO G W C el)) (hh : PO X hi (tO G W C eh)) : PE X (.Subscript e (.Slice lo hi none p2) pos) (tE G W C (eCut a el eh)) :=
  PE.weak (pe_slice (o_cut c.hK) he hl hh) fun σ H Q h => by
    have h1 := tX.bind (Ra := RepV G) (k := fun C σ x => (el C σ).bind fun l => (eh C σ).bind fun u => M.of (opCut x l u)) h
    refine tX.imp h1 fun x H1 z => ?_
    have h2 := tKV (Rb := RO) (k := fun C σ x l => (eh C σ).bind fun u => M.of (opCut x l u)) z
    refine tX.imp h2 fun l H2 z => ?_
    have h3 := tK.bind (G := G) (W := W) (C := C) (Ra := fun m H (p : V × Option Int) (q : D × Option Int) => RepV G m H p.1 q.1 ∧ RO m H p.2 q.2) (Rb := RO) (Rp := RepV G) (e := eh) (k := fun _ _ (xl : D × Option Int) u => M.of (opCut xl.1 xl.2 u)) (fun {_ _ _ _ _ _} e r => ⟨RepV.mono e r.1, r.2⟩) z
    refine tX.imp h3 fun u H3 z => ?_
    obtain ⟨m, S, ls, ab, s, r, ⟨⟨ra, rb⟩, rc⟩, p⟩ := z
    have e1 : l = ab.1.2 := rb
    have e2 : u = ab.2 := rc
    subst e1; subst e2
    exact ⟨m, S, _, s, ra, post.of p⟩
end
end MP

/-! MP: readings of statements: targets, blocks, loops. Own work. -/
namespace MP
open PySem PySem.Spec PyProof.Rows L2

mutual
def Tg.slots : Tg → List Nat
  | .nm i => [i]
  | .tp ts => Tg.slotss ts
def Tg.slotss : List Tg → List Nat
  | [] => []
  | t :: ts => Tg.slots t ++ Tg.slotss ts
end
/-- only the slots at vs have changed -/
def Chg (vs : List Nat) (σ σ' : L2.St) : Prop := σ'.length = σ.length ∧ ∀ i, i ∉ vs → σ'[i]? = σ[i]?
theorem Chg.refl {vs σ} : Chg vs σ σ := ⟨rfl, fun _ _ => rfl⟩
theorem Chg.trans {a b σ σ1 σ2} (h : Chg a σ σ1) (k : Chg b σ1 σ2) : Chg (a ++ b) σ σ2 :=
  ⟨k.1.trans h.1, fun i hi => by
    rw [List.mem_append, not_or] at hi
    rw [k.2 i hi.2, h.2 i hi.1]⟩
theorem Chg.set {i σ} {v : Option V} : Chg [i] σ (σ.set i v) :=
  ⟨by rw [List.length_set], fun j hj => List.getElem?_set_ne fun e => hj (by subst e; exact List.mem_singleton.mpr rfl)⟩
theorem wipe_in {σ : L2.St} {i : Nat} : ∀ {vs : List Nat}, i ∈ vs → i < σ.length → (L2.wipe σ vs)[i]? = some none
  | [], h, _ => nomatch h
  | v :: vs, h, hl => by
    unfold L2.wipe
    by_cases e : v = i
    · subst e
      rw [List.getElem?_set_self (by rw [wipe_length]; exact hl)]
    · rw [List.getElem?_set_ne e]
      exact wipe_in ((List.mem_cons.mp h).resolve_left fun z => e z.symm) hl
theorem Chg.wipe {vs ws : List Nat} {σ σ' : L2.St} (h : Chg vs σ σ') (s : ∀ i ∈ vs, i ∈ ws) : L2.wipe σ' ws = L2.wipe σ ws := by
  apply List.ext_getElem?
  intro i
  by_cases hi : i ∈ ws
  · by_cases hl : i < σ.length
    · rw [wipe_in hi hl, wipe_in hi (by rw [h.1]; exact hl)]
    · rw [List.getElem?_eq_none (by rw [wipe_length, h.1]; omega), List.getElem?_eq_none (by rw [wipe_length]; omega)]
  · rw [wipe_out hi, wipe_out hi]
    exact h.2 i fun z => hi (s i z)

section
variable (G : Gx) (W : WX)
/-- the end of a block's run from m, H -/
def postS (m : List Addr) (H : Hp) (D : Ends) : SR → Prop
  | .nx ls S' => ∀ m' H' σ', Ext G m H m' H' → Sim G m' S' H' → SlotR G m' H' ls σ' → D.nx σ' H'
  | .rt d S' => ∀ m' H' v, Ext G m H m' H' → Sim G m' S' H' → RepV G m' H' v d → D.rt v H'
  | .bk ls S' => ∀ m' H' σ', Ext G m H m' H' → Sim G m' S' H' → SlotR G m' H' ls σ' → D.bk σ' H'
  | .ct ls S' => ∀ m' H' σ', Ext G m H m' H' → Sim G m' S' H' → SlotR G m' H' ls σ' → D.ct σ' H'
  | .ex c fs ls S' => ∀ m' H' d σ', Ext G m H m' H' → Sim G m' S' H' → SlotR G m' H' ls σ' → RepX G m' H' d fs → W (.ref (G.ne.cls c)) d σ' H'
  | .bad => False
def tS (C : Cfg) (st : MS) : TS := fun D σ H => ∃ m S ls, Sim G m S H ∧ SlotR G m H ls σ ∧ postS G W m H D (st C ls S)
def tG (t : Tg) : TG := fun v σ H Q => ∃ m S ls d ls', Sim G m S H ∧ SlotR G m H ls σ ∧ RepV G m H v d ∧ asg S t d ls = some ls' ∧ ∀ σ', Chg t.slots σ σ' → SlotR G m H ls' σ' → Q σ' H
def tGs (ts : List Tg) : TGs := fun vs σ H Q => ∃ m S ls ds ls', Sim G m S H ∧ SlotR G m H ls σ ∧ RepVs G m H vs ds ∧ asgs S ts ds ls = some ls' ∧ ∀ σ', Chg (Tg.slotss ts) σ σ' → SlotR G m H ls' σ' → Q σ' H
variable {G W}
theorem postS.ext {m H m1 H1 D r} (e : Ext G m H m1 H1) (h : postS G W m H D r) : postS G W m1 H1 D r := by
  cases r with
  | nx ls S' => exact fun m' H' σ' e' s r => h m' H' σ' (e.trans e') s r
  | rt d S' => exact fun m' H' v e' s r => h m' H' v (e.trans e') s r
  | bk ls S' => exact fun m' H' σ' e' s r => h m' H' σ' (e.trans e') s r
  | ct ls S' => exact fun m' H' σ' e' s r => h m' H' σ' (e.trans e') s r
  | ex c fs ls S' => exact fun m' H' d σ' e' s r x => h m' H' d σ' (e.trans e') s r x
  | bad => exact h
/-- behind an expression within a statement -/
theorem lift_post {α β : Type} {Ra : List Addr → Hp → β → α → Prop} {σ m H ls D} {S : Store} {A : M α} {k : α → Store → SR} (r : SlotR G m H ls σ) (h : postS G W m H D (lift A ls S k)) :
    post G W Ra σ m H (fun x H1 => ∃ m1 S1 a, Ext G m H m1 H1 ∧ Sim G m1 S1 H1 ∧ SlotR G m1 H1 ls σ ∧ Ra m1 H1 x a ∧ postS G W m1 H1 D (k a S1)) (A S) := by
  unfold lift at h
  cases e : A S with
  | ok a S' =>
    rw [e] at h
    exact fun m' H' b x s ra => ⟨m', S', a, x, s, r.mono x, ra, h.ext x⟩
  | ex c fs S' =>
    rw [e] at h
    exact fun m' H' d x s rx => h m' H' d σ x s (r.mono x) rx
  | bad =>
    rw [e] at h
    exact h
variable {X : Cx} {C : Cfg}

/-! ### blocks -/
theorem s_nil : PSs X [] (tS G W C sPass) := PSs.weak pss_nil fun D σ H ⟨m, S, ls, s, r, p⟩ => p m H σ Ext.refl s r
theorem s_pass {pos} : PS X (.Pass pos) (tS G W C sPass) := PS.weak ps_pass fun D σ H ⟨m, S, ls, s, r, p⟩ => p m H σ Ext.refl s r
theorem s_doc {x j pos pos'} : PS X (.Expr (.Constant (.str x) j pos) pos') (tS G W C sPass) := PS.weak ps_doc fun D σ H ⟨m, S, ls, s, r, p⟩ => p m H σ Ext.refl s r
theorem s_break {pos} : PS X (.Break pos) (tS G W C sBreak) := PS.weak ps_break fun D σ H ⟨m, S, ls, s, r, p⟩ => p m H σ Ext.refl s r
theorem s_cont {pos} : PS X (.Continue pos) (tS G W C sCont) := PS.weak ps_continue fun D σ H ⟨m, S, ls, s, r, p⟩ => p m H σ Ext.refl s r
theorem s_cons {st : Stmt} {rest : List Stmt} {a b : MS} (h1 : PS X st (tS G W C a)) (h2 : PSs X rest (tS G W C b)) : PSs X (st :: rest) (tS G W C (sSeq a b)) := PSs.weak (pss_cons h1 h2) fun D σ H ⟨m, S, ls, s, r, p⟩ => by
  refine ⟨m, S, ls, s, r, ?_⟩
  unfold sSeq at p
  cases e : a C ls S with
  | nx ls' S' =>
    rw [e] at p
    exact fun m' H' σ' x s' r' => ⟨m', S', ls', s', r', p.ext x⟩
  | rt d S' => rw [e] at p; exact p
  | bk ls S' => rw [e] at p; exact p
  | ct ls S' => rw [e] at p; exact p
  | ex c fs ls S' => rw [e] at p; exact p
  | bad => rw [e] at p; exact p
theorem s_one {st : Stmt} {a : MS} (h1 : PS X st (tS G W C a)) : PSs X [st] (tS G W C a) := pss_one h1
theorem s_retN {pos} : PS X (.Return none pos) (tS G W C sRetN) := PS.weak ps_retN fun D σ H ⟨m, S, ls, s, r, p⟩ => p m H _ Ext.refl s .non
theorem s_ret {e : Expr} {a : ME} {pos} (he : PE X e (tE G W C a)) : PS X (.Return (some e) pos) (tS G W C (sRet a)) := PS.weak (ps_ret he) fun D σ H ⟨m, S, ls, s, r, p⟩ =>
  ⟨m, S, ls, s, r, post.imp (lift_post (Ra := RepV G) r p) fun x H1 ⟨m1, S1, a, e, s1, r1, ra, p1⟩ => p1 m1 H1 x Ext.refl s1 ra⟩
theorem s_expr {e : Expr} {a : ME} {pos : Pos} (he : PE X e (tE G W C a)) (hs : swapsWith e none pos.line X.env = pure false := by rfl) : PS X (.Expr e pos) (tS G W C (sExpr a)) := PS.weak (ps_expr he hs) fun D σ H ⟨m, S, ls, s, r, p⟩ =>
  ⟨m, S, ls, s, r, post.imp (lift_post (Ra := RepV G) r p) fun x H1 ⟨m1, S1, a, e, s1, r1, ra, p1⟩ => p1 m1 H1 σ Ext.refl s1 r1⟩
theorem s_if {c : Expr} {p q : List Stmt} {tc : MT} {a b : MS} {pos} (hc : PT X c (tT G W C tc)) (ha : PSs X p (tS G W C a)) (hb : PSs X q (tS G W C b)) : PS X (.If c p q pos) (tS G W C (sIf tc a b)) := PS.weak (ps_if hc ha hb) fun D σ H ⟨m, S, ls, s, r, p⟩ =>
  ⟨m, S, ls, s, r, post.imp (lift_post (Ra := RB) r p) fun x H1 ⟨m1, S1, k, e, s1, r1, ra, p1⟩ => by
    cases ra
    cases x with
    | true => exact ⟨m1, S1, ls, s1, r1, p1⟩
    | false => exact ⟨m1, S1, ls, s1, r1, p1⟩⟩

/-! ### targets -/
theorem g_name {i : Nat} {x : Str} {pos} (c : Ctx0 G X) (hi : X.N[i]? = some x) (hx : Loc X.env.scope x) (hf : X.fn x = true ∨ X.env.scope.names.lookup x = some .local) : PG X (.Name x pos) (tG G (.nm i)) :=
  ⟨fun pins s σ H v u Q I rv ⟨m, S, ls, d, ls', sim, r, rd, e, q⟩ => (pg_name c.hN hi hx hf).run pins s σ H v u Q I rv (by
    unfold asg at e
    split at e
    · cases e
      exact q _ Chg.set (r.set rd)
    · cases e)⟩
theorem gn {x : Str} {pos} (c : Ctx0 G X) (i : Nat) (hi : X.N[i]? = some x := by rfl) (hx : Loc X.env.scope x := by first | exact .inl rfl | exact .inr rfl) (hf : X.fn x = true ∨ X.env.scope.names.lookup x = some .local := by first | exact .inl rfl | exact .inr rfl) : PG X (.Name x pos) (tG G (.nm i)) := g_name c hi hx hf
theorem g_nil : PGs X [] (tGs G []) := ⟨fun pins s σ H vs us Q I rv ⟨m, S, ls, ds, ls', sim, r, rd, e, q⟩ => pgs_nil.run pins s σ H vs us Q I rv (by
  cases ds with
  | nil =>
    cases rd
    unfold asgs at e
    cases e
    exact ⟨rfl, q σ Chg.refl r⟩
  | cons d ds => unfold asgs at e; cases e)⟩
theorem g_cons {e : Expr} {es : List Expr} {t : Tg} {ts : List Tg} (h1 : PG X e (tG G t)) (h2 : PGs X es (tGs G ts))
    (hs : (assignEach (e :: es) X.env).map (·.2) = assign e X.env :: (assignEach es X.env).map (·.2) := by rfl) : PGs X (e :: es) (tGs G (t :: ts)) :=
  ⟨fun pins s σ H vs us Q I rv ⟨m, S, ls, ds, ls', sim, r, rd, e, q⟩ => (pgs_cons h1 h2 hs).run pins s σ H vs us Q I rv (by
    cases ds with
    | nil => unfold asgs at e; cases e
    | cons d ds =>
      cases rd with
      | @cons v vs _ _ ra rb =>
        unfold asgs at e
        cases e1 : asg S t d ls with
        | none => rw [e1] at e; cases e
        | some ls1 =>
          rw [e1] at e
          refine ⟨v, vs, rfl, m, S, ls, d, ls1, sim, r, ra, e1, fun σ1 ch r1 => ?_⟩
          exact ⟨m, S, ls1, ds, ls', sim, r1, rb, e, fun σ2 ch2 r2 => q σ2 (by unfold Tg.slotss; exact ch.trans ch2) r2⟩)⟩
theorem asgs_len {S : Store} : ∀ {ts : List Tg} {ds : List D} {ls ls' : Slots}, asgs S ts ds ls = some ls' → ds.length = ts.length
  | [], [], _, _, _ => rfl
  | [], _ :: _, _, _, e => by unfold asgs at e; cases e
  | _ :: _, [], _, _, e => by unfold asgs at e; cases e
  | t :: ts, d :: ds, ls, ls', e => by
    unfold asgs at e
    split at e
    · rw [List.length_cons, List.length_cons, asgs_len e]
    · cases e
theorem g_tup {es : List Expr} {ts : List Tg} {k : Nat} {pos} (c : Ctx G X W) (h : PGs X es (tGs G ts)) (hn : (assignEach es X.env).length = ts.length := by rfl) (hst : (assignEach es X.env).findIdx? (·.1) = none := by rfl) : PG X (.Tuple es k pos) (tG G (.tp ts)) :=
  ⟨fun pins s σ H v u Q I rv ⟨m, S, ls, d, ls', sim, r, rd, e, q⟩ => by
    unfold asg at e
    split at e
    · rename_i xs hx
      have hl := asgs_len e
      have go : ∀ vs, RepVs G m H vs xs → tGs G ts vs σ H Q := fun vs rr => ⟨m, S, ls, xs, ls', sim, r, rr, e, fun σ' ch r' => q σ' (by unfold Tg.slots; exact ch) r'⟩
      unfold seqOf at hx
      split at hx
      · cases hx
        obtain ⟨p, vs, rfl, hp, hv⟩ := rd.tup_
        exact (pg_tup (n := ts.length) c.calm h hn hst).run pins s σ H _ u Q I rv ⟨p, vs, rfl, c.hK ▸ hp, by rw [hv.length, hl], go vs hv⟩
      · obtain ⟨p, rfl, hp⟩ := rd.ref_
        obtain ⟨p', vs, e1, hp', hv⟩ := sim.seqL hx
        rw [hp] at e1
        cases e1
        exact (pg_lst (n := ts.length) c.calm h hn hst).run pins s σ H _ u Q I rv ⟨p, vs, rfl, c.hK ▸ hp', by rw [hv.length, hl], go vs hv⟩
      · cases hx
    · cases e⟩
/-- target = e -/
theorem s_set {tg e : Expr} {t : Tg} {a : ME} {pos : Pos} (he : PE X e (tE G W C a)) (hg : PG X tg (tG G t)) (hs : swapsWithSole [tg] e pos.line X.env = pure false := by rfl) (hw : swappedStores [tg] e X.env = pure none := by rfl)
    (h1 : (assignEach [tg] X.env).map (·.2) = [assign tg X.env] := by rfl) : PS X (.Assign [tg] e pos) (tS G W C (sSet t a)) := PS.weak (ps_asg he hg hs hw h1) fun D σ H ⟨m, S, ls, s, r, p⟩ =>
  ⟨m, S, ls, s, r, post.imp (lift_post (Ra := RepV G) r p) fun x H1 ⟨m1, S1, a, _, s1, r1, ra, p1⟩ => by
    split at p1
    · rename_i ls' e
      exact ⟨m1, S1, ls, a, ls', s1, r1, ra, e, fun σ' ch r' => p1 m1 H1 σ' Ext.refl s1 r'⟩
    · exact p1.elim⟩
/-- a, b = x, y -/
theorem s_par {i j : Nat} {x y : Str} {a b : Expr} {ea eb : ME} {px py pt : Pos} {kt k2 pt2} {pos : Pos} (c : Ctx G X W) (hi : X.N[i]? = some x) (hj : X.N[j]? = some y) (hij : i ≠ j)
    (hx : X.env.scope.names.lookup x = some .local) (hy : X.env.scope.names.lookup y = some .local) (ha : PE X a (tE G W C ea)) (hb : PE X b (tE G W C eb))
    (hw : swappedStores [.Tuple [.Name x px, .Name y py] kt pt] (.Tuple [a, b] k2 pt2) X.env = pure (some [x, y]))
    (hs : swapsWithSole [.Tuple [.Name x px, .Name y py] kt pt] (.Tuple [a, b] k2 pt2) pos.line X.env = pure false := by rfl)
    (h1 : starEach [a, b] X.env = (false, eval a X.env) :: starEach [b] X.env := by rfl) (h2 : starEach [b] X.env = (false, eval b X.env) :: starEach [] X.env := by rfl) :
    PS X (.Assign [.Tuple [.Name x px, .Name y py] kt pt] (.Tuple [a, b] k2 pt2) pos) (tS G W C (sPar i j ea eb)) :=
  PS.weak (ps_par c.calm c.hN hi hj hij hx hy (pa_cons ha (pa_cons hb pa_nil h2) h1) hw hs) fun D σ H ⟨m, S, ls, s, r, p⟩ => by
    refine ⟨m, S, ls, s, r, post.imp (lift_post (Ra := RepV G) r p) fun v H1 ⟨m1, S1, d1, e1, s1, r1, ra, p1⟩ => ?_⟩
    refine ⟨m1, S1, ls, s1, r1, post.imp (lift_post (Ra := RepV G) r1 p1) fun w H2 ⟨m2, S2, d2, e2, s2, r2, rb, p2⟩ => ?_⟩
    refine ⟨v, w, rfl, ?_⟩
    split at p2
    · exact p2 m2 H2 _ Ext.refl s2 ((r2.set (ra.mono e2)).set rb)
    · exact p2.elim
/-- x op= e -/
theorem s_aug {i : Nat} {x : Str} {e : Expr} {a : ME} {op : Operator} {f : D → D → P D} {pos' pos : Pos} (c : Ctx0 G X) (hi : X.N[i]? = some x) (hx : Loc X.env.scope x) (he : PE X e (tE G W C a)) (ho : PIp X op (rP2 G f))
    (hf : X.fn x = true ∨ X.env.scope.names.lookup x = some .local) : PS X (.AugAssign (.Name x pos') op e pos) (tS G W C (sAug i f a)) := PS.weak (ps_aug c.hN hi hx he ho hf) fun D σ H ⟨m, S, ls, s, r, p⟩ => by
  unfold sAug at p
  have h1 := lift_post (Ra := RepV G) r p
  unfold eVar at h1
  cases q : ls[i]? with
  | none => simp only [q] at h1; exact h1.elim
  | some o =>
    cases o with
    | none => simp only [q] at h1; exact h1.elim
    | some d =>
      simp only [q] at h1
      obtain ⟨v, e1, rv⟩ := r.2 i d q
      by_cases hx : isX d = true
      · rw [if_pos hx] at h1
        exact h1.elim
      rw [if_neg hx] at h1
      replace rv := rv.rep (by simpa using hx)
      obtain ⟨m1, S1, d1, x1, s1, r1, ra, p1⟩ := h1 m H v Ext.refl s rv
      refine ⟨v, e1, m1, S1, ls, s1, r1, post.imp (lift_post (Ra := RepV G) r1 p1) fun y H1 ⟨m2, S2, d2, x2, s2, r2, rb, p2⟩ => ?_⟩
      refine ⟨m2, S2, d1, d2, s2, ra.mono x2, rb, ?_⟩
      have h3 := post.of (lift_post (Ra := RepV G) r2 p2)
      cases z : f d1 d2 S2 with
      | none => rw [z] at h3; exact h3
      | some w =>
        rw [z] at h3
        intro m' H' b ex s' rr
        obtain ⟨m3, S3, d3, x3, s3, r3, rc, p3⟩ := h3 m' H' b ex s' rr
        split at p3
        · exact p3 m3 H' _ Ext.refl s3 (r3.set rc)
        · exact p3.elim

/-! ### while -/
theorem s_while {e : Expr} {body : List Stmt} {t : MT} {b : MS} {pos : Pos} (c : Ctx G X W) (hc : PT X e (tT G W C t)) (hb : PSs X body (tS G W C b)) : PS X (.While e body [] pos) (tS G W C (sWhile t b)) := PS.weak (ps_while c.hp hc hb) fun D σ H ⟨m, S, ls, s, r, p⟩ => by
  refine ⟨fun n σ H => ∃ m S ls, Sim G m S H ∧ SlotR G m H ls σ ∧ postS G W m H D (whileN t b C n ls S), ⟨turns, m, S, ls, s, r, p⟩, ?_⟩
  rintro n σ H ⟨m, S, ls, s, r, p⟩
  cases n with
  | zero => exact p.elim
  | succ n =>
    unfold whileN at p
    refine ⟨m, S, ls, s, r, post.imp (lift_post (Ra := RB) r p) fun k H1 ⟨m1, S1, k', e, s1, r1, ra, p1⟩ => ?_⟩
    cases ra
    cases k with
    | false =>
      rw [if_neg Bool.false_ne_true] at p1 ⊢
      exact p1 m1 H1 σ Ext.refl s1 r1
    | true =>
      rw [if_pos rfl] at p1 ⊢
      refine ⟨fun σ' H' => ∃ m S ls, Sim G m S H' ∧ SlotR G m H' ls σ' ∧ postS G W m H' D (whileN t b C n ls S), fun σ' H' h => ⟨n, Nat.lt_succ_self n, h⟩, m1, S1, ls, s1, r1, ?_⟩
      cases q : b C ls S1 with
      | nx ls' S' => rw [q] at p1; exact fun m' H' σ' x s' r' => ⟨m', S', ls', s', r', p1.ext x⟩
      | rt d S' => rw [q] at p1; exact p1
      | bk ls' S' => rw [q] at p1; exact p1
      | ct ls' S' => rw [q] at p1; exact fun m' H' σ' x s' r' => ⟨m', S', ls', s', r', p1.ext x⟩
      | ex c fs ls S' => rw [q] at p1; exact p1
      | bad => rw [q] at p1; exact p1

/-! ### for -/
/-- an iterator of the layer and ours -/
def ItR (G : Gx) (m0 : List Addr) (H0 : Hp) (J : L2.It) (t : MP.It) : Prop := ∀ m S H i, Ext G m0 H0 m H → Sim G m S H →
  (t.next S i = some none → J.stop i H) ∧ ∀ d, t.next S i = some (some d) → J.go i H ∧ ∀ x H', J.yld i H x H' → Ext G m H m H' ∧ Sim G m S H' ∧ RepV G m H' x d
theorem ItR.mono {m H m' H' J t} (e : Ext G m H m' H') (h : ItR G m H J t) : ItR G m' H' J t := fun m S H i x s => h m S H i (e.trans x) s
variable (G W)
abbrev tI (C : Cfg) (t : MI) : TI := tX G W (ItR G) C t
variable {G W}
theorem s_for {tg iter : Expr} {body : List Stmt} {g : Tg} {t : MI} {b : MS} {pos : Pos} (c : Ctx G X W) (hi : PI X tg iter (tI G W C t)) (hg : PG X tg (tG G g)) (hb : PSs X body (tS G W C b))
    (hs : ∀ x, foldedSetIterable iter X.env x = pure x := by intro _; rfl) : PS X (.For tg iter body [] pos) (tS G W C (sFor g t b)) := PS.weak (ps_for c.hp c.calm hi hg hb hs) fun D σ H ⟨m, S, ls, s, r, p⟩ => by
  refine ⟨m, S, ls, s, r, post.imp (lift_post (Ra := ItR G) r p) fun J H1 ⟨m1, S1, it, e, s1, r1, ra, p1⟩ => ?_⟩
  refine ⟨fun i n σ H => ∃ m S ls, Sim G m S H ∧ SlotR G m H ls σ ∧ ItR G m H J it ∧ postS G W m H D (forN it g b C n i ls S), ⟨turns, m1, S1, ls, s1, r1, ra, p1⟩, ?_⟩
  rintro i n σ H ⟨m, S, ls, s, r, ra, p⟩
  cases n with
  | zero => exact p.elim
  | succ n =>
    unfold forN at p
    obtain ⟨k1, k2⟩ := ra m S H i Ext.refl s
    cases q : it.next S i with
    | none => rw [q] at p; exact p.elim
    | some o =>
      rw [q] at p
      cases o with
      | none => exact .inl ⟨k1 q, p m H σ Ext.refl s r⟩
      | some d =>
        obtain ⟨go, yld⟩ := k2 d q
        refine .inr ⟨go, fun σ' H' => ∃ m S ls, Sim G m S H' ∧ SlotR G m H' ls σ' ∧ ItR G m H' J it ∧ postS G W m H' D (forN it g b C n (i + 1) ls S), fun σ' H' h => ⟨n, Nat.lt_succ_self n, h⟩, fun x H' y => ?_⟩
        obtain ⟨ex, s', rx⟩ := yld x H' y
        simp only at p
        cases q2 : asg S g d ls with
        | none => rw [q2] at p; exact p.elim
        | some ls1 =>
          rw [q2] at p
          simp only at p
          refine ⟨m, S, ls, d, ls1, s', r.mono ex, rx, q2, fun σ' ch r' => ⟨m, S, ls1, s', r', ?_⟩⟩
          have p := postS.ext ex p
          cases q3 : b C ls1 S with
          | nx ls' S' => rw [q3] at p; exact fun m2 H2 σ2 x2 s2 r2 => ⟨m2, S', ls', s2, r2, ra.mono (ex.trans x2), p.ext x2⟩
          | rt d S' => rw [q3] at p; exact p
          | bk ls' S' => rw [q3] at p; exact p
          | ct ls' S' => rw [q3] at p; exact fun m2 H2 σ2 x2 s2 r2 => ⟨m2, S', ls', s2, r2, ra.mono (ex.trans x2), p.ext x2⟩
          | ex c fs ls S' => rw [q3] at p; exact p
          | bad => rw [q3] at p; exact p
end
end MP

/-! MP: what loops and comprehensions walk. Own work. -/
namespace MP
open PySem PySem.Spec PyProof.Rows L2

section
variable {G : Gx} {m : List Addr} {H : Hp}
theorem itr_list {n : Nat} {p : Addr} (h : m[n]? = some p) : ItR G m H (Itl G.K p) (.lst n) := fun m' S H' i x s => by
  have hp := x.pre _ _ h
  unfold MP.It.next
  refine ⟨fun e => ?_, fun d e => ?_⟩ <;> cases q : lstAt S n with
  | none => rw [q] at e; cases e
  | some xs =>
    rw [q] at e
    obtain ⟨p', vs, e1, sq, rv⟩ := s.seqL q
    rw [hp] at e1
    cases e1
    have e : xs[i]? = _ := Option.some.inj e
    first
      | exact ⟨vs, sq, by rw [rv.length]; exact List.getElem?_eq_none_iff.mp e⟩
      | (obtain ⟨v, h1, h2⟩ := rv.get e
         refine ⟨⟨vs, v, sq, h1⟩, ?_⟩
         rintro y _ ⟨rfl, hy⟩
         have z := hy vs sq
         rw [h1] at z
         cases z
         exact ⟨Ext.refl, s, h2⟩)
theorem itr_tup {xs : List D} {p : Addr} {vs : List V} (sq : SqT G.K H p vs) (rv : RepVs G m H vs xs) : ItR G m H (Itt G.K p) (.seq xs) := fun m' S H' i x s => by
  have sq := x.tup _ _ sq
  have rv := rv.mono x
  unfold MP.It.next
  refine ⟨fun e => ?_, fun d e => ?_⟩
  · have e : xs[i]? = _ := Option.some.inj e
    exact ⟨vs, sq, by rw [rv.length]; exact List.getElem?_eq_none_iff.mp e⟩
  · have e : xs[i]? = _ := Option.some.inj e
    obtain ⟨v, h1, h2⟩ := rv.get e
    refine ⟨⟨vs, v, sq, h1⟩, ?_⟩
    rintro y _ ⟨rfl, hy⟩
    have z := hy vs sq
    rw [h1] at z
    cases z
    exact ⟨Ext.refl, s, h2⟩
theorem itr_str {l : List Nat} : ItR G m H (Its ⟨l.toArray⟩) (.seq (l.map fun c => .str [c])) := fun m' S H' i x s => by
  unfold MP.It.next
  refine ⟨fun e => ?_, fun d e => ?_⟩
  · have e : (l.map fun c => D.str [c])[i]? = none := Option.some.inj e
    have := List.getElem?_eq_none_iff.mp e
    rw [List.length_map] at this
    show l.toArray.size ≤ i
    simpa using this
  · have e : (l.map fun c => D.str [c])[i]? = some d := Option.some.inj e
    rw [List.getElem?_map] at e
    obtain ⟨c, h1, rfl⟩ := Option.map_eq_some_iff.mp e
    refine ⟨?_, ?_⟩
    · show i < l.toArray.size
      have := (List.getElem?_eq_some_iff.mp h1).1
      simpa using this
    · rintro y _ ⟨rfl, c', h2, rfl⟩
      have h2 : l.toArray[i]? = some c' := h2
      rw [List.getElem?_toArray, h1] at h2
      cases h2
      exact ⟨Ext.refl, s, .str [c]⟩
theorem rangeL_get (c : Int) : ∀ (n : Nat) (lo : Int) (i : Nat), (rangeL lo c n)[i]? = if i < n then some (.int (lo + (i : Nat) * c)) else none
  | 0, lo, i => by simp [rangeL]
  | n + 1, lo, 0 => by simp [rangeL]
  | n + 1, lo, i + 1 => by
    rw [rangeL, List.getElem?_cons_succ, rangeL_get c n]
    by_cases h : i < n
    · rw [if_pos h, if_pos (by omega)]
      congr 2
      rw [Int.natCast_add, Int.add_mul]
      omega
    · rw [if_neg h, if_neg (by omega)]
theorem itr_rangeC {lo c : Int} {n : Nat} : ItR G m H (Itc lo c n) (.seq (rangeL lo c n)) := fun m' S H' i x s => by
  unfold MP.It.next
  rw [rangeL_get]
  refine ⟨fun e => ?_, fun d e => ?_⟩
  · have e := Option.some.inj e
    split at e
    · cases e
    · show n ≤ i
      omega
  · have e := Option.some.inj e
    split at e
    · rename_i h
      cases e
      refine ⟨h, ?_⟩
      rintro y _ ⟨rfl, rfl⟩
      exact ⟨Ext.refl, s, .int _⟩
    · cases e
theorem itr_range {lo : Int} {n : Nat} : ItR G m H (Itr lo n) (.seq (rangeL lo 1 n)) := fun m' S H' i x s => by
  have h := itr_rangeC (G := G) (m := m) (H := H) (lo := lo) (c := 1) (n := n) m' S H' i x s
  refine ⟨h.1, fun d e => ?_⟩
  obtain ⟨h1, h2⟩ := h.2 d e
  refine ⟨h1, ?_⟩
  rintro y _ ⟨rfl, rfl⟩
  exact h2 _ _ ⟨rfl, by rw [Int.mul_one]⟩
/-- pairs (i, item) of a list -/
theorem itr_enum {n : Nat} {p : Addr} (h : m[n]? = some p) : ItR G m H (Ite G.K p) (.enum (.lst n)) := fun m' S H' i x s => by
  have hp := x.pre _ _ h
  unfold MP.It.next MP.It.next
  refine ⟨fun e => ?_, fun d e => ?_⟩ <;> cases q : lstAt S n with
  | none => rw [q] at e; cases e
  | some xs =>
    rw [q] at e
    obtain ⟨p', vs, e1, sq, rv⟩ := s.seqL q
    rw [hp] at e1
    cases e1
    cases q2 : xs[i]? with
    | none =>
      simp only [q2] at e
      first
        | exact ⟨vs, sq, by rw [rv.length]; exact List.getElem?_eq_none_iff.mp q2⟩
        | cases e
    | some d' =>
      simp only [q2] at e
      cases e
      try
        obtain ⟨v, h1, h2⟩ := rv.get q2
        refine ⟨⟨vs, v, sq, h1⟩, ?_⟩
        rintro y _ ⟨T, y', rfl, hT, rfl, hy⟩
        have z := hy vs sq
        rw [h1] at z
        cases z
        exact ⟨Ext.new hT, sim_same s hT, .tup (SqT.of upd_same) (.cons (.int _) (.cons (h2.mono (Ext.new hT)) .nil))⟩
theorem itr_zip {n k : Nat} {p q : Addr} {b : Bool} (h : m[n]? = some p) (h' : m[k]? = some q) : ItR G m H (Itz G.K p q) (.zip false [.lst n, .lst k]) := fun m' S H' i x s => by
  have hp := x.pre _ _ h
  have hq := x.pre _ _ h'
  unfold MP.It.next MP.It.nexts MP.It.nexts MP.It.nexts MP.It.next
  cases l1 : lstAt S n with
  | none => exact ⟨fun e => by simp at e, fun d e => by simp at e⟩
  | some xs =>
    cases l2 : lstAt S k with
    | none => exact ⟨fun e => by simp at e, fun d e => by simp at e⟩
    | some ys =>
      obtain ⟨p', vs, e1, sq, rv⟩ := s.seqL l1
      obtain ⟨q', ws, e2, sq2, rw2⟩ := s.seqL l2
      rw [hp] at e1; cases e1
      rw [hq] at e2; cases e2
      cases a1 : xs[i]? with
      | none =>
        refine ⟨fun _ => ⟨vs, ws, sq, sq2, .inl (by rw [rv.length]; exact List.getElem?_eq_none_iff.mp a1)⟩, fun d e => ?_⟩
        simp [a1] at e
      | some d1 =>
        cases a2 : ys[i]? with
        | none =>
          refine ⟨fun _ => ⟨vs, ws, sq, sq2, .inr (by rw [rw2.length]; exact List.getElem?_eq_none_iff.mp a2)⟩, fun d e => ?_⟩
          simp [a1, a2] at e
        | some d2 =>
          refine ⟨fun e => by simp [a1, a2] at e, fun d e => ?_⟩
          simp [a1, a2] at e
          subst e
          obtain ⟨v, h1, h2⟩ := rv.get a1
          obtain ⟨v', h3, h4⟩ := rw2.get a2
          refine ⟨⟨vs, ws, v, v', sq, sq2, h1, h3⟩, ?_⟩
          rintro y _ ⟨T, y1, y2, rfl, hT, rfl, hy, hy2⟩
          have z := hy vs sq
          rw [h1] at z; cases z
          have z := hy2 ws sq2
          rw [h3] at z; cases z
          exact ⟨Ext.new hT, sim_same s hT, .tup (SqT.of upd_same) (.cons (h2.mono (Ext.new hT)) (.cons (h4.mono (Ext.new hT)) .nil))⟩
end

theorem PI.weak {X : Cx} {tg iter : Expr} {t t' : TI} (h : PI X tg iter t) (i : ∀ σ H R, t' σ H R → t σ H R) : PI X tg iter t' := ⟨fun pins s σ H R I q => h.run pins s σ H R I (i σ H R q)⟩
section
variable {G : Gx} {X : Cx} {W : WX} {C : Cfg} {tg : Expr}
theorem i_seq {e : Expr} {a : ME} (c : Ctx0 G X) (he : PE X e (tE G W C a)) : PI X tg e (tI G W C (iSeq a)) := ⟨fun pins s σ H R I h => by
  refine thn (he.run pins s σ H _ I (w1 (Rp := ItR G) (f := itP) h)) fun v s1 ⟨x, H1, I1, rx, z⟩ => ?_
  obtain ⟨m, S, d, sim, rd, p⟩ := z
  unfold itP itOf at p
  split at p
  · rename_i l
    cases rd.str_
    obtain ⟨t, rfl⟩ := rx
    have q : R (Its ⟨l.toArray⟩) H1 := p m H1 _ Ext.refl sim itr_str
    cases ha : (⟨l.toArray⟩ : Str).cps.all (· < 128)
    · exact wpAny_pyIter_wide ha (pi_one (tk := s1.toks) I1 _ (turn_str _ _ t "str_iterator" (.inr rfl)) ⟨_, Heap.get?_push_size _ rfl, rfl, rfl⟩ q)
    · exact wpAny_pyIter_ascii ha (pi_one (tk := s1.toks) I1 _ (turn_str _ _ t "str_ascii_iterator" (.inl rfl)) ⟨_, Heap.get?_push_size _ rfl, rfl, rfl⟩ q)
  · rename_i xs
    obtain ⟨q, vs, rfl, hq, hv⟩ := rd.tup_
    cases rx
    have z : R (Itt X.K q) H1 := by rw [← c.hK]; exact p m H1 _ Ext.refl sim (itr_tup hq hv)
    obtain ⟨its, rv, pt, hz⟩ := I1.tuple (c.hK ▸ hq)
    exact wpAny_pyIter_tuple (show s1.heap.IsTuple q its.toArray from pt) (pi_one (tk := s1.toks) I1 _ (turn_tuple q _) ⟨_, Heap.get?_push_size _ rfl, rfl, rfl⟩ z)
  · rename_i n
    obtain ⟨q, rfl, hq⟩ := rd.ref_
    cases rx
    have go : ∀ xs, lstAt S n = some xs → R (Itl G.K q) H1 → wpAny (model X.prog X.w) X.A (pyIter (.ref q)) (PIE X pins σ tg R) X.xe s1 := fun xs hl z => by
      obtain ⟨q', vs, e1, sq, rv⟩ := sim.seqL hl
      rw [hq] at e1
      cases e1
      obtain ⟨its, rv, pl, hz⟩ := I1.list (c.hK ▸ sq)
      rw [c.hK] at z
      exact wpAny_pyIter_list pl.isList (pi_one (tk := s1.toks) I1 _ (turn_list q _) ⟨_, Heap.get?_push_size _ rfl, rfl, rfl⟩ z)
    split at p
    · rename_i xs hg
      exact go xs (by unfold lstAt; rw [hg]) (p m H1 _ Ext.refl sim (itr_list hq))
    · rename_i xs hg
      exact go xs (by unfold lstAt; rw [hg]) (p m H1 _ Ext.refl sim (itr_list hq))
    · exact p.elim
  · exact p.elim⟩
theorem okR_of {i : Int} (h : okR i = true) : -(2 ^ 62) ≤ i ∧ i < 2 ^ 62 := by
  unfold okR at h
  simp only [Bool.and_eq_true, decide_eq_true_eq] at h
  omega
theorem i_range1 {e : Expr} {a : ME} {p pos : Pos} (hg : Gl X "range") (hm : X.mg "range" = none) (he : PE X e (tE G W C a))
    (h1 : starEach [e] X.env = (false, eval e X.env) :: starEach [] X.env := by rfl) (hs : starEach [e] X.env = [(false, eval e X.env)] := by rfl) : PI X tg (.Call (.Name "range" p) [e] [] pos) (tI G W C (iRange1 a)) :=
  PI.weak (pi_range1 hg hm (pa_cons he pa_nil h1) hs) fun σ H R h => tX.imp (w1 (Rp := ItR G) (f := rg1) h) fun x H1 z => by
    obtain ⟨m, S, d, sim, rd, p⟩ := z
    unfold rg1 at p
    split at p
    · rename_i j
      cases rd.int_
      split at p
      · rename_i hz
        obtain ⟨q1, q2⟩ := okR_of hz
        exact ⟨j, rfl, q1, q2, p m H1 _ Ext.refl sim itr_range⟩
      · exact p.elim
    · exact p.elim
/-- two runs, then an operation -/
theorem wI2 {α β : Type} {Rp : List Addr → Hp → β → α → Prop} {f : D → D → P α} {a b : ME} {σ H} {R : β → Hp → Prop} (h : tX G W Rp C (fun C σ => (a C σ).bind fun x => (b C σ).bind fun y => M.of (f x y)) σ H R) :
    tE G W C a σ H fun x H1 => tE G W C b σ H1 fun y H2 => ∃ m S d1 d2, Sim G m S H2 ∧ RepV G m H2 x d1 ∧ RepV G m H2 y d2 ∧ postP G Rp m H2 R (f d1 d2 S) := by
  have h1 := tX.bind (Ra := RepV G) (k := fun C σ x => (b C σ).bind fun y => M.of (f x y)) h
  refine tX.imp h1 fun x H1 z => ?_
  have h2 := tKV (Rb := RepV G) (k := fun _ _ x y => M.of (f x y)) z
  refine tX.imp h2 fun y H2 z => ?_
  obtain ⟨m, S, ls, ab, s, r, ⟨ra, rb⟩, p⟩ := z
  exact ⟨m, S, ab.1, ab.2, s, ra, rb, post.of p⟩
theorem i_range2 {e e' : Expr} {a b : ME} {p pos : Pos} (hg : Gl X "range") (hm : X.mg "range" = none) (he : PE X e (tE G W C a)) (he' : PE X e' (tE G W C b))
    (h1 : starEach [e, e'] X.env = (false, eval e X.env) :: starEach [e'] X.env := by rfl) (h2 : starEach [e'] X.env = (false, eval e' X.env) :: starEach [] X.env := by rfl)
    (hs : starEach [e, e'] X.env = [(false, eval e X.env), (false, eval e' X.env)] := by rfl) (hs2 : starEach [e'] X.env = [(false, eval e' X.env)] := by rfl) : PI X tg (.Call (.Name "range" p) [e, e'] [] pos) (tI G W C (iRange2 a b)) :=
  PI.weak (pi_range2 hg hm (pa_cons he (pa_cons he' pa_nil h2) h1) hs hs2) fun σ H R h => tX.imp (wI2 (Rp := ItR G) (f := rg2) h) fun x H1 z => tX.imp z fun y H2 z => by
    obtain ⟨m, S, d1, d2, sim, r1, r2, p⟩ := z
    unfold rg2 at p
    split at p
    · rename_i i j
      cases r1.int_
      cases r2.int_
      split at p
      · rename_i hz
        rw [Bool.and_eq_true] at hz
        obtain ⟨q1, q2⟩ := okR_of hz.1
        obtain ⟨q3, q4⟩ := okR_of hz.2
        exact ⟨i, j, rfl, ⟨q1, q2, q3, q4⟩, p m H2 _ Ext.refl sim itr_range⟩
      · exact p.elim
    · exact p.elim
/-- range(a, b, -1) -/
theorem i_rangeD {e e' e3 : Expr} {a b : ME} {p pos : Pos} (hg : Gl X "range") (hm : X.mg "range" = none) (he : PE X e (tE G W C a)) (he' : PE X e' (tE G W C b)) (h3 : PE X e3 (tE G W C (e1 opNeg (eC (.int 1)))))
    (s1 : starEach [e, e', e3] X.env = (false, eval e X.env) :: starEach [e', e3] X.env := by rfl) (s2 : starEach [e', e3] X.env = (false, eval e' X.env) :: starEach [e3] X.env := by rfl) (s3 : starEach [e3] X.env = (false, eval e3 X.env) :: starEach [] X.env := by rfl)
    (hpl : (backTo pos (starEach [e', e3] X.env)).any (·.1) = false := by rfl) : PI X tg (.Call (.Name "range" p) [e, e', e3] [] pos) (tI G W C (iRangeD a b)) :=
  PI.weak (pi_range3 hg hm (pa_cons he (pa_cons he' (pa_cons h3 pa_nil s3) s2) s1) s1 hpl) fun σ H R h => by
    have h1 := tX.bind (Ra := RepV G) (k := fun C σ x => (b C σ).bind fun y => M.of (rgD x y)) h
    refine tX.imp h1 fun x H1 z => ?_
    have h2 := tKV (Rb := RepV G) (k := fun _ _ x y => M.of (rgD x y)) z
    refine tX.imp h2 fun y H2 z => ?_
    obtain ⟨m, S, ls, ab, sim, r, ⟨r1, r2⟩, p⟩ := z
    replace p := post.of p
    refine ⟨m, S, ls, sim, r, ?_⟩
    intro m' H' w ex s' rw'
    cases rw'.int_
    replace p := postP.ext ex p
    obtain ⟨d1, d2⟩ := ab
    replace p : postP G (ItR G) m' H' R (rgD d1 d2 S) := p
    replace r1 : RepV G m H2 x d1 := r1
    replace r2 : RepV G m H2 y d2 := r2
    unfold rgD at p
    split at p
    · rename_i i j
      cases r1.int_
      cases r2.int_
      split at p
      · rename_i hz
        rw [Bool.and_eq_true] at hz
        obtain ⟨q1, q2⟩ := okR_of hz.1
        obtain ⟨q3, q4⟩ := okR_of hz.2
        exact ⟨i, j, -1, (i - j).toNat, rfl, RgC.neg q1 q2 q3 q4, p m' H' _ Ext.refl s' itr_rangeC⟩
      · exact p.elim
    · exact p.elim
end
end MP

/-! MP: list comprehensions. Own work. -/
namespace MP
open PySem PySem.Spec PyProof.Rows L2

/-- nothing is raised -/
abbrev WF : WX := fun _ _ _ _ => False
theorem wipe_idem (σ : L2.St) (vs : List Nat) : L2.wipe (L2.wipe σ vs) vs = L2.wipe σ vs := by
  apply List.ext_getElem?
  intro i
  by_cases hi : i ∈ vs
  · by_cases hl : i < σ.length
    · rw [wipe_in hi (by rw [wipe_length]; exact hl), wipe_in hi hl]
    · rw [List.getElem?_eq_none (by rw [wipe_length, wipe_length]; omega), List.getElem?_eq_none (by rw [wipe_length]; omega)]
  · rw [wipe_out hi]
theorem mwipe_length : ∀ (vs : List Nat) (ls : Slots), (MP.wipe ls vs).length = ls.length
  | [], _ => rfl
  | v :: vs, ls => by unfold MP.wipe; rw [mwipe_length vs, List.length_set]
theorem mwipe_some : ∀ (vs : List Nat) {ls : Slots} {i : Nat} {d : D}, (MP.wipe ls vs)[i]? = some (some d) → ls[i]? = some (some d) ∧ i ∉ vs
  | [], _, _, _, h => ⟨h, by simp⟩
  | v :: vs, ls, i, d, h => by
    unfold MP.wipe at h
    obtain ⟨h1, h2⟩ := mwipe_some vs h
    by_cases hi : v = i
    · subst hi
      by_cases hl : v < ls.length
      · rw [List.getElem?_set_self hl] at h1; cases h1
      · rw [List.getElem?_eq_none (by rw [List.length_set]; omega)] at h1; cases h1
    · rw [List.getElem?_set_ne hi] at h1
      exact ⟨h1, by simp only [List.mem_cons, not_or]; exact ⟨fun e => hi e.symm, h2⟩⟩
theorem SlotR.wipe {G : Gx} {m H ls σ} (vs : List Nat) (h : SlotR G m H ls σ) : SlotR G m H (MP.wipe ls vs) (L2.wipe σ vs) :=
  ⟨by rw [mwipe_length, wipe_length, h.1], fun i d q => by
    obtain ⟨h1, h2⟩ := mwipe_some vs q
    rw [wipe_out h2]
    exact h.2 i d h1⟩

section
variable {G : Gx} {X : Cx} {W : WX} {C : Cfg}
/-- the end of a comprehension's loop -/
def postL (G : Gx) (m : List Addr) (H : Hp) (Qd : Hp → Prop) : R Unit → Prop
  | .ok _ S' => ∀ m' H', Ext G m H m' H' → Sim G m' S' H' → Qd H'
  | _ => False
theorem postL.ext {m H m1 H1 Qd r} (e : Ext G m H m1 H1) (h : postL G m H Qd r) : postL G m1 H1 Qd r := by
  cases r with
  | ok a S' => exact fun m' H' x s => h m' H' (e.trans x) s
  | ex c fs S' => exact h
  | bad => exact h
theorem postL.imp {m H} {Qd Qe : Hp → Prop} {r} (h : postL G m H Qd r) (q : ∀ H, Qd H → Qe H) : postL G m H Qe r := by
  cases r with
  | ok a S' => exact fun m' H' x s => q _ (h m' H' x s)
  | ex c fs S' => exact h
  | bad => exact h
/-- the element -/
theorem emit_post {e : ME} {σ m H ls n D} {S : Store} {Nx : Hp → Prop} (s : Sim G m S H) (r : SlotR G m H ls σ) (hD : m[n]? = some D) (p : postL G m H Nx (emit e n C ls S)) :
    tE G WF C e σ H fun y H4 => ∃ acc, H4 D = some (.lst acc) ∧ acc.length < sizeLine ∧ Nx (upd H4 D (.lst (acc ++ [y]))) := by
  refine ⟨m, S, ls, s, r, ?_⟩
  unfold emit at p
  cases q : e C ls S with
  | bad => rw [q] at p; exact p
  | ex c fs S' => rw [q] at p; exact p.elim
  | ok d S' =>
    rw [q] at p
    intro m' H' y x s' ry
    simp only at p
    cases q2 : S'.get n with
    | none => rw [q2] at p; exact p.elim
    | some o =>
      rw [q2] at p
      cases o with
      | lst acc =>
        simp only at p
        split at p
        · rename_i hz
          obtain ⟨p', vs, e1, e2, rv⟩ := s'.lst q2
          rw [x.pre _ _ hD] at e1
          cases e1
          refine ⟨vs, e2, by rw [rv.length, ← line_eq]; exact hz, ?_⟩
          have mu : Mut1 (H' D) := by rw [e2]; trivial
          have ex : Ext G m' H' m' (upd H' D (.lst (vs ++ [y]))) := Ext.mut mu
          exact p m' _ (x.trans ex) (sim_set s' q2 rfl rfl (x.pre _ _ hD) mu (.lst upd_same ((rv.mono ex).append (.cons (ry.mono ex) .nil))))
        · exact p.elim
      | rol xs => exact p.elim
      | dct kvs => exact p.elim
      | dtu kvs => exact p.elim
      | fdt kvs => exact p.elim
      | fdk kvs => exact p.elim
      | ins c fs => exact p.elim
/-- one clause: at each turn f is asked -/
theorem comp_loop {it : MP.It} {J : L2.It} {g : Tg} {tc : MT} {f : Slots → M Unit} {σ : L2.St} {ls : Slots} {m0 H0} {S0 : Store} {vs : List Nat} {Qd : Hp → Prop} {F : L2.St → Hp → (Hp → Prop) → Prop} (s0 : Sim G m0 S0 H0) (r0 : SlotR G m0 H0 ls (L2.wipe σ vs)) (ri : ItR G m0 H0 J it) (sub : ∀ i ∈ g.slots, i ∈ vs)
    (hf : ∀ (σ2 : L2.St) (m : List Addr) (H : Hp) (S : Store) (ls2 : Slots) (Nx : Hp → Prop), Ext G m0 H0 m H → Sim G m S H → SlotR G m H ls2 σ2 → postL G m H Nx (f ls2 S) → F σ2 H Nx)
    (p : postL G m0 H0 Qd (compN it g tc f C ls turns 0 S0)) :
    ∃ W : Nat → Nat → Hp → Prop, (∃ m, W 0 m H0) ∧ ∀ i m H, W i m H → (J.stop i H ∧ Qd H) ∨ (J.go i H ∧ ∃ Nx : Hp → Prop, (∀ H', Nx H' → ∃ m', m' < m ∧ W (i + 1) m' H') ∧ ∀ x H', J.yld i H x H' →
      tG G g x (L2.wipe σ vs) H' fun σ2 H2 => L2.wipe σ2 vs = L2.wipe σ vs ∧ tT G WF C tc σ2 H2 fun b H3 => if b = true then F σ2 H3 Nx else Nx H3) := by
  refine ⟨fun i n H => ∃ m S, Sim G m S H ∧ Ext G m0 H0 m H ∧ postL G m H Qd (compN it g tc f C ls n i S), ⟨turns, m0, S0, s0, Ext.refl, p⟩, ?_⟩
  rintro i n H ⟨m, S, s, ex0, p⟩
  cases n with
  | zero => exact p.elim
  | succ n =>
    unfold compN at p
    obtain ⟨k1, k2⟩ := ri m S H i ex0 s
    cases q : it.next S i with
    | none => rw [q] at p; exact p.elim
    | some o =>
      rw [q] at p
      cases o with
      | none => exact .inl ⟨k1 q, p m H Ext.refl s⟩
      | some d =>
        obtain ⟨go, yld⟩ := k2 d q
        refine .inr ⟨go, fun H' => ∃ m S, Sim G m S H' ∧ Ext G m0 H0 m H' ∧ postL G m H' Qd (compN it g tc f C ls n (i + 1) S), fun H' h => ⟨n, Nat.lt_succ_self n, h⟩, fun x H' y => ?_⟩
        obtain ⟨ex, s', rx⟩ := yld x H' y
        simp only at p
        cases q2 : asg S g d ls with
        | none => rw [q2] at p; exact p.elim
        | some ls1 =>
          rw [q2] at p
          simp only at p
          refine ⟨m, S, ls, d, ls1, s', r0.mono (ex0.trans ex), rx, q2, fun σ2 ch r2 => ⟨(ch.wipe sub).trans (wipe_idem σ vs), m, S, ls1, s', r2, ?_⟩⟩
          cases q3 : tc C ls1 S with
          | bad => rw [q3] at p; exact p
          | ex c fs S' => rw [q3] at p; exact p.elim
          | ok k S1 =>
            rw [q3] at p
            intro m2 H3 b x2 s2 rb
            cases rb
            cases k with
            | false =>
              rw [if_neg Bool.false_ne_true]
              exact ⟨m2, S1, s2, (ex0.trans ex).trans x2, postL.ext (ex.trans x2) p⟩
            | true =>
              rw [if_pos rfl]
              simp only at p
              refine hf σ2 m2 H3 S1 ls1 _ ((ex0.trans ex).trans x2) s2 (r2.mono x2) ?_
              cases q4 : f ls1 S1 with
              | bad => rw [q4] at p; exact p
              | ex c fs S' => rw [q4] at p; exact p.elim
              | ok u S2 =>
                rw [q4] at p
                exact fun m4 H4 x4 s4 => ⟨m4, S2, s4, ((ex0.trans ex).trans x2).trans x4, postL.ext ((ex.trans x2).trans x4) p⟩
theorem lc_fin {e : ME} {g : Tg} {t : MI} {tc : MT} {vs : List Nat} {σ H} {Q : VK} (sub : ∀ i ∈ g.slots, i ∈ vs) (h : tE G W C (eLc e g t tc vs) σ H Q) : tLc (tI G W C t) (tG G g) (tT G WF C tc) (tE G WF C e) vs σ H Q := by
  have h1 := tX.bind (Ra := ItR G) (k := fun C σ i S => match compN i g tc (emit e S.size C) C (MP.wipe σ vs) turns 0 (S.push (.lst [])) with
    | .ok _ S' => .ok (D.ref S.size) S'
    | _ => .bad) h
  refine tX.imp h1 fun J H1 z D hD => ?_
  obtain ⟨m, S, ls, it, s, r, ri, p⟩ := z
  have ex : Ext G m H1 (m ++ [D]) (upd H1 D (.lst [])) := ext_push hD
  have hl : (m ++ [D])[S.size]? = some D := by rw [← s.len]; exact List.getElem?_concat_length
  refine comp_loop (f := emit e S.size C) (Qd := fun H => Q (.ref D) H) (sim_new s hD (.lst upd_same .nil)) ((r.mono ex).wipe vs) (ri.mono ex) sub (F := fun σ2 H3 Nx => tE G WF C e σ2 H3 fun y H4 => ∃ acc, H4 D = some (.lst acc) ∧ acc.length < sizeLine ∧ Nx (upd H4 D (.lst (acc ++ [y]))))
    (fun σ2 m2 H2 S2 ls2 Nx x2 s2 r2 p2 => emit_post s2 r2 (x2.pre _ _ hl) p2) (?_ : postL G (m ++ [D]) (upd H1 D (.lst [])) (fun H => Q (.ref D) H) _)
  cases q : compN it g tc (emit e S.size C) C (MP.wipe ls vs) turns 0 (S.push (.lst [])) with
  | bad => simp only [q] at p; exact p
  | ex c fs S' => simp only [q] at p; exact p
  | ok u S' =>
    simp only [q] at p
    exact fun m' H' x s' => p m' H' (.ref D) (ex.trans x) s' ((ref_new (G := G) (H' := upd H1 D (.lst [])) s).mono x)
/-- two clauses -/
theorem lc2_fin {e : ME} {g g1 : Tg} {t t1 : MI} {tc tc1 : MT} {vs vs1 : List Nat} {σ H} {Q : VK} (sub : ∀ i ∈ g.slots, i ∈ vs) (sub1 : ∀ i ∈ g1.slots, i ∈ vs1) (h : tE G W C (eLc2 e g t tc g1 t1 tc1 vs vs1) σ H Q) :
    tLc2 (tI G W C t) (tG G g) (tT G WF C tc) (tI G WF C t1) (tG G g1) (tT G WF C tc1) (tE G WF C e) vs vs1 σ H Q := by
  have h1 := tX.bind (Ra := ItR G) (k := fun C σ i S => match compN i g tc (fun σ1 => (t1 C σ1).bind fun j => compN j g1 tc1 (emit e S.size C) C (MP.wipe σ1 vs1) turns 0) C (MP.wipe σ vs) turns 0 (S.push (.lst [])) with
    | .ok _ S' => .ok (D.ref S.size) S'
    | _ => .bad) h
  refine tX.imp h1 fun J H1 z D hD => ?_
  obtain ⟨m, S, ls, it, s, r, ri, p⟩ := z
  have ex : Ext G m H1 (m ++ [D]) (upd H1 D (.lst [])) := ext_push hD
  have hl : (m ++ [D])[S.size]? = some D := by rw [← s.len]; exact List.getElem?_concat_length
  refine comp_loop (f := fun σ1 => (t1 C σ1).bind fun j => compN j g1 tc1 (emit e S.size C) C (MP.wipe σ1 vs1) turns 0) (Qd := fun H => Q (.ref D) H) (sim_new s hD (.lst upd_same .nil)) ((r.mono ex).wipe vs) (ri.mono ex) sub (F := fun σ2 H3 Nx => tI G WF C t1 σ2 H3 fun J1 H4 => ∃ W1 : Nat → Nat → Hp → Prop, (∃ m, W1 0 m H4) ∧ ∀ j k H, W1 j k H →
      (J1.stop j H ∧ Nx H) ∨ (J1.go j H ∧ ∃ Nx1 : Hp → Prop, (∀ H', Nx1 H' → ∃ k', k' < k ∧ W1 (j + 1) k' H') ∧ ∀ x H', J1.yld j H x H' → tG G g1 x (L2.wipe σ2 vs1) H' fun σ3 H5 => L2.wipe σ3 vs1 = L2.wipe σ2 vs1 ∧ tT G WF C tc1 σ3 H5 fun b H6 =>
        if b = true then tE G WF C e σ3 H6 fun y H7 => ∃ acc, H7 D = some (.lst acc) ∧ acc.length < sizeLine ∧ Nx1 (upd H7 D (.lst (acc ++ [y]))) else Nx1 H6))
    (fun σ2 m2 H2 S2 ls2 Nx x2 s2 r2 p2 => ?_) (?_ : postL G (m ++ [D]) (upd H1 D (.lst [])) (fun H => Q (.ref D) H) _)
  · refine ⟨m2, S2, ls2, s2, r2, ?_⟩
    unfold M.bind at p2
    cases q : t1 C ls2 S2 with
    | bad => simp only [q] at p2; exact p2
    | ex c fs S' => simp only [q] at p2; exact p2.elim
    | ok j S3 =>
      simp only [q] at p2
      intro m3 H3 J1 x3 s3 ri3
      exact comp_loop (f := emit e S.size C) s3 ((r2.mono x3).wipe vs1) ri3 sub1 (F := fun σ2 H3 Nx => tE G WF C e σ2 H3 fun y H4 => ∃ acc, H4 D = some (.lst acc) ∧ acc.length < sizeLine ∧ Nx (upd H4 D (.lst (acc ++ [y]))))
        (fun σ4 m4 H4 S4 ls4 Nx4 x4 s4 r4 p4 => emit_post s4 r4 (((x2.trans x3).trans x4).pre _ _ hl) p4) (postL.ext x3 p2)
  · cases q : compN it g tc (fun σ1 => (t1 C σ1).bind fun j => compN j g1 tc1 (emit e S.size C) C (MP.wipe σ1 vs1) turns 0) C (MP.wipe ls vs) turns 0 (S.push (.lst [])) with
    | bad => simp only [q] at p; exact p
    | ex c fs S' => simp only [q] at p; exact p
    | ok u S' =>
      simp only [q] at p
      exact fun m' H' x s' => p m' H' (.ref D) (ex.trans x) s' ((ref_new (G := G) (H' := upd H1 D (.lst [])) s).mono x)

theorem r_pts0 : PTs X [] (tT G W C MP.tYes) := ⟨fun pins s σ H Q I h => pts_nil.run pins s σ H Q I (by
  obtain ⟨m, S, ls, s, r, p⟩ := h
  exact p m H true Ext.refl s rfl)⟩
theorem r_pts1 {e : Expr} {t : MT} (h : PT X e (tT G W C t)) : PTs X [e] (tT G W C t) := pts_one h
/-- the block of a comprehension -/
theorem Ctx.blk (c : Ctx G X W) {s : Shared} {H : Hp} {scope : Scope} {cl : List (Str × Addr)} {L : Addr} {fp : List Addr} : Ctx G (X.blk s H scope (compEnvC scope cl L X.env) fp) WF where
  hK := c.hK
  hN := c.hN
  tk := fun _ _ ⟨_, _, _, _, _, _, _, _, _, _, _, _, _, _, _, _, w⟩ => w.elim
  hp := fun _ _ z => z.elim
  hu := c.hu
  gd := c.gd
  hW := c.hW
  calm := c.calm
section
variable {elt tg iter : Expr} {ifs : List Expr} {scope : Scope} {own : List (Str × Nat)} {pos : Pos} {g : Tg} {t : MI} {tc : MT} {e : ME} {vs : List Nat}
theorem r_lc (c : Ctx G X W) (hi : PI X tg iter (tI G W C t)) (ok : blkC X.N X.env.scope scope own = true) (hv : own.map (·.2) = vs) (sub : (g.slots.all fun i => vs.contains i) = true)
    (hg : ∀ (s : Shared) (H : Hp) (L : Addr) (cl : List (Str × Addr)) (fp : List Addr), PG (X.blk s H scope (compEnvC scope cl L X.env) fp) tg (tG G g))
    (ht : ∀ (s : Shared) (H : Hp) (L : Addr) (cl : List (Str × Addr)) (fp : List Addr), PTs (X.blk s H scope (compEnvC scope cl L X.env) fp) ifs (tT G WF C tc))
    (he : ∀ (s : Shared) (H : Hp) (L : Addr) (cl : List (Str × Addr)) (fp : List Addr), PE (X.blk s H scope (compEnvC scope cl L X.env) fp) elt (tE G WF C e)) (hs : ∀ x, foldedSetIterable iter X.env x = pure x := by intro _; rfl) :
    PE X (.ListComp elt [⟨tg, iter, ifs, 0⟩] scope pos) (tE G W C (eLc e g t tc vs)) := by
  subst hv
  exact PE.weak (pe_lc c.calm c.hN hi (blkOk_by ok) hg ht he hs) fun σ H Q h => lc_fin (fun i hi => by simpa using List.all_eq_true.mp sub i hi) h
theorem s_setLc {i : Nat} {y : Str} {py spos : Pos} (c : Ctx G X W) (hy : X.N[i]? = some y) (hyl : X.env.scope.names.lookup y = some .local) (hsw : swapsWith (.ListComp elt [⟨tg, iter, ifs, 0⟩] scope pos) (some (.Name y py)) spos.line X.env = pure true)
    (hi : PI X tg iter (tI G W C t)) (ok : blkC X.N X.env.scope scope own = true) (hv : own.map (·.2) = vs) (sub : (g.slots.all fun i => vs.contains i) = true)
    (hg : ∀ (s : Shared) (H : Hp) (L : Addr) (cl : List (Str × Addr)) (fp : List Addr), PG (X.blk s H scope (compEnvC scope cl L X.env) fp) tg (tG G g))
    (ht : ∀ (s : Shared) (H : Hp) (L : Addr) (cl : List (Str × Addr)) (fp : List Addr), PTs (X.blk s H scope (compEnvC scope cl L X.env) fp) ifs (tT G WF C tc))
    (he : ∀ (s : Shared) (H : Hp) (L : Addr) (cl : List (Str × Addr)) (fp : List Addr), PE (X.blk s H scope (compEnvC scope cl L X.env) fp) elt (tE G WF C e)) (hs : ∀ x, foldedSetIterable iter X.env x = pure x := by intro _; rfl) :
    PS X (.Assign [.Name y py] (.ListComp elt [⟨tg, iter, ifs, 0⟩] scope pos) spos) (tS G W C (sSet (.nm i) (eLc e g t tc vs))) := by
  subst hv
  refine PS.weak (ps_setLc c.calm c.hN hy hyl hsw hi (blkOk_by ok) hg ht he hs) fun D σ H ⟨m, S, ls, s, r, p⟩ => lc_fin (fun i hi => by simpa using List.all_eq_true.mp sub i hi) ⟨m, S, ls, s, r, post.imp (lift_post (Ra := RepV G) r p) fun x H1 ⟨m1, S1, a, _, s1, r1, ra, p1⟩ => ?_⟩
  unfold asg at p1
  split at p1
  · rename_i ls' e
    split at e
    · cases e
      exact p1 m1 H1 _ Ext.refl s1 (r1.set ra)
    · cases e
  · exact p1.elim
variable {tg1 iter1 : Expr} {ifs1 : List Expr} {g1 : Tg} {t1 : MI} {tc1 : MT} {vs1 : List Nat}
theorem r_lc2 (c : Ctx G X W) (hi : PI X tg iter (tI G W C t)) (ok : blkC X.N X.env.scope scope own = true) (hv : own.map (·.2) = vs) (sub : (g.slots.all fun i => vs.contains i) = true) (sub1 : (g1.slots.all fun i => vs1.contains i) = true) (in1 : (vs1.all fun i => vs.contains i) = true)
    (hg : ∀ (s : Shared) (H : Hp) (L : Addr) (cl : List (Str × Addr)) (fp : List Addr), PG (X.blk s H scope (compEnvC scope cl L X.env) fp) tg (tG G g))
    (ht : ∀ (s : Shared) (H : Hp) (L : Addr) (cl : List (Str × Addr)) (fp : List Addr), PTs (X.blk s H scope (compEnvC scope cl L X.env) fp) ifs (tT G WF C tc))
    (hi1 : ∀ (s : Shared) (H : Hp) (L : Addr) (cl : List (Str × Addr)) (fp : List Addr), PI (X.blk s H scope (compEnvC scope cl L X.env) fp) tg1 iter1 (tI G WF C t1))
    (hg1 : ∀ (s : Shared) (H : Hp) (L : Addr) (cl : List (Str × Addr)) (fp : List Addr), PG (X.blk s H scope (compEnvC scope cl L X.env) fp) tg1 (tG G g1))
    (ht1 : ∀ (s : Shared) (H : Hp) (L : Addr) (cl : List (Str × Addr)) (fp : List Addr), PTs (X.blk s H scope (compEnvC scope cl L X.env) fp) ifs1 (tT G WF C tc1))
    (he : ∀ (s : Shared) (H : Hp) (L : Addr) (cl : List (Str × Addr)) (fp : List Addr), PE (X.blk s H scope (compEnvC scope cl L X.env) fp) elt (tE G WF C e)) (hs : ∀ x, foldedSetIterable iter X.env x = pure x := by intro _; rfl) (hs1 : ∀ env x, foldedSetIterable iter1 env x = pure x := by intro _ _; rfl) :
    PE X (.ListComp elt [⟨tg, iter, ifs, 0⟩, ⟨tg1, iter1, ifs1, 0⟩] scope pos) (tE G W C (eLc2 e g t tc g1 t1 tc1 vs vs1)) := by
  subst hv
  exact PE.weak (pe_lc2 c.calm c.hN hi (blkOk_by ok) (fun i hi => by simpa using List.all_eq_true.mp in1 i hi) hg ht hi1 hg1 ht1 he hs hs1) fun σ H Q h => lc2_fin (fun i hi => by simpa using List.all_eq_true.mp sub i hi) (fun i hi => by simpa using List.all_eq_true.mp sub1 i hi) h
theorem s_setLc2 {i : Nat} {y : Str} {py spos : Pos} (c : Ctx G X W) (hy : X.N[i]? = some y) (hyl : X.env.scope.names.lookup y = some .local) (hsw : swapsWith (.ListComp elt [⟨tg, iter, ifs, 0⟩, ⟨tg1, iter1, ifs1, 0⟩] scope pos) (some (.Name y py)) spos.line X.env = pure true)
    (hi : PI X tg iter (tI G W C t)) (ok : blkC X.N X.env.scope scope own = true) (hv : own.map (·.2) = vs) (sub : (g.slots.all fun i => vs.contains i) = true) (sub1 : (g1.slots.all fun i => vs1.contains i) = true) (in1 : (vs1.all fun i => vs.contains i) = true)
    (hg : ∀ (s : Shared) (H : Hp) (L : Addr) (cl : List (Str × Addr)) (fp : List Addr), PG (X.blk s H scope (compEnvC scope cl L X.env) fp) tg (tG G g))
    (ht : ∀ (s : Shared) (H : Hp) (L : Addr) (cl : List (Str × Addr)) (fp : List Addr), PTs (X.blk s H scope (compEnvC scope cl L X.env) fp) ifs (tT G WF C tc))
    (hi1 : ∀ (s : Shared) (H : Hp) (L : Addr) (cl : List (Str × Addr)) (fp : List Addr), PI (X.blk s H scope (compEnvC scope cl L X.env) fp) tg1 iter1 (tI G WF C t1))
    (hg1 : ∀ (s : Shared) (H : Hp) (L : Addr) (cl : List (Str × Addr)) (fp : List Addr), PG (X.blk s H scope (compEnvC scope cl L X.env) fp) tg1 (tG G g1))
    (ht1 : ∀ (s : Shared) (H : Hp) (L : Addr) (cl : List (Str × Addr)) (fp : List Addr), PTs (X.blk s H scope (compEnvC scope cl L X.env) fp) ifs1 (tT G WF C tc1))
    (he : ∀ (s : Shared) (H : Hp) (L : Addr) (cl : List (Str × Addr)) (fp : List Addr), PE (X.blk s H scope (compEnvC scope cl L X.env) fp) elt (tE G WF C e)) (hs : ∀ x, foldedSetIterable iter X.env x = pure x := by intro _; rfl) (hs1 : ∀ env x, foldedSetIterable iter1 env x = pure x := by intro _ _; rfl) :
    PS X (.Assign [.Name y py] (.ListComp elt [⟨tg, iter, ifs, 0⟩, ⟨tg1, iter1, ifs1, 0⟩] scope pos) spos) (tS G W C (sSet (.nm i) (eLc2 e g t tc g1 t1 tc1 vs vs1))) := by
  subst hv
  refine PS.weak (ps_setLc2 c.calm c.hN hy hyl hsw hi (blkOk_by ok) (fun i hi => by simpa using List.all_eq_true.mp in1 i hi) hg ht hi1 hg1 ht1 he hs hs1) fun D σ H ⟨m, S, ls, s, r, p⟩ =>
    lc2_fin (fun i hi => by simpa using List.all_eq_true.mp sub i hi) (fun i hi => by simpa using List.all_eq_true.mp sub1 i hi) ⟨m, S, ls, s, r, post.imp (lift_post (Ra := RepV G) r p) fun x H1 ⟨m1, S1, a, _, s1, r1, ra, p1⟩ => ?_⟩
  unfold asg at p1
  split at p1
  · rename_i ls' e
    split at e
    · cases e
      exact p1 m1 H1 _ Ext.refl s1 (r1.set ra)
    · cases e
  · exact p1.elim
end
end
end MP

/-! MP: promises of functions where no repr is under way. Own work. -/
namespace MP
open PySem PySem.Spec PyProof.Rows L2
/-- a function's promise, asked only where no guard stands -/
structure FnG (P : Program) (w : World) (K : PySem.W.Frag) (mg : Str → Option Value) (base : Heap) (Cx0 : CXT) (k : Nat) (f : Addr) (fd : FuncData) (ps : List Str) (sp : Sp) : Prop where
  len : ∀ vs H Q E, sp vs H Q E → vs.length = ps.length
  go : ∀ (A : Around) (out : List Env) (s : Shared) (H : Hp) (ar : Args) (us : List Value) (vs : List V) (Q : VK) (E : XK), Room k A → A.guards = some [] → Env0 P w K mg base A out s H → BindsTo s fd ar (ps.zip us) → Vals vs us → sp vs H Q E →
    codeAny (model P w) A (.call (.ref f) ar) (CR Cx0 out P w H s Q E) s
theorem FnG.of {P : Program} {w : World} {K : PySem.W.Frag} {mg : Str → Option Value} {base : Heap} {Cx0 : CXT} {k : Nat} {f : Addr} {fd : FuncData} {ps : List Str} {sp : Sp} (F : FnOk P w K mg base Cx0 k f fd ps sp) : FnG P w K mg base Cx0 k f fd ps sp :=
  ⟨F.len, fun A out s H ar us vs Q E hr _ => F.run A out s H ar us vs Q E hr⟩
/-- cdv is the code of the def that stands at f -/
def CdOf (K : PySem.W.Frag) (f : Addr) (cdv : Value) : Prop := ∃ (oo : Obj) (fd : FuncData), K.lookup f = some oo ∧ oo.data = .func fd ∧ fd.code = cdv
/-- a def, by its body -/
theorem FnG.def_ {Cx0 : CXT} {P : Program} {w : World} {K : PySem.W.Frag} {mg : Str → Option Value} {base : Heap} {x qual : Str} {params : Arguments} {body : List Stmt} {scope : Scope} {dvs : List V} {kws : List (Str × V)} {f : Addr} {fd : FuncData} {N ps : List Str} {k : Nat} {sp : Sp}
    (F : FunD K x qual params body scope dvs kws f fd) (S : FnScope N ps scope) (len : ∀ vs H Q E, sp vs H Q E → vs.length = ps.length)
    (hbody : ∀ (cdv : Value) (A : Around) (out : List Env) (s : Shared) (H : Hp) (vs : List V) (Q : VK) (E : XK), Room k (A.deeper (envOfC qual scope s.heap.objs.size f cdv)) → A.guards = some [] → CdOf K f cdv → sp vs H Q E →
      ∃ t, PSs (cxOf Cx0 P w K mg base N qual scope f cdv A out s H E) body t ∧ t { nx := fun _ H' => Q .non H', rt := Q } (start N vs) H) : FnG P w K mg base Cx0 (k + 1) f fd ps sp := by
  obtain ⟨oc, od, dV, kV, doc, pm, an, cdv, ct, osl, rfl, lk, hcd, _, _⟩ := F.ex
  refine ⟨len, fun A out s H ar us vs Q E hr hgd e0 hb r hsp => ?_⟩
  have hlen := len _ _ _ _ hsp
  have kin : K.In s.heap := e0.mod.kin.keeps fun c o e => (e0.bs c o e).1
  have nolim : s.heap.NoLimit := e0.mod.nolimit.keeps fun c o e => (e0.bs c o e).1
  have kinds : ∀ z ∈ ps.zip us, scope.names.lookup z.1 = some .local ∨ (scope.names.lookup z.1 = some .cell ∧ ((cellsFrom (s.heap.objs.size + 1) scope.names []).lookup z.1).isSome = true) := fun ⟨a, v⟩ hz => by
    rcases S.par a (List.of_mem_zip hz).1 with q | q
    · exact .inl q
    · exact .inr ⟨q, PySem.W.cellsFrom_some _ _ _ (.inl q)⟩
  refine codeAny_call_function hr.depth (kin _ _ lk) rfl S.co S.gen rfl (PySem.W.codeRec_of kin hcd) (hb _ _ _ _ ?_)
  refine wpAny_newFunctionEnv_cells S.kind kinds fun env he s1 y => ?_
  subst he
  refine ⟨nolim.keeps y.toInCall.keep, codeAny_func ?_⟩
  obtain ⟨t, ht, hq⟩ := hbody cdv A out s H vs Q E (hr.deeper _) hgd ⟨_, _, lk, rfl, rfl⟩ hsp
  have J0 : Inv (cxOf Cx0 P w K mg base N qual scope f cdv A out s H E) [] (start N vs) H s1 := inv_start S hr.hd e0 hlen r y
  refine wpAny_mono (ht.run [] s1 (start N vs) H _ J0 hq) (fun fl s' hs => ?_) fun e s' hs => hs
  cases fl with
  | ret u =>
    obtain ⟨v, σ', H', J, rv, q⟩ := hs
    exact ⟨v, H', J.os, J.bare, J.base, J.hok, rv, q⟩
  | next =>
    obtain ⟨σ', H', J, q⟩ := hs
    exact ⟨V.non, H', J.os, J.bare, J.base, J.hok, (show RelV V.non Value.none from rfl), q⟩
  | brk =>
    obtain ⟨_, _, _, z⟩ := hs
    exact z.elim
  | cont =>
    obtain ⟨_, _, _, z⟩ := hs
    exact z.elim
section
variable {X : Cx} {Cx0 : CXT} {k : Nat} {f : Addr} {fd : FuncData} {ps : List Str} {sp : Sp} {ds : List Value} {dvs : List V} {E : L2.St → XK} {e : Expr} {es : List Expr} {x : Str} {p pos : Pos} {t : TA}
theorem run_fnG {pins : List (Addr × Obj)} {σ : L2.St} {H : Hp} {s : Shared} {Q : VK} {us : List Value} {vs : List V} (F : FnG X.prog X.w X.K X.mg X.base Cx0 k f fd ps sp) (hr : Room k X.A) (gd : X.A.guards = some []) (hb : Binds X.K fd ps ds) (hd : Vals dvs ds) (hx : PassesAt Cx0 X σ (E σ))
    (I : Inv X pins σ H s) (r : Vals vs us) (h : sp (vs ++ dvs) H Q (E σ)) : wpAny (model X.prog X.w) X.A (call (.ref f) us) (EP X pins σ Q) X.xe s := by
  have rr : Vals (vs ++ dvs) (us ++ ds) := r.append hd
  have len : (us ++ ds).length = ps.length := by rw [← rr.length]; exact F.len _ _ _ _ h
  refine wpAny_call (codeAny_mono (F.go X.A X.stack s H ⟨us, []⟩ (us ++ ds) (vs ++ dvs) Q (E σ) hr gd I.env0 (hb s us I.kIn len) rr h) fun res s' z => ?_)
  cases res with
  | error er => exact hx pins H s er s' I z
  | ok fl =>
    cases fl with
    | ret u => exact I.after z
    | next => exact z.elim
    | brk => exact z.elim
    | cont => exact z.elim
theorem pe_callG (F : FnG X.prog X.w X.K X.mg X.base Cx0 k f fd ps sp) (hr : Room k X.A) (gd : X.A.guards = some []) (hg : Gl X x) (hm : X.mg x = some (.ref f)) (hk : PySem.W.keepIn X.K (.ref f) = true) (hb : Binds X.K fd ps ds) (hd : Vals dvs ds) (hx : ∀ σ, PassesAt Cx0 X σ (E σ))
    (ha : PA X (e :: es) t) (hdb : (x == ("__debug__" : Str)) = false := by decide) (he : starEach (e :: es) X.env = (false, eval e X.env) :: starEach es X.env := by rfl) (hpl : (backTo pos (starEach es X.env)).any (·.1) = false := by rfl) :
    PE X (.Call (.Name x p) (e :: es) [] pos) (tCallSD sp dvs E t) := by
  refine ⟨fun pins s σ H Q I h => ?_⟩
  refine wpAny_Call_Name_kw (ld_glob I hg hm ?_ hdb)
  refine PySem.W.callWith_K (h₀ := X.base) I.ok.mod.kin hk (thn (ha.run pos pins s σ H _ I h) fun us s1 ⟨vs, H1, I1, rv, z⟩ => ⟨I1.kIn, ?_⟩) he hpl
  exact run_fnG F hr gd hb hd (hx σ) I1 rv z
end
/-! ### the law's call -/
theorem law_core {P : Program} {w : World} {K : PySem.W.Frag} {mg mb : Str → Option Value} {Cx0 : CXT} {k : Nat} {fa a : Addr} {fd : FuncData} {x : Str} {sp : Sp} {t : Shared} {vs : List Value}
    (KX : K.In t.heap) (hns : t.heap.Ns mainGlobals mg) (hb : t.heap.Ns builtinsNs mb) (hbb : ∀ x : Str, x ≠ "__name__" → mb x = bootBuiltins x) (hlim : t.heap.NoLimit) (hg : t.gens = #[])
    (ha : t.heap.get? a = some { cls := .type "list", data := .seq vs.toArray }) (hr : Room k callerA)
    (F : ∀ base : Heap, K.In base → base.Ns mainGlobals mg → FnG P w K mg base Cx0 k fa fd [x] sp) (hbind : ∀ (s : Shared) (u : Value), BindsTo s fd ⟨[u], []⟩ [(x, u)])
    (hCX : ∀ H e s', Cx0 [] H t (fun _ _ _ => False) e s' → False) (H : Hp) (hO : Only H) (hsp : sp [.ref a] H (fun v _ => v = .bl true) fun _ _ _ => False) (hok : HOk P w H t.heap) (hA : ∀ b, H b ≠ none → b = a) (hK : H a ≠ none → K.lookup a = none) :
    codeAny (model P w) callerA (.call (.ref fa) ⟨[.ref a], []⟩) (fun r s' => r = .ok (.ret (.bool true)) ∧ OldK t.heap s'.heap ∧ s'.os = t.os ∧ AllBare s'.gens) t := by
  have free : ∀ {c : Addr}, c ≠ a → H c = none := fun {c} hc => by
    cases q : H c with
    | none => rfl
    | some u => exact absurd (hA c (by rw [q]; simp)) hc
  have noA : ∀ {c : Addr} {o : Obj} {es : Array DictEntry} {ep : Nat}, t.heap.get? c = some o → o.data = .dict es ep → H c = none := fun {c o es ep} e d => free fun z => by
    subst z
    rw [ha] at e
    cases e
    cases (show Data.seq vs.toArray _ = Data.dict es ep from d)
  have nsK : ∀ {c : Addr} {g : Str → Option Value}, t.heap.Ns c g → (hidT t.heap H).Ns c g := fun {c g} ⟨o, es, ep, e, d, r⟩ => ⟨o, es, ep, hidT_get e (noA e d), d, r⟩
  have kin : K.In (hidT t.heap H) := fun c o e => hidT_get (KX c o e) (by
    by_cases hc : c = a
    · subst hc
      cases q : H c with
      | none => rfl
      | some u =>
        rw [hK (by rw [q]; simp)] at e
        cases e
    · exact free hc)
  have md : Mod K mg (hidT t.heap H) := ⟨kin, nsK hns, ⟨mb, nsK hb, hbb⟩, let ⟨mc, h1, h2⟩ := hlim; ⟨mc, nsK h1, h2⟩⟩
  have e0 : Env0 P w K mg (hidT t.heap H) callerA [] t H := ⟨rfl, md, fun c o e => of_hidT e, Nat.le_of_eq (hidT_size _ _), trivial, fun c hc => absurd (show c ∈ ([] : List Addr) from hc) (by simp), hok, .of_eq hg⟩
  refine codeAny_mono ((F _ kin (nsK hns)).go callerA [] t H ⟨[.ref a], []⟩ [.ref a] [.ref a] _ _ hr rfl e0 (hbind t (.ref a)) (.cons rfl .nil) hsp) fun res s' h => ?_
  cases res with
  | error e => exact (hCX H e s' h).elim
  | ok fl =>
    cases fl with
    | next => exact h.elim
    | brk => exact h.elim
    | cont => exact h.elim
    | ret u =>
      obtain ⟨v, H', os, bare, un, hok', r', q⟩ := h
      cases (show v = .bl true from q)
      cases (show u = Value.bool true from r')
      refine ⟨rfl, OldK.of_keep fun c o e => ?_, os, bare⟩
      cases q : H c with
      | none => exact un.keep c o e q (fun z => absurd (show c ∈ ([] : List Addr) from z) (by simp)) (by simp)
      | some u =>
        rcases hO c with z | ⟨ob, xs, z⟩
        · rw [q] at z; cases z
        · obtain ⟨e1, _⟩ := hok c _ z
          obtain ⟨e2, _⟩ := hok' c _ (un.frzs c ob _ z)
          rw [e] at e1
          cases e1
          exact e2
theorem law_callG {P : Program} {w : World} {K : PySem.W.Frag} {mg mb : Str → Option Value} {Cx0 : CXT} {k : Nat} {fa a : Addr} {fd : FuncData} {x : Str} {sp : Sp} {t : Shared} {vs : List Value} {ns : List Int}
    (KX : K.In t.heap) (hns : t.heap.Ns mainGlobals mg) (hb : t.heap.Ns builtinsNs mb) (hbb : ∀ x : Str, x ≠ "__name__" → mb x = bootBuiltins x) (hlim : t.heap.NoLimit) (hg : t.gens = #[])
    (ha : t.heap.get? a = some { cls := .type "list", data := .seq vs.toArray }) (hi : IntsAre vs ns) (hl : ns.length ≤ sizeLine) (hr : Room k callerA)
    (F : ∀ base : Heap, K.In base → base.Ns mainGlobals mg → FnG P w K mg base Cx0 k fa fd [x] sp) (hbind : ∀ (s : Shared) (u : Value), BindsTo s fd ⟨[u], []⟩ [(x, u)])
    (hsp : ∀ H : Hp, Only H → SqL K H a (ns.map V.int) → sp [.ref a] H (fun v _ => v = .bl true) fun _ _ _ => False) (hCX : ∀ H e s', Cx0 [] H t (fun _ _ _ => False) e s' → False) :
    codeAny (model P w) callerA (.call (.ref fa) ⟨[.ref a], []⟩) (fun r s' => r = .ok (.ret (.bool true)) ∧ OldK t.heap s'.heap ∧ s'.os = t.os ∧ AllBare s'.gens) t := by
  have rv := vals_ints hi
  have lenV := hi.length
  cases hk : K.lookup a with
  | some o =>
    have e := KX a o hk
    rw [ha] at e
    cases e
    have sq : SqL K (fun _ => none) a (ns.map V.int) := .inr ⟨_, vs.toArray, _, hk, rfl, rfl, rfl, by rw [List.size_toArray, lenV]; exact hl, by simpa using rv⟩
    exact law_core KX hns hb hbb hlim hg ha hr F hbind hCX (fun _ => none) (fun _ => .inl rfl) (hsp _ (fun _ => .inl rfl) sq) (fun c u z => by cases (show (none : Option HO) = some u from z)) (fun c z => absurd rfl z) fun z => absurd rfl z
  | none =>
    let Hs : Hp := fun c => if c = a then some (.frz { cls := .type "list", data := .seq vs.toArray } (.lst (ns.map V.int))) else none
    have only : Only Hs := fun c => by
      by_cases hc : c = a
      · exact .inr ⟨_, _, if_pos hc⟩
      · exact .inl (if_neg hc)
    have sq : SqL K Hs a (ns.map V.int) := .inl (.inr ⟨{ cls := .type "list", data := .seq vs.toArray }, if_pos rfl⟩)
    refine law_core KX hns hb hbb hlim hg ha hr F hbind hCX Hs only (hsp _ only sq) (fun c u z => ?_) (fun c z => ?_) fun _ => hk
    · by_cases hc : c = a
      · have y := (if_pos hc).symm.trans z
        cases y
        subst hc
        exact ⟨ha, by rw [List.length_map]; exact hl, vs, _, rv, ha⟩
      · have y := (if_neg hc).symm.trans z
        cases y
    · by_cases hc : c = a
      · exact hc
      · exact absurd (if_neg hc) z
end MP

/-! MP: calls, methods, instances, functions by levels. Own work. -/
namespace MP
open PySem PySem.Spec PyProof.Rows L2

/-- a function's promise -/
abbrev spM (G : Gx) (f : List D → M D) (n : Nat) : Sp := fun vs H Q E => vs.length = n ∧ ∃ m S as, Sim G m S H ∧ RepVs G m H vs as ∧ post G (fun c d _ H => E c d H) (RepV G) [] m H Q (f as S)
/-- a function that may be called: dd fill up what is not written -/
structure Cal (G : Gx) (P : Program) (w : World) (K : PySem.W.Frag) (mg : Str → Option Value) (base : Heap) (C : Cfg) (k : Nat) (f : Addr) (i : Nat) (dd : List D) : Prop where
  ex : ∃ (fd : FuncData) (ps : List Str) (ds : List Value) (dvs : List V), FnG P w K mg base (L2.CX P w) k f fd ps (spM G (C.call i) ps.length) ∧ Binds K fd ps ds ∧ Vals dvs ds ∧
    (∀ m H, RepVs G m H dvs dd) ∧ PySem.W.keepIn K (.ref f) = true ∧ ∀ as S, as.length ≠ ps.length → C.call i as S = .bad

section
variable {G : Gx} {X : Cx} {W : WX} {C : Cfg} {k : Nat} {f : Addr} {i : Nat} {dd : List D} {pos p apos : Pos} {x m : Str} {e o : Expr} {es : List Expr} {a : MA} {eo : ME}
theorem post_w {σ mm H} {Q : VK} {r : R D} (h : post G W (RepV G) σ mm H Q r) : post G (fun c d _ H => WE W σ c d H) (RepV G) [] mm H Q r := by
  cases r with
  | ok a S' => exact h
  | ex c fs S' => exact h
  | bad => exact h
/-- the callee's promise, at the arguments -/
theorem sp_of {fd : FuncData} {ps : List Str} {ds : List Value} {dvs vs : List V} {σ H mm} {S : Store} {as : List D} {Q : VK} (hn : ∀ as S, as.length ≠ ps.length → C.call i as S = .bad) (rd : ∀ m H, RepVs G m H dvs dd) (s : Sim G mm S H) (r : RepVs G mm H vs as)
    (p : post G W (RepV G) σ mm H Q (C.call i (as ++ dd) S)) : spM G (C.call i) ps.length (vs ++ dvs) H Q (WE W σ) := by
  have rr : RepVs G mm H (vs ++ dvs) (as ++ dd) := r.append (rd mm H)
  refine ⟨?_, mm, S, as ++ dd, s, rr, post_w p⟩
  rw [rr.length]
  by_cases h : (as ++ dd).length = ps.length
  · exact h
  · rw [hn _ S h] at p
    exact p.elim
theorem call_fin {fd : FuncData} {ps : List Str} {ds : List Value} {dvs : List V} {σ H} {Q : VK} (hn : ∀ as S, as.length ≠ ps.length → C.call i as S = .bad) (rd : ∀ m H, RepVs G m H dvs dd)
    (h : tE G W C (eCall i a dd) σ H Q) : tA G W C a σ H fun vs H1 => spM G (C.call i) ps.length (vs ++ dvs) H1 Q (WE W σ) := by
  have h1 := tX.bind (Ra := RepVs G) (k := fun C _ xs => C.call i (xs ++ dd)) h
  refine tX.imp h1 fun vs H1 z => ?_
  obtain ⟨mm, S, ls, as, s, r, ra, q⟩ := z
  exact sp_of (fd := fd) (ds := ds) hn rd s ra q
theorem r_call (c : Ctx G X W) (q : Cal G X.prog X.w X.K X.mg X.base C k f i dd) (hr : Room k X.A) (hg : Gl X x) (hm : X.mg x = some (.ref f)) (ha : PA X (e :: es) (tA G W C a))
    (hdb : (x == ("__debug__" : Str)) = false := by decide) (he : starEach (e :: es) X.env = (false, eval e X.env) :: starEach es X.env := by rfl) (hpl : (backTo pos (starEach es X.env)).any (·.1) = false := by rfl) :
    PE X (.Call (.Name x p) (e :: es) [] pos) (tE G W C (eCall i a dd)) := by
  obtain ⟨fd, ps, ds, dvs, F, hb, hd, rd, hk, hn⟩ := q.ex
  exact PE.weak (pe_callG F hr c.gd hg hm hk hb hd (passAt c.tk) ha hdb he hpl) fun σ H Q h => call_fin (fd := fd) (ds := ds) hn rd h
/-- f() -/
theorem r_call0 (c : Ctx G X W) (q : Cal G X.prog X.w X.K X.mg X.base C k f i dd) (hr : Room k X.A) (hg : Gl X x) (hm : X.mg x = some (.ref f)) (hdb : (x == ("__debug__" : Str)) = false := by decide) :
    PE X (.Call (.Name x p) [] [] pos) (tE G W C (eCall i aNil dd)) := by
  obtain ⟨fd, ps, ds, dvs, F, hb, hd, rd, hk, hn⟩ := q.ex
  refine ⟨fun pins s σ H Q I h => ?_⟩
  have z := call_fin (fd := fd) (ds := ds) hn rd h
  obtain ⟨mm, S, ls, s1, r1, p1⟩ := z
  have sp1 := p1 mm H [] Ext.refl s1 .nil
  refine wpAny_Call_Name_kw (ld_glob I hg hm ?_ hdb)
  exact PySem.W.callWith_K0 I.kIn hk (run_fnG (us := []) F hr c.gd hb hd (passAt c.tk σ) I .nil sp1)

/-- a class's method -/
structure MtC (G : Gx) (P : Program) (w : World) (K : PySem.W.Frag) (mg : Str → Option Value) (base : Heap) (C : Cfg) (k : Nat) (m : Str) (c i : Nat) (dd : List D) : Prop where
  cls : Cls K (G.ne.cls c)
  ex : ∃ g, Meth K (G.ne.cls c) m g ∧ Cal G P w K mg base C k g i dd
theorem find_mem {tbl : List (Nat × Nat)} {c i : Nat} (h : (tbl.find? fun p => p.1 == c).map (·.2) = some i) : (c, i) ∈ tbl := by
  obtain ⟨⟨c', i'⟩, h1, h2⟩ := Option.map_eq_some_iff.mp h
  have h3 := List.find?_some h1
  have h4 : c' = c := by simpa using h3
  subst h4
  cases h2
  exact List.mem_of_find?_eq_some h1
theorem lookup_no {m : List Addr} {H : Hp} {n : Str} (hno : ∀ f, G.ne.fld f ≠ n) : ∀ {fv : List (Str × V)} {fs : Fs}, RepF G m H fv fs → fv.lookup n = none
  | _, _, .nil => rfl
  | _, _, .cons (f := f) h hs => by
    have e : (n == G.ne.fld f) = false := beq_eq_false_iff_ne.mpr fun z => hno f z.symm
    simp only [List.lookup, e]
    exact lookup_no hno hs
theorem meth_fin {tbl : List (Nat × Nat)} {a : MA} {σ H} {Q : VK} (h : tE G W C (eMeth tbl eo a dd) σ H Q) :
    tE G W C eo σ H fun x H1 => ∃ mm S ls n c fs j p, Sim G mm S H1 ∧ SlotR G mm H1 ls σ ∧ S.get n = some (.ins c fs) ∧ (c, j) ∈ tbl ∧ x = .ref p ∧ mm[n]? = some p ∧ post G W (RepV G) σ mm H1 Q (((a C ls).bind fun xs => C.call j (.ref n :: (xs ++ dd))) S) := by
  have h1 := tX.bind (Ra := RepV G) (k := fun C σ x S => match methOf S tbl x with
    | some f => ((a C σ).bind fun xs => C.call f (x :: (xs ++ dd))) S
    | none => .bad) h
  refine tX.imp h1 fun x H1 z => ?_
  obtain ⟨mm, S, ls, d, s, r, rd, p⟩ := z
  simp only at p
  cases e : methOf S tbl d with
  | none => rw [e] at p; exact p.elim
  | some j =>
    rw [e] at p
    unfold methOf at e
    split at e
    · rename_i n
      split at e
      · rename_i c fs hg
        obtain ⟨q, rfl, hq⟩ := rd.ref_
        exact ⟨mm, S, ls, n, c, fs, j, q, s, r, hg, find_mem e, rfl, hq, p⟩
      · cases e
    · cases e
theorem r_meth {pl : Sem Bool} {tbl : List (Nat × Nat)} (c : Ctx G X W) (hno : ∀ f, G.ne.fld f ≠ m) (ht : ∀ p ∈ tbl, MtC G X.prog X.w X.K X.mg X.base C k m p.1 p.2 dd) (hr : Room k X.A) (he : PE X o (tE G W C eo)) (ha : PA X (e :: es) (tA G W C a))
    (hst : starEach (e :: es) X.env = (false, eval e X.env) :: starEach es X.env := by rfl) (hpl : (backTo pos (starEach es X.env)).any (·.1) = false := by rfl)
    (hsh : eval (.Call (.Attribute o m apos) (e :: es) [] pos) X.env = (do
      let ov ← eval o X.env
      standAt apos.atName
      let (g, first) ← holding [ov] (getMethod ov m pl)
      callWith pos g first (backTo pos (starEach (e :: es) X.env)) (backToKw pos (keywordEach [] X.env))) := by rfl) :
    PE X (.Call (.Attribute o m apos) (e :: es) [] pos) (tE G W C (eMeth tbl eo a dd)) := by
  refine ⟨fun pins s σ H Q I h => ?_⟩
  refine PySem.W.methodCall_KW (pl := pl) (thn (he.run pins s σ H _ I (meth_fin h)) fun u s1 ⟨x, H1, I1, rx, mm, S, ls, n, cc, fs, j, q, sim, r, hg, hin, ex, hq, p⟩ => ?_) hsh
  subst ex
  obtain rfl : u = Value.ref q := rx
  obtain ⟨q', dx, fv, e1, e2, rf⟩ := sim.ins hg
  rw [hq] at e1
  cases e1
  have mt := ht _ hin
  obtain ⟨g, hmeth, cal⟩ := mt.ex
  obtain ⟨fd, ps, ds, dvs, F, hb, hd, rd, hk, hn⟩ := cal.ex
  refine getmeth_ok I1 e2 mt.cls hmeth (lookup_no hno rf) ?_
  have z : tE G W C (fun C σ => (a C σ).bind fun xs => C.call j (.ref n :: (xs ++ dd))) σ H1 Q := ⟨mm, S, ls, sim, r, p⟩
  have z1 := tX.bind (Ra := RepVs G) (k := fun C _ xs => C.call j (.ref n :: (xs ++ dd))) z
  -- the receiver stays where it is
  have z2 : tA G W C a σ H1 fun vs H2 => spM G (C.call j) ps.length ((.ref q :: vs) ++ dvs) H2 Q (WE W σ) := by
    obtain ⟨m3, S3, ls3, s3, r3, p3⟩ := (⟨mm, S, ls, sim, r, rfl, rfl, (show post G W (RepVs G) σ mm H1 (fun vs H2 => ∃ m2 S2 as, Ext G mm H1 m2 H2 ∧ Sim G m2 S2 H2 ∧ RepVs G m2 H2 vs as ∧ post G W (RepV G) σ m2 H2 Q (C.call j (.ref n :: (as ++ dd)) S2)) (a C ls S) from by
      unfold M.bind at p
      cases w : a C ls S with
      | bad => simp only [w] at p; exact p
      | ex c fs S' => simp only [w] at p; exact p
      | ok as S' =>
        simp only [w] at p
        exact fun m' H' b x s' rb => ⟨m', S', as, x, s', rb, post.ext x p⟩)⟩ : ∃ m3 S3 ls3, Sim G m3 S3 H1 ∧ SlotR G m3 H1 ls3 σ ∧ m3 = mm ∧ S3 = S ∧ post G W (RepVs G) σ m3 H1 _ (a C ls3 S3)) |> fun ⟨m3, S3, ls3, s3, r3, e1, e2, p3⟩ => (⟨m3, S3, ls3, s3, r3, e1, e2, p3⟩ : ∃ m3 S3 ls3, Sim G m3 S3 H1 ∧ SlotR G m3 H1 ls3 σ ∧ m3 = mm ∧ S3 = S ∧ post G W (RepVs G) σ m3 H1 _ (a C ls3 S3))
    obtain ⟨rfl, rfl, p3⟩ := p3
    refine ⟨_, _, ls3, s3, r3, post.imp p3 fun vs H2 ⟨m2, S2, as, x, s2, ra, p2⟩ => ?_⟩
    exact sp_of (fd := fd) (ds := ds) (as := .ref n :: as) hn rd s2 (.cons (.ref (x.pre _ _ hq)) ra) p2
  refine PySem.W.callWith_K (first := [.ref q]) (h₀ := X.base) I1.ok.mod.kin hmeth.kp (thn (ha.run pos pins s1 σ H1 _ I1 z2) fun us s2 ⟨vs, H2, I2, rv, q2⟩ => ⟨I2.kIn, ?_⟩) hst hpl
  exact run_fnG (us := .ref q :: us) (vs := .ref q :: vs) F hr c.gd hb hd (passAt c.tk σ) I2 (.cons rfl rv) q2
/-- o.m() -/
theorem r_meth0 {pl : Sem Bool} {tbl : List (Nat × Nat)} (c : Ctx G X W) (hno : ∀ f, G.ne.fld f ≠ m) (ht : ∀ p ∈ tbl, MtC G X.prog X.w X.K X.mg X.base C k m p.1 p.2 dd) (hr : Room k X.A) (he : PE X o (tE G W C eo))
    (hsh : eval (.Call (.Attribute o m apos) [] [] pos) X.env = (do
      let ov ← eval o X.env
      standAt apos.atName
      let (g, first) ← holding [ov] (getMethod ov m pl)
      callWith pos g first (backTo pos (starEach [] X.env)) (backToKw pos (keywordEach [] X.env))) := by rfl) :
    PE X (.Call (.Attribute o m apos) [] [] pos) (tE G W C (eMeth tbl eo aNil dd)) := by
  refine ⟨fun pins s σ H Q I h => ?_⟩
  refine PySem.W.methodCall_KW (pl := pl) (thn (he.run pins s σ H _ I (meth_fin h)) fun u s1 ⟨x, H1, I1, rx, mm, S, ls, n, cc, fs, j, q, sim, r, hg, hin, ex, hq, p⟩ => ?_) hsh
  subst ex
  obtain rfl : u = Value.ref q := rx
  obtain ⟨q', dx, fv, e1, e2, rf⟩ := sim.ins hg
  rw [hq] at e1
  cases e1
  have mt := ht _ hin
  obtain ⟨g, hmeth, cal⟩ := mt.ex
  obtain ⟨fd, ps, ds, dvs, F, hb, hd, rd, hk, hn⟩ := cal.ex
  refine getmeth_ok I1 e2 mt.cls hmeth (lookup_no hno rf) ?_
  have q2 : spM G (C.call j) ps.length ([.ref q] ++ dvs) H1 Q (WE W σ) := sp_of (fd := fd) (ds := ds) (as := [.ref n]) hn rd sim (.cons (.ref hq) .nil) p
  exact PySem.W.callWith_K0 (first := [.ref q]) I1.kIn hmeth.kp (run_fnG (us := [.ref q]) (vs := [.ref q]) F hr c.gd hb hd (passAt c.tk σ) I1 (.cons rfl .nil) q2)
end
end MP

/-! MP: instances, fields, functions by levels, the law's end. Own work. -/
namespace MP
open PySem PySem.Spec PyProof.Rows L2

section
variable {G : Gx} {X : Cx} {W : WX} {C : Cfg} {k : Nat} {f : Addr} {i : Nat} {dd : List D} {pos p apos : Pos} {x : Str} {e o : Expr} {es : List Expr} {a : MA} {eo ev : ME}
/-! ### fields -/
structure FldC (G : Gx) (K : PySem.W.Frag) (c f : Nat) : Prop where
  cls : Cls K (G.ne.cls c)
  no : NoAttr K (G.ne.cls c) (G.ne.fld f)
theorem fld_fin {cs : List Nat} {f : Nat} {x : V} {H : Hp} {Q : VK} (hc : ∀ c ∈ cs, FldC G X.K c f) (h : rP1 G (RepV G) (opFld cs f) x H Q) :
    ∃ a C dx fs v, x = .ref a ∧ H a = some (.ins C dx fs) ∧ Cls X.K C ∧ NoAttr X.K C (G.ne.fld f) ∧ fs.lookup (G.ne.fld f) = some v ∧ Q v H := by
  obtain ⟨m, S, d, s, r, p⟩ := h
  unfold opFld at p
  split at p
  · rename_i n
    split at p
    · rename_i c fs hg
      split at p
      · rename_i hin
        have q := hc c (by simpa using hin)
        split at p
        · rename_i d hd
          obtain ⟨pa, rfl, hp⟩ := r.ref_
          obtain ⟨pa', dx, fv, e1, e2, rf⟩ := s.ins hg
          rw [hp] at e1
          cases e1
          obtain ⟨v, h1, h2⟩ := rf.lookup hd
          exact ⟨pa, _, dx, fv, v, rfl, e2, q.cls, q.no, h1, fin_val s h2 p⟩
        · exact p.elim
      · exact p.elim
    · exact p.elim
  · exact p.elim
theorem r_fld {cs : List Nat} {f : Nat} {n : Str} (hc : ∀ c ∈ cs, FldC G X.K c f) (hn : G.ne.fld f = n) (he : PE X o (tE G W C eo)) (hb : attributeBase o n X.env (eval o X.env) = eval o X.env := by rfl) : PE X (.Attribute o n apos) (tE G W C (eFld cs f eo)) := by
  subst hn
  exact PE.weak (pe_fld he hb) fun σ H Q h => tX.imp (w1 (Rp := RepV G) (f := opFld cs f) h) fun x H1 z => fld_fin hc z
/-- what a field's store asks -/
theorem put_fin {α : Type} {cs : List Nat} {f : Nat} {m S H} {x y : V} {dx dy : D} {ls : Slots} {σ : L2.St} {k : Unit → Store → SR} {D : Ends} (hc : ∀ c ∈ cs, FldC G X.K c f) (s : Sim G m S H) (r : SlotR G m H ls σ) (rx : RepV G m H x dx) (ry : RepV G m H y dy)
    (h : postS G W m H D (lift (M.of (putFld cs f dx dy)) ls S fun _ S3 => .nx ls S3)) :
    ∃ a C d fs, x = .ref a ∧ H a = some (.ins C d fs) ∧ Cls X.K C ∧ NoAttr X.K C (G.ne.fld f) ∧ fs.length < 1000 ∧ D.nx σ (upd H a (.ins C d (putF (G.ne.fld f) y fs))) := by
  unfold lift M.of putFld at h
  cases dx with
  | ref n =>
    simp only at h
    cases q : S.get n with
    | none => rw [q] at h; exact h.elim
    | some ob =>
      rw [q] at h
      cases ob with
      | ins c fs =>
        simp only at h
        by_cases hz3 : (cs.contains c && decide (fs.length < 900)) = true
        · rw [if_pos hz3] at h
          simp only at h
          rw [Bool.and_eq_true] at hz3
          have hq := hc c (by simpa using hz3.1)
          have hl : fs.length < 900 := of_decide_eq_true hz3.2
          obtain ⟨pa, rfl, hp⟩ := rx.ref_
          obtain ⟨pa', d, fv, e1, e2, rf⟩ := s.ins q
          rw [hp] at e1
          cases e1
          refine ⟨pa, _, d, fv, rfl, e2, hq.cls, hq.no, by rw [rf.length]; omega, ?_⟩
          have mu : Mut1 (H pa) := by rw [e2]; trivial
          have ex : Ext G m H m (upd H pa (.ins (G.ne.cls c) d (putF (G.ne.fld f) y fv))) := Ext.mut mu
          exact h m _ σ ex (sim_set s q rfl rfl hp mu (.ins upd_same ((rf.mono ex).put (ry.mono ex)))) (r.mono ex)
        · rw [if_neg hz3] at h
          exact h.elim
      | lst xs => exact h.elim
      | rol xs => exact h.elim
      | dct kvs => exact h.elim
      | dtu kvs => exact h.elim
      | fdt kvs => exact h.elim
      | fdk kvs => exact h.elim
  | _ => exact h.elim
theorem s_fld {cs : List Nat} {f : Nat} {n : Str} {value : Expr} {p' : Pos} (hc : ∀ c ∈ cs, FldC G X.K c f) (hn : G.ne.fld f = n) (ho : PE X o (tE G W C eo)) (hv : PE X value (tE G W C ev)) (hs : swapsWith value (some (.Attribute o n p')) pos.line X.env = pure false := by rfl) :
    PS X (.Assign [.Attribute o n p'] value pos) (tS G W C (MP.sFld cs f eo ev)) := by
  subst hn
  refine PS.weak (ps_fld ho hv hs) fun D σ H ⟨m, S, ls, s, r, p⟩ => ?_
  refine ⟨m, S, ls, s, r, post.imp (lift_post (Ra := RepV G) r p) fun y H1 ⟨m1, S1, dy, x1, s1, r1, ry, p1⟩ => ?_⟩
  refine ⟨m1, S1, ls, s1, r1, post.imp (lift_post (Ra := RepV G) r1 p1) fun x H2 ⟨m2, S2, dx, x2, s2, r2, rx, p2⟩ => ?_⟩
  exact put_fin (α := Unit) (k := fun _ S3 => .nx ls S3) hc s2 r2 rx (ry.mono x2) p2

/-! ### C(..) -/
/-- a class that may be made -/
structure MkC (G : Gx) (P : Program) (w : World) (K : PySem.W.Frag) (mg : Str → Option Value) (base : Heap) (C : Cfg) (k : Nat) (c i : Nat) (dd : List D) : Prop where
  ex : ∃ g, Mk K (G.ne.cls c) g ∧ Cal G P w K mg base C k g i dd
theorem new_ins {m : List Addr} {H : Hp} {S : Store} {c : Nat} {x dx : Addr} (s : Sim G m S H) (hx : H x = none) (hd : H dx = none) (ne : dx ≠ x) :
    Ext G m H (m ++ [x]) (upd (upd H dx (.own x)) x (.ins (G.ne.cls c) dx [])) ∧ Sim G (m ++ [x]) (S.push (.ins c [])) (upd (upd H dx (.own x)) x (.ins (G.ne.cls c) dx [])) := by
  have hx' : upd H dx (.own x) x = none := by rw [upd_ne (Ne.symm ne)]; exact hx
  exact ⟨(Ext.new hd).trans (ext_push hx'), sim_new (sim_same s hd) hx' (.ins upd_same .nil)⟩
theorem make_guards (A : Around) (c : Addr) (us : List Value) : (A.under (.builtin "type.__call__" ⟨.ref c :: us, []⟩)).guards = A.guards := by
  first | rfl | simp [Around.under, Code.guards, Code.isGuard, pushGuards, guardIds]
theorem run_makeSD {pins : List (Addr × Obj)} {σ : L2.St} {H : Hp} {s : Shared} {Q : VK} {us : List Value} {vs : List V} {c g : Nat → Addr} {cc : Nat} {gI : Addr} {fd : FuncData} {ps : List Str} {sp : Sp} {ds : List Value} {dvs : List V} (M : Mk X.K (G.ne.cls cc) gI) (F : FnG X.prog X.w X.K X.mg X.base (L2.CX X.prog X.w) k gI fd ps sp) (hr : Room (k + 1) X.A) (gd : X.A.guards = some []) (hb : Binds X.K fd ps ds) (hd : Vals dvs ds)
    (hx : ∀ σ, PassesAt (L2.CX X.prog X.w) X σ (WE W σ)) (I : Inv X pins σ H s) (r : Vals vs us)
    (h : ∀ x dx, H x = none → H dx = none → dx ≠ x → sp (.ref x :: (vs ++ dvs)) (upd (upd H dx (.own x)) x (.ins (G.ne.cls cc) dx [])) (fun v H2 => v = .non ∧ Q (.ref x) H2) (WE W σ)) :
    wpAny (model X.prog X.w) X.A (call (.ref (G.ne.cls cc)) us) (EP X pins σ Q) X.xe s := by
  have hq := h (s.heap.objs.size + 1) s.heap.objs.size (I.hok.fresh (Nat.le_succ _)) (I.hok.fresh (Nat.le_refl _)) (Nat.ne_of_lt (Nat.lt_succ_self _))
  have I2 := Inv.made (C := G.ne.cls cc) I
  have rr : Vals (V.ref (s.heap.objs.size + 1) :: (vs ++ dvs)) (Value.ref (s.heap.objs.size + 1) :: (us ++ ds)) := .cons rfl (r.append hd)
  have len : (Value.ref (s.heap.objs.size + 1) :: us ++ ds).length = ps.length := by
    have z := rr.length
    rw [F.len _ _ _ _ hq] at z
    exact z.symm
  refine wpAny_call (make_map (f := gI) I.kIn M.makes M.init (beq_iff_eq.mp M.fn) (codeAny_mono (F.go _ X.stack _ _ ⟨Value.ref (s.heap.objs.size + 1) :: us, []⟩ (Value.ref (s.heap.objs.size + 1) :: (us ++ ds)) _ _ (WE W σ) (hr.make (G.ne.cls cc) us []) ((make_guards _ _ _).trans gd)
    (I2.env0.make (G.ne.cls cc) us []) (hb _ (Value.ref (s.heap.objs.size + 1) :: us) I2.kIn len) rr hq) fun res s' z => ?_))
  cases res with
  | error er => exact hx σ pins _ _ er s' I2 z
  | ok fl =>
    cases fl with
    | ret u =>
      obtain ⟨v, H', I3, rv, ev, q3⟩ := I2.after z
      subst ev
      exact ⟨rv, ⟨V.ref (s.heap.objs.size + 1), H', I3, rfl, q3⟩⟩
    | next => exact z.elim
    | brk => exact z.elim
    | cont => exact z.elim
/-- what the making asks -/
theorem new_fin {cc : Nat} {fd : FuncData} {ps : List Str} {ds : List Value} {dvs : List V} {σ H} {Q : VK} (hn : ∀ as S, as.length ≠ ps.length → C.call i as S = .bad) (rd : ∀ m H, RepVs G m H dvs dd)
    (h : tE G W C (eNew cc i a dd) σ H Q) : tA G W C a σ H fun vs H1 => ∀ x dx, H1 x = none → H1 dx = none → dx ≠ x →
      spM G (C.call i) ps.length (.ref x :: (vs ++ dvs)) (upd (upd H1 dx (.own x)) x (.ins (G.ne.cls cc) dx [])) (fun v H2 => v = .non ∧ Q (.ref x) H2) (WE W σ) := by
  have h1 := tX.bind (Ra := RepVs G) (k := fun C _ xs S => match C.call i (.ref S.size :: (xs ++ dd)) (S.push (.ins cc [])) with
    | .ok .non S' => R.ok (D.ref S.size) S'
    | .ok _ _ => .bad
    | .ex c fs S' => .ex c fs S'
    | .bad => .bad) h
  refine tX.imp h1 fun vs H1 z x dx hx hd ne => ?_
  obtain ⟨mm, S, ls, as, s, r, ra, p⟩ := z
  obtain ⟨ex, s'⟩ := new_ins (c := cc) s hx hd ne
  have rs : RepV G (mm ++ [x]) (upd (upd H1 dx (.own x)) x (.ins (G.ne.cls cc) dx [])) (.ref x) (.ref S.size) := ref_new s
  refine sp_of (fd := fd) (ds := ds) (as := .ref S.size :: as) (vs := .ref x :: vs) hn rd s' (.cons rs (ra.mono ex)) ?_
  simp only at p
  show post G W (RepV G) σ _ _ _ (C.call i (.ref S.size :: (as ++ dd)) (S.push (.ins cc [])))
  cases w : C.call i (.ref S.size :: (as ++ dd)) (S.push (.ins cc [])) with
  | bad => rw [w] at p; exact p
  | ex c fs S' =>
    rw [w] at p
    exact fun m' H' d x' s2 rx => p m' H' d (ex.trans x') s2 rx
  | ok d S' =>
    rw [w] at p
    intro m' H' b x' s2 rb
    cases d with
    | non => exact ⟨rb.non_, p m' H' (.ref x) (ex.trans x') s2 (rs.mono x')⟩
    | _ => exact p.elim
theorem r_new {cc : Nat} (c : Ctx G X W) (q : MkC G X.prog X.w X.K X.mg X.base C k cc i dd) (hr : Room (k + 1) X.A) (hg : Gl X x) (hm : X.mg x = some (.ref (G.ne.cls cc))) (ha : PA X (e :: es) (tA G W C a))
    (hdb : (x == ("__debug__" : Str)) = false := by decide) (he : starEach (e :: es) X.env = (false, eval e X.env) :: starEach es X.env := by rfl) (hpl : (backTo pos (starEach es X.env)).any (·.1) = false := by rfl) :
    PE X (.Call (.Name x p) (e :: es) [] pos) (tE G W C (eNew cc i a dd)) := by
  obtain ⟨g, mk, cal⟩ := q.ex
  obtain ⟨fd, ps, ds, dvs, F, hb, hd, rd, hk, hn⟩ := cal.ex
  refine ⟨fun pins s σ H Q I h => ?_⟩
  refine wpAny_Call_Name_kw (ld_glob I hg hm ?_ hdb)
  refine PySem.W.callWith_K (h₀ := X.base) I.ok.mod.kin mk.kp (thn (ha.run pos pins s σ H _ I (new_fin (fd := fd) (ds := ds) hn rd h)) fun us s1 ⟨vs, H1, I1, rv, z⟩ => ⟨I1.kIn, ?_⟩) he hpl
  exact run_makeSD (c := fun _ => 0) (g := fun _ => 0) mk F hr c.gd hb hd (passAt c.tk) I1 rv z
theorem r_new0 {cc : Nat} (c : Ctx G X W) (q : MkC G X.prog X.w X.K X.mg X.base C k cc i dd) (hr : Room (k + 1) X.A) (hg : Gl X x) (hm : X.mg x = some (.ref (G.ne.cls cc))) (hdb : (x == ("__debug__" : Str)) = false := by decide) :
    PE X (.Call (.Name x p) [] [] pos) (tE G W C (eNew cc i aNil dd)) := by
  obtain ⟨g, mk, cal⟩ := q.ex
  obtain ⟨fd, ps, ds, dvs, F, hb, hd, rd, hk, hn⟩ := cal.ex
  refine ⟨fun pins s σ H Q I h => ?_⟩
  obtain ⟨mm, S, ls, s1, r1, p1⟩ := new_fin (fd := fd) (ds := ds) hn rd h
  refine wpAny_Call_Name_kw (ld_glob I hg hm ?_ hdb)
  exact PySem.W.callWith_K0 I.kIn mk.kp (run_makeSD (us := []) (c := fun _ => 0) (g := fun _ => 0) mk F hr c.gd hb hd (passAt c.tk) I .nil (p1 mm H [] Ext.refl s1 .nil))
end

/-! ### functions by levels -/
theorem start_rep {G : Gx} {m : List Addr} {H : Hp} {vs : List V} {as : List D} {N : List Str} {sl : Nat} (r : RepVs G m H vs as) (h : sl = N.length) : SlotR G m H (as.map some ++ List.replicate (sl - as.length) none) (start N vs) := by
  subst h
  unfold L2.start
  rw [r.length]
  refine ⟨by rw [List.length_append, List.length_append, List.length_map, List.length_map, r.length, List.length_replicate, List.length_replicate], fun i d e => ?_⟩
  by_cases hi : i < as.length
  · rw [List.getElem?_append_left (by rw [List.length_map]; exact hi), List.getElem?_map] at e
    obtain ⟨d', h1, h2⟩ := Option.map_eq_some_iff.mp e
    cases h2
    obtain ⟨v, h3, h4⟩ := r.get h1
    exact ⟨v, by rw [List.getElem?_append_left (by rw [List.length_map, r.length]; exact hi), List.getElem?_map, h3]; rfl, .val h4⟩
  · rw [List.getElem?_append_right (by rw [List.length_map]; omega), List.getElem?_replicate] at e
    split at e <;> cases e
/-- what is wanted of a body -/
theorem body_fin {G : Gx} {C : Cfg} {F : Fn} {N : List Str} {m : List Addr} {S : Store} {H : Hp} {vs : List V} {as : List D} {Q : VK} {E : XK} (hs : F.sl = N.length) (s : Sim G m S H) (r : RepVs G m H vs as) (p : post G (fun c d _ H => E c d H) (RepV G) [] m H Q (runFn F C as S)) :
    tS G (fun c d _ H => E c d H) C F.body { nx := fun _ H' => Q .non H', rt := Q } (start N vs) H := by
  refine ⟨m, S, enter F as, s, start_rep r hs, ?_⟩
  unfold runFn at p
  split at p
  · cases e : F.body C (enter F as) S with
    | nx ls' S' => rw [e] at p; exact fun m' H' σ' x s' _ => p m' H' .non x s' .non
    | rt d S' => rw [e] at p; exact p
    | bk ls' S' => rw [e] at p; exact p.elim
    | ct ls' S' => rw [e] at p; exact p.elim
    | ex c fs ls S' => rw [e] at p; exact fun m' H' d σ' x s' _ rx => p m' H' d x s' rx
    | bad => rw [e] at p; exact p
  · exact p.elim
/-- the context of a def's body -/
theorem ctx_of {G : Gx} {P : Program} {w : World} {K : PySem.W.Frag} {mg : Str → Option Value} {base : Heap} {N : List Str} {qual : Str} {scope : Scope} {f : Addr} {cdv : Value} {A : Around} {outer : List Env} {s : Shared} {H : Hp} {E : XK} {k : Nat}
    (hK : G.K = K) (nd : N.Nodup) (hr : Room k (A.deeper (envOfC qual scope s.heap.objs.size f cdv))) (hgd : A.guards = some []) (hW : G.ne.w = w) : Ctx G (cxOf (L2.CX P w) P w K mg base N qual scope f cdv A outer s H E) (fun c d _ H => E c d H) where
  hK := hK
  hN := nd
  tk := takes_of rfl rfl rfl rfl
  hp := passes_of rfl
  hu := hr.units
  gd := hgd
  hW := hW
  calm := rfl
/-- THE RULE: a def keeps its promise one level up -/
theorem fn_mp {G : Gx} {P : Program} {w : World} {K : PySem.W.Frag} {mg : Str → Option Value} {base : Heap} {x qual : Str} {params : Arguments} {body : List Stmt} {scope : Scope} {dvs : List V} {kws : List (Str × V)} {f : Addr} {fd : FuncData} {N ps : List Str} {n i : Nat} {tb : List Fn} {F : Fn}
    (D : FunD K x qual params body scope dvs kws f fd) (S : FnScope N ps scope) (hK : G.K = K) (hF : tb[i]? = some F) (hs : F.sl = N.length)
    (hbody : ∀ (cdv : Value) (A : Around) (outer : List Env) (s : Shared) (H : Hp) (E : XK), Room n (A.deeper (envOfC qual scope s.heap.objs.size f cdv)) → Ctx G (cxOf (L2.CX P w) P w K mg base N qual scope f cdv A outer s H E) (fun c d _ H => E c d H) →
      PSs (cxOf (L2.CX P w) P w K mg base N qual scope f cdv A outer s H E) body (tS G (fun c d _ H => E c d H) ⟨callN tb n⟩ F.body)) (hW : G.ne.w = w := by rfl) :
    FnG P w K mg base (L2.CX P w) (n + 1) f fd ps (spM G (callN tb (n + 1) i) ps.length) :=
  FnG.def_ D S (fun vs H Q E h => h.1) fun cdv A outer s H vs Q E hr hgd _ h => by
    obtain ⟨_, m, St, as, sim, r, p⟩ := h
    refine ⟨_, hbody cdv A outer s H E hr (ctx_of hK S.nd hr hgd hW), body_fin hs sim r ?_⟩
    have e : callN tb (n + 1) i as = runFn F ⟨callN tb n⟩ as := by
      show (match tb[i]? with
        | some F => runFn F ⟨callN tb n⟩ as
        | none => M.bad) = _
      rw [hF]
    rw [e] at p
    exact p
/-- at level 0 nothing is promised -/
theorem fn_mp0 {G : Gx} {P : Program} {w : World} {K : PySem.W.Frag} {mg : Str → Option Value} {base : Heap} {f : Addr} {fd : FuncData} {ps : List Str} {i : Nat} {tb : List Fn} : FnG P w K mg base (L2.CX P w) 0 f fd ps (spM G (callN tb 0 i) ps.length) :=
  ⟨fun vs H Q E h => h.1, fun A outer s H args us vs Q E hr _ e0 hb r h => by
    obtain ⟨_, m, S, as, _, _, p⟩ := h
    exact p.elim⟩
/-- arguments of another number -/
theorem call_bad {tb : List Fn} {n i : Nat} {l : Nat} (h : ∀ F, tb[i]? = some F → F.ar = l) : ∀ as S, as.length ≠ l → callN tb n i as S = .bad := fun as S hne => by
  cases n with
  | zero => rfl
  | succ n =>
    unfold callN
    cases e : tb[i]? with
    | none => rfl
    | some F =>
      show runFn F _ as S = _
      unfold runFn
      rw [if_neg (by rw [h F e]; exact hne)]

/-- a function that may be called, of all its arguments -/
theorem cal_of {G : Gx} {P : Program} {w : World} {K : PySem.W.Frag} {mg : Str → Option Value} {base : Heap} {x qual : Str} {params : Arguments} {body : List Stmt} {scope : Scope} {dvs : List V} {kws : List (Str × V)} {f : Addr} {fd : FuncData} {ps : List Str} {n i : Nat} {tb : List Fn}
    (D : FunD K x qual params body scope dvs kws f fd) (F : FnG P w K mg base (L2.CX P w) n f fd ps (spM G (callN tb n i) ps.length)) (hb : Binds K fd ps []) (hl : ∀ F, tb[i]? = some F → F.ar = ps.length) : Cal G P w K mg base ⟨callN tb n⟩ n f i [] :=
  ⟨fd, ps, [], [], F, hb, .nil, fun _ _ => .nil, D.kp, call_bad hl⟩

/-! ### the law -/
/-- the state at the law's entry -/
def store0 (ns : List Int) : Store := Store.empty.push (.rol (ns.map .int))
theorem reps_ints {G : Gx} {m H} : ∀ ns : List Int, RepVs G m H (ns.map V.int) (ns.map D.int)
  | [] => .nil
  | n :: ns => .cons (.int n) (reps_ints ns)
theorem sim0 {G : Gx} {H : Hp} {a : Addr} {ns : List Int} (hO : Only H) (hS : SqL G.K H a (ns.map V.int)) (ht : ∀ P ∈ G.ne.tabs, LamX.TabS H P (G.ne.tq P)) : Sim G [a] (store0 ns) H where
  tbs := ht
  len := rfl
  nd := fun i j p x y hx nx hy ny h1 h2 => by
    have k : ∀ {i : Nat} {x : Ob}, (store0 ns).get i = some x → i = 0 := fun {i x} h => by
      have := Store.get_lt h
      have e : (store0 ns).size = 1 := rfl
      omega
    rw [k hx, k hy]
  obj := fun n o h => by
    have hn : n = 0 := by
      have := Store.get_lt h
      have e : (store0 ns).size = 1 := rfl
      omega
    subst hn
    have e : (store0 ns).get 0 = some (.rol (ns.map .int)) := Store.get_push_same _ _
    rw [e] at h
    cases h
    refine ⟨a, rfl, .rol (vs := ns.map V.int) ?_ (reps_ints ns)⟩
    rcases hS with (hS | hS) | hS
    · rcases hO a with z | ⟨ob, xs, z⟩
      · rw [z] at hS; cases hS
      · rw [z] at hS; cases hS
    · exact .inl hS
    · exact .inr hS
/-- the law's end: F gives the written part, the function's object, its promise -/
theorem walk_mp {l : PySem.W.OpenLaw} {nm k i : Nat} {q : Program} {loose : List Str} {XP : (Str → Option Value) → Heap → Prop} {YP : World → Heap → Prop} {d : DefRec} {x : Str} {tb : List Fn}
    (hn : l.most = some nm) (hz : nm ≤ sizeLine) (hdf : d.params.defaults = []) (hr : Room k callerA)
    (F : ∀ (w : World) (mg : Str → Option Value) (fa : Addr) (h : Heap), YP w h → h.Ns mainGlobals mg → mg d.name = some (.ref fa) →
      ∃ (G : Gx) (fd : FuncData), G.K.In h ∧ G.ne.tabs = [] ∧ (∀ (s : Shared) (u : Value), BindsTo s fd ⟨[u], []⟩ [(x, u)]) ∧
        ∀ base : Heap, G.K.In base → base.Ns mainGlobals mg → FnG l.prog w G.K mg base (L2.CX l.prog w) k fa fd [x] (spM G (callN tb k i) 1))
    (hl : ∀ ns : List Int, ns.length ≤ nm → (∀ z ∈ ns, Builtin.Int.intBits z ≤ 1048576) → ∃ S', callN tb k i [.ref 0] (store0 ns) = .ok (.bl true) S') :
    PySem.W.WalkO q loose XP YP l.row.toRowW d [] (fun f vs => PySem.call f vs) := by
  refine Att.attach_callB hn hdf fun w s₀ s₁ mg mb fa o pm cd doc a us ns G Y ho hd hcd hmg hobj hints hlen hbits hg => ?_
  obtain ⟨Gm, fd, KX, ht, hb, hF⟩ := F w mg fa _ Y G.T.g hmg
  refine law_callG KX G.T.g G.T.b G.T.builtins G.T.nolimit hg hobj hints (Nat.le_trans hlen hz) hr hF hb (fun H hO hS => ⟨rfl, [a], store0 ns, [.ref 0], sim0 hO hS (fun P h => by rw [ht] at h; cases h), .cons (.ref rfl) .nil, ?_⟩) fun H e s' ⟨_, _, _, _, _, _, _, _, _, _, _, _, z⟩ => z
  obtain ⟨S', e⟩ := hl ns hlen hbits
  rw [e]
  exact fun m' H' b _ _ r => r.bl_
end MP

/-! MP: built-in functions, methods of built-ins, stores into lists, augmented operators. Own work. -/
namespace MP
open PySem PySem.Spec PyProof.Rows L2

/-- a method of a built-in, by values -/
def rMt (G : Gx) (f : D → List D → P D) : V → List V → Hp → VK → Prop := fun x xs H Q => ∃ m S d as, Sim G m S H ∧ RepV G m H x d ∧ RepVs G m H xs as ∧ postP G (RepV G) m H Q (f d as S)
section
variable {G : Gx} {m : List Addr} {H : Hp}
theorem RepVs.nil_ {vs} (h : RepVs G m H vs []) : vs = [] := by cases h; rfl
theorem RepVs.cons_ {vs d ds} (h : RepVs G m H vs (d :: ds)) : ∃ v w, vs = v :: w ∧ RepV G m H v d ∧ RepVs G m H w ds := by
  cases h with
  | cons a b => exact ⟨_, _, rfl, a, b⟩
theorem RepVs.one_ {vs d} (h : RepVs G m H vs [d]) : ∃ v, vs = [v] ∧ RepV G m H v d := by
  obtain ⟨v, w, rfl, a, b⟩ := h.cons_
  rw [b.nil_]
  exact ⟨v, rfl, a⟩
theorem RepVs.two_ {vs d e} (h : RepVs G m H vs [d, e]) : ∃ v w, vs = [v, w] ∧ RepV G m H v d ∧ RepV G m H w e := by
  obtain ⟨v, w, rfl, a, b⟩ := h.cons_
  obtain ⟨u, rfl, c⟩ := b.one_
  exact ⟨v, u, rfl, a, c⟩
theorem bools_of : ∀ {ds : List D} {bs : List Bool} {vs : List V}, allB ds = some bs → RepVs G m H vs ds → vs = bs.map V.bl
  | [], bs, vs, e, h => by
    unfold allB at e
    cases e
    exact h.nil_
  | .bl b :: ds, bs, vs, e, h => by
    unfold allB at e
    obtain ⟨bs', e1, rfl⟩ := Option.map_eq_some_iff.mp e
    obtain ⟨v, w, rfl, a, r⟩ := h.cons_
    rw [a.bl_, bools_of e1 r]
    rfl
  | .non :: _, _, _, e, _ => by unfold allB at e; cases e
  | .int _ :: _, _, _, e, _ => by unfold allB at e; cases e
  | .str _ :: _, _, _, e, _ => by unfold allB at e; cases e
  | .tup _ :: _, _, _, e, _ => by unfold allB at e; cases e
  | .ref _ :: _, _, _, e, _ => by unfold allB at e; cases e
  | .exn _ _ :: _, _, _, e, _ => by unfold allB at e; cases e
  | .lam _ _ :: _, _, _, e, _ => by unfold allB at e; cases e
theorem strs_of : ∀ {ds : List D} {ss : List (List Nat)} {vs : List V}, strsOf ds = some ss → RepVs G m H vs ds → vs = (ss.map fun s => (⟨s.toArray⟩ : Str)).map V.str
  | [], bs, vs, e, h => by
    unfold strsOf at e
    cases e
    exact h.nil_
  | .str b :: ds, bs, vs, e, h => by
    unfold strsOf at e
    obtain ⟨bs', e1, rfl⟩ := Option.map_eq_some_iff.mp e
    obtain ⟨v, w, rfl, a, r⟩ := h.cons_
    rw [a.str_, strs_of e1 r]
    rfl
  | .non :: _, _, _, e, _ => by unfold strsOf at e; cases e
  | .int _ :: _, _, _, e, _ => by unfold strsOf at e; cases e
  | .bl _ :: _, _, _, e, _ => by unfold strsOf at e; cases e
  | .tup _ :: _, _, _, e, _ => by unfold strsOf at e; cases e
  | .ref _ :: _, _, _, e, _ => by unfold strsOf at e; cases e
  | .exn _ _ :: _, _, _, e, _ => by unfold strsOf at e; cases e
  | .lam _ _ :: _, _, _, e, _ => by unfold strsOf at e; cases e
end

/-! ### texts -/
theorem findC_none {c : Nat} : ∀ {l : List Nat} {i : Nat}, findC c l i = none → c ∉ l
  | [], _, _ => by simp
  | a :: r, i, h => by
    unfold findC at h
    by_cases e : a = c
    · rw [if_pos e] at h; cases h
    · rw [if_neg e] at h
      simp only [List.mem_cons, not_or]
      exact ⟨fun z => e z.symm, findC_none h⟩
theorem findC_some {c : Nat} : ∀ {l : List Nat} {i j : Nat}, findC c l i = some j → ∃ k, j = i + k ∧ l[k]? = some c ∧ ∀ n, n < k → l[n]? ≠ some c
  | [], _, _, h => by cases h
  | a :: r, i, j, h => by
    unfold findC at h
    by_cases e : a = c
    · rw [if_pos e] at h
      cases h
      exact ⟨0, rfl, by rw [e]; rfl, fun n hn => absurd hn (Nat.not_lt_zero _)⟩
    · rw [if_neg e] at h
      obtain ⟨k, h1, h2, h3⟩ := findC_some h
      refine ⟨k + 1, by omega, h2, fun n hn => ?_⟩
      cases n with
      | zero => exact fun z => e (Option.some.inj z)
      | succ n => exact h3 n (by omega)
theorem getD_mk (s : List Nat) (v : Nat) : (⟨s.toArray⟩ : Str).cps.getD v 0 = s.getD v 0 := by
  simp [Array.getD, List.getD]
  split
  · rename_i h
    rw [List.getElem?_eq_getElem h]
    rfl
  · rename_i h
    rw [List.getElem?_eq_none (by omega)]
    rfl
theorem find_eq (s : List Nat) (c : Nat) (i : Int) (h : 0 ≤ i) : Txt.find3 ⟨s.toArray⟩ ⟨#[c]⟩ i = (match findC c (s.drop i.toNat) i.toNat with
    | some j => (j : Int)
    | none => -1) := by
  have hf : ∀ n, PySem.fromIndex n i = i.toNat := fun n => by
    unfold PySem.fromIndex
    rw [if_neg (by omega)]
    omega
  have spec := PySem.StrLaws.find3_spec ⟨s.toArray⟩ c i
  rw [hf, len_mk] at spec
  have gm : ∀ v, (⟨s.toArray⟩ : Str).cps.getD v 0 = s.getD v 0 := getD_mk s
  simp only [show ∀ v, s.toArray.getD v 0 = s.getD v 0 from gm] at spec
  have dg : ∀ k, (s.drop i.toNat)[k]? = s[i.toNat + k]? := fun k => by rw [List.getElem?_drop]
  have gd : ∀ v, v < s.length → s[v]? = some (s.getD v 0) := fun v hv => by rw [List.getElem?_eq_getElem hv, List.getD, List.getElem?_eq_getElem hv]; rfl
  cases q : findC c (s.drop i.toNat) i.toNat with
  | none =>
    rcases spec with ⟨e, _⟩ | ⟨k, e, h1, h2, h3, _⟩
    · exact e
    · exfalso
      refine findC_none q (List.mem_of_getElem? (i := k - i.toNat) ?_)
      rw [dg, show i.toNat + (k - i.toNat) = k by omega, gd k h2, h3]
  | some j =>
    obtain ⟨k, e1, e2, e3⟩ := findC_some q
    rw [dg] at e2
    have hl : i.toNat + k < s.length := (List.getElem?_eq_some_iff.mp e2).1
    have e4 : s.getD (i.toNat + k) 0 = c := by rw [gd _ hl] at e2; exact Option.some.inj e2
    rcases spec with ⟨_, n⟩ | ⟨k', e, h1, h2, h3, h4⟩
    · exact absurd e4 (n _ (by omega) hl)
    · show _ = (j : Int)
      rw [e]
      have : k' = i.toNat + k := by
        rcases Nat.lt_trichotomy k' (i.toNat + k) with z | z | z
        · exfalso
          refine e3 (k' - i.toNat) (by omega) ?_
          rw [dg, show i.toNat + (k' - i.toNat) = k' by omega, gd k' h2, h3]
        · exact z
        · exact absurd e4 (h4 _ (by omega) z)
      omega
theorem tl_mk (s : List Nat) : TL.tl (⟨s.toArray⟩ : Str) = s := rfl
theorem joinL_eq (sep : List Nat) : ∀ ys : List (List Nat), TL.joinL sep ys = MP.joinL sep ys
  | [] => rfl
  | [_] => rfl
  | x :: y :: r => by
    show x ++ (sep ++ TL.joinL sep (y :: r)) = x ++ sep ++ MP.joinL sep (y :: r)
    rw [joinL_eq sep (y :: r), List.append_assoc]
theorem join_mk (sep : List Nat) (ys : List (List Nat)) : Txt.join ⟨sep.toArray⟩ (ys.map fun s => ⟨s.toArray⟩) = ⟨(MP.joinL sep ys).toArray⟩ := by
  rw [TL.join_eq]
  have e := TL.tl_join ⟨sep.toArray⟩ (ys.map fun s => (⟨s.toArray⟩ : Str))
  have e2 : (ys.map fun s => (⟨s.toArray⟩ : Str)).map TL.tl = ys := by
    rw [List.map_map]
    have : (TL.tl ∘ fun s : List Nat => (⟨s.toArray⟩ : Str)) = id := by funext s; rfl
    rw [this, List.map_id]
  rw [e2, tl_mk, joinL_eq] at e
  rw [← e, TL.mk_tl]

section
variable {G : Gx} {X : Cx} {W : WX} {C : Cfg}
/-! ### built-in functions -/
theorem b_len (hK : G.K = X.K) : CallR X (.builtin "len") (rPA G bLen) := by
  intro pins s σ H xs us Q I r h
  obtain ⟨m, S, as, sim, ra, p⟩ := h
  unfold bLen at p
  split at p
  · rename_i d
    obtain ⟨x, rfl, rx⟩ := ra.one_
    split at p
    · rename_i k hk
      have dct : ∀ n kvs, d = .ref n → S.get n = some (.dct kvs) → kvs.length = k → wpAny (model X.prog X.w) X.A (call (.builtin "len") us) (EP X pins σ Q) X.xe s := fun n kvs hd hg hl => by
        subst hd
        obtain ⟨q, rfl, hq⟩ := rx.ref_
        obtain ⟨q', kv, e1, hq', hv⟩ := sim.dct hg
        rw [hq] at e1
        cases e1
        exact call_lenD pins s σ H _ us Q I r ⟨q, kv, rfl, hq', by rw [hv.length, hl]; exact fin_val sim (.int _) p⟩
      by_cases hdc : ∃ n kvs, d = .ref n ∧ S.get n = some (.dct kvs) ∧ kvs.length = k
      · obtain ⟨n, kvs, h1, h2, h3⟩ := hdc
        exact dct n kvs h1 h2 h3
      refine call_len pins s σ H _ us Q I r ⟨x, k, rfl, ?_, fin_val sim (.int _) p⟩
      unfold lenOf at hk
      split at hk
      · cases rx.str_
        split at hk
        · rename_i hz
          cases hk
          exact ⟨by rw [len_mk, ← line_eq]; exact hz, by rw [len_mk]⟩
        · cases hk
      · cases hk
        obtain ⟨q, vs, rfl, hq, hv⟩ := rx.tup_
        exact .inr ⟨vs, hK ▸ hq, by rw [hv.length]⟩
      · rename_i n
        obtain ⟨q, rfl, hq⟩ := rx.ref_
        have go : ∀ xs, lstAt S n = some xs → xs.length = k → LenV X.K (.ref q) H k := fun xs hl e => by
          obtain ⟨q', vs, e1, hq', hv⟩ := sim.seqL hl
          rw [hq] at e1
          cases e1
          exact .inl ⟨vs, hK ▸ hq', by rw [hv.length, e]⟩
        split at hk
        · rename_i xs hg
          exact go xs (by unfold lstAt; rw [hg]) (Option.some.inj hk)
        · rename_i xs hg
          exact go xs (by unfold lstAt; rw [hg]) (Option.some.inj hk)
        · rename_i kvs hg
          exact absurd ⟨_, kvs, rfl, hg, Option.some.inj hk⟩ hdc
        · cases hk
      · cases hk
    · exact p.elim
  · exact p.elim
theorem b_tuple (hK : G.K = X.K) : CallR X (.type "tuple") (rPA G bTuple) := by
  intro pins s σ H xs us Q I r h
  obtain ⟨m, S, as, sim, ra, p⟩ := h
  unfold bTuple at p
  split at p
  · rename_i ds
    obtain ⟨x, rfl, rx⟩ := ra.one_
    have rx' := rx
    obtain ⟨q, vs, rfl, hq, hv⟩ := rx.tup_
    exact call_tuple_of pins s σ H _ us Q I r ⟨q, vs, rfl, .inr ⟨hK ▸ hq, fin_val sim rx' p⟩⟩
  · rename_i n
    obtain ⟨x, rfl, rx⟩ := ra.one_
    obtain ⟨q, rfl, hq⟩ := rx.ref_
    have go : ∀ xs, lstAt S n = some xs → postP G (RepV G) m H Q (some (.tup xs, S)) → wpAny (model X.prog X.w) X.A (call (.type "tuple") us) (EP X pins σ Q) X.xe s := fun xs hl p => by
      obtain ⟨q', vs, e1, hq', hv⟩ := sim.seqL hl
      rw [hq] at e1
      cases e1
      exact call_tuple_of pins s σ H _ us Q I r ⟨q, vs, rfl, .inl ⟨hK ▸ hq', new_tup sim hv p⟩⟩
    split at p
    · rename_i xs hg
      exact go xs (by unfold lstAt; rw [hg]) p
    · rename_i xs hg
      exact go xs (by unfold lstAt; rw [hg]) p
    · exact p.elim
  · exact p.elim
/-- list(..) of a list, a tuple -/
theorem b_list (hK : G.K = X.K) : CallR X (.type "list") (rPA G bListS) := by
  intro pins s σ H xs us Q I r h
  obtain ⟨m, S, as, sim, ra, p⟩ := h
  unfold bListS at p
  split at p
  · rename_i ds
    obtain ⟨x, rfl, rx⟩ := ra.one_
    obtain ⟨q, vs, rfl, hq, hv⟩ := rx.tup_
    exact call_list_of pins s σ H _ us Q I r ⟨q, vs, rfl, .inr (hK ▸ hq), new_lst sim hv p⟩
  · rename_i n
    obtain ⟨x, rfl, rx⟩ := ra.one_
    obtain ⟨q, rfl, hq⟩ := rx.ref_
    split at p
    · rename_i xs hl
      obtain ⟨q', vs, e1, hq', hv⟩ := sim.seqL hl
      rw [hq] at e1
      cases e1
      exact call_list_of pins s σ H _ us Q I r ⟨q, vs, rfl, .inl (hK ▸ hq'), new_lst sim hv p⟩
    · exact p.elim
  · exact p.elim
theorem b_int : CallR X (.type "int") (rPA G bInt) := by
  intro pins s σ H xs us Q I r h
  obtain ⟨m, S, as, sim, ra, p⟩ := h
  unfold bInt at p
  split at p
  · obtain ⟨x, rfl, rx⟩ := ra.one_
    cases rx.int_
    exact call_int1 pins s σ H _ us Q I r (.inl ⟨_, rfl, fin_val sim (.int _) p⟩)
  · obtain ⟨x, rfl, rx⟩ := ra.one_
    cases rx.bl_
    exact call_int1 pins s σ H _ us Q I r (.inr ⟨_, rfl, fin_val sim (.int _) p⟩)
  · exact p.elim
theorem b_all (c : Ctx G X W) : CallR X (.builtin "all") (rPA G bAll) := by
  intro pins s σ H xs us Q I r h
  obtain ⟨m, S, as, sim, ra, p⟩ := h
  unfold bAll at p
  split at p
  · rename_i n
    obtain ⟨x, rfl, rx⟩ := ra.one_
    obtain ⟨q, rfl, hq⟩ := rx.ref_
    split at p
    · rename_i xs hl
      split at p
      · rename_i bs hb
        obtain ⟨q', vs, e1, hq', hv⟩ := sim.seqL hl
        rw [hq] at e1
        cases e1
        have e2 := bools_of hb hv
        subst e2
        exact cr_all c.calm pins s σ H _ us Q I r ⟨q, bs, rfl, c.hK ▸ hq', fin_val sim (.bl _) p⟩
      · exact p.elim
    · exact p.elim
  · exact p.elim
theorem b_any (c : Ctx G X W) : CallR X (.builtin "any") (rPA G bAny) := by
  intro pins s σ H xs us Q I r h
  obtain ⟨m, S, as, sim, ra, p⟩ := h
  unfold bAny at p
  split at p
  · rename_i n
    obtain ⟨x, rfl, rx⟩ := ra.one_
    obtain ⟨q, rfl, hq⟩ := rx.ref_
    split at p
    · rename_i xs hl
      split at p
      · rename_i bs hb
        obtain ⟨q', vs, e1, hq', hv⟩ := sim.seqL hl
        rw [hq] at e1
        cases e1
        have e2 := bools_of hb hv
        subst e2
        exact cr_any c.calm pins s σ H _ us Q I r ⟨q, bs, rfl, c.hK ▸ hq', fin_val sim (.bl _) p⟩
      · exact p.elim
    · exact p.elim
  · exact p.elim
variable {f : List D → P D} {id T : String} {x name : Str} {p pos apos : Pos} {e o : Expr} {es : List Expr} {a : MA} {eo : ME}
theorem r_cb (hc : CallR X (.builtin id) (rPA G f)) (hg : Gl X x) (hm : X.mg x = none) (hv : bootBuiltins x = some (.builtin id)) (ha : PA X (e :: es) (tA G W C a)) (hn : x ≠ "__name__" := by decide) (hdb : (x == ("__debug__" : Str)) = false := by decide)
    (he : starEach (e :: es) X.env = (false, eval e X.env) :: starEach es X.env := by rfl) (hpl : (backTo pos (starEach es X.env)).any (·.1) = false := by rfl) : PE X (.Call (.Name x p) (e :: es) [] pos) (tE G W C (eB f a)) :=
  PE.weak (pe_callB hc hg hm hv ha hn hdb he hpl) fun σ H Q h => wA h
theorem r_ct (hc : CallR X (.type T) (rPA G f)) (hg : Gl X x) (hm : X.mg x = none) (hv : bootBuiltins x = some (.type T)) (ha : PA X (e :: es) (tA G W C a)) (hn : x ≠ "__name__" := by decide) (hdb : (x == ("__debug__" : Str)) = false := by decide)
    (he : starEach (e :: es) X.env = (false, eval e X.env) :: starEach es X.env := by rfl) (hpl : (backTo pos (starEach es X.env)).any (·.1) = false := by rfl) : PE X (.Call (.Name x p) (e :: es) [] pos) (tE G W C (eB f a)) :=
  PE.weak (pe_callTy hc hg hm hv ha hn hdb he hpl) fun σ H Q h => wA h

/-! ### methods of built-ins -/
theorem bm_fin {ty : D → Store → Bool} {f : D → List D → P D} {σ H} {Q : VK} (hty : ∀ m S H x d, Sim G m S H → RepV G m H x d → ty d S = true → tyV X.K T x H) (h : tE G W C (eBM ty f eo a) σ H Q) : tBM X.K T (rMt G f) (tE G W C eo) (tA G W C a) σ H Q := by
  have h1 := tX.bind (Ra := RepV G) (k := fun C σ x S => if ty x S = true then ((a C σ).bind fun xs => M.of (f x xs)) S else .bad) h
  refine tX.imp h1 fun x H1 z => ?_
  obtain ⟨m, S, ls, d, s, r, rd, p⟩ := z
  simp only at p
  by_cases ht : ty d S = true
  · rw [if_pos ht] at p
    refine ⟨hty _ _ _ _ _ s rd ht, ?_⟩
    have z : tK G W (RepV G) (RepV G) C (fun C σ x => (a C σ).bind fun xs => M.of (f x xs)) σ H1 x Q := ⟨m, S, ls, d, s, r, rd, p⟩
    have z2 := tKV (Rb := RepVs G) (k := fun _ _ x xs => M.of (f x xs)) z
    refine tX.imp z2 fun vs H2 z3 => ?_
    obtain ⟨m, S, ls, dx, s, r, ⟨r1, r2⟩, p⟩ := z3
    exact ⟨m, S, dx.1, dx.2, s, r1, r2, post.of p⟩
  · rw [if_neg ht] at p
    exact p.elim
theorem ty_str {m S H x d} (s : Sim G m S H) (r : RepV G m H x d) (h : tyStr d S = true) : tyV X.K "str" x H := by
  cases d with
  | str l => rw [r.str_]; rfl
  | _ => cases h
theorem ty_lst (hK : G.K = X.K) {m S H x d} (s : Sim G m S H) (r : RepV G m H x d) (h : tyLst d S = true) : tyV X.K "list" x H := by
  cases d with
  | ref n =>
    obtain ⟨q, rfl, hq⟩ := r.ref_
    have go : ∀ xs, lstAt S n = some xs → tyV X.K "list" (.ref q) H := fun xs hl => by
      obtain ⟨q', vs, e1, hq', hv⟩ := s.seqL hl
      rw [hq] at e1
      cases e1
      exact .inl ⟨rfl, vs, hK ▸ hq'⟩
    unfold tyLst at h
    simp only at h
    split at h
    · rename_i xs hg; exact go xs (by unfold lstAt; rw [hg])
    · rename_i xs hg; exact go xs (by unfold lstAt; rw [hg])
    · cases h
  | _ => cases h
theorem r_bm {ty : D → Store → Bool} {f : D → List D → P D} (pa : PlainAttrs T) (slot : Slot T name id) (hto : typeOf (.builtin id) = pure (.type "method_descriptor")) (hm : MtR X id (rMt G f))
    (hty : ∀ m S H x d, Sim G m S H → RepV G m H x d → ty d S = true → tyV X.K T x H) (ho : PE X o (tE G W C eo)) (ha : PA X (e :: es) (tA G W C a))
    (hbase : attributeBase o name X.env (eval o X.env) = eval o X.env := by rfl)
    (hfew : ((backTo pos (starEach (e :: es) X.env)).all (fun x => !x.1) && (backToKw pos (keywordEach [] X.env)).all (fun x => x.1.isSome)
      && decide ((e :: es).length + ([] : List Keyword).length + (if ([] : List Keyword).isEmpty then 0 else 1) < 30)) = true := by rfl)
    (hline : (apos.endLine == pos.line) = true := by rfl) (hs : starEach (e :: es) X.env = (false, eval e X.env) :: starEach es X.env := by rfl) (hplain : (backTo pos (starEach es X.env)).any (·.1) = false := by rfl) :
    PE X (.Call (.Attribute o name apos) (e :: es) [] pos) (tE G W C (eBM ty f eo a)) :=
  PE.weak (pe_bm pa slot hto hm ho ha hbase hfew hline hs hplain) fun σ H Q h => bm_fin hty h
theorem m_append : MtR X "list.append" (rMt G mAppend) := by
  intro pins s σ H x xs v us Q I rx rs h
  obtain ⟨m, S, d, as, sim, rd, ra, p⟩ := h
  unfold mAppend at p
  split at p
  · rename_i n y
    obtain ⟨q, rfl, hq⟩ := rd.ref_
    obtain ⟨w, rfl, rw'⟩ := ra.one_
    split at p
    · rename_i xs hg
      split at p
      · rename_i hz
        obtain ⟨q', vs, e1, e2, rv⟩ := sim.lst hg
        rw [hq] at e1
        cases e1
        have mu : Mut1 (H q) := by rw [e2]; trivial
        have ex : Ext G m H m (upd H q (.lst (vs ++ [w]))) := Ext.mut mu
        exact mt_append pins s σ H _ _ v us Q I rx rs ⟨q, vs, w, rfl, rfl, e2, by rw [rv.length, ← line_eq]; exact hz,
          p m _ _ ex (sim_set sim hg rfl rfl hq mu (.lst upd_same ((rv.mono ex).append (.cons (rw'.mono ex) .nil)))) .non⟩
      · exact p.elim
    · exact p.elim
  · exact p.elim
theorem m_find : MtR X "str.find" (rMt G mFind) := by
  intro pins s σ H x xs v us Q I rx rs h
  obtain ⟨m, S, d, as, sim, rd, ra, p⟩ := h
  unfold mFind at p
  split at p
  · rename_i l c i
    cases rd.str_
    obtain ⟨w, z, rfl, rw', rz⟩ := ra.two_
    cases rw'.str_
    cases rz.int_
    split at p
    · rename_i hi
      refine mt_find3 pins s σ H _ _ v us Q I rx rs ⟨⟨l.toArray⟩, ⟨#[c]⟩, i, rfl, rfl, ?_⟩
      rw [find_eq l c i hi]
      exact fin_val sim (.int _) p
    · exact p.elim
  · exact p.elim
theorem m_join (hK : G.K = X.K) : MtR X "str.join" (rMt G mJoin) := by
  intro pins s σ H x xs v us Q I rx rs h
  obtain ⟨m, S, d, as, sim, rd, ra, p⟩ := h
  unfold mJoin at p
  split at p
  · rename_i sep n
    cases rd.str_
    obtain ⟨w, rfl, rw'⟩ := ra.one_
    obtain ⟨q, rfl, hq⟩ := rw'.ref_
    split at p
    · rename_i xs hl
      split at p
      · rename_i ys hy
        split at p
        · rename_i hz
          obtain ⟨q', vs, e1, hq', hv⟩ := sim.seqL hl
          rw [hq] at e1
          cases e1
          have e2 := strs_of hy hv
          subst e2
          refine mt_join pins s σ H _ _ v us Q I rx rs ⟨_, q, ys.map fun s => ⟨s.toArray⟩, rfl, rfl, .inl (hK ▸ hq'), ?_, ?_⟩
          · have sums : ∀ ys : List (List Nat), ((ys.map fun s => (⟨s.toArray⟩ : Str)).map (·.length)).sum + (ys.map fun s => (⟨s.toArray⟩ : Str)).length * sep.length = (ys.map fun y => y.length + sep.length).sum := by
              intro ys
              induction ys with
              | nil => simp
              | cons y r ih =>
                simp only [List.map_cons, List.sum_cons, List.length_cons, len_mk]
                rw [← ih, Nat.succ_mul]
                omega
            rw [len_mk, sums]
            exact hz
          · rw [join_mk]
            exact fin_val sim (.str _) p
        · exact p.elim
      · exact p.elim
    · exact p.elim
  · exact p.elim

/-! ### stores into lists, dicts -/
def rSetK : V → V → V → Hp → (Hp → Prop) → Prop := fun o i v H Q => ∃ a kvs k, o = .ref a ∧ i = kV k ∧ H a = some (.dK kvs) ∧ kvs.length < sizeLine ∧ Q (upd H a (.dK (putK kvs k v)))
theorem set_lk {X : Cx} : PSet X (fun o i v H Q => rSetL o i v H Q ∨ rSetK o i v H Q) := by
  intro pins s σ H o i v ov iv u Q I ro ri rv h
  rcases h with h | h
  · exact set_list pins s σ H o i v ov iv u Q I ro ri rv h
  · obtain ⟨a, kvs, k, rfl, rfl, e, l, q⟩ := h
    cases (show ov = Value.ref a from ro)
    obtain ⟨z, hd, vs, rel, dd⟩ := dk_of I.hok e
    have hz : vs.length ≤ sizeLine := by rw [← rel.length]; exact z
    have hl : (putK kvs k v).length ≤ sizeLine := by have := length_putK kvs k v; omega
    refine wpAny_setItem_pairs (hsz := hz) (kV_is ri) dd fun h' dd' hs => ?_
    have he : ∃ q, h'.get? a = some q := let ⟨q, _, _, hq, _⟩ := dd'; ⟨q, hq⟩
    exact ⟨_, d_write I (by rw [e]; exact True.intro) hs he (dk_new hl hd (rel.put k rv) dd'), q⟩
theorem put_lst {cs : D} {m S H} {x i y : V} {dx di dy : D} {Q : Hp → Prop} {S' : Store} (s : Sim G m S H) (rx : RepV G m H x dx) (ri : RepV G m H i di) (ry : RepV G m H y dy) (e : putItem dx di dy S = some ((), S'))
    (h : ∀ H', Ext G m H m H' → Sim G m S' H' → Q H') : rSetL x i y H Q ∨ rSetK x i y H Q := by
  unfold putItem at e
  split at e
  · rename_i n
    obtain ⟨q, rfl, hq⟩ := rx.ref_
    split at e
    · rename_i xs hg
      split at e
      · rename_i k
        cases ri.int_
        split at e
        · rename_i j hj
          cases e
          obtain ⟨q', vs, e1, e2, rv⟩ := s.lst hg
          rw [hq] at e1
          cases e1
          have mu : Mut1 (H q) := by rw [e2]; trivial
          have ex : Ext G m H m (upd H q (.lst (vs.set j y))) := Ext.mut mu
          exact .inl ⟨q, vs, k, j, rfl, rfl, e2, by rw [rv.length, ← ixN_eq]; exact hj, h _ ex (sim_set s hg rfl rfl hq mu (.lst upd_same ((rv.mono ex).set (ry.mono ex) j)))⟩
        · cases e
      · cases e
    · split at e
      · rename_i kvs hg hf
        rw [Bool.and_eq_true] at hf
        obtain ⟨k, hk⟩ := keyFits_some hf.1
        have hz := of_decide_eq_true hf.2
        cases e
        obtain ⟨q', kv, e1, e2, rv⟩ := s.dct hg
        rw [hq] at e1
        cases e1
        cases dKey_rep ri hk
        have mu : Mut1 (H q) := by rw [e2]; trivial
        have ex : Ext G m H m (upd H q (.dK (putK kv k y))) := Ext.mut mu
        exact .inr ⟨q, kv, k, rfl, rfl, e2, by rw [rv.length, ← line_eq]; exact hz, h _ ex (sim_set s hg rfl rfl hq mu (.dct upd_same ((rv.mono ex).put hk (ry.mono ex))))⟩
      · cases e
    · cases e
  · cases e
/-- o[i] = v -/
theorem s_item {o i value : Expr} {eo ei ev : ME} {p' pos : Pos} (ho : PE X o (tE G W C eo)) (hi : PE X i (tE G W C ei)) (hv : PE X value (tE G W C ev))
    (ha : ∀ v, assign (.Subscript o i p') X.env v = (do
      let ov ← holding [v] (eval o X.env)
      let iv ← holding [v, ov] (eval i X.env)
      standAt p'
      holding [v, ov, iv] (setItem ov iv v)
      release [v, ov, iv] []) := by intro _; rfl)
    (hs : swapsWithSole [.Subscript o i p'] value pos.line X.env = pure false := by rfl) (hw : swappedStores [.Subscript o i p'] value X.env = pure none := by rfl)
    (h1 : (assignEach [.Subscript o i p'] X.env).map (·.2) = [assign (.Subscript o i p') X.env] := by rfl) :
    PS X (.Assign [.Subscript o i p'] value pos) (tS G W C (sItem eo ei ev)) :=
  PS.weak (ps_asg hv (pg_sub ho hi set_lk ha) hs hw h1) fun D σ H ⟨m, S, ls, s, r, p⟩ => by
    refine ⟨m, S, ls, s, r, post.imp (lift_post (Ra := RepV G) r p) fun y H1 ⟨m1, S1, dy, x1, s1, r1, ry, p1⟩ => ?_⟩
    refine ⟨m1, S1, ls, s1, r1, post.imp (lift_post (Ra := RepV G) r1 p1) fun x H2 ⟨m2, S2, dx, x2, s2, r2, rx, p2⟩ => ?_⟩
    refine ⟨m2, S2, ls, s2, r2, post.imp (lift_post (Ra := RepV G) r2 p2) fun k H3 ⟨m3, S3, dk, x3, s3, r3, rk, p3⟩ => ?_⟩
    unfold lift M.of at p3
    cases q : putItem dx dk dy S3 with
    | none => simp only [q] at p3; exact p3.elim
    | some w =>
      simp only [q] at p3
      exact put_lst (cs := .non) s3 (rx.mono x3) rk (ry.mono (x2.trans x3)) q fun H' ex s' => p3 m3 H' σ ex s' (r3.mono ex)

/-! ### augmented operators -/
theorem i_add : PIp X .Add (rP2 G opIAdd) := by
  intro pins s σ H x y v u Q I rx ry h
  obtain ⟨m, S, a, b, sim, ra, rb, p⟩ := h
  unfold opIAdd at p
  split at p
  · cases ra.int_; cases rb.int_
    exact ip_add pins s σ H _ _ v u Q I rx ry ⟨_, _, rfl, rfl, fin_val sim (.int _) p⟩
  · exact p.elim
end
end MP
namespace MP
open PySem
theorem bo_len : bootBuiltins "len" = some (.builtin "len") := by decide +kernel
theorem bo_list : bootBuiltins "list" = some (.type "list") := by decide +kernel
theorem bo_tuple : bootBuiltins "tuple" = some (.type "tuple") := by decide +kernel
theorem bo_int : bootBuiltins "int" = some (.type "int") := by decide +kernel
theorem bo_all : bootBuiltins "all" = some (.builtin "all") := by decide +kernel
theorem bo_any : bootBuiltins "any" = some (.builtin "any") := by decide +kernel
end MP

/-! MP: in, not in. Own work. -/
namespace MP
open PySem PySem.SeqAt PySem.Spec PyProof.Rows L2

theorem within_iff (a : List Nat) : ∀ b : List Nat, within a b = true ↔ ∃ i, i + a.length ≤ b.length ∧ (b.drop i).take a.length = a
  | [] => by
    unfold within
    constructor
    · intro h
      have e : a = [] := by simpa using h
      subst e
      exact ⟨0, by simp, rfl⟩
    · rintro ⟨i, h1, h2⟩
      have : a.length = 0 := by rw [List.length_nil] at h1; omega
      simpa using List.eq_nil_of_length_eq_zero this
  | c :: r => by
    unfold within
    rw [Bool.or_eq_true, within_iff a r, List.isPrefixOf_iff_prefix]
    constructor
    · rintro (⟨t, h⟩ | ⟨i, h1, h2⟩)
      · refine ⟨0, ?_, ?_⟩
        · rw [← h, List.length_append]; omega
        · rw [List.drop_zero, ← h, List.take_left]
      · exact ⟨i + 1, by rw [List.length_cons]; omega, h2⟩
    · rintro ⟨i, h1, h2⟩
      cases i with
      | zero =>
        rw [List.drop_zero] at h2
        exact .inl ⟨(c :: r).drop a.length, by rw [← h2, List.length_take, Nat.min_eq_left (by omega), List.take_append_drop]⟩
      | succ i => exact .inr ⟨i, by rw [List.length_cons] at h1; omega, h2⟩
theorem found_within (a b : List Nat) : (!(Builtin.Str.occurrences ⟨b.toArray⟩ ⟨a.toArray⟩ 0 (⟨b.toArray⟩ : Str).length 1).isEmpty) = within a b := by
  rw [Bool.eq_iff_iff, PySem.StrLaws.found_iff, within_iff]
  simp only [PySem.StrLaws.subAt_eq, len_mk]
  constructor
  · rintro ⟨i, h1, h2⟩
    exact ⟨i, h1, by simpa using h2⟩
  · rintro ⟨i, h1, h2⟩
    exact ⟨i, h1, by simpa using h2⟩

section
variable {G : Gx} {X : Cx} (hK : G.K = X.K)
/-- a value that equals the data a -/
noncomputable def eqTo (h : Heap) (a : PyData) (y : Value) : Bool := @decide (∃ d as, Reads h y d as ∧ PyData.eqv d a = true) (Classical.propDecidable _)
theorem eqTo_eq {h : Heap} {a d : PyData} {y : Value} {as : List Addr} (r : Reads h y d as) : eqTo h a y = PyData.eqv d a := by
  unfold eqTo
  rw [Bool.eq_iff_iff, @decide_eq_true_iff _ (Classical.propDecidable _)]
  constructor
  · rintro ⟨d', as', r', e⟩
    obtain ⟨rfl, _⟩ := Reads.unique r d' as' r'
    exact e
  · exact fun e => ⟨d, as, r, e⟩
include hK
/-- the items of what is asked -/
theorem items_eq {pins : List (Addr × Obj)} {s : Shared} {σ : L2.St} {H : Hp} {m : List Addr} {S : Store} {A : Around} (I : Inv X pins σ H s) (sim : Sim G m S H) (hu : A.units + deep < cLine) {x : D} {v : V} {u : Value} {a : PyData} (rx : RepV G m H v x) (ex : snap S deep x = some a) (rv : RelV v u) :
    ∀ {xs : List D} {bs : List PyData} {vs : List V} {us : List Value}, snaps S deep xs = some bs → RepVs G m H vs xs → Vals vs us → (∀ y ∈ us, EqAt A s y u (eqTo s.heap a y)) ∧ us.any (eqTo s.heap a) = memD a bs
  | [], bs, vs, us, hb, rr, rw' => by
    unfold snaps optAll at hb
    cases hb
    rw [rr.nil_] at rw'
    cases rw'
    exact ⟨fun y h => (nomatch h), rfl⟩
  | d :: xs, bs, vs, us, hb, rr, rw' => by
    unfold snaps optAll at hb
    obtain ⟨w, ws, rfl, r1, r2⟩ := rr.cons_
    cases rw' with
    | @cons _ y _ us' q1 q2 =>
      cases e1 : snap S deep d with
      | none => rw [e1] at hb; cases hb
      | some b =>
        cases e2 : optAll (snap S deep) xs with
        | none => rw [e1, e2] at hb; cases hb
        | some bs' =>
          rw [e1, e2] at hb
          cases hb
          obtain ⟨h1, h2⟩ := items_eq I sim hu rx ex rv (bs := bs') e2 r2 q2
          obtain ⟨as, rd, _⟩ := snap_reads hK I sim _ _ _ _ _ r1 e1 q1
          have ee := eqTo_eq (a := a) rd
          refine ⟨fun z hz => ?_, ?_⟩
          · rcases List.mem_cons.mp hz with rfl | hz
            · rw [ee]
              exact eqAt_snap hK I sim hu r1 rx e1 ex q1 rv
            · exact h1 z hz
          · rw [List.any_cons, h2, ee]
            rfl
theorem in_any (neg : Bool) (hu : X.A.units + 64 < cLine) : OpR X (compareOp (if neg = true then .NotIn else .In)) (rP2 G (if neg = true then opNotIn else opIn)) := by
  intro pins s σ H x y v u Q I rx ry h
  obtain ⟨m, S, a, b, sim, ra, rb, p⟩ := h
  have hu1 : X.A.in1.units + deep < cLine := by
    show X.A.units + 1 + 40 < cLine
    omega
  have key : ∃ r, inD S a b = some r ∧ Q (.bl (if neg = true then !r else r)) H := by
    cases neg with
    | false =>
      simp only [Bool.false_eq_true, if_false] at p ⊢
      unfold opIn at p
      split at p
      · rename_i r hr
        exact ⟨r, hr, fin_val sim (.bl r) p⟩
      · exact p.elim
    | true =>
      simp only [if_true] at p ⊢
      unfold opNotIn at p
      split at p
      · rename_i r hr
        exact ⟨r, hr, fin_val sim (.bl (!r)) p⟩
      · exact p.elim
  obtain ⟨r, hr, q⟩ := key
  clear p
  unfold inD at hr
  split at hr
  · -- a text
    split at hr
    · cases ra.str_; cases rb.str_
      cases hr
      cases neg with
      | false =>
        simp only [Bool.false_eq_true, if_false] at q ⊢
        exact op_in_str pins s σ H _ _ v u Q I rx ry ⟨_, _, rfl, rfl, by rw [found_within]; exact q⟩
      | true =>
        simp only [if_true] at q ⊢
        exact op_notin_str pins s σ H _ _ v u Q I rx ry ⟨_, _, rfl, rfl, by rw [found_within]; exact q⟩
    · cases hr
  · -- a tuple
    rename_i xs
    obtain ⟨t, vs, rfl, ht, hv⟩ := rb.tup_
    cases ry
    split at hr
    · rename_i da bs e1 e2
      cases hr
      obtain ⟨its, rvi, pt, _⟩ := I.tuple (hK ▸ ht)
      obtain ⟨h1, h2⟩ := items_eq hK (A := X.A.in1) I sim hu1 ra e1 rx e2 hv rvi
      have fin : ∀ b : Bool, b = (if neg = true then !memD da bs else memD da bs) → EP X pins σ Q (.bool b) s := fun b e => ⟨.bl b, H, I, rfl, by rw [e]; exact q⟩
      cases neg with
      | false => exact SeqAt.in_tupleAt (eqTo s.heap da) (show s.heap.IsTuple t its.toArray from pt) (fun y hy => h1 y (by simpa using hy)) (fin _ (by simp [h2]))
      | true => exact SeqAt.notIn_tupleAt (eqTo s.heap da) (show s.heap.IsTuple t its.toArray from pt) (fun y hy => h1 y (by simpa using hy)) (fin _ (by simp [h2]))
    · cases hr
  · -- a list
    rename_i n
    obtain ⟨t, rfl, ht⟩ := rb.ref_
    cases ry
    split at hr
    · rename_i kvs hg
      split at hr
      · rename_i hf
        obtain ⟨k, hk⟩ := keyFits_some hf
        obtain ⟨q', kv, e1, hq', hv⟩ := sim.dct hg
        rw [ht] at e1
        cases e1
        cases dKey_rep ra hk
        obtain ⟨_, lo, vs, rel, dd⟩ := dk_of I.hok hq'
        have eb : (valueAt vs k).isSome = r := by
          rw [← (rel.val k).isSome_eq, hv.isSome hk]
          exact Option.some.inj hr
        cases neg with
        | false => exact wpAny_in_of (kV_is rx) lo dd.mapOf ⟨.bl r, H, I.tok _, by rw [eb]; rfl, q⟩
        | true => exact wpAny_notIn_of (kV_is rx) lo dd.mapOf ⟨.bl (!r), H, I.tok _, by rw [eb]; rfl, q⟩
      · cases hr
    · split at hr
      · rename_i xs hl
        split at hr
        · rename_i da bs e1 e2
          cases hr
          obtain ⟨t', vs, e3, ht', hv⟩ := sim.seqL hl
          rw [ht] at e3
          cases e3
          obtain ⟨its, rvi, pl, _⟩ := I.list (hK ▸ ht')
          obtain ⟨h1, h2⟩ := items_eq hK (A := X.A.in1) I sim hu1 ra e1 rx e2 hv rvi
          have fin : ∀ b : Bool, b = (if neg = true then !memD da bs else memD da bs) → EP X pins σ Q (.bool b) s := fun b e => ⟨.bl b, H, I, rfl, by rw [e]; exact q⟩
          cases neg with
          | false => exact SeqAt.in_listAt (eqTo s.heap da) pl.isList (fun y hy => h1 y (by simpa using hy)) (fin _ (by simp [h2]))
          | true => exact SeqAt.notIn_listAt (eqTo s.heap da) pl.isList (fun y hy => h1 y (by simpa using hy)) (fin _ (by simp [h2]))
        · cases hr
      · cases hr
  · cases hr
end
theorem o_in {G : Gx} {X : Cx} (c : Ctx0 G X) : OpR X (compareOp .In) (rP2 G opIn) := in_any c.hK false c.hu
theorem o_notin {G : Gx} {X : Cx} (c : Ctx0 G X) : OpR X (compareOp .NotIn) (rP2 G opNotIn) := in_any c.hK true c.hu
end MP

/-! MP: zip and enumerate over lists, tuples, texts in any mix. Own work. -/
namespace MP
open PySem PySem.Spec PyProof.Rows L2

/-- what a zip, an enumerate runs over -/
inductive Src where
  | lst (a : Addr)
  | tup (a : Addr)
  | str (x : Str)
def Src.is (K : PySem.W.Frag) (H : Hp) : Src → List V → Prop
  | .lst a, xs => SqL K H a xs
  | .tup a, xs => SqT K H a xs
  | .str x, xs => xs = x.cps.toList.map fun c => V.str ⟨#[c]⟩
def Src.st (it : Addr) (i : Nat) (h : Heap) : Src → Prop
  | .lst a => h.IsListIter it a i
  | .tup a => h.IsTupleIter it a i
  | .str x => ∃ t, h.IsStrIter it (strIterType x) x t i
def Src.lt (N : Nat) : Src → Prop
  | .lst a => a < N
  | .tup a => a < N
  | .str _ => True
/-- the items are the same at any look -/
theorem Src.inj {X : Cx} {pins : List (Addr × Obj)} {σ : L2.St} {H : Hp} {s : Shared} (I : Inv X pins σ H s) : ∀ {r : Src} {xs ys : List V}, r.is X.K H xs → r.is X.K H ys → xs = ys
  | .lst _, _, _, h, h' => I.list_inj h h'
  | .tup _, _, _, h, h' => I.tuple_inj h h'
  | .str _, _, _, h, h' => h.trans h'.symm
theorem Src.keep {it : Addr} {i : Nat} {h h' : Heap} (k : ∀ o, h.get? it = some o → h'.get? it = some o) : ∀ {r : Src}, r.st it i h → r.st it i h'
  | .lst _, st => Heap.IsListIter.at st k
  | .tup _, st => Heap.IsTupleIter.at st k
  | .str _, ⟨t, o, e, r⟩ => ⟨t, o, k o e, r⟩
theorem Src.obj {it : Addr} {i : Nat} {h : Heap} : ∀ {r : Src}, r.st it i h → ∃ o, h.get? it = some o ∧ ∀ v, o.data ≠ .cell v
  | .lst _, ⟨o, e, _, d⟩ => ⟨o, e, fun v q => by rw [d] at q; cases q⟩
  | .tup _, ⟨o, e, _, d⟩ => ⟨o, e, fun v q => by rw [d] at q; cases q⟩
  | .str _, ⟨t, o, e, _, d⟩ => ⟨o, e, fun v q => by rw [d] at q; cases q⟩
/-- an iterator that is at its end -/
theorem ended {prog : Program} {w : World} {A : Around} {it : Addr} {fp : List Addr} {k : Nat} {T : Heap → Prop} (live : ∀ h, T h → ∃ o, h.get? it = some o)
    (frame : ∀ h h', T h → (∀ b ∈ fp, ∀ o, h.get? b = some o → h'.get? b = some o) → T h')
    (done : ∀ (s : Shared) (Q : Value → Shared → Prop) (E : Value → Shared → Prop), T s.heap → (∀ h' e, Heap.ExtBut it s.heap h' → (∃ o, h'.get? e = some o ∧ o.cls = .type "StopIteration") → E (.ref e) { s with heap := h' }) → wpAny (model prog w) A (Builtin.SmallTypes.nextOf (.ref it)) Q E s) :
    Draws prog w A it fp k (fun _ _ => True) (fun i h => i = k ∧ T h) where
  live := fun _ h st => live h st.2
  frame := fun _ h h' st hk => ⟨st.1, frame h h' st.2 hk⟩
  item := fun i s Q E hi st _ => absurd st.1 (by omega)
  done := fun s Q E st hE => done s Q E st.2 hE
structure DrawsIt (X : Cx) (A : Around) (N : Nat) (r : Src) (it i : Nat) (s : Shared) (x : Option V) (n : Nat) (fp : List Addr) (P : Nat → Value → Prop) (St : Nat → Heap → Prop) : Prop where
  d : Draws X.prog X.w A it fp n P St
  lt : ∀ y, x = some y → i < n
  le : i ≤ n
  end_ : x = none → i = n
  st : St i s.heap
  val : ∀ y v, x = some y → P i v → RelV y v
  nx : ∀ h', i < n → St (i + 1) h' → r.st it (i + 1) h'
  mem : it ∈ fp
  low : ∀ b ∈ fp, b = it ∨ b < N
section
variable {X : Cx} {A : Around} {pins : List (Addr × Obj)} {σ : L2.St} {H : Hp} {s : Shared}
theorem draws_of (hh : A.handled = none) (I : Inv X pins σ H s) {N it i : Nat} : ∀ {r : Src} {xs : List V}, r.is X.K H xs → r.lt N → N ≤ it → r.st it i s.heap →
    ∃ n fp P St, DrawsIt X A N r it i s xs[i]? n fp P St := by
  intro r xs hi hl hn st
  cases r with
  | lst a =>
    obtain ⟨its, rv, p, _⟩ := I.list hi
    have hne : a ≠ it := Nat.ne_of_lt (Nat.lt_of_lt_of_le hl hn)
    cases hx : xs[i]? with
    | some x =>
      have hlt : i < its.length := by rw [← rv.length]; exact (List.getElem?_eq_some_iff.mp hx).1
      refine ⟨_, _, _, _, Draws.list hh it a hne its.toArray, fun _ _ => by simpa using hlt, by simp; omega, (fun z => nomatch z), ⟨st, p.isList⟩, fun y v e hv => ?_, fun h' _ z => z.1, by simp, fun b hb => ?_⟩
      · cases e
        obtain ⟨u, h1, h2⟩ := rv.get hx
        have hv' : its[i]? = some v := by simpa using hv
        rw [h1] at hv'
        cases hv'
        exact h2
      · rcases List.mem_cons.mp hb with q | q
        · exact .inl q
        · rw [List.mem_singleton.mp q]; exact .inr hl
    | none =>
      have hge : its.toArray[i]? = none := by
        have := List.getElem?_eq_none_iff.mp hx
        rw [rv.length] at this
        simp; omega
      refine ⟨i, [it, a], _, _, ended (T := fun h => h.IsListIter it a i ∧ h.IsList a its.toArray) (fun h z => let ⟨o, ho, _⟩ := z.1; ⟨o, ho⟩) (fun h h' z hk => ⟨z.1.at fun o e => hk it (by simp) o e, z.2.at fun o e => hk a (by simp) o e⟩)
        (fun s Q E z hE => wpAny_nextOf_list_end hh z.1 z.2 hge hE), (fun y e => nomatch e), Nat.le_refl _, fun _ => rfl, ⟨rfl, st, p.isList⟩, (fun y v e => nomatch e), fun h' z => absurd z (Nat.lt_irrefl _), by simp, fun b hb => ?_⟩
      rcases List.mem_cons.mp hb with q | q
      · exact .inl q
      · rw [List.mem_singleton.mp q]; exact .inr hl
  | tup a =>
    obtain ⟨its, rv, p, _⟩ := I.tuple hi
    have hne : a ≠ it := Nat.ne_of_lt (Nat.lt_of_lt_of_le hl hn)
    have p' : s.heap.IsTuple a its.toArray := p
    cases hx : xs[i]? with
    | some x =>
      have hlt : i < its.length := by rw [← rv.length]; exact (List.getElem?_eq_some_iff.mp hx).1
      refine ⟨_, _, _, _, Draws.tuple hh it a hne its.toArray, fun _ _ => by simpa using hlt, by simp; omega, (fun z => nomatch z), ⟨st, p'⟩, fun y v e hv => ?_, fun h' _ z => z.1, by simp, fun b hb => ?_⟩
      · cases e
        obtain ⟨u, h1, h2⟩ := rv.get hx
        have hv' : its[i]? = some v := by simpa using hv
        rw [h1] at hv'
        cases hv'
        exact h2
      · rcases List.mem_cons.mp hb with q | q
        · exact .inl q
        · rw [List.mem_singleton.mp q]; exact .inr hl
    | none =>
      have hge : its.toArray[i]? = none := by
        have := List.getElem?_eq_none_iff.mp hx
        rw [rv.length] at this
        simp; omega
      refine ⟨i, [it, a], _, _, ended (T := fun h => h.IsTupleIter it a i ∧ h.IsTuple a its.toArray) (fun h z => let ⟨o, ho, _⟩ := z.1; ⟨o, ho⟩) (fun h h' z hk => ⟨z.1.at fun o e => hk it (by simp) o e, z.2.at fun o e => hk a (by simp) o e⟩)
        (fun s Q E z hE => wpAny_nextOf_tuple_end hh z.1 z.2 hge hE), (fun y e => nomatch e), Nat.le_refl _, fun _ => rfl, ⟨rfl, st, p'⟩, (fun y v e => nomatch e), fun h' z => absurd z (Nat.lt_irrefl _), by simp, fun b hb => ?_⟩
      rcases List.mem_cons.mp hb with q | q
      · exact .inl q
      · rw [List.mem_singleton.mp q]; exact .inr hl
  | str x =>
    obtain ⟨t, st⟩ := st
    cases (show xs = x.cps.toList.map fun c => V.str ⟨#[c]⟩ from hi)
    cases hx : (x.cps.toList.map fun c => V.str ⟨#[c]⟩)[i]? with
    | some y =>
      rw [List.getElem?_map] at hx
      obtain ⟨c, hc, rfl⟩ := Option.map_eq_some_iff.mp hx
      have hc' : x.cps[i]? = some c := by simpa using hc
      have hlt : i < x.cps.size := (Array.getElem?_eq_some_iff.mp hc').1
      refine ⟨_, _, _, _, Draws.text hh it x t, fun _ _ => hlt, Nat.le_of_lt hlt, (fun z => nomatch z), st, fun y v e hv => ?_, fun h' _ z => ⟨t, z⟩, by simp, fun b hb => .inl (List.mem_singleton.mp hb)⟩
      cases e
      obtain ⟨c', u, h1, rfl⟩ := hv
      rw [hc'] at h1
      cases h1
      exact ⟨u, rfl⟩
    | none =>
      have hge : x.cps[i]? = none := by
        have := List.getElem?_eq_none_iff.mp hx
        rw [List.length_map, Array.length_toList] at this
        simp; omega
      have fin : ∀ (T : String) (_ : T = "str_ascii_iterator" ∨ T = "str_iterator"), s.heap.IsStrIter it T x t i → ∃ n fp P St, DrawsIt X A N (.str x) it i s none n fp P St := fun T hT st' => by
        refine ⟨i, [it], _, _, ended (T := fun h => h.IsStrIter it T x t i) (fun h z => let ⟨o, ho, _⟩ := z; ⟨o, ho⟩) (fun h h' z hk => let ⟨o, ho, r⟩ := z; ⟨o, hk it (by simp) o ho, r⟩)
          (fun s Q E z hE => ?_), (fun y e => nomatch e), Nat.le_refl _, fun _ => rfl, ⟨rfl, st'⟩, (fun y v e => nomatch e), fun h' z => absurd z (Nat.lt_irrefl _), by simp, fun b hb => .inl (List.mem_singleton.mp hb)⟩
        rcases hT with rfl | rfl
        · exact wpAny_nextOf_ascii_end hh z hge hE
        · exact wpAny_nextOf_wide_end hh z hge hE
      refine fin _ ?_ st
      unfold strIterType
      split
      · exact .inl rfl
      · exact .inr rfl
end

theorem nin {fp : List Addr} {it N : Nat} (low : ∀ c ∈ fp, c = it ∨ c < N) (b : Nat) (h1 : b ≠ it := by omega) (h2 : N ≤ b := by omega) : b ∉ fp := fun z => (low b z).elim h1 (Nat.not_lt.mpr h2)
/-! ### enumerate -/
def ItE (K : PySem.W.Frag) (r : Src) : L2.It :=
  ⟨fun i H => ∃ xs x, r.is K H xs ∧ xs[i]? = some x,
    fun i H v H' => ∃ T x, v = .ref T ∧ H T = none ∧ H' = upd H T (.tup [.int (i : Nat), x]) ∧ ∀ xs, r.is K H xs → xs[i]? = some x,
    fun i H => ∃ xs, r.is K H xs ∧ xs.length ≤ i⟩
theorem turn_enumS {P : Program} {w : World} {K : PySem.W.Frag} {elts : List Expr} {kk : Nat} {tpos : Pos} {r : Src} {N : Nat} (hl : r.lt N) :
    Turn P w K (.Tuple elts kk tpos) (ItE K r) [N + 1, N] (N + 1) (fun i h => (∃ old, IsEnum h (N + 1) N (0 + (i : Int)) old) ∧ r.st N i h) where
  mem := by simp
  obj := fun i h st c hc => by
    obtain ⟨⟨old, he⟩, h1⟩ := st
    have e' : c = N + 1 ∨ c = N := by simpa using hc
    rcases e' with q | q
    · rw [q]; exact ⟨_, he, fun v q => nomatch q⟩
    · rw [q]; exact Src.obj h1
  keep := fun i h h' st k => by
    obtain ⟨⟨old, he⟩, h1⟩ := st
    exact ⟨⟨old, k _ (by simp) _ he⟩, Src.keep (fun o q => k N (by simp) o q) h1⟩
  item := by
    intro X hP hw hK hc i pins s σ H E I hf st hg
    subst hP hw hK
    obtain ⟨he, h1⟩ := st
    obtain ⟨xs, x, hx, hxi⟩ := hg
    obtain ⟨n, fp, P, St, d⟩ := draws_of (A := X.A.in1) (show X.A.in1.handled = none from I.ok.hd hc) I hx hl (Nat.le_refl N) h1
    rw [hxi] at d
    have hlt := d.lt x rfl
    have hef : N + 1 ∉ fp := nin d.low (N + 1)
    have W := WalksT.enumFrom (A := X.A) 0 d.d (N + 1) (Nat.succ_ne_self N) hef d.mem
    have hNl : N + 1 < s.heap.objs.size := by obtain ⟨o, e⟩ := he; exact Heap.lt_size e
    refine W.item i s _ E hlt ⟨he, d.st⟩ fun T vals h' tk hP hle hT hm hk => ⟨_, rfl, W.go elts kk tpos i T _ _ E hm fun h'' st'' hk2 => ?_⟩
    obtain ⟨t, y, hy, rfl⟩ := hP
    have hap : T ∉ [N + 1, N] := W.apart i T h' hm
    have hT2 : h''.IsTuple T #[.int (0 + (i : Int)) t, y] := hT.at fun o e => hk2 T o hap e
    have new : ObjOk X.prog X.w (upd H T (.tup [.int (i : Nat), x])) h'' T (.tup [.int (i : Nat), x]) :=
      ⟨by show 2 ≤ sizeLine; decide, [.int (0 + (i : Int)) t, y], .cons ⟨t, by rw [Int.zero_add]⟩ (.cons (d.val x y rfl hy) .nil), hT2⟩
    have I1 : Inv X pins σ (upd H T (.tup [.int (i : Nat), x])) { s with heap := h'', toks := tk } :=
      I.turnedNew (t' := tk) (ch := [N + 1, N]) (fun c o hb q => hk2 c o hb (hk c o hb q)) hf hle new
    refine ⟨.ref T, _, I1, rfl, ⟨T, x, rfl, I.hok.fresh hle, rfl, fun l hl => by rw [Src.inj I hl hx]; exact hxi⟩, ⟨?_, d.nx _ hlt st''.2⟩, fun c hcm => ?_⟩
    · exact st''.1
    · rw [upd_ne (fun z => hap (by rw [← z]; exact hcm))]
      exact (hf c hcm).1
  done := by
    intro X hP hw hK hc i pins s σ H E I hf st hg
    subst hP hw hK
    obtain ⟨he, h1⟩ := st
    obtain ⟨xs, hx, hge⟩ := hg
    obtain ⟨n, fp, P, St, d⟩ := draws_of (A := X.A.in1) (show X.A.in1.handled = none from I.ok.hd hc) I hx hl (Nat.le_refl N) h1
    rw [List.getElem?_eq_none hge] at d
    have hef : N + 1 ∉ fp := nin d.low (N + 1)
    have W := WalksT.enumFrom (A := X.A) 0 d.d (N + 1) (Nat.succ_ne_self N) hef d.mem
    have e : i = n := d.end_ rfl
    subst e
    exact W.done s _ E ⟨he, d.st⟩ fun h' tk hk => ⟨rfl, I.turnedL (t' := tk) (ch := [N + 1, N]) hk hf⟩
  self := fun A i s Q E st h => by
    obtain ⟨⟨old, he⟩, _⟩ := st
    exact wpAny_pyIter_enum he h

/-! ### zip of two -/
def ItZ (K : PySem.W.Frag) (r1 r2 : Src) : L2.It :=
  ⟨fun i H => ∃ xs ys x y, r1.is K H xs ∧ r2.is K H ys ∧ xs[i]? = some x ∧ ys[i]? = some y,
    fun i H v H' => ∃ T x y, v = .ref T ∧ H T = none ∧ H' = upd H T (.tup [x, y]) ∧ (∀ xs, r1.is K H xs → xs[i]? = some x) ∧ ∀ ys, r2.is K H ys → ys[i]? = some y,
    fun i H => ∃ xs ys, r1.is K H xs ∧ r2.is K H ys ∧ (xs[i]? = none ∨ ys[i]? = none)⟩
theorem turn_zipS {P : Program} {w : World} {K : PySem.W.Frag} {elts : List Expr} {kk : Nat} {tpos : Pos} {r1 r2 : Src} {N : Nat} (l1 : r1.lt N) (l2 : r2.lt N) :
    Turn P w K (.Tuple elts kk tpos) (ItZ K r1 r2) [N + 4, N + 2, N + 3, N, N + 1] (N + 4) (fun i h => IsZip h (N + 4) (N + 2) (N + 3) .none ∧ IsTupOf2 h (N + 2) (.ref N) (.ref (N + 1)) ∧ (∃ x y, IsTupOf2 h (N + 3) x y) ∧ r1.st N i h ∧ r2.st (N + 1) i h) where
  mem := by simp
  obj := fun i h st c hc => by
    obtain ⟨hz, hTI, ⟨x, y, hTO⟩, h1, h2⟩ := st
    have e' : c = N + 4 ∨ c = N + 2 ∨ c = N + 3 ∨ c = N ∨ c = N + 1 := by simpa using hc
    rcases e' with q | q | q | q | q
    · rw [q]; exact ⟨_, hz, fun v q => nomatch q⟩
    · rw [q]; exact ⟨_, hTI, fun v q => nomatch q⟩
    · rw [q]; exact ⟨_, hTO, fun v q => nomatch q⟩
    · rw [q]; exact Src.obj h1
    · rw [q]; exact Src.obj h2
  keep := fun i h h' st k => by
    obtain ⟨hz, hTI, ⟨x, y, hTO⟩, h1, h2⟩ := st
    exact ⟨k _ (by simp) _ hz, k _ (by simp) _ hTI, ⟨x, y, k _ (by simp) _ hTO⟩, Src.keep (fun o q => k N (by simp) o q) h1, Src.keep (fun o q => k (N + 1) (by simp) o q) h2⟩
  item := by
    intro X hP hw hK hc i pins s σ H E I hf st hg
    subst hP hw hK
    obtain ⟨hz, hTI, hTO, h1, h2⟩ := st
    obtain ⟨xs, ys, x, y, hx, hy, hxi, hyi⟩ := hg
    obtain ⟨n1, fp1, P1, St1, d1⟩ := draws_of (A := X.A.in1) (show X.A.in1.handled = none from I.ok.hd hc) I hx l1 (Nat.le_refl N) h1
    obtain ⟨n2, fp2, P2, St2, d2⟩ := draws_of (A := X.A.in1) (show X.A.in1.handled = none from I.ok.hd hc) I hy l2 (Nat.le_succ N) h2
    rw [hxi] at d1
    rw [hyi] at d2
    have k1 := d1.lt x rfl
    have k2 := d2.lt y rfl
    have S : ZipSep2 (N + 4) (N + 2) (N + 3) N (N + 1) fp1 fp2 := ⟨Nat.ne_of_lt (by omega : N + 2 < N + 4), Nat.ne_of_lt (by omega : N + 3 < N + 4), Nat.ne_of_lt (by omega : N + 2 < N + 3), Nat.ne_of_gt (by omega : N < N + 2), d1.mem, nin d1.low (N + 4), nin d1.low (N + 3), Nat.succ_ne_self (N + 1), d2.mem,
      nin d2.low (N + 4), nin d2.low (N + 3), nin d2.low N, nin d1.low (N + 1)⟩
    have W := WalksT.zipD2 (A := X.A) S d1.d d2.d
    have W2 := W.sub
    refine W.item i s _ E (by omega) ⟨hz, hTI, hTO, d1.st, d2.st⟩ fun T vals h' tk hP hle hT hm hk => ⟨_, rfl, W.go elts kk tpos i T _ _ E hm fun h'' st'' hk2 => ?_⟩
    obtain ⟨u, v, hu, hv, rfl⟩ := hP
    have hap : T ∉ [N + 4, N + 3, N, N + 1] := W.apart i T h' hm
    have hT2 : h''.IsTuple T #[u, v] := hT.at fun o e => hk2 T o hap e
    have new : ObjOk X.prog X.w (upd H T (.tup [x, y])) h'' T (.tup [x, y]) :=
      ⟨by show 2 ≤ sizeLine; decide, [u, v], .cons (d1.val x u rfl hu) (.cons (d2.val y v rfl hv) .nil), hT2⟩
    have sub : ∀ c, c ∉ [N + 4, N + 2, N + 3, N, N + 1] → c ∉ [N + 4, N + 3, N, N + 1] := fun c z q => z (by simp at q ⊢; rcases q with q | q | q | q <;> simp [q])
    have I1 : Inv X pins σ (upd H T (.tup [x, y])) { s with heap := h'', toks := tk } :=
      I.turnedNew (t' := tk) (ch := [N + 4, N + 2, N + 3, N, N + 1]) (fun c o hb q => hk2 c o (sub c hb) (hk c o (sub c hb) q)) hf hle new
    refine ⟨.ref T, _, I1, rfl, ⟨T, x, y, rfl, I.hok.fresh hle, rfl, fun l hl => by rw [Src.inj I hl hx]; exact hxi, fun l hl => by rw [Src.inj I hl hy]; exact hyi⟩, ⟨st''.1, st''.2.1, st''.2.2.1, d1.nx _ k1 st''.2.2.2.1, d2.nx _ k2 st''.2.2.2.2⟩, fun c hcm => ?_⟩
    have hzl : N + 4 < s.heap.objs.size := Heap.lt_size hz
    have hlt : c < s.heap.objs.size := by
      have e' : c = N + 4 ∨ c = N + 2 ∨ c = N + 3 ∨ c = N ∨ c = N + 1 := by simpa using hcm
      rcases e' with q | q | q | q | q <;> rw [q]
      · exact hzl
      · exact Nat.lt_of_le_of_lt (by omega : N + 2 ≤ N + 4) hzl
      · exact Nat.lt_of_le_of_lt (by omega : N + 3 ≤ N + 4) hzl
      · exact Nat.lt_of_le_of_lt (by omega : N ≤ N + 4) hzl
      · exact Nat.lt_of_le_of_lt (by omega : N + 1 ≤ N + 4) hzl
    rw [upd_ne (Nat.ne_of_lt (Nat.lt_of_lt_of_le hlt hle))]
    exact (hf c hcm).1
  done := by
    intro X hP hw hK hc i pins s σ H E I hf st hg
    subst hP hw hK
    obtain ⟨hz, hTI, ⟨a1, a2, hTO⟩, h1, h2⟩ := st
    obtain ⟨xs, ys, hx, hy, hend⟩ := hg
    obtain ⟨n1, fp1, P1, St1, d1⟩ := draws_of (A := X.A.in1) (show X.A.in1.handled = none from I.ok.hd hc) I hx l1 (Nat.le_refl N) h1
    obtain ⟨n2, fp2, P2, St2, d2⟩ := draws_of (A := X.A.in1) (show X.A.in1.handled = none from I.ok.hd hc) I hy l2 (Nat.le_succ N) h2
    have S : ZipSep2 (N + 4) (N + 2) (N + 3) N (N + 1) fp1 fp2 := ⟨Nat.ne_of_lt (by omega : N + 2 < N + 4), Nat.ne_of_lt (by omega : N + 3 < N + 4), Nat.ne_of_lt (by omega : N + 2 < N + 3), Nat.ne_of_gt (by omega : N < N + 2), d1.mem, nin d1.low (N + 4), nin d1.low (N + 3), Nat.succ_ne_self (N + 1), d2.mem,
      nin d2.low (N + 4), nin d2.low (N + 3), nin d2.low N, nin d1.low (N + 1)⟩
    have he : i = n1 ∨ i = n2 := hend.imp d1.end_ d2.end_
    exact wpAny_pyNext_zipD2_end (A := X.A) S d1.d d2.d hz hTI hTO d1.st d2.st d1.le d2.le he fun h' tk hk => ⟨rfl, I.turnedL (t' := tk) (ch := [N + 4, N + 2, N + 3, N, N + 1]) (fun c o hb q =>
      hk c o (fun q' => hb (by simp [q'])) (fun q' => hb (by simp [q'])) (fun q' => hb (by simp [q'])) (fun q' => hb (by simp [q'])) q) hf⟩
  self := fun A i s Q E st h => wpAny_pyIter_zip st.1 h

/-! ### how they begin -/
theorem meets_enum1 {v : Value} {o : Obj} {B0 : Heap → Prop} (B : Begins v o B0) :
    Meets (Builtin.«enumerate.__new__» ⟨[.type "enumerate", v], []⟩) (fun _ R s => B0 s.heap ∧
      R (.ok (.ret (.ref (s.heap.push o).objs.size))) { s with heap := (s.heap.push o).push { cls := .type "enumerate", data := .fields #[.none, .bool false, .ref s.heap.objs.size, rawInt 0, .none, .none] } }) :=
  .of_wp fun prog w A R s h => by
    obtain ⟨hp, g, d, tk, os⟩ := s; obtain ⟨h1, h⟩ := h
    have hsub := sub_enumerate
    have q1 : ∀ {A' : Around} {E : Value → Shared → Prop} {Q : Value → Shared → Prop}, Q (.ref hp.objs.size) ⟨hp.push o, g, d, tk, os⟩ → wpAny (model prog w) A' (pyIter v) Q E ⟨hp, g, d, tk, os⟩ :=
      fun q => B.iter prog w _ _ ⟨hp, g, d, tk, os⟩ _ h1 q
    wp_walk using q1
    refine wpAny_stack_any fun st => wpAny_pure ?_
    split
    · rename_i c _ _ _ _ _
      cases (c == Value.type "enumerate") <;> (wp_walk using q1; exact ⟨_, rfl, h⟩)
    · wp_walk using q1
      exact ⟨_, rfl, h⟩
section
variable {prog : Program} {w : World} {A : Around} {E : Value → Shared → Prop} {s : Shared}
theorem enum_begins1 {v : Value} {o : Obj} {B0 : Heap → Prop} {Q : Value → Shared → Prop} (B : Begins v o B0) (h1 : B0 s.heap)
    (h : ∀ h', IsEnum h' (s.heap.objs.size + 1) s.heap.objs.size 0 .none → h'.get? s.heap.objs.size = some o → h'.objs.size = s.heap.objs.size + 2 →
      (∀ b o, s.heap.get? b = some o → h'.get? b = some o) → Q (.ref (s.heap.objs.size + 1)) { s with heap := h' }) :
    wpAny (model prog w) A (call (.type "enumerate") [v]) Q E s := by
  refine callType_new F.called_enumerate (by decide) (F.typeCall_enumerate_1 _) (F.newCall_enumerate_1 _) (fun obj => F.args_object_init_2 obj _) F.entry_enumerate_new (meets_enum1 B) ⟨h1, ?_⟩
  have hz : (s.heap.push o).objs.size = s.heap.objs.size + 1 := Heap.size_push ..
  show _ ∧ _
  rw [hz]
  have he : IsEnum ((s.heap.push o).push { cls := .type "enumerate", data := .fields #[.none, .bool false, .ref s.heap.objs.size, rawInt 0, .none, .none] }) (s.heap.objs.size + 1) s.heap.objs.size 0 .none := by
    have := Heap.get?_push_size (s.heap.push o) (o := { cls := .type "enumerate", data := .fields #[.none, .bool false, .ref s.heap.objs.size, rawInt 0, .none, .none] }) rfl
    rw [hz] at this; exact this
  exact ⟨⟨_, he, rfl⟩, h _ he (Heap.get?_push_of_some _ (Heap.get?_push_size _ B.free)) (by rw [Heap.size_push, hz]) fun b o x => Heap.get?_push_of_some _ (Heap.get?_push_of_some _ x)⟩
end

/-! ### the readings -/
def SrcR (G : Gx) (m0 : List Addr) (H0 : Hp) (r : Src) (t : MP.It) : Prop := ∀ m S H i, Ext G m0 H0 m H → Sim G m S H →
  (t.next S i = some none → ∃ vs, r.is G.K H vs ∧ vs[i]? = none) ∧ ∀ d, t.next S i = some (some d) → ∃ vs v, r.is G.K H vs ∧ vs[i]? = some v ∧ RepV G m H v d
section
variable {G : Gx} {m : List Addr} {H : Hp}
theorem SrcR.mono {m H m' H' r t} (e : Ext G m H m' H') (h : SrcR G m H r t) : SrcR G m' H' r t := fun m S H i x s => h m S H i (e.trans x) s
theorem srcr_lst {n : Nat} {p : Addr} (h : m[n]? = some p) : SrcR G m H (.lst p) (.lst n) := fun m' S H' i x s => by
  have hp := x.pre _ _ h
  unfold MP.It.next
  cases q : lstAt S n with
  | none => exact ⟨fun e => by simp at e, fun d e => by simp at e⟩
  | some xs =>
    obtain ⟨p', vs, e1, sq, rv⟩ := s.seqL q
    rw [hp] at e1
    cases e1
    refine ⟨fun e => ⟨vs, sq, List.getElem?_eq_none ?_⟩, fun d e => ?_⟩
    · rw [rv.length]; exact List.getElem?_eq_none_iff.mp (Option.some.inj e)
    · obtain ⟨v, h1, h2⟩ := rv.get (Option.some.inj e)
      exact ⟨vs, v, sq, h1, h2⟩
theorem srcr_tup {xs : List D} {p : Addr} {vs : List V} (sq : SqT G.K H p vs) (rv : RepVs G m H vs xs) : SrcR G m H (.tup p) (.seq xs) := fun m' S H' i x s => by
  have sq := x.tup _ _ sq
  have rv := rv.mono x
  unfold MP.It.next
  refine ⟨fun e => ⟨vs, sq, List.getElem?_eq_none ?_⟩, fun d e => ?_⟩
  · rw [rv.length]; exact List.getElem?_eq_none_iff.mp (Option.some.inj e)
  · obtain ⟨v, h1, h2⟩ := rv.get (Option.some.inj e)
    exact ⟨vs, v, sq, h1, h2⟩
theorem srcr_str {l : List Nat} : SrcR G m H (.str ⟨l.toArray⟩) (.seq (l.map fun c => .str [c])) := fun m' S H' i x s => by
  unfold MP.It.next
  refine ⟨fun e => ⟨_, rfl, ?_⟩, fun d e => ?_⟩
  · have e : (l.map fun c => D.str [c])[i]? = none := Option.some.inj e
    have := List.getElem?_eq_none_iff.mp e
    rw [List.length_map] at this
    exact List.getElem?_eq_none (by simpa using this)
  · have e : (l.map fun c => D.str [c])[i]? = some d := Option.some.inj e
    rw [List.getElem?_map] at e
    obtain ⟨c, h1, rfl⟩ := Option.map_eq_some_iff.mp e
    exact ⟨_, .str ⟨#[c]⟩, rfl, by simp [h1], .str [c]⟩
theorem itr_enumS {r : Src} {t : MP.It} (h : SrcR G m H r t) : ItR G m H (ItE G.K r) (.enum t) := fun m' S H' i x s => by
  obtain ⟨h1, h2⟩ := h m' S H' i x s
  unfold MP.It.next
  refine ⟨fun e => ?_, fun d e => ?_⟩ <;> cases q : MP.It.next S t i with
  | none => rw [q] at e; cases e
  | some o =>
    rw [q] at e
    cases o with
    | none =>
      first
        | (obtain ⟨vs, a, b⟩ := h1 q; exact ⟨vs, a, List.getElem?_eq_none_iff.mp b⟩)
        | cases e
    | some d' =>
      cases e
      try
        obtain ⟨vs, v, a, b, c⟩ := h2 d' q
        refine ⟨⟨vs, v, a, b⟩, ?_⟩
        rintro y _ ⟨T, y', rfl, hT, rfl, hy⟩
        have z := hy vs a
        rw [b] at z
        cases z
        exact ⟨Ext.new hT, sim_same s hT, .tup (SqT.of upd_same) (.cons (.int _) (.cons (c.mono (Ext.new hT)) .nil))⟩
theorem itr_zipS {r1 r2 : Src} {t1 t2 : MP.It} (h : SrcR G m H r1 t1) (h' : SrcR G m H r2 t2) : ItR G m H (ItZ G.K r1 r2) (.zip false [t1, t2]) := fun m' S H' i x s => by
  obtain ⟨h1, h2⟩ := h m' S H' i x s
  obtain ⟨k1, k2⟩ := h' m' S H' i x s
  unfold MP.It.next MP.It.nexts MP.It.nexts MP.It.nexts
  cases q1 : MP.It.next S t1 i with
  | none => exact ⟨fun e => by simp at e, fun d e => by simp at e⟩
  | some o1 =>
    cases q2 : MP.It.next S t2 i with
    | none => exact ⟨fun e => by simp at e, fun d e => by simp at e⟩
    | some o2 =>
      have a1 : ∃ vs, r1.is G.K H' vs ∧ ∀ d, o1 = some d → ∃ v, vs[i]? = some v ∧ RepV G m' H' v d := by
        cases o1 with
        | none => obtain ⟨vs, a, b⟩ := h1 q1; exact ⟨vs, a, fun d z => nomatch z⟩
        | some d => obtain ⟨vs, v, a, b, c⟩ := h2 d q1; exact ⟨vs, a, fun d z => by cases z; exact ⟨v, b, c⟩⟩
      have a2 : ∃ vs, r2.is G.K H' vs ∧ ∀ d, o2 = some d → ∃ v, vs[i]? = some v ∧ RepV G m' H' v d := by
        cases o2 with
        | none => obtain ⟨vs, a, b⟩ := k1 q2; exact ⟨vs, a, fun d z => nomatch z⟩
        | some d => obtain ⟨vs, v, a, b, c⟩ := k2 d q2; exact ⟨vs, a, fun d z => by cases z; exact ⟨v, b, c⟩⟩
      obtain ⟨vs, sq, rv⟩ := a1
      obtain ⟨ws, sq2, rw2⟩ := a2
      cases o1 with
      | none =>
        refine ⟨fun _ => ?_, fun d e => by simp at e⟩
        obtain ⟨vs, a, b⟩ := h1 q1
        exact ⟨vs, ws, a, sq2, .inl b⟩
      | some d1 =>
        cases o2 with
        | none =>
          refine ⟨fun _ => ?_, fun d e => by simp at e⟩
          obtain ⟨ws, a, b⟩ := k1 q2
          exact ⟨vs, ws, sq, a, .inr b⟩
        | some d2 =>
          refine ⟨fun e => by simp at e, fun d e => ?_⟩
          simp at e
          subst e
          obtain ⟨v, e1, r1⟩ := rv d1 rfl
          obtain ⟨v', e2, r2⟩ := rw2 d2 rfl
          refine ⟨⟨vs, ws, v, v', sq, sq2, e1, e2⟩, ?_⟩
          rintro y _ ⟨T, y1, y2, rfl, hT, rfl, hy, hy2⟩
          have z := hy vs sq
          rw [e1] at z; cases z
          have z := hy2 ws sq2
          rw [e2] at z; cases z
          exact ⟨Ext.new hT, sim_same s hT, .tup (SqT.of upd_same) (.cons (r1.mono (Ext.new hT)) (.cons (r2.mono (Ext.new hT)) .nil))⟩
end
/-- not of a dict -/
def srcOf (S : Store) : D → Option MP.It
  | .str s => some (.seq (s.map fun c => .str [c]))
  | .tup xs => some (.seq xs)
  | .ref n => (match lstAt S n with
    | some _ => some (.lst n)
    | none => none)
  | _ => none
def enP (x : D) : P MP.It := fun S => (srcOf S x).map fun t => (.enum t, S)
def zpP (x y : D) : P MP.It := fun S => (srcOf S x).bind fun t => (srcOf S y).map fun u => (.zip false [t, u], S)
abbrev iEnumE : ME → MI := i1 enP
abbrev iZipE : ME → ME → MI := i2 zpP
/-- how a value begins to be walked -/
theorem src_begins {G : Gx} {X : Cx} {pins : List (Addr × Obj)} {σ : L2.St} {H : Hp} {s : Shared} {m : List Addr} {S : Store} (hK : G.K = X.K) (I : Inv X pins σ H s) (sim : Sim G m S H) {x : D} {v : V} {u : Value} {t : MP.It} (rd : RepV G m H v x) (rx : RelV v u) (e : srcOf S x = some t) :
    ∃ (r : Src) (o : Obj) (B0 : Heap → Prop), Begins u o B0 ∧ B0 s.heap ∧ r.lt s.heap.objs.size ∧ (∀ (h' : Heap) (it : Addr), h'.get? it = some o → r.st it 0 h') ∧ SrcR G m H r t := by
  unfold srcOf at e
  split at e
  · rename_i l
    cases rd.str_
    obtain ⟨tk, rfl⟩ := rx
    cases e
    exact ⟨.str ⟨l.toArray⟩, _, _, begins_text _ tk, trivial, trivial, fun h' it g => ⟨tk, _, g, rfl, rfl⟩, srcr_str⟩
  · rename_i xs
    obtain ⟨q, vs, rfl, hq, hv⟩ := rd.tup_
    cases rx
    cases e
    obtain ⟨its, rv, pt, hz⟩ := I.tuple (hK ▸ hq)
    have pt' : s.heap.IsTuple q its.toArray := pt
    obtain ⟨o1, ho1, _⟩ := id pt'
    exact ⟨.tup q, _, _, begins_tuple q its.toArray, pt', Heap.lt_size ho1, fun h' it g => ⟨_, g, rfl, rfl⟩, srcr_tup hq hv⟩
  · rename_i n
    obtain ⟨q, rfl, hq⟩ := rd.ref_
    cases rx
    split at e
    · rename_i xs hl
      cases e
      obtain ⟨q', vs, e1, sq, rv⟩ := sim.seqL hl
      rw [hq] at e1
      cases e1
      obtain ⟨its, rv, pl, hz⟩ := I.list (hK ▸ sq)
      exact ⟨.lst q, _, _, begins_list q its.toArray, pl.isList, pl.lt, fun h' it g => ⟨_, g, rfl, rfl⟩, srcr_lst hq⟩
    · cases e
  · cases e
section
variable {G : Gx} {X : Cx} {W : WX} {C : Cfg}
theorem i_enum {e : Expr} {a : ME} {p pos tpos : Pos} {elts : List Expr} {kk : Nat} (c : Ctx0 G X) (hg : Gl X "enumerate") (hm : X.mg "enumerate" = none) (he : PE X e (tE G W C a))
    (h1 : starEach [e] X.env = (false, eval e X.env) :: starEach [] X.env := by rfl) (hs : starEach [e] X.env = [(false, eval e X.env)] := by rfl) :
    PI X (.Tuple elts kk tpos) (.Call (.Name "enumerate" p) [e] [] pos) (tI G W C (iEnumE a)) := ⟨fun pins s σ H R I h => by
  refine Call_ (ld_blt I hg hm boot_enumerate (PyProof.Rows.callWith_type1 (thn ((pa_cons he pa_nil h1).run pos pins s σ H (fun vs H1 => ∃ x, vs = [x] ∧ ∃ m S d, Sim G m S H1 ∧ RepV G m H1 x d ∧ postP G (ItR G) m H1 R (enP d S)) I (tX.imp (w1 (Rp := ItR G) (f := enP) h) fun x H1 z => ⟨x, rfl, z⟩)) fun us s1 ⟨vs, H1, I1, r1, q1⟩ => ?_) hs rfl))
  obtain ⟨x, rfl, m, S, d, sim, rd, q⟩ := q1
  obtain ⟨u, rfl, rx⟩ := vals1 r1
  unfold enP at q
  cases e1 : srcOf S d with
  | none => rw [e1] at q; exact q.elim
  | some t =>
    rw [e1] at q
    obtain ⟨r, o, B0, B, b0, hl, hst, sr⟩ := src_begins c.hK I1 sim rd rx e1
    refine enum_begins1 B b0 fun h' hen ho hsz hk => wpAny_pyIter_enum hen ?_
    have I2 : Inv X pins σ H1 { s1 with heap := h' } := I1.kept (t' := s1.toks) hk
    refine ⟨s1.heap.objs.size + 1, [s1.heap.objs.size + 1, s1.heap.objs.size], _, _, H1, rfl, I2, turn_enumS hl, ⟨⟨.none, hen⟩, hst _ _ ho⟩, fun b hb => ?_, ?_⟩
    · have e' : b = s1.heap.objs.size + 1 ∨ b = s1.heap.objs.size := by simpa using hb
      have hle : s1.heap.objs.size ≤ b := by
        rcases e' with z | z
        · rw [z]; exact Nat.le_add_right _ _
        · rw [z]; exact Nat.le_refl _
      exact I1.fpOk hle (I1.hok.fresh hle)
    · have z : R (ItE G.K r) H1 := q m H1 _ Ext.refl sim (itr_enumS sr)
      rw [c.hK] at z
      exact z⟩
theorem i_zip {e e2 : Expr} {a b : ME} {p pos tpos : Pos} {elts : List Expr} {kk : Nat} (c : Ctx0 G X) (hg : Gl X "zip") (hm : X.mg "zip" = none) (he : PE X e (tE G W C a)) (he2 : PE X e2 (tE G W C b))
    (hs : starEach [e, e2] X.env = (false, eval e X.env) :: starEach [e2] X.env := by rfl) (h2 : starEach [e2] X.env = (false, eval e2 X.env) :: starEach [] X.env := by rfl) (hpl : (backTo pos (starEach [e2] X.env)).any (·.1) = false := by rfl) :
    PI X (.Tuple elts kk tpos) (.Call (.Name "zip" p) [e, e2] [] pos) (tI G W C (iZipE a b)) := ⟨fun pins s σ H R I h => by
  refine Call_ (ld_blt I hg hm PyProof.Rows.boot_zip (PyProof.Rows.callWith_type1 (thn ((pa_cons he (pa_cons he2 pa_nil h2) hs).run pos pins s σ H (fun vs H1 => ∃ x y, vs = [x, y] ∧ ∃ m S d1 d2, Sim G m S H1 ∧ RepV G m H1 x d1 ∧ RepV G m H1 y d2 ∧ postP G (ItR G) m H1 R (zpP d1 d2 S)) I
    (tX.imp (wI2 (Rp := ItR G) (f := zpP) h) fun x H1 z => tX.imp z fun y H2 z => ⟨x, y, rfl, z⟩)) fun us s1 ⟨vs, H1, I1, r1, q1⟩ => ?_) hs hpl))
  obtain ⟨x, y, rfl, m, S, d1, d2, sim, rd, rd2, q⟩ := q1
  obtain ⟨u1, u2, rfl, rx, rx2⟩ := vals2 r1
  unfold zpP at q
  cases e1 : srcOf S d1 with
  | none => rw [e1] at q; exact q.elim
  | some t1 =>
    cases e2 : srcOf S d2 with
    | none => rw [e1, e2] at q; exact q.elim
    | some t2 =>
      rw [e1, e2] at q
      obtain ⟨r1, o1, B1, B, b1, hl1, hst1, sr1⟩ := src_begins c.hK I1 sim rd rx e1
      obtain ⟨r2, o2, B2, B', b2, hl2, hst2, sr2⟩ := src_begins c.hK I1 sim rd2 rx2 e2
      refine zip_begins2 B B' b1 b2 fun h' hz hTI hTO ho1 ho2 hsz hk => wpAny_pyIter_zip hz ?_
      have I2 : Inv X pins σ H1 { s1 with heap := h' } := I1.kept (t' := s1.toks) hk
      refine ⟨s1.heap.objs.size + 4, [s1.heap.objs.size + 4, s1.heap.objs.size + 2, s1.heap.objs.size + 3, s1.heap.objs.size, s1.heap.objs.size + 1], _, _, H1, rfl, I2, turn_zipS hl1 hl2, ⟨hz, hTI, ⟨_, _, hTO⟩, hst1 _ _ ho1, hst2 _ _ ho2⟩, fun b hb => ?_, ?_⟩
      · have e' : b = s1.heap.objs.size + 4 ∨ b = s1.heap.objs.size + 2 ∨ b = s1.heap.objs.size + 3 ∨ b = s1.heap.objs.size ∨ b = s1.heap.objs.size + 1 := by simpa using hb
        have hle : s1.heap.objs.size ≤ b := by
          rcases e' with z | z | z | z | z
          · rw [z]; exact Nat.le_add_right _ _
          · rw [z]; exact Nat.le_add_right _ _
          · rw [z]; exact Nat.le_add_right _ _
          · rw [z]; exact Nat.le_refl _
          · rw [z]; exact Nat.le_add_right _ _
        exact I1.fpOk hle (I1.hok.fresh hle)
      · have z : R (ItZ G.K r1 r2) H1 := q m H1 _ Ext.refl sim (itr_zipS sr1 sr2)
        rw [c.hK] at z
        exact z⟩
end
end MP

/-! MP: isinstance of the plain types, repr of flags, numbers, None. Own work. -/
namespace MP
open PySem PySem.Spec PyProof.Rows L2

inductive Ty where
  | non | bl | int | str | tup | lst | dct
deriving DecidableEq
def Ty.name : Ty → String
  | .non => "NoneType" | .bl => "bool" | .int => "int" | .str => "str" | .tup => "tuple" | .lst => "list" | .dct => "dict"
def Ty.le : Ty → Ty → Bool
  | .bl, .int => true
  | a, b => decide (a = b)
theorem kit_Ty (a b : Ty) : kitB a.name b.name = some (a.le b) := by
  cases a <;> cases b <;> decide +kernel
def tyOf (S : Store) : D → Option Ty
  | .non => some .non
  | .bl _ => some .bl
  | .int _ => some .int
  | .str _ => some .str
  | .tup _ => some .tup
  | .ref n => (match lstAt S n with
    | some _ => some .lst
    | none => (match S.get n with
      | some (.dct _) => some .dct
      | _ => none))
  | _ => none
def opIsA (T : Ty) (d : D) : P D := fun S => (tyOf S d).map fun t => (.bl (t.le T), S)
/-- what repr gives: the text of the data that stand in the store now -/
def bRepr : List D → P D
  | [x] => fun S => match snap S deep x with
    | some d => if d.showable = true ∧ d.shown.length ≤ line then some (.str d.shown.cps.toList, S) else none
    | none => (match x with
      | .ref n => (match S.get n with
        | some (.dct []) => some (.str [123, 125], S)
        | _ => none)
      | _ => none)
  | _ => P.bad
section
variable {G : Gx} {X : Cx} {W : WX} {C : Cfg} {m : List Addr} {H : Hp} {S : Store}
theorem tyx_of (hK : G.K = X.K) (sim : Sim G m S H) {v : V} {d : D} (r : RepV G m H v d) {t : Ty} (e : tyOf S d = some t) : TyX X.K H v (.type t.name) := by
  unfold tyOf at e
  split at e
  · cases e; cases r.non_; exact .base .non
  · cases e; cases r.bl_; exact .base (.bl _)
  · cases e; cases r.int_; exact .base (.int _)
  · cases e; cases r.str_; exact .base (.str _)
  · cases e
    obtain ⟨p, vs, rfl, hp, _⟩ := r.tup_
    rcases hp with (h | ⟨o, h⟩) | ⟨o, its, n, h1, h2, _⟩
    · exact .base (.tup h)
    · exact .fTuple h
    · exact .kTuple (hK ▸ h1) h2
  · split at e
    · rename_i xs hl
      cases e
      obtain ⟨p, rfl, hp⟩ := r.ref_
      obtain ⟨p', vs, e1, sq, _⟩ := sim.seqL hl
      rw [hp] at e1
      cases e1
      rcases sq with (h | ⟨o, h⟩) | ⟨o, its, n, h1, h2, _⟩
      · exact .base (.lst h)
      · exact .base (.frz h)
      · exact .kList (hK ▸ h1) h2
    · split at e
      · rename_i kvs hg
        cases e
        obtain ⟨p, rfl, hp⟩ := r.ref_
        obtain ⟨p', kv, e1, hq, _⟩ := sim.dct hg
        rw [hp] at e1
        cases e1
        exact .base (.dK hq)
      · cases e
  · cases e
/-- the name of a built-in type -/
theorem pe_tyn {x : Str} {T : String} {p : Pos} (hg : Gl X x) (hm : X.mg x = none) (hv : bootBuiltins x = some (.type T)) (hn : x ≠ "__name__" := by decide) (hd : (x == ("__debug__" : Str)) = false := by decide) :
    PE X (.Name x p) (fun σ H Q => Q (.ty T) H) := ⟨fun _ _ _ H _ I h => ld_blt I hg hm hv ⟨.ty T, H, I, rfl, h⟩ hn hd⟩
theorem r_isi {T : Ty} {e : Expr} {x : Str} {a : ME} {p q pos : Pos} (c : Ctx0 G X) (hg : Gl X "isinstance") (hm : X.mg "isinstance" = none) (hv : bootBuiltins "isinstance" = some (.builtin "isinstance")) (he : PE X e (tE G W C a))
    (hgT : Gl X x) (hmT : X.mg x = none) (hvT : bootBuiltins x = some (.type T.name)) (hn : x ≠ "__name__" := by decide) (hd : (x == ("__debug__" : Str)) = false := by decide)
    (h1 : starEach [e, .Name x q] X.env = (false, eval e X.env) :: starEach [.Name x q] X.env := by rfl) (h2 : starEach [.Name x q] X.env = (false, eval (.Name x q) X.env) :: starEach [] X.env := by rfl)
    (hpl : (backTo pos (starEach [.Name x q] X.env)).any (·.1) = false := by rfl) : PE X (.Call (.Name "isinstance" p) [e, .Name x q] [] pos) (tE G W C (e1 (opIsA T) a)) :=
  PE.weak (pe_callB call_isi hg hm hv (pa_cons he (pa_cons (pe_tyn hgT hmT hvT hn hd) pa_nil h2) h1) (he := h1) (hpl := hpl)) fun σ H Q h => by
    refine tX.imp (w1 (Rp := RepV G) (f := opIsA T) h) fun v H1 z => ?_
    obtain ⟨m, S, d, sim, rd, p⟩ := z
    unfold opIsA at p
    cases e1 : tyOf S d with
    | none => rw [e1] at p; exact p.elim
    | some t =>
      rw [e1] at p
      exact ⟨v, .ty T.name, .type t.name, .type T.name, t.le T, rfl, .ty _, tyx_of c.hK sim rd e1, kit_ty (kit_Ty t T), fin_val sim (.bl _) p⟩
theorem b_repr (c : Ctx0 G X) : CallR X (.builtin "repr") (rPA G bRepr) := by
  intro pins s σ H xs us Q I r h
  obtain ⟨m, S, as, sim, ra, p⟩ := h
  unfold bRepr at p
  split at p
  · rename_i y
    obtain ⟨x, rfl, rx⟩ := ra.one_
    obtain ⟨u, rfl, ru⟩ := vals1 r
    split at p
    · rename_i d hs
      split at p
      · rename_i hz
        have hsz : d.shown.length ≤ sizeLine := by rw [← line_eq]; exact hz.2
        obtain ⟨as, rd, dp, nd⟩ := snap_reads c.hK I sim _ _ _ _ _ rx hs ru
        have q : Q (.str d.shown) H := fin_val sim (show RepV G m H (.str d.shown) (.str d.shown.cps.toList) from .str d.shown.cps.toList) p
        have hu := c.hu
        have hdp : X.A.units + (d.depth + 1) < cLine := by
          have : deep = 40 := rfl
          omega
        have heap : ∀ (a : Addr), Reads s.heap (.ref a) d as → wpAny (model X.prog X.w) X.A (call (.builtin "repr") [.ref a]) (EP X pins σ Q) X.xe s := fun a rd =>
          PySem.repr_of_reads' rd hz.1 (fun z => by rw [nd] at z; cases z) c.gd hdp (fun _ _ e => e) (fun h' t tk hk => ⟨.str d.shown, H, I.kept (t' := tk) hk, ⟨t, rfl⟩, q⟩) hsz
        cases rd with
        | none => exact PySem.P.repr_of_none ⟨.str _, H, I.tok _, ⟨_, rfl⟩, q⟩
        | bool => exact PySem.P.repr_of_bool ⟨.str _, H, I.tok _, ⟨_, rfl⟩, q⟩
        | int => exact PySem.P.repr_of_int (of_decide_eq_true hz.1) ⟨.str _, H, I.tok _, ⟨_, rfl⟩, q⟩
        | str => exact PySem.P.repr_of_str ⟨.str _, H, I.tok _, ⟨_, rfl⟩, q⟩ hsz
        | list a1 a2 a3 a4 => exact heap _ (.list a1 a2 a3 a4)
        | tuple a1 a2 a3 a4 => exact heap _ (.tuple a1 a2 a3 a4)
        | dict a1 a2 a3 a4 a5 => exact heap _ (.dict a1 a2 a3 a4 a5)
      · exact p.elim
    · split at p
      · rename_i n
        split at p
        · rename_i hg
          obtain ⟨p1, rfl, hp⟩ := rx.ref_
          cases ru
          obtain ⟨p', kv, e1, hq, rk⟩ := sim.dct hg
          rw [hp] at e1
          cases e1
          cases rk
          obtain ⟨_, lo, vs, rel, o, es, ep, h1, h2, h3, _, h4, _⟩ := dk_of I.hok hq
          cases rel
          have he : es.toList = [] := by cases q : es.toList with
            | nil => rfl
            | cons a b => rw [q] at h4; cases h4
          have rd : Reads s.heap (.ref p1) (.dict []) (p1 :: [] ++ []) := .dict (kvs := []) h1 h2.1 h3 (by rw [he]; exact .nil) (by rw [he]; exact .nil)
          have hu := c.hu
          refine PySem.repr_of_reads' rd rfl (fun _ hm => ?_) c.gd (by show X.A.units + (1 + 1) < cLine; omega) (fun _ _ e => e) (fun h' t tk hk => ⟨.str ⟨#[123, 125]⟩, H, I.kept (t' := tk) hk, ⟨t, rfl⟩, ?_⟩) (by decide +kernel)
          · rcases List.mem_cons.mp hm with e | e
            · rw [e] at lo
              simp at lo
            · exact nomatch e
          · exact fin_val sim (show RepV G m H (.str ⟨#[123, 125]⟩) (.str [123, 125]) from .str [123, 125]) p
        · exact p.elim
      · exact p.elim
  · exact p.elim
end
/-- list(..) of a text, a list, a tuple -/
def bListX : List D → P D
  | [.str s] => fun S => if s.length ≤ line then some (.ref S.size, S.push (.lst (s.map fun c => .str [c]))) else none
  | [.ref n] => fun S => match S.get n with
    | some (.dct kvs) => some (.ref S.size, S.push (.lst (kvs.map (·.1))))
    | _ => bListS [.ref n] S
  | l => bListS l
theorem vals_signs {l : List Nat} : ∀ {acc : List Value} {k : Nat}, acc.length + k = l.length → (∀ j v, acc[j]? = some v → ∃ c u, l[k + j]? = some c ∧ v = .str ⟨#[c]⟩ u) → Vals ((l.drop k).map fun c => V.str ⟨#[c]⟩) acc
  | [], k, h, _ => by
    rw [List.drop_eq_nil_of_le (by simp at h; omega)]
    exact .nil
  | v :: acc, k, h, hj => by
    obtain ⟨c, u, e, rfl⟩ := hj 0 v rfl
    have hk : k < l.length := (List.getElem?_eq_some_iff.mp e).1
    have e2 : l[k] = c := (List.getElem?_eq_some_iff.mp e).2
    rw [List.drop_eq_getElem_cons hk, e2]
    refine .cons ⟨u, rfl⟩ (vals_signs (by simp at h; omega) fun j v q => ?_)
    obtain ⟨c', u', h1, h2⟩ := hj (j + 1) v q
    exact ⟨c', u', by rw [show k + 1 + j = k + (j + 1) by omega]; exact h1, h2⟩
theorem reps_signs {G : Gx} {m : List Addr} {H : Hp} : ∀ l : List Nat, RepVs G m H (l.map fun c => V.str ⟨#[c]⟩) (l.map fun c => D.str [c])
  | [] => .nil
  | a :: r => .cons (.str [a]) (reps_signs r)
theorem b_listX {G : Gx} {X : Cx} {W : WX} (c : Ctx G X W) : CallR X (.type "list") (rPA G bListX) := by
  intro pins s σ H xs us Q I r h
  obtain ⟨m, S, as, sim, ra, p⟩ := h
  unfold bListX at p
  split at p
  · rename_i l
    obtain ⟨x, rfl, rx⟩ := ra.one_
    cases rx.str_
    obtain ⟨u, rfl, t, rfl⟩ := vals1 r
    split at p
    · rename_i hz
      have hz' : l.length ≤ sizeLine := by rw [sizeLine_eq]; exact hz
      refine PySem.call_list_str (I.ok.hd c.calm) _ t (fun h' tk acc c' kp e it => ?_) (by show l.toArray.size ≤ sizeLine; simpa using hz')
      have hv : Vals (l.map fun c => V.str ⟨#[c]⟩) acc.toList := by
        have := vals_signs (l := l) (acc := acc.toList) (k := 0) (by have := it.1; simp at this ⊢; exact this) fun j v q => by
          obtain ⟨c, u, h1, h2⟩ := it.2 j v (by simpa using q)
          exact ⟨c, u, by simpa using h1, h2⟩
        simpa using this
      refine ⟨.ref s.heap.objs.size, _, I.laid (t' := tk) kp (Nat.le_refl _) (show ObjOk X.prog X.w _ h' _ (.lst _) from ⟨by simpa using hz', acc.toList, c', hv, by rw [Array.toArray_toList]; exact e⟩), rfl, ?_⟩
      exact new_lst sim (reps_signs l) p _ (I.hok.fresh (Nat.le_refl _))
    · exact p.elim
  · rename_i n
    split at p
    · rename_i kvs hg
      obtain ⟨x, rfl, rx⟩ := ra.one_
      obtain ⟨p1, rfl, hp⟩ := rx.ref_
      obtain ⟨p', kv, e1, hq, rk⟩ := sim.dct hg
      rw [hp] at e1
      cases e1
      exact call_listD c.calm pins s σ H _ us Q I r ⟨p1, kv, rfl, .inl hq, new_lst sim rk.keys p⟩
    · exact b_list c.hK pins s σ H xs us Q I r ⟨m, S, _, sim, ra, p⟩
  · exact b_list c.hK pins s σ H xs us Q I r ⟨m, S, as, sim, ra, p⟩
theorem bo_isinstance : bootBuiltins "isinstance" = some (.builtin "isinstance") := by decide +kernel
theorem bo_repr : bootBuiltins "repr" = some (.builtin "repr") := by decide +kernel
theorem bo_bool : bootBuiltins "bool" = some (.type "bool") := by decide +kernel
theorem bo_str : bootBuiltins "str" = some (.type "str") := by decide +kernel
theorem bo_dict : bootBuiltins "dict" = some (.type "dict") := by decide +kernel
end MP

/-! MP: extend, pop; abs, sum, max, min. Own work. -/
namespace MP
open PySem PySem.Spec PyProof.Rows L2
def mExtend : D → List D → P D
  | .ref n, [.ref k] => fun S => match S.get n, S.get k with
    | some (.lst xs), some (.lst ys) => if xs.length + ys.length ≤ line then some (.non, S.set n (.lst (xs ++ ys))) else none
    | _, _ => none
  | _, _ => P.bad
def mPop0 : D → List D → P D
  | .ref n, [] => fun S => match S.get n with
    | some (.lst xs) => (match xs[xs.length - 1]? with
      | some y => some (y, S.set n (.lst xs.dropLast))
      | none => none)
    | _ => none
  | _, _ => P.bad
def mPopAt : D → List D → P D
  | .ref n, [.int i] => fun S => match S.get n with
    | some (.lst xs) => if okR i = true then (match ixN xs.length i with
      | some k => (match xs[k]? with
        | some y => some (y, S.set n (.lst (xs.eraseIdx k)))
        | none => none)
      | none => none) else none
    | _ => none
  | _, _ => P.bad
def intsOf : List D → Option (List Int)
  | [] => some []
  | .int i :: r => (intsOf r).map (i :: ·)
  | _ => none
def bSum : List D → P D
  | [.ref n] => fun S => match lstAt S n with
    | some xs => (match intsOf xs with
      | some is => some (.int is.sum, S)
      | none => none)
    | none => none
  | _ => P.bad
def bMaxL : List D → P D
  | [.ref n] => fun S => match lstAt S n with
    | some xs => (match intsOf xs with
      | some is => (match is.max? with
        | some a => some (.int a, S)
        | none => none)
      | none => none)
    | none => none
  | _ => P.bad
def bMinL : List D → P D
  | [.ref n] => fun S => match lstAt S n with
    | some xs => (match intsOf xs with
      | some is => (match is.min? with
        | some a => some (.int a, S)
        | none => none)
      | none => none)
    | none => none
  | _ => P.bad
def bMax2 : List D → P D
  | [.int i, .int j] => P.ret (.int (if j > i then j else i))
  | _ => P.bad
def bMin2 : List D → P D
  | [.int i, .int j] => P.ret (.int (if j < i then j else i))
  | _ => P.bad
section
variable {G : Gx} {X : Cx} {W : WX} {C : Cfg} {m : List Addr} {H : Hp}
theorem ints_rep : ∀ {ds : List D} {is : List Int} {vs : List V}, intsOf ds = some is → RepVs G m H vs ds → vs = is.map V.int
  | [], is, vs, e, h => by
    unfold intsOf at e
    cases e
    exact h.nil_
  | .int b :: ds, is, vs, e, h => by
    unfold intsOf at e
    obtain ⟨is', e1, rfl⟩ := Option.map_eq_some_iff.mp e
    obtain ⟨v, w, rfl, a, r⟩ := h.cons_
    rw [a.int_, ints_rep e1 r]
    rfl
  | .non :: _, _, _, e, _ => by unfold intsOf at e; cases e
  | .bl _ :: _, _, _, e, _ => by unfold intsOf at e; cases e
  | .str _ :: _, _, _, e, _ => by unfold intsOf at e; cases e
  | .tup _ :: _, _, _, e, _ => by unfold intsOf at e; cases e
  | .ref _ :: _, _, _, e, _ => by unfold intsOf at e; cases e
  | .exn _ _ :: _, _, _, e, _ => by unfold intsOf at e; cases e
  | .lam _ _ :: _, _, _, e, _ => by unfold intsOf at e; cases e
theorem m_extend : MtR X "list.extend" (rMt G mExtend) := by
  intro pins s σ H x xs v us Q I rx rs h
  obtain ⟨m, S, d, as, sim, rd, ra, p⟩ := h
  unfold mExtend at p
  split at p
  · rename_i n k
    obtain ⟨q, rfl, hq⟩ := rd.ref_
    obtain ⟨w, rfl, rw'⟩ := ra.one_
    obtain ⟨q2, rfl, hq2⟩ := rw'.ref_
    split at p
    · rename_i xs ys hg hg2
      split at p
      · rename_i hz
        obtain ⟨q', vs, e1, e2, rv⟩ := sim.lst hg
        rw [hq] at e1
        cases e1
        obtain ⟨q', ws, e1, e3, rv2⟩ := sim.lst hg2
        rw [hq2] at e1
        cases e1
        have mu : Mut1 (H q) := by rw [e2]; trivial
        have ex : Ext G m H m (upd H q (.lst (vs ++ ws))) := Ext.mut mu
        exact mt_extend pins s σ H _ _ v us Q I rx rs ⟨q, q2, vs, ws, rfl, rfl, e2, e3, by rw [rv.length, rv2.length, ← line_eq]; exact hz,
          p m _ _ ex (sim_set sim hg rfl rfl hq mu (.lst upd_same ((rv.mono ex).append (rv2.mono ex)))) .non⟩
      · exact p.elim
    · exact p.elim
  · exact p.elim
theorem seqIx (i : Int) (n : Nat) : seqIndex? i n = ixN n i := by
  have e : seqIndex? i n = if (decide (0 ≤ (if i < 0 then i + n else i)) && decide ((if i < 0 then i + (n : Int) else i) < n)) = true then some (if i < 0 then i + (n : Int) else i).toNat else none := rfl
  rw [e]
  unfold ixN
  by_cases h : i < 0
  · rw [if_pos h, if_neg (show ¬ (0 ≤ i) by omega)]
    by_cases h2 : -(n : Int) ≤ i
    · rw [if_pos h2, if_pos]
      rw [Bool.and_eq_true, decide_eq_true_eq, decide_eq_true_eq]
      omega
    · rw [if_neg h2, if_neg]
      rw [Bool.and_eq_true, decide_eq_true_eq, decide_eq_true_eq]
      omega
  · rw [if_neg h, if_pos (show 0 ≤ i by omega)]
    by_cases h2 : i < n
    · rw [if_pos h2, if_pos]
      rw [Bool.and_eq_true, decide_eq_true_eq, decide_eq_true_eq]
      omega
    · rw [if_neg h2, if_neg]
      rw [Bool.and_eq_true, decide_eq_true_eq, decide_eq_true_eq]
      omega
theorem RepVs.dropLast {vs : List V} {ds : List D} (h : RepVs G m H vs ds) : RepVs G m H vs.dropLast ds.dropLast := by
  rw [List.dropLast_eq_take, List.dropLast_eq_take, h.length]; exact h.take _
theorem RepVs.erase {vs : List V} {ds : List D} (k : Nat) (h : RepVs G m H vs ds) : RepVs G m H (vs.eraseIdx k) (ds.eraseIdx k) := by
  rw [List.eraseIdx_eq_take_drop_succ, List.eraseIdx_eq_take_drop_succ]; exact (h.take _).append (h.drop _)
theorem m_pop0 : MtR X "list.pop" (rMt G mPop0) := by
  intro pins s σ H x xs v us Q I rx rs h
  obtain ⟨m, S, d, as, sim, rd, ra, p⟩ := h
  unfold mPop0 at p
  split at p
  · rename_i n
    obtain ⟨q, rfl, hq⟩ := rd.ref_
    cases ra.nil_
    split at p
    · rename_i xs hg
      split at p
      · rename_i y hy
        obtain ⟨q', vs, e1, e2, rv⟩ := sim.lst hg
        rw [hq] at e1
        cases e1
        obtain ⟨y', h1, h2⟩ := rv.get hy
        have mu : Mut1 (H q) := by rw [e2]; trivial
        have ex : Ext G m H m (upd H q (.lst vs.dropLast)) := Ext.mut mu
        exact mt_pop pins s σ H _ _ v us Q I rx rs ⟨q, vs, y', rfl, rfl, e2, by rw [rv.length]; exact h1,
          p m _ _ ex (sim_set sim hg rfl rfl hq mu (.lst upd_same (rv.mono ex).dropLast)) (h2.mono ex)⟩
      · exact p.elim
    · exact p.elim
  · exact p.elim
theorem m_popAt : MtR X "list.pop" (rMt G mPopAt) := by
  intro pins s σ H x xs v us Q I rx rs h
  obtain ⟨m, S, d, as, sim, rd, ra, p⟩ := h
  unfold mPopAt at p
  split at p
  · rename_i n i
    obtain ⟨q, rfl, hq⟩ := rd.ref_
    obtain ⟨w, rfl, rw'⟩ := ra.one_
    cases rw'.int_
    split at p
    · rename_i xs hg
      split at p
      · rename_i hi
        split at p
        · rename_i k hk
          split at p
          · rename_i y hy
            obtain ⟨q', vs, e1, e2, rv⟩ := sim.lst hg
            rw [hq] at e1
            cases e1
            obtain ⟨y', h1, h2⟩ := rv.get hy
            obtain ⟨b1, b2⟩ := okR_of hi
            have mu : Mut1 (H q) := by rw [e2]; trivial
            have ex : Ext G m H m (upd H q (.lst (vs.eraseIdx k))) := Ext.mut mu
            exact mt_popAt pins s σ H _ _ v us Q I rx rs ⟨q, vs, i, k, y', rfl, rfl, e2, by omega, by omega, by rw [seqIx, rv.length]; exact hk, h1,
              p m _ _ ex (sim_set sim hg rfl rfl hq mu (.lst upd_same ((rv.mono ex).erase k))) (h2.mono ex)⟩
          · exact p.elim
        · exact p.elim
      · exact p.elim
    · exact p.elim
  · exact p.elim
theorem b_abs : CallR X (.builtin "abs") (rPA G bAbs) := by
  intro pins s σ H xs us Q I r h
  obtain ⟨m, S, as, sim, ra, p⟩ := h
  unfold bAbs at p
  split at p
  · obtain ⟨x, rfl, rx⟩ := ra.one_
    cases rx.int_
    exact call_abs pins s σ H _ us Q I r ⟨_, rfl, fin_val sim (.int _) p⟩
  · exact p.elim
theorem b_max2 (c : Ctx G X W) : CallR X (.builtin "max") (rPA G bMax2) := by
  intro pins s σ H xs us Q I r h
  obtain ⟨m, S, as, sim, ra, p⟩ := h
  unfold bMax2 at p
  split at p
  · obtain ⟨x, y, rfl, rx, ry⟩ := ra.two_
    cases rx.int_
    cases ry.int_
    exact call_max2 c.calm pins s σ H _ us Q I r ⟨_, _, rfl, fin_val sim (.int _) p⟩
  · exact p.elim
theorem b_min2 (c : Ctx G X W) : CallR X (.builtin "min") (rPA G bMin2) := by
  intro pins s σ H xs us Q I r h
  obtain ⟨m, S, as, sim, ra, p⟩ := h
  unfold bMin2 at p
  split at p
  · obtain ⟨x, y, rfl, rx, ry⟩ := ra.two_
    cases rx.int_
    cases ry.int_
    exact call_min2 c.calm pins s σ H _ us Q I r ⟨_, _, rfl, fin_val sim (.int _) p⟩
  · exact p.elim
/-- the ints of a list, where it lies -/
theorem ints_at (hK : G.K = X.K) {S : Store} (sim : Sim G m S H) {n : Nat} {xs : List D} {is : List Int} (hl : lstAt S n = some xs) (hi : intsOf xs = some is) {v : V} (r : RepV G m H v (.ref n)) : ∃ q, v = .ref q ∧ SqL X.K H q (is.map V.int) := by
  obtain ⟨q, rfl, hq⟩ := r.ref_
  obtain ⟨q', vs, e1, hq', hv⟩ := sim.seqL hl
  rw [hq] at e1
  cases e1
  rw [ints_rep hi hv] at hq'
  exact ⟨q, rfl, hK ▸ hq'⟩
theorem b_sum (c : Ctx G X W) : CallR X (.builtin "sum") (rPA G bSum) := by
  intro pins s σ H xs us Q I r h
  obtain ⟨m, S, as, sim, ra, p⟩ := h
  unfold bSum at p
  split at p
  · obtain ⟨x, rfl, rx⟩ := ra.one_
    split at p
    · rename_i hl
      split at p
      · rename_i is hi
        obtain ⟨q, rfl, hq⟩ := ints_at c.hK sim hl hi rx
        exact cr_sum c.calm pins s σ H _ us Q I r ⟨q, is, rfl, hq, fin_val sim (.int _) p⟩
      · exact p.elim
    · exact p.elim
  · exact p.elim
theorem b_maxL (c : Ctx G X W) : CallR X (.builtin "max") (rPA G bMaxL) := by
  intro pins s σ H xs us Q I r h
  obtain ⟨m, S, as, sim, ra, p⟩ := h
  unfold bMaxL at p
  split at p
  · obtain ⟨x, rfl, rx⟩ := ra.one_
    split at p
    · rename_i hl
      split at p
      · rename_i is hi
        split at p
        · rename_i a ha
          obtain ⟨q, rfl, hq⟩ := ints_at c.hK sim hl hi rx
          refine cr_max c.calm pins s σ H _ us Q I r ⟨q, is, rfl, hq, ?_, fun b h1 h2 => ?_⟩
          · cases is with
            | nil => cases ha
            | cons a r => exact Nat.succ_pos _
          · have e := (List.max?_eq_some_iff (xs := is)).mp ha
            have : b = a := Int.le_antisymm (e.2 b h1) (h2 a e.1)
            rw [this]
            exact fin_val sim (.int _) p
        · exact p.elim
      · exact p.elim
    · exact p.elim
  · exact p.elim
theorem b_minL (c : Ctx G X W) : CallR X (.builtin "min") (rPA G bMinL) := by
  intro pins s σ H xs us Q I r h
  obtain ⟨m, S, as, sim, ra, p⟩ := h
  unfold bMinL at p
  split at p
  · obtain ⟨x, rfl, rx⟩ := ra.one_
    split at p
    · rename_i hl
      split at p
      · rename_i is hi
        split at p
        · rename_i a ha
          obtain ⟨q, rfl, hq⟩ := ints_at c.hK sim hl hi rx
          refine cr_min c.calm pins s σ H _ us Q I r ⟨q, is, rfl, hq, ?_, fun b h1 h2 => ?_⟩
          · cases is with
            | nil => cases ha
            | cons a r => exact Nat.succ_pos _
          · have e := (List.min?_eq_some_iff (xs := is)).mp ha
            have : b = a := Int.le_antisymm (h2 a e.1) (e.2 b h1)
            rw [this]
            exact fin_val sim (.int _) p
        · exact p.elim
      · exact p.elim
    · exact p.elim
  · exact p.elim
/-- a method without arguments -/
theorem r_bm0 {id T : String} {name : Str} {pos apos : Pos} {o : Expr} {eo : ME} {ty : D → Store → Bool} {f : D → List D → P D} (pa : PlainAttrs T) (slot : Slot T name id) (hto : typeOf (.builtin id) = pure (.type "method_descriptor")) (hm : MtR X id (rMt G f))
    (hty : ∀ m S H x d, Sim G m S H → RepV G m H x d → ty d S = true → tyV X.K T x H) (ho : PE X o (tE G W C eo))
    (hbase : attributeBase o name X.env (eval o X.env) = eval o X.env := by rfl) (hline : (apos.endLine == pos.line) = true := by rfl) :
    PE X (.Call (.Attribute o name apos) [] [] pos) (tE G W C (eBM ty f eo aNil)) :=
  PE.weak (pe_bm0 pa slot hto hm ho hbase hline) fun σ H Q h => by
    have h1 := tX.bind (Ra := RepV G) (k := fun C σ x S => if ty x S = true then ((aNil C σ).bind fun xs => M.of (f x xs)) S else .bad) h
    refine tX.imp h1 fun x H1 z => ?_
    obtain ⟨m, S, ls, d, s, r, rd, p⟩ := z
    simp only at p
    by_cases ht : ty d S = true
    · rw [if_pos ht] at p
      exact ⟨hty _ _ _ _ _ s rd ht, m, S, d, [], s, rd, .nil, post.of p⟩
    · rw [if_neg ht] at p
      exact p.elim
end
theorem bo_abs : bootBuiltins "abs" = some (.builtin "abs") := by decide +kernel
theorem bo_sum : bootBuiltins "sum" = some (.builtin "sum") := by decide +kernel
theorem bo_max : bootBuiltins "max" = some (.builtin "max") := by decide +kernel
theorem bo_min : bootBuiltins "min" = some (.builtin "min") := by decide +kernel
end MP

/-! MP: sorted over alike data. Own work. -/
namespace MP
open PySem PySem.Spec PyProof.Rows L2
def isTup1 : PyData → Bool
  | .tuple (_ :: _) => true
  | _ => false
def isPlainK : PyData → Bool
  | .none => false
  | .tuple _ => false
  | _ => true
def okSort (ds : List PyData) : Bool := (ds.all fun d => ds.all fun e => PySem.W.alike d e) && (ds.all isTup1 || ds.all isPlainK)
def leP (p q : D × PyData) : Bool := !PySem.W.dataLt q.2 p.2
def sortD (xs : List D) (ds : List PyData) : List D := ((xs.zip ds).mergeSort leP).map Prod.fst
def bSorted : List D → P D
  | [.ref n] => fun S => match lstAt S n with
    | some xs => (match snaps S deep xs with
      | some ds => if okSort ds = true then some (.ref S.size, S.push (.lst (sortD xs ds))) else none
      | none => none)
    | none => none
  | _ => P.bad
theorem okSort_spec {ds : List PyData} (h : okSort ds = true) : PySem.W.AllAlike ds ∧ PySem.W.Sortable ds := by
  unfold okSort at h
  rw [Bool.and_eq_true, Bool.or_eq_true] at h
  refine ⟨fun d hd e he => List.all_eq_true.mp (List.all_eq_true.mp h.1 d hd) e he, h.2.imp (fun z d hd => ?_) fun z d hd => ?_⟩
  · have := List.all_eq_true.mp z d hd
    cases d with
    | tuple l =>
      cases l with
      | nil => cases this
      | cons x r => exact ⟨x, r, rfl⟩
    | _ => cases this
  · have := List.all_eq_true.mp z d hd
    cases d with
    | none => cases this
    | tuple l => cases this
    | _ => exact ⟨(fun z => nomatch z), (fun _ z => nomatch z)⟩
section
variable {G : Gx} {X : Cx} {m : List Addr} {H : Hp} {pins : List (Addr × Obj)} {σ : L2.St} {s : Shared} {S : Store}
/-- a value that stands for an item, and reads so in the heap h -/
def SR1 (G : Gx) (m : List Addr) (H : Hp) (h : Heap) (u : Value) (p : D × PyData) : Prop := (∃ v, RepV G m H v p.1 ∧ RelV v u) ∧ (∃ as, Reads h u p.2 as) ∧ p.2.depth ≤ deep
theorem sr_all (hK : G.K = X.K) (I : Inv X pins σ H s) (sim : Sim G m S H) {h' : Heap} (hk : ∀ b o, s.heap.get? b = some o → h'.get? b = some o) : ∀ {xs : List D} {ds : List PyData} {vs : List V} {us : List Value}, snaps S deep xs = some ds → RepVs G m H vs xs → Vals vs us → PySem.W.EachIs (SR1 G m H h') us (xs.zip ds)
  | [], ds, vs, us, hb, rr, rw' => by
    rw [rr.nil_] at rw'
    cases rw'
    exact .nil
  | d :: xs, ds, vs, us, hb, rr, rw' => by
    unfold snaps optAll at hb
    obtain ⟨w, ws, rfl, r1, r2⟩ := rr.cons_
    cases rw' with
    | @cons _ y _ us' q1 q2 =>
      cases e1 : snap S deep d with
      | none => rw [e1] at hb; cases hb
      | some b =>
        cases e2 : optAll (snap S deep) xs with
        | none => rw [e1, e2] at hb; cases hb
        | some bs' =>
          rw [e1, e2] at hb
          cases hb
          obtain ⟨as, rd, dp, _⟩ := snap_reads hK I sim _ _ _ _ _ r1 e1 q1
          exact .cons ⟨⟨w, r1, q1⟩, ⟨as, PyProof.Rows.Reads.keeps hk rd⟩, dp⟩ (sr_all hK I sim hk (ds := bs') e2 r2 q2)
theorem sr_snd {R : Value → D × PyData → Prop} {R' : Value → PyData → Prop} (i : ∀ u p, R u p → R' u p.2) : ∀ {us : List Value} {ps : List (D × PyData)}, PySem.W.EachIs R us ps → PySem.W.EachIs R' us (ps.map Prod.snd)
  | _, _, .nil => .nil
  | _, _, .cons a b => .cons (i _ _ a) (sr_snd i b)
theorem each_snd {P : PyData → Prop} : ∀ {us : List Value} {ds : List PyData}, PySem.W.EachIs (fun _ d => P d) us ds → ∀ d ∈ ds, P d
  | _, _, .nil, _, hd => nomatch hd
  | _, _, .cons a b, d, hd => by
    rcases List.mem_cons.mp hd with z | z
    · rw [z]; exact a
    · exact each_snd b d z
theorem sr_fst {h : Heap} : ∀ {us : List Value} {ps : List (D × PyData)}, PySem.W.EachIs (SR1 G m H h) us ps → ∃ vs, RepVs G m H vs (ps.map Prod.fst) ∧ Vals vs us
  | _, _, .nil => ⟨[], .nil, .nil⟩
  | _, _, .cons a b => by
    obtain ⟨vs, h1, h2⟩ := sr_fst b
    obtain ⟨⟨v, h3, h4⟩, _⟩ := a
    exact ⟨v :: vs, .cons h3 h1, .cons h4 h2⟩
theorem zip_snd : ∀ {xs : List D} {ds : List PyData}, snaps S deep xs = some ds → (xs.zip ds).map Prod.snd = ds
  | [], ds, h => by unfold snaps optAll at h; cases h; rfl
  | d :: xs, ds, h => by
    unfold snaps optAll at h
    cases e1 : snap S deep d with
    | none => rw [e1] at h; cases h
    | some b =>
      cases e2 : optAll (snap S deep) xs with
      | none => rw [e1, e2] at h; cases h
      | some bs' =>
        rw [e1, e2] at h
        cases h
        show b :: (xs.zip bs').map Prod.snd = b :: bs'
        rw [zip_snd (xs := xs) (ds := bs') e2]
theorem b_sorted (c : Ctx0 G X) : CallR X (.builtin "sorted") (rPA G bSorted) := by
  intro pins s σ H xs us Q I r h
  obtain ⟨m, S, as, sim, ra, p⟩ := h
  unfold bSorted at p
  split at p
  · rename_i n
    obtain ⟨x, rfl, rx⟩ := ra.one_
    obtain ⟨q, rfl, hq⟩ := rx.ref_
    obtain ⟨u, rfl, ru⟩ := vals1 r
    cases ru
    split at p
    · rename_i ys hl
      split at p
      · rename_i ds hs
        split at p
        · rename_i hok
          obtain ⟨hal, hsb⟩ := okSort_spec hok
          obtain ⟨q', vs, e1, hq', hv⟩ := sim.seqL hl
          rw [hq] at e1
          cases e1
          obtain ⟨its, rv, pl, hz⟩ := I.list (c.hK ▸ hq')
          have hz' : its.length ≤ sizeLine := by rw [← rv.length]; exact hz
          have each := sr_all c.hK I sim (h' := PySem.W.sortingHeap (PySem.W.copyHeap s.heap its) (s.heap.objs.size + 1) its) (fun b o e => PySem.W.sorting_copy_old e) hs hv rv
          have dps : ∀ d ∈ ds, d.depth ≤ deep := fun d hd => by
            have e := sr_snd (R' := fun _ d => d.depth ≤ deep) (fun u p h => h.2.2) each
            rw [zip_snd hs] at e
            exact each_snd e d hd
          have e2 := sr_snd (R' := fun u d => ∃ as, Reads (PySem.W.sortingHeap (PySem.W.copyHeap s.heap its) (s.heap.objs.size + 1) its) u d as) (fun u p h => h.2.1) each
          rw [zip_snd hs] at e2
          have hu := c.hu
          refine PySem.W.sorted_vals pl.isList (PySem.W.SortsAt.data (s := { s with heap := PySem.W.sortingHeap (PySem.W.copyHeap s.heap its) (s.heap.objs.size + 1) its }) e2 hal hsb fun d hd => by
            have := dps d hd
            show X.A.units + 1 + 1 + d.depth < cLine
            have : deep = 40 := rfl
            omega) hz' ?_
          have out := PySem.W.sortVals_each (κ := PySem.W.dataKind (PySem.W.sortingHeap (PySem.W.copyHeap s.heap its) (s.heap.objs.size + 1) its) ds) (rev := false) (fun p : D × PyData => PySem.W.keyToks p.2) each (by
            have mem : ∀ {us : List Value} {ps : List (D × PyData)}, PySem.W.EachIs (SR1 G m H (PySem.W.sortingHeap (PySem.W.copyHeap s.heap its) (s.heap.objs.size + 1) its)) us ps → (∀ p ∈ ps, p.2 ∈ ds) → PySem.W.EachIs (fun v (b : D × PyData) => (PySem.W.dataKind (PySem.W.sortingHeap (PySem.W.copyHeap s.heap its) (s.heap.objs.size + 1) its) ds).keyOf v = some (PySem.W.keyToks b.2)) us ps := by
              intro us ps h hm
              induction h with
              | nil => exact .nil
              | cons a _ ih =>
                obtain ⟨_, ⟨as, rd⟩, _⟩ := a
                exact .cons (PySem.W.dataKind_some hal (hm _ (List.mem_cons_self ..)) rd) (ih fun p hp => hm p (List.mem_cons_of_mem _ hp))
            exact mem each fun p hp => (List.of_mem_zip hp).2)
          obtain ⟨ws, h1, h2⟩ := sr_fst out
          obtain ⟨ep, he'⟩ := PyProof.Rows.sortedAll_at s.heap its (PySem.W.sortVals (PySem.W.dataKind (PySem.W.sortingHeap (PySem.W.copyHeap s.heap its) (s.heap.objs.size + 1) its) ds) false its its).toArray
          have hlen : ws.length ≤ sizeLine := by
            rw [h2.length, PySem.W.sortVals_length _ rfl]
            exact hz'
          exact ⟨.ref _, upd H (s.heap.objs.size + 1) (.lst ws), I.laid (t' := s.toks) (fun _ _ => PyProof.Rows.sortedAll_old) (Nat.le_succ _) ⟨hlen, _, ep, h2, he'⟩, rfl, new_lst sim h1 p _ (I.hok.fresh (Nat.le_succ _))⟩
        · exact p.elim
      · exact p.elim
    · exact p.elim
  · exact p.elim
end
theorem bo_sorted : bootBuiltins "sorted" = some (.builtin "sorted") := by decide +kernel
end MP

/-! MP: a list grown by a tuple; a list turned round. Own work. -/
namespace MP
open PySem PySem.Spec PyProof.Rows L2
section
open PySem.AutoSeq1
theorem meets_ext_tup (l : Addr) (its : Array Value) (n : Nat) (b : Addr) (its2 : Array Value) (n2 : Nat) (dd : Option Addr) (sl : Array (Option Value)) (h0 : ¬(!its.isEmpty && Builtin.List.listTooLong (its.size + its2.size)) = true) (h1 : its.size ≤ sizeLine) (h2 : its.size + its2.size ≤ sizeLine + 1) :
    Meets (Builtin.«list.extend» ⟨[.ref l, .ref b], []⟩) (fun _ R s => s.heap.get? l = some { cls := .type "list", dict := none, data := .seq its n, slots := #[] } ∧ s.heap.get? b = some { cls := .type "tuple", dict := dd, data := .seq its2 n2, slots := sl } ∧
      R (.ok (.ret Value.none)) { s with heap := s.heap.update l (Obj.mapSeq fun x => x ++ its2), toks := s.toks }) :=
  .of_wp fun prog w A R s h => by
    obtain ⟨hp, g, d, tk, os⟩ := s
    obtain ⟨hl, hb, h⟩ := h
    have f1 := AutoSeq1.idx_int
    have f2 := AutoSeq1.sub_tuple_tuple
    have f3 := AutoSeq1.sub_list_list
    have f4 := AutoSeq1.sub_tuple_list
    have f5 := AutoSeq1.sub_list_tuple
    have hz' : (its ++ its2).size ≤ sizeLine + 1 := by rw [Array.size_append]; exact h2
    wp_walk using (wpAny_updateSeq hl rfl (hz := h1) (_hz' := hz')), wpAny_loadPart' hl, wpAny_loadPart' hb
    exact ⟨_, rfl, h⟩
end
/-- l.extend(..) of a list, a tuple -/
def mExtendX : D → List D → P D
  | .ref n, [.tup ys] => fun S => match S.get n with
    | some (.lst xs) => if xs.length + ys.length ≤ line then some (.non, S.set n (.lst (xs ++ ys))) else none
    | _ => none
  | x, l => mExtend x l
section
variable {G : Gx} {X : Cx} {W : WX} {C : Cfg}
theorem m_extendX (hK : G.K = X.K) : MtR X "list.extend" (rMt G mExtendX) := by
  intro pins s σ H x xs v us Q I rx rs h
  obtain ⟨m, S, d, as, sim, rd, ra, p⟩ := h
  unfold mExtendX at p
  split at p
  · rename_i n ys
    obtain ⟨q, rfl, hq⟩ := rd.ref_
    obtain ⟨w, rfl, rw'⟩ := ra.one_
    obtain ⟨q2, ws, rfl, hq2, rv2⟩ := rw'.tup_
    split at p
    · rename_i xs hg
      split at p
      · rename_i hz
        obtain ⟨q', vs, e1, e2, rv⟩ := sim.lst hg
        rw [hq] at e1
        cases e1
        cases rx
        obtain ⟨u, rfl, ru⟩ := rs.one
        cases ru
        obtain ⟨z, its, n1, r, hl, e⟩ := I.lstM e2
        obtain ⟨its2, r2, pt, _⟩ := I.tuple (hK ▸ hq2)
        obtain ⟨o, ho, hc, n2, hd⟩ := pt
        obtain ⟨oc, od, dt, sl⟩ := o
        simp only at hc hd
        subst hc hd
        have hz2 : its.length + its2.length ≤ sizeLine := by
          rw [← r.length, ← r2.length, rv.length, rv2.length, ← line_eq]; exact hz
        have hsz : its.toArray.size + its2.toArray.size ≤ sizeLine := by rw [List.size_toArray, List.size_toArray]; exact hz2
        have hlong : ¬ (!its.toArray.isEmpty && Builtin.List.listTooLong (its.toArray.size + its2.toArray.size)) = true := by
          rw [notLongL hsz, Bool.and_false]
          exact Bool.false_ne_true
        have mu : Mut1 (H q) := by rw [e2]; trivial
        have ex : Ext G m H m (upd H q (.lst (vs ++ ws))) := Ext.mut mu
        refine call_meets PySem.F.slot_list_extend ⟨_, e, rfl⟩ PySem.F.entry_list_extend (PySem.F.args_list_extend_2 _ _)
          (meets_ext_tup q its.toArray n1 q2 its2.toArray n2 od sl hlong (by rw [List.size_toArray]; omega) (by omega)) ⟨e, ho, ?_⟩
        refine ⟨.non, _, I.lset (its' := its ++ its2) e2 e (by simp) (r.append r2) ?_, rfl, p m _ _ ex (sim_set sim hg rfl rfl hq mu (.lst upd_same ((rv.mono ex).append (rv2.mono ex)))) .non⟩
        rw [List.length_append, r.length, r2.length]
        exact hz2
      · exact p.elim
    · exact p.elim
  · exact m_extend pins s σ H x xs v us Q I rx rs ⟨m, S, d, as, sim, rd, ra, p⟩
/-- l[::-1], a list -/
theorem r_rev {e : Expr} {a : ME} {k : Nat} {p1 p2 p3 pos : Pos} (hK : G.K = X.K) (he : PE X e (tE G W C a)) : PE X (.Subscript e (.Slice none none (some (.UnaryOp .USub (.Constant (.int 1) k p1) p2)) p3) pos) (tE G W C (e1 opRev a)) :=
  PE.weak (pe_revL he) fun σ H Q h => by
    refine tX.imp (w1 (Rp := RepV G) (f := opRev) h) fun v H1 z => ?_
    obtain ⟨m, S, d, sim, rd, p⟩ := z
    unfold opRev at p
    split at p
    · rename_i n
      obtain ⟨q, rfl, hq⟩ := rd.ref_
      split at p
      · rename_i xs hg
        obtain ⟨q', vs, e1, e2, rv⟩ := sim.lst hg
        rw [hq] at e1
        cases e1
        exact ⟨q, vs, rfl, .inl (.inl e2), new_lst sim rv.reverse p⟩
      · exact p.elim
    · exact p.elim
end
end MP

/-! MP: a display of two texts, looked up where it stands. Own work. -/
namespace MP
open PySem PySem.Spec PyProof.Rows L2
def opDix (kvs : List (List Nat × List Nat)) : D → P D
  | .str s => fun S => match kvs.lookup s with
    | some v => some (.str v, S)
    | none => none
  | _ => P.bad
section
variable {G : Gx} {X : Cx} {W : WX} {C : Cfg}
theorem var_v {i : Nat} {σ : L2.St} {H : Hp} {Q : VK} (h : tE G W C (eVar i) σ H Q) : tVar i σ H Q := by
  obtain ⟨m, S, ls, s, r, p⟩ := h
  unfold eVar at p
  split at p
  · rename_i d e
    split at p
    · exact p.elim
    · rename_i hx
      obtain ⟨v, h1, h2⟩ := r.2 i d e
      exact ⟨v, h1, p m H v Ext.refl s (h2.rep (by simpa using hx))⟩
  · exact p.elim
theorem r_dix {a b u v : Str} {la lb lu lv : List Nat} {j1 j2 j3 j4 : Nat} {p1 p2 p3 p4 dp pos xp : Pos} {x : Str} (i : Nat) (c : Ctx0 G X) (ha : a.cps.toList = la) (hb : b.cps.toList = lb) (hu : u.cps.toList = lu) (hv' : v.cps.toList = lv) (hab : la ≠ lb)
    (hN : X.N[i]? = some x := by rfl) (hv : Vis X.env.scope x := by first | exact .inl rfl | exact .inr (.inl rfl) | exact .inr (.inr rfl)) (hd : (x == ("__debug__" : Str)) = false := by decide) (hcd : (x == ("__classdict__" : Str)) = false := by decide) :
    PE X (.Subscript (.Dict [some (.Constant (.str a) j1 p1), some (.Constant (.str b) j2 p2)] [.Constant (.str u) j3 p3, .Constant (.str v) j4 p4] dp) (.Name x xp) pos) (tE G W C (e1 (opDix [(la, lu), (lb, lv)]) (eVar i))) := by
  have hcu := c.hu
  have mk : ∀ {s : Str} {l : List Nat}, s.cps.toList = l → s = ⟨l.toArray⟩ := fun {s l} h => by cases s; subst h; simp
  have z1 := mk ha
  have z2 := mk hb
  have z3 := mk hu
  have z4 := mk hv'
  subst z1 z2 z3 z4
  refine PE.weak (pe_dget (by omega) (pe_disp (pps_cons pe_str pe_str (pps_cons pe_str pe_str pps_nil)) rfl rfl (by simp) (by simp)) (pe_var hN hv hd hcd) (fun _ _ => rfl)) fun σ H Q h => ?_
  obtain ⟨w, hw, m, S, d, sim, rd, p⟩ := var_v (w1 (Rp := RepV G) (f := opDix [(la, lu), (lb, lv)]) h)
  intro q hq
  have hne : (Sum.inr (⟨la.toArray⟩ : Str) : L2.Key) ≠ Sum.inr (⟨lb.toArray⟩ : Str) := fun z => hab (by have y := congrArg (fun t : Str => t.cps.toList) (Sum.inr.inj z); simpa using y)
  refine ⟨upd_same, [(Sum.inr (⟨la.toArray⟩ : Str), .str ⟨lu.toArray⟩), (Sum.inr (⟨lb.toArray⟩ : Str), .str ⟨lv.toArray⟩)], rfl, by simp, w, hw, q, ?_⟩
  rw [upd_upd]
  have em : mergeK [] [((Sum.inr (⟨la.toArray⟩ : Str) : L2.Key), V.str ⟨lu.toArray⟩), (Sum.inr (⟨lb.toArray⟩ : Str), V.str ⟨lv.toArray⟩)] = [(Sum.inr (⟨la.toArray⟩ : Str), V.str ⟨lu.toArray⟩), (Sum.inr (⟨lb.toArray⟩ : Str), V.str ⟨lv.toArray⟩)] := by
    unfold mergeK
    simp [putK, hne]
  rw [em]
  unfold opDix at p
  split at p
  · rename_i l
    cases rd.str_
    have ex : Ext G m H m (upd H q (.dK [(Sum.inr (⟨la.toArray⟩ : Str), V.str ⟨lu.toArray⟩), (Sum.inr (⟨lb.toArray⟩ : Str), V.str ⟨lv.toArray⟩)])) := Ext.new hq
    have sm := sim_same (u := .dK [(Sum.inr (⟨la.toArray⟩ : Str), V.str ⟨lu.toArray⟩), (Sum.inr (⟨lb.toArray⟩ : Str), V.str ⟨lv.toArray⟩)]) sim hq
    by_cases e1 : l = la
    · subst e1
      have e : ([(l, lu), (lb, lv)] : List (List Nat × List Nat)).lookup l = some lu := by simp [List.lookup]
      rw [e] at p
      refine ⟨.str ⟨lu.toArray⟩, rfl, ?_, ?_⟩
      · have g := DGet.k (H := upd H q (.dK [(Sum.inr (⟨l.toArray⟩ : Str), V.str ⟨lu.toArray⟩), (Sum.inr (⟨lb.toArray⟩ : Str), V.str ⟨lv.toArray⟩)])) (a := q) (k := Sum.inr (⟨l.toArray⟩ : Str)) upd_same
        rw [valV_pos rfl] at g
        exact g
      · exact p m _ _ ex sm (.str lu)
    · by_cases e2 : l = lb
      · subst e2
        have e : ([(la, lu), (l, lv)] : List (List Nat × List Nat)).lookup l = some lv := by
          have z : (l == la) = false := beq_eq_false_iff_ne.mpr e1
          simp [List.lookup, z]
        rw [e] at p
        refine ⟨.str ⟨lv.toArray⟩, rfl, ?_, ?_⟩
        · have g := DGet.k (H := upd H q (.dK [(Sum.inr (⟨la.toArray⟩ : Str), V.str ⟨lu.toArray⟩), (Sum.inr (⟨l.toArray⟩ : Str), V.str ⟨lv.toArray⟩)])) (a := q) (k := Sum.inr (⟨l.toArray⟩ : Str)) upd_same
          have ev : valV [((Sum.inr (⟨la.toArray⟩ : Str) : L2.Key), V.str ⟨lu.toArray⟩), (Sum.inr (⟨l.toArray⟩ : Str), V.str ⟨lv.toArray⟩)] (Sum.inr (⟨l.toArray⟩ : Str)) = some (.str ⟨lv.toArray⟩) := by simp [valV, List.find?_cons, hne]
          rw [ev] at g
          exact g
        · exact p m _ _ ex sm (.str lv)
      · have e : ([(la, lu), (lb, lv)] : List (List Nat × List Nat)).lookup l = none := by
          have z : (l == la) = false := beq_eq_false_iff_ne.mpr e1
          have z' : (l == lb) = false := beq_eq_false_iff_ne.mpr e2
          simp [List.lookup, z, z']
        rw [e] at p
        exact p.elim
  · exact p.elim
end
end MP

/-! MP: own exceptions over any built-in base: made, raised. Own work (after the layer's way with ValueError). -/
namespace PySem
namespace MPX
open PySem.W PySem.Calls PyProof.Rows PySem.HandSPX Builtin Builtin.ObjectAttr
/-- a built-in base of exceptions -/
structure EB (B newId initId : String) (bm : List Value) : Prop where
  f : ExcBaseFacts B newId initId bm
  pass : ∀ self, refuseLoop self "__setattr__" bm = pure ()
  obj : bm.contains (.type "object") = true
section
variable {prog : Program} {w : World} {A : Around} {E : Value → Shared → Prop} {R : Result → Shared → Prop} {hp : Heap} {g : Array GenState} {d : Drawn} {t : Nat} {os : OsState} {B newId initId : String} {bm : List Value}
theorem osa_first {K : W.Frag} {fld : Str} {tk : Tok} {val : Value} {x C : Addr} {arr : Array Value} {cd : ClassData} (eb : EB B newId initId bm)
    (hk : K.In hp) (ob : hp.get? x = some { cls := .ref C, data := .fields arr }) (isC : W.clsIn K C = some cd) (mr : cd.mro = .ref C :: bm) (dd : cd.hasDict = true) (no : W.findIn K (.ref C) fld = some none)
    (fin : ∀ h2 tk2 dx, (∀ b o, b ≠ x → hp.get? b = some o → h2.get? b = some o) → hp.objs.size ≤ dx → dx ≠ x → h2.get? x = some { cls := .ref C, dict := some dx, data := .fields arr } →
      h2.Ns1 dx (fun y => if y = fld then some val else none) → R (.ok (.ret .none)) ⟨h2, g, d, tk2, os⟩) :
    codeAny (model prog w) A (.call (.builtin "object.__setattr__") ⟨[.ref x, .str fld tk, val], []⟩) R ⟨hp, g, d, t, os⟩ := by
  have inst : W.InstAt hp x { cls := .ref C, data := .fields arr } C none := ⟨ob, rfl, rfl, trivial⟩
  have st := F.store_object
  have nonempty : cd.mro.isEmpty = false := by rw [mr]; rfl
  have isObj : cd.mro.contains (.type "object") = true := by rw [mr, List.contains_cons, eb.obj, Bool.or_true]
  have apart : x ≠ hp.objs.size := Nat.ne_of_lt (Heap.lt_size ob)
  have lkS : W.Looks (model prog w) hp (isInstance (.ref x) (.type "object")) true := inst.type.andThen (W.looks_mroIn hk (by unfold W.mroIn; rw [isC, Option.bind_some, if_neg (by rw [nonempty]; decide), isObj]))
  refine codeAny_call_builtin st.slot.plain st.entry (@W.check_slot (model prog w) _ _ ⟨hp, g, d, t, os⟩ "object.__setattr__" "object" "__setattr__" (.ref x) [.str fld tk, val] [] _ st.kind st.split lkS (st.args (.ref x) (.str fld tk) val) ?_)
  have lkM : W.Looks (model prog w) hp (mroOf (.ref C)) cd.mro := (W.looks_clsIn hk isC).andThen .now
  have lkT : W.Looks (model prog w) hp (storeTaker? none) none := .now
  have lkC : W.Looks (model prog w) hp (classData C) cd := W.looks_clsIn hk isC
  rw [W.osa_eq, refuse_eq]
  refine wpAny_bind (wpAny_bind (inst.type.at (wpAny_bind (lkM.at ?_))))
  rw [mr, refuseLoop_ref, eb.pass]
  refine wpAny_pure (wpAny_bind (inst.type.at (wpAny_bind ((W.looks_findIn hk no).at (wpAny_bind (lkT.at ?_))))))
  show wpAny _ _ (storeInOwnDict (.ref x) (.ref C) (.str fld tk) fld val false) _ _ _
  obtain ⟨nm, bs, mro, ns, qn, hd, sn, sb, ab, col, del⟩ := cd
  dsimp only at dd
  subst dd
  unfold storeInOwnDict ownDictForStores
  repeat (first | with_reducible refine store_in_new ?_ ?_ | with_reducible refine wpAny_loadPart_at ob ?_ | with_reducible refine lkC.at ?_ | wp_step)
  · exact ⟨_, #[], _, (Heap.get?_update_ne _ _ _ _ apart.symm).trans (Heap.get?_push_at rfl rfl), rfl, fun e he => absurd he (by simp), fun _ => rfl⟩
  · intro h2 tk2 ns2 same
    have ob2 : (hp.push { cls := .type "dict", data := .dict #[] }).get? x = some { cls := .ref C, data := .fields arr } := Heap.get?_push_of_some _ ob
    refine fin h2 tk2 hp.objs.size (fun b o hb ho => ?_) (Nat.le_refl _) apart.symm ?_ ns2
    · exact (same.2 b (Nat.ne_of_lt (Heap.lt_size ho))).trans ((Heap.get?_update_ne _ _ _ _ hb).trans (Heap.get?_push_of_some _ ho))
    · exact (same.2 x apart).trans (Heap.get?_update_self _ ob2 rfl)
end
theorem eb_VE : EB "ValueError" "ValueError.__new__" "ValueError.__init__" [.type "ValueError", .type "Exception", .type "BaseException", .type "object"] := ⟨F.excBase_ValueError, fun s => F.store_ValueError.passes s, by decide +kernel⟩
theorem eb_LE : EB "LookupError" "LookupError.__new__" "LookupError.__init__" [.type "LookupError", .type "Exception", .type "BaseException", .type "object"] := ⟨F.excBase_LookupError, fun s => F.store_LookupError.passes s, by decide +kernel⟩
theorem eb_RE : EB "RuntimeError" "RuntimeError.__new__" "RuntimeError.__init__" [.type "RuntimeError", .type "Exception", .type "BaseException", .type "object"] := ⟨F.excBase_RuntimeError, fun s => F.store_RuntimeError.passes s, by decide +kernel⟩
theorem eb_OE : EB "OverflowError" "OverflowError.__new__" "OverflowError.__init__" [.type "OverflowError", .type "ArithmeticError", .type "Exception", .type "BaseException", .type "object"] := ⟨F.excBase_OverflowError, fun s => F.store_OverflowError.passes s, by decide +kernel⟩
end MPX
end PySem
namespace MP
open PySem PySem.Spec PyProof.Rows L2 PySem.MPX

/-- a built-in base, as the text names it -/
structure EBase (B newId initId : String) (bm : List Value) : Prop where
  eb : EB B newId initId bm
  ty : typeOf (.type B) = pure (.type "type")
  stub : Manifest.isStub B = false
  boot : bootBuiltins (Str.ofString B) = some (.type B)
  init : ∀ K : PySem.W.Frag, PySem.W.findCls K (.type B) (.type "type") "__init__" = some (.val (.builtin initId))
  han : PySem.W.handedIn (.builtin initId) = true
theorem ebase_VE : EBase "ValueError" "ValueError.__new__" "ValueError.__init__" [.type "ValueError", .type "Exception", .type "BaseException", .type "object"] := ⟨eb_VE, by kernel_rfl, by decide +kernel, by decide +kernel, fun K => by kernel_rfl, by decide +kernel⟩
theorem ebase_LE : EBase "LookupError" "LookupError.__new__" "LookupError.__init__" [.type "LookupError", .type "Exception", .type "BaseException", .type "object"] := ⟨eb_LE, by kernel_rfl, by decide +kernel, by decide +kernel, fun K => by kernel_rfl, by decide +kernel⟩
theorem ebase_RE : EBase "RuntimeError" "RuntimeError.__new__" "RuntimeError.__init__" [.type "RuntimeError", .type "Exception", .type "BaseException", .type "object"] := ⟨eb_RE, by kernel_rfl, by decide +kernel, by decide +kernel, fun K => by kernel_rfl, by decide +kernel⟩
theorem ebase_OE : EBase "OverflowError" "OverflowError.__new__" "OverflowError.__init__" [.type "OverflowError", .type "ArithmeticError", .type "Exception", .type "BaseException", .type "object"] := ⟨eb_OE, by kernel_rfl, by decide +kernel, by decide +kernel, fun K => by kernel_rfl, by decide +kernel⟩
/-- an own class straight over it -/
structure EC (K : PySem.W.Frag) (C : Addr) (newId : String) (bm : List Value) : Prop where
  cls : ∃ nm q N bs sn sub ab col dd k0 k1 k2 k3 k5, K.lookup C = some (excClassObj nm q C N bs bm true sn sub ab col dd k0 k1 k2 k3 k5 newId)
  sa : PySem.W.findIn K (.ref C) "__setattr__" = some (some (.builtin "object.__setattr__"))
  exC : PySem.W.subIn K (.ref C) (.type "BaseException") = some true
  tyC : PySem.W.typeIn K (.ref C) = some (.type "type")
  kC : PySem.W.keepIn K (.ref C) = true
def ecL (K : PySem.W.Frag) (C : Addr) (newId : String) (bm : List Value) : Bool := match K.lookup C with
  | some ⟨.type ty, _, .cls cd, sl⟩ => (match sl.toList with
    | [_, _, _, _, some (.builtin n), _] => decide (ty = "type") && (decide (n = newId) && (!cd.hasDel && (cd.hasDict && decide (cd.mro = .ref C :: bm))))
    | _ => false)
  | _ => false
def ecB (K : PySem.W.Frag) (C : Addr) (newId : String) (bm : List Value) : Bool := ecL K C newId bm && (decide (PySem.W.findIn K (.ref C) "__setattr__" = some (some (.builtin "object.__setattr__"))) && (decide (PySem.W.subIn K (.ref C) (.type "BaseException") = some true) &&
  (decide (PySem.W.typeIn K (.ref C) = some (.type "type")) && PySem.W.keepIn K (.ref C))))
theorem ecB_ok {K : PySem.W.Frag} {C : Addr} {newId : String} {bm : List Value} (h : ecB K C newId bm = true) : EC K C newId bm := by
  unfold ecB at h
  simp only [Bool.and_eq_true, decide_eq_true_eq] at h
  obtain ⟨h0, h1, h2, h3, h4⟩ := h
  refine ⟨?_, h1, h2, h3, h4⟩
  unfold ecL at h0
  split at h0
  · rename_i ty dd cd sl ho
    split at h0
    · rename_i k0 k1 k2 k3 n k5 hs
      simp only [Bool.and_eq_true, decide_eq_true_eq, Bool.not_eq_true'] at h0
      obtain ⟨rfl, rfl, e3, e4, e5⟩ := h0
      obtain ⟨nm, bs, mro, ns, qn, hd, sn, sub, ab, col, del⟩ := cd
      dsimp only at e3 e4 e5
      subst e3 e4 e5
      obtain ⟨l⟩ := sl
      simp only at hs
      subst hs
      exact ⟨nm, qn, ns, bs, sn, sub, ab, col, dd, k0, k1, k2, k3, k5, ho⟩
    · cases h0
  · cases h0

section
variable {X : Cx} {pins : List (Addr × Obj)} {σ : L2.St} {H : Hp} {s : Shared} {a C : Addr} {fld : Str} {y : V} {u : Value} {A : Around} {E : Value → Shared → Prop} {B newId initId : String} {bm : List Value}
/-- self.f = y on an exception just made -/
theorem exc_first {Q : Unit → Shared → Prop} (eb : EBase B newId initId bm) (T : EC X.K C newId bm) (I : Inv X pins σ H s) (e : H a = some (exo a C none)) (no : PySem.W.findIn X.K (.ref C) fld = some none) (ry : RelV y u)
    (fin : ∀ dx s2, H dx = none → dx ≠ a → Inv X pins σ (upd (upd H dx (exd dx [(fld, y)])) a (exo a C (some dx))) s2 → Q () s2) : wpAny (model X.prog X.w) A (setAttr (.ref a) fld u) Q E s := by
  obtain ⟨nm, q, N, bs, sn, sub, ab, col, dd, k0, k1, k2, k3, k5, hC⟩ := T.cls
  have isC : PySem.W.clsIn X.K C = some { name := nm, bases := bs, mro := .ref C :: bm, ns := N, qualname := q, hasDict := true, slotNames := sn, subclasses := sub, abstract := ab, collection := col, hasDel := false } := by unfold PySem.W.clsIn; rw [hC] <;> rfl
  obtain ⟨t1, ob⟩ := exo_at I.hok e
  obtain ⟨hp, g, d, t, os⟩ := s
  refine PySem.W.set_plain I.kIn (ox := { cls := .ref C, dict := none, data := .fields #[.ref t1, .none, .none, .none, .bool false, .none] }) (od := none) ⟨ob, rfl, rfl, trivial⟩ T.sa ?_
  refine osa_first eb.eb I.kIn ob isC rfl rfl no (fun h2 tk2 dx kp far apart ob2 ns2 => ?_)
  have fr : H dx = none := I.hok.fresh far
  have young : ∀ {b : Addr} {o : Obj}, hp.get? b = some o → b ≠ dx := fun {b o} z => Nat.ne_of_lt (Nat.lt_of_lt_of_le (Heap.lt_size z) far)
  have notA : ∀ {b : Addr}, H b = none → b ≠ a := fun {b} n z => by
    subst z
    rw [e] at n
    cases n
  have U : Un X.fs [] H (upd (upd H dx (exd dx [(fld, y)])) a (exo a C (some dx))) hp h2 := {
    keep := fun b o z n _ _ => kp b o (notA n) z
    slot := fun b o z n _ _ => ⟨o.slots, kp b o (notA n) z⟩
    free := fun b o z n _ => by rw [upd_ne (notA n), upd_ne (young z)]; exact n
    there := fun b o z _ => by
      by_cases same : b = a
      · exact ⟨_, by rw [same]; exact ob2⟩
      · exact ⟨o, kp b o same z⟩
    tups := fun b xs z => by rw [upd_ne (at_ne e z exo_tup), upd_ne (ne_of_none z fr)]; exact z
    frzs := fun b o v z => by rw [upd_ne (at_ne e z exo_frz), upd_ne (ne_of_none z fr)]; exact z
    tbls := fun b ps z => ⟨#[], by rw [upd_ne (at_ne e z exo_tbl), upd_ne (ne_of_none z fr), z]; simp⟩ }
  refine fin dx _ fr apart (I.un (t' := tk2) U fun b o z => ?_)
  by_cases same : b = a
  · subst same
    rw [upd_same] at z
    cases z
    exact exo_ok ob2
  · rw [upd_ne same] at z
    by_cases isD : b = dx
    · subst isD
      rw [upd_same] at z
      cases z
      exact exd_ok ns2 (relO_put (fs := []) ry fun g => True.intro)
    · rw [upd_ne isD] at z
      refine (I.hok b o z).stay (fun c v hc z2 => kp c v ?_ z2) (fun c hc => ?_) (fun c xs hc => ?_)
      · rcases hc with hc | hc
        · rw [hc]; exact same
        · exact at_ne e hc exo_own
      · rw [upd_ne (at_ne e hc exo_own), upd_ne (ne_of_none hc fr)]; exact hc
      · rw [upd_ne (at_ne e hc exo_tup), upd_ne (ne_of_none hc fr)]; exact hc
/-- the base's __init__(self, ..) -/
theorem base_init {us : List Value} {Q : Value → Shared → Prop} (eb : EBase B newId initId bm) (T : EC X.K C newId bm) (I : Inv X pins σ H s) (e : H a = some (exo a C none)) (hl : us.length ≤ sizeLine) (fin : ∀ s2, Inv X pins σ H s2 → Q .none s2) :
    wpAny (model X.prog X.w) A (call (.builtin initId) (.ref a :: us)) Q E s := by
  obtain ⟨nm, q, N, bs, sn, sub, ab, col, dd, k0, k1, k2, k3, k5, hC⟩ := T.cls
  obtain ⟨t1, ob⟩ := exo_at I.hok e
  obtain ⟨hp, g, d, t, os⟩ := s
  refine wpAny_call (PySem.HandSPX.init_base eb.eb.f (fun _ => rfl) (I.kIn _ _ hC) ob hl fun h2 t2 kp ob2 => ?_)
  have J := I.write (t' := t) (x := a) (e := a) (o := exo a C none) (by rw [e]; exact True.intro) (.inl rfl) kp ⟨_, ob2⟩ (exo_ok ob2)
  have same : upd H a (exo a C none) = H := by
    funext b
    by_cases z : b = a
    · rw [z, upd_same, e]
    · rw [upd_ne z]
  rw [same] at J
  exact fin _ J
end
/-! ### the text of such an __init__ -/
def tEI (C : Addr) (ta : TA) : TE := fun σ H Q => ta σ H fun vs H1 => ∃ (a : Addr) (ws : List V), vs = .ref a :: ws ∧ ws.length ≤ 1000 ∧ H1 a = some (exo a C none) ∧ Q .non H1
def tES (C : Addr) (f : Str) (to te : TE) : TS := fun D σ H => te σ H fun y H1 => to σ H1 fun x H2 => ∃ a : Addr, x = .ref a ∧ H2 a = some (exo a C none) ∧
  ∀ dx, H2 dx = none → dx ≠ a → D.nx σ (upd (upd H2 dx (exd dx [(f, y)])) a (exo a C (some dx)))
section
variable {X : Cx} {C : Addr} {o e : Expr} {es : List Expr} {to te : TE} {ta : TA} {f : Str} {p p' p1 p2 pos : Pos} {B newId initId : String} {bm : List Value}
theorem e_init {pl : Sem Bool} (eb : EBase B newId initId bm) (T : EC X.K C newId bm) (hg : Gl X (Str.ofString B)) (hm : X.mg (Str.ofString B) = none) (hn : Str.ofString B ≠ "__name__") (hdb : (Str.ofString B == ("__debug__" : Str)) = false) (ha : PA X (e :: es) ta)
    (hc : eval (.Call (.Attribute (.Name (Str.ofString B) p1) "__init__" p2) (e :: es) [] pos) X.env = (do
      let ov ← eval (.Name (Str.ofString B) p1) X.env
      standAt p2.atName
      let (g, first) ← holding [ov] (getMethod ov "__init__" pl)
      callWith pos g first (backTo pos (starEach (e :: es) X.env)) (backToKw pos (keywordEach [] X.env))) := by rfl)
    (he : starEach (e :: es) X.env = (false, eval e X.env) :: starEach es X.env := by rfl) (hpl : (backTo pos (starEach es X.env)).any (·.1) = false := by rfl) :
    PE X (.Call (.Attribute (.Name (Str.ofString B) p1) "__init__" p2) (e :: es) [] pos) (tEI C ta) := by
  refine ⟨fun pins s σ H Q I h => ?_⟩
  refine PySem.W.methodCall_KW (ld_blt I hg hm eb.boot ?_ hn hdb) hc
  obtain ⟨m, fr⟩ := I.fr
  refine PySem.W.method_type fr I.ok.mod.kin eb.ty eb.stub (eb.init _) eb.han ?_
  show wpAny _ _ (callWith pos (Value.builtin initId) [] (backTo pos (starEach (e :: es) X.env)) []) _ _ _
  refine PyProof.Rows.callWith_method1 (thn (ha.run pos pins _ σ H _ (I.tok _) h) fun us s1 ⟨vs, H1, I1, rv, a, ws, ev, hl, ea, q⟩ => ?_) he hpl
  subst ev
  cases rv with
  | @cons _ u0 _ ur ra rw2 =>
    obtain rfl : u0 = Value.ref a := ra
    have len : ur.length ≤ sizeLine := by
      rw [← Paired.length rw2, sizeLine_eq]
      omega
    exact base_init eb T I1 ea len fun s2 J => ⟨.non, H1, J, rfl, q⟩
theorem e_set (eb : EBase B newId initId bm) (T : EC X.K C newId bm) (no : PySem.W.findIn X.K (.ref C) f = some none) (ho : PE X o to) (he : PE X e te) (hs : swapsWith e (some (.Attribute o f p')) pos.line X.env = pure false := by rfl) :
    PS X (.Assign [.Attribute o f p'] e pos) (tES C f to te) := by
  refine ⟨fun pins s σ H D I h => ?_⟩
  refine plainObj_wpAny_Assign_Attribute (thn (he.run pins s σ H _ I h) fun v s1 ⟨y, H1, I1, ry, z⟩ => thn (ho.run pins s1 σ H1 _ I1 z) fun u s2 ⟨x, H2, I2, rx, a, ex, ea, z2⟩ => ?_) hs
  subst ex
  obtain rfl : u = Value.ref a := rx
  exact exc_first eb T I2 ea no ry fun dx s3 n ne J => ⟨σ, _, J, z2 dx n ne⟩
end

/-- what such an __init__ keeps: one field, or none -/
def spX (C : Addr) : Option Str → Sp
  | none => fun vs H Q _ => ∃ a : Addr, vs = [.ref a] ∧ H a = some (exo a C none) ∧ Q .non H
  | some f => fun vs H Q _ => ∃ (a : Addr) (y : V), vs = [.ref a, y] ∧ H a = some (exo a C none) ∧ ∀ dx, H dx = none → dx ≠ a → Q .non (upd (upd H dx (exd dx [(f, y)])) a (exo a C (some dx)))
def tIni0 (C : Addr) (m : Str) : TS := tDrop (tEI C (tCons (tVar 0) (tCons (tC (.str m)) tNil)))
def tIni1 (C : Addr) (m f : Str) : TS := tSeq (tDrop (tEI C (tCons (tVar 0) (tCons (tC (.str m)) tNil)))) (tES C f (tVar 0) (tVar 1))
theorem ini0_fin {C : Addr} {m : Str} {N : List Str} (hN : N.length = 1) {vs : List V} {H : Hp} {Q : VK} {E : XK} (h : spX C none vs H Q E) : tIni0 C m { nx := fun _ H' => Q .non H', rt := Q } (L2.start N vs) H := by
  obtain ⟨a, rfl, ea, q⟩ := h
  exact ⟨.ref a, rfl, a, [.str m], rfl, by simp, ea, q⟩
theorem ini1_fin {C : Addr} {m f : Str} {N : List Str} (hN : N.length = 2) {vs : List V} {H : Hp} {Q : VK} {E : XK} (h : spX C (some f) vs H Q E) : tIni1 C m f { nx := fun _ H' => Q .non H', rt := Q } (L2.start N vs) H := by
  obtain ⟨a, y, rfl, ea, q⟩ := h
  exact ⟨.ref a, rfl, a, [.str m], rfl, by simp, ea, y, rfl, .ref a, rfl, a, rfl, ea, q⟩
section
variable {P : Program} {w : World} {K : PySem.W.Frag} {mg : Str → Option Value} {base : Heap} {x qual : Str} {params : Arguments} {body : List Stmt} {scope : Scope} {dvs : List V} {kws : List (Str × V)} {f : Addr} {fd : FuncData} {k : Nat} {C : Addr} {m fld p1 : Str}
theorem ini0_ok (F : FunD K x qual params body scope dvs kws f fd) (S : FnScope ["self"] ["self"] scope)
    (der : ∀ (cdv : Value) (A : Around) (outer : List Env) (s : Shared) (H : Hp) (E : XK), PSs (cxOf (L2.CX P w) P w K mg base ["self"] qual scope f cdv A outer s H E) body (tIni0 C m)) : FnOk P w K mg base (L2.CX P w) (k + 1) f fd ["self"] (spX C none) :=
  F.ok S (fun vs H Q E h => by obtain ⟨a, rfl, _⟩ := h; rfl) fun cdv A outer s H vs Q E hr h => ⟨_, der cdv A outer s H E, ini0_fin rfl h⟩
theorem ini1_ok (F : FunD K x qual params body scope dvs kws f fd) (S : FnScope ["self", p1] ["self", p1] scope)
    (der : ∀ (cdv : Value) (A : Around) (outer : List Env) (s : Shared) (H : Hp) (E : XK), PSs (cxOf (L2.CX P w) P w K mg base ["self", p1] qual scope f cdv A outer s H E) body (tIni1 C m fld)) : FnOk P w K mg base (L2.CX P w) (k + 1) f fd ["self", p1] (spX C (some fld)) :=
  F.ok S (fun vs H Q E h => by obtain ⟨a, y, rfl, _⟩ := h; rfl) fun cdv A outer s H vs Q E hr h => ⟨_, der cdv A outer s H E, ini1_fin rfl h⟩
end
/-! ### C(..), an exception that is made -/
/-- the state without the new exception -/
theorem made_end {X : Cx} {pins : List (Addr × Obj)} {σ : L2.St} {H1 H2 H3 : Hp} {hp hp2 h2 : Heap} {g1 g2 : Array GenState} {d1 d2 : Drawn} {t1 t2 : Nat} {os1 os2 : OsState} {a C : Addr} {d : Option Addr} {fs : List (Str × V)} {Q : XK} (T : Raises X (.ref C)) (I1 : Inv X pins σ H1 ⟨hp, g1, d1, t1, os1⟩)
    (far : hp.objs.size ≤ a) (kp : ∀ b o, hp.get? b = some o → hp2.get? b = some o) (un : Un (frs X.stack) [] (upd H1 a (exo a C none)) H2 hp2 h2) (hok : HOk X.prog X.w H2 h2) (ho : os2 = os1) (hb : AllBare g2)
    (ea : H2 a = some (exo a C d)) (cs : (d = none ∧ H3 = del H2 a) ∨ ∃ x, d = some x ∧ H2 x = some (exd x fs) ∧ H1 x = none ∧ H3 = upd (del H2 a) x (.xd fs)) (q : Q (.ref C) d H3) : MkP X pins σ Q (.ref a) ⟨h2, g2, d2, t2, os2⟩ := by
  obtain ⟨t0, obE⟩ := exo_at hok ea
  have fr : H1 a = none := I1.hok.fresh far
  obtain ⟨gr, gA, gB⟩ := restrict h2 fun b => decide (b ≠ a)
  have gk : ∀ b, b ≠ a → gr.get? b = h2.get? b := fun b hb => gA b (decide_eq_true hb)
  have ge : gr.get? a = none := gB a (by simp)
  have old : ∀ {b : Addr} {o : Obj}, hp.get? b = some o → b ≠ a := fun {b o} z => Nat.ne_of_lt (Nat.lt_of_lt_of_le (Heap.lt_size z) far)
  have up : ∀ {b : Addr}, b ≠ a → H1 b = none → upd H1 a (exo a C none) b = none := fun {b} hb n => by rw [upd_ne hb]; exact n
  -- where the two heaps differ
  have h3 : ∀ b, b ≠ a → (∀ x, d = some x → b ≠ x) → H3 b = H2 b := fun b n1 n2 => by
    rcases cs with ⟨_, rfl⟩ | ⟨x, e, _, _, rfl⟩
    · exact del_ne n1
    · rw [upd_ne (n2 x e), del_ne n1]
  have notX : ∀ {b x : Addr} {u : HO}, d = some x → H1 b = some u → b ≠ x := fun {b x u} e z => by
    rcases cs with ⟨e2, _⟩ | ⟨x2, e2, _, n, _⟩
    · rw [e2] at e; cases e
    · rw [e2] at e; cases e
      exact ne_of_none z n
  have H3a : H3 a = none := by
    rcases cs with ⟨_, rfl⟩ | ⟨x, _, ex, _, rfl⟩
    · exact del_same
    · have : a ≠ x := fun z => by
        subst z
        rw [ea] at ex
        have z2 := Option.some.inj ex
        obtain ⟨_, ns, _⟩ := exd_at hok (dx := a) (by rw [ea, z2])
        obtain ⟨ob, es, ep, e1, e2, _⟩ := ns
        rw [obE] at e1
        have z3 := Option.some.inj e1
        subst z3
        cases e2
      rw [upd_ne this, del_same]
  have free2 : ∀ {b : Addr} {o : Obj}, hp.get? b = some o → H1 b = none → H2 b = none := fun {b o} z n => un.free b o (kp b o z) (up (old z) n) (by simp)
  have U : Un (frs X.stack) [] H1 H3 hp gr := {
    keep := fun b o z n hf hx => by
      rw [gk b (old z)]
      exact un.keep b o (kp b o z) (up (old z) n) hf hx
    slot := fun b o z n hf hx => by
      rw [gk b (old z)]
      exact un.slot b o (kp b o z) (up (old z) n) hf hx
    free := fun b o z n hx => by
      have n2 := free2 z n
      rw [h3 b (old z) fun x e y => by
        subst y
        rcases cs with ⟨e2, _⟩ | ⟨x2, e2, ex, _, _⟩
        · rw [e2] at e; cases e
        · rw [e2] at e; cases e
          rw [n2] at ex; cases ex]
      exact n2
    there := fun b o z hx => by
      rw [gk b (old z)]
      exact un.there b o (kp b o z) hx
    tups := fun b xs z => by
      rw [h3 b (ne_of_none z fr) fun x e => notX e z]
      exact un.tups b xs (by rw [upd_ne (ne_of_none z fr)]; exact z)
    frzs := fun b o v z => by
      rw [h3 b (ne_of_none z fr) fun x e => notX e z]
      exact un.frzs b o v (by rw [upd_ne (ne_of_none z fr)]; exact z)
    tbls := fun b ps z => by
      rw [h3 b (ne_of_none z fr) fun x e => notX e z]
      exact un.tbls b ps (by rw [upd_ne (ne_of_none z fr)]; exact z) }
  have hok3 : HOk X.prog X.w H3 gr := fun b o z => by
    have nba : b ≠ a := fun e => by rw [e, H3a] at z; cases z
    have stays : ∀ o', H2 b = some o' → ObjOk X.prog X.w H3 gr b o' := fun o' z2 => by
      have noa : ∀ {c : Addr}, H2 c = some (.own b) → c ≠ a := fun {c} hc => at_ne ea hc exo_own
      refine (hok b o' z2).stay (fun c v hc y => ?_) (fun c hc => ?_) (fun c xs hc => ?_)
      · have nca : c ≠ a := by
          rcases hc with hc | hc
          · rw [hc]; exact nba
          · exact noa hc
        rw [gk c nca]
        exact y
      · rw [h3 c (noa hc) fun x e y => by
          subst y
          rcases cs with ⟨e2, _⟩ | ⟨x2, e2, ex, _, _⟩
          · rw [e2] at e; cases e
          · rw [e2] at e; cases e
            rw [hc] at ex
            exact exd_own (Option.some.inj ex).symm]
        exact hc
      · rw [h3 c (at_ne ea hc exo_tup) fun x e y => by
          subst y
          rcases cs with ⟨e2, _⟩ | ⟨x2, e2, ex, _, _⟩
          · rw [e2] at e; cases e
          · rw [e2] at e; cases e
            rw [hc] at ex
            exact exd_tup (Option.some.inj ex).symm]
        exact hc
    rcases cs with ⟨e2, rfl⟩ | ⟨x, e2, ex, nx, rfl⟩
    · rw [del_ne nba] at z
      exact stays o z
    · by_cases bx : b = x
      · subst bx
        rw [upd_same] at z
        cases z
        obtain ⟨mA, ns, rel⟩ := exd_at hok ex
        exact ⟨mA, ns.at fun o y => (gk b nba).trans y, rel⟩
      · rw [upd_ne bx, del_ne nba] at z
        exact stays o z
  have J : Inv X pins σ H3 ⟨gr, g2, d2, t2, os2⟩ := I1.call' (ch := []) ho U hok3 hb (fun b z => absurd z (by simp))
  refine ⟨a, _, _, ⟨gr, g2, d2, t2, os2⟩, H3, .ref C, d, rfl, J, fun b o z => ?_, ge, obE, ⟨rfl, rfl⟩, rfl, rfl, H3a, rfl, hb, T, q⟩
  by_cases nba : b = a
  · rw [nba, ge] at z
    cases z
  · exact (gk b nba).symm.trans z

/-- a class whose instances are made and raised -/
structure XcC (G : Gx) (P : Program) (w : World) (K : PySem.W.Frag) (mg : Str → Option Value) (base : Heap) (k : Nat) (c : Nat) (fn : Option Nat) : Prop where
  ex : ∃ (B newId initId : String) (bm : List Value) (fI : Addr) (fd : FuncData) (ps : List Str), EBase B newId initId bm ∧ EC K (G.ne.cls c) newId bm ∧ PySem.W.findIn K (.ref (G.ne.cls c)) "__init__" = some (some (.ref fI)) ∧
    PySem.W.typeIn K (.ref fI) = some (.type "function") ∧ FnOk P w K mg base (L2.CX P w) (k + 1) fI fd ps (spX (G.ne.cls c) (fn.map G.ne.fld)) ∧ L2.Binds K fd ps []
section
variable {G : Gx} {X : Cx} {W : WX} {C : Cfg} {k c : Nat} {fn : Option Nat} {x : Str} {p pos : Pos}
/-- the new exception's dict -/
def Made (H1 : Hp) (fs : Option (List (Str × V))) (d : Option Addr) (H2 : Hp) : Prop := match fs with
  | none => d = none ∧ H2 = H1
  | some l => ∃ x, d = some x ∧ H1 x = none ∧ H2 = upd H1 x (.xd l)
theorem run_exc {pins : List (Addr × Obj)} {σ : L2.St} {H1 : Hp} {s1 : Shared} {Q : XK} {us : List Value} {vs : List V} (q : XcC G X.prog X.w X.K X.mg X.base k c fn) (hr : Room (k + 2) X.A) (I1 : Inv X pins σ H1 s1) (rv : Vals vs us) (fs : Option (List (Str × V))) (len : us.length ≤ 1000)
    (sh : ∀ (a : Addr) (Q2 : VK), H1 a = none → (∀ d H2, H2 a = some (exo a (G.ne.cls c) d) → ((d = none ∧ fs = none ∧ H2 = upd H1 a (exo a (G.ne.cls c) none)) ∨ ∃ x l, d = some x ∧ fs = some l ∧ H1 x = none ∧ x ≠ a ∧ H2 = upd (upd (upd H1 a (exo a (G.ne.cls c) none)) x (exd x l)) a (exo a (G.ne.cls c) (some x))) → Q2 .non H2) →
      spX (G.ne.cls c) (fn.map G.ne.fld) (.ref a :: vs) (upd H1 a (exo a (G.ne.cls c) none)) Q2 fun _ _ _ => False)
    (fin : ∀ d H2, Made H1 fs d H2 → Q (.ref (G.ne.cls c)) d H2) : wpAny (model X.prog X.w) X.A (call (.ref (G.ne.cls c)) us) (MkP X pins σ Q) X.xe s1 := by
  obtain ⟨B, newId, initId, bm, fI, fd, ps, eb, T, iC, tI, F1, hb⟩ := q.ex
  generalize G.ne.cls c = Cl at *
  obtain ⟨nm, qn, N, bs, sn, sub, ab, col, dd, k0, k1, k2, k3, k5, hC⟩ := T.cls
  obtain ⟨hp, g, dr, tk, os⟩ := s1
  have far : hp.objs.size ≤ hp.objs.size + 1 := Nat.le_succ _
  have fr : H1 (hp.objs.size + 1) = none := I1.hok.fresh far
  have hq := sh (hp.objs.size + 1) (fun v H2 => v = .non ∧ ∃ d, H2 (hp.objs.size + 1) = some (exo (hp.objs.size + 1) Cl d) ∧ ((d = none ∧ fs = none ∧ H2 = upd H1 (hp.objs.size + 1) (exo (hp.objs.size + 1) Cl none)) ∨
    ∃ x l, d = some x ∧ fs = some l ∧ H1 x = none ∧ x ≠ hp.objs.size + 1 ∧ H2 = upd (upd (upd H1 (hp.objs.size + 1) (exo (hp.objs.size + 1) Cl none)) x (exd x l)) (hp.objs.size + 1) (exo (hp.objs.size + 1) Cl (some x)))) fr fun d H2 e1 e2 => ⟨rfl, d, e1, e2⟩
  have kp : ∀ b o, hp.get? b = some o → ((hp.push (PySem.W.kdv_tup us)).push (PySem.HandSPX.excO Cl hp.objs.size)).get? b = some o := fun b o e => Heap.get?_push_of_some _ (Heap.get?_push_of_some _ e)
  have ob : ((hp.push (PySem.W.kdv_tup us)).push (PySem.HandSPX.excO Cl hp.objs.size)).get? (hp.objs.size + 1) = some (PySem.HandSPX.excO Cl hp.objs.size) := by heap_get
  have I2 : Inv X pins σ (upd H1 (hp.objs.size + 1) (exo (hp.objs.size + 1) Cl none)) ⟨(hp.push (PySem.W.kdv_tup us)).push (PySem.HandSPX.excO Cl hp.objs.size), g, dr, tk, os⟩ :=
    I1.laid (t' := tk) (a := hp.objs.size + 1) (o := exo (hp.objs.size + 1) Cl none) (h' := (hp.push (PySem.W.kdv_tup us)).push (PySem.HandSPX.excO Cl hp.objs.size)) kp far (exo_ok ob)
  have rr : Vals (V.ref (hp.objs.size + 1) :: vs) (Value.ref (hp.objs.size + 1) :: us) := .cons rfl rv
  have len2 : (Value.ref (hp.objs.size + 1) :: us).length = ps.length := by
    have z := rr.length
    rw [F1.len _ _ _ _ hq] at z
    exact z.symm
  have bn := hb _ (Value.ref (hp.objs.size + 1) :: us) I2.kIn (by rw [List.append_nil]; exact len2)
  rw [List.append_nil] at bn
  have hus : us.length ≤ sizeLine := by rw [sizeLine_eq]; omega
  refine wpAny_call (PySem.HandSPX.call_own eb.eb.f (fun _ => rfl) (I1.kIn _ _ hC) (PySem.W.looks_findIn I1.kIn iC) (fun self => PySem.W.bind_fn I1.kIn self tI) hus
    (codeAny_mono (F1.run _ X.stack _ _ ⟨Value.ref (hp.objs.size + 1) :: us, []⟩ (Value.ref (hp.objs.size + 1) :: us) _ _ (fun _ _ _ => False) (hr.make Cl us []) (I2.env0.make Cl us []) bn rr hq) fun r s2 z => ?_))
  cases r with
  | error er =>
    obtain ⟨_, _, _, _, _, _, _, _, _, _, _, _, no⟩ := z
    exact no.elim
  | ok fl =>
    cases fl with
    | ret u =>
      obtain ⟨v, H2, os2, bare2, un2, hok2, rvv, ev, d, ea, cs⟩ := z
      subst ev
      obtain ⟨h2, g2, d2, t2, os'⟩ := s2
      refine ⟨rvv, ?_⟩
      rcases cs with ⟨rfl, rfl, rfl⟩ | ⟨y, l, rfl, rfl, ny, na, rfl⟩
      · refine made_end (H3 := H1) (fs := []) (raises_own T.exC T.tyC) I1 far kp un2 hok2 os2 bare2 ea (.inl ⟨rfl, ?_⟩) (fin none H1 ⟨rfl, rfl⟩)
        funext b
        by_cases hb2 : b = hp.objs.size + 1
        · rw [hb2, del_same, fr]
        · rw [del_ne hb2, upd_ne hb2]
      · refine made_end (H3 := upd H1 y (.xd l)) (fs := l) (raises_own T.exC T.tyC) I1 far kp un2 hok2 os2 bare2 ea (.inr ⟨y, rfl, ?_, ny, ?_⟩) (fin (some y) _ ⟨y, rfl, ny, rfl⟩)
        · rw [upd_ne na, upd_same]
        · funext b
          by_cases hb2 : b = y
          · rw [hb2, upd_same, upd_same]
          · rw [upd_ne hb2, upd_ne hb2]
            by_cases hb3 : b = hp.objs.size + 1
            · rw [hb3, del_same, fr]
            · rw [del_ne hb3, upd_ne hb3, upd_ne hb2, upd_ne hb3]
    | next => exact z.elim
    | brk => exact z.elim
    | cont => exact z.elim
theorem mk_one {e : Expr} {ta : TA} {f : Nat} (q : XcC G X.prog X.w X.K X.mg X.base k c (some f)) (hr : Room (k + 2) X.A) (hg : Gl X x) (hm : X.mg x = some (.ref (G.ne.cls c))) (ha : PA X [e] ta)
    (hdb : (x == ("__debug__" : Str)) = false := by decide) (he : starEach [e] X.env = (false, eval e X.env) :: starEach [] X.env := by rfl) (hpl : (backTo pos (starEach [] X.env)).any (·.1) = false := by rfl) :
    PMk X (.Call (.Name x p) [e] [] pos) (fun σ H Q => ta σ H fun vs H1 => ∃ y, vs = [y] ∧ ∀ d H2, Made H1 (some [(G.ne.fld f, y)]) d H2 → Q (.ref (G.ne.cls c)) d H2) := by
  intro pins s σ H Q I h
  have kC : PySem.W.keepIn X.K (.ref (G.ne.cls c)) = true := by obtain ⟨_, _, _, _, _, _, _, _, T, _⟩ := q.ex; exact T.kC
  refine wpAny_Call_Name_kw (ld_glob I hg hm ?_ hdb)
  refine PySem.W.callWith_K (h₀ := X.base) I.ok.mod.kin kC (thn (ha.run pos pins s σ H _ I h) fun us s1 ⟨vs, H1, I1, rv, y, ev, z⟩ => ⟨I1.kIn, ?_⟩) he hpl
  subst ev
  refine run_exc q hr I1 rv (some [(G.ne.fld f, y)]) (by have := rv.length; simp at this ⊢; omega) (fun a Q2 fr g => ⟨a, y, rfl, upd_same, fun dx n ne => g (some dx) _ upd_same (.inr ⟨dx, _, rfl, rfl, ?_, ne, rfl⟩)⟩) z
  rw [upd_ne ne] at n
  exact n
theorem mk_none (q : XcC G X.prog X.w X.K X.mg X.base k c none) (hr : Room (k + 2) X.A) (hg : Gl X x) (hm : X.mg x = some (.ref (G.ne.cls c))) (hdb : (x == ("__debug__" : Str)) = false := by decide) :
    PMk X (.Call (.Name x p) [] [] pos) (fun _ H Q => ∀ d H2, Made H none d H2 → Q (.ref (G.ne.cls c)) d H2) := by
  intro pins s σ H Q I h
  have kC : PySem.W.keepIn X.K (.ref (G.ne.cls c)) = true := by obtain ⟨_, _, _, _, _, _, _, _, T, _⟩ := q.ex; exact T.kC
  refine wpAny_Call_Name_kw (ld_glob I hg hm ?_ hdb)
  exact PySem.W.callWith_K0 I.kIn kC (run_exc (us := []) q hr I .nil none (by simp) (fun a Q2 fr g => ⟨a, rfl, upd_same, g none _ upd_same (.inl ⟨rfl, rfl, rfl⟩)⟩) h)
/-! ### raise C(..) -/
theorem made_ext {m : List Addr} {H1 : Hp} {fs : Option (List (Str × V))} {d : Option Addr} {H2 : Hp} {S : Store} (s : Sim G m S H1) (h : Made H1 fs d H2) : Ext G m H1 m H2 ∧ Sim G m S H2 := by
  unfold Made at h
  cases fs with
  | none =>
    obtain ⟨_, rfl⟩ := h
    exact ⟨Ext.refl, s⟩
  | some l =>
    obtain ⟨x, _, n, rfl⟩ := h
    exact ⟨Ext.new n, sim_same s n⟩
theorem s_raise1 {e : Expr} {f : Nat} {a : ME} {rpos : Pos} (cx : Ctx G X W) (q : XcC G X.prog X.w X.K X.mg X.base k c (some f)) (hr : Room (k + 2) X.A) (hg : Gl X x) (hm : X.mg x = some (.ref (G.ne.cls c))) (he1 : PE X e (tE G W C a))
    (hdb : (x == ("__debug__" : Str)) = false := by decide) (he : starEach [e] X.env = (false, eval e X.env) :: starEach [] X.env := by rfl) (hpl : (backTo pos (starEach [] X.env)).any (·.1) = false := by rfl) :
    PS X (.Raise (some (.Call (.Name x p) [e] [] pos)) none rpos) (tS G W C (sRaise c [f] (aCons a aNil))) :=
  PS.weak (ps_raise cx.calm cx.tk (mk_one q hr hg hm (r_cons he1 r_nil he) hdb he hpl)) fun D σ H ⟨m, S, ls, s, r, p⟩ => by
    refine ⟨m, S, ls, s, r, ?_⟩
    unfold sRaise at p
    cases w : aCons a aNil C ls S with
    | bad => rw [w] at p; exact p
    | ex c2 fs S2 => rw [w] at p; exact fun m2 H2 d x2 s2 rx => p m2 H2 d σ x2 s2 (r.mono x2) rx
    | ok ds S2 =>
      rw [w] at p
      intro m2 H2 vs x2 s2 rv
      simp only at p
      by_cases hl : ds.length = [f].length
      · rw [if_pos hl] at p
        obtain ⟨d1, rfl⟩ : ∃ d1, ds = [d1] := by
          match ds, hl with
          | [d1], _ => exact ⟨d1, rfl⟩
        obtain ⟨y, rfl, ry⟩ := rv.one_
        refine ⟨y, rfl, fun d H3 md => ?_⟩
        obtain ⟨ex3, s3⟩ := made_ext s2 md
        obtain ⟨xd, rfl, n, rfl⟩ := md
        exact p m2 _ (some xd) σ (x2.trans ex3) s3 (r.mono (x2.trans ex3)) (.some upd_same (.cons (ry.mono ex3) .nil))
      · rw [if_neg hl] at p
        exact p.elim
theorem s_raise0 {rpos : Pos} (cx : Ctx G X W) (q : XcC G X.prog X.w X.K X.mg X.base k c none) (hr : Room (k + 2) X.A) (hg : Gl X x) (hm : X.mg x = some (.ref (G.ne.cls c))) (hdb : (x == ("__debug__" : Str)) = false := by decide) :
    PS X (.Raise (some (.Call (.Name x p) [] [] pos)) none rpos) (tS G W C (sRaise c [] aNil)) :=
  PS.weak (ps_raise cx.calm cx.tk (mk_none q hr hg hm hdb)) fun D σ H ⟨m, S, ls, s, r, p⟩ => by
    rintro d H2 ⟨rfl, rfl⟩
    exact p m _ none σ Ext.refl s r .nil
end
end MP

/-! MP: try with except clauses, named or not. Own work (after the layer's ways with each kind). -/
namespace MP
open PySem PySem.Spec PyProof.Rows L2

/-- an except clause of the text: the class, the slot of its name, what its suite does -/
abbrev Cl := Value × Option Nat × (Addr → Value → Option Addr → TS)
/-- the ends behind a suite: the name goes -/
def goneE (o : Option Nat) (D : Ends) : Ends := match o with
  | none => D
  | some i => { nx := fun σ H => D.nx (σ.set i none) H, rt := D.rt, bk := fun σ H => D.bk (σ.set i none) H, ct := fun σ H => D.ct (σ.set i none) H }
def nameE (o : Option Nat) (a : Addr) (σ : L2.St) : L2.St := match o with
  | none => σ
  | some i => σ.set i (some (.ref a))
def wMix (K : PySem.W.Frag) (Wout : WX) (D : Ends) : List Cl → WX
  | [] => Wout
  | (c, o, ts) :: r => fun cls d σ H => ∃ b, PySem.W.exmOne K cls c = some b ∧ (b = true → ∀ a, H a = none → ts a cls d (goneE o D) (nameE o a σ) H) ∧ (b = false → wMix K Wout D r cls d σ H)
inductive Hnd (X : Cx) : List ExceptHandler → List Cl → Prop
  | nil : Hnd X [] []
  | only {x : Str} {c : Value} {ts : Addr → Value → Option Addr → TS} {st : Stmt} {suite : List Stmt} {np pos' : Pos} {hds : List ExceptHandler} {l : List Cl} (hc : Names X x c)
      (hsu : ∀ (a : Addr) (oe : Obj) (cls : Value) (d : Option Addr) (pn : List (Addr × Obj)), Zc cls d oe → (∃ vs, oe.data = .fields vs) → PSs (X.suite a ((a, oe) :: pn)) (st :: suite) (ts a cls d)) (r : Hnd X hds l) :
      Hnd X (.ExceptHandler (some (.Name x np)) none (st :: suite) pos' :: hds) ((c, none, ts) :: l)
  | named {x n : Str} {i : Nat} {c : Value} {ts : Addr → Value → Option Addr → TS} {st : Stmt} {suite : List Stmt} {np pos' : Pos} {hds : List ExceptHandler} {l : List Cl} (hc : Names X x c) (hN : X.N.Nodup) (hi : X.N[i]? = some n) (hln : X.env.kindOf n = some .local)
      (hsu : ∀ (a : Addr) (oe : Obj) (cls : Value) (d : Option Addr) (pn : List (Addr × Obj)), Zc cls d oe → (∃ vs, oe.data = .fields vs) → PSs (X.suite a ((a, oe) :: pn)) (st :: suite) (ts a cls d)) (r : Hnd X hds l) :
      Hnd X (.ExceptHandler (some (.Name x np)) (some n) (st :: suite) pos' :: hds) ((c, some i, ts) :: l)
section
variable {X : Cx} {body : List Stmt} {hd0 : ExceptHandler} {hds : List ExceptHandler} {l : List Cl} {pos : Pos} {tb : WX → TS} {Wout : WX}
theorem try_mix (hst : X.stack = X.env :: X.outer) (hfr : X.env.frame = some X.env.locals) (tk : Takes X Wout)
    (hb : ∀ (W : WX) (pn : List (Addr × Obj)) (xe : Value → Shared → Prop), Takes (X.tr pn xe) W → PassesOwn (model X.prog X.w) X.A X.env xe → PSs (X.tr pn xe) body (tb W))
    (hh : Hnd X (hd0 :: hds) l) : PS X (.Try body (hd0 :: hds) [] [] pos) (fun D σ H => tb (wMix X.K Wout D l) D σ H) := by
  refine ⟨fun pins s σ H D I h => ?_⟩
  have ok := I.ok
  have frames : X.A.frames = some (X.env :: X.outer) := by rw [ok.frames, hst]
  refine wpAny_Try_except ?_
  have run := (hb (wMix X.K Wout D l) (X.pn ++ pins) (fun e s1 => wpAny (model X.prog X.w) X.A (noteFrame e X.env) (fun _ s2 => wpAny (model X.prog X.w) X.A (setFlight e none) (fun _ s3 =>
    wpAny (model X.prog X.w) X.A (handleBy e X.env (hd0 :: hds)) (SP X pins D) X.xe s3) X.xe s2) X.xe s1) ?tk PassesOwn.looking).run [] s σ H D (I.toTry _) h
  case tk =>
    intro u s' xx
    obtain ⟨a, gB, sI, pins2, σ2, H2, cls, d, rfl, J2, nb, up, sky, na, os, ag, w⟩ := xx
    have J : Inv X pins σ2 H2 sI := J2.ofTry ok
    have sky2 : Sky gB (X.env :: X.outer) a (Zc cls d) X.env.locals s'.heap := by rw [← hst]; exact sky
    show wpAny (model X.prog X.w) X.A (noteFrame (.ref a) X.env) _ _ _
    refine Sky.land Zc.steady frames hfr sky2 fun hp3 fly3 up3 => ?_
    have K3 : Inv X pins σ2 H2 { s' with heap := hp3 } := J.landed nb fly3.1 (up.trans up3) os ag
    obtain ⟨ob3, vs3, at3, zc3, dat3⟩ := fly3.there
    have notFrame : a ∉ frs (X.env :: X.outer) := fun hm => by
      obtain ⟨_, o2, e2, no⟩ := fly3.2.2.1.mem hm
      rw [at3] at e2
      cases e2
      exact no _ dat3
    have notL : a ≠ X.env.locals := fun z => notFrame (List.mem_filterMap.mpr ⟨X.env, List.mem_cons_self, by rw [hfr, z]⟩)
    have notF : a ∉ X.fs := fun hm => by
      obtain ⟨e, he, z⟩ := List.mem_filterMap.mp hm
      exact notFrame (List.mem_filterMap.mpr ⟨e, List.mem_cons_of_mem _ he, z⟩)
    have U3 := K3.suite at3 dat3 na notL notF
    have tells : PySem.W.Looks (model X.prog X.w) hp3 (typeOf (.ref a)) cls := fun A Q E s k q => wpAny_typeOf_ref (k _ _ at3) (by rw [zc3.1]; exact q)
    have names : ∀ {x : Str} {c : Value} {np : Pos} {Q : Value → Shared → Prop} {E : Value → Shared → Prop}, Names X x c → Q c { s' with heap := hp3 } → wpAny (model X.prog X.w) (X.A.mark (some (.ref a))) (eval (.Name x np) X.env) Q E { s' with heap := hp3 } := fun {x c np Q E} hc q => by
      obtain ⟨hg, hdbg, hm | ⟨hm, hv, hnn⟩⟩ := hc
      · exact ld_glob (X := X.suite a ((a, ob3) :: (X.pn ++ pins))) U3 hg hm q hdbg
      · exact ld_blt (X := X.suite a ((a, ob3) :: (X.pn ++ pins))) U3 hg hm hv q hnn hdbg
    have go : ∀ {hs : List ExceptHandler} {cl : List Cl}, Hnd X hs cl → wMix X.K Wout D cl cls d σ2 H2 →
        wpAny (model X.prog X.w) X.A (handleBy (.ref a) X.env hs) (SP X pins D) X.xe { s' with heap := hp3 } := by
      intro hs cl hk
      induction hk with
      | nil =>
        intro w
        refine wpAny_handleBy_nil ?_
        obtain ⟨k1, k2, k3, oe, vs, T, oT, ts', he, hz, hd, h1, hr⟩ := id fly3
        unfold PySem.passOn
        refine wpAny_bind (wpAny_field he hd h1 ?_)
        rw [if_neg (show ¬ ((Value.ref T == Value.none) = true) from by simp)]
        have on : wpAny (model X.prog X.w) X.A (setFlight (.ref a) X.env.frame) (fun _ s4 => wpAny (model X.prog X.w) X.A (throw (.ref a) : Sem Flow) (SP X pins D) X.xe s4) X.xe { s' with heap := hp3 } := by
          rw [hfr]
          refine HandSPX.setFlight_upZ fly3 fun hp4 held4 up4 => wpAny_throw (tk _ _ ?_)
          exact ⟨a, gB, sI, pins, σ2, H2, cls, d, rfl, J, nb, (up.trans up3).trans up4, .inr (.inr (by rw [hst]; exact held4)), na, os, ag, w⟩
        first
          | exact wpAny_bind (wpAny_pure (wpAny_bind on))
          | exact wpAny_bind on
      | @only x c ts st suite np pos' hs2 l2 hc hsu r ih =>
        intro w
        obtain ⟨b, hb1, yes, no⟩ := w
        refine wpAny_handleBy_cons (codeAny_handlers_test ?_) (by intro z; cases z)
        refine names hc ((PySem.W.exm_one (M := model X.prog X.w) (K3.kIn) tells hb1).here ?_)
        cases b with
        | false =>
          show wpAny _ X.A (handleBy (.ref a) X.env hs2) _ _ _
          exact ih (no rfl)
        | true =>
          refine codeAny_handlers_suite ?_
          refine HandSPX.lands_againZ fly3 fun hp4 fly4 up4 => ?_
          have K4 : Inv X pins σ2 H2 { s' with heap := hp4 } := J.landed nb fly4.1 ((up.trans up3).trans up4) os ag
          obtain ⟨ob4, vs4, at4, zc4, dat4⟩ := fly4.there
          have U4 := K4.suite at4 dat4 na notL notF
          refine wpAny_mono ((hsu a ob4 cls d (X.pn ++ pins) zc4 ⟨_, dat4⟩).run [] _ _ H2 _ U4 (yes rfl a na)) (fun fl s6 z => ?_) (fun _ _ z => z.elim)
          cases fl with
          | next => obtain ⟨σ6, H6, U6, q6⟩ := z; exact ⟨_, _, U6.unsuite ok, q6⟩
          | brk => obtain ⟨σ6, H6, U6, q6⟩ := z; exact ⟨_, _, U6.unsuite ok, q6⟩
          | cont => obtain ⟨σ6, H6, U6, q6⟩ := z; exact ⟨_, _, U6.unsuite ok, q6⟩
          | ret u => obtain ⟨v6, σ6, H6, U6, r6, q6⟩ := z; exact ⟨_, _, _, U6.unsuite ok, r6, q6⟩
      | @named x n i c ts st suite np pos' hs2 l2 hc hN hi hln hsu r ih =>
        intro w
        obtain ⟨b, hb1, yes, no⟩ := w
        refine wpAny_handleBy_cons (codeAny_handlers_test ?_) (by intro z; cases z)
        refine names hc ((PySem.W.exm_one (M := model X.prog X.w) (K3.kIn) tells hb1).here ?_)
        cases b with
        | false =>
          show wpAny _ X.A (handleBy (.ref a) X.env hs2) _ _ _
          exact ih (no rfl)
        | true =>
          refine codeAny_handlers_suite_as ?_
          refine HandSPX.lands_againZ fly3 fun hp4 fly4 up4 => ?_
          have K4 : Inv X pins σ2 H2 { s' with heap := hp4 } := J.landed nb fly4.1 ((up.trans up3).trans up4) os ag
          obtain ⟨ob4, vs4, at4, zc4, dat4⟩ := fly4.there
          have U4 := K4.suite at4 dat4 na notL notF
          refine store_ok (X := X.suite a ((a, ob4) :: (X.pn ++ pins))) (v := .ref a) U4 hN hi (.inl hln) rfl (fun s5 U5 => ?_) (.inr hln)
          refine wpAny_mono ((hsu a ob4 cls d (X.pn ++ pins) zc4 ⟨_, dat4⟩).run [] s5 _ H2 _ U5 (yes rfl a na)) (fun fl s6 z => ?_) (fun _ _ z => z.elim)
          have gone : ∀ {σ6 : L2.St} {H6 : Hp} {Q : Shared → Prop}, Inv (X.suite a ((a, ob4) :: (X.pn ++ pins))) [] σ6 H6 s6 → (∀ s7, Inv X pins (σ6.set i none) H6 s7 → Q s7) →
              wpAny (model X.prog X.w) X.A (do bindName X.env n .none; unbindBehindTheSuite X.env n pos') (fun _ s7 => Q s7) X.xe s6 := fun {σ6 H6 Q} U6 hq => gone_ok (U6.unsuite ok) hN hi hln hq
          cases fl with
          | next => obtain ⟨σ6, H6, U6, q6⟩ := z; exact gone U6 fun s7 J7 => ⟨_, _, J7, q6⟩
          | brk => obtain ⟨σ6, H6, U6, q6⟩ := z; exact gone U6 fun s7 J7 => ⟨_, _, J7, q6⟩
          | cont => obtain ⟨σ6, H6, U6, q6⟩ := z; exact gone U6 fun s7 J7 => ⟨_, _, J7, q6⟩
          | ret u => obtain ⟨v6, σ6, H6, U6, r6, q6⟩ := z; exact gone U6 fun s7 J7 => ⟨_, _, _, J7, r6, q6⟩
    exact go hh w
  refine wpAny_mono run (fun fl s1 z => ?_) (fun e s1 he => he)
  cases fl with
  | next => obtain ⟨σ1, H1, J1, q⟩ := z; exact wpAny_execs_nil ⟨σ1, H1, J1.ofTry ok, q⟩
  | brk => obtain ⟨σ1, H1, J1, q⟩ := z; exact ⟨σ1, H1, J1.ofTry ok, q⟩
  | cont => obtain ⟨σ1, H1, J1, q⟩ := z; exact ⟨σ1, H1, J1.ofTry ok, q⟩
  | ret u => obtain ⟨v, σ1, H1, J1, r, q⟩ := z; exact ⟨v, σ1, H1, J1.ofTry ok, r, q⟩
end
end MP

/-! MP: try as a reading of the pure semantics; the field of the exception that is handled. Own work. -/
namespace MP
open PySem PySem.Spec PyProof.Rows L2
/-! ### another handled exception -/
section
variable {K : PySem.W.Frag} {ne : NE} {r r' : XR} {m m' : List Addr} {H H' : Hp}
mutual
theorem RepV.re : ∀ {v d}, RepV ⟨K, ne, r⟩ m H v d → RepV ⟨K, ne, r'⟩ m H v d
  | _, _, .non => .non
  | _, _, .bl b => .bl b
  | _, _, .int i => .int i
  | _, _, .str s => .str s
  | _, _, .tup h hs => .tup h (RepVs.re hs)
  | _, _, .ref h => .ref h
theorem RepVs.re : ∀ {vs ds}, RepVs ⟨K, ne, r⟩ m H vs ds → RepVs ⟨K, ne, r'⟩ m H vs ds
  | _, _, .nil => .nil
  | _, _, .cons h hs => .cons (RepV.re h) (RepVs.re hs)
theorem RepX.re : ∀ {d fs}, RepX ⟨K, ne, r⟩ m H d fs → RepX ⟨K, ne, r'⟩ m H d fs
  | _, _, .nil => .nil
  | _, _, .some h hf => .some h (RepF.re hf)
theorem RepF.re : ∀ {fv fs}, RepF ⟨K, ne, r⟩ m H fv fs → RepF ⟨K, ne, r'⟩ m H fv fs
  | _, _, .nil => .nil
  | _, _, .cons h hs => .cons (RepV.re h) (RepF.re hs)
end
theorem RepK.re : ∀ {kv ds}, RepK ⟨K, ne, r⟩ m H kv ds → RepK ⟨K, ne, r'⟩ m H kv ds
  | _, _, .nil => .nil
  | _, _, .cons k h hs => .cons k h.re (RepK.re hs)
theorem RepN.re : ∀ {kv ds}, RepN ⟨K, ne, r⟩ m H kv ds → RepN ⟨K, ne, r'⟩ m H kv ds
  | _, _, .nil => .nil
  | _, _, .cons k a h hs => .cons k a.re h.re (RepN.re hs)
theorem Ext.re (e : Ext ⟨K, ne, r⟩ m H m' H') : Ext ⟨K, ne, r'⟩ m H m' H' := ⟨e.pre, e.tup, e.xd, e.frz, e.tab⟩
theorem RepO.re {p o} (h : RepO ⟨K, ne, r⟩ m H p o) : RepO ⟨K, ne, r'⟩ m H p o := by
  cases h with
  | lst a b => exact .lst a b.re
  | rol a b => exact .rol a b.re
  | ins a b => exact .ins a b.re
  | dct a b => exact .dct a b.re
  | dtu a b => exact .dtu a b.re
  | fdt a b => exact .fdt a b.re
  | fdk a b => exact .fdk a b.re
theorem Sim.re {S : Store} (s : Sim ⟨K, ne, r⟩ m S H) : Sim ⟨K, ne, r'⟩ m S H := ⟨s.len, s.nd, fun n o h => let ⟨p, a, b⟩ := s.obj n o h; ⟨p, a, b.re⟩, s.tbs⟩
theorem noX_at {σ : Slots} (h : noX σ = true) {i : Nat} {d : D} (e : σ[i]? = some (some d)) : isX d = false := by
  unfold noX at h
  have := List.all_eq_true.mp h _ (List.mem_of_getElem? e)
  simpa using this
theorem SlotR.re {ls : Slots} {σ : L2.St} (n : noX ls = true) (h : SlotR ⟨K, ne, r⟩ m H ls σ) : SlotR ⟨K, ne, r'⟩ m H ls σ :=
  ⟨h.1, fun i d q => let ⟨v, a, b⟩ := h.2 i d q; ⟨v, a, .val (b.rep (noX_at n q)).re⟩⟩
end
/-- no exception leaves a suite -/
abbrev W0 : WX := fun _ _ _ _ => False
/-- the suite's view: the exception at a, of class cls, with the dict d -/
abbrev Gs (G : Gx) (a : Addr) (cls : Value) (d : Option Addr) : Gx := ⟨G.K, G.ne, fun a' c' d' => a' = a ∧ .ref (G.ne.cls c') = cls ∧ d' = d⟩
/-- the clauses of the text, and ours -/
inductive HndM (G : Gx) (X : Cx) (C : Cfg) (cs : List Nat) : List ExceptHandler → List Hd → Prop
  | nil : HndM G X C cs [] []
  | only {x : Str} {c : Value} {s : MS} {mt : Nat → Bool} {st : Stmt} {suite : List Stmt} {np pos' : Pos} {hds : List ExceptHandler} {l : List Hd} (hc : Names X x c) (hm : ∀ k ∈ cs, PySem.W.exmOne G.K (.ref (G.ne.cls k)) c = some (mt k))
      (hsu : ∀ (a : Addr) (oe : Obj) (cls : Value) (d : Option Addr) (pn : List (Addr × Obj)), Zc cls d oe → (∃ vs, oe.data = .fields vs) → PSs (X.suite a ((a, oe) :: pn)) (st :: suite) (tS (Gs G a cls d) W0 C s)) (r : HndM G X C cs hds l) :
      HndM G X C cs (.ExceptHandler (some (.Name x np)) none (st :: suite) pos' :: hds) (⟨mt, none, s⟩ :: l)
  | named {x n : Str} {i : Nat} {c : Value} {s : MS} {mt : Nat → Bool} {st : Stmt} {suite : List Stmt} {np pos' : Pos} {hds : List ExceptHandler} {l : List Hd} (hc : Names X x c) (hm : ∀ k ∈ cs, PySem.W.exmOne G.K (.ref (G.ne.cls k)) c = some (mt k)) (hN : X.N.Nodup) (hi : X.N[i]? = some n) (hln : X.env.kindOf n = some .local)
      (hsu : ∀ (a : Addr) (oe : Obj) (cls : Value) (d : Option Addr) (pn : List (Addr × Obj)), Zc cls d oe → (∃ vs, oe.data = .fields vs) → PSs (X.suite a ((a, oe) :: pn)) (st :: suite) (tS (Gs G a cls d) W0 C s)) (r : HndM G X C cs hds l) :
      HndM G X C cs (.ExceptHandler (some (.Name x np)) (some n) (st :: suite) pos' :: hds) (⟨mt, some i, s⟩ :: l)
section
variable {G : Gx} {X : Cx} {W : WX} {C : Cfg} {cs : List Nat}
/-- behind a suite -/
theorem out_post {ρ : XR} {o : Option Nat} {m : List Addr} {H : Hp} {D : Ends} {z : SR} (p : postS G W m H D (outX o z)) : postS ⟨G.K, G.ne, ρ⟩ W0 m H (goneE o D) z := by
  cases z with
  | bad => exact p
  | ex c fs ls S => exact p.elim
  | rt d S => cases o <;> exact fun m' H' v e s r => p m' H' v e.re s.re r.re
  | nx ls S =>
    cases o with
    | none =>
      unfold outX at p
      simp only at p
      split at p
      · rename_i hn
        exact fun m' H' σ' e s r => p m' H' σ' e.re s.re (r.re hn)
      · exact p.elim
    | some i =>
      unfold outX at p
      simp only at p
      split at p
      · rename_i hn
        exact fun m' H' σ' e s r => p m' H' _ e.re s.re ((r.drop1 (i := i) (o := none)).re hn)
      · exact p.elim
  | bk ls S =>
    cases o with
    | none =>
      unfold outX at p
      simp only at p
      split at p
      · rename_i hn
        exact fun m' H' σ' e s r => p m' H' σ' e.re s.re (r.re hn)
      · exact p.elim
    | some i =>
      unfold outX at p
      simp only at p
      split at p
      · rename_i hn
        exact fun m' H' σ' e s r => p m' H' _ e.re s.re ((r.drop1 (i := i) (o := none)).re hn)
      · exact p.elim
  | ct ls S =>
    cases o with
    | none =>
      unfold outX at p
      simp only at p
      split at p
      · rename_i hn
        exact fun m' H' σ' e s r => p m' H' σ' e.re s.re (r.re hn)
      · exact p.elim
    | some i =>
      unfold outX at p
      simp only at p
      split at p
      · rename_i hn
        exact fun m' H' σ' e s r => p m' H' _ e.re s.re ((r.drop1 (i := i) (o := none)).re hn)
      · exact p.elim
/-- a slot gets the exception -/
theorem SlotR.exn {ρ : XR} {m : List Addr} {H : Hp} {ls : Slots} {σ : L2.St} {i : Nat} {a : Addr} {c : Nat} {d : Option Addr} {fs : Fs} (h : SlotR ⟨G.K, G.ne, ρ⟩ m H ls σ) (hr : ρ a c d) (hx : RepX ⟨G.K, G.ne, ρ⟩ m H d fs) :
    SlotR ⟨G.K, G.ne, ρ⟩ m H (ls.set i (some (.exn c fs))) (σ.set i (some (.ref a))) := by
  refine ⟨by rw [List.length_set, List.length_set, h.1], fun j x q => ?_⟩
  by_cases e : i = j
  · subst e
    by_cases hi : i < ls.length
    · rw [List.getElem?_set_self hi] at q
      cases q
      exact ⟨.ref a, List.getElem?_set_self (h.1 ▸ hi), .exn hr hx⟩
    · rw [List.getElem?_eq_none (by simpa using hi)] at q
      cases q
  · rw [List.getElem?_set_ne e] at q
    obtain ⟨w, a, b⟩ := h.2 j x q
    exact ⟨w, by rw [List.getElem?_set_ne e]; exact a, b⟩
/-- the clauses, in the layer's words -/
theorem hnd_of {hds : List ExceptHandler} {hs : List Hd} (h : HndM G X C cs hds hs) : ∃ l, Hnd X hds l ∧ ∀ (D : Ends) (c : Nat) (d : Option Addr) (fs : Fs) (m : List Addr) (S : Store) (ls : Slots) (σ : L2.St) (H : Hp), c ∈ cs → noX ls = true → Sim G m S H → SlotR G m H ls σ → RepX G m H d fs →
    postS G W m H D (handle c fs C ls S hs) → wMix G.K W D l (.ref (G.ne.cls c)) d σ H := by
  induction h with
  | nil => exact ⟨[], .nil, fun D c d fs m S ls σ H hc hn s r x p => p m H d σ Ext.refl s r x⟩
  | @only x ec s mt st suite np pos' hds l hc hm hsu rr ih =>
    obtain ⟨cl, h1, h2⟩ := ih
    refine ⟨(ec, none, fun a cls d => tS (Gs G a cls d) W0 C s) :: cl, .only hc hsu h1, fun D c d fs m S ls σ H hcs hn sm r x p => ?_⟩
    refine ⟨mt c, hm c hcs, fun hb a ha => ?_, fun hb => ?_⟩
    · unfold handle at p
      simp only [hb, if_true] at p
      exact ⟨m, S, ls, sm.re, r.re hn, out_post p⟩
    · unfold handle at p
      simp only [hb] at p
      exact h2 D c d fs m S ls σ H hcs hn sm r x (by simpa using p)
  | @named x n i ec s mt st suite np pos' hds l hc hm hN hi hln hsu rr ih =>
    obtain ⟨cl, h1, h2⟩ := ih
    refine ⟨(ec, some i, fun a cls d => tS (Gs G a cls d) W0 C s) :: cl, .named hc hN hi hln hsu h1, fun D c d fs m S ls σ H hcs hn sm r x p => ?_⟩
    refine ⟨mt c, hm c hcs, fun hb a ha => ?_, fun hb => ?_⟩
    · unfold handle at p
      simp only [hb, if_true] at p
      exact ⟨m, S, _, sm.re, SlotR.exn (r.re hn) ⟨rfl, rfl, rfl⟩ x.re, out_post p⟩
    · unfold handle at p
      simp only [hb] at p
      exact h2 D c d fs m S ls σ H hcs hn sm r x (by simpa using p)
/-- try: .. except ..: .. -/
theorem s_try {body : List Stmt} {hd0 : ExceptHandler} {hds : List ExceptHandler} {b : MS} {hs : List Hd} {pos : Pos} (c : Ctx G X W) (hst : X.stack = X.env :: X.outer) (hfr : X.env.frame = some X.env.locals)
    (hb : ∀ (W' : WX) (pn : List (Addr × Obj)) (xe : Value → Shared → Prop), Ctx G (X.tr pn xe) W' → PSs (X.tr pn xe) body (tS G W' C b)) (hh : HndM G X C cs (hd0 :: hds) hs) :
    PS X (.Try body (hd0 :: hds) [] [] pos) (tS G W C (sTry cs b hs)) := by
  obtain ⟨l, h1, h2⟩ := hnd_of (W := W) hh
  refine PS.weak (try_mix (tb := fun W' => tS G W' C b) (Wout := W) hst hfr c.tk (fun W' pn xe tk po => hb W' pn xe ⟨⟨c.hK, c.hN, c.hu, c.gd, c.hW⟩, tk, po, c.calm⟩) h1) fun D σ H ⟨m, S, ls, s, r, p⟩ => ⟨m, S, ls, s, r, ?_⟩
  unfold sTry at p
  cases e : b C ls S with
  | nx ls' S' => rw [e] at p; exact p
  | rt d S' => rw [e] at p; exact p
  | bk ls S' => rw [e] at p; exact p
  | ct ls S' => rw [e] at p; exact p
  | bad => rw [e] at p; exact p
  | ex k fs ls' S' =>
    rw [e] at p
    simp only at p
    split at p
    · rename_i hk
      rw [Bool.and_eq_true] at hk
      intro m' H' d σ' ex s' r' x'
      have := h2 D k d fs m' S' ls' σ' H' (by simpa using hk.1) hk.2 s' r' x' (p.ext ex)
      rw [← c.hK]
      exact this
    · exact p.elim
/-- e.f, e the exception in slot i, of one of these classes -/
def eXfC (cs : List Nat) (i f : Nat) : ME := fun _ σ S => match σ[i]? with
  | some (some (.exn c fs)) => if cs.contains c = true then (match fget f fs with
    | some d => .ok d S
    | none => .bad) else .bad
  | _ => .bad
/-- the caught exception's field -/
theorem r_xf {a : Addr} {oe : Obj} {cls : Value} {d : Option Addr} {pn : List (Addr × Obj)} {i f : Nat} {x n : Str} {p pos : Pos} (hK : G.K = X.K) (hz : Zc cls d oe) (hf : ∃ vs, oe.data = .fields vs)
    (T : ∀ k, k ∈ cs → XfC X.K (G.ne.cls k) ∧ PySem.W.findIn X.K (.ref (G.ne.cls k)) n = some none) (hn : G.ne.fld f = n)
    (hN : X.N[i]? = some x) (hv : Vis X.env.scope x) (hd : (x == ("__debug__" : Str)) = false := by decide) (hcd : (x == ("__classdict__" : Str)) = false := by decide)
    (hb : attributeBase (.Name x p) n X.env (eval (.Name x p) X.env) = eval (.Name x p) X.env := by rfl) :
    PE (X.suite a ((a, oe) :: pn)) (.Attribute (.Name x p) n pos) (tE (Gs G a cls d) W0 C (eXfC cs i f)) := by
  -- what the reading asks
  have ask : ∀ σ H Q, tE (Gs G a cls d) W0 C (eXfC cs i f) σ H Q → ∃ (k : Nat) (fs : Fs) (y : D) (m : List Addr) (S : Store), k ∈ cs ∧ .ref (G.ne.cls k) = cls ∧ σ[i]? = some (some (.ref a)) ∧ RepX (Gs G a cls d) m H d fs ∧ fget f fs = some y ∧ Sim (Gs G a cls d) m S H ∧ ∀ v, RepV (Gs G a cls d) m H v y → Q v H := by
    rintro σ H Q ⟨m, S, ls, s, r, p⟩
    unfold eXfC at p
    split at p
    · rename_i k fs e
      split at p
      · rename_i hk
        obtain ⟨v, e1, e2⟩ := r.2 i _ e
        cases e2 with
        | val h => cases h
        | exn h hx =>
          obtain ⟨rfl, h2, rfl⟩ := h
          split at p
          · rename_i y hy
            exact ⟨k, fs, y, m, S, by simpa using hk, h2, e1, hx, hy, s, fun v rv => p m H v Ext.refl s rv⟩
          · exact p.elim
      · exact p.elim
    · exact p.elim
  by_cases z : ∃ k, k ∈ cs ∧ Value.ref (G.ne.cls k) = cls
  · obtain ⟨k, hk, ek⟩ := z
    obtain ⟨T1, T2⟩ := T k hk
    refine PE.weak (pe_xf (X := X) (C := G.ne.cls k) T1 T2 hz hf (pe_var (X := X.suite a ((a, oe) :: pn)) hN hv hd hcd) hb) fun σ H Q h => ?_
    obtain ⟨k', fs, y, m, S, _, e2, e3, hx, hy, s, q⟩ := ask σ H Q h
    refine ⟨.ref a, e3, rfl, ek.symm, ?_⟩
    cases hx with
    | nil => cases hy
    | some h1 h2 =>
      obtain ⟨v, l, rv⟩ := h2.lookup hy
      exact ⟨_, _, v, rfl, h1, by rw [← hn]; exact l, q v rv⟩
  · refine ⟨fun pins s σ H Q I h => ?_⟩
    obtain ⟨k, _, _, _, _, hk, ek, _⟩ := ask σ H Q h
    exact absurd ⟨k, hk, ek⟩ z
end
end MP

/-! MP: isinstance of the exception that is handled, with or without fields. Own work (after the layer's way without fields). -/
namespace MPX2
open PySem PySem.Spec PySem.Calls PyProof.Rows PySem.W L2
section
variable {prog : Program} {w : World} {A : Around} {E : Value → Shared → Prop} {s : Shared} {K : Frag} {x D : Addr} {ox : Obj} {od : Option Obj}
theorem find_dataO {C : Addr} {nm : Str} {a g : Value} (k1 : (clsIn K C).isSome = true) (k2 : findIn K (.ref C) nm = some (some a)) (k3 : specialIn K a "__get__" = some (some g)) (k4 : takesIn K a = some true) : findObj K C od nm = some (.bind g a) := by
  obtain ⟨cd, z⟩ := Option.isSome_iff_exists.mp k1
  unfold findObj
  rw [z, Option.bind_some, k2, Option.bind_some]
  simp [k3, k4]
theorem cls_exc {Q : Option Value → Shared → Prop} (T : ExcC K D) (kin : K.In s.heap) (J : InstAt s.heap x ox D od) (q : Q (some (.ref D)) { s with toks := s.toks + 1 }) : wpAny (model prog w) A (getAttr? (.ref x) "__class__") Q E s := by
  have fo : findObj K D od "__class__" = some (.bind (.builtin "getset_descriptor.__get__") (.builtin "object.__class__")) := find_dataO (by obtain ⟨cd, z, _⟩ := any_some T.hd; rw [z]; rfl) T.ha T.hn T.ht
  obtain ⟨hp, g, d, t, os⟩ := s
  have z0 := J.type (M := model prog w)
  have z1 := looks_findIn (M := model prog w) kin T.hg
  have z2 := looks_findIn (M := model prog w) kin T.hk
  have z3 := looks_find (M := model prog w) kin J fo
  have isB : Looks (model prog w) hp (isInstance (.ref x) (.type "BaseException")) true := z0.andThen (looks_subIn kin T.hs)
  have n0 : (false && onTheHeap (Value.builtin "BaseException.__getattribute__")) = false := rfl
  have n2 : (Value.builtin "BaseException.__getattribute__" == Value.builtin "object.__getattribute__") = false := by decide +kernel
  have n1 : (onTheHeap (Value.ref D) && Value.builtin "BaseException.__getattribute__" == Value.builtin "object.__getattribute__") = false := by rw [n2]; rfl
  unfold getAttr?
  unfold getAttrBy? getAttrBy
  refine wpAny_bind (wpAny_mkText (wpAny_bind (wpAny_attempt (wpAny_holding (wpAny_bind (z0.at (wpAny_bind (z1.at ?goal))))))))
  show wpAny _ _ (if (onTheHeap (Value.ref D) && Value.builtin "BaseException.__getattribute__" == Value.builtin "object.__getattribute__") = true then _ else _) _ _ _
  rw [n1, if_neg Bool.false_ne_true]
  unfold getAttrByItsOwn
  unfold hookBefore
  refine wpAny_bind ?_
  rw [if_pos (show onTheHeap (Value.ref D) = true from rfl)]
  refine z2.at (wpAny_bind (wpAny_attempt (wpAny_holding ?_)))
  unfold callGetattribute
  rw [n0, if_neg Bool.false_ne_true]
  unfold boundAndCalled
  rw [PySem.F.excAttr_ValueError.ga.bind (.ref x)]
  refine wpAny_bind (wpAny_pure ?_)
  show wpAny _ _ (call (.builtin "BaseException.__getattribute__") [.ref x, .str "__class__" t]) _ _ _
  refine wpAny_call (codeAny_call_builtin PySem.F.excAttr_ValueError.ga.plain PySem.F.entry_bexc_ga ?_)
  refine @check_slot (model prog w) _ _ ⟨hp, g, d, t + 1, os⟩ "BaseException.__getattribute__" "BaseException" "__getattribute__" (.ref x) [.str "__class__" t] [] _ (by decide +kernel) (by decide +kernel) isB (PySem.F.args_bexc_ga (.ref x) (.str "__class__" t)) ?_
  unfold Builtin.«object.__getattribute__»
  refine wpAny_bind (wpAny_of_eq (a := ((Value.ref x : Value), [Value.str "__class__" t])) (by first | rfl | (simp only [slotArgs]; rfl)) ?_)
  refine wpAny_bind (wpAny_pure (wpAny_bind (z0.at (wpAny_bind (z3.at ?_)))))
  show wpAny _ _ (holding [Value.builtin "object.__class__"] (call (.builtin "getset_descriptor.__get__") [.builtin "object.__class__", .ref x, .ref D]) >>= ret) _ _ _
  refine wpAny_bind (wpAny_holding (wpAny_call (class_get (s := ⟨hp, g, d, t + 1, os⟩) (ox := ox) (od := od) kin J T.hm ?_)))
  refine wpAny_pure ?_
  show wpAny _ _ (handedOut (.ref D)) _ _ _
  rw [handedOut_of (v := .ref D) rfl]
  first
    | exact wpAny_pure (wpAny_pure q)
    | exact wpAny_pure q
    | exact wpAny_pure (wpAny_bind (wpAny_pure (wpAny_pure q)))
theorem kitx_excO (T : ExcC K D) : KitX K (.ref x) (.ref D) (fun h => InstAt h x ox D od) :=
  have Z : KitX K (.ref x) (.ref D) (fun h => InstAt h x ox D none) := PySem.W.handS_kitx_exc T.hg T.hk T.hs T.hd T.ha T.hn T.ht T.hm
  { ty := fun _ _ _ I => I.type
    it := fun M h X I => by
      obtain ⟨cd, hc, _⟩ := any_some T.hd
      intro A' Q' E' s' k q
      unfold clsIn at hc
      split at hc
      · rename_i c' d' cd' sl' ho
        unfold isType loadHead
        exact wpAny_bind (wpAny_loadPart (k _ _ (X _ _ ho)) (wpAny_pure q))
      · cases hc
    ne := Z.ne
    ca := fun X I k => cls_exc T X I k }
end
end MPX2
namespace MP
open PySem PySem.Spec PyProof.Rows L2
/-- isinstance(e, c), e the exception that the suite holds -/
theorem call_isX {X : Cx} {a D : Addr} {d : Option Addr} {oe : Obj} {pn : List (Addr × Obj)} (T : ExcC X.K D) (hz : Zc (.ref D) d oe) (hf : ∃ vs, oe.data = .fields vs) :
    CallR (X.suite a ((a, oe) :: pn)) (.builtin "isinstance") (fun xs H Q => ∃ (c : V) (cv : Value) (b : Bool), xs = [.ref a, c] ∧ (∀ u, RelV c u → u = cv) ∧ PySem.W.kitOne X.K (.ref D) cv = some b ∧ (d = none ∨ ∃ y fv, d = some y ∧ H y = some (.xd fv)) ∧ Q (.bl b) H) := by
  intro pins s σ H xs us Q I r h
  obtain ⟨c, cv, b, rfl, hcv, e, hd, q⟩ := h
  cases r with
  | cons rx rr =>
    cases rr with
    | cons rt rr =>
      cases rr
      cases rx
      have ec := hcv _ rt
      subst ec
      obtain ⟨hget, _⟩ := I.pin (a, oe) (List.mem_append.mpr (.inl List.mem_cons_self))
      obtain ⟨vs, hv⟩ := hf
      have J : ∃ od, PySem.W.InstAt s.heap a oe D od := by
        have nc : PySem.W.notCls oe = true := by unfold PySem.W.notCls; rw [hv] <;> rfl
        rcases hd with rfl | ⟨y, fv, rfl, hy⟩
        · exact ⟨none, hget, hz.1, nc, by rw [hz.2]; trivial⟩
        · obtain ⟨mA, hns, _⟩ := (show ObjOk X.prog X.w H s.heap y (.xd fv) from I.hok y _ hy)
          obtain ⟨o, ho, _⟩ := lookIn_ns hns
          exact ⟨some o, hget, hz.1, nc, by rw [hz.2]; exact ho⟩
      obtain ⟨od, J⟩ := J
      exact PySem.W.kia_one (MPX2.kitx_excO T) I.kIn J e (fun z => nomatch z) fun tk => ⟨.bl b, H, I.kept (t' := tk) fun _ _ z => z, rfl, q⟩

/-- isinstance(e, T), e the exception in slot i; what is said of each class -/
def eIsE (ts : List (Nat × Bool)) (i : Nat) : ME := fun _ σ S => match σ[i]? with
  | some (some (.exn c _)) => (match ts.lookup c with
    | some b => .ok (.bl b) S
    | none => .bad)
  | _ => .bad
section
variable {G : Gx} {X : Cx} {C : Cfg}
/-- the name of a class, own or built in, as a value -/
def NamV (X : Cx) (x : Str) (c : V) (cv : Value) : Prop := (∀ u, RelV c u → u = cv) ∧ ∀ p, PE X (.Name x p) (fun _ H Q => Q c H)
theorem look_mem {ts : List (Nat × Bool)} {k : Nat} {b : Bool} (h : ts.lookup k = some b) : (k, b) ∈ ts := by
  induction ts with
  | nil => cases h
  | cons p r ih =>
    obtain ⟨a, y⟩ := p
    rw [List.lookup_cons] at h
    by_cases e : (k == a) = true
    · rw [e] at h
      have := beq_iff_eq.mp e
      cases h
      rw [this]
      exact List.mem_cons_self ..
    · rw [Bool.not_eq_true] at e
      rw [e] at h
      exact List.mem_cons_of_mem _ (ih h)
theorem r_isE {ts : List (Nat × Bool)} {a : Addr} {oe : Obj} {cls : Value} {d : Option Addr} {pn : List (Addr × Obj)} {i : Nat} {x T : Str} {cv : Value} {c : V} {p p2 pos q : Pos} (hz : Zc cls d oe) (hf : ∃ vs, oe.data = .fields vs)
    (hg : Gl X "isinstance") (hm : X.mg "isinstance" = none) (hv : bootBuiltins "isinstance" = some (.builtin "isinstance"))
    (hT : ∀ k b, (k, b) ∈ ts → ExcC X.K (G.ne.cls k) ∧ PySem.W.kitOne X.K (.ref (G.ne.cls k)) cv = some b) (hn : NamV (X.suite a ((a, oe) :: pn)) T c cv)
    (hN : X.N[i]? = some x) (hvs : Vis X.env.scope x) (hd : (x == ("__debug__" : Str)) = false := by decide) (hcd : (x == ("__classdict__" : Str)) = false := by decide)
    (h1 : starEach [.Name x p, .Name T q] X.env = (false, eval (.Name x p) X.env) :: starEach [.Name T q] X.env := by rfl) (h2 : starEach [.Name T q] X.env = (false, eval (.Name T q) X.env) :: starEach [] X.env := by rfl)
    (hpl : (backTo pos (starEach [.Name T q] X.env)).any (·.1) = false := by rfl) :
    PE (X.suite a ((a, oe) :: pn)) (.Call (.Name "isinstance" p2) [.Name x p, .Name T q] [] pos) (tE (Gs G a cls d) W0 C (eIsE ts i)) := by
  have ask : ∀ σ H Q, tE (Gs G a cls d) W0 C (eIsE ts i) σ H Q → ∃ (k : Nat) (fs : Fs) (b : Bool) (m : List Addr), (k, b) ∈ ts ∧ .ref (G.ne.cls k) = cls ∧ σ[i]? = some (some (.ref a)) ∧ RepX (Gs G a cls d) m H d fs ∧ Q (.bl b) H := by
    rintro σ H Q ⟨m, S, ls, s, r, p⟩
    unfold eIsE at p
    split at p
    · rename_i k fs e
      obtain ⟨v, e1, e2⟩ := r.2 i _ e
      cases e2 with
      | val h => cases h
      | exn h hx =>
        obtain ⟨rfl, h2, rfl⟩ := h
        split at p
        · rename_i b hb
          exact ⟨k, fs, b, m, look_mem hb, h2, e1, hx, p m H _ Ext.refl s (.bl b)⟩
        · exact p.elim
    · exact p.elim
  by_cases z : ∃ k b, (k, b) ∈ ts ∧ Value.ref (G.ne.cls k) = cls
  · obtain ⟨k, b, hk, ek⟩ := z
    subst ek
    obtain ⟨T1, T2⟩ := hT k b hk
    refine PE.weak (pe_callB (call_isX T1 hz hf) hg hm hv (pa_cons (pe_var (X := X.suite a ((a, oe) :: pn)) hN hvs hd hcd) (pa_cons (hn.2 q) pa_nil h2) h1) (he := h1) (hpl := hpl)) fun σ H Q h => ?_
    obtain ⟨k', fs, b', m, hk', e2, e3, hx, y⟩ := ask σ H Q h
    have e4 : G.ne.cls k' = G.ne.cls k := Value.ref.inj e2
    obtain ⟨_, T2'⟩ := hT k' b' hk'
    rw [e4] at T2'
    refine ⟨.ref a, e3, c, cv, b', rfl, hn.1, T2', ?_, y⟩
    cases hx with
    | nil => exact .inl rfl
    | some h1 h2 => exact .inr ⟨_, _, rfl, h1⟩
  · refine ⟨fun pins s σ H Q I h => ?_⟩
    obtain ⟨k, _, b, _, hk, ek, _⟩ := ask σ H Q h
    exact absurd ⟨k, b, hk, ek⟩ z
end
end MP

/-! MP: laws with classes: rooms by levels, names, the facts that the head sees. Own work. -/
namespace MP
open PySem PySem.Spec PyProof.Rows L2
/-- for rules that ask of either context -/
theorem Ctx0.toCtx0 {G : Gx} {X : Cx} (c : Ctx0 G X) : Ctx0 G X := c
theorem ctxS {G : Gx} {X : Cx} {a : Addr} {cls : Value} {d : Option Addr} {pn : List (Addr × Obj)} (c : Ctx0 G X) : Ctx0 (Gs G a cls d) (X.suite a pn) := ⟨c.hK, c.hN, c.hu, c.gd, c.hW⟩
section
variable {G : Gx} {P : Program} {w : World} {K : PySem.W.Frag} {mg : Str → Option Value} {base : Heap}
theorem FnG.mono {Cx0 : CXT} {k k' : Nat} {f : Addr} {fd : FuncData} {ps : List Str} {sp : Sp} (F : FnG P w K mg base Cx0 k f fd ps sp) (h : k ≤ k') : FnG P w K mg base Cx0 k' f fd ps sp :=
  ⟨F.len, fun A out s H ar us vs Q E hr => F.go A out s H ar us vs Q E (hr.mono h)⟩
/-- the room that a level asks -/
abbrev rm (n : Nat) : Nat := 2 * n + 2
theorem room_h0 {n : Nat} {A : Around} (h : Room (rm n + 1) A) : Room (rm n) A := h.mono (Nat.le_succ _)
theorem room_h2 {n : Nat} {A : Around} (h : Room (rm n + 1) A) : Room 2 A := h.mono (by unfold rm; omega)
theorem fn_mp3 {x qual : Str} {params : Arguments} {body : List Stmt} {scope : Scope} {dvs : List V} {kws : List (Str × V)} {f : Addr} {fd : FuncData} {N ps : List Str} {n i : Nat} {tb : List Fn} {F : Fn}
    (D : FunD K x qual params body scope dvs kws f fd) (S : FnScope N ps scope) (hK : G.K = K) (hF : tb[i]? = some F) (hs : F.sl = N.length)
    (hbody : ∀ (cdv : Value) (A : Around) (outer : List Env) (s : Shared) (H : Hp) (E : XK), Room (rm n + 1) (A.deeper (envOfC qual scope s.heap.objs.size f cdv)) → CdOf K f cdv → Ctx G (cxOf (L2.CX P w) P w K mg base N qual scope f cdv A outer s H E) (fun c d _ H => E c d H) →
      PSs (cxOf (L2.CX P w) P w K mg base N qual scope f cdv A outer s H E) body (tS G (fun c d _ H => E c d H) ⟨callN tb n⟩ F.body)) (hW : G.ne.w = w := by rfl) :
    FnG P w K mg base (L2.CX P w) (rm (n + 1)) f fd ps (spM G (callN tb (n + 1) i) ps.length) :=
  FnG.def_ (k := rm n + 1) D S (fun vs H Q E h => h.1) fun cdv A outer s H vs Q E hr hgd hcd h => by
    obtain ⟨_, m, St, as, sim, r, p⟩ := h
    refine ⟨_, hbody cdv A outer s H E hr hcd (ctx_of hK S.nd hr hgd hW), body_fin hs sim r ?_⟩
    have e : callN tb (n + 1) i as = runFn F ⟨callN tb n⟩ as := by
      show (match tb[i]? with
        | some F => runFn F ⟨callN tb n⟩ as
        | none => M.bad) = _
      rw [hF]
    rw [e] at p
    exact p
theorem fn_mp2 {x qual : Str} {params : Arguments} {body : List Stmt} {scope : Scope} {dvs : List V} {kws : List (Str × V)} {f : Addr} {fd : FuncData} {N ps : List Str} {n i : Nat} {tb : List Fn} {F : Fn}
    (D : FunD K x qual params body scope dvs kws f fd) (S : FnScope N ps scope) (hK : G.K = K) (hF : tb[i]? = some F) (hs : F.sl = N.length)
    (hbody : ∀ (cdv : Value) (A : Around) (outer : List Env) (s : Shared) (H : Hp) (E : XK), Room (rm n + 1) (A.deeper (envOfC qual scope s.heap.objs.size f cdv)) → Ctx G (cxOf (L2.CX P w) P w K mg base N qual scope f cdv A outer s H E) (fun c d _ H => E c d H) →
      PSs (cxOf (L2.CX P w) P w K mg base N qual scope f cdv A outer s H E) body (tS G (fun c d _ H => E c d H) ⟨callN tb n⟩ F.body)) (hW : G.ne.w = w := by rfl) :
    FnG P w K mg base (L2.CX P w) (rm (n + 1)) f fd ps (spM G (callN tb (n + 1) i) ps.length) :=
  fn_mp3 D S hK hF hs (fun cdv A outer s H E hr _ c => hbody cdv A outer s H E hr c) hW
theorem fn_mp02 {k : Nat} {f : Addr} {fd : FuncData} {ps : List Str} {i : Nat} {tb : List Fn} : FnG P w K mg base (L2.CX P w) k f fd ps (spM G (callN tb 0 i) ps.length) :=
  ⟨fun vs H Q E h => h.1, fun A outer s H args us vs Q E hr _ e0 hb r h => by
    obtain ⟨_, m, S, as, _, _, p⟩ := h
    exact p.elim⟩
theorem cal_of2 {x qual : Str} {params : Arguments} {body : List Stmt} {scope : Scope} {dvs : List V} {kws : List (Str × V)} {f : Addr} {fd : FuncData} {ps : List Str} {n k i : Nat} {tb : List Fn}
    (D : FunD K x qual params body scope dvs kws f fd) (F : FnG P w K mg base (L2.CX P w) k f fd ps (spM G (callN tb n i) ps.length)) (hb : Binds K fd ps []) (hl : ∀ F, tb[i]? = some F → F.ar = ps.length) : Cal G P w K mg base ⟨callN tb n⟩ k f i [] :=
  ⟨fd, ps, [], [], F, hb, .nil, fun _ _ => .nil, D.kp, call_bad hl⟩
/-- the law's end: F gives the written part, the function's object, its promise -/
theorem walk_mp2 {l : PySem.W.OpenLaw} {nm k r i : Nat} {q : Program} {loose : List Str} {XP : (Str → Option Value) → Heap → Prop} {YP : World → Heap → Prop} {d : DefRec} {x : Str} {tb : List Fn}
    (hn : l.most = some nm) (hz : nm ≤ sizeLine) (hdf : d.params.defaults = []) (hr : Room r callerA)
    (F : ∀ (w : World) (mg : Str → Option Value) (fa : Addr) (h : Heap), YP w h → h.Ns mainGlobals mg → mg d.name = some (.ref fa) →
      ∃ (G : Gx) (fd : FuncData), G.K.In h ∧ G.ne.tabs = [] ∧ (∀ (s : Shared) (u : Value), BindsTo s fd ⟨[u], []⟩ [(x, u)]) ∧
        ∀ base : Heap, G.K.In base → base.Ns mainGlobals mg → FnG l.prog w G.K mg base (L2.CX l.prog w) r fa fd [x] (spM G (callN tb k i) 1))
    (hl : ∀ ns : List Int, ns.length ≤ nm → (∀ z ∈ ns, Builtin.Int.intBits z ≤ 1048576) → ∃ S', callN tb k i [.ref 0] (store0 ns) = .ok (.bl true) S') :
    PySem.W.WalkO q loose XP YP l.row.toRowW d [] (fun f vs => PySem.call f vs) := by
  refine Att.attach_callB hn hdf fun w s₀ s₁ mg mb fa o pm cd doc a us ns G Y ho hd hcd hmg hobj hints hlen hbits hg => ?_
  obtain ⟨Gm, fd, KX, ht, hb, hF⟩ := F w mg fa _ Y G.T.g hmg
  refine law_callG KX G.T.g G.T.b G.T.builtins G.T.nolimit hg hobj hints (Nat.le_trans hlen hz) hr hF hb (fun H hO hS => ⟨rfl, [a], store0 ns, [.ref 0], sim0 hO hS (fun P h => by rw [ht] at h; cases h), .cons (.ref rfl) .nil, ?_⟩) fun H e s' ⟨_, _, _, _, _, _, _, _, _, _, _, _, z⟩ => z
  obtain ⟨S', e⟩ := hl ns hlen hbits
  rw [e]
  exact fun m' H' b _ _ r => r.bl_
end
/-! ### names -/
def fldOf (L : List Str) (i : Nat) : Str := match L[i]? with
  | some s => s
  | none => ⟨#[0, i]⟩
/-- names of fields: written ones, the others begin with a nought -/
def fldsOk (L : List Str) : Bool := decide L.Nodup && L.all fun s => decide (s.cps[0]? ≠ some 0)
theorem fldOf_inj {L : List Str} (h : fldsOk L = true) (a b : Nat) (e : fldOf L a = fldOf L b) : a = b := by
  unfold fldsOk at h
  rw [Bool.and_eq_true] at h
  obtain ⟨h1, h2⟩ := h
  have h1 := of_decide_eq_true h1
  have hz : ∀ s ∈ L, ∀ i : Nat, s ≠ ⟨#[0, i]⟩ := fun s hs i z => by
    have := of_decide_eq_true (List.all_eq_true.mp h2 s hs)
    rw [z] at this
    exact this rfl
  unfold fldOf at e
  cases ea : L[a]? with
  | some s =>
    rw [ea] at e
    have ha := (List.getElem?_eq_some_iff.mp ea).1
    cases eb : L[b]? with
    | some t =>
      rw [eb] at e
      have e : s = t := e
      rw [← e, ← ea] at eb
      exact (List.getElem?_inj ha h1).mp eb.symm
    | none =>
      rw [eb] at e
      exact absurd e (hz s (List.mem_of_getElem? ea) b)
  | none =>
    rw [ea] at e
    cases eb : L[b]? with
    | some t =>
      rw [eb] at e
      exact absurd e.symm (hz t (List.mem_of_getElem? eb) a)
    | none =>
      rw [eb] at e
      have e := congrArg (fun s : Str => s.cps.toList) e
      simpa using e
theorem fldOf_no {L : List Str} {m : Str} (h : m ∉ L) (h0 : m.cps[0]? ≠ some 0) (i : Nat) : fldOf L i ≠ m := by
  unfold fldOf
  intro e
  cases ea : L[i]? with
  | some s =>
    rw [ea] at e
    exact h ((show s = m from e) ▸ List.mem_of_getElem? ea)
  | none =>
    rw [ea] at e
    have e : (⟨#[0, i]⟩ : Str) = m := e
    rw [← e] at h0
    exact h0 rfl
/-- names of a law's text -/
def neOf (w : World) (K : PySem.W.Frag) (cs fs : List Str) (h : fldsOk fs = true) : NE := ⟨w, fun i => He.ga K ((cs[i]?).getD Str.empty), fldOf fs, fldOf_inj h, [], fun _ => Str.empty⟩
/-! ### more facts -/
abbrev AlX : Type := He.AlD × Bool
def obsX (fa : List He.Fa) (fn : List He.DefD) (fx : List (PySem.W.Frag → Bool)) (K : PySem.W.Frag) : AlX := (He.obsD fa fn K, fx.all fun f => f K)
def SaysX (fa : List He.Fa) (fn : List He.DefD) (fx : List (PySem.W.Frag → Bool)) (K : PySem.W.Frag) : Prop := obsX fa fn fx K = (He.valD fn, true)
def obsXG (n : Nat) (fa : List He.Fa) (fn : List He.DefD) (fx : List (PySem.W.Frag → Bool)) (g : Addr → Option Obj) : AlX := obsX fa fn fx (He.frG g (He.asD g n))
def hookX (n : Nat) (fa : List He.Fa) (fn : List He.DefD) (fx : List (PySem.W.Frag → Bool)) : PySem.W.Hook where
  α := AlX
  obs := fun s => obsXG n fa fn fx s.heap.get?
  val := fun _ => (He.valD fn, true)
  says := fun _ h => ∃ K : PySem.W.Frag, K.In h ∧ SaysX fa fn fx K
  of := fun _ _ e => ⟨_, He.frG_in, e⟩
  keeps := fun _ _ _ ⟨K, hK, c⟩ k => ⟨K, PySem.W.Frag.In.keeps hK k, c⟩
theorem obsXG_eq {n : Nat} {fa : List He.Fa} {fn : List He.DefD} {fx : List (PySem.W.Frag → Bool)} {g : Addr → Option Obj} {s : Shared} (h : ∀ a, g a = s.heap.get? a) : obsXG n fa fn fx g = (hookX n fa fn fx).obs s := by
  have e : g = s.heap.get? := funext h
  rw [e] <;> rfl
section
variable {fa : List He.Fa} {fn : List He.DefD} {fx : List (PySem.W.Frag → Bool)} {K : PySem.W.Frag}
theorem SaysX.d (c : SaysX fa fn fx K) : He.SaysD fa fn K := congrArg (fun z : AlX => z.1) c
theorem SaysX.x (c : SaysX fa fn fx K) (i : Nat) {f : PySem.W.Frag → Bool} (h : fx[i]? = some f := by rfl) : f K = true :=
  List.all_eq_true.mp (show (fx.all fun f => f K) = true from congrArg (fun z : AlX => z.2) c) f (List.mem_of_getElem? h)
end
/-- an own exception class x over a built-in one, its own __init__ -/
def fxE (x : Str) (newId : String) (bm : List Value) (K : PySem.W.Frag) : Bool := ecB K (He.ga K x) newId bm && (decide (PySem.W.findIn K (.ref (He.ga K x)) "__init__" = some (some (.ref (He.ma K (He.ga K x) "__init__")))) &&
  decide (PySem.W.typeIn K (.ref (He.ma K (He.ga K x) "__init__")) = some (.type "function")))
def fxF (x : Str) (K : PySem.W.Frag) : Bool := xfB K (He.ga K x)
/-- .. asked by isinstance -/
def fxI (x : Str) (K : PySem.W.Frag) : Bool := decide (PySem.W.findIn K (.ref (He.ga K x)) "__getattribute__" = some (some (.builtin "BaseException.__getattribute__"))) && (decide (PySem.W.findIn K (.ref (He.ga K x)) "__getattr__" = some none) &&
  (decide (PySem.W.subIn K (.ref (He.ga K x)) (.type "BaseException") = some true) && (PySem.W.hasDictIn K (He.ga K x) && (decide (PySem.W.findIn K (.ref (He.ga K x)) "__class__" = some (some (.builtin "object.__class__"))) &&
  (decide (PySem.W.specialIn K (.builtin "object.__class__") "__get__" = some (some (.builtin "getset_descriptor.__get__"))) && (decide (PySem.W.takesIn K (.builtin "object.__class__") = some true) && decide (PySem.W.mroIn K (He.ga K x) (.type "object") = some true)))))))
theorem fxI_ok {x : Str} {K : PySem.W.Frag} (h : fxI x K = true) : ExcC K (He.ga K x) := by
  unfold fxI at h
  simp only [Bool.and_eq_true, decide_eq_true_eq] at h
  obtain ⟨h1, h2, h3, h4, h5, h6, h7, h8⟩ := h
  exact ⟨h1, h2, h3, h4, h5, h6, h7, h8⟩
def fxK (x : Str) (T : String) (b : Bool) (K : PySem.W.Frag) : Bool := decide (PySem.W.kitOne K (.ref (He.ga K x)) (.type T) = some b)
/-- a tuple of texts, in the text's own names -/
def fxT (x : Str) (ts : List Str) (K : PySem.W.Frag) : Bool := match PySem.W.nsIn K mainGlobals x with
  | some (some (.ref p)) => (match K.lookup p with
    | some ⟨.type ty, none, .seq its _, _⟩ => decide (ty = "tuple") && (decide (its.size ≤ sizeLine) && decide (its.toList.map (fun v => match v with
      | .str s _ => some s
      | _ => none) = ts.map some))
    | _ => false)
  | _ => false
theorem exc_of {G : Gx} {P : Program} {w : World} {K : PySem.W.Frag} {mg : Str → Option Value} {base : Heap} {k c : Nat} {fn : Option Nat} {x : Str} {B newId initId : String} {bm : List Value} {fd : FuncData} {ps : List Str}
    (eb : EBase B newId initId bm) (h : fxE x newId bm K = true) (hc : G.ne.cls c = He.ga K x) (F : FnOk P w K mg base (L2.CX P w) (k + 1) (He.ma K (He.ga K x) "__init__") fd ps (spX (G.ne.cls c) (fn.map G.ne.fld))) (hb : L2.Binds K fd ps []) : XcC G P w K mg base k c fn := by
  unfold fxE at h
  simp only [Bool.and_eq_true, decide_eq_true_eq] at h
  obtain ⟨h1, h2, h3⟩ := h
  refine ⟨B, newId, initId, bm, _, fd, ps, eb, ?_, ?_, h3, F, hb⟩
  · rw [hc]; exact ecB_ok h1
  · rw [hc]; exact h2
theorem namv_b {X : Cx} {x : Str} {T : String} (hg : Gl X x) (hm : X.mg x = none) (hv : bootBuiltins x = some (.type T)) (hn : x ≠ "__name__" := by decide) (hd : (x == ("__debug__" : Str)) = false := by decide) : NamV X x (.ty T) (.type T) :=
  ⟨fun _ r => r, fun p => pe_tyn hg hm hv hn hd⟩
/-- a global tuple of texts -/
theorem vals_strs : ∀ {its : List Value} {ts : List Str}, its.map (fun v => match v with
      | .str s _ => some s
      | _ => none) = ts.map some → Vals (ts.map V.str) its
  | [], [], _ => .nil
  | [], _ :: _, h => by cases h
  | _ :: _, [], h => by cases h
  | v :: its, t :: ts, h => by
    rw [List.map_cons, List.map_cons] at h
    injection h with h1 h2
    cases v with
    | str s u =>
      cases h1
      exact .cons ⟨u, rfl⟩ (vals_strs h2)
    | _ => cases h1
theorem fxT_ok {G : Gx} {h : Heap} {K : PySem.W.Frag} {mg : Str → Option Value} {x : Str} {ts : List Str} (X : K.In h) (N : h.Ns mainGlobals mg) (hK : G.K = K) (c : fxT x ts K = true) : ∃ p, mg x = some (.ref p) ∧ (∀ m H, RepV G m H (.ref p) (.tup (ts.map fun t => .str t.cps.toList))) ∧ ∀ H, tyV K "tuple" (.ref p) H := by
  unfold fxT at c
  split at c
  · rename_i p hp
    split at c
    · rename_i ty its n sl ho
      simp only [Bool.and_eq_true, decide_eq_true_eq] at c
      obtain ⟨rfl, h2, h3⟩ := c
      refine ⟨p, PySem.W.mg_of X N hp, ?_, fun H => .inr (.inl ⟨rfl, _, ho, rfl, rfl⟩)⟩
      refine fun m H => .tup (vs := ts.map V.str) (.inr ⟨_, its, n, by rw [hK]; exact ho, rfl, rfl, h2, vals_strs h3⟩) ?_
      clear h3
      induction ts with
      | nil => exact .nil
      | cons t r ih =>
        have e : t = ⟨t.cps.toList.toArray⟩ := by cases t; simp
        refine .cons ?_ ih
        have := RepV.str (G := G) (m := m) (H := H) t.cps.toList
        rw [← e] at this
        exact this
    · cases c
  · cases c
end MP

/-! MP: remove of a list's item. Own work. -/
namespace MP
open PySem PySem.SeqAt PySem.Spec PyProof.Rows L2
/-- l.remove(y): the first item that equals y goes; there must be one -/
def mRemove : D → List D → P D
  | .ref n, [y] => fun S => match S.get n with
    | some (.lst xs) => (match snap S deep y, snaps S deep xs with
      | some a, some bs => (match bs.findIdx? (fun b => PyData.eqv b a) with
        | some j => some (.non, S.set n (.lst (xs.eraseIdx j)))
        | none => none)
      | _, _ => none)
    | _ => none
  | _, _ => P.bad
section
variable {G : Gx} {X : Cx} (hK : G.K = X.K)
include hK
theorem items_map {pins : List (Addr × Obj)} {s : Shared} {σ : L2.St} {H : Hp} {m : List Addr} {S : Store} {A : Around} (I : Inv X pins σ H s) (sim : Sim G m S H) (hu : A.units + deep < cLine) {x : D} {v : V} {u : Value} {a : PyData} (rx : RepV G m H v x) (ex : snap S deep x = some a) (rv : RelV v u) :
    ∀ {xs : List D} {bs : List PyData} {vs : List V} {us : List Value}, snaps S deep xs = some bs → RepVs G m H vs xs → Vals vs us → us.map (eqTo s.heap a) = bs.map (fun b => PyData.eqv b a)
  | [], bs, vs, us, hb, rr, rw' => by
    unfold snaps optAll at hb
    cases hb
    rw [rr.nil_] at rw'
    cases rw'
    rfl
  | d :: xs, bs, vs, us, hb, rr, rw' => by
    unfold snaps optAll at hb
    obtain ⟨w, ws, rfl, r1, r2⟩ := rr.cons_
    cases rw' with
    | @cons _ y _ us' q1 q2 =>
      cases e1 : snap S deep d with
      | none => rw [e1] at hb; cases hb
      | some b =>
        cases e2 : optAll (snap S deep) xs with
        | none => rw [e1, e2] at hb; cases hb
        | some bs' =>
          rw [e1, e2] at hb
          cases hb
          have ih := items_map I sim hu rx ex rv (bs := bs') e2 r2 q2
          obtain ⟨as, rd, _⟩ := snap_reads hK I sim _ _ _ _ _ r1 e1 q1
          have ee := eqTo_eq (a := a) rd
          rw [List.map_cons, List.map_cons, ih, ee]
end
section
variable {G : Gx} {X : Cx}
theorem m_remove (c : Ctx0 G X) : MtR X "list.remove" (rMt G mRemove) := by
  intro pins s σ H x xs v us Q I rx rs h
  obtain ⟨m, S, d, as, sim, rd, ra, p⟩ := h
  have hu := c.hu
  unfold mRemove at p
  split at p
  · rename_i n y
    obtain ⟨q, rfl, hq⟩ := rd.ref_
    obtain ⟨w, rfl, rw'⟩ := ra.one_
    split at p
    · rename_i xs hg
      split at p
      · rename_i a bs e1 e2
        split at p
        · rename_i j hj
          obtain ⟨q', vs, e3, e4, rv⟩ := sim.lst hg
          rw [hq] at e3
          cases e3
          cases rx
          obtain ⟨u, rfl, ru⟩ := rs.one
          obtain ⟨z, its, n1, r, hl, e⟩ := I.lstM e4
          have hu1 : X.A.in1.units + deep < cLine := by
            show X.A.units + 1 + 40 < cLine
            omega
          obtain ⟨k1, _⟩ := items_eq c.hK (A := X.A.in1) I sim hu1 rw' e1 ru e2 rv r
          have k2 := items_map c.hK (A := X.A.in1) I sim hu1 rw' e1 ru e2 rv r
          have lenB : its.length = bs.length := by have := congrArg List.length k2; simpa using this
          obtain ⟨jlt, jhit, jno⟩ := List.findIdx?_eq_some_iff_getElem.mp hj
          have at_ : ∀ i (h : i < its.length), eqTo s.heap a its[i] = PyData.eqv (bs[i]'(by omega)) a := fun i h => by
            have := congrArg (fun l => l[i]?) k2
            simp only [List.getElem?_map, List.getElem?_eq_getElem h, List.getElem?_eq_getElem (show i < bs.length by omega), Option.map_some, Option.some.injEq] at this
            exact this
          have mu : Mut1 (H q) := by rw [e4]; trivial
          have ex : Ext G m H m (upd H q (.lst (vs.eraseIdx j))) := Ext.mut mu
          have lenV := r.length
          refine call_meets PySem.F.slot_list_remove ⟨_, e, rfl⟩ PySem.F.entry_list_remove (PySem.F.args_list_remove_2 _ _)
            (SeqAt.list_removeAt q its.toArray n1 none #[] u (eqTo s.heap a) j (by rw [List.size_toArray]; omega) ?_ ?_ (by rw [List.size_toArray]; omega)) ⟨e, fun y hy => k1 y (by simpa using hy), ?_⟩
          · have := at_ j (by omega)
            rw [List.getElem_toArray, this]
            exact jhit
          · intro m' hm hmj
            have hm' : m' < its.length := by rw [List.size_toArray] at hm; exact hm
            have := at_ m' hm'
            rw [List.getElem_toArray, this]
            simpa using jno m' hmj
          · refine ⟨.non, _, I.lset (its' := its.eraseIdx j) (t' := s.toks) e4 e ?_ (r.eraseIdx j) ?_, rfl, p m _ _ ex (sim_set sim hg rfl rfl hq mu (.lst upd_same ((rv.mono ex).erase j))) .non⟩
            · show its.toArray.eraseIdxIfInBounds j = (its.eraseIdx j).toArray
              rw [List.eraseIdxIfInBounds_toArray]
            · have := List.length_eraseIdx_le vs j
              omega
        · exact p.elim
      · exact p.elim
    · exact p.elim
  · exact p.elim
end
/-- s.index(sign), s of any length below the line; it must stand there -/
def mIndexS : D → List D → P D
  | .str s, [.str [c]] => fun S => if s.length ≤ line then (match findC c s 0 with
    | some j => some (.int (j : Nat), S)
    | none => none) else none
  | _, _ => P.bad
end MP

/-! MP: sorted(set(..)) of a list of ints. Own work (after the layer's way with tuples). -/
namespace MPS
open PySem PySem.Spec PyProof.Rows L2
abbrev newS (w : World) : Obj := { cls := .type "set", dict := none, data := .set #[] 0 (.fresh 0 0 (!w.params.followText "set-order")) }
section
variable {P : Program} {w : World} {A : Around} {E : Value → Shared → Prop} {z : Shared}
/-- what set(l) leaves -/
def Left (w : World) (z : Shared) (ms : List Int) (h' : Heap) (c : Nat) : Prop := SetR w h' z.heap.objs.size (fun j => decide (j ∈ ms)) c ∧ c ≤ ms.length ∧ ∀ b o, z.heap.get? b = some o → h'.get? b = some o
theorem set_of_list {p : Addr} {its : Array Value} (ms : List Int) {Q : Value → Shared → Prop} (free : A.handled = none) (hp : z.heap.IsList p its) (hi : IntsAre its.toList ms) (room : ms.length + 1 < scanBound)
    (fin : ∀ (h' : Heap) (tk c : Nat), Left w z ms h' c → Q (.ref z.heap.objs.size) { z with heap := h', toks := tk }) : wpAny (model P w) A (call (.type "set") [.ref p]) Q E z := by
  have size_eq : its.size = ms.length := by have q := IntsAre.length hi; rw [Array.length_toList] at q; exact q
  obtain ⟨c, tl, k0⟩ := F.called_set.mro
  have k1 := F.called_set.made
  have k2 := F.called_set.sub
  refine wpAny_call (codeAny_of_tree ?_)
  show wpAny _ _ (callAny (.type "set") _) _ _ _
  refine wpAny_pure ⟨Code.quiet_builtin _ (by decide +kernel), codeAny_builtin F.entry_type_call ?_⟩
  rw [Around.under_plain (weight_type_call_type "set" [.ref p] []) rfl]
  have k3 := F.called_set.notType
  have k4 := F.called_set.canCreate
  have k5 := F.typeCall_set_1 (.ref p)
  repeat any_goals first | assumption | wp_step
  refine codeAny_mono (code_set_led1 (.ref p) (E := E) (Q₁ := fun v z1 => v = .ref z.heap.objs.size ∧ z1 = { z with heap := z.heap.push (newS w) }) ⟨rfl, rfl⟩) fun r z1 hr => ?_
  cases r with
  | error e => exact hr
  | ok fl =>
    cases fl with
    | ret v =>
      obtain ⟨rfl, rfl⟩ := hr
      have at0 : (z.heap.push (newS w)).get? z.heap.objs.size = some (newS w) := Heap.get?_push_size _ rfl
      have ty0 : Shared.TypeIs { z with heap := z.heap.push (newS w) } (.ref z.heap.objs.size) "set" := ⟨_, at0, rfl⟩
      have k6 := F.called_set.init.lookup
      have k7 := F.called_set.init.bind (.ref z.heap.objs.size)
      repeat any_goals first | assumption | wp_step
      refine codeAny_mono (codeAny_call_builtin (R := wants (fun r z2 => r = .none ∧ ∃ h' tk c, z2 = { z with heap := h', toks := tk } ∧ Left w z ms h' c) E) F.called_set.init.plain F.entry_set_init (check_set_init_1 ty0 ?_)) fun r2 z2 q2 => ?_
      · obtain ⟨ob, at1, oc, n, od⟩ := hp
        obtain ⟨c1, d1, dt, sl⟩ := ob
        simp only at oc od
        subst oc
        subst od
        have at2 : (z.heap.push (newS w)).get? p = some { cls := .type "list", dict := d1, data := .seq its n, slots := sl } := Heap.get?_push_of_some _ at1
        have s1 := PySem.F.sub_list_set
        have s2 := PySem.F.sub_list_frozenset
        have s3 : (Value.type "list" == Value.type "dict") = false := by decide
        have isL : (z.heap.push (newS w)).IsList p its := ⟨_, at2, rfl, n, rfl⟩
        unfold Builtin.«set.__init__»
        unfold noKeywords
        unfold Builtin.Frozenset.updateFrom
        generalize eI : pyIter = theI
        wp_walk
        subst eI
        refine wpAny_pyIter_list isL (wpAny_bind (wpAny_runValue ?_))
        have lt : p < z.heap.objs.size := Heap.lt_size at1
        have free3 : A.in1.in1.in1.handled = none := by simp [free]
        have sz : (z.heap.push (newS w)).objs.size = z.heap.objs.size + 1 := Heap.size_push ..
        have ne1 : p ≠ (z.heap.push (newS w)).objs.size := by rw [sz]; exact Nat.ne_of_lt (Nat.lt_succ_of_lt lt)
        have apart : z.heap.objs.size ∉ [(z.heap.push (newS w)).objs.size, p] := by
          rw [sz]
          simp only [List.mem_cons, List.not_mem_nil, or_false, not_or]
          exact ⟨by omega, Nat.ne_of_gt lt⟩
        have items : ∀ (i : Nat) (v : Value), its[i]? = some v → ∃ k t, ms[i]? = some k ∧ v = .int k t := fun i v hv => by
          have il : i < ms.length := by rw [← size_eq]; exact (Array.getElem?_eq_some_iff.mp hv).1
          obtain ⟨t, e⟩ := PyProof.Rows.IntsAre.int_at hi i v (by rw [Array.getElem?_toList]; exact hv)
          exact ⟨ms[i], t, List.getElem?_eq_getElem il, by rw [e, List.getD_eq_getElem?_getD, List.getElem?_eq_getElem il]; rfl⟩
        refine set_update_ints ((Walks.list free3 _ p ne1 its).toS) z.heap.objs.size apart ms size_eq room items (its.size - 0) 0 _ (by omega) (Nat.zero_le _) ⟨⟨_, Heap.get?_push_size _ rfl, rfl, rfl⟩, (isL.push _)⟩ ?start ?done
        case start =>
          exact ⟨0, Nat.le_refl 0, setR_new_at (Heap.get?_push_of_some _ at0)⟩
        case done =>
          intro z3 c3 mv cl R3
          obtain ⟨h3, g3, d3, t3, o3⟩ := z3
          obtain rfl : g3 = z.gens := mv.gens
          obtain rfl : d3 = z.drawn := mv.drawn
          obtain rfl : o3 = z.os := mv.os
          show wpAny _ _ _ _ _ _
          refine wpAny_pure ?_
          show wpAny _ _ (ret Value.none) _ _ _
          rw [size_eq] at cl
          refine wpAny_pure ⟨rfl, h3, t3, c3, rfl, R3, cl, fun b o e => ?_⟩
          have b0 : b < z.heap.objs.size := Heap.lt_size e
          refine mv.heap b o ?_ (Heap.get?_push_of_some _ (Heap.get?_push_of_some _ e))
          simp only [List.mem_cons, List.not_mem_nil, or_false, not_or]
          rw [sz]
          exact ⟨Nat.ne_of_lt b0, Nat.ne_of_lt (Nat.lt_succ_of_lt b0)⟩
      · cases r2 with
        | error e => exact q2
        | ok fl2 =>
          cases fl2 with
          | ret v2 =>
            obtain ⟨rfl, h', tk, c, rfl, lf⟩ := q2
            repeat any_goals first | assumption | wp_step
            exact fin _ _ _ lf
          | next => exact q2.elim
          | brk => exact q2.elim
          | cont => exact q2.elim
    | next => exact hr.elim
    | brk => exact hr.elim
    | cont => exact hr.elim
end
end MPS
namespace MP
open PySem PySem.Spec PyProof.Rows L2
/-! ### ints in order, each once -/
def insU (x : Int) : List Int → List Int
  | [] => [x]
  | y :: r => if x < y then x :: y :: r else if x = y then y :: r else y :: insU x r
def sortU : List Int → List Int
  | [] => []
  | x :: r => insU x (sortU r)
theorem mem_insU {x z : Int} : ∀ {l : List Int}, z ∈ insU x l ↔ z = x ∨ z ∈ l
  | [] => by simp [insU]
  | y :: r => by
    unfold insU
    split
    · simp
    · split
      · rename_i h
        subst h
        simp
      · rw [List.mem_cons, mem_insU, List.mem_cons]
        constructor
        · rintro (h | h | h)
          · exact .inr (.inl h)
          · exact .inl h
          · exact .inr (.inr h)
        · rintro (h | h | h)
          · exact .inr (.inl h)
          · exact .inl h
          · exact .inr (.inr h)
theorem asc_insU {x : Int} : ∀ {l : List Int}, l.Pairwise (· < ·) → (insU x l).Pairwise (· < ·)
  | [], _ => by simp [insU]
  | y :: r, h => by
    obtain ⟨h1, h2⟩ := List.pairwise_cons.mp h
    unfold insU
    split
    · rename_i hxy
      refine List.pairwise_cons.mpr ⟨fun z hz => ?_, h⟩
      rcases List.mem_cons.mp hz with rfl | hz
      · exact hxy
      · have := h1 z hz; omega
    · split
      · exact h
      · rename_i h3 h4
        refine List.pairwise_cons.mpr ⟨fun z hz => ?_, asc_insU h2⟩
        rcases mem_insU.mp hz with rfl | hz
        · omega
        · exact h1 z hz
theorem mem_sortU {z : Int} : ∀ {l : List Int}, z ∈ sortU l ↔ z ∈ l
  | [] => Iff.rfl
  | x :: r => by
    show z ∈ insU x (sortU r) ↔ _
    rw [mem_insU, mem_sortU, List.mem_cons]
theorem asc_sortU : ∀ l : List Int, (sortU l).Pairwise (· < ·)
  | [] => List.Pairwise.nil
  | x :: r => asc_insU (asc_sortU r)
theorem asc_unique : ∀ {l m : List Int}, l.Pairwise (· < ·) → m.Pairwise (· < ·) → (∀ x, x ∈ l ↔ x ∈ m) → l = m
  | [], [], _, _, _ => rfl
  | [], y :: m, _, _, h => absurd ((h y).mpr (List.mem_cons_self ..)) (by simp)
  | x :: l, [], _, _, h => absurd ((h x).mp (List.mem_cons_self ..)) (by simp)
  | x :: l, y :: m, h1, h2, h => by
    obtain ⟨a1, a2⟩ := List.pairwise_cons.mp h1
    obtain ⟨b1, b2⟩ := List.pairwise_cons.mp h2
    have e : x = y := by
      rcases List.mem_cons.mp ((h x).mp (List.mem_cons_self ..)) with e | e
      · exact e
      · rcases List.mem_cons.mp ((h y).mpr (List.mem_cons_self ..)) with f | f
        · exact f.symm
        · have := b1 x e
          have := a1 y f
          omega
    subst e
    rw [asc_unique a2 b2 fun z => ?_]
    constructor
    · intro hz
      rcases List.mem_cons.mp ((h z).mp (List.mem_cons_of_mem _ hz)) with e | e
      · have := a1 z hz; omega
      · exact e
    · intro hz
      rcases List.mem_cons.mp ((h z).mpr (List.mem_cons_of_mem _ hz)) with e | e
      · have := b1 z hz; omega
      · exact e
/-- sorted(set(l)), l a list of ints -/
def opSortSet : D → P D
  | .ref n => fun S => match lstAt S n with
    | some xs => (match intsOf xs with
      | some ns => if ns.length < 64 then some (.ref S.size, S.push (.lst ((sortU ns).map .int))) else none
      | none => none)
    | none => none
  | _ => P.bad
theorem intsOf_map : ∀ {xs : List D} {ns : List Int}, intsOf xs = some ns → xs = ns.map .int
  | [], ns, h => by cases h; rfl
  | .int i :: r, ns, h => by
    obtain ⟨l, h1, rfl⟩ := Option.map_eq_some_iff.mp (show (intsOf r).map (i :: ·) = some ns from h)
    rw [intsOf_map h1]; rfl
  | .non :: r, ns, h => by cases h
  | .bl _ :: r, ns, h => by cases h
  | .str _ :: r, ns, h => by cases h
  | .tup _ :: r, ns, h => by cases h
  | .ref _ :: r, ns, h => by cases h
  | .exn _ _ :: r, ns, h => by cases h
  | .lam _ _ :: r, ns, h => by cases h
theorem reps_int {G : Gx} {m : List Addr} {H : Hp} : ∀ {ns : List Int} {vs : List V}, RepVs G m H vs (ns.map .int) → vs = ns.map V.int
  | [], vs, h => h.nil_
  | n :: ns, vs, h => by
    obtain ⟨w, ws, rfl, h1, h2⟩ := (show RepVs G m H vs (.int n :: ns.map .int) from h).cons_
    cases h1.int_
    rw [reps_int h2]; rfl
theorem reps_ofInts {G : Gx} {m : List Addr} {H : Hp} : ∀ ns : List Int, RepVs G m H (ns.map V.int) (ns.map .int)
  | [] => .nil
  | n :: ns => .cons (.int n) (reps_ofInts ns)
section
variable {G : Gx} {X : Cx} {W : WX} {C : Cfg}
theorem cr_setL (hc : X.calm = true) : CallR X (.type "set") (fun xs H Q => ∃ (l : Addr) (ns : List Int), xs = [.ref l] ∧ SqL X.K H l (ns.map V.int) ∧ ns.length ≤ 1000 ∧ ∀ p c, H p = none → c ≤ ns.length → Q (.ref p) (upd H p (SetO X.w p (fun j => decide (j ∈ ns)) c))) := by
  intro pins s σ H xs us Q I r h
  obtain ⟨l, ns, rfl, hq, hl, q⟩ := h
  rw [Vals.ref1 r]
  obtain ⟨its, rv, pl, hz⟩ := I.list hq
  refine MPS.set_of_list ns (I.ok.hd hc) pl.isList (by simpa using ints_of_vals rv) (by unfold scanBound; omega) fun h' tk c ⟨R, cl, kp⟩ => ?_
  exact ⟨.ref _, _, I.laid (t' := tk) kp (Nat.le_refl _) (setO_new R), rfl, q _ c (I.hok.fresh (Nat.le_refl _)) cl⟩
theorem r_sortset {e : Expr} {a : ME} {p p2 q pos : Pos} (c : Ctx G X W) (hg : Gl X "sorted") (hm : X.mg "sorted" = none) (hv : bootBuiltins "sorted" = some (.builtin "sorted")) (hg2 : Gl X "set") (hm2 : X.mg "set" = none) (hv2 : bootBuiltins "set" = some (.type "set")) (he : PE X e (tE G W C a))
    (h1 : starEach [e] X.env = (false, eval e X.env) :: starEach [] X.env := by rfl) (h2 : starEach [.Call (.Name "set" p2) [e] [] q] X.env = (false, eval (.Call (.Name "set" p2) [e] [] q) X.env) :: starEach [] X.env := by rfl) :
    PE X (.Call (.Name "sorted" p) [.Call (.Name "set" p2) [e] [] q] [] pos) (tE G W C (e1 opSortSet a)) :=
  PE.weak (pe_callB (cr_sortedSet c.calm) hg hm hv (pa_cons (pe_callTy (cr_setL c.calm) hg2 hm2 hv2 (pa_cons he pa_nil h1) (he := h1)) pa_nil h2) (he := h2)) fun σ H Q h => by
    refine tX.imp (w1 (Rp := RepV G) (f := opSortSet) h) fun v H1 z => ?_
    obtain ⟨m, S, d, sim, rd, p⟩ := z
    unfold opSortSet at p
    split at p
    · rename_i n
      split at p
      · rename_i xs hl
        split at p
        · rename_i ns hi
          split at p
          · rename_i hn
            obtain ⟨r, rfl, hr⟩ := rd.ref_
            obtain ⟨r', vs, e1, e2, rv⟩ := sim.seqL hl
            rw [hr] at e1
            cases e1
            rw [intsOf_map hi] at rv
            have ev := reps_int rv
            subst ev
            refine ⟨r, ns, rfl, c.hK ▸ e2, by omega, fun t k nt hk => ?_⟩
            refine ⟨t, fun j => decide (j ∈ ns), k, rfl, upd_same, by omega, fun ms u asc mm lm nu => ?_⟩
            have em : ms = sortU ns := asc_unique asc (asc_sortU ns) fun x => by rw [mm, mem_sortU]; simp
            subst em
            refine new_lst (sim_same sim nt) (reps_ofInts _) ?_ u nu
            exact p.ext (Ext.new nt)
          · exact p.elim
        · exact p.elim
      · exact p.elim
    · exact p.elim
theorem bo_sorted2 : bootBuiltins "sorted" = some (.builtin "sorted") := by decide +kernel
theorem bo_set : bootBuiltins "set" = some (.type "set") := by decide +kernel
end
end MP

/-! MP: dicts whose keys are ints or texts: the empty display, comprehensions. Own work. -/
namespace MP
open PySem PySem.Spec PyProof.Rows L2

/-- {} -/
def pDct : P D := fun S => some (.ref S.size, S.push (.dct []))
def eDct : ME := fun _ _ => M.of pDct
section
variable {G : Gx} {X : Cx} {W : WX} {C : Cfg}
theorem o_eqC (c : Ctx0 G X) : OpR X (compareOp .Eq) (rP2 G opEq) := o_eq c.hK c.hu
theorem o_neC (c : Ctx0 G X) : OpR X (compareOp .NotEq) (rP2 G opNe) := o_ne c.hK c.hu
theorem r_dnew {pos : Pos} : PE X (.Dict [] [] pos) (tE G W C eDct) := PE.weak pe_dnewK fun σ H Q ⟨m, S, ls, s, r, p⟩ q n =>
  p _ _ _ (ext_push n) (sim_new s n (.dct upd_same .nil)) (ref_new s)
/-- the entry, stored in the dict at D -/
theorem emitD_post {k v : ME} {σ m H ls n D} {S : Store} {Nx : Hp → Prop} (s : Sim G m S H) (r : SlotR G m H ls σ) (hD : m[n]? = some D) (p : postL G m H Nx (emitD k v n C ls S)) :
    tE G WF C k σ H fun y H4 => tE G WF C v σ H4 fun z H5 => ∃ kvs key, y = kV key ∧ H5 D = some (.dK kvs) ∧ kvs.length < sizeLine ∧ Nx (upd H5 D (.dK (putK kvs key z))) := by
  refine ⟨m, S, ls, s, r, ?_⟩
  unfold emitD at p
  cases q : k C ls S with
  | bad => rw [q] at p; exact p
  | ex c fs S' => rw [q] at p; exact p.elim
  | ok dk S1 =>
    rw [q] at p
    intro m1 H1 y x1 s1 ry
    refine ⟨m1, S1, ls, s1, r.mono x1, ?_⟩
    simp only at p
    cases q2 : v C ls S1 with
    | bad => rw [q2] at p; exact p
    | ex c fs S' => rw [q2] at p; exact p.elim
    | ok dv S2 =>
      rw [q2] at p
      intro m2 H2 z x2 s2 rz
      simp only at p
      cases q3 : S2.get n with
      | none => rw [q3] at p; exact p.elim
      | some o =>
        rw [q3] at p
        cases o with
        | dct ds =>
          simp only at p
          split at p
          · rename_i hz
            rw [Bool.and_eq_true] at hz
            obtain ⟨key, hk⟩ := keyFits_some hz.1
            have hz := of_decide_eq_true hz.2
            obtain ⟨D', kv, e1, e2, rk⟩ := s2.dct q3
            rw [x2.pre _ _ (x1.pre _ _ hD)] at e1
            cases e1
            have ry2 := ry.mono x2
            cases dKey_rep ry2 hk
            refine ⟨kv, key, rfl, e2, by rw [rk.length, ← line_eq]; exact hz, ?_⟩
            have mu : Mut1 (H2 D) := by rw [e2]; trivial
            have ex : Ext G m2 H2 m2 (upd H2 D (.dK (putK kv key z))) := Ext.mut mu
            exact p m2 _ ((x1.trans x2).trans ex) (sim_set s2 q3 rfl rfl (x2.pre _ _ (x1.pre _ _ hD)) mu (.dct upd_same ((rk.mono ex).put hk (rz.mono ex))))
          · exact p.elim
        | lst xs => exact p.elim
        | rol xs => exact p.elim
        | ins c fs => exact p.elim
        | dtu kvs => exact p.elim
        | fdt kvs => exact p.elim
        | fdk kvs => exact p.elim
theorem dc_fin {k v : ME} {g : Tg} {t : MI} {tc : MT} {vs : List Nat} {σ H} {Q : VK} (sub : ∀ i ∈ g.slots, i ∈ vs) (h : tE G W C (eDc k v g t tc vs) σ H Q) : tDc (tI G W C t) (tG G g) (tT G WF C tc) (tE G WF C k) (tE G WF C v) vs σ H Q := by
  have h1 := tX.bind (Ra := ItR G) (k := fun C σ i S => match compN i g tc (emitD k v S.size C) C (MP.wipe σ vs) turns 0 (S.push (.dct [])) with
    | .ok _ S' => .ok (D.ref S.size) S'
    | _ => .bad) h
  refine tX.imp h1 fun J H1 z D hD => ?_
  obtain ⟨m, S, ls, it, s, r, ri, p⟩ := z
  have ex : Ext G m H1 (m ++ [D]) (upd H1 D (.dK [])) := ext_push hD
  have hl : (m ++ [D])[S.size]? = some D := by rw [← s.len]; exact List.getElem?_concat_length
  refine comp_loop (f := emitD k v S.size C) (Qd := fun H => Q (.ref D) H) (sim_new s hD (.dct upd_same .nil)) ((r.mono ex).wipe vs) (ri.mono ex) sub (F := fun σ2 H3 Nx => tE G WF C k σ2 H3 fun y H4 => tE G WF C v σ2 H4 fun z H5 => ∃ kvs key, y = kV key ∧ H5 D = some (.dK kvs) ∧ kvs.length < sizeLine ∧ Nx (upd H5 D (.dK (putK kvs key z))))
    (fun σ2 m2 H2 S2 ls2 Nx x2 s2 r2 p2 => emitD_post s2 r2 (x2.pre _ _ hl) p2) (?_ : postL G (m ++ [D]) (upd H1 D (.dK [])) (fun H => Q (.ref D) H) _)
  cases q : compN it g tc (emitD k v S.size C) C (MP.wipe ls vs) turns 0 (S.push (.dct [])) with
  | bad => simp only [q] at p; exact p
  | ex c fs S' => simp only [q] at p; exact p
  | ok u S' =>
    simp only [q] at p
    exact fun m' H' x s' => p m' H' (.ref D) (ex.trans x) s' ((ref_new (G := G) (H' := upd H1 D (.dK [])) s).mono x)
theorem swD_true {kx vx : Expr} {cl : List Comprehension} {scope : Scope} {pos py : Pos} {y : Str} {line : Nat} {env : Env} (fk : env.scope.kind = .function) (loc : env.scope.names.lookup y = some .local) (same : (py.line == pos.line) = true)
    (out : (scope.names.any fun (n, k) => n == y && (k == .local || k == .cell)) = false) : swapsWith (.DictComp kx vx cl scope pos) (some (.Name y py)) line env = pure true := by
  have k1 : env.kindOf y = some .local := loc
  have k2 : env.blockKind = .function := by unfold Env.blockKind; rw [fk]; rfl
  unfold swapsWith
  simp only [k2, k1, out, Expr.pos, same]
  rfl
section
variable {kx vx tg iter : Expr} {ifs : List Expr} {scope : Scope} {own : List (Str × Nat)} {pos : Pos} {g : Tg} {t : MI} {tc : MT} {k v : ME} {vs : List Nat}
theorem r_dc (c : Ctx G X W) (hi : PI X tg iter (tI G W C t)) (ok : blkC X.N X.env.scope scope own = true) (hv : own.map (·.2) = vs) (sub : (g.slots.all fun i => vs.contains i) = true)
    (hg : ∀ (s : Shared) (H : Hp) (L : Addr) (cl : List (Str × Addr)) (fp : List Addr), PG (X.blk s H scope (compEnvC scope cl L X.env) fp) tg (tG G g))
    (ht : ∀ (s : Shared) (H : Hp) (L : Addr) (cl : List (Str × Addr)) (fp : List Addr), PTs (X.blk s H scope (compEnvC scope cl L X.env) fp) ifs (tT G WF C tc))
    (hk : ∀ (s : Shared) (H : Hp) (L : Addr) (cl : List (Str × Addr)) (fp : List Addr), PE (X.blk s H scope (compEnvC scope cl L X.env) fp) kx (tE G WF C k))
    (he : ∀ (s : Shared) (H : Hp) (L : Addr) (cl : List (Str × Addr)) (fp : List Addr), PE (X.blk s H scope (compEnvC scope cl L X.env) fp) vx (tE G WF C v)) (hs : ∀ x, foldedSetIterable iter X.env x = pure x := by intro _; rfl) :
    PE X (.DictComp kx vx [⟨tg, iter, ifs, 0⟩] scope pos) (tE G W C (eDc k v g t tc vs)) := by
  subst hv
  exact PE.weak (pe_dc c.calm c.hN hi (blkOk_by ok) hg ht hk he hs) fun σ H Q h => dc_fin (fun i hi => by simpa using List.all_eq_true.mp sub i hi) h
/-- a local gets the new dict, all on one line -/
theorem ps_setDc {i : Nat} {y : Str} {py spos : Pos} {wi : TI} {tg' : TG} {tt : TT} {tk tv : TE} (calm : X.calm = true) (nd : X.N.Nodup) (hy : X.N[i]? = some y) (hyl : X.env.scope.names.lookup y = some .local)
    (hsw : swapsWith (.DictComp kx vx [⟨tg, iter, ifs, 0⟩] scope pos) (some (.Name y py)) spos.line X.env = pure true) (hi : PI X tg iter wi) (ok : BlkOk X.N X.env.scope scope own)
    (hg : ∀ (s : Shared) (H : Hp) (L : Addr) (cl : List (Str × Addr)) (fp : List Addr), PG (X.blk s H scope (compEnvC scope cl L X.env) fp) tg tg')
    (ht : ∀ (s : Shared) (H : Hp) (L : Addr) (cl : List (Str × Addr)) (fp : List Addr), PTs (X.blk s H scope (compEnvC scope cl L X.env) fp) ifs tt)
    (hk : ∀ (s : Shared) (H : Hp) (L : Addr) (cl : List (Str × Addr)) (fp : List Addr), PE (X.blk s H scope (compEnvC scope cl L X.env) fp) kx tk)
    (he : ∀ (s : Shared) (H : Hp) (L : Addr) (cl : List (Str × Addr)) (fp : List Addr), PE (X.blk s H scope (compEnvC scope cl L X.env) fp) vx tv) (hs : ∀ x, foldedSetIterable iter X.env x = pure x) :
    PS X (.Assign [.Name y py] (.DictComp kx vx [⟨tg, iter, ifs, 0⟩] scope pos) spos) (tAsg (tDc wi tg' tt tk tv (own.map (·.2))) (gName i)) := by
  refine ⟨fun pins s σ H E I h => ?_⟩
  rw [exec_Assign_Name_used _ _ _ _ hsw]
  refine wpAny_bind (wpAny_standAt (wpAny_bind ?_))
  show wpAny _ X.A (do let _ ← comprehension (.DictComp kx vx [⟨tg, iter, ifs, 0⟩] scope pos) scope X.env (firstIterPos [⟨tg, iter, ifs, 0⟩] pos) newDict false (eval iter X.env) (some (assign (.Name y py) X.env))) _ _ s
  have h' : tDc wi tg' tt tk tv (own.map (·.2)) σ H (fun x H1 => gName i x σ H1 E.nx) := h
  refine wpAny_bind (thn (dc_core (Qf := fun _ t => SP X pins E .next t) calm nd I hi ok hg ht hk he hs h' fun L B s2 ns H2 I2 last hn fB => ?_) fun _ _ done => wpAny_pure (wpAny_pure done))
  show wpAny _ _ (assign (.Name y py) X.env (.ref L)) _ _ _
  refine wpAny_assign_Name (store_ok2 (v := V.ref L) I2 nd hy (.inl hyl) rfl (fun s3 I3 ⟨cell, same, hcell⟩ => ?_) (.inr hyl))
  obtain ⟨b0, b1, b2, b3, b4, b5⟩ := fB
  have apart : B ≠ cell := by
    rcases hcell with e | e
    · rw [e]; exact b1
    · exact fun w => b4 y cell e w.symm
  refine ⟨ns, hn.sameBut same apart, fun h4 same4 => ?_⟩
  exact ⟨_, H2, I3.turned (t' := s3.toks) (fun b o hb e => (same4.2 b hb).trans e) b0 b1 b3 b4 b5, last⟩
theorem s_setDc {i : Nat} {y : Str} {py spos : Pos} (c : Ctx G X W) (hy : X.N[i]? = some y) (hyl : X.env.scope.names.lookup y = some .local) (hsw : swapsWith (.DictComp kx vx [⟨tg, iter, ifs, 0⟩] scope pos) (some (.Name y py)) spos.line X.env = pure true)
    (hi : PI X tg iter (tI G W C t)) (ok : blkC X.N X.env.scope scope own = true) (hv : own.map (·.2) = vs) (sub : (g.slots.all fun i => vs.contains i) = true)
    (hg : ∀ (s : Shared) (H : Hp) (L : Addr) (cl : List (Str × Addr)) (fp : List Addr), PG (X.blk s H scope (compEnvC scope cl L X.env) fp) tg (tG G g))
    (ht : ∀ (s : Shared) (H : Hp) (L : Addr) (cl : List (Str × Addr)) (fp : List Addr), PTs (X.blk s H scope (compEnvC scope cl L X.env) fp) ifs (tT G WF C tc))
    (hk : ∀ (s : Shared) (H : Hp) (L : Addr) (cl : List (Str × Addr)) (fp : List Addr), PE (X.blk s H scope (compEnvC scope cl L X.env) fp) kx (tE G WF C k))
    (he : ∀ (s : Shared) (H : Hp) (L : Addr) (cl : List (Str × Addr)) (fp : List Addr), PE (X.blk s H scope (compEnvC scope cl L X.env) fp) vx (tE G WF C v)) (hs : ∀ x, foldedSetIterable iter X.env x = pure x := by intro _; rfl) :
    PS X (.Assign [.Name y py] (.DictComp kx vx [⟨tg, iter, ifs, 0⟩] scope pos) spos) (tS G W C (sSet (.nm i) (eDc k v g t tc vs))) := by
  subst hv
  refine PS.weak (ps_setDc c.calm c.hN hy hyl hsw hi (blkOk_by ok) hg ht hk he hs) fun E σ H ⟨m, S, ls, s, r, p⟩ => dc_fin (fun i hi => by simpa using List.all_eq_true.mp sub i hi) ⟨m, S, ls, s, r, post.imp (lift_post (Ra := RepV G) r p) fun x H1 ⟨m1, S1, a, _, s1, r1, ra, p1⟩ => ?_⟩
  unfold asg at p1
  split at p1
  · rename_i ls' e
    split at e
    · cases e
      exact p1 m1 H1 _ Ext.refl s1 (r1.set ra)
    · cases e
  · exact p1.elim
end
end
end MP

/-! MP: list(range(n)); two items stored at once. Own work. -/
namespace MP
open PySem PySem.Spec PyProof.Rows L2

/-- list(range(n)) -/
def opListRg : D → P D
  | .int n => fun S => if n ≤ 16000000 ∧ -16000000 ≤ n then some (.ref S.size, S.push (.lst ((List.range n.toNat).map fun (i : Nat) => .int i))) else none
  | _ => P.bad
/-- o1[i1], o2[i2] = a, b -/
def sItem2 (o1 i1 o2 i2 a b : ME) : MS := fun C σ S => lift (a C σ) σ S fun x S1 => lift (b C σ) σ S1 fun y S2 => lift (o1 C σ) σ S2 fun u S3 => lift (i1 C σ) σ S3 fun k S4 => lift (M.of (putItem u k x)) σ S4 fun _ S5 =>
  lift (o2 C σ) σ S5 fun v S6 => lift (i2 C σ) σ S6 fun l S7 => lift (M.of (putItem v l y)) σ S7 fun _ S8 => .nx σ S8
section
variable {G : Gx} {X : Cx} {W : WX} {C : Cfg}
theorem reps_rg {m : List Addr} {H : Hp} (f : Nat → Int) : ∀ l : List Nat, RepVs G m H (l.map fun i => V.int (f i)) (l.map fun i => D.int (f i))
  | [] => .nil
  | i :: l => .cons (.int _) (reps_rg f l)
theorem r_listRg {e : Expr} {a : ME} {p p2 pos pos2 : Pos} (c : Ctx G X W) (hg : Gl X "list") (hm : X.mg "list" = none) (hg2 : Gl X "range") (hm2 : X.mg "range" = none) (he : PE X e (tE G W C a))
    (h1 : starEach [e] X.env = (false, eval e X.env) :: starEach [] X.env := by rfl) (h2 : starEach [.Call (.Name "range" p2) [e] [] pos2] X.env = (false, eval (.Call (.Name "range" p2) [e] [] pos2) X.env) :: starEach [] X.env := by rfl) :
    PE X (.Call (.Name "list" p) [.Call (.Name "range" p2) [e] [] pos2] [] pos) (tE G W C (e1 opListRg a)) :=
  PE.weak (pe_listRg c.calm hg hm (prg_1 hg2 hm2 he h1) h2) fun σ H Q h => by
    refine tX.imp (w1 (Rp := RepV G) (f := opListRg) h) fun v H1 z => ?_
    obtain ⟨m, S, d, sim, rd, p⟩ := z
    unfold opListRg at p
    split at p
    · rename_i n
      cases rd.int_
      split at p
      · rename_i hz
        refine ⟨n, rfl, ⟨by omega, by omega, by omega, by omega, by omega⟩, ?_⟩
        have e : rgV 0 n = (List.range n.toNat).map fun (i : Nat) => V.int (i : Int) := by
          unfold rgV
          rw [show n - 0 = n by omega]
          refine List.map_congr_left fun i _ => ?_
          rw [Int.zero_add]
        rw [e]
        exact new_lst sim (reps_rg (fun i => (i : Int)) (List.range n.toNat)) p
      · exact p.elim
    · exact p.elim
theorem lift_put {σ : L2.St} {m : List Addr} {H : Hp} {ls : Slots} {E : Ends} {S : Store} {u k x : D} {vu vk vx : V} {kk : Unit → Store → SR} (sim : Sim G m S H) (r : SlotR G m H ls σ) (ru : RepV G m H vu u) (rk : RepV G m H vk k) (rx : RepV G m H vx x)
    (p : postS G W m H E (lift (M.of (putItem u k x)) ls S kk)) {Q : Hp → Prop} (h : ∀ H' S', Ext G m H m H' → Sim G m S' H' → SlotR G m H' ls σ → postS G W m H' E (kk () S') → Q H') : rSetL vu vk vx H Q ∨ rSetK vu vk vx H Q := by
  unfold lift M.of at p
  cases q : putItem u k x S with
  | none => simp only [q] at p; exact p.elim
  | some w =>
    simp only [q] at p
    exact put_lst (cs := .non) sim ru rk rx q fun H' ex s' => h H' w.2 ex s' (r.mono ex) (p.ext ex)
theorem s_item2 {o1 i1 o2 i2 a b : Expr} {eo1 ei1 eo2 ei2 ea eb : ME} {k1 k2 : Nat} {q1 q2 pt pv pos : Pos} (c : Ctx G X W) (h1 : PE X o1 (tE G W C eo1)) (h2 : PE X i1 (tE G W C ei1)) (h3 : PE X o2 (tE G W C eo2)) (h4 : PE X i2 (tE G W C ei2)) (ha : PE X a (tE G W C ea)) (hb : PE X b (tE G W C eb))
    (s1 : starEach [a, b] X.env = (false, eval a X.env) :: starEach [b] X.env := by rfl) (s2 : starEach [b] X.env = (false, eval b X.env) :: starEach [] X.env := by rfl)
    (a1 : ∀ v, assign (.Subscript o1 i1 q1) X.env v = (do
      let ov ← holding [v] (eval o1 X.env)
      let iv ← holding [v, ov] (eval i1 X.env)
      standAt q1
      holding [v, ov, iv] (setItem ov iv v)
      release [v, ov, iv] []) := by intro _; rfl)
    (a2 : ∀ v, assign (.Subscript o2 i2 q2) X.env v = (do
      let ov ← holding [v] (eval o2 X.env)
      let iv ← holding [v, ov] (eval i2 X.env)
      standAt q2
      holding [v, ov, iv] (setItem ov iv v)
      release [v, ov, iv] []) := by intro _; rfl)
    (g1 : (assignEach [.Subscript o1 i1 q1, .Subscript o2 i2 q2] X.env).map (·.2) = assign (.Subscript o1 i1 q1) X.env :: (assignEach [.Subscript o2 i2 q2] X.env).map (·.2) := by rfl)
    (g2 : (assignEach [.Subscript o2 i2 q2] X.env).map (·.2) = assign (.Subscript o2 i2 q2) X.env :: (assignEach [] X.env).map (·.2) := by rfl)
    (n1 : (assignEach [.Subscript o1 i1 q1, .Subscript o2 i2 q2] X.env).length = 2 := by rfl) (n2 : (assignEach [.Subscript o1 i1 q1, .Subscript o2 i2 q2] X.env).findIdx? (·.1) = none := by rfl)
    (hs : swapsWithSole [.Tuple [.Subscript o1 i1 q1, .Subscript o2 i2 q2] k1 pt] (.Tuple [a, b] k2 pv) pos.line X.env = pure false := by rfl) (hw : swappedStores [.Tuple [.Subscript o1 i1 q1, .Subscript o2 i2 q2] k1 pt] (.Tuple [a, b] k2 pv) X.env = pure none := by rfl)
    (hx : (assignEach [.Tuple [.Subscript o1 i1 q1, .Subscript o2 i2 q2] k1 pt] X.env).map (·.2) = [assign (.Tuple [.Subscript o1 i1 q1, .Subscript o2 i2 q2] k1 pt) X.env] := by rfl) :
    PS X (.Assign [.Tuple [.Subscript o1 i1 q1, .Subscript o2 i2 q2] k1 pt] (.Tuple [a, b] k2 pv) pos) (tS G W C (sItem2 eo1 ei1 eo2 ei2 ea eb)) :=
  PS.weak (ps_asg (pe_tup (pa_cons ha (pa_cons hb pa_nil s2) s1)) (pg_tup (n := 2) c.calm (pgs_cons (pg_sub h1 h2 set_lk a1) (pgs_cons (pg_sub h3 h4 set_lk a2) pgs_nil g2) g1) n1 n2) hs hw hx) fun E σ H ⟨m, S, ls, s, r, p⟩ => by
    refine ⟨m, S, ls, s, r, post.imp (lift_post (Ra := RepV G) r p) fun x H1 ⟨m1, S1, dx, x1, s1, r1, rx, p1⟩ => ?_⟩
    refine ⟨m1, S1, ls, s1, r1, post.imp (lift_post (Ra := RepV G) r1 p1) fun y H2 ⟨m2, S2, dy, x2, s2, r2, ry, p2⟩ => ?_⟩
    refine ⟨by show 2 ≤ sizeLine; rw [sizeLine_eq]; decide, fun t ht => ?_⟩
    have ex : Ext G m2 H2 m2 (upd H2 t (.tup [x, y])) := Ext.new ht
    have s3 := sim_same (u := .tup [x, y]) s2 ht
    refine ⟨t, [x, y], rfl, SqT.of upd_same, rfl, x, [y], rfl, ?_⟩
    refine ⟨m2, S2, ls, s3, r2.mono ex, post.imp (lift_post (Ra := RepV G) (r2.mono ex) (p2.ext ex)) fun u H3 ⟨m3, S3, du, x3, s4, r3, ru, p3⟩ => ?_⟩
    refine ⟨m3, S3, ls, s4, r3, post.imp (lift_post (Ra := RepV G) r3 p3) fun k H4 ⟨m4, S4, dk, x4, s5, r4, rk, p4⟩ => ?_⟩
    have ext2 := (ex.trans x3).trans x4
    refine lift_put s5 r4 (ru.mono x4) rk ((rx.mono x2).mono ext2) p4 fun H5 S5 x5 s6 r5 p5 => ?_
    refine ⟨y, [], rfl, ?_⟩
    refine ⟨m4, S5, ls, s6, r5, post.imp (lift_post (Ra := RepV G) r5 p5) fun v H6 ⟨m6, S6, dv, x6, s7, r6, rv, p6⟩ => ?_⟩
    refine ⟨m6, S6, ls, s7, r6, post.imp (lift_post (Ra := RepV G) r6 p6) fun l H7 ⟨m7, S7, dl, x7, s8, r7, rl, p7⟩ => ?_⟩
    refine lift_put s8 r7 (rv.mono x7) rl (ry.mono (((ext2.trans x5).trans x6).trans x7)) p7 fun H8 S8 x8 s9 r8 p8 => ?_
    exact ⟨rfl, p8 m7 H8 σ Ext.refl s9 r8⟩
end
end MP
namespace MP
open PySem PySem.Spec PyProof.Rows L2
/-! ### s[::-1], l[::-1] -/
def opRevX : D → P D
  | .str s => fun S => if s.length ≤ line then some (.str s.reverse, S) else none
  | x => opRev x
theorem rev_picked (x : Str) (t : Tok) : (PySem.slicePicked x none none (some (-1, t))) = (List.range x.cps.size).reverse := by
  show Builtin.Str.strSliceIndices none none (-1) x.cps.size = _
  unfold Builtin.Str.strSliceIndices
  have h : ¬ ((-1 : Int) > 0) := by decide
  simp only [h, if_false]
  rw [PySem.W.krv_sliceRange, PySem.W.krv_range]
theorem rev_made (x : Str) (t u : Tok) : PySem.sliceMade x t none none (some (-1, u)) = .str ⟨x.cps.toList.reverse.toArray⟩ := by
  unfold PySem.sliceMade
  have h : ¬ (((some ((-1 : Int), u)).map (·.1)).getD 1 == 1 && (PySem.slicePicked x none none (some (-1, u))).length == x.length) = true := by
    simp
  rw [if_neg h, rev_picked, List.filterMap_reverse, PySem.W.krv_all]
section
variable {G : Gx} {X : Cx} {W : WX} {C : Cfg}
def tRevX (K : PySem.W.Frag) (te : TE) : TE := fun σ H Q => te σ H fun x H1 => (∃ a xs, x = .ref a ∧ SqL K H1 a xs ∧ ∀ p, H1 p = none → Q (.ref p) (upd H1 p (.lst xs.reverse))) ∨ ∃ z : Str, x = .str z ∧ z.length ≤ sizeLine ∧ Q (.str ⟨z.cps.toList.reverse.toArray⟩) H1
theorem pe_revX {e : Expr} {te : TE} {k : Nat} {p1 p2 p3 pos : Pos} (he : PE X e te) : PE X (.Subscript e (.Slice none none (some (.UnaryOp .USub (.Constant (.int 1) k p1) p2)) p3) pos) (tRevX X.K te) := by
  refine ⟨fun pins s σ H Q I h => ?_⟩
  refine Subscript_ (thn (he.run pins s σ H _ I h) fun v z1 ⟨x, H1, I1, r1, q1⟩ => ?_)
  have stp : PO X (some (.UnaryOp .USub (.Constant (.int 1) k p1) p2)) (tPart (tUn (rU fun i => .int (-i)) (tC (.int 1)))) := po_some (pe_un un_neg pe_int)
  refine wpAny_Slice (thn (po_none.run pins z1 σ H1 (fun o H2 => o = none ∧ H2 = H1) I1 ⟨rfl, rfl⟩) fun vl z2 ⟨l, H2, I2, pl, el, e2⟩ => ?_)
  subst el e2
  refine thn (po_none.run pins z2 σ H2 (fun o H3 => o = none ∧ H3 = H2) I2 ⟨rfl, rfl⟩) fun vu z3 ⟨u, H3, I3, pu, eu, e3⟩ => ?_
  subst eu e3
  refine thn (stp.run pins z3 σ H3 (fun o H4 => o = some (-1) ∧ H4 = H3) I3 ⟨1, rfl, -1, rfl, rfl, rfl⟩) fun vs z4 ⟨o, H4, I4, ps, eo, e4⟩ => ?_
  subst eo e4
  have I5 : Inv X pins σ H4 { z4 with heap := z4.heap.push { cls := .type "slice", data := .fields #[vl, vu, vs] } } := I4.kept (t' := z4.toks) fun b ob w => Heap.get?_push_of_some _ w
  rcases q1 with ⟨a, xs, ex, hx, q⟩ | ⟨z, ex, hz, q⟩
  · subst ex
    cases r1
    obtain ⟨cells, rel, isL, bnd⟩ := I5.list hx
    have same := rel.length
    refine tail_any (ops := [.ref a, .ref z4.heap.objs.size]) isL.isList.typeIs (PySem.slot_list_getitem.lookup) ?_ (by with_unfolding_all rfl)
    refine wpAny_getItem_list_slice isL.isList (Heap.IsSliceOf.new _ vl vu vs) pl pu ps (by decide) ?_ (by rw [List.size_toArray]; omega)
    rw [PySem.W.krv_pick]
    refine ⟨.ref _, _, I5.laid (t' := z4.toks) (o := .lst xs.reverse) (fun b ob w => Heap.get?_push_of_some _ w) (Nat.le_refl _) ⟨?_, _, 0, rel.reverse, Heap.get?_push_size _ rfl⟩, rfl, q _ (I5.hok.fresh (Nat.le_refl _))⟩
    rw [List.length_reverse]
    exact bnd
  · subst ex
    obtain ⟨t, rfl⟩ := (show ∃ t, v = Value.str z t from r1)
    cases pl
    cases pu
    obtain ⟨uk, rfl⟩ : ∃ uk, vs = .int (-1) uk := by cases ps; exact ⟨_, rfl⟩
    have hl : (⟨z.cps.toList.reverse.toArray⟩ : Str).length ≤ sizeLine := by
      show z.cps.toList.reverse.toArray.size ≤ sizeLine
      rw [List.size_toArray, List.length_reverse, Array.length_toList]
      exact hz
    refine tail_any (ops := [.ref z4.heap.objs.size, .str z t]) (typeIs_str _ _ _) F.slot_str_getitem.lookup ?_ (by with_unfolding_all rfl)
    refine wpAny_getItem_str_slice (l := none) (u := none) (st := some (-1, uk)) ⟨_, Heap.get?_push_size _ rfl, rfl, rfl⟩ rfl ?_
    rw [rev_made]
    exact ⟨hl, ⟨.str _, _, I5.tok _, ⟨_, rfl⟩, q⟩⟩
theorem r_revX {e : Expr} {a : ME} {k : Nat} {p1 p2 p3 pos : Pos} (hK : G.K = X.K) (he : PE X e (tE G W C a)) : PE X (.Subscript e (.Slice none none (some (.UnaryOp .USub (.Constant (.int 1) k p1) p2)) p3) pos) (tE G W C (e1 opRevX a)) :=
  PE.weak (pe_revX he) fun σ H Q h => by
    refine tX.imp (w1 (Rp := RepV G) (f := opRevX) h) fun v H1 z => ?_
    obtain ⟨m, S, d, sim, rd, p⟩ := z
    unfold opRevX at p
    split at p
    · rename_i l
      cases rd.str_
      split at p
      · rename_i hz
        refine .inr ⟨_, rfl, by rw [len_mk, ← line_eq]; exact hz, ?_⟩
        exact fin_val sim (.str l.reverse) p
      · exact p.elim
    · unfold opRev at p
      split at p
      · rename_i n _
        obtain ⟨q, rfl, hq⟩ := rd.ref_
        split at p
        · rename_i xs hg
          obtain ⟨q', vs, e1, e2, rv⟩ := sim.lst hg
          rw [hq] at e1
          cases e1
          exact .inl ⟨q, vs, rfl, hK ▸ .inl (.inl e2), new_lst sim rv.reverse p⟩
        · exact p.elim
      · exact p.elim
end
end MP

/-! MP: dicts whose keys are tuples of ints, texts, None, such tuples: stores, items, in, get, setdefault, len, list. Own work. -/
namespace MP
open PySem PySem.Spec PyProof.Rows L2

/-! ### keys -/
theorem nk_tup {n : Nat} {xs : List D} {k : NestedKey} (h : nk n (.tup xs) = some k) : ∃ j ks, n = j + 1 ∧ nks j xs = some ks ∧ k = .tup ks := by
  cases n with
  | zero => unfold nk at h; cases h
  | succ j =>
    unfold nk at h
    obtain ⟨ks, h1, rfl⟩ := Option.map_eq_some_iff.mp h
    exact ⟨j, ks, rfl, h1, rfl⟩
theorem nks_cons {n : Nat} {x : D} {xs : List D} {ks : List NestedKey} (h : nks n (x :: xs) = some ks) : ∃ a b, nk n x = some a ∧ nks n xs = some b ∧ ks = a :: b := by
  unfold nks at h
  cases h1 : nk n x with
  | none => rw [h1] at h; cases h
  | some a =>
    cases h2 : nks n xs with
    | none => rw [h1, h2] at h; cases h
    | some b => rw [h1, h2] at h; cases h; exact ⟨a, b, rfl, rfl, rfl⟩
mutual
theorem nk_depth : ∀ (d : D) (n : Nat) (k : NestedKey), nk n d = some k → k.depth ≤ n
  | .non, n, k, h => by unfold nk at h; cases h; exact Nat.zero_le _
  | .int i, n, k, h => by unfold nk at h; cases h; exact Nat.zero_le _
  | .str s, n, k, h => by unfold nk at h; cases h; exact Nat.zero_le _
  | .tup xs, n, k, h => by
    obtain ⟨j, ks, rfl, h1, rfl⟩ := nk_tup h
    have := nks_depth xs j ks h1
    simp only [NestedKey.depth]
    omega
  | .bl b, n, k, h => by unfold nk at h; cases h
  | .ref r, n, k, h => by unfold nk at h; cases h
  | .exn _ _, n, k, h => by unfold nk at h; cases h
  | .lam _ _, n, k, h => by unfold nk at h; cases h
theorem nks_depth : ∀ (xs : List D) (n : Nat) (ks : List NestedKey), nks n xs = some ks → NestedKey.depthAll ks ≤ n
  | [], n, ks, h => by unfold nks at h; cases h; exact Nat.zero_le _
  | x :: xs, n, ks, h => by
    obtain ⟨a, b, h1, h2, rfl⟩ := nks_cons h
    have := nk_depth x n a h1
    have := nks_depth xs n b h2
    simp only [NestedKey.depthAll]
    omega
end
mutual
theorem nk_eq : ∀ (a b : D) (n : Nat) (k l : NestedKey), nk n a = some k → nk n b = some l → (D.beq a b = true ↔ k = l)
  | .non, b, n, k, l, h, h' => by
    unfold nk at h; cases h
    cases b <;> first | (obtain ⟨_, _, _, _, rfl⟩ := nk_tup h'; simp [D.beq]) | (unfold nk at h'; cases h' <;> simp [D.beq])
  | .int i, b, n, k, l, h, h' => by
    unfold nk at h; cases h
    cases b <;> first | (obtain ⟨_, _, _, _, rfl⟩ := nk_tup h'; simp [D.beq]) | (unfold nk at h'; cases h' <;> simp [D.beq])
  | .str s, b, n, k, l, h, h' => by
    unfold nk at h; cases h
    cases b <;> first | (obtain ⟨_, _, _, _, rfl⟩ := nk_tup h'; simp [D.beq]) | (unfold nk at h'; cases h' <;> simp [D.beq])
  | .tup xs, b, n, k, l, h, h' => by
    obtain ⟨j, ks, rfl, h1, rfl⟩ := nk_tup h
    cases b with
    | tup ys =>
      obtain ⟨j', ls, e, h2, rfl⟩ := nk_tup h'
      cases e
      have := nks_eq xs ys j ks ls h1 h2
      unfold D.beq
      rw [this]
      simp
    | non => unfold nk at h'; cases h'; simp [D.beq]
    | int i => unfold nk at h'; cases h'; simp [D.beq]
    | str s => unfold nk at h'; cases h'; simp [D.beq]
    | bl b => unfold nk at h'; cases h'
    | ref r => unfold nk at h'; cases h'
    | exn _ _ => unfold nk at h'; cases h'
    | lam _ _ => unfold nk at h'; cases h'
  | .bl b, _, n, k, l, h, h' => by unfold nk at h; cases h
  | .ref r, _, n, k, l, h, h' => by unfold nk at h; cases h
  | .exn _ _, _, n, k, l, h, h' => by unfold nk at h; cases h
  | .lam _ _, _, n, k, l, h, h' => by unfold nk at h; cases h
theorem nks_eq : ∀ (xs ys : List D) (n : Nat) (ks ls : List NestedKey), nks n xs = some ks → nks n ys = some ls → (D.beqAll xs ys = true ↔ ks = ls)
  | [], [], n, ks, ls, h, h' => by unfold nks at h h'; cases h; cases h'; simp [D.beqAll]
  | [], y :: ys, n, ks, ls, h, h' => by
    obtain ⟨a, b, h1, h2, rfl⟩ := nks_cons h'
    unfold nks at h; cases h
    simp [D.beqAll]
  | x :: xs, [], n, ks, ls, h, h' => by
    obtain ⟨a, b, h1, h2, rfl⟩ := nks_cons h
    unfold nks at h'; cases h'
    simp [D.beqAll]
  | x :: xs, y :: ys, n, ks, ls, h, h' => by
    obtain ⟨a, b, h1, h2, rfl⟩ := nks_cons h
    obtain ⟨a', b', h3, h4, rfl⟩ := nks_cons h'
    have e1 := nk_eq x y n a a' h1 h3
    have e2 := nks_eq xs ys n b b' h2 h4
    unfold D.beqAll
    rw [Bool.and_eq_true, e1, e2]
    simp
end
theorem tk_tup {d : D} {k : NestedKey} (h : tk d = some k) : nk 8 d = some k ∧ ∃ xs, d = .tup xs := by
  unfold tk at h
  split at h
  · exact ⟨h, _, rfl⟩
  · cases h
theorem tk_eq {a b : D} {k l : NestedKey} (h : tk a = some k) (h' : tk b = some l) : D.beq a b = true ↔ k = l := nk_eq a b 8 k l (tk_tup h).1 (tk_tup h').1
section
variable {G : Gx} {X : Cx} {pins : List (Addr × Obj)} {σ : L2.St} {m : List Addr} {H : Hp} {s : Shared}
mutual
theorem nk_is (hK : G.K = X.K) (I : Inv X pins σ H s) : ∀ (d : D) (n : Nat) (k : NestedKey) (v : V) (u : Value), nk n d = some k → RepV G m H v d → RelV v u → NestedIs s.heap k u
  | .non, n, k, v, u, h, r, q => by unfold nk at h; cases h; cases r; cases q; exact .none
  | .int i, n, k, v, u, h, r, q => by unfold nk at h; cases h; cases r; obtain ⟨t, rfl⟩ := q; exact .int _ _
  | .str x, n, k, v, u, h, r, q => by unfold nk at h; cases h; cases r; obtain ⟨t, rfl⟩ := q; exact .text _ _
  | .tup xs, n, k, v, u, h, r, q => by
    obtain ⟨j, ks, rfl, h1, rfl⟩ := nk_tup h
    obtain ⟨p, vs, rfl, hq, hv⟩ := r.tup_
    cases q
    obtain ⟨its, rv, ⟨o, e1, e2, n', e3⟩, _⟩ := I.tuple (hK ▸ hq)
    exact .tup e1 e2 e3 (by simpa using nks_is hK I xs j ks vs its h1 hv rv)
  | .bl b, n, k, v, u, h, r, q => by unfold nk at h; cases h
  | .ref b, n, k, v, u, h, r, q => by unfold nk at h; cases h
  | .exn _ _, n, k, v, u, h, r, q => by unfold nk at h; cases h
  | .lam _ _, n, k, v, u, h, r, q => by unfold nk at h; cases h
theorem nks_is (hK : G.K = X.K) (I : Inv X pins σ H s) : ∀ (xs : List D) (n : Nat) (ks : List NestedKey) (vs : List V) (us : List Value), nks n xs = some ks → RepVs G m H vs xs → Vals vs us → NestedAll s.heap ks us
  | [], n, ks, vs, us, h, r, q => by unfold nks at h; cases h; cases r; cases q; exact .nil
  | x :: xs, n, ks, vs, us, h, r, q => by
    obtain ⟨a, b, h1, h2, rfl⟩ := nks_cons h
    cases r with
    | cons r1 r2 =>
      cases q with
      | cons q1 q2 => exact .cons (nk_is hK I x n a _ _ h1 r1 q1) (nks_is hK I xs n b _ _ h2 r2 q2)
end
theorem tk_is (hK : G.K = X.K) (I : Inv X pins σ H s) {d : D} {k : NestedKey} {q : Addr} (h : tk d = some k) (r : RepV G m H (.ref q) d) : (nestedKind X.prog X.w).is s.heap k q :=
  ⟨nk_is hK I d 8 k _ _ (tk_tup h).1 r rfl, nk_depth d 8 k (tk_tup h).1⟩
theorem tk_ref {d : D} {k : NestedKey} {v : V} (h : tk d = some k) (r : RepV G m H v d) : ∃ q, v = .ref q := by
  obtain ⟨_, xs, rfl⟩ := tk_tup h
  obtain ⟨p, vs, rfl, _, _⟩ := r.tup_
  exact ⟨p, rfl⟩

/-! ### the dict in the heap -/
abbrev PN : NestedKey × Addr × V → NestedKey × Addr × Value → Prop := fun p q => p.1 = q.1 ∧ p.2.1 = q.2.1 ∧ RelV p.2.2 q.2.2
theorem PN.keys : ∀ {xs : List (NestedKey × Addr × V)} {ys : List (NestedKey × Addr × Value)}, Paired PN xs ys → xs.map (·.1) = ys.map (·.1)
  | _, _, .nil => rfl
  | _, _, .cons a b => by rw [List.map_cons, List.map_cons, a.1, PN.keys b]
theorem dn_of0 (hW : G.ne.w = X.w) (hK : G.K = X.K) (I : Inv X pins σ H s) {p : Addr} {xs : List (NestedKey × Addr × V)} {ds : List (D × D)} (e : ObjOk X.prog X.w H s.heap p (DTO G.ne.w p xs)) (r : RepN G m H xs ds) :
    (p == sysModules) = false ∧ xs.length ≤ sizeLine ∧ ∃ ys, Paired PN xs ys ∧ s.heap.DictOfH (nestedKind X.prog X.w) p ys := by
  obtain ⟨⟨z1, z2, nd, ys, o, es, ep, hp, h1, h2, h3, h4⟩, _⟩ := e
  refine ⟨z1, z2, ys, hp, o, es, ep, h1, h2, h3, ?_, ?_, PN.keys hp ▸ nd⟩
  · rw [h4, hW]; rfl
  · have : ∀ {xs : List (NestedKey × Addr × V)} {ys : List (NestedKey × Addr × Value)} {ds : List (D × D)}, Paired PN xs ys → RepN G m H xs ds → ∀ y ∈ ys, (nestedKind X.prog X.w).is s.heap y.1 y.2.1 := by
      intro xs ys ds hp r
      induction hp generalizing ds with
      | nil => exact fun _ z => nomatch z
      | cons a b ih =>
        cases r with
        | cons k q v r =>
          intro y hy
          rcases List.mem_cons.mp hy with rfl | hy
          · obtain ⟨a1, a2, a3⟩ := a
            rw [← a1, ← a2]
            exact tk_is hK I k q
          · exact ih r y hy
    exact this hp r
theorem dn_of (hW : G.ne.w = X.w) (hK : G.K = X.K) (I : Inv X pins σ H s) {p : Addr} {xs : List (NestedKey × Addr × V)} {ds : List (D × D)} (e : H p = some (DTO G.ne.w p xs)) (r : RepN G m H xs ds) :
    (p == sysModules) = false ∧ xs.length ≤ sizeLine ∧ ∃ ys, Paired PN xs ys ∧ s.heap.DictOfH (nestedKind X.prog X.w) p ys := dn_of0 hW hK I (I.hok p _ e) r
theorem dn_ofF (hW : G.ne.w = X.w) (hK : G.K = X.K) (I : Inv X pins σ H s) {p : Addr} {o : Obj} {xs : List (NestedKey × Addr × V)} {ds : List (D × D)} (e : H p = some (.frz o (DTO G.ne.w p xs))) (r : RepN G m H xs ds) :
    (p == sysModules) = false ∧ xs.length ≤ sizeLine ∧ ∃ ys, Paired PN xs ys ∧ s.heap.DictOfH (nestedKind X.prog X.w) p ys := dn_of0 hW hK I (I.hok p _ e).2 r
theorem dn_new (hW : G.ne.w = X.w) {H' : Hp} {h' : Heap} {p : Addr} {xs : List (NestedKey × Addr × V)} {ys : List (NestedKey × Addr × Value)} (hd : (p == sysModules) = false) (hz : xs.length ≤ sizeLine) (hp : Paired PN xs ys) (hh : h'.DictOfH (nestedKind X.prog X.w) p ys) :
    ObjOk X.prog X.w H' h' p (DTO G.ne.w p xs) := by
  obtain ⟨o, es, ep, h1, h2, h3, h4, h5, h6⟩ := hh
  refine ⟨⟨hd, hz, by rw [PN.keys hp]; exact h6, ys, o, es, ep, hp, h1, h2, h3, by rw [h4, hW]; rfl⟩, ⟨o, h1⟩, fun g1 g2 ⟨a1, a2, a3, ys, o, es, ep, b1, b2, b3⟩ k => ⟨a1, a2, a3, ys, o, es, ep, b1, k o b2, b3⟩⟩
/-- the value at a key -/
def atN (xs : List (NestedKey × Addr × V)) (k : NestedKey) : Option V := (xs.find? fun x => decide (x.1 = k)).map (·.2.2)
theorem atN_at {k : NestedKey} : ∀ {xs : List (NestedKey × Addr × V)} {ys : List (NestedKey × Addr × Value)}, Paired PN xs ys → RelO (atN xs k) ((atKey ys k).map (·.2))
  | _, _, .nil => trivial
  | _, _, .cons (a := x) (b := y) a b => by
    obtain ⟨a1, a2, a3⟩ := a
    have ih := atN_at (k := k) b
    unfold atN atKey at ih ⊢
    rw [List.find?_cons, List.find?_cons, ← a1]
    by_cases h : x.1 = k
    · rw [decide_eq_true h]
      exact a3
    · rw [decide_eq_false h]
      exact ih
theorem RepN.get {d : D} {k : NestedKey} (h : tk d = some k) : ∀ {kv ds}, RepN G m H kv ds → (∀ x, dget d ds = some x → ∃ v, atN kv k = some v ∧ RepV G m H v x) ∧ (dget d ds = none → atN kv k = none)
  | _, _, .nil => ⟨fun x e => by simp [dget] at e, fun _ => rfl⟩
  | _, _, .cons (a := a) hk ha hv hs => by
    obtain ⟨i1, i2⟩ := RepN.get h hs
    unfold dget atN
    rw [List.find?_cons]
    by_cases e : D.beq a d = true
    · have ek := (tk_eq hk h).mp e
      rw [if_pos e, decide_eq_true ek]
      refine ⟨fun x q => ?_, fun q => by cases q⟩
      cases q
      exact ⟨_, rfl, hv⟩
    · have ek : ¬ _ = _ := fun z => e ((tk_eq hk h).mpr z)
      rw [if_neg e, decide_eq_false ek]
      exact ⟨i1, i2⟩
/-- .. stored -/
def putN (xs : List (NestedKey × Addr × V)) (k : NestedKey) (q : Addr) (v : V) : List (NestedKey × Addr × V) :=
  if (atN xs k).isSome then xs.map fun x => if x.1 = k then (x.1, x.2.1, v) else x else xs ++ [(k, q, v)]
theorem putN_at {k : NestedKey} {q : Addr} {v : V} {u : Value} (rv : RelV v u) {xs : List (NestedKey × Addr × V)} {ys : List (NestedKey × Addr × Value)} (hp : Paired PN xs ys) : Paired PN (putN xs k q v) (storedH ys k q u) := by
  have h := atN_at (k := k) hp
  have e : (atN xs k).isSome = (atKey ys k).isSome := by
    cases h1 : atN xs k <;> cases h2 : atKey ys k <;> rw [h1, h2] at h <;> first | rfl | exact (show False from h).elim
  unfold putN storedH
  rw [e]
  split
  · have : ∀ {xs : List (NestedKey × Addr × V)} {ys : List (NestedKey × Addr × Value)}, Paired PN xs ys → Paired PN (xs.map fun x => if x.1 = k then (x.1, x.2.1, v) else x) (ys.map (putAt k u)) := by
      intro xs ys hp
      induction hp with
      | nil => exact .nil
      | @cons x y xs ys a b ih =>
        rw [List.map_cons, List.map_cons]
        refine .cons ?_ ih
        unfold putAt
        rw [← a.1]
        by_cases z : x.1 = k
        · rw [if_pos z, if_pos z]; exact ⟨rfl, a.2.1, rv⟩
        · rw [if_neg z, if_neg z]; exact a
    exact this hp
  · have : ∀ {xs : List (NestedKey × Addr × V)} {ys : List (NestedKey × Addr × Value)}, Paired PN xs ys → Paired PN (xs ++ [(k, q, v)]) (ys ++ [(k, q, u)]) := by
      intro xs ys hp
      induction hp with
      | nil => exact .cons ⟨rfl, rfl, rv⟩ .nil
      | cons a b ih => exact .cons a ih
    exact this hp
theorem putN_len {k : NestedKey} {q : Addr} {v : V} {xs : List (NestedKey × Addr × V)} : (putN xs k q v).length ≤ xs.length + 1 := by
  unfold putN
  split
  · rw [List.length_map]; omega
  · rw [List.length_append, List.length_singleton]; omega
theorem RepN.append : ∀ {kv ds kv' ds'}, RepN G m H kv ds → RepN G m H kv' ds' → RepN G m H (kv ++ kv') (ds ++ ds')
  | _, _, _, _, .nil, h => h
  | _, _, _, _, .cons a b c d, h => .cons a b c (RepN.append d h)
theorem RepN.any {d : D} {k : NestedKey} (h : tk d = some k) {kv ds} (r : RepN G m H kv ds) : (atN kv k).isSome = ds.any fun p => D.beq p.1 d := by
  induction r with
  | nil => rfl
  | cons hk ha hv hs ih =>
    rename_i k' q v a x kv ds
    rw [List.any_cons, ← ih]
    unfold atN
    rw [List.find?_cons]
    have z := tk_eq hk h
    cases e : D.beq a d with
    | true => rw [decide_eq_true (z.mp e)]; rfl
    | false => rw [decide_eq_false fun y => by rw [z.mpr y] at e; cases e]; rfl
theorem RepN.put {d x : D} {k : NestedKey} {q : Addr} {v : V} (h : tk d = some k) (rq : RepV G m H (.ref q) d) (rx : RepV G m H v x) {kv ds} (r : RepN G m H kv ds) : RepN G m H (putN kv k q v) (dput d x ds) := by
  unfold putN dput
  rw [r.any h]
  split
  · have : ∀ {kv ds}, RepN G m H kv ds → RepN G m H (kv.map fun x => if x.1 = k then (x.1, x.2.1, v) else x) (ds.map fun p => if D.beq p.1 d = true then (p.1, x) else p) := by
      intro kv ds r
      induction r with
      | nil => exact .nil
      | cons hk ha hv hs ih =>
        rename_i k' q' v' a x' kv ds
        rw [List.map_cons, List.map_cons]
        have z := tk_eq hk h
        show RepN G m H ((if k' = k then (k', q', v) else _) :: _) ((if D.beq a d = true then (a, x) else _) :: _)
        by_cases e : k' = k
        · rw [if_pos e, if_pos (z.mpr e)]; exact .cons hk ha rx ih
        · rw [if_neg e, if_neg fun y => e (z.mp y)]; exact .cons hk ha hv ih
    exact this r
  · exact r.append (.cons h rq rx .nil)
/-- an empty dict, as one with tuples for keys -/
theorem dn_empty (I : Inv X pins σ H s) {p : Addr} (e : H p = some (.dK [])) : (p == sysModules) = false ∧ s.heap.DictOfH (nestedKind X.prog X.w) p [] := by
  obtain ⟨_, hd, vs, rel, o, es, ep, h1, h2, h3, _, h5, _⟩ := dk_of I.hok e
  cases rel
  have z : es.toList = [] := by
    generalize es.toList = l at h5
    cases h5
    rfl
  exact ⟨hd, o, es, ep, h1, h2, h3, z, (fun _ z => nomatch z), List.nodup_nil⟩
end

/-! ### the operations -/
/-- what a store meets: a dict with tuples for keys (entries), an empty dict asked by a tuple, another thing -/
def dtW (S : Store) (x y : D) : Option (Nat × List (D × D)) := match x with
  | .ref n => (match S.get n with
    | some (.dtu kvs) => if (tk y).isSome = true then some (n, kvs) else none
    | some (.dct []) => if (tk y).isSome = true then some (n, []) else none
    | _ => none)
  | _ => none
/-- .. a look: a locked dict too -/
def dtOf (S : Store) (x y : D) : Option (Nat × List (D × D)) := match x with
  | .ref n => (match S.get n with
    | some (.fdt kvs) => if (tk y).isSome = true then some (n, kvs) else none
    | _ => dtW S x y)
  | _ => none
def opInT (y x : D) : P D := fun S => match dtOf S x y with
  | some (_, kvs) => some (.bl (dget y kvs).isSome, S)
  | none => opIn y x S
def opNotInT (y x : D) : P D := fun S => match dtOf S x y with
  | some (_, kvs) => some (.bl (!(dget y kvs).isSome), S)
  | none => opNotIn y x S
def opItemT (x y : D) : P D := fun S => match dtOf S x y with
  | some (_, kvs) => (match dget y kvs with
    | some d => some (d, S)
    | none => none)
  | none => opItem x y S
def putItemT (x y v : D) : P Unit := fun S => match dtW S x y with
  | some (n, kvs) => if kvs.length < line then some ((), S.set n (.dtu (dput y v kvs))) else none
  | none => putItem x y v S
section
variable {G : Gx} {X : Cx} {pins : List (Addr × Obj)} {σ : L2.St} {m : List Addr} {H : Hp} {s : Shared} {S : Store}
/-- .. in the heap -/
theorem dt_of2 (c : Ctx0 G X) (I : Inv X pins σ H s) (sim : Sim G m S H) {x y : V} {dx dy : D} {n : Nat} {kvs : List (D × D)} (rx : RepV G m H x dx) (ry : RepV G m H y dy) (h : dtW S dx dy = some (n, kvs)) :
    ∃ (p q : Addr) (k : NestedKey) (xs : List (NestedKey × Addr × V)) (ys : List (NestedKey × Addr × Value)) (o : Ob), x = .ref p ∧ y = .ref q ∧ tk dy = some k ∧ m[n]? = some p ∧ S.get n = some o ∧ isRol o = false ∧ Mut1 (H p) ∧ RepN G m H xs kvs ∧ Paired PN xs ys ∧
      (p == sysModules) = false ∧ s.heap.DictOfH (nestedKind X.prog X.w) p ys ∧ xs.length ≤ sizeLine ∧ (nestedKind X.prog X.w).is s.heap k q := by
  unfold dtW at h
  split at h
  · rename_i n'
    obtain ⟨p, rfl, hp⟩ := rx.ref_
    split at h
    · rename_i kvs' hg
      split at h
      · rename_i hk
        cases h
        obtain ⟨k, hk⟩ := Option.isSome_iff_exists.mp hk
        obtain ⟨q, rfl⟩ := tk_ref hk ry
        obtain ⟨p', xs, e1, e2, rn⟩ := sim.dtu hg
        rw [hp] at e1
        cases e1
        obtain ⟨z1, z2, ys, z3, z4⟩ := dn_of c.hW c.hK I e2 rn
        exact ⟨p, q, k, xs, ys, _, rfl, rfl, hk, hp, hg, rfl, by rw [e2]; exact ⟨_, _, _, rfl⟩, rn, z3, z1, z4, z2, tk_is c.hK I hk ry⟩
      · cases h
    · rename_i hg
      split at h
      · rename_i hk
        cases h
        obtain ⟨k, hk⟩ := Option.isSome_iff_exists.mp hk
        obtain ⟨q, rfl⟩ := tk_ref hk ry
        obtain ⟨p', kv, e1, e2, rk⟩ := sim.dct hg
        rw [hp] at e1
        cases e1
        cases rk
        obtain ⟨z1, z2⟩ := dn_empty I e2
        exact ⟨p, q, k, [], [], _, rfl, rfl, hk, hp, hg, rfl, by rw [e2]; trivial, .nil, .nil, z1, z2, Nat.zero_le _, tk_is c.hK I hk ry⟩
      · cases h
    · cases h
  · cases h
theorem dt_of3 (c : Ctx0 G X) (I : Inv X pins σ H s) (sim : Sim G m S H) {x y : V} {dx dy : D} {n : Nat} {kvs : List (D × D)} (rx : RepV G m H x dx) (ry : RepV G m H y dy) (h : dtOf S dx dy = some (n, kvs)) :
    ∃ (p q : Addr) (k : NestedKey) (xs : List (NestedKey × Addr × V)) (ys : List (NestedKey × Addr × Value)), x = .ref p ∧ y = .ref q ∧ tk dy = some k ∧ RepN G m H xs kvs ∧ Paired PN xs ys ∧
      (p == sysModules) = false ∧ s.heap.DictOfH (nestedKind X.prog X.w) p ys ∧ xs.length ≤ sizeLine ∧ (nestedKind X.prog X.w).is s.heap k q := by
  unfold dtOf at h
  split at h
  · rename_i n'
    split at h
    · rename_i kvs' hg
      split at h
      · rename_i hk
        cases h
        obtain ⟨p, rfl, hp⟩ := rx.ref_
        obtain ⟨k, hk⟩ := Option.isSome_iff_exists.mp hk
        obtain ⟨q, rfl⟩ := tk_ref hk ry
        obtain ⟨p', o, xs, e1, e2, rn⟩ := sim.fdt hg
        rw [hp] at e1
        cases e1
        obtain ⟨z1, z2, ys, z3, z4⟩ := dn_ofF c.hW c.hK I e2 rn
        exact ⟨p, q, k, xs, ys, rfl, rfl, hk, rn, z3, z1, z4, z2, tk_is c.hK I hk ry⟩
      · cases h
    · obtain ⟨p, q, k, xs, ys, o, e1, e2, hk, _, _, _, _, rn, hpn, hd, hh, hz, hi⟩ := dt_of2 c I sim rx ry h
      exact ⟨p, q, k, xs, ys, e1, e2, hk, rn, hpn, hd, hh, hz, hi⟩
  · cases h
theorem atN_some {k : NestedKey} {dy : D} {xs : List (NestedKey × Addr × V)} {ys : List (NestedKey × Addr × Value)} {kvs : List (D × D)} (hk : tk dy = some k) (rn : RepN G m H xs kvs) (hp : Paired PN xs ys) : (atKey ys k).isSome = (dget dy kvs).isSome := by
  obtain ⟨i1, i2⟩ := rn.get hk
  have h := atN_at (k := k) hp
  cases e : dget dy kvs with
  | none =>
    rw [i2 e] at h
    cases e2 : atKey ys k with
    | none => rfl
    | some z => rw [e2] at h; exact (show False from h).elim
  | some x =>
    obtain ⟨v, e3, _⟩ := i1 x e
    rw [e3] at h
    cases e2 : atKey ys k with
    | none => rw [e2] at h; exact (show False from h).elim
    | some z => rfl
theorem atN_val {k : NestedKey} {dy d : D} {xs : List (NestedKey × Addr × V)} {ys : List (NestedKey × Addr × Value)} {kvs : List (D × D)} (hk : tk dy = some k) (rn : RepN G m H xs kvs) (hp : Paired PN xs ys) (e : dget dy kvs = some d) :
    ∃ (v : V) (z : Addr × Value), atKey ys k = some z ∧ RelV v z.2 ∧ RepV G m H v d := by
  obtain ⟨i1, i2⟩ := rn.get hk
  have h := atN_at (k := k) hp
  obtain ⟨v, e3, rv⟩ := i1 d e
  rw [e3] at h
  cases e2 : atKey ys k with
  | none => rw [e2] at h; exact (show False from h).elim
  | some z => rw [e2] at h; exact ⟨v, z, rfl, h, rv⟩
theorem atN_no {k : NestedKey} {dy : D} {xs : List (NestedKey × Addr × V)} {ys : List (NestedKey × Addr × Value)} {kvs : List (D × D)} (hk : tk dy = some k) (rn : RepN G m H xs kvs) (hp : Paired PN xs ys) (e : dget dy kvs = none) : atKey ys k = none := by
  have h := atN_some hk rn hp
  rw [e] at h
  cases e2 : atKey ys k with
  | none => rfl
  | some z => rw [e2] at h; cases h
theorem room1 (c : Ctx0 G X) : (nestedKind X.prog X.w).room X.A.in1 := by
  have := c.hu
  show X.A.units + 1 + 8 < cLine
  omega
theorem o_inT (c : Ctx0 G X) : OpR X (compareOp .In) (rP2 G opInT) := by
  intro pins s σ H x y v u Q I rx ry ⟨m, S, a, b, sim, ra, rb, p⟩
  unfold opInT at p
  split at p
  · rename_i n kvs h
    obtain ⟨pp, q, k, xs, ys, rfl, rfl, hk, rn, hpn, hd, hh, hz, hi⟩ := dt_of3 c I sim rb ra h
    cases rx
    cases ry
    refine wpAny_in_heap (room1 c) hi hd hh ?_
    rw [atN_some hk rn hpn]
    exact ⟨.bl _, H, I.tok _, rfl, p m H _ Ext.refl sim (.bl _)⟩
  · exact o_in c pins s σ H x y v u Q I rx ry ⟨m, S, a, b, sim, ra, rb, p⟩
theorem o_notinT (c : Ctx0 G X) : OpR X (compareOp .NotIn) (rP2 G opNotInT) := by
  intro pins s σ H x y v u Q I rx ry ⟨m, S, a, b, sim, ra, rb, p⟩
  unfold opNotInT at p
  split at p
  · rename_i n kvs h
    obtain ⟨pp, q, k, xs, ys, rfl, rfl, hk, rn, hpn, hd, hh, hz, hi⟩ := dt_of3 c I sim rb ra h
    cases rx
    cases ry
    show wpAny _ _ (do return Value.bool (!(← contains (Value.ref pp) (Value.ref q)))) _ _ s
    refine wpAny_bind (wpAny_contains_heap (room1 c) hi hd hh (wpAny_pure ?_))
    rw [atN_some hk rn hpn]
    exact ⟨.bl _, H, I.tok _, rfl, p m H _ Ext.refl sim (.bl _)⟩
  · exact o_notin c pins s σ H x y v u Q I rx ry ⟨m, S, a, b, sim, ra, rb, p⟩

/-! ### d[k], d[k] = v -/
theorem o_itemT (c : Ctx0 G X) : IxR X (rP2 G opItemT) := by
  intro value slice pins s σ H x y v u Q I rx ry ⟨m, S, a, b, sim, ra, rb, p⟩ hs
  unfold opItemT at p
  split at p
  · rename_i n kvs h
    obtain ⟨pp, q, k, xs, ys, rfl, rfl, hk, rn, hpn, hd, hh, hz, hi⟩ := dt_of3 c I sim ra rb h
    cases rx
    cases ry
    split at p
    · rename_i d e
      obtain ⟨w, z, e1, rw', rd⟩ := atN_val hk rn hpn e
      exact tail_any hh.typeIs slot_dict_getitem.lookup (wpAny_getItem_heap (room1 c) hi hh e1 ⟨w, H, I.tok _, rw', fin_val sim rd p⟩) hs
    · exact p.elim
  · exact o_item c.hK value slice pins s σ H x y v u Q I rx ry ⟨m, S, a, b, sim, ra, rb, p⟩ hs
/-- a store, by the pure run -/
def rPut (G : Gx) (f : D → D → D → P Unit) : V → V → V → Hp → (Hp → Prop) → Prop := fun x i y H Q => ∃ m S a b d S', Sim G m S H ∧ RepV G m H x a ∧ RepV G m H i b ∧ RepV G m H y d ∧ f a b d S = some ((), S') ∧ ∀ H', Ext G m H m H' → Sim G m S' H' → Q H'
/-- the heap behind a store at a tuple -/
theorem put_heap (c : Ctx0 G X) (I : Inv X pins σ H s) (sim : Sim G m S H) {y v : V} {dy dv : D} {n : Nat} {kvs : List (D × D)} {p q : Addr} {k : NestedKey} {xs : List (NestedKey × Addr × V)} {ys : List (NestedKey × Addr × Value)} {o : Ob} {u : Value} {h' : Heap} {t' : Nat}
    (rq : RepV G m H (.ref q) dy) (rv : RepV G m H v dv) (hk : tk dy = some k) (hm : m[n]? = some p) (hg : S.get n = some o) (ho : isRol o = false) (mu : Mut1 (H p)) (rn : RepN G m H xs kvs) (hpn : Paired PN xs ys) (hd : (p == sysModules) = false) (hz : kvs.length < line) (ru : RelV v u)
    (hh : h'.DictOfH (nestedKind X.prog X.w) p (storedH ys k q u)) (hs : Heap.SameBut p s.heap h') :
    ∃ H', Inv X pins σ H' { s with heap := h', toks := t' } ∧ Ext G m H m H' ∧ Sim G m (S.set n (.dtu (dput dy dv kvs))) H' := by
  have ex : Ext G m H m (upd H p (DTO G.ne.w p (putN xs k q v))) := Ext.mut mu
  have hl : (putN xs k q v).length ≤ sizeLine := by
    have h1 := putN_len (xs := xs) (k := k) (q := q) (v := v)
    have h2 := rn.length
    have h3 := line_eq
    omega
  have he : ∃ q, h'.get? p = some q := let ⟨q, _, _, hq, _⟩ := hh; ⟨q, hq⟩
  exact ⟨_, d_write I (Mut1.m mu) hs he (dn_new c.hW hd hl (putN_at ru hpn) hh), ex, sim_set sim hg ho rfl hm mu (.dtu upd_same ((rn.mono ex).put hk (rq.mono ex) (rv.mono ex)))⟩
theorem ys_len {xs : List (NestedKey × Addr × V)} {ys : List (NestedKey × Addr × Value)} (h : Paired PN xs ys) : ys.length = xs.length := by
  have := congrArg List.length (PN.keys h)
  simpa using this.symm
theorem set_T (c : Ctx0 G X) : PSet X (rPut G putItemT) := by
  intro pins s σ H o i v ov iv u Q I ro ri rv ⟨m, S, a, b, d, S', sim, ra, rb, rd, e, h⟩
  unfold putItemT at e
  split at e
  · rename_i n kvs hd
    split at e
    · rename_i hz
      cases e
      obtain ⟨pp, q, k, xs, ys, ob, rfl, rfl, hk, hm, hg, ho, mu, rn, hpn, hd, hh, hz2, hi⟩ := dt_of2 c I sim ra rb hd
      cases ro
      cases ri
      refine wpAny_setItem_heap (hsz := by rw [ys_len hpn]; exact hz2) (room1 c) hi hh fun h' hh' hs => ?_
      obtain ⟨H', I', ex, s'⟩ := put_heap (t' := s.toks + (nestedKind X.prog X.w).draws k) (y := .non) c I sim rb rd hk hm hg ho mu rn hpn hd hz rv hh' hs
      exact ⟨H', I', h _ ex s'⟩
    · cases e
  · exact set_lk pins s σ H o i v ov iv u Q I ro ri rv (put_lst (cs := .non) sim ra rb rd e h)
end
def sItemT (o i v : ME) : MS := fun C σ S => lift (v C σ) σ S fun y S1 => lift (o C σ) σ S1 fun x S2 => lift (i C σ) σ S2 fun k S3 => lift (M.of (putItemT x k y)) σ S3 fun _ S4 => .nx σ S4
section
variable {G : Gx} {X : Cx} {W : WX} {C : Cfg} {pos : Pos}
theorem r_ixT {a b : Expr} {ea eb : ME} {pos} (c : Ctx0 G X) (ha : PE X a (tE G W C ea)) (hb : PE X b (tE G W C eb)) (hs : PlainIx b := by intro _ _; rfl) : PE X (.Subscript a b pos) (tE G W C (e2 opItemT ea eb)) :=
  PE.weak (pe_ix (o_itemT c) ha hb hs) fun σ H Q h => w2 h
theorem s_itemT {o i value : Expr} {eo ei ev : ME} {p' pos : Pos} (c : Ctx0 G X) (ho : PE X o (tE G W C eo)) (hi : PE X i (tE G W C ei)) (hv : PE X value (tE G W C ev))
    (ha : ∀ v, assign (.Subscript o i p') X.env v = (do
      let ov ← holding [v] (eval o X.env)
      let iv ← holding [v, ov] (eval i X.env)
      standAt p'
      holding [v, ov, iv] (setItem ov iv v)
      release [v, ov, iv] []) := by intro _; rfl)
    (hs : swapsWithSole [.Subscript o i p'] value pos.line X.env = pure false := by rfl) (hw : swappedStores [.Subscript o i p'] value X.env = pure none := by rfl)
    (h1 : (assignEach [.Subscript o i p'] X.env).map (·.2) = [assign (.Subscript o i p') X.env] := by rfl) :
    PS X (.Assign [.Subscript o i p'] value pos) (tS G W C (sItemT eo ei ev)) :=
  PS.weak (ps_asg hv (pg_sub ho hi (set_T c) ha) hs hw h1) fun D σ H ⟨m, S, ls, s, r, p⟩ => by
    refine ⟨m, S, ls, s, r, post.imp (lift_post (Ra := RepV G) r p) fun y H1 ⟨m1, S1, dy, x1, s1, r1, ry, p1⟩ => ?_⟩
    refine ⟨m1, S1, ls, s1, r1, post.imp (lift_post (Ra := RepV G) r1 p1) fun x H2 ⟨m2, S2, dx, x2, s2, r2, rx, p2⟩ => ?_⟩
    refine ⟨m2, S2, ls, s2, r2, post.imp (lift_post (Ra := RepV G) r2 p2) fun k H3 ⟨m3, S3, dk, x3, s3, r3, rk, p3⟩ => ?_⟩
    unfold lift M.of at p3
    cases q : putItemT dx dk dy S3 with
    | none => simp only [q] at p3; exact p3.elim
    | some w =>
      simp only [q] at p3
      exact ⟨m3, S3, dx, dk, dy, w.2, s3, rx.mono x3, rk, ry.mono (x2.trans x3), q, fun H' ex s' => p3 m3 H' σ ex s' (r3.mono ex)⟩

/-! ### methods of dicts -/
/-- d.get(k, x) -/
def mGetT : D → List D → P D
  | x, [y, d] => fun S => match dtOf S x y with
    | some (_, kvs) => some ((dget y kvs).getD d, S)
    | none => none
  | _, _ => P.bad
/-- d.setdefault(k, x) -/
def mSetdefT : D → List D → P D
  | x, [y, d] => fun S => match dtW S x y with
    | some (n, kvs) => (match dget y kvs with
      | some z => some (z, S)
      | none => if kvs.length < line then some (d, S.set n (.dtu (dput y d kvs))) else none)
    | none => none
  | _, _ => P.bad
/-- d is a dict -/
def tyDct : D → Store → Bool
  | .ref n, S => (match S.get n with
    | some (.dtu _) => true
    | some (.fdt _) => true
    | some (.dct _) => true
    | _ => false)
  | _, _ => false
/-- .. in the heap -/
def isDict (X : Cx) (x : V) (H : Hp) : Prop := ∀ (pins : List (Addr × Obj)) (σ : L2.St) (s : Shared) (v : Value), Inv X pins σ H s → RelV x v → ∃ p o, v = .ref p ∧ s.heap.get? p = some o ∧ o.ExactDict
theorem ty_dct (c : Ctx0 G X) {m S H x d} (sim : Sim G m S H) (r : RepV G m H x d) (h : tyDct d S = true) : isDict X x H := by
  intro pins σ s v I rv
  cases d with
  | ref n =>
    obtain ⟨q, rfl, hq⟩ := r.ref_
    cases rv
    unfold tyDct at h
    simp only at h
    split at h
    · rename_i kvs hg
      obtain ⟨p', xs, e1, e2, rn⟩ := sim.dtu hg
      rw [hq] at e1
      cases e1
      obtain ⟨_, _, ys, _, o, es, ep, h1, h2, _⟩ := dn_of c.hW c.hK I e2 rn
      exact ⟨q, o, rfl, h1, h2⟩
    · rename_i kvs hg
      obtain ⟨p', ob, xs, e1, e2, rn⟩ := sim.fdt hg
      rw [hq] at e1
      cases e1
      obtain ⟨_, _, ys, _, o, es, ep, h1, h2, _⟩ := dn_ofF c.hW c.hK I e2 rn
      exact ⟨q, o, rfl, h1, h2⟩
    · rename_i kvs hg
      obtain ⟨p', kv, e1, e2, rk⟩ := sim.dct hg
      rw [hq] at e1
      cases e1
      obtain ⟨_, _, vs, _, o, es, ep, h1, h2, _⟩ := dk_of I.hok e2
      exact ⟨q, o, rfl, h1, h2⟩
    · cases h
  | _ => cases h
def tBD (X : Cx) (r : V → List V → Hp → VK → Prop) (to : TE) (t : TA) : TE := fun σ H Q => to σ H fun x H1 => isDict X x H1 ∧ t σ H1 fun xs H2 => r x xs H2 Q
theorem isDict.ty {x : V} {H : Hp} {pins : List (Addr × Obj)} {σ : L2.St} {s : Shared} {v : Value} (h : isDict X x H) (I : Inv X pins σ H s) (r : RelV x v) : s.TypeIs v "dict" ∧ ∀ a, v = .ref a → ∃ ob, s.heap.get? a = some ob ∧ ob.dict = none := by
  obtain ⟨p, o, rfl, h1, h2⟩ := h pins σ s v I r
  exact ⟨⟨o, h1, h2.1⟩, fun a e => by cases e; exact ⟨o, h1, h2.2.1⟩⟩
section
variable {o e : Expr} {es : List Expr} {name : Str} {apos cpos : Pos} {id : String} {f : D → List D → P D} {eo : ME} {a : MA}
theorem r_bd (c : Ctx0 G X) (slot : Slot "dict" name id) (hto : typeOf (.builtin id) = pure (.type "method_descriptor")) (hm : MtR X id (rMt G f))
    (ho : PE X o (tE G W C eo)) (ha : PA X (e :: es) (tA G W C a))
    (hbase : attributeBase o name X.env (eval o X.env) = eval o X.env := by rfl)
    (hfew : ((backTo cpos (starEach (e :: es) X.env)).all (fun x => !x.1) && (backToKw cpos (keywordEach [] X.env)).all (fun x => x.1.isSome)
      && decide ((e :: es).length + ([] : List Keyword).length + (if ([] : List Keyword).isEmpty then 0 else 1) < 30)) = true := by rfl)
    (hline : (apos.endLine == cpos.line) = true := by rfl) (hs : starEach (e :: es) X.env = (false, eval e X.env) :: starEach es X.env := by rfl) (hplain : (backTo cpos (starEach es X.env)).any (·.1) = false := by rfl) :
    PE X (.Call (.Attribute o name apos) (e :: es) [] cpos) (tE G W C (eBM tyDct f eo a)) := by
  refine ⟨fun pins s σ H Q I h => ?_⟩
  have h : tBD X (rMt G f) (tE G W C eo) (tA G W C a) σ H Q := by
    have h1 := tX.bind (Ra := RepV G) (k := fun C σ x S => if tyDct x S = true then ((a C σ).bind fun xs => M.of (f x xs)) S else .bad) h
    refine tX.imp h1 fun x H1 z => ?_
    obtain ⟨m, S, ls, d, s, r, rd, p⟩ := z
    simp only at p
    by_cases ht : tyDct d S = true
    · rw [if_pos ht] at p
      refine ⟨ty_dct c s rd ht, ?_⟩
      have z : tK G W (RepV G) (RepV G) C (fun C σ x => (a C σ).bind fun xs => M.of (f x xs)) σ H1 x Q := ⟨m, S, ls, d, s, r, rd, p⟩
      have z2 := tKV (Rb := RepVs G) (k := fun _ _ x xs => M.of (f x xs)) z
      refine tX.imp z2 fun vs H2 z3 => ?_
      obtain ⟨m, S, ls, dx, s, r, ⟨r1, r2⟩, p⟩ := z3
      exact ⟨m, S, dx.1, dx.2, s, r1, r2, post.of p⟩
    · rw [if_neg ht] at p
      exact p.elim
  refine wpAny_Call_method_late hbase hfew hline rfl (thn (ho.run pins s σ H _ I h) fun v s1 ⟨x, H1, I1, r1, ty, q1⟩ => ?_)
  obtain ⟨h1, h2⟩ := ty.ty I1 r1
  refine ⟨"dict", id, PySem.F.plainAttrs_dict, slot, hto, h1, h2, ?_⟩
  have hA := ha.run cpos pins s1 σ H1 _ I1 q1
  rw [hs] at hA ⊢
  refine Calls.callWith_builtin (by show (false || (backTo cpos (starEach es X.env)).any (·.1)) = false; rw [hplain] <;> rfl) (Calls.evalArgs_plain ?_)
  exact thn hA fun us s2 ⟨vs, H2, I2, r2, q2⟩ => hm pins s2 σ H2 x vs v us Q I2 r1 r2 q2
end
theorem m_getT (c : Ctx0 G X) : MtR X "dict.get" (rMt G mGetT) := by
  intro pins s σ H x xs v us Q I rx rs ⟨m, S, d, as, sim, rd, ra, p⟩
  unfold mGetT at p
  split at p
  · rename_i y dd
    obtain ⟨wy, wd, rfl, ry, rdd⟩ := ra.two_
    split at p
    · rename_i n kvs h
      obtain ⟨pp, q, k, xs, ys, rfl, rfl, hk, rn, hpn, hd, hh, hz, hi⟩ := dt_of3 c I sim rd ry h
      cases rx
      obtain ⟨u1, u2, rfl, r1, r2⟩ := Vals.two rs
      cases r1
      refine call_meetsIn F.slot_dict_get hh.typeIs F.entry_dict_get (F.args_dict_get_3 _ _ _) (meetsH_dict_get_default (nestedKind X.prog X.w) pp q hd u2) ⟨room1 c, k, ys, hi, hh, ?_⟩
      cases e : dget y kvs with
      | none =>
        rw [atN_no hk rn hpn e]
        rw [e] at p
        exact ⟨wd, H, I.tok _, r2, fin_val sim rdd p⟩
      | some z =>
        obtain ⟨w, zz, e1, rw', rz⟩ := atN_val hk rn hpn e
        rw [e1]
        rw [e] at p
        exact ⟨w, H, I.tok _, rw', fin_val sim rz p⟩
    · exact p.elim
  · exact p.elim
theorem m_setdefT (c : Ctx0 G X) : MtR X "dict.setdefault" (rMt G mSetdefT) := by
  intro pins s σ H x xs v us Q I rx rs ⟨m, S, d, as, sim, rd, ra, p⟩
  unfold mSetdefT at p
  split at p
  · rename_i y dd
    obtain ⟨wy, wd, rfl, ry, rdd⟩ := ra.two_
    split at p
    · rename_i n kvs h
      obtain ⟨pp, q, k, xs, ys, o, rfl, rfl, hk, hm, hg, ho, mu, rn, hpn, hd, hh, hz, hi⟩ := dt_of2 c I sim rd ry h
      cases rx
      obtain ⟨u1, u2, rfl, r1, r2⟩ := Vals.two rs
      cases r1
      refine call_setdefault_heap (hsz := by rw [ys_len hpn]; exact hz) (room1 c) hi hd hh (fun pz e1 => ?_) fun e1 h' hh' hs => ?_
      · cases e : dget y kvs with
        | none =>
          rw [atN_no hk rn hpn e] at e1
          cases e1
        | some z =>
          rw [e] at p
          obtain ⟨w, zz, e2, rw', rz⟩ := atN_val hk rn hpn e
          rw [e1] at e2
          cases e2
          exact ⟨w, H, I.tok _, rw', fin_val sim rz p⟩
      · cases e : dget y kvs with
        | some z =>
          obtain ⟨w, zz, e2, rw', rz⟩ := atN_val hk rn hpn e
          rw [e1] at e2
          cases e2
        | none =>
          rw [e] at p
          simp only at p
          split at p
          · rename_i hz2
            obtain ⟨H', I', ex, s'⟩ := put_heap (t' := s.toks + (nestedKind X.prog X.w).draws k) (y := .non) c I sim ry rdd hk hm hg ho mu rn hpn hd hz2 r2 hh' hs
            exact ⟨wd, H', I', r2, p m H' wd ex s' (rdd.mono ex)⟩
          · exact p.elim
    · exact p.elim
  · exact p.elim
end
end MP

/-! MP: walks over dicts (items, keys); a dict that is walked is never written again. Own work. -/
namespace MP
open PySem PySem.Spec PyProof.Rows L2

section
variable {X : Cx} {pins : List (Addr × Obj)} {σ : L2.St} {H : Hp} {s : Shared} {d : Addr} {o : Obj}
/-- a locked dict whose keys are tuples -/
theorem frzN {xs : List (NestedKey × Addr × V)} (I : Inv X pins σ H s) (h : H d = some (.frz o (DTO X.w d xs))) :
    (d == sysModules) = false ∧ s.heap.get? d = some o ∧ o.ExactDict ∧ ∃ (es : Array DictEntry) (ep : Nat), o.data = .dict es ep ∧ es.size = xs.length ∧
      ∀ (i : Nat) (k : NestedKey) (q : Addr) (v : V), xs[i]? = some (k, q, v) → ∃ en : DictEntry, es[i]? = some en ∧ en.key = .ref q ∧ RelV v en.val := by
  obtain ⟨hd, ⟨z1, z2, nd, ys, o', es, ep, hp, h1, h2, h3, h4⟩, _⟩ := I.hok d _ h
  rw [hd] at h1
  cases h1
  refine ⟨z1, hd, h2, es, ep, h3, ?_, fun i k q v e => ?_⟩
  · have l1 := congrArg List.length h4
    rw [List.length_map, Array.length_toList] at l1
    rw [l1, ys_len hp]
  · obtain ⟨b, hb, e1, e2, e3⟩ := paired_get hp e
    have z : es[i]? = (ys[i]?).map fun x => (⟨x.1.hash X.w, .ref x.2.1, x.2.2⟩ : DictEntry) := by rw [← Array.getElem?_toList, h4, List.getElem?_map]
    rw [hb] at z
    exact ⟨_, z, (show Value.ref b.2.1 = Value.ref q from by rw [← e2]), e3⟩
end
/-- the pairs of a locked dict, each a new tuple -/
def ItN (w : World) (d : Addr) (o : Obj) (xs : List (NestedKey × Addr × V)) : L2.It :=
  ⟨fun i H => H d = some (.frz o (DTO w d xs)) ∧ i < xs.length, fun i H x H' => ∃ T k q v, xs[i]? = some (k, q, v) ∧ x = .ref T ∧ H T = none ∧ H' = upd H T (.tup [.ref q, v]), fun i H => H d = some (.frz o (DTO w d xs)) ∧ xs.length ≤ i⟩
/-- its keys -/
def ItNk (w : World) (d : Addr) (o : Obj) (xs : List (NestedKey × Addr × V)) : L2.It :=
  ⟨fun i H => H d = some (.frz o (DTO w d xs)) ∧ i < xs.length, fun i H x H' => H' = H ∧ ∃ k q v, xs[i]? = some (k, q, v) ∧ x = .ref q, fun i H => H d = some (.frz o (DTO w d xs)) ∧ xs.length ≤ i⟩
section
variable {P : Program} {w : World} {K : PySem.W.Frag} {tg : Expr} {d : Addr} {o : Obj} {es : Array DictEntry} {ep : Nat} {xs : List (NestedKey × Addr × V)}
theorem turn_N {elts : List Expr} {kk : Nat} {tpos : Pos} (it : Addr) (hod : o.data = .dict es ep) :
    Turn P w K (.Tuple elts kk tpos) (ItN w d o xs) [it] it (fun i h => ∃ ok ov, IsItemIter h it d i xs.length ep ok ov) where
  mem := by simp
  obj := fun i h st b hb => by
    have e : b = it := by simpa using hb
    subst e
    obtain ⟨ok, ov, e⟩ := st
    exact ⟨_, e, fun v z => nomatch z⟩
  keep := fun i h h' st k => let ⟨ok, ov, e⟩ := st; ⟨ok, ov, k it (by simp) _ e⟩
  item := by
    intro X hP hw hK hc i pins s σ H E I hf st hg
    subst hP hw hK
    obtain ⟨hd, hi⟩ := hg
    obtain ⟨hs, hgd, hx, es', ep', hdt, hsz, ent⟩ := frzN I hd
    obtain ⟨rfl, rfl⟩ := dict_ep hod hdt
    obtain ⟨⟨k, q, v⟩, hkv⟩ : ∃ p, xs[i]? = some p := ⟨xs[i], List.getElem?_eq_getElem hi⟩
    obtain ⟨en, hen, ekey, rv⟩ := ent i k q v hkv
    obtain ⟨ok, ov, he⟩ := st
    rw [← hsz] at he
    have hlt : it < s.heap.objs.size := Heap.lt_size he
    have hl : i < es'.size := by omega
    have een : es'[i] = en := by rw [Array.getElem?_eq_getElem hl] at hen; exact Option.some.inj hen
    refine wpAny_pyNext_items_item_raw he ⟨o, hgd, hx, hdt⟩ hl fun h' ho hT hz hk => ?_
    rw [een] at ho hT
    refine ⟨_, rfl, wpAny_letOwnedTupleGo_items (s := { s with heap := h' }) ho fun h'' he' sb => ?_⟩
    have hT2 : h''.get? s.heap.objs.size = some { cls := .type "tuple", data := .seq #[en.key, en.val] } := (sb.2 _ (Nat.ne_of_gt hlt)).trans hT
    have new : ObjOk X.prog X.w (upd H s.heap.objs.size (.tup [.ref q, v])) h'' s.heap.objs.size (.tup [.ref q, v]) :=
      ⟨by show 2 ≤ sizeLine; decide, [en.key, en.val], .cons ekey (.cons rv .nil), ⟨_, hT2, rfl, _, rfl⟩⟩
    have I1 : Inv X pins σ (upd H s.heap.objs.size (.tup [.ref q, v])) { s with heap := h'' } :=
      I.turnedNew (t' := s.toks) (ch := [it]) (fun b ob hb e => (sb.2 b (by simpa using hb)).trans (hk b ob (by simpa using hb) e)) hf (Nat.le_refl _) new
    refine ⟨.ref s.heap.objs.size, _, I1, rfl, ⟨_, k, q, v, hkv, rfl, I.hok.fresh (Nat.le_refl _), rfl⟩, ⟨en.key, en.val, ?_⟩, fun b hb => ?_⟩
    · rw [← hsz]; exact he'
    · have e : b = it := by simpa using hb
      rw [e, upd_ne (Nat.ne_of_lt hlt)]
      exact (hf it (by simp)).1
  done := by
    intro X hP hw hK hc i pins s σ H E I hf st hg
    subst hP hw hK
    obtain ⟨hd, hi⟩ := hg
    obtain ⟨f0, f1, f2, f3, f4, f5⟩ := hf it (by simp)
    obtain ⟨hs, hgd, hx, es', ep', hdt, hsz, ent⟩ := frzN I hd
    obtain ⟨rfl, rfl⟩ := dict_ep hod hdt
    obtain ⟨ok, ov, he⟩ := st
    rw [← hsz] at he
    exact wpAny_pyNext_items_end_raw (I.ok.hd hc) he ⟨o, hgd, hx, hdt⟩ (by omega) fun h' eb => ⟨rfl, I.turned (t' := s.toks) (fun b ob hb e => eb b ob hb e) f0 f1 f3 f4 f5⟩
  self := fun A i s Q E st h => let ⟨_, _, e⟩ := st; PySem.W.kcp_self e h
theorem turn_Nk (it : Addr) (hod : o.data = .dict es ep) : Turn P w K tg (ItNk w d o xs) [it] it (fun i h => h.IsKeyIter it d i xs.length ep) where
  mem := by simp
  obj := fun i h st b hb => by
    have e : b = it := by simpa using hb
    subst e
    obtain ⟨oi, e, c, dd⟩ := st
    exact ⟨oi, e, fun v z => by rw [dd] at z; cases z⟩
  keep := fun i h h' st k => st.at fun oi e => k it (by simp) oi e
  item := by
    intro X hP hw hK hc i pins s σ H E I hf st hg
    subst hP hw hK
    obtain ⟨hd, hi⟩ := hg
    obtain ⟨f0, f1, f2, f3, f4, f5⟩ := hf it (by simp)
    obtain ⟨hs, hgd, hx, es', ep', hdt, hsz, ent⟩ := frzN I hd
    obtain ⟨rfl, rfl⟩ := dict_ep hod hdt
    obtain ⟨⟨k, q, v⟩, hkv⟩ : ∃ p, xs[i]? = some p := ⟨xs[i], List.getElem?_eq_getElem hi⟩
    obtain ⟨en, hen, hkey, rv⟩ := ent i k q v hkv
    refine next_key_item st hgd hdt hsz hen fun h' st' sb => ?_
    have I1 : Inv X pins σ H { s with heap := h' } := I.turned (t' := s.toks) (fun b ob hb e => (sb.2 b hb).trans e) f0 f1 f3 f4 f5
    obtain ⟨oi, e, c, dd⟩ := id st'
    exact ⟨en.key, rfl, go_of (s := { s with heap := h' }) e c dd (by decide) ⟨.ref q, H, I1, hkey, ⟨rfl, k, q, v, hkv, rfl⟩, st', fun b hb => (hf b hb).1⟩⟩
  done := by
    intro X hP hw hK hc i pins s σ H E I hf st hg
    subst hP hw hK
    obtain ⟨hd, hi⟩ := hg
    obtain ⟨f0, f1, f2, f3, f4, f5⟩ := hf it (by simp)
    obtain ⟨hs, hgd, hx, es', ep', hdt, hsz, ent⟩ := frzN I hd
    obtain ⟨rfl, rfl⟩ := dict_ep hod hdt
    exact next_key_end (I.ok.hd hc) st hgd hdt hsz hi fun h' eb => ⟨rfl, I.turned (t' := s.toks) (fun b ob hb e => eb b ob hb e) f0 f1 f3 f4 f5⟩
  self := fun A i s Q E st h => by
    refine wpAny_pyIter_slot st.typeIs F.slot_dict_keyiterator_iter (wpAny_call_entry F.slot_dict_keyiterator_iter st.typeIs F.entry_dict_keyiterator_iter ?_ (F.args_dict_keyiterator_iter_1 _))
    show wpAny _ _ (ret (.ref it)) _ _ s
    exact wpAny_pure ⟨_, rfl, "dict_keyiterator", _, st.typeIs, F.slot_dict_keyiterator_next.lookup, h⟩
end
/-! ### in the pure semantics -/
/-- the entries as pairs -/
def prsD (kvs : List (D × D)) : List D := kvs.map fun p => .tup [p.1, p.2]
/-- the entries; the dict is locked -/
def frzS (S : Store) (n : Nat) : Option (List (D × D) × Store) := match S.get n with
  | some (.dtu kvs) => some (kvs, S.set n (.fdt kvs))
  | some (.dct kvs) => some (kvs, S.set n (.fdk kvs))
  | some (.fdt kvs) => some (kvs, S)
  | some (.fdk kvs) => some (kvs, S)
  | _ => none
def itIF (x : D) : P MP.It := fun S => match x with
  | .ref n => (match frzS S n with
    | some (kvs, S') => some (.seq (prsD kvs), S')
    | none => none)
  | _ => none
def itKF (x : D) : P MP.It := fun S => match x with
  | .ref n => (match frzS S n with
    | some (kvs, S') => some (.seq (kvs.map (·.1)), S')
    | none => none)
  | _ => none
section
variable {G : Gx} {m : List Addr} {H : Hp}
theorem RepN.at : ∀ {kv ds}, RepN G m H kv ds → ∀ {i : Nat} {a x : D}, ds[i]? = some (a, x) → ∃ k q v, kv[i]? = some (k, q, v) ∧ RepV G m H (.ref q) a ∧ RepV G m H v x
  | _, _, .nil, i, a, x, e => by simp at e
  | _, _, .cons k q v hs, 0, a, x, e => by
    simp only [List.getElem?_cons_zero, Option.some.injEq, Prod.mk.injEq] at e
    obtain ⟨rfl, rfl⟩ := e
    exact ⟨_, _, _, rfl, q, v⟩
  | _, _, .cons k q v hs, i + 1, a, x, e => by
    obtain ⟨k', q', v', h1, h2⟩ := RepN.at hs (i := i) (by simpa using e)
    exact ⟨k', q', v', by simpa using h1, h2⟩
theorem RepK.at : ∀ {kv ds}, RepK G m H kv ds → ∀ {i : Nat} {a x : D}, ds[i]? = some (a, x) → ∃ k v, kv[i]? = some (k, v) ∧ RepV G m H (kV k) a ∧ RepV G m H v x
  | _, _, .nil, i, a, x, e => by simp at e
  | _, _, .cons k v hs, 0, a, x, e => by
    simp only [List.getElem?_cons_zero, Option.some.injEq, Prod.mk.injEq] at e
    obtain ⟨rfl, rfl⟩ := e
    exact ⟨_, _, rfl, dKey_repv k, v⟩
  | _, _, .cons k v hs, i + 1, a, x, e => by
    obtain ⟨k', v', h1, h2⟩ := RepK.at hs (i := i) (by simpa using e)
    exact ⟨k', v', by simpa using h1, h2⟩
theorem prsD_at {kvs : List (D × D)} {i : Nat} {d : D} (h : (prsD kvs)[i]? = some d) : ∃ a x, kvs[i]? = some (a, x) ∧ d = .tup [a, x] := by
  unfold prsD at h
  rw [List.getElem?_map] at h
  obtain ⟨⟨a, x⟩, h1, rfl⟩ := Option.map_eq_some_iff.mp h
  exact ⟨a, x, h1, rfl⟩
theorem itr_N {w : World} {d : Addr} {o : Obj} {xs : List (NestedKey × Addr × V)} {kvs : List (D × D)} (h : H d = some (.frz o (DTO w d xs))) (r : RepN G m H xs kvs) : ItR G m H (ItN w d o xs) (.seq (prsD kvs)) := fun m' S H' i x s => by
  have h' := x.frz _ _ _ h
  have r' := r.mono x
  have hl : (prsD kvs).length = xs.length := by unfold prsD; rw [List.length_map, r.length]
  unfold MP.It.next
  refine ⟨fun e => ?_, fun d' e => ?_⟩
  · have e : (prsD kvs)[i]? = none := Option.some.inj e
    exact ⟨h', by rw [← hl]; exact List.getElem?_eq_none_iff.mp e⟩
  · have e : (prsD kvs)[i]? = some d' := Option.some.inj e
    obtain ⟨a, y, h1, rfl⟩ := prsD_at e
    obtain ⟨k, q, v, h2, h3, h4⟩ := RepN.at r' h1
    refine ⟨⟨h', (List.getElem?_eq_some_iff.mp h2).1⟩, ?_⟩
    rintro y' _ ⟨T, k', q', v', h5, rfl, hT, rfl⟩
    rw [h2] at h5
    cases h5
    exact ⟨Ext.new hT, sim_same s hT, .tup (SqT.of upd_same) (.cons (h3.mono (Ext.new hT)) (.cons (h4.mono (Ext.new hT)) .nil))⟩
theorem itr_Nk {w : World} {d : Addr} {o : Obj} {xs : List (NestedKey × Addr × V)} {kvs : List (D × D)} (h : H d = some (.frz o (DTO w d xs))) (r : RepN G m H xs kvs) : ItR G m H (ItNk w d o xs) (.seq (kvs.map (·.1))) := fun m' S H' i x s => by
  have h' := x.frz _ _ _ h
  have r' := r.mono x
  have hl : (kvs.map (·.1)).length = xs.length := by rw [List.length_map, r.length]
  unfold MP.It.next
  refine ⟨fun e => ?_, fun d' e => ?_⟩
  · have e : (kvs.map (·.1))[i]? = none := Option.some.inj e
    exact ⟨h', by rw [← hl]; exact List.getElem?_eq_none_iff.mp e⟩
  · have e : (kvs.map (·.1))[i]? = some d' := Option.some.inj e
    rw [List.getElem?_map] at e
    obtain ⟨⟨a, y⟩, h1, rfl⟩ := Option.map_eq_some_iff.mp e
    obtain ⟨k, q, v, h2, h3, h4⟩ := RepN.at r' h1
    refine ⟨⟨h', (List.getElem?_eq_some_iff.mp h2).1⟩, ?_⟩
    rintro y' _ ⟨rfl, k', q', v', h5, rfl⟩
    rw [h2] at h5
    cases h5
    exact ⟨Ext.refl, s, h3⟩
theorem itr_K {d : Addr} {o : Obj} {xs : List (Key × V)} {kvs : List (D × D)} (h : H d = some (.frz o (.dK xs))) (r : RepK G m H xs kvs) : ItR G m H (Iti d o xs) (.seq (prsD kvs)) := fun m' S H' i x s => by
  have h' := x.frz _ _ _ h
  have r' := r.mono x
  have hl : (prsD kvs).length = xs.length := by unfold prsD; rw [List.length_map, r.length]
  unfold MP.It.next
  refine ⟨fun e => ?_, fun d' e => ?_⟩
  · have e : (prsD kvs)[i]? = none := Option.some.inj e
    exact ⟨h', by rw [← hl]; exact List.getElem?_eq_none_iff.mp e⟩
  · have e : (prsD kvs)[i]? = some d' := Option.some.inj e
    obtain ⟨a, y, h1, rfl⟩ := prsD_at e
    obtain ⟨k, v, h2, h3, h4⟩ := r'.at h1
    refine ⟨⟨h', (List.getElem?_eq_some_iff.mp h2).1⟩, ?_⟩
    rintro y' _ ⟨T, k', v', h5, rfl, hT, rfl⟩
    rw [h2] at h5
    cases h5
    exact ⟨Ext.new hT, sim_same s hT, .tup (SqT.of upd_same) (.cons (h3.mono (Ext.new hT)) (.cons (h4.mono (Ext.new hT)) .nil))⟩
theorem itr_Kk {d : Addr} {o : Obj} {xs : List (Key × V)} {kvs : List (D × D)} (h : H d = some (.frz o (.dK xs))) (r : RepK G m H xs kvs) : ItR G m H (Itk d o xs) (.seq (kvs.map (·.1))) := fun m' S H' i x s => by
  have h' := x.frz _ _ _ h
  have r' := r.mono x
  have hl : (kvs.map (·.1)).length = xs.length := by rw [List.length_map, r.length]
  unfold MP.It.next
  refine ⟨fun e => ?_, fun d' e => ?_⟩
  · have e : (kvs.map (·.1))[i]? = none := Option.some.inj e
    exact ⟨h', by rw [← hl]; exact List.getElem?_eq_none_iff.mp e⟩
  · have e : (kvs.map (·.1))[i]? = some d' := Option.some.inj e
    rw [List.getElem?_map] at e
    obtain ⟨⟨a, y⟩, h1, rfl⟩ := Option.map_eq_some_iff.mp e
    obtain ⟨k, v, h2, h3, h4⟩ := r'.at h1
    refine ⟨⟨h', (List.getElem?_eq_some_iff.mp h2).1⟩, ?_⟩
    rintro y' _ ⟨rfl, k', v', h5, rfl⟩
    rw [h2] at h5
    cases h5
    exact ⟨Ext.refl, s, h3⟩
end
section
variable {G : Gx} {X : Cx} {pins : List (Addr × Obj)} {σ : L2.St} {m : List Addr} {H : Hp} {s : Shared} {S S' : Store}
/-- a dict, locked -/
theorem frz_heap (c : Ctx0 G X) (I : Inv X pins σ H s) (sim : Sim G m S H) {n : Nat} {p : Addr} {kvs : List (D × D)} (hp : m[n]? = some p) (h : frzS S n = some (kvs, S')) :
    ∃ H' o, Inv X pins σ H' s ∧ Ext G m H m H' ∧ Sim G m S' H' ∧ ((∃ xs, H' p = some (.frz o (DTO X.w p xs)) ∧ RepN G m H' xs kvs) ∨ ∃ xs, H' p = some (.frz o (.dK xs)) ∧ RepK G m H' xs kvs) := by
  unfold frzS at h
  split at h
  · rename_i kvs' hg
    cases h
    obtain ⟨p', xs, e1, e2, rn⟩ := sim.dtu hg
    rw [hp] at e1
    cases e1
    obtain ⟨od, I'⟩ := I.lock e2 trivial
    have mu : Mut1 (H p) := by rw [e2]; exact ⟨_, _, _, rfl⟩
    have ex : Ext G m H m (upd H p (.frz od (DTO G.ne.w p xs))) := Ext.mut mu
    exact ⟨_, od, I', ex, sim_set0 sim hg rfl hp mu (.fdt upd_same (rn.mono ex)), .inl ⟨xs, by rw [← c.hW]; exact upd_same, rn.mono ex⟩⟩
  · rename_i kvs' hg
    cases h
    obtain ⟨p', xs, e1, e2, rn⟩ := sim.dct hg
    rw [hp] at e1
    cases e1
    obtain ⟨od, I'⟩ := I.lock e2 trivial
    have mu : Mut1 (H p) := by rw [e2]; trivial
    have ex : Ext G m H m (upd H p (.frz od (.dK xs))) := Ext.mut mu
    exact ⟨_, od, I', ex, sim_set0 sim hg rfl hp mu (.fdk upd_same (rn.mono ex)), .inr ⟨xs, upd_same, rn.mono ex⟩⟩
  · rename_i kvs' hg
    cases h
    obtain ⟨p', o, xs, e1, e2, rn⟩ := sim.fdt hg
    rw [hp] at e1
    cases e1
    exact ⟨H, o, I, Ext.refl, sim, .inl ⟨xs, by rw [← c.hW]; exact e2, rn⟩⟩
  · rename_i kvs' hg
    cases h
    obtain ⟨p', o, xs, e1, e2, rn⟩ := sim.fdk hg
    rw [hp] at e1
    cases e1
    exact ⟨H, o, I, Ext.refl, sim, .inr ⟨xs, e2, rn⟩⟩
  · cases h
end
section
variable {G : Gx} {X : Cx} {W : WX} {C : Cfg} {e : Expr} {a : ME} {apos cpos : Pos}
theorem i_items {elts : List Expr} {kk : Nat} {tpos : Pos} (c : Ctx0 G X) (he : PE X e (tE G W C a)) (hbase : attributeBase e "items" X.env (eval e X.env) = eval e X.env := by rfl) (hline : (apos.endLine == cpos.line) = true := by rfl) :
    PI X (.Tuple elts kk tpos) (.Call (.Attribute e "items" apos) [] [] cpos) (tI G W C (i1 itIF a)) := ⟨fun pins s σ H R I h => by
  refine wpAny_Call_method (T := "dict") (id := "dict.items") hbase rfl hline F.plainAttrs_dict F.slot_dict_items F.type_dict_items (thn (he.run pins s σ H _ I (w1 (Rp := ItR G) (f := itIF) h)) fun u s1 ⟨x, H1, I1, rx, z⟩ => ?_)
  obtain ⟨m, S, d, sim, rd, p⟩ := z
  unfold itIF at p
  split at p
  · rename_i n
    obtain ⟨q, rfl, hq⟩ := rd.ref_
    cases rx
    split at p
    · rename_i kvs S' hf
      obtain ⟨H', o, I', ex, sim', hh⟩ := frz_heap c I1 sim hq hf
      rcases hh with ⟨xs, e1, rn⟩ | ⟨xs, e1, rk⟩
      · have z : R (ItN X.w q o xs) H' := p m H' _ ex sim' (itr_N e1 rn)
        obtain ⟨hs, hgd, hx, es, ep, hdt, hsz, ent⟩ := frzN I' e1
        have hm : s1.heap.DictRaw q es ep := ⟨o, hgd, hx, hdt⟩
        refine ⟨hm.typeIs, fun a e => by cases e; exact ⟨o, hgd, hx.2.1⟩, ?_⟩
        have I2 : Inv X pins σ H' { s1 with heap := s1.heap.push { cls := .type "dict_items", data := .fields #[.ref q] } } := I'.kept (t' := s1.toks) fun b ob q => Heap.get?_push_of_some _ q
        have fin : wpAny (model X.prog X.w) X.A (pyIter (.ref s1.heap.objs.size)) (PIE X pins σ (.Tuple elts kk tpos) R) X.xe { s1 with heap := s1.heap.push { cls := .type "dict_items", data := .fields #[.ref q] } } := by
          refine wpAny_pyIter_items_raw (d := q) ⟨_, Heap.get?_push_size _ rfl, rfl, rfl⟩ (hm.at fun o e => Heap.get?_push_of_some _ e) (pi_one (tk := s1.toks) I2 _ (turn_N _ hdt) ⟨.none, .none, ?_⟩ z)
          rw [← hsz]
          exact Heap.get?_push_size _ rfl
        show wpAny _ _ (callWith cpos (.builtin "dict.items") [.ref q] [] []) _ X.xe s1
        exact method_meetsIn F.slot_dict_items F.entry_dict_items rfl (PySem.evalArgs_none ⟨rfl, hm.typeIs, F.args_dict_items_1 _, _, meets_dict_items_raw q hs, ⟨es, ep, hm⟩, fin⟩)
      · have z : R (Iti q o xs) H' := p m H' _ ex sim' (itr_K e1 rk)
        obtain ⟨hs, hgd, hx, es, ep, vs, hdt, hsz, kv, hm⟩ := I'.frzK e1
        have hl : xs.length = vs.length := Paired.length kv
        refine ⟨hm.dictOf.typeIs, hm.dictOf.mapOf.noDict, ?_⟩
        have I2 : Inv X pins σ H' { s1 with heap := s1.heap.push { cls := .type "dict_items", data := .fields #[.ref q] } } := I'.kept (t' := s1.toks) fun b ob q => Heap.get?_push_of_some _ q
        have fin : wpAny (model X.prog X.w) X.A (pyIter (.ref s1.heap.objs.size)) (PIE X pins σ (.Tuple elts kk tpos) R) X.xe { s1 with heap := s1.heap.push { cls := .type "dict_items", data := .fields #[.ref q] } } := by
          refine wpAny_pyIter_items (d := q) (knd := mixKind X.prog X.w) ⟨_, Heap.get?_push_size _ rfl, rfl, rfl⟩ (hm.push _) (pi_one (tk := s1.toks) I2 _ (turn_items _ hdt) ⟨.none, .none, ?_⟩ z)
          rw [hl]
          exact Heap.get?_push_size _ rfl
        show wpAny _ _ (callWith cpos (.builtin "dict.items") [.ref q] [] []) _ X.xe s1
        exact method_meetsIn F.slot_dict_items F.entry_dict_items rfl (PySem.evalArgs_none ⟨rfl, hm.dictOf.typeIs, F.args_dict_items_1 _, _, meets_dict_items (mixKind X.prog X.w) q hs, ⟨vs, hm.dictOf⟩, fin⟩)
    · exact p.elim
  · exact p.elim⟩
theorem i_keys {tg : Expr} (c : Ctx0 G X) (he : PE X e (tE G W C a)) : PI X tg e (tI G W C (i1 itKF a)) := ⟨fun pins s σ H R I h => by
  refine thn (he.run pins s σ H _ I (w1 (Rp := ItR G) (f := itKF) h)) fun u s1 ⟨x, H1, I1, rx, z⟩ => ?_
  obtain ⟨m, S, d, sim, rd, p⟩ := z
  unfold itKF at p
  split at p
  · rename_i n
    obtain ⟨q, rfl, hq⟩ := rd.ref_
    cases rx
    split at p
    · rename_i kvs S' hf
      obtain ⟨H', o, I', ex, sim', hh⟩ := frz_heap c I1 sim hq hf
      rcases hh with ⟨xs, e1, rn⟩ | ⟨xs, e1, rk⟩
      · have z : R (ItNk X.w q o xs) H' := p m H' _ ex sim' (itr_Nk e1 rn)
        obtain ⟨hs, hgd, hx, es, ep, hdt, hsz, ent⟩ := frzN I' e1
        refine iter_keys hs hgd hx hdt (pi_one (tk := s1.toks) I' _ (turn_Nk _ hdt) ⟨_, Heap.get?_push_size _ rfl, rfl, ?_⟩ z)
        rw [hsz] <;> rfl
      · have z : R (Itk q o xs) H' := p m H' _ ex sim' (itr_Kk e1 rk)
        obtain ⟨hs, hgd, hx, es, ep, vs, hdt, hsz, kv, hm⟩ := I'.frzK e1
        refine iter_keys hs hgd hx hdt (pi_one (tk := s1.toks) I' _ (turn_keys _ hdt) ⟨_, Heap.get?_push_size _ rfl, rfl, ?_⟩ z)
        rw [hsz] <;> rfl
    · exact p.elim
  · exact p.elim⟩
end
end MP

/-! MP: dict comprehensions whose keys are tuples, by any way of storing an entry. Own work over the layer's lemmas on blocks and loops. -/
namespace MP
open PySem PySem.Spec PyProof.Rows L2

/-- what storing an entry in the new dict asks -/
abbrev DPut1 := Addr → V → V → Hp → (Hp → Prop) → Prop
/-- {k: v for .. if ..}: the loop's promise, the store by put -/
def tDcP (put : DPut1) (wi : TI) (g : TG) (tt : TT) (tk tv : TE) (vs : List Nat) : TE := fun σ H Q => wi σ H fun J H1 => ∀ D, H1 D = none →
  ∃ W : Nat → Nat → Hp → Prop, (∃ m, W 0 m (upd H1 D (.dK []))) ∧ ∀ i m H, W i m H → (J.stop i H ∧ Q (.ref D) H) ∨
    (J.go i H ∧ ∃ Nx : Hp → Prop, (∀ H', Nx H' → ∃ m', m' < m ∧ W (i + 1) m' H') ∧ ∀ x H', J.yld i H x H' →
      g x (L2.wipe σ vs) H' fun σ2 H2 => L2.wipe σ2 vs = L2.wipe σ vs ∧ tt σ2 H2 fun b H3 => if b = true then tk σ2 H3 fun y H4 => tv σ2 H4 fun z H5 => put D y z H5 Nx else Nx H3)
/-- .. it may be stored so, whatever the block -/
def Puts (P : Program) (w : World) (Y : Cx) (put : DPut1) : Prop := ∀ (pins : List (Addr × Obj)) (σ : L2.St) (H : Hp) (s : Shared) (D : Addr) (y z : V) (u r : Value) (Nx : Hp → Prop) (E : Value → Shared → Prop), Inv Y pins σ H s → RelV y u → RelV z r → put D y z H Nx →
  wpAny (model P w) Y.A (dictSet D u r) (fun _ s' => ∃ H', Inv Y pins σ H' s' ∧ Nx H') E s
section
variable {X : Cx} {pins : List (Addr × Obj)} {s : Shared} {σ : L2.St} {H : Hp} {Q : VK} {kx vx tg iter : Expr} {ifs : List Expr} {scope : Scope} {own : List (Str × Nat)} {pos pos' : Pos} {wi : TI} {g : TG} {tt : TT} {tk tv : TE} {put : DPut1}
theorem dcp_core {use : Option (Value → Sem Unit)} {Qf : Value → Shared → Prop} (calm : X.calm = true) (nd : X.N.Nodup) (I : Inv X pins σ H s) (hi : PI X tg iter wi) (ok : BlkOk X.N X.env.scope scope own)
    (blk : ∀ (z : Shared) (F : Hp) (L : Addr) (cl : List (Str × Addr)) (fp : List Addr), let Y := X.blk z F scope (compEnvC scope cl L X.env) fp
      PG Y tg g ∧ PTs Y ifs tt ∧ PE Y kx tk ∧ PE Y vx tv ∧ Puts X.prog X.w Y put)
    (fold : ∀ x, foldedSetIterable iter X.env x = pure x) (todo : tDcP put wi g tt tk tv (own.map (·.2)) σ H Q)
    (end_ : ∀ D L z ns F, Inv X pins σ F z → Q (.ref D) F → z.heap.Ns L ns → FpOk X pins F L → compPost (model X.prog X.w) X.A X.xe use Qf (.ref D) L (.ok .next) z) :
    wpAny (model X.prog X.w) X.A (comprehension (.DictComp kx vx [⟨tg, iter, ifs, 0⟩] scope pos) scope X.env pos' newDict false (eval iter X.env) use) Qf X.xe s := by
  have freeC : ∀ y ∈ scope.names, y.2 = .free → ∃ c, X.env.cells.lookup y.1 = some c := fun y hy e =>
    (ok.free y hy e).elim (fun k => I.ok.has _ (.inl k)) fun k => I.ok.has _ (.inr k)
  refine wpAny_comprehension_free (use := use) rfl fold (closure_ok freeC) ok.kind (fun y hy e => by rw [ok.uniq y hy, e]) ?_
  refine thn (hi.run pins s σ H _ I todo) fun xv z1 walk => thn walk fun itv z2 ⟨it, fp, tn, J, F2, eit, I2, T, at0, fpok, loopP⟩ => ?_
  cases eit
  refine wpAny_newObj_type (newEnv_comp ?_)
  -- the new dict stands at the heap's end
  have fresh : F2 z2.heap.objs.size = none := I2.hok.fresh (Nat.le_refl _)
  obtain ⟨W, ⟨m0, start⟩, turn⟩ := loopP _ fresh
  have I3 : Inv X pins σ (upd F2 z2.heap.objs.size (.dK [])) { z2 with heap := z2.heap.push { cls := .type "dict", data := .dict #[] } } :=
    I2.laid (t' := z2.toks) (fun _ _ e => Heap.get?_push_of_some _ e) (Nat.le_refl _) (dk_empty z2.heap I2.big)
  have below : ∀ b ∈ fp, b < z2.heap.objs.size := fun b hb => let ⟨_, e, _⟩ := T.obj _ _ at0 b hb; Heap.lt_size e
  have fp3 : ∀ b ∈ fp, FpOk X pins (upd F2 z2.heap.objs.size (.dK [])) b ∧ b < (z2.heap.push { cls := .type "dict", data := .dict #[] }).objs.size := fun b hb => by
    have l := below b hb
    refine ⟨⟨by rw [upd_ne (Nat.ne_of_lt l)]; exact (fpok b hb).1, (fpok b hb).2⟩, ?_⟩
    rw [Heap.size_push]
    exact Nat.lt_succ_of_lt l
  have at3 : tn 0 (z2.heap.push { cls := .type "dict", data := .dict #[] }) := T.keep _ _ _ at0 fun _ _ _ e => Heap.get?_push_of_some _ e
  generalize z2.heap.objs.size = D at *
  generalize hz3 : ({ z2 with heap := z2.heap.push { cls := .type "dict", data := .dict #[] } } : Shared) = z3 at *
  have hz3h : z2.heap.push { cls := .type "dict", data := .dict #[] } = z3.heap := by rw [← hz3]
  rw [hz3h] at fp3 at3
  generalize upd F2 D (.dK []) = F3 at *
  have I4 := block_start I3 ok nd fp3
  obtain ⟨pg, pt, pk, pv, pp⟩ := blk z3 F3 z3.heap.objs.size (cellsFrom (z3.heap.objs.size + 1) scope.names (cloFrom X.env.cells scope.names [])) fp
  show codeAny _ _ (.compStart (.DictComp kx vx [⟨tg, iter, ifs, 0⟩] scope pos) 0 (.ref it) (.ref D) (compEnvC scope (cellsFrom (z3.heap.objs.size + 1) scope.names (cloFrom X.env.cells scope.names [])) z3.heap.objs.size X.env)) (compPost (model X.prog X.w) X.A X.xe use Qf (.ref D) z3.heap.objs.size) { z3 with heap := pushCells (z3.heap.push { cls := .type "dict", data := .dict #[] }) scope.names }
  generalize hc : compEnvC scope (cellsFrom (z3.heap.objs.size + 1) scope.names (cloFrom X.env.cells scope.names [])) z3.heap.objs.size X.env = ce at I4 pg pt pk pv pp ⊢
  have loc : ce.locals = z3.heap.objs.size := by rw [← hc]; rfl
  generalize hz4 : ({ z3 with heap := pushCells (z3.heap.push { cls := .type "dict", data := .dict #[] }) scope.names } : Shared) = z4 at I4 ⊢
  have at4 : tn 0 z4.heap := T.keep _ _ _ at3 fun _ _ _ e => by rw [← hz4]; exact pushCells_keeps _ _ _ _ (Heap.get?_push_of_some _ e)
  have fpB : ∀ {τ : L2.St} {F : Hp} {z : Shared}, Inv (X.blk z3 F3 scope ce fp) [] τ F z → (∀ b ∈ fp, F b = none) → ∀ b ∈ fp, FpOk (X.blk z3 F3 scope ce fp) [] F b := fun {τ F z} J' n b hb =>
    ⟨n b hb, (J'.ok.exf b hb).1, J'.ok.exfs b hb, .inl hb, fun x c e => (J'.ok.exf b hb).2 x c e, fun p hp => absurd (show p ∈ ([] : List (Addr × Obj)) ++ [] from hp) (by simp)⟩
  have whole : codeAny (model X.prog X.w) X.A (.compLoop (.DictComp kx vx [⟨tg, iter, ifs, 0⟩] scope pos) 0 (.ref it) (.ref D) ce) (compPost (model X.prog X.w) X.A X.xe use Qf (.ref D) z3.heap.objs.size) z4 := by
    refine compLoop_anyD (fun k z => ∃ i F, Inv (X.blk z3 F3 scope ce fp) [] (L2.wipe σ (own.map (·.2))) F z ∧ tn i z.heap ∧ (∀ b ∈ fp, F b = none) ∧ W i k F) ?_ m0 ⟨0, F3, I4, at4, fun b hb => (fp3 b hb).1.1, start⟩
    rintro k z5 ⟨i, F5, I5, at5, n5, w5⟩
    rcases turn i k F5 w5 with ⟨stop, done⟩ | ⟨go, Nx, later, step⟩
    · refine thnF (T.done (X.blk z3 F3 scope ce fp) rfl rfl rfl calm i [] z5 _ F5 (fun _ _ => False) I5 (fpB I5 n5) at5 stop) fun r z6 ⟨hr, I6⟩ => ?_
      cases hr
      have I7 : Inv X pins σ F5 z6 := I3.call' (ch := fp) I6.os I6.base I6.hok I6.bare fun b hb => let f := (fp3 b hb).1; ⟨f.2.2.2.1, f.2.1, f.2.2.2.2.1, f.2.2.2.2.2⟩
      have none_ : F5 z3.heap.objs.size = none := loc ▸ (show F5 ce.locals = none from I6.free)
      obtain ⟨ns, hns, _⟩ := I6.loc
      have hns : z6.heap.Ns z3.heap.objs.size ns := loc ▸ (show z6.heap.Ns ce.locals ns from hns)
      exact end_ D z3.heap.objs.size z6 ns F5 I7 done hns (I3.fpOk (Nat.le_refl _) none_)
    · refine thnF (T.item (X.blk z3 F3 scope ce fp) rfl rfl rfl calm i [] z5 _ F5 (fun _ _ => False) I5 (fpB I5 n5) at5 go) fun r z6 ⟨u, hr, nextT⟩ => ?_
      cases hr
      refine thnF nextT fun _ z7 ⟨x, F7, I7, rx, y7, at7, n7⟩ => ?_
      refine thnF (pg.run _ z7 _ F7 x u _ (I7.pinned (fpB I7 n7) (T.obj _ _ at7)) rx (step x F7 y7)) fun _ z8 ⟨τ, F8, I8, same, q8⟩ => ?_
      refine thnF (pt.run _ z8 τ F8 _ I8 q8) fun b z9 ⟨F9, I9, q9⟩ => ?_
      -- behind the turn
      have again : ∀ {z : Shared} {F : Hp}, Inv (X.blk z3 F3 scope ce fp) ([] ++ pinsAt fp z7.heap) τ F z → Nx F → ∃ k', k' < k ∧ ∃ i F, Inv (X.blk z3 F3 scope ce fp) [] (L2.wipe σ (own.map (·.2))) F z ∧ tn i z.heap ∧ (∀ b ∈ fp, F b = none) ∧ W i k' F := fun {z F} I' nx => by
        obtain ⟨k', lt, w'⟩ := later F nx
        have pinned : ∀ b ∈ fp, ∀ o, z7.heap.get? b = some o → z.heap.get? b = some o ∧ F b = none := fun b hb o e =>
          have p := I'.pin (b, o) (List.mem_append_right _ (List.mem_append_right _ (mem_pinsAt hb e)))
          ⟨p.1, p.2.1⟩
        refine ⟨k', lt, i + 1, F, (I'.unpinned (pins := [])).weak (by rw [← same, wipe_length]) (fun j v e => (wipe_some (by rw [same]; exact e)).1), T.keep _ _ _ at7 fun b hb o e => (pinned b hb o e).1, fun b hb => ?_, w'⟩
        obtain ⟨o, e, _⟩ := T.obj _ _ at7 b hb
        exact (pinned b hb o e).2
      cases b with
      | false => exact again I9 q9
      | true =>
        refine thnF (pk.run _ z9 τ F9 _ I9 q9) fun uk z10 ⟨y, F10, I10, ry, q10⟩ => thnF (pv.run _ z10 τ F10 _ I10 q10) fun uv z11 ⟨w, F11, I11, rw', q11⟩ => ?_
        exact thn (pp _ _ _ _ D y w uk uv Nx _ I11 ry rw' q11) fun _ z12 ⟨F12, I12, nx⟩ => again I12 nx
  exact codeAny_compStart_dict whole (T.self X.A 0 _ _ _ at4 whole)
end
end MP

/-! MP: dicts: comprehensions with tuples for keys, displays of one entry, len, list, values, get and setdefault with any key. Own work. -/
namespace MP
open PySem PySem.Spec PyProof.Rows L2

/-- the entry, stored in the new dict n -/
def putDT (n : Nat) (i v : D) : P Unit := fun S => match dtW S (.ref n) i with
  | some (_, kvs) => if kvs.length < line then some ((), S.set n (.dtu (dput i v kvs))) else none
  | none => (match S.get n with
    | some (.dct kvs) => if (keyFits i kvs && decide (kvs.length < line)) = true then some ((), S.set n (.dct (dput i v kvs))) else none
    | _ => none)
def emitDT (k v : ME) (n : Nat) (C : Cfg) (σ : Slots) : M Unit := fun S => match k C σ S with
  | .ok x S1 => (match v C σ S1 with
    | .ok y S2 => (match putDT n x y S2 with
      | some (_, S3) => .ok () S3
      | none => .bad)
    | _ => .bad)
  | _ => .bad
def eDcT (k v : ME) (g : Tg) (t : MI) (c : MT) (own : List Nat) : ME := fun C σ => (t C σ).bind fun i S => match compN i g c (emitDT k v S.size C) C (wipe σ own) turns 0 (S.push (.dct [])) with
  | .ok _ S' => .ok (.ref S.size) S'
  | _ => .bad
/-- {a: b} -/
def eD1 (k v : ME) : ME := fun C σ S => match emitDT k v S.size C σ (S.push (.dct [])) with
  | .ok _ S' => .ok (.ref S.size) S'
  | _ => .bad
section
variable {G : Gx} {X : Cx} {W : WX} {C : Cfg}
/-- the store of an entry, by the pure run -/
def rDS (G : Gx) : DPut1 := fun D y z H Nx => ∃ m S n a b S', Sim G m S H ∧ m[n]? = some D ∧ RepV G m H y a ∧ RepV G m H z b ∧ putDT n a b S = some ((), S') ∧ ∀ H', Ext G m H m H' → Sim G m S' H' → Nx H'
theorem room0 (c : Ctx0 G X) : (nestedKind X.prog X.w).room X.A := by
  have := c.hu
  show X.A.units + 8 < cLine
  omega
theorem puts_T (c : Ctx0 G X) : Puts X.prog X.w X (rDS G) := by
  intro pins σ H s D y z u r Nx E I ry rz ⟨m, S, n, a, b, S', sim, hD, ra, rb, e, h⟩
  unfold putDT at e
  split at e
  · rename_i n' kvs hd
    split at e
    · rename_i hz
      cases e
      have rD : RepV G m H (.ref D) (.ref n) := .ref hD
      obtain ⟨pp, q, k, xs, ys, ob, e1, rfl, hk, hm, hg, ho, mu, rn, hpn, hd', hh, hz2, hi⟩ := dt_of2 c I sim rD ra hd
      cases e1
      have en : n' = n := by
        unfold dtW at hd
        simp only at hd
        split at hd
        · split at hd
          · cases hd; rfl
          · cases hd
        · split at hd
          · cases hd; rfl
          · cases hd
        · cases hd
      subst en
      cases ry
      refine wpAny_dictSet_heap (hsz := by rw [ys_len hpn]; exact hz2) (room0 c) hi hh fun h' hh' hs => ?_
      obtain ⟨H', I', ex, s'⟩ := put_heap (t' := s.toks + (nestedKind X.prog X.w).draws k) (y := .non) c I sim ra rb hk hm hg ho mu rn hpn hd' hz rz hh' hs
      exact ⟨H', I', h _ ex s'⟩
    · cases e
  · split at e
    · rename_i kvs hg
      split at e
      · rename_i hf
        rw [Bool.and_eq_true] at hf
        cases e
        obtain ⟨k, hk⟩ := keyFits_some hf.1
        have hz := of_decide_eq_true hf.2
        obtain ⟨p', kv, e1, e2, rk⟩ := sim.dct hg
        rw [hD] at e1
        cases e1
        cases dKey_rep ra hk
        have mu : Mut1 (H D) := by rw [e2]; trivial
        have ex : Ext G m H m (upd H D (.dK (putK kv k z))) := Ext.mut mu
        exact d_dictSet I e2 (by rw [rk.length, ← line_eq]; exact hz) ry rz fun s' I' => ⟨_, I', h _ ex (sim_set sim hg rfl rfl hD mu (.dct upd_same ((rk.mono ex).put hk (rb.mono ex))))⟩
      · cases e
    · cases e
theorem emitDT_post {k v : ME} {σ m H ls n D} {S : Store} {Nx : Hp → Prop} (s : Sim G m S H) (r : SlotR G m H ls σ) (hD : m[n]? = some D) (p : postL G m H Nx (emitDT k v n C ls S)) :
    tE G WF C k σ H fun y H4 => tE G WF C v σ H4 fun z H5 => rDS G D y z H5 Nx := by
  refine ⟨m, S, ls, s, r, ?_⟩
  unfold emitDT at p
  cases q : k C ls S with
  | bad => rw [q] at p; exact p
  | ex c fs S' => rw [q] at p; exact p.elim
  | ok dk S1 =>
    rw [q] at p
    intro m1 H1 y x1 s1 ry
    refine ⟨m1, S1, ls, s1, r.mono x1, ?_⟩
    simp only at p
    cases q2 : v C ls S1 with
    | bad => rw [q2] at p; exact p
    | ex c fs S' => rw [q2] at p; exact p.elim
    | ok dv S2 =>
      rw [q2] at p
      intro m2 H2 z x2 s2 rz
      simp only at p
      cases q3 : putDT n dk dv S2 with
      | none => rw [q3] at p; exact p.elim
      | some o =>
        rw [q3] at p
        exact ⟨m2, S2, n, dk, dv, o.2, s2, x2.pre _ _ (x1.pre _ _ hD), ry.mono x2, rz, q3, fun H' ex s' => p m2 H' ((x1.trans x2).trans ex) s'⟩
theorem dcT_fin {k v : ME} {g : Tg} {t : MI} {tc : MT} {vs : List Nat} {σ H} {Q : VK} (sub : ∀ i ∈ g.slots, i ∈ vs) (h : tE G W C (eDcT k v g t tc vs) σ H Q) : tDcP (rDS G) (tI G W C t) (tG G g) (tT G WF C tc) (tE G WF C k) (tE G WF C v) vs σ H Q := by
  have h1 := tX.bind (Ra := ItR G) (k := fun C σ i S => match compN i g tc (emitDT k v S.size C) C (MP.wipe σ vs) turns 0 (S.push (.dct [])) with
    | .ok _ S' => .ok (D.ref S.size) S'
    | _ => .bad) h
  refine tX.imp h1 fun J H1 z D hD => ?_
  obtain ⟨m, S, ls, it, s, r, ri, p⟩ := z
  have ex : Ext G m H1 (m ++ [D]) (upd H1 D (.dK [])) := ext_push hD
  have hl : (m ++ [D])[S.size]? = some D := by rw [← s.len]; exact List.getElem?_concat_length
  refine comp_loop (f := emitDT k v S.size C) (Qd := fun H => Q (.ref D) H) (sim_new s hD (.dct upd_same .nil)) ((r.mono ex).wipe vs) (ri.mono ex) sub (F := fun σ2 H3 Nx => tE G WF C k σ2 H3 fun y H4 => tE G WF C v σ2 H4 fun z H5 => rDS G D y z H5 Nx)
    (fun σ2 m2 H2 S2 ls2 Nx x2 s2 r2 p2 => emitDT_post s2 r2 (x2.pre _ _ hl) p2) (?_ : postL G (m ++ [D]) (upd H1 D (.dK [])) (fun H => Q (.ref D) H) _)
  cases q : compN it g tc (emitDT k v S.size C) C (MP.wipe ls vs) turns 0 (S.push (.dct [])) with
  | bad => simp only [q] at p; exact p
  | ex c fs S' => simp only [q] at p; exact p
  | ok u S' =>
    simp only [q] at p
    exact fun m' H' x s' => p m' H' (.ref D) (ex.trans x) s' ((ref_new (G := G) (H' := upd H1 D (.dK [])) s).mono x)
section
variable {kx vx tg iter : Expr} {ifs : List Expr} {scope : Scope} {own : List (Str × Nat)} {pos : Pos} {g : Tg} {t : MI} {tc : MT} {k v : ME} {vs : List Nat}
theorem r_dcT (c : Ctx G X W) (hi : PI X tg iter (tI G W C t)) (ok : blkC X.N X.env.scope scope own = true) (hv : own.map (·.2) = vs) (sub : (g.slots.all fun i => vs.contains i) = true)
    (hg : ∀ (s : Shared) (H : Hp) (L : Addr) (cl : List (Str × Addr)) (fp : List Addr), PG (X.blk s H scope (compEnvC scope cl L X.env) fp) tg (tG G g))
    (ht : ∀ (s : Shared) (H : Hp) (L : Addr) (cl : List (Str × Addr)) (fp : List Addr), PTs (X.blk s H scope (compEnvC scope cl L X.env) fp) ifs (tT G WF C tc))
    (hk : ∀ (s : Shared) (H : Hp) (L : Addr) (cl : List (Str × Addr)) (fp : List Addr), PE (X.blk s H scope (compEnvC scope cl L X.env) fp) kx (tE G WF C k))
    (he : ∀ (s : Shared) (H : Hp) (L : Addr) (cl : List (Str × Addr)) (fp : List Addr), PE (X.blk s H scope (compEnvC scope cl L X.env) fp) vx (tE G WF C v)) (hs : ∀ x, foldedSetIterable iter X.env x = pure x := by intro _; rfl) :
    PE X (.DictComp kx vx [⟨tg, iter, ifs, 0⟩] scope pos) (tE G W C (eDcT k v g t tc vs)) := by
  subst hv
  refine ⟨fun pins s σ H Q I h => ?_⟩
  rw [arm_eval_DictComp]
  refine dcp_core c.calm c.hN I hi (blkOk_by ok) (fun z F L cl fp => ⟨hg z F L cl fp, ht z F L cl fp, hk z F L cl fp, he z F L cl fp, puts_T (Ctx.blk c).toCtx0⟩) hs (dcT_fin (fun i hi => by simpa using List.all_eq_true.mp sub i hi) h) fun D L z m F I' q hn f => ⟨m, hn, fun h'' sb => ?_⟩
  obtain ⟨f0, f1, f2, f3, f4, f5⟩ := f
  exact ⟨.ref D, F, I'.turned (t' := z.toks) (fun b o hb e => (sb.2 b hb).trans e) f0 f1 f3 f4 f5, rfl, q⟩
theorem s_setDcT {i : Nat} {y : Str} {py spos : Pos} (c : Ctx G X W) (hy : X.N[i]? = some y) (hyl : X.env.scope.names.lookup y = some .local) (hsw : swapsWith (.DictComp kx vx [⟨tg, iter, ifs, 0⟩] scope pos) (some (.Name y py)) spos.line X.env = pure true)
    (hi : PI X tg iter (tI G W C t)) (ok : blkC X.N X.env.scope scope own = true) (hv : own.map (·.2) = vs) (sub : (g.slots.all fun i => vs.contains i) = true)
    (hg : ∀ (s : Shared) (H : Hp) (L : Addr) (cl : List (Str × Addr)) (fp : List Addr), PG (X.blk s H scope (compEnvC scope cl L X.env) fp) tg (tG G g))
    (ht : ∀ (s : Shared) (H : Hp) (L : Addr) (cl : List (Str × Addr)) (fp : List Addr), PTs (X.blk s H scope (compEnvC scope cl L X.env) fp) ifs (tT G WF C tc))
    (hk : ∀ (s : Shared) (H : Hp) (L : Addr) (cl : List (Str × Addr)) (fp : List Addr), PE (X.blk s H scope (compEnvC scope cl L X.env) fp) kx (tE G WF C k))
    (he : ∀ (s : Shared) (H : Hp) (L : Addr) (cl : List (Str × Addr)) (fp : List Addr), PE (X.blk s H scope (compEnvC scope cl L X.env) fp) vx (tE G WF C v)) (hs : ∀ x, foldedSetIterable iter X.env x = pure x := by intro _; rfl) :
    PS X (.Assign [.Name y py] (.DictComp kx vx [⟨tg, iter, ifs, 0⟩] scope pos) spos) (tS G W C (sSet (.nm i) (eDcT k v g t tc vs))) := by
  subst hv
  refine ⟨fun pins s σ H E I h => ?_⟩
  rw [exec_Assign_Name_used _ _ _ _ hsw]
  refine wpAny_bind (wpAny_standAt (wpAny_bind ?_))
  show wpAny _ X.A (do let _ ← comprehension (.DictComp kx vx [⟨tg, iter, ifs, 0⟩] scope pos) scope X.env (firstIterPos [⟨tg, iter, ifs, 0⟩] pos) newDict false (eval iter X.env) (some (assign (.Name y py) X.env))) _ _ s
  have h' : tDcP (rDS G) (tI G W C t) (tG G g) (tT G WF C tc) (tE G WF C k) (tE G WF C v) (own.map (·.2)) σ H (fun x H1 => gName i x σ H1 E.nx) := by
    obtain ⟨m, S, ls, s0, r, p⟩ := h
    refine dcT_fin (fun i hi => by simpa using List.all_eq_true.mp sub i hi) ⟨m, S, ls, s0, r, post.imp (lift_post (Ra := RepV G) r p) fun x H1 ⟨m1, S1, a, _, s1, r1, ra, p1⟩ => ?_⟩
    unfold asg at p1
    split at p1
    · rename_i ls' e
      split at e
      · cases e
        exact p1 m1 H1 _ Ext.refl s1 (r1.set ra)
      · cases e
    · exact p1.elim
  refine wpAny_bind (thn (dcp_core (Qf := fun _ t => SP X pins E .next t) c.calm c.hN I hi (blkOk_by ok) (fun z F L cl fp => ⟨hg z F L cl fp, ht z F L cl fp, hk z F L cl fp, he z F L cl fp, puts_T (Ctx.blk c).toCtx0⟩) hs h' fun L B s2 ns H2 I2 last hn fB => ?_) fun _ _ done => wpAny_pure (wpAny_pure done))
  show wpAny _ _ (assign (.Name y py) X.env (.ref L)) _ _ _
  refine wpAny_assign_Name (store_ok2 (v := V.ref L) I2 c.hN hy (.inl hyl) rfl (fun s3 I3 ⟨cell, same, hcell⟩ => ?_) (.inr hyl))
  obtain ⟨b0, b1, b2, b3, b4, b5⟩ := fB
  have apart : B ≠ cell := hcell.elim (fun e => by rw [e]; exact b1) fun e w => b4 y cell e w.symm
  exact ⟨ns, hn.sameBut same apart, fun h4 same4 => ⟨_, H2, I3.turned (t' := s3.toks) (fun b o hb e => (same4.2 b hb).trans e) b0 b1 b3 b4 b5, last⟩⟩
end
/-! ### {a: b} -/
theorem dict_one {X : Cx} {ek ev : Expr} {pos : Pos} {s : Shared} {Q : Value → Shared → Prop} (h : wpAny (model X.prog X.w) X.A (eval ek X.env) (fun u s1 => wpAny (model X.prog X.w) X.A (eval ev X.env) (fun w s2 => wpAny (model X.prog X.w) X.A (dictSet s.heap.objs.size u w) (fun _ s3 => Q (.ref s.heap.objs.size) s3) X.xe s2) X.xe s1) X.xe { s with heap := s.heap.push { cls := .type "dict", data := .dict #[] } }) :
    wpAny (model X.prog X.w) X.A (eval (.Dict [some ek] [ev] pos) X.env) Q X.xe s := by
  rw [arm_eval_Dict, zip_pairTrees [some ek] [ev] X.env pos rfl rfl, dictDisplay_pairs (pairTrees [some ek] [ev] X.env pos) (by simp [pairTrees]) (by simp [pairTrees])]
  refine wpAny_bind (wpAny_standAt (wpAny_bind ?_))
  unfold subDict
  refine wpAny_bind (wpAny_alloc (wpAny_bind (wpAny_holding ?_)))
  rw [if_pos (by simp [pairTrees])]
  refine wpAny_bind (pairTrees_cons_walk (thn h fun u s1 h1 => thn h1 fun w s2 h2 => pairTrees_nil_walk ?_))
  refine wpAny_holding (wpAny_bind ?_)
  simp only [List.forIn_cons, List.forIn_nil]
  exact wpAny_bind (wpAny_bind (thn h2 fun _ s3 h3 => wpAny_pure (wpAny_pure (wpAny_pure (wpAny_pure (wpAny_pure h3))))))
theorem r_d1 {ek ev : Expr} {k v : ME} {pos : Pos} (c : Ctx0 G X) (hk : PE X ek (tE G WF C k)) (hv : PE X ev (tE G WF C v)) : PE X (.Dict [some ek] [ev] pos) (tE G W C (eD1 k v)) := ⟨fun pins s σ H Q I h => by
  obtain ⟨m, S, ls, sim, r, p⟩ := h
  have hn : H s.heap.objs.size = none := I.hok.fresh (Nat.le_refl _)
  have I1 := I.laid (a := s.heap.objs.size) (o := .dK []) (h' := s.heap.push { cls := .type "dict", data := .dict #[] }) (t' := s.toks) (fun _ _ q => Heap.get?_push_of_some _ q) (Nat.le_refl _) (dk_empty s.heap I.big)
  have ex1 : Ext G m H (m ++ [s.heap.objs.size]) (upd H s.heap.objs.size (.dK [])) := ext_push hn
  have hp1 : (m ++ [s.heap.objs.size])[S.size]? = some s.heap.objs.size := by rw [← sim.len]; exact List.getElem?_concat_length
  have go := emitDT_post (k := k) (v := v) (C := C) (Nx := fun F => Q (.ref s.heap.objs.size) F) (sim_new sim hn (.dct upd_same .nil)) (r.mono ex1) hp1 (by
    unfold eD1 at p
    cases q : emitDT k v S.size C ls (S.push (.dct [])) with
    | bad => rw [q] at p; exact p
    | ex c fs S' => rw [q] at p; exact p
    | ok u S' =>
      rw [q] at p
      exact fun m' H' x s' => p m' H' (.ref s.heap.objs.size) (ex1.trans x) s' ((ref_new (G := G) (H' := upd H s.heap.objs.size (.dK [])) sim).mono x))
  exact dict_one (thn (hk.run pins _ σ _ _ I1 go) fun u s1 ⟨x, F1, J1, rx, q1⟩ => thn (hv.run pins s1 σ F1 _ J1 q1) fun w s2 ⟨y, F2, J2, ry, q2⟩ => thn (puts_T c pins σ F2 s2 _ x y u w _ X.xe J2 rx ry q2) fun _ s3 ⟨F3, J3, q3⟩ => ⟨.ref s.heap.objs.size, F3, J3, rfl, q3⟩)⟩

/-! ### len, list, values -/
/-- the entries of any dict -/
def entA (S : Store) (n : Nat) : Option (List (D × D)) := match S.get n with
  | some (.dtu kvs) => some kvs
  | some (.dct kvs) => some kvs
  | some (.fdt kvs) => some kvs
  | some (.fdk kvs) => some kvs
  | _ => none
def bLenT : List D → P D
  | [.ref n] => fun S => match entA S n with
    | some kvs => some (.int (kvs.length : Nat), S)
    | none => bLen [.ref n] S
  | xs => bLen xs
def bListT : List D → P D
  | [.ref n] => fun S => match entA S n with
    | some kvs => some (.ref S.size, S.push (.lst (kvs.map (·.1))))
    | none => bListX [.ref n] S
  | xs => bListX xs
/-- list(d.values()) -/
def opVals : D → P D
  | .ref n => fun S => match entA S n with
    | some kvs => some (.ref S.size, S.push (.lst (kvs.map (·.2))))
    | none => none
  | _ => P.bad
/-- a dict in the heap: its entries -/
theorem ent_heap (c : Ctx0 G X) {pins : List (Addr × Obj)} {σ : L2.St} {m : List Addr} {H : Hp} {s : Shared} {S : Store} {n : Nat} {p : Addr} {kvs : List (D × D)} (I : Inv X pins σ H s) (sim : Sim G m S H) (hp : m[n]? = some p) (h : entA S n = some kvs) :
    ∃ (es : Array DictEntry) (ep : Nat), (p == sysModules) = false ∧ s.heap.DictRaw p es ep ∧ es.size = kvs.length ∧ kvs.length ≤ sizeLine ∧
      ∀ (i : Nat) (a x : D), kvs[i]? = some (a, x) → ∃ (en : DictEntry) (k v : V), es[i]? = some en ∧ RelV k en.key ∧ RelV v en.val ∧ RepV G m H k a ∧ RepV G m H v x := by
  have nested : ∀ xs : List (NestedKey × Addr × V), RepN G m H xs kvs → ObjOk X.prog X.w H s.heap p (DTO G.ne.w p xs) → ∃ (es : Array DictEntry) (ep : Nat), (p == sysModules) = false ∧ s.heap.DictRaw p es ep ∧ es.size = kvs.length ∧ kvs.length ≤ sizeLine ∧
      ∀ (i : Nat) (a x : D), kvs[i]? = some (a, x) → ∃ (en : DictEntry) (k v : V), es[i]? = some en ∧ RelV k en.key ∧ RelV v en.val ∧ RepV G m H k a ∧ RepV G m H v x := fun xs rn ⟨⟨z1, z2, nd, ys, o, es, ep, hpn, h1, h2, h3, h4⟩, _⟩ => by
    refine ⟨es, ep, z1, ⟨o, h1, h2, h3⟩, ?_, by rw [← rn.length]; exact z2, fun i a x e => ?_⟩
    · have l1 := congrArg List.length h4
      rw [List.length_map, Array.length_toList] at l1
      rw [l1, ys_len hpn, rn.length]
    · obtain ⟨k, q, v, e1, r1, r2⟩ := RepN.at rn e
      obtain ⟨b, hb, e2, e3, e4⟩ := paired_get hpn e1
      have z : es[i]? = (ys[i]?).map fun x => (⟨x.1.hash G.ne.w, .ref x.2.1, x.2.2⟩ : DictEntry) := by rw [← Array.getElem?_toList, h4, List.getElem?_map]
      rw [hb] at z
      exact ⟨_, .ref q, v, z, (show Value.ref b.2.1 = Value.ref q from by rw [← e3]), e4, r1, r2⟩
  have flat : ∀ xs : List (Key × V), RepK G m H xs kvs → ObjOk X.prog X.w H s.heap p (.dK xs) → ∃ (es : Array DictEntry) (ep : Nat), (p == sysModules) = false ∧ s.heap.DictRaw p es ep ∧ es.size = kvs.length ∧ kvs.length ≤ sizeLine ∧
      ∀ (i : Nat) (a x : D), kvs[i]? = some (a, x) → ∃ (en : DictEntry) (k v : V), es[i]? = some en ∧ RelV k en.key ∧ RelV v en.val ∧ RepV G m H k a ∧ RepV G m H v x := fun xs rk ⟨z1, z2, vs, kv, dd⟩ => by
    obtain ⟨es, ep, hr, hsz, hen⟩ := dd.raw
    have l1 : xs.length = vs.length := Paired.length kv
    refine ⟨es, ep, z2, hr, by rw [hsz, ← l1, rk.length], by rw [← rk.length]; exact z1, fun i a x e => ?_⟩
    obtain ⟨k, v, e1, r1, r2⟩ := rk.at e
    obtain ⟨u, hu, ru⟩ := kv_get kv e1
    have hi : i < es.size := by
      have := (List.getElem?_eq_some_iff.mp hu).1
      omega
    obtain ⟨h2, h3⟩ := hen i hi _ _ hu
    exact ⟨es[i], kV k, v, Array.getElem?_eq_getElem hi, relV_key h2, by rw [h3]; exact ru, r1, r2⟩
  unfold entA at h
  split at h
  · rename_i ds hg
    cases h
    obtain ⟨p', xs, e1, e2, rn⟩ := sim.dtu hg
    rw [hp] at e1; cases e1
    exact nested xs rn (I.hok p _ e2)
  · rename_i ds hg
    cases h
    obtain ⟨p', xs, e1, e2, rn⟩ := sim.dct hg
    rw [hp] at e1; cases e1
    exact flat xs rn (I.hok p _ e2)
  · rename_i ds hg
    cases h
    obtain ⟨p', o, xs, e1, e2, rn⟩ := sim.fdt hg
    rw [hp] at e1; cases e1
    exact nested xs rn (I.hok p _ e2).2
  · rename_i ds hg
    cases h
    obtain ⟨p', o, xs, e1, e2, rn⟩ := sim.fdk hg
    rw [hp] at e1; cases e1
    exact flat xs rn (I.hok p _ e2).2
  · cases h
/-- a new list of items that stand -/
theorem list_new (c : Ctx G X W) {pins : List (Addr × Obj)} {σ : L2.St} {m : List Addr} {H : Hp} {s : Shared} {S : Store} {ds : List D} {acc : Array Value} {Q : VK} {h' : Heap} {tk c' : Nat} (I : Inv X pins σ H s) (sim : Sim G m S H) (hz : ds.length ≤ sizeLine)
    (hl : acc.size = ds.length) (hd : ∀ (i : Nat) (d : D), ds[i]? = some d → ∃ v u, acc[i]? = some u ∧ RelV v u ∧ RepV G m H v d) (kp : ∀ b o, s.heap.get? b = some o → h'.get? b = some o)
    (e : h'.get? s.heap.objs.size = some { cls := .type "list", dict := none, data := .seq acc c', slots := #[] }) (p : postP G (RepV G) m H Q (some (.ref S.size, S.push (.lst ds)))) : EP X pins σ Q (.ref s.heap.objs.size) { s with heap := h', toks := tk } := by
  have : ∀ (ds : List D) (us : List Value), us.length = ds.length → (∀ (i : Nat) (d : D), ds[i]? = some d → ∃ v u, us[i]? = some u ∧ RelV v u ∧ RepV G m H v d) → ∃ vs, Vals vs us ∧ RepVs G m H vs ds := by
    intro ds
    induction ds with
    | nil => intro us hl _; exact ⟨[], by cases us with | nil => exact .nil | cons a b => simp at hl, .nil⟩
    | cons d ds ih =>
      intro us hl hd
      cases us with
      | nil => simp at hl
      | cons u us =>
        obtain ⟨v, u', e1, r1, r2⟩ := hd 0 d rfl
        cases e1
        obtain ⟨vs, h1, h2⟩ := ih us (by simpa using hl) fun i d h => by
          obtain ⟨v, u, e1, r⟩ := hd (i + 1) d (by simpa using h)
          exact ⟨v, u, by simpa using e1, r⟩
        exact ⟨v :: vs, .cons r1 h1, .cons r2 h2⟩
  obtain ⟨vs, h1, h2⟩ := this ds acc.toList (by simpa using hl) fun i d h => by
    obtain ⟨v, u, e1, r⟩ := hd i d h
    exact ⟨v, u, by simpa using e1, r⟩
  refine ⟨.ref s.heap.objs.size, upd H s.heap.objs.size (.lst vs), I.laid (t' := tk) kp (Nat.le_refl _) ⟨by rw [h2.length]; exact hz, acc.toList, c', h1, by rw [Array.toArray_toList]; exact e⟩, rfl, ?_⟩
  exact new_lst sim h2 p _ (I.hok.fresh (Nat.le_refl _))
theorem b_lenT (c : Ctx0 G X) : CallR X (.builtin "len") (rPA G bLenT) := by
  intro pins s σ H xs us Q I r ⟨m, S, as, sim, ra, p⟩
  unfold bLenT at p
  split at p
  · rename_i n
    split at p
    · rename_i kvs he
      obtain ⟨x, rfl, rx⟩ := ra.one_
      obtain ⟨q, rfl, hq⟩ := rx.ref_
      obtain ⟨u, rfl, ru⟩ := vals1 r
      cases ru
      obtain ⟨es, ep, hd, ⟨o, h1, h2, h3⟩, hsz, hz, _⟩ := ent_heap c I sim hq he
      have line : kvs.length ≤ 16777216 := by rw [sizeLine_eq] at hz; exact hz
      refine PyProof.Rows.call_len_slot (n := kvs.length) ⟨o, h1, h2.1⟩ F.slot_dict_len (fun Q' hq' => ?_) (by omega) (by omega) ⟨.int _, H, I.tok _, ⟨_, rfl⟩, fin_val sim (.int _) p⟩
      rw [← hsz] at hq'
      exact call_len_raw hd ⟨o, h1, h2, h3⟩ hq'
    · exact b_len c.hK pins s σ H xs us Q I r ⟨m, S, _, sim, ra, p⟩
  · exact b_len c.hK pins s σ H xs us Q I r ⟨m, S, as, sim, ra, p⟩
theorem b_listT (c : Ctx G X W) : CallR X (.type "list") (rPA G bListT) := by
  intro pins s σ H xs us Q I r ⟨m, S, as, sim, ra, p⟩
  unfold bListT at p
  split at p
  · rename_i n
    split at p
    · rename_i kvs he
      obtain ⟨x, rfl, rx⟩ := ra.one_
      obtain ⟨q, rfl, hq⟩ := rx.ref_
      obtain ⟨u, rfl, ru⟩ := vals1 r
      cases ru
      obtain ⟨es, ep, hd, hm, hsz, hz, ent⟩ := ent_heap c.toCtx0 I sim hq he
      refine PySem.W.kdl_call (PySem.KdlSrc.rawDict hd) (I.ok.hd c.calm) hm (by rw [hsz]; exact hz) fun h' tk acc c' kp e hacc => ?_
      refine list_new c I sim (by rw [List.length_map]; exact hz) (by rw [hacc.1, List.length_map, hsz]) (fun i d hd => ?_) kp e p
      rw [List.getElem?_map] at hd
      obtain ⟨⟨a, y⟩, h1, rfl⟩ := Option.map_eq_some_iff.mp hd
      obtain ⟨en, k, v, h2, rk, rv, r1, r2⟩ := ent i a y h1
      have hi : i < es.size := (Array.getElem?_eq_some_iff.mp h2).1
      have ha : i < acc.size := by rw [hacc.1]; exact hi
      obtain ⟨hi', e2⟩ := hacc.2 i acc[i] (Array.getElem?_eq_getElem ha)
      refine ⟨k, acc[i], Array.getElem?_eq_getElem ha, ?_, r1⟩
      rw [e2]
      have e3 : es[i] = en := by rw [Array.getElem?_eq_getElem hi] at h2; exact Option.some.inj h2
      rw [e3]
      exact rk
    · exact b_listX c pins s σ H xs us Q I r ⟨m, S, _, sim, ra, p⟩
  · exact b_listX c pins s σ H xs us Q I r ⟨m, S, as, sim, ra, p⟩
end
end MP

/-! MP: x in range(n), t.index(x), s.index(sign), three names at once. Own work. -/
namespace MP
open PySem PySem.Spec PyProof.Rows L2

/-- x in range(n) -/
def opInRg : D → D → P D
  | .int i, .int n => P.ret (.bl (decide (0 ≤ i ∧ i < n)))
  | _, _ => P.bad
def opNotInRg : D → D → P D
  | .int i, .int n => P.ret (.bl (!decide (0 ≤ i ∧ i < n)))
  | _, _ => P.bad
/-- t.index(x), t a tuple of texts; s.index(c), c a sign -/
def idxS (x : List Nat) : List D → Nat → Option Nat
  | [], _ => none
  | .str y :: r, i => if y = x then some i else idxS x r (i + 1)
  | _ :: _, _ => none
def mIndex : D → List D → P D
  | .tup ys, [.str x] => fun S => match strsOf ys, idxS x ys 0 with
    | some _, some j => some (.int (j : Nat), S)
    | _, _ => none
  | _, _ => P.bad
def tyTup : D → Store → Bool
  | .tup _, _ => true
  | _, _ => false
/-- a, b, c = x, y, z -/
def sPar3 (i j l : Nat) (a b c : ME) : MS := fun C σ S => lift (a C σ) σ S fun x S1 => lift (b C σ) σ S1 fun y S2 => lift (c C σ) σ S2 fun z S3 =>
  if i < σ.length ∧ j < σ.length ∧ l < σ.length then .nx (((σ.set i (some x)).set j (some y)).set l (some z)) S3 else .bad
section
variable {G : Gx} {X : Cx} {W : WX} {C : Cfg}
theorem cr_range1 : CallR X (.type "range") (fun vs H Q => ∃ j, vs = [V.int j] ∧ ∀ p, H p = none → Q (.ref p) (upd H p (.rng 0 j))) := by
  intro pins s σ H vs us Q I r h
  obtain ⟨j, rfl, q⟩ := h
  obtain ⟨u1, rfl, ri⟩ := vals1 r
  obtain ⟨t, rfl⟩ := ri
  refine call_range_1 ⟨.ref s.heap.objs.size, upd H s.heap.objs.size (.rng 0 j), I.laid (t' := s.toks + 2) (fun b o e => Heap.get?_push_of_some _ e) (Nat.le_refl _) ?_, rfl, q _ (I.hok.fresh (Nat.le_refl _))⟩
  exact ⟨_, _, _, Heap.get?_push_size _ rfl⟩
/-- behind x and n: the range, then the question -/
theorem rg_fin {neg : Bool} {f : D → D → P D} (hf : ∀ i n, f (.int i) (.int n) = P.ret (.bl (if neg = true then !decide (0 ≤ i ∧ i < n) else decide (0 ≤ i ∧ i < n)))) (hb : ∀ a b S r, f a b S = some r → ∃ i n, a = .int i ∧ b = .int n)
    {r : R2} (hr : ∀ (i : Int) (a : Addr) (lo hi : Int) (H : Hp) (Q : VK), H a = some (.rng lo hi) → Q (.bl (if neg = true then !decide (lo ≤ i ∧ i < hi) else decide (lo ≤ i ∧ i < hi))) H → r (.int i) (.ref a) H Q)
    {x y : V} {H : Hp} {Q : VK} (h : rP2 G f x y H Q) : ∃ j, y = .int j ∧ ∀ p, H p = none → r x (.ref p) (upd H p (.rng 0 j)) Q := by
  obtain ⟨m, S, a, b, sim, ra, rb, p⟩ := h
  cases e : f a b S with
  | none => rw [e] at p; exact p.elim
  | some w =>
    obtain ⟨i, n, rfl, rfl⟩ := hb a b S w e
    cases ra.int_
    cases rb.int_
    rw [hf] at p
    refine ⟨n, rfl, fun q hq => hr i q 0 n _ Q upd_same ?_⟩
    exact p m _ _ (Ext.new hq) (sim_same sim hq) (.bl _)
theorem op_notin_rng : OpR X (compareOp .NotIn) (fun x y H Q => ∃ i a lo hi, x = V.int i ∧ y = V.ref a ∧ H a = some (.rng lo hi) ∧ Q (.bl (!decide (lo ≤ i ∧ i < hi))) H) := by
  intro pins s σ H x y v u Q I rx ry ⟨i, a, lo, hi, e1, e2, ha, q⟩
  subst e1
  subst e2
  obtain ⟨k, rfl⟩ := rx
  obtain rfl : u = Value.ref a := ry
  obtain ⟨t1, t2, t3, ho⟩ := I.hok a _ ha
  show wpAny _ _ (do return Value.bool (!(← contains (Value.ref a) (Value.int i k)))) _ _ s
  refine wpAny_bind (wpAny_contains_slot (T := "range") ⟨_, ho, rfl⟩ F.slot_range_contains (call_meets F.slot_range_contains ⟨_, ho, rfl⟩ F.entry_range_contains (F.args_range_contains_2 _ _) (q_contains a lo hi i t1 t2 t3 k) ⟨ho, ?_⟩))
  refine wpAny_truthy_bool (wpAny_pure ⟨.bl _, H, I, rfl, ?_⟩)
  rw [place1]
  exact q
theorem bo_range : bootBuiltins "range" = some (.type "range") := by decide +kernel
section
variable {a n : Expr} {ea en : ME} {p rp pos : Pos}
/-- the range, as a value that only a look wants -/
def tRg (te : TE) : TE := fun σ H Q => te σ H fun y H1 => ∃ j, y = .int j ∧ ∀ q, H1 q = none → Q (.ref q) (upd H1 q (.rng 0 j))
theorem pe_rg (hg : Gl X "range") (hm : X.mg "range" = none) (hn : PE X n (tE G W C en)) (h1 : starEach [n] X.env = (false, eval n X.env) :: starEach [] X.env := by rfl) : PE X (.Call (.Name "range" p) [n] [] rp) (tRg (tE G W C en)) :=
  PE.weak (pe_callTy cr_range1 hg hm bo_range (pa_cons hn pa_nil h1) (he := h1)) fun σ H Q h => tX.imp h fun y H1 ⟨j, e, k⟩ => ⟨j, by rw [e], k⟩
theorem r_inRg (hg : Gl X "range") (hm : X.mg "range" = none) (ha : PE X a (tE G W C ea)) (hn : PE X n (tE G W C en)) (hi : behindInMarks .In (.Call (.Name "range" p) [n] [] rp) = false := by with_unfolding_all rfl) (h1 : starEach [n] X.env = (false, eval n X.env) :: starEach [] X.env := by rfl) :
    PE X (.Compare a [.In] [.Call (.Name "range" p) [n] [] rp] pos) (tE G W C (e2 opInRg ea en)) :=
  PE.weak (pe_cmpR op_in_rng ha (pe_rg hg hm hn h1) hi) fun σ H Q h => tX.imp (w2 h) fun x H1 z => tX.imp z fun y H2 z2 =>
    rg_fin (neg := false) (f := opInRg) (r := fun x y H Q => ∃ i a lo hi, x = V.int i ∧ y = V.ref a ∧ H a = some (.rng lo hi) ∧ Q (.bl (decide (lo ≤ i ∧ i < hi))) H) (fun _ _ => rfl) (fun a b S r e => by cases a <;> cases b <;> first | exact ⟨_, _, rfl, rfl⟩ | cases e) (fun i a lo hi H Q h q => ⟨i, a, lo, hi, rfl, rfl, h, q⟩) z2
theorem r_notinRg (hg : Gl X "range") (hm : X.mg "range" = none) (ha : PE X a (tE G W C ea)) (hn : PE X n (tE G W C en)) (hi : behindInMarks .NotIn (.Call (.Name "range" p) [n] [] rp) = false := by with_unfolding_all rfl) (h1 : starEach [n] X.env = (false, eval n X.env) :: starEach [] X.env := by rfl) :
    PE X (.Compare a [.NotIn] [.Call (.Name "range" p) [n] [] rp] pos) (tE G W C (e2 opNotInRg ea en)) :=
  PE.weak (pe_cmpR op_notin_rng ha (pe_rg hg hm hn h1) hi) fun σ H Q h => tX.imp (w2 h) fun x H1 z => tX.imp z fun y H2 z2 =>
    rg_fin (neg := true) (f := opNotInRg) (r := fun x y H Q => ∃ i a lo hi, x = V.int i ∧ y = V.ref a ∧ H a = some (.rng lo hi) ∧ Q (.bl (!decide (lo ≤ i ∧ i < hi))) H) (fun _ _ => rfl) (fun a b S r e => by cases a <;> cases b <;> first | exact ⟨_, _, rfl, rfl⟩ | cases e) (fun i a lo hi H Q h q => ⟨i, a, lo, hi, rfl, rfl, h, q⟩) z2
theorem r_tInRg (hg : Gl X "range") (hm : X.mg "range" = none) (ha : PE X a (tE G W C ea)) (hn : PE X n (tE G W C en)) (hi : behindInMarks .In (.Call (.Name "range" p) [n] [] rp) = false := by with_unfolding_all rfl) (h1 : starEach [n] X.env = (false, eval n X.env) :: starEach [] X.env := by rfl) :
    PT X (.Compare a [.In] [.Call (.Name "range" p) [n] [] rp] pos) (tT G W C (tB (e2 opInRg ea en))) :=
  PT.weak (pt_cmpR op_in_rng ha (pe_rg hg hm hn h1) hi) fun σ H Q h => tX.imp (w2 (tX.imp (w1 (Rp := RB) (f := asB) h) fun x H1 z => asB_fin z)) fun x H1 z => tX.imp z fun y H2 z2 =>
    rg_fin (neg := false) (f := opInRg) (r := fun x y H Q => ∃ i a lo hi, x = V.int i ∧ y = V.ref a ∧ H a = some (.rng lo hi) ∧ Q (.bl (decide (lo ≤ i ∧ i < hi))) H) (fun _ _ => rfl) (fun a b S r e => by cases a <;> cases b <;> first | exact ⟨_, _, rfl, rfl⟩ | cases e) (fun i a lo hi H Q h q => ⟨i, a, lo, hi, rfl, rfl, h, q⟩) z2
theorem r_tNotInRg (hg : Gl X "range") (hm : X.mg "range" = none) (ha : PE X a (tE G W C ea)) (hn : PE X n (tE G W C en)) (hi : behindInMarks .NotIn (.Call (.Name "range" p) [n] [] rp) = false := by with_unfolding_all rfl) (h1 : starEach [n] X.env = (false, eval n X.env) :: starEach [] X.env := by rfl) :
    PT X (.Compare a [.NotIn] [.Call (.Name "range" p) [n] [] rp] pos) (tT G W C (tB (e2 opNotInRg ea en))) :=
  PT.weak (pt_cmpR op_notin_rng ha (pe_rg hg hm hn h1) hi) fun σ H Q h => tX.imp (w2 (tX.imp (w1 (Rp := RB) (f := asB) h) fun x H1 z => asB_fin z)) fun x H1 z => tX.imp z fun y H2 z2 =>
    rg_fin (neg := true) (f := opNotInRg) (r := fun x y H Q => ∃ i a lo hi, x = V.int i ∧ y = V.ref a ∧ H a = some (.rng lo hi) ∧ Q (.bl (!decide (lo ≤ i ∧ i < hi))) H) (fun _ _ => rfl) (fun a b S r e => by cases a <;> cases b <;> first | exact ⟨_, _, rfl, rfl⟩ | cases e) (fun i a lo hi H Q h q => ⟨i, a, lo, hi, rfl, rfl, h, q⟩) z2
end
/-! ### index -/
theorem idxS_spec {x : List Nat} : ∀ {ys : List D} {ss : List (List Nat)} {i j : Nat}, strsOf ys = some ss → idxS x ys i = some j → ∃ k, j = i + k ∧ ss[k]? = some x ∧ ∀ m, m < k → ss[m]? ≠ some x
  | [], ss, i, j, _, h => by cases h
  | .str y :: r, ss, i, j, e, h => by
    obtain ⟨ss', e1, rfl⟩ := Option.map_eq_some_iff.mp (show (strsOf r).map (y :: ·) = some ss from e)
    unfold idxS at h
    split at h
    · rename_i q
      cases h
      subst q
      exact ⟨0, rfl, rfl, fun m z => absurd z (Nat.not_lt_zero m)⟩
    · rename_i q
      obtain ⟨k, h1, h2, h3⟩ := idxS_spec e1 h
      refine ⟨k + 1, by omega, by simpa using h2, fun m hm z => ?_⟩
      cases m with
      | zero => exact q (by simpa using z)
      | succ m => exact h3 m (by omega) (by simpa using z)
  | .non :: _, ss, i, j, e, _ => by cases e
  | .bl _ :: _, ss, i, j, e, _ => by cases e
  | .int _ :: _, ss, i, j, e, _ => by cases e
  | .tup _ :: _, ss, i, j, e, _ => by cases e
  | .ref _ :: _, ss, i, j, e, _ => by cases e
  | .exn _ _ :: _, ss, i, j, e, _ => by cases e
  | .lam _ _ :: _, ss, i, j, e, _ => by cases e
theorem m_tindex (hK : G.K = X.K) : MtR X "tuple.index" (rMt G mIndex) := by
  intro pins s σ H x xs v us Q I rx rs ⟨m, S, d, as, sim, rd, ra, p⟩
  unfold mIndex at p
  split at p
  · rename_i ys l
    obtain ⟨q, vs, rfl, hq, hv⟩ := rd.tup_
    obtain ⟨w, rfl, rw'⟩ := ra.one_
    cases rw'.str_
    split at p
    · rename_i ss j e1 e2
      obtain ⟨k, rfl, h1, h2⟩ := idxS_spec e1 e2
      rw [Nat.zero_add] at p
      have ev := strs_of e1 hv
      subst ev
      have inj : ∀ a b : List Nat, (⟨a.toArray⟩ : Str) = ⟨b.toArray⟩ → a = b := fun a b z => by
        have := congrArg (fun s : Str => s.cps.toList) z
        simpa using this
      refine mt_tup_index pins s σ H _ _ v us Q I rx rs ⟨q, ss.map fun s => ⟨s.toArray⟩, ⟨l.toArray⟩, k, rfl, rfl, hK ▸ hq, by rw [List.getElem?_map, h1]; rfl, fun m hm z => ?_, fin_val sim (.int _) p⟩
      rw [List.getElem?_map] at z
      obtain ⟨t, h3, h4⟩ := Option.map_eq_some_iff.mp z
      exact h2 m hm (by rw [h3, inj _ _ h4])
    · exact p.elim
  · exact p.elim
/-- t.index(x), t a tuple of texts that the top keeps -/
def opTIdx (ys : List D) (x : D) : P D := mIndex (.tup ys) [x]
theorem r_tidx {x : Str} {p : Addr} {ys : List D} {e : Expr} {a : ME} {q apos cpos : Pos} (c : Ctx0 G X) (hg : Gl X x) (hm : X.mg x = some (.ref p)) (rd : ∀ m H, RepV G m H (.ref p) (.tup ys)) (hty : ∀ H, tyV X.K "tuple" (.ref p) H) (he : PE X e (tE G W C a))
    (hd : (x == ("__debug__" : Str)) = false := by decide)
    (hbase : attributeBase (.Name x q) "index" X.env (eval (.Name x q) X.env) = eval (.Name x q) X.env := by rfl)
    (hfew : ((backTo cpos (starEach [e] X.env)).all (fun x => !x.1) && (backToKw cpos (keywordEach [] X.env)).all (fun x => x.1.isSome)
      && decide (([e] : List Expr).length + ([] : List Keyword).length + (if ([] : List Keyword).isEmpty then 0 else 1) < 30)) = true := by rfl)
    (hline : (apos.endLine == cpos.line) = true := by rfl) (hs : starEach [e] X.env = (false, eval e X.env) :: starEach [] X.env := by rfl) (hplain : (backTo cpos (starEach [] X.env)).any (·.1) = false := by rfl) :
    PE X (.Call (.Attribute (.Name x q) "index" apos) [e] [] cpos) (tE G W C (e1 (opTIdx ys) a)) :=
  PE.weak (pe_bm PySem.F.plainAttrs_tuple PySem.F.slot_tuple_index PySem.F.type_tuple_index (m_tindex c.hK) (pe_glob (v := .ref p) hg hm rfl hd) (pa_cons he pa_nil hs) hbase hfew hline hs hplain) fun σ H Q h =>
    ⟨hty H, tX.imp (w1 (Rp := RepV G) (f := opTIdx ys) h) fun v H1 ⟨m, S, d, sim, r, p⟩ => ⟨m, S, .tup ys, [d], sim, rd m H1, .cons r .nil, p⟩⟩
/-- s.index(c), s a written text, c a sign -/
def mSIndex : D → List D → P D
  | .str s, [.str [c]] => fun S => match findC c s 0 with
    | some j => some (.int (j : Nat), S)
    | none => none
  | _, _ => P.bad
theorem occ_of (s : List Nat) (c j : Nat) (h : findC c s 0 = some j) : ∃ rest, Builtin.Str.occurrences ⟨s.toArray⟩ ⟨#[c]⟩ 0 (⟨s.toArray⟩ : Str).length 1 = j :: rest := by
  have e := find_eq s c 0 (Int.le_refl _)
  rw [show (0 : Int).toNat = 0 from rfl, List.drop_zero, h] at e
  have z : Txt.find3 ⟨s.toArray⟩ ⟨#[c]⟩ 0 = (match Builtin.Str.occurrences ⟨s.toArray⟩ ⟨#[c]⟩ 0 (⟨s.toArray⟩ : Str).length 1 with
    | k :: _ => (k : Int)
    | [] => -1) := by
    show (match Builtin.Str.occurrences ⟨s.toArray⟩ ⟨#[c]⟩ (PySem.fromIndex _ 0) _ 1 with
      | k :: _ => (k : Int)
      | [] => -1) = _
    have e0 : PySem.fromIndex (⟨s.toArray⟩ : Str).length 0 = 0 := by unfold PySem.fromIndex; rw [if_neg (by omega)]; omega
    rw [e0]
  rw [z] at e
  cases q : Builtin.Str.occurrences ⟨s.toArray⟩ ⟨#[c]⟩ 0 (⟨s.toArray⟩ : Str).length 1 with
  | nil => rw [q] at e; simp at e
  | cons k rest =>
    rw [q] at e
    have : k = j := Int.ofNat_inj.mp e
    exact ⟨rest, by rw [this]⟩
theorem m_sindex : MtR X "str.index" (rMt G mSIndex) := by
  intro pins s σ H x xs v us Q I rx rs ⟨m, S, d, as, sim, rd, ra, p⟩
  unfold mSIndex at p
  split at p
  · rename_i l c
    cases rd.str_
    obtain ⟨w, rfl, rw'⟩ := ra.one_
    cases rw'.str_
    split at p
    · rename_i j e
      obtain ⟨rest, e2⟩ := occ_of l c j e
      exact mt_sindex pins s σ H _ _ v us Q I rx rs ⟨⟨l.toArray⟩, ⟨#[c]⟩, j, rest, rfl, rfl, e2, fin_val sim (.int _) p⟩
    · exact p.elim
  · exact p.elim
theorem s_par3 {i j l : Nat} {x y z : Str} {a b d : Expr} {ea eb ed : ME} {px py pz pt : Pos} {kt k2 pt2} {pos : Pos} (c : Ctx G X W) (hi : X.N[i]? = some x) (hj : X.N[j]? = some y) (hl : X.N[l]? = some z) (hij : i ≠ j) (hil : i ≠ l) (hjl : j ≠ l)
    (hx : X.env.scope.names.lookup x = some .local) (hy : X.env.scope.names.lookup y = some .local) (hz : X.env.scope.names.lookup z = some .local) (ha : PE X a (tE G W C ea)) (hb : PE X b (tE G W C eb)) (hd : PE X d (tE G W C ed))
    (hw : swappedStores [.Tuple [.Name x px, .Name y py, .Name z pz] kt pt] (.Tuple [a, b, d] k2 pt2) X.env = pure (some [x, y, z]))
    (hs : swapsWithSole [.Tuple [.Name x px, .Name y py, .Name z pz] kt pt] (.Tuple [a, b, d] k2 pt2) pos.line X.env = pure false := by rfl)
    (h1 : starEach [a, b, d] X.env = (false, eval a X.env) :: starEach [b, d] X.env := by rfl) (h2 : starEach [b, d] X.env = (false, eval b X.env) :: starEach [d] X.env := by rfl) (h3 : starEach [d] X.env = (false, eval d X.env) :: starEach [] X.env := by rfl) :
    PS X (.Assign [.Tuple [.Name x px, .Name y py, .Name z pz] kt pt] (.Tuple [a, b, d] k2 pt2) pos) (tS G W C (sPar3 i j l ea eb ed)) :=
  PS.weak (ps_par3 c.calm c.hN hi hj hl hij hil hjl hx hy hz (pa_cons ha (pa_cons hb (pa_cons hd pa_nil h3) h2) h1) hw hs) fun D σ H ⟨m, S, ls, s, r, p⟩ => by
    refine ⟨m, S, ls, s, r, post.imp (lift_post (Ra := RepV G) r p) fun v H1 ⟨m1, S1, d1, e1, s1, r1, ra, p1⟩ => ?_⟩
    refine ⟨m1, S1, ls, s1, r1, post.imp (lift_post (Ra := RepV G) r1 p1) fun w H2 ⟨m2, S2, d2, e2, s2, r2, rb, p2⟩ => ?_⟩
    refine ⟨m2, S2, ls, s2, r2, post.imp (lift_post (Ra := RepV G) r2 p2) fun u H3 ⟨m3, S3, d3, e3, s3, r3, rc, p3⟩ => ?_⟩
    refine ⟨v, w, u, rfl, ?_⟩
    split at p3
    · exact p3 m3 H3 _ Ext.refl s3 (((r3.set (ra.mono (e2.trans e3))).set (rb.mono e3)).set rc)
    · exact p3.elim
end
end MP

/-! MP: what a pure run gives: readings of the combinators (weakest preconditions). Own work. -/
namespace MP

abbrev XP := Nat → Fs → Store → Prop
abbrev X0 : XP := fun _ _ _ => False
/-- the run ends, well (Q) or with an exception (E) -/
def Ok {α : Type} (r : R α) (Q : α → Store → Prop) (E : XP) : Prop := match r with
  | .ok a S => Q a S
  | .ex c fs S => E c fs S
  | .bad => False
def OkP {α : Type} (r : Option (α × Store)) (Q : α → Store → Prop) : Prop := match r with
  | some (a, S) => Q a S
  | none => False
/-- .. of a block -/
structure Pt where
  nx : Slots → Store → Prop
  rt : D → Store → Prop
  bk : Slots → Store → Prop := fun _ _ => False
  ct : Slots → Store → Prop := fun _ _ => False
  ex : Nat → Fs → Slots → Store → Prop := fun _ _ _ _ => False
def OkS (r : SR) (T : Pt) : Prop := match r with
  | .nx σ S => T.nx σ S
  | .rt d S => T.rt d S
  | .bk σ S => T.bk σ S
  | .ct σ S => T.ct σ S
  | .ex c fs σ S => T.ex c fs σ S
  | .bad => False

theorem Ok.mono {α : Type} {r : R α} {Q Q' : α → Store → Prop} {E E' : XP} (h : Ok r Q E) (q : ∀ a S, Q a S → Q' a S) (e : ∀ c fs S, E c fs S → E' c fs S) : Ok r Q' E' := by
  cases r with
  | ok a S => exact q _ _ h
  | ex c fs S => exact e _ _ _ h
  | bad => exact h
theorem Ok.imp {α : Type} {r : R α} {Q Q' : α → Store → Prop} {E : XP} (h : Ok r Q X0) (q : ∀ a S, Q a S → Q' a S) : Ok r Q' E := h.mono q fun _ _ _ z => z.elim
theorem Ok.ok {α : Type} {r : R α} {Q : α → Store → Prop} (h : Ok r Q X0) : ∃ a S, r = .ok a S ∧ Q a S := by
  cases r with
  | ok a S => exact ⟨a, S, rfl, h⟩
  | ex c fs S => exact h.elim
  | bad => exact h.elim
theorem OkS.mono {r : SR} {T T' : Pt} (h : OkS r T) (h1 : ∀ σ S, T.nx σ S → T'.nx σ S) (h2 : ∀ d S, T.rt d S → T'.rt d S) (h3 : ∀ σ S, T.bk σ S → T'.bk σ S) (h4 : ∀ σ S, T.ct σ S → T'.ct σ S) (h5 : ∀ c fs σ S, T.ex c fs σ S → T'.ex c fs σ S) : OkS r T' := by
  cases r with
  | nx σ S => exact h1 _ _ h
  | rt d S => exact h2 _ _ h
  | bk σ S => exact h3 _ _ h
  | ct σ S => exact h4 _ _ h
  | ex c fs σ S => exact h5 _ _ _ _ h
  | bad => exact h

section
variable {α β : Type} {C : Cfg} {σ : Slots} {S : Store} {E : XP} {T : Pt}
@[simp] theorem ok_ok {a : α} {Q} : Ok (.ok a S) Q E = Q a S := id rfl
@[simp] theorem ok_ret {a : α} {Q} : Ok (M.ret a S) Q E = Q a S := id rfl
@[simp] theorem ok_bind {m : M α} {f : α → M β} {Q} : Ok (M.bind m f S) Q E = Ok (m S) (fun a S' => Ok (f a S') Q E) E := by
  unfold M.bind
  cases m S <;> rfl
@[simp] theorem ok_of {p : P α} {Q} : Ok (M.of p S) Q E = OkP (p S) Q := by
  unfold M.of
  cases p S <;> rfl
@[simp] theorem okp_some {a : α} {Q : α → Store → Prop} : OkP (some (a, S)) Q = Q a S := id rfl
@[simp] theorem okp_none {Q : α → Store → Prop} : OkP (none : Option (α × Store)) Q = False := id rfl
@[simp] theorem okp_ret {a : α} {Q : α → Store → Prop} : OkP (P.ret a S) Q = Q a S := id rfl
@[simp] theorem okp_if {c : Prop} [Decidable c] {a : α} {S' : Store} {Q : α → Store → Prop} : OkP (if c then some (a, S') else none) Q = (c ∧ Q a S') := by
  by_cases h : c
  · rw [if_pos h]; simp [h, OkP]
  · rw [if_neg h]; simp [h, OkP]
@[simp] theorem ok_var {i : Nat} {Q} : Ok (eVar i C σ S) Q E = (match σ[i]? with
  | some (some d) => isX d = false ∧ Q d S
  | _ => False) := by
  unfold eVar
  cases σ[i]? with
  | none => rfl
  | some o =>
    cases o with
    | none => rfl
    | some d =>
      simp only
      by_cases h : isX d = true
      · rw [if_pos h]; simp [h, Ok]
      · rw [if_neg h]; simp [h, Ok]
@[simp] theorem isX_non : isX .non = false := id rfl
@[simp] theorem isX_bl {b : Bool} : isX (.bl b) = false := id rfl
@[simp] theorem isX_int {i : Int} : isX (.int i) = false := id rfl
@[simp] theorem isX_str {s : List Nat} : isX (.str s) = false := id rfl
@[simp] theorem isX_tup {xs : List D} : isX (.tup xs) = false := id rfl
@[simp] theorem isX_ref {n : Nat} : isX (.ref n) = false := id rfl
@[simp] theorem ok_c {d : D} {Q} : Ok (eC d C σ S) Q E = Q d S := id rfl
@[simp] theorem ok_nil {Q} : Ok (aNil C σ S) Q E = Q [] S := id rfl
@[simp] theorem ok_cons {a : ME} {r : MA} {Q} : Ok (aCons a r C σ S) Q E = Ok (a C σ S) (fun x S1 => Ok (r C σ S1) (fun xs S2 => Q (x :: xs) S2) E) E := by
  show Ok (M.bind _ _ S) Q E = _
  rw [ok_bind]
  congr 1; funext x S1
  rw [ok_bind]; rfl
@[simp] theorem ok_tup {a : MA} {Q} : Ok (eTup a C σ S) Q E = Ok (a C σ S) (fun xs S1 => xs.length ≤ line ∧ Q (.tup xs) S1) E := by
  show Ok (M.bind _ _ S) Q E = _
  rw [ok_bind]
  congr 1; funext xs S1
  rw [ok_of]; unfold mkT; rw [okp_if]
@[simp] theorem ok_lst {a : MA} {Q} : Ok (eLst a C σ S) Q E = Ok (a C σ S) (fun xs S1 => xs.length ≤ line ∧ Q (.ref S1.size) (S1.push (.lst xs))) E := by
  show Ok (M.bind _ _ S) Q E = _
  rw [ok_bind]
  congr 1; funext xs S1
  rw [ok_of]; unfold mkL; rw [okp_if]
@[simp] theorem ok_e2 {f : D → D → P D} {a b : ME} {Q} : Ok (e2 f a b C σ S) Q E = Ok (a C σ S) (fun x S1 => Ok (b C σ S1) (fun y S2 => OkP (f x y S2) Q) E) E := by
  show Ok (M.bind _ _ S) Q E = _
  rw [ok_bind]
  congr 1; funext x S1
  rw [ok_bind]
  congr 1; funext y S2
  rw [ok_of]
@[simp] theorem ok_e1 {f : D → P D} {a : ME} {Q} : Ok (e1 f a C σ S) Q E = Ok (a C σ S) (fun x S1 => OkP (f x S1) Q) E := by
  show Ok (M.bind _ _ S) Q E = _
  rw [ok_bind]
  congr 1; funext x S1
  rw [ok_of]
@[simp] theorem ok_B {f : List D → P D} {a : MA} {Q} : Ok (eB f a C σ S) Q E = Ok (a C σ S) (fun xs S1 => OkP (f xs S1) Q) E := by
  show Ok (M.bind _ _ S) Q E = _
  rw [ok_bind]
  congr 1; funext x S1
  rw [ok_of]
@[simp] theorem ok_BM {ty : D → Store → Bool} {f : D → List D → P D} {o : ME} {a : MA} {Q} : Ok (eBM ty f o a C σ S) Q E = Ok (o C σ S) (fun x S1 => ty x S1 = true ∧ Ok (a C σ S1) (fun xs S2 => OkP (f x xs S2) Q) E) E := by
  show Ok (M.bind _ _ S) Q E = _
  rw [ok_bind]
  congr 1; funext x S1
  by_cases h : ty x S1 = true
  · simp only [h, if_true, true_and]
    rw [ok_bind]
    congr 1; funext y S2
    rw [ok_of]
  · simp [h, Ok]
@[simp] theorem ok_call {f : Nat} {a : MA} {dd : List D} {Q} : Ok (eCall f a dd C σ S) Q E = Ok (a C σ S) (fun xs S1 => Ok (C.call f (xs ++ dd) S1) Q E) E := by
  show Ok (M.bind _ _ S) Q E = _
  rw [ok_bind]
@[simp] theorem ok_if {t : MT} {a b : ME} {Q} : Ok (eIf t a b C σ S) Q E = Ok (t C σ S) (fun c S1 => if c = true then Ok (a C σ S1) Q E else Ok (b C σ S1) Q E) E := by
  show Ok (M.bind _ _ S) Q E = _
  rw [ok_bind]
  congr 1; funext c S1
  cases c <;> rfl
@[simp] theorem okp_asB {x : D} {Q : Bool → Store → Prop} : OkP (asB x S) Q = ∃ b, x = .bl b ∧ Q b S := by
  cases x with
  | bl b =>
    refine propext ⟨fun h => ⟨b, rfl, h⟩, fun ⟨b', e, h⟩ => ?_⟩
    cases e; exact h
  | _ => refine propext ⟨fun h => h.elim, fun ⟨_, e, _⟩ => nomatch e⟩
@[simp] theorem ok_tB {a : ME} {Q} : Ok (tB a C σ S) Q E = Ok (a C σ S) (fun x S1 => ∃ b, x = .bl b ∧ Q b S1) E := by
  show Ok (M.bind _ _ S) Q E = _
  rw [ok_bind]
  congr 1; funext x S1
  rw [ok_of, okp_asB]
@[simp] theorem ok_tV {a : ME} {Q} : Ok (tV a C σ S) Q E = Ok (a C σ S) (fun x S1 => ∃ b, truth S1 x = some b ∧ Q b S1) E := by
  show Ok (M.bind _ _ S) Q E = _
  rw [ok_bind]
  congr 1; funext x S1
  rw [ok_of]; unfold truthP
  cases truth S1 x <;> simp [OkP]
@[simp] theorem ok_tNot {t : MT} {Q} : Ok (tNot t C σ S) Q E = Ok (t C σ S) (fun b S1 => Q (!b) S1) E := by
  show Ok (M.bind _ _ S) Q E = _
  rw [ok_bind]; rfl
@[simp] theorem ok_tAnd {t u : MT} {Q} : Ok (tAnd t u C σ S) Q E = Ok (t C σ S) (fun b S1 => if b = true then Ok (u C σ S1) Q E else Q false S1) E := by
  show Ok (M.bind _ _ S) Q E = _
  rw [ok_bind]
  congr 1; funext c S1
  cases c <;> rfl
@[simp] theorem ok_tOr {t u : MT} {Q} : Ok (tOr t u C σ S) Q E = Ok (t C σ S) (fun b S1 => if b = true then Q true S1 else Ok (u C σ S1) Q E) E := by
  show Ok (M.bind _ _ S) Q E = _
  rw [ok_bind]
  congr 1; funext c S1
  cases c <;> rfl
@[simp] theorem ok_yes {Q} : Ok (tYes C σ S) Q E = Q true S := id rfl
@[simp] theorem ok_pn {Q : Option Int → Store → Prop} : Ok (pNone C σ S) Q E = Q none S := id rfl
@[simp] theorem okp_asI {x : D} {Q : Option Int → Store → Prop} : OkP (asI x S) Q = ∃ i, x = .int i ∧ Q (some i) S := by
  cases x with
  | int b =>
    refine propext ⟨fun h => ⟨b, rfl, h⟩, fun ⟨b', e, h⟩ => ?_⟩
    cases e; exact h
  | _ => refine propext ⟨fun h => h.elim, fun ⟨_, e, _⟩ => nomatch e⟩
@[simp] theorem ok_ps {a : ME} {Q : Option Int → Store → Prop} : Ok (pSome a C σ S) Q E = Ok (a C σ S) (fun x S1 => ∃ i, x = .int i ∧ Q (some i) S1) E := by
  show Ok (M.bind _ _ S) Q E = _
  rw [ok_bind]
  congr 1; funext x S1
  rw [ok_of, okp_asI]
@[simp] theorem ok_cut {a : ME} {lo hi : Cfg → Slots → M (Option Int)} {Q} : Ok (eCut a lo hi C σ S) Q E = Ok (a C σ S) (fun x S1 => Ok (lo C σ S1) (fun l S2 => Ok (hi C σ S2) (fun h S3 => OkP (opCut x l h S3) Q) E) E) E := by
  show Ok (M.bind _ _ S) Q E = _
  rw [ok_bind]
  congr 1; funext x S1
  rw [ok_bind]
  congr 1; funext l S2
  rw [ok_bind]
  congr 1; funext h S3
  rw [ok_of]
@[simp] theorem ok_i1 {f : D → P It} {a : ME} {Q} : Ok (i1 f a C σ S) Q E = Ok (a C σ S) (fun x S1 => OkP (f x S1) Q) E := by
  show Ok (M.bind _ _ S) Q E = _
  rw [ok_bind]
  congr 1; funext x S1
  rw [ok_of]
@[simp] theorem ok_i2 {f : D → D → P It} {a b : ME} {Q} : Ok (i2 f a b C σ S) Q E = Ok (a C σ S) (fun x S1 => Ok (b C σ S1) (fun y S2 => OkP (f x y S2) Q) E) E := by
  show Ok (M.bind _ _ S) Q E = _
  rw [ok_bind]
  congr 1; funext x S1
  rw [ok_bind]
  congr 1; funext y S2
  rw [ok_of]

/-! ### statements -/
/-- an expression's exceptions, at the slots -/
abbrev Pt.xe (T : Pt) (σ : Slots) : XP := fun c fs S => T.ex c fs σ S
theorem oks_lift {m : M α} {k : α → Store → SR} : OkS (lift m σ S k) T = Ok (m S) (fun a S' => OkS (k a S') T) (T.xe σ) := by
  unfold lift
  cases m S <;> rfl
theorem oks_pass : OkS (sPass C σ S) T = T.nx σ S := id rfl
theorem oks_break : OkS (sBreak C σ S) T = T.bk σ S := id rfl
theorem oks_cont : OkS (sCont C σ S) T = T.ct σ S := id rfl
theorem oks_retN : OkS (sRetN C σ S) T = T.rt .non S := id rfl
theorem oks_seq {a b : MS} : OkS (sSeq a b C σ S) T = OkS (a C σ S) { T with nx := fun σ' S' => OkS (b C σ' S') T } := by
  unfold sSeq
  cases a C σ S <;> rfl
theorem oks_ret {a : ME} : OkS (sRet a C σ S) T = Ok (a C σ S) T.rt (T.xe σ) := by
  unfold sRet; rw [oks_lift]; rfl
theorem oks_expr {a : ME} : OkS (sExpr a C σ S) T = Ok (a C σ S) (fun _ S' => T.nx σ S') (T.xe σ) := by
  unfold sExpr; rw [oks_lift]; rfl
theorem oks_if {t : MT} {a b : MS} : OkS (sIf t a b C σ S) T = Ok (t C σ S) (fun c S' => if c = true then OkS (a C σ S') T else OkS (b C σ S') T) (T.xe σ) := by
  unfold sIf; rw [oks_lift]
  congr 1; funext c S1
  cases c <;> rfl
theorem oks_set {t : Tg} {a : ME} : OkS (sSet t a C σ S) T = Ok (a C σ S) (fun x S' => ∃ σ', asg S' t x σ = some σ' ∧ T.nx σ' S') (T.xe σ) := by
  unfold sSet; rw [oks_lift]
  congr 1; funext x S1
  cases asg S1 t x σ <;> simp [OkS]
theorem oks_item {o i v : ME} : OkS (sItem o i v C σ S) T = Ok (v C σ S) (fun y S1 => Ok (o C σ S1) (fun x S2 => Ok (i C σ S2) (fun k S3 => OkP (putItem x k y S3) fun _ S4 => T.nx σ S4) (T.xe σ)) (T.xe σ)) (T.xe σ) := by
  unfold sItem; rw [oks_lift]
  congr 1; funext y S1
  rw [oks_lift]
  congr 1; funext x S2
  rw [oks_lift]
  congr 1; funext k S3
  rw [oks_lift, ok_of]; rfl
theorem oks_aug {i : Nat} {op : D → D → P D} {v : ME} : OkS (sAug i op v C σ S) T = Ok (eVar i C σ S) (fun old S1 => Ok (v C σ S1) (fun y S2 => OkP (op old y S2) fun z S3 => i < σ.length ∧ T.nx (σ.set i (some z)) S3) (T.xe σ)) (T.xe σ) := by
  unfold sAug; rw [oks_lift]
  congr 1; funext y S1
  rw [oks_lift]
  congr 1; funext x S2
  rw [oks_lift, ok_of]
  congr 1; funext z S3
  by_cases h : i < σ.length
  · rw [if_pos h]; simp [h, OkS]
  · rw [if_neg h]; simp [h, OkS]
theorem oks_par {i j : Nat} {a b : ME} : OkS (sPar i j a b C σ S) T = Ok (a C σ S) (fun x S1 => Ok (b C σ S1) (fun y S2 => (i < σ.length ∧ j < σ.length) ∧ T.nx ((σ.set i (some x)).set j (some y)) S2) (T.xe σ)) (T.xe σ) := by
  unfold sPar; rw [oks_lift]
  congr 1; funext y S1
  rw [oks_lift]
  congr 1; funext x S2
  by_cases h : i < σ.length ∧ j < σ.length
  · rw [if_pos h]; simp [h, OkS]
  · rw [if_neg h]; simp [h, OkS]
@[simp] theorem asg_nm {i : Nat} {d : D} : asg S (.nm i) d σ = if i < σ.length then some (σ.set i (some d)) else none := by
  unfold asg; rfl

/-! ### loops -/
theorem oks_for {g : Tg} {t : MI} {b : MS} : OkS (sFor g t b C σ S) T = Ok (t C σ S) (fun i S1 => OkS (forN i g b C turns 0 σ S1) T) (T.xe σ) := by
  unfold sFor; rw [oks_lift]
/-- an invariant by the turn; at most B turns -/
theorem for_inv {it : It} {g : Tg} {b : MS} (B : Nat) (I : Nat → Slots → Store → Prop)
    (step : ∀ i σ S, I i σ S → (i ≤ B ∧ it.next S i = some none ∧ T.nx σ S) ∨ ∃ d σ1, i < B ∧ it.next S i = some (some d) ∧ asg S g d σ = some σ1 ∧
      OkS (b C σ1 S) { nx := I (i + 1), rt := T.rt, bk := T.nx, ct := I (i + 1), ex := T.ex }) :
    ∀ n i σ S, I i σ S → B < i + n → OkS (forN it g b C n i σ S) T
  | 0, i, σ, S, hI, hn => by
    rcases step i σ S hI with ⟨hb, h1, h2⟩ | ⟨d, σ1, h1, _⟩
    · exfalso; omega
    · exfalso; omega
  | n + 1, i, σ, S, hI, hn => by
    unfold forN
    rcases step i σ S hI with ⟨hb, h1, h2⟩ | ⟨d, σ1, h1, h2, h3, h4⟩
    · rw [h1]; exact h2
    · rw [h2]
      simp only
      rw [h3]
      simp only
      cases e : b C σ1 S with
      | nx σ' S' => rw [e] at h4; exact for_inv B I step n (i + 1) σ' S' h4 (by omega)
      | ct σ' S' => rw [e] at h4; exact for_inv B I step n (i + 1) σ' S' h4 (by omega)
      | bk σ' S' => rw [e] at h4; exact h4
      | rt d S' => rw [e] at h4; exact h4
      | ex c fs σ' S' => rw [e] at h4; exact h4
      | bad => rw [e] at h4; exact h4
/-- over written items -/
theorem for_seq {xs : List D} {g : Tg} {b : MS} (hl : xs.length < turns) (I : Nat → Slots → Store → Prop) (h0 : I 0 σ S)
    (step : ∀ i d σ S, xs[i]? = some d → I i σ S → ∃ σ1, asg S g d σ = some σ1 ∧ OkS (b C σ1 S) { nx := I (i + 1), rt := T.rt, bk := T.nx, ct := I (i + 1), ex := T.ex })
    (done : ∀ σ S, I xs.length σ S → T.nx σ S) : OkS (forN (.seq xs) g b C turns 0 σ S) T := by
  refine for_inv xs.length (fun i σ S => i ≤ xs.length ∧ I i σ S) (fun i σ S ⟨hi, h⟩ => ?_) turns 0 σ S ⟨Nat.zero_le _, h0⟩ (by omega)
  by_cases e : i < xs.length
  · obtain ⟨σ1, h1, h2⟩ := step i xs[i] σ S (List.getElem?_eq_getElem e) h
    refine .inr ⟨xs[i], σ1, e, ?_, h1, ?_⟩
    · unfold It.next; rw [List.getElem?_eq_getElem e]
    · exact h2.mono (fun σ S z => ⟨e, z⟩) (fun _ _ z => z) (fun _ _ z => z) (fun σ S z => ⟨e, z⟩) fun _ _ _ _ z => z
  · have e' : i = xs.length := by omega
    subst e'
    refine .inl ⟨Nat.le_refl _, ?_, done σ S h⟩
    unfold It.next; rw [List.getElem?_eq_none (Nat.le_refl _)]
/-- a comprehension's loop -/
theorem comp_inv {it : It} {g : Tg} {t : MT} {f : Slots → M Unit} {Q : Store → Prop} (B : Nat) (I : Nat → Store → Prop)
    (step : ∀ i S, I i S → (i ≤ B ∧ it.next S i = some none ∧ Q S) ∨ ∃ d σ1, i < B ∧ it.next S i = some (some d) ∧ asg S g d σ = some σ1 ∧
      Ok (t C σ1 S) (fun c S1 => if c = true then Ok (f σ1 S1) (fun _ S2 => I (i + 1) S2) X0 else I (i + 1) S1) X0) :
    ∀ n i S, I i S → B < i + n → Ok (compN it g t f C σ n i S) (fun _ S' => Q S') X0
  | 0, i, S, hI, hn => by
    rcases step i S hI with ⟨hb, h1, h2⟩ | ⟨d, σ1, h1, _⟩
    · exfalso; omega
    · exfalso; omega
  | n + 1, i, S, hI, hn => by
    unfold compN
    rcases step i S hI with ⟨hb, h1, h2⟩ | ⟨d, σ1, h1, h2, h3, h4⟩
    · rw [h1]; exact h2
    · rw [h2]
      simp only
      rw [h3]
      simp only
      cases e : t C σ1 S with
      | bad => rw [e] at h4; exact h4
      | ex c fs S' => rw [e] at h4; exact h4
      | ok c S1 =>
        rw [e] at h4
        cases c with
        | false => exact comp_inv B I step n (i + 1) S1 h4 (by omega)
        | true =>
          have h5 : Ok (f σ1 S1) (fun _ S2 => I (i + 1) S2) X0 := h4
          simp only
          cases e2 : f σ1 S1 with
          | bad => rw [e2] at h5; exact h5
          | ex c fs S' => rw [e2] at h5; exact h5
          | ok u S2 => rw [e2] at h5; exact comp_inv B I step n (i + 1) S2 h5 (by omega)
theorem ok_emit {e : ME} {n : Nat} {Q : Store → Prop} : Ok (emit e n C σ S) (fun _ S' => Q S') X0 = Ok (e C σ S) (fun d S1 => ∃ acc, S1.get n = some (.lst acc) ∧ acc.length < line ∧ Q (S1.set n (.lst (acc ++ [d])))) X0 := by
  unfold emit
  cases e C σ S with
  | bad => rfl
  | ex c fs S' => rfl
  | ok d S1 =>
    show Ok (match S1.get n with
      | some (.lst acc) => if acc.length < line then .ok () (S1.set n (.lst (acc ++ [d]))) else .bad
      | _ => .bad) _ _ = ∃ acc, S1.get n = some (.lst acc) ∧ acc.length < line ∧ Q (S1.set n (.lst (acc ++ [d])))
    cases S1.get n with
    | none => simp [Ok]
    | some o =>
      cases o with
      | lst acc =>
        by_cases h : acc.length < line
        · simp [h, Ok]
        · simp [h, Ok]
      | _ => simp [Ok]
/-- [e for g in t if c] -/
theorem ok_lc {e : ME} {g : Tg} {t : MI} {c : MT} {own : List Nat} {Q} : Ok (eLc e g t c own C σ S) Q E =
    Ok (t C σ S) (fun i S1 => Ok (compN i g c (emit e S1.size C) C (wipe σ own) turns 0 (S1.push (.lst []))) (fun _ S2 => Q (.ref S1.size) S2) X0) E := by
  show Ok (M.bind _ _ S) Q E = _
  rw [ok_bind]
  congr 1; funext i S1
  cases compN i g c (emit e S1.size C) C (wipe σ own) turns 0 (S1.push (.lst [])) <;> rfl
/-- .. over written items: an invariant by the turn and what is gathered -/
theorem lc_seq {e : ME} {g : Tg} {c : MT} {xs : List D} {Q : Store → Prop} (hl : xs.length < turns) (I : Nat → List D → Store → Prop) (h0 : I 0 [] (S.push (.lst [])))
    (at_ : ∀ i acc S', I i acc S' → S'.get S.size = some (.lst acc))
    (step : ∀ i d acc S', xs[i]? = some d → acc.length ≤ i → I i acc S' → ∃ σ1, asg S' g d σ = some σ1 ∧ Ok (c C σ1 S') (fun b S1 => if b = true then
      Ok (e C σ1 S1) (fun y S2 => S2.get S.size = some (.lst acc) ∧ I (i + 1) (acc ++ [y]) (S2.set S.size (.lst (acc ++ [y])))) X0 else I (i + 1) acc S1) X0) (hz : xs.length ≤ line)
    (done : ∀ acc S', acc.length ≤ xs.length → I xs.length acc S' → Q S') :
    Ok (compN (.seq xs) g c (emit e S.size C) C σ turns 0 (S.push (.lst []))) (fun _ S2 => Q S2) X0 := by
  refine comp_inv xs.length (fun i S' => ∃ acc, i ≤ xs.length ∧ acc.length ≤ i ∧ I i acc S') (fun i S' ⟨acc, hi, ha, h⟩ => ?_) turns 0 _ ⟨[], Nat.zero_le _, Nat.le_refl _, h0⟩ (by omega)
  by_cases e1 : i < xs.length
  · obtain ⟨σ1, h1, h2⟩ := step i xs[i] acc S' (List.getElem?_eq_getElem e1) ha h
    refine .inr ⟨xs[i], σ1, e1, ?_, h1, ?_⟩
    · unfold It.next; rw [List.getElem?_eq_getElem e1]
    · refine h2.mono (fun b S1 z => ?_) fun _ _ _ z => z
      cases b with
      | false => exact ⟨acc, e1, by omega, z⟩
      | true =>
        simp only [if_true] at z ⊢
        rw [ok_emit]
        refine z.mono (fun y S2 ⟨z1, z2⟩ => ⟨acc, z1, by omega, acc ++ [y], e1, ?_, z2⟩) fun _ _ _ z => z
        rw [List.length_append, List.length_singleton]; omega
  · have e' : i = xs.length := by omega
    subst e'
    refine .inl ⟨Nat.le_refl _, ?_, done acc S' ha h⟩
    unfold It.next; rw [List.getElem?_eq_none (Nat.le_refl _)]
theorem oks_while {t : MT} {b : MS} : OkS (sWhile t b C σ S) T = OkS (whileN t b C turns σ S) T := id rfl
theorem while_inv {t : MT} {b : MS} (I : Nat → Slots → Store → Prop)
    (step : ∀ m σ S, I m σ S → Ok (t C σ S) (fun c S1 => if c = true then OkS (b C σ S1) { nx := fun σ' S' => ∃ m', m' < m ∧ I m' σ' S', rt := T.rt, bk := T.nx, ct := fun σ' S' => ∃ m', m' < m ∧ I m' σ' S', ex := T.ex } else T.nx σ S1) (T.xe σ)) :
    ∀ n m σ S, I m σ S → m < n → OkS (whileN t b C n σ S) T
  | 0, m, σ, S, hI, hn => absurd hn (Nat.not_lt_zero _)
  | n + 1, m, σ, S, hI, hn => by
    unfold whileN
    rw [oks_lift]
    refine (step m σ S hI).mono (fun c S1 z => ?_) fun _ _ _ z => z
    cases c with
    | false => exact z
    | true =>
      simp only [if_true] at z ⊢
      cases e : b C σ S1 with
      | nx σ' S' =>
        rw [e] at z
        obtain ⟨m', h1, h2⟩ := z
        exact while_inv I step n m' σ' S' h2 (by omega)
      | ct σ' S' =>
        rw [e] at z
        obtain ⟨m', h1, h2⟩ := z
        exact while_inv I step n m' σ' S' h2 (by omega)
      | bk σ' S' => rw [e] at z; exact z
      | rt d S' => rw [e] at z; exact z
      | ex c fs σ' S' => rw [e] at z; exact z
      | bad => rw [e] at z; exact z
/-- a function's body -/
theorem ok_run {F : Fn} {as : List D} {Q} : Ok (runFn F C as S) Q E = (as.length = F.ar ∧ OkS (F.body C (enter F as) S) { nx := fun _ S' => Q .non S', rt := Q, ex := fun c fs _ S' => E c fs S' }) := by
  unfold runFn
  by_cases h : as.length = F.ar
  · rw [if_pos h]
    cases F.body C (enter F as) S <;> simp [h, Ok, OkS]
  · rw [if_neg h]; simp [h, Ok]
theorem callN_succ {tb : List Fn} {n f : Nat} {as : List D} {F : Fn} (h : tb[f]? = some F) : callN tb (n + 1) f as = runFn F ⟨callN tb n⟩ as := by
  show (match tb[f]? with
    | some F => runFn F ⟨callN tb n⟩ as
    | none => M.bad) = _
  rw [h]
end

/-! ### what stays of a store -/
structure Keep (S S' : Store) (ex : List Nat) : Prop where
  le : S.size ≤ S'.size
  same : ∀ k, k < S.size → k ∉ ex → S'.get k = S.get k
theorem Keep.refl {S ex} : Keep S S ex := ⟨Nat.le_refl _, fun _ _ _ => rfl⟩
theorem Keep.trans {S S1 S2 ex} (a : Keep S S1 ex) (b : Keep S1 S2 ex) : Keep S S2 ex :=
  ⟨Nat.le_trans a.le b.le, fun k h n => (b.same k (Nat.lt_of_lt_of_le h a.le) n).trans (a.same k h n)⟩
theorem Keep.push {S ex} (o : Ob) : Keep S (S.push o) ex := ⟨by rw [Store.size_push]; omega, fun k h _ => Store.get_push_lt h⟩
theorem Keep.set {S ex n} (o : Ob) (hn : n < S.size) (h : n ∈ ex) : Keep S (S.set n o) ex :=
  ⟨by rw [Store.size_set]; omega, fun k _ z => Store.get_set_ne o hn fun e => z (e ▸ h)⟩
/-- an object made since is written -/
theorem Keep.set_new {S S' ex n} (k : Keep S S' ex) (o : Ob) (h : S.size ≤ n) (hn : n < S'.size) : Keep S (S'.set n o) ex :=
  ⟨by rw [Store.size_set]; exact k.le, fun j hj z => by rw [Store.get_set_ne o hn (by omega)]; exact k.same j hj z⟩
theorem Keep.get {S S' ex n o} (k : Keep S S' ex) (h : S.get n = some o) (z : n ∉ ex) : S'.get n = some o := by
  rw [k.same n (Store.get_lt h) z]; exact h
theorem Keep.weak {S S' ex ex'} (k : Keep S S' ex) (h : ∀ n ∈ ex, n ∈ ex') : Keep S S' ex' := ⟨k.le, fun j hj z => k.same j hj fun y => z (h j y)⟩
/-- what was kept but for objects made since -/
theorem Keep.drop {S S1 S2 ex n} (a : Keep S S1 ex) (b : Keep S1 S2 (n :: ex)) (h : S.size ≤ n) : Keep S S2 ex :=
  ⟨Nat.le_trans a.le b.le, fun k hk z => (b.same k (Nat.lt_of_lt_of_le hk a.le) (by simp only [List.mem_cons, not_or]; exact ⟨by omega, z⟩)).trans (a.same k hk z)⟩

/-! ### operations, by kinds -/
section
variable {S : Store} {Q : D → Store → Prop} {i j : Int}
@[simp] theorem p_add : OkP (opAdd (.int i) (.int j) S) Q = Q (.int (i + j)) S := id rfl
@[simp] theorem p_sub : OkP (opSub (.int i) (.int j) S) Q = Q (.int (i - j)) S := id rfl
@[simp] theorem p_iadd : OkP (opIAdd (.int i) (.int j) S) Q = Q (.int (i + j)) S := id rfl
@[simp] theorem p_mul : OkP (opMul (.int i) (.int j) S) Q = ((small64 i || small64 j) = true ∧ Q (.int (i * j)) S) := okp_if
@[simp] theorem p_mod : OkP (opMod (.int i) (.int j) S) Q = (j ≠ 0 ∧ Q (.int (i.fmod j)) S) := okp_if
@[simp] theorem p_div : OkP (opDiv (.int i) (.int j) S) Q = ((j ≠ 0 ∧ j.natAbs < 1073741824) ∧ Q (.int (i.fdiv j)) S) := okp_if
@[simp] theorem p_pow : OkP (opPow (.int i) (.int j) S) Q = ((0 ≤ j ∧ j ≤ 1000000 ∧ i.natAbs < 18446744073709551616) ∧ Q (.int (i ^ j.toNat)) S) := okp_if
@[simp] theorem p_neg : OkP (opNeg (.int i) S) Q = Q (.int (-i)) S := id rfl
@[simp] theorem p_lt : OkP (opLt (.int i) (.int j) S) Q = Q (.bl (decide (i < j))) S := id rfl
@[simp] theorem p_gt : OkP (opGt (.int i) (.int j) S) Q = Q (.bl (decide (j < i))) S := id rfl
@[simp] theorem p_le : OkP (opLe (.int i) (.int j) S) Q = Q (.bl (!decide (j < i))) S := id rfl
@[simp] theorem p_ge : OkP (opGe (.int i) (.int j) S) Q = Q (.bl (!decide (i < j))) S := id rfl
@[simp] theorem p_eqI : OkP (opEq (.int i) (.int j) S) Q = Q (.bl (i == j)) S := id rfl
@[simp] theorem p_neI : OkP (opNe (.int i) (.int j) S) Q = Q (.bl (!(i == j))) S := id rfl
@[simp] theorem p_adds {a b : List Nat} : OkP (opAdd (.str a) (.str b) S) Q = (a.length + b.length ≤ line ∧ Q (.str (a ++ b)) S) := okp_if
theorem str_beq (a b : List Nat) : ((⟨a.toArray⟩ : PySem.Str) == ⟨b.toArray⟩) = decide (a = b) := by
  rw [Bool.beq_eq_decide_eq]
  congr 1
  refine propext ⟨fun h => ?_, fun h => by rw [h]⟩
  injection h with h
  simpa using h
theorem eqv_str (a b : List Nat) : PySem.PyData.eqv (.str ⟨a.toArray⟩) (.str ⟨b.toArray⟩) = decide (a = b) := by
  show PySem.PyData.eqv _ _ = _
  rw [← str_beq]
  rfl
@[simp] theorem p_eqs {a b : List Nat} : OkP (opEq (.str a) (.str b) S) Q = Q (.bl (decide (a = b))) S := by
  show OkP (match (some (PySem.PyData.eqv (.str ⟨a.toArray⟩) (.str ⟨b.toArray⟩)) : Option Bool) with
    | some b => some (.bl b, S)
    | none => none) Q = _
  rw [eqv_str]; rfl
@[simp] theorem p_nes {a b : List Nat} : OkP (opNe (.str a) (.str b) S) Q = Q (.bl (!decide (a = b))) S := by
  show OkP (match (some (PySem.PyData.eqv (.str ⟨a.toArray⟩) (.str ⟨b.toArray⟩)) : Option Bool) with
    | some b => some (.bl (!b), S)
    | none => none) Q = _
  rw [eqv_str]; rfl
theorem eqv_bl (a b : Bool) : PySem.PyData.eqv (.bool a) (.bool b) = (a == b) := by cases a <;> cases b <;> rfl
@[simp] theorem p_eqb {a b : Bool} : OkP (opEq (.bl a) (.bl b) S) Q = Q (.bl (a == b)) S := by
  show OkP (match (some (PySem.PyData.eqv (.bool a) (.bool b)) : Option Bool) with
    | some b => some (.bl b, S)
    | none => none) Q = _
  rw [eqv_bl]; rfl
@[simp] theorem p_neb {a b : Bool} : OkP (opNe (.bl a) (.bl b) S) Q = Q (.bl (!(a == b))) S := by
  show OkP (match (some (PySem.PyData.eqv (.bool a) (.bool b)) : Option Bool) with
    | some b => some (.bl (!b), S)
    | none => none) Q = _
  rw [eqv_bl]; rfl
@[simp] theorem p_isN {d : D} : OkP (opIs d .non S) Q = Q (.bl (isNonB d)) S := id rfl
@[simp] theorem p_notN {d : D} : OkP (opIsNot d .non S) Q = Q (.bl (!isNonB d)) S := id rfl
@[simp] theorem p_item {n : Nat} {xs : List D} (h : S.get n = some (.lst xs)) : OkP (opItem (.ref n) (.int i) S) Q = ∃ d, atI xs i = some d ∧ Q d S := by
  unfold opItem getItem
  simp only [h]
  cases atI xs i <;> simp [OkP]
@[simp] theorem p_itemT {xs : List D} : OkP (opItem (.tup xs) (.int i) S) Q = ∃ d, atI xs i = some d ∧ Q d S := by
  unfold opItem getItem
  simp only
  cases atI xs i <;> simp [OkP]
@[simp] theorem p_itemS {l : List Nat} : OkP (opItem (.str l) (.int i) S) Q = ∃ c, (l.length ≤ line ∧ atI l i = some c) ∧ Q (.str [c]) S := by
  unfold opItem getItem
  simp only
  by_cases h : l.length ≤ line
  · rw [if_pos h]
    cases atI l i <;> simp [OkP, h]
  · rw [if_neg h]
    simp [OkP, h]
@[simp] theorem p_put {n : Nat} {xs : List D} {v : D} {Q : Unit → Store → Prop} (h : S.get n = some (.lst xs)) : OkP (putItem (.ref n) (.int i) v S) Q = ∃ j, ixN xs.length i = some j ∧ Q () (S.set n (.lst (xs.set j v))) := by
  unfold putItem
  simp only [h]
  cases ixN xs.length i <;> simp [OkP]
@[simp] theorem p_len {n : Nat} {xs : List D} (h : S.get n = some (.lst xs)) : OkP (bLen [.ref n] S) Q = Q (.int xs.length) S := by
  unfold bLen lenOf
  simp only [h]
  rfl
@[simp] theorem p_lens {l : List Nat} : OkP (bLen [.str l] S) Q = (l.length ≤ line ∧ Q (.int l.length) S) := by
  unfold bLen lenOf
  simp only
  by_cases h : l.length ≤ line
  · rw [if_pos h]; simp [OkP, h]
  · rw [if_neg h]; simp [OkP, h]
@[simp] theorem p_lenT {xs : List D} : OkP (bLen [.tup xs] S) Q = Q (.int xs.length) S := id rfl
@[simp] theorem p_tuple {n : Nat} {xs : List D} (h : S.get n = some (.lst xs)) : OkP (bTuple [.ref n] S) Q = Q (.tup xs) S := by
  unfold bTuple
  simp only [h]
  rfl
@[simp] theorem p_append {n : Nat} {xs : List D} {y : D} (h : S.get n = some (.lst xs)) : OkP (mAppend (.ref n) [y] S) Q = (xs.length < line ∧ Q .non (S.set n (.lst (xs ++ [y])))) := by
  unfold mAppend
  simp only [h]
  exact okp_if
@[simp] theorem p_find {l : List Nat} {c : Nat} : OkP (mFind (.str l) [.str [c], .int i] S) Q = (0 ≤ i ∧ Q (.int (match findC c (l.drop i.toNat) i.toNat with
    | some j => (j : Nat)
    | none => -1)) S) := okp_if
@[simp] theorem p_rg1 {Q : It → Store → Prop} : OkP (rg1 (.int i) S) Q = (okR i = true ∧ Q (.seq (rangeL 0 1 i.toNat)) S) := okp_if
@[simp] theorem p_rg2 {Q : It → Store → Prop} : OkP (rg2 (.int i) (.int j) S) Q = ((okR i && okR j) = true ∧ Q (.seq (rangeL i 1 (j - i).toNat)) S) := okp_if
@[simp] theorem p_itS {l : List Nat} {Q : It → Store → Prop} : OkP (itP (.str l) S) Q = Q (.seq (l.map fun c => .str [c])) S := id rfl
@[simp] theorem p_itT {xs : List D} {Q : It → Store → Prop} : OkP (itP (.tup xs) S) Q = Q (.seq xs) S := id rfl
@[simp] theorem p_itL {n : Nat} {xs : List D} {Q : It → Store → Prop} (h : S.get n = some (.lst xs)) : OkP (itP (.ref n) S) Q = Q (.lst n) S := by
  unfold itP itOf
  simp only [h]
  rfl
@[simp] theorem p_cutS {l : List Nat} {lo hi : Option Int} : OkP (opCut (.str l) lo hi S) Q = (l.length ≤ line ∧ Q (.str (cut l lo hi)) S) := okp_if
theorem p_join {n : Nat} {sep : List Nat} {xs : List D} {ys : List (List Nat)} (h : S.get n = some (.lst xs)) (hy : strsOf xs = some ys) : OkP (mJoin (.str sep) [.ref n] S) Q = ((ys.map fun y => y.length + sep.length).sum ≤ line ∧ Q (.str (joinL sep ys)) S) := by
  unfold mJoin lstAt
  simp only [h, hy]
  exact okp_if
theorem strsOf_map : ∀ ys : List (List Nat), strsOf (ys.map .str) = some ys
  | [] => rfl
  | y :: ys => by
    rw [List.map_cons, strsOf, strsOf_map ys]
    rfl
theorem joinL_nil : ∀ ys : List (List Nat), joinL [] ys = ys.flatten
  | [] => rfl
  | [x] => by simp [joinL]
  | x :: y :: r => by
    rw [joinL, joinL_nil (y :: r)]
    simp
theorem seq_mid {a b : MS} {C : Cfg} {σ : Slots} {T : Pt} (Mid : Slots → Store → Prop) (h1 : OkS (a C σ S) { T with nx := Mid }) (h2 : ∀ σ' S', Mid σ' S' → OkS (b C σ' S') T) : OkS (sSeq a b C σ S) T := by
  rw [oks_seq]
  exact h1.mono h2 (fun _ _ z => z) (fun _ _ z => z) (fun _ _ z => z) fun _ _ _ _ z => z
theorem rangeL_at (c : Int) : ∀ (n : Nat) (lo : Int) (i : Nat) (d : D), (rangeL lo c n)[i]? = some d → d = .int (lo + i * c) ∧ i < n
  | 0, _, _, _, h => by simp [rangeL] at h
  | n + 1, lo, 0, d, h => by
    simp [rangeL] at h
    subst h
    exact ⟨by simp, Nat.succ_pos n⟩
  | n + 1, lo, i + 1, d, h => by
    rw [rangeL, List.getElem?_cons_succ] at h
    obtain ⟨h1, h2⟩ := rangeL_at c n (lo + c) i d h
    refine ⟨?_, by omega⟩
    rw [h1, Int.natCast_add, Int.add_mul]
    congr 1
    omega
theorem rangeL_len (c : Int) : ∀ (n : Nat) (lo : Int), (rangeL lo c n).length = n
  | 0, _ => rfl
  | n + 1, lo => by rw [rangeL, List.length_cons, rangeL_len c n]
end
@[simp] theorem ty_str1 {l : List Nat} {S : Store} : tyStr (.str l) S = true := id rfl
@[simp] theorem non1 : isNonB .non = true := id rfl
@[simp] theorem non2 {b : Bool} : isNonB (.bl b) = false := id rfl
@[simp] theorem non3 {i : Int} : isNonB (.int i) = false := id rfl
@[simp] theorem non4 {l : List Nat} : isNonB (.str l) = false := id rfl
@[simp] theorem non5 {l : List D} : isNonB (.tup l) = false := id rfl
@[simp] theorem non6 {n : Nat} : isNonB (.ref n) = false := id rfl
end MP

/-! MP: sorted with the key lambda s: (len(s), s). Own work. -/
namespace MP
open PySem PySem.Spec PyProof.Rows L2
section
variable {prog : Program} {w : World} {A : Around} {s : Shared}
/-- what is asked of the lambda's own names -/
structure LamN (scope : Scope) (y : Str) : Prop where
  kind : scope.kind = .function
  co : scope.isCoroutine = false
  gen : scope.isGenerator = false
  cell : ∀ x ∈ scope.names, x.2 ≠ .cell
  par : scope.names.lookup y = some .local
  len : scope.names.lookup ("len" : Str) = some .globalImplicit
  free : ∀ x ∈ scope.names, x.2 ≠ .free
def lamNB (scope : Scope) (y : Str) : Bool :=
  decide (scope.kind = .function) && !scope.isCoroutine && !scope.isGenerator && (scope.names.all fun x => !decide (x.2 = .cell)) && decide (scope.names.lookup y = some .local) && decide (scope.names.lookup ("len" : Str) = some .globalImplicit) && (scope.names.all fun x => !decide (x.2 = .free))
theorem lamN_by {scope : Scope} {y : Str} (h : lamNB scope y = true) : LamN scope y := by
  unfold lamNB at h
  simp only [Bool.and_eq_true, Bool.not_eq_true', decide_eq_true_eq, decide_eq_false_iff_not, List.all_eq_true] at h
  obtain ⟨⟨⟨⟨⟨⟨h1, h2⟩, h3⟩, h4⟩, h5⟩, h6⟩, h7⟩ := h
  exact ⟨h1, h2, h3, h4, h5, h6, h7⟩
/-- the body (len(y), y) -/
abbrev lamB (y : Str) (p1 p2 p3 p4 p5 : Pos) (k : Nat) : Expr := .Tuple [.Call (.Name "len" p1) [.Name y p2] [] p3, .Name y p4] k p5
/-- the key's question -/
def keyQ (x : Str) : PyData := .tuple [.int x.length, .str x]
theorem key_turn {f c' : Addr} {qual y x : Str} {t : Tok} {params : Arguments} {scope : Scope} {cl : List (Str × Addr)} {pm ctv : Value} {mg mb : Str → Option Value} {p1 p2 p3 p4 p5 : Pos} {k : Nat}
    (ho : s.heap.get? f = some (PySem.W.kla_obj "<lambda>" qual params (lamB y p1 p2 p3 p4 p5 k) scope cl pm c' ctv)) (hcd : s.heap.CodeRec (.ref c') qual) (hroom : A.depth < recursionLimit) (hlim : s.heap.NoLimit)
    (hg : s.heap.Ns mainGlobals mg) (hb : s.heap.Ns builtinsNs mb) (hm : mg ("len" : Str) = none) (hbl : mb ("len" : Str) = some (.builtin "len")) (hx : x.length ≤ sizeLine) (N : LamN scope y) (hy : (y == ("__debug__" : Str)) = false)
    (hbind : bindArgs (PySem.W.kla_fn "<lambda>" qual params (lamB y p1 p2 p3 p4 p5 k) scope cl pm (.ref c') ctv) ⟨[.str x t], []⟩ = pure [(y, .str x t)]) :
    wpAny (model prog w) A (call (.ref f) [.str x t]) (PySem.W.KeyPure (keyQ x) s) (fun _ _ => False) s := by
  have hn := line63
  refine wpAny_call (PySem.W.kla_callFunE hroom ho rfl N.co N.gen rfl hcd ?_)
  rw [hbind]
  refine wpAny_pure (wpAny_newFunctionEnv N.cell (fun z hz => by rw [List.mem_singleton] at hz; rw [hz]; exact N.par) (fun h₁ hns hsb => ⟨hlim.fresh _ hsb, ?_⟩) N.kind)
  have kp : ∀ b o, s.heap.get? b = some o → h₁.get? b = some o := fun b o e => hsb.extBut b o (Nat.ne_of_lt (Heap.lt_size e)) (Heap.get?_push_of_some _ e)
  refine PySem.W.kla_codeExpr ?_
  refine wpAny_Tuple_spliced ?_
  show wpAny _ _ (spliced [(false, eval (.Call (.Name "len" p1) [.Name y p2] [] p3) _), (false, eval (.Name y p4) _)]) _ _ _
  have hv : ∀ (s1 : Shared) (p : Pos) (Q : Value → Shared → Prop) (E : Value → Shared → Prop), s1.heap = h₁ → Q (.str x t) s1 → wpAny (model prog w) (A.deeper (newEnv scope s.heap.objs.size mainGlobals cl (qual ++ ".<locals>.") (some f) (.ref c') none builtinsNs)) (eval (.Name y p) (newEnv scope s.heap.objs.size mainGlobals cl (qual ++ ".<locals>.") (some f) (.ref c') none builtinsNs)) Q E s1 := by
    intro s1 p Q E e q
    refine wpAny_Name (wpAny_loadName_local (m := fun z => [(y, Value.str x t)].reverse.lookup z) N.kind N.par (by rw [e]; exact hns) ?_ q) hy
    show [(y, Value.str x t)].lookup y = _
    simp [List.lookup]
  refine Calls.spliced_cons ?_
  refine wpAny_Call_Name_kw ?_
  refine Calls.Name_function_global N.kind N.len (Calls.loadGlobal_builtin (hg.keeps kp) hm (hb.keeps kp) hbl ?_) rfl
  refine PyProof.Rows.callWith_builtin1 ?_ rfl rfl
  refine Calls.spliced_cons ?_
  refine hv _ _ _ _ rfl (Calls.spliced_nil ?_)
  refine len_str (by omega) ?_
  refine Calls.spliced_cons (hv _ _ _ _ rfl (Calls.spliced_nil ?_))
  refine ⟨by rw [sizeLine_eq]; simp, ?_⟩
  refine ⟨_, _, rfl, fun b o e => Heap.get?_push_of_some _ (kp b o e), ?_⟩
  exact .tuple (as := [] ++ ([] ++ [])) (Heap.get?_push_size _ rfl) rfl rfl (.cons (.int _ _) (.cons (.str _ _) .nil))
end
/-- by length, then by alphabet -/
def sortLen (ss : List (List Nat)) : List (List Nat) := ss.mergeSort (PySem.W.dataLe false fun s => keyQ ⟨s.toArray⟩)
def opSortLen : D → P D
  | .ref n => fun S => match S.get n with
    | some (.lst xs) => (match strsOf xs with
      | some ss => if ss.all (fun s => decide (s.length ≤ 1000000)) = true then some (.ref S.size, S.push (.lst ((sortLen ss).map .str))) else none
      | none => none)
    | _ => none
  | _ => P.bad
section
variable {G : Gx} {X : Cx} {W : WX} {C : Cfg} {m : List Addr} {H H' : Hp} {S : Store}
/-- tables change, all else is kept -/
theorem ext_N (e : LamX.ExtN H H') (t : ∀ P ∈ G.ne.tabs, LamX.TabS H' P (G.ne.tq P)) : Ext G m H m H' where
  pre := fun _ _ h => h
  tup := fun p vs h => by
    rcases h with (h | ⟨o, h⟩) | h
    · exact .inl (.inl (e _ _ h fun ps z => by cases z))
    · exact .inl (.inr ⟨o, e _ _ h fun ps z => by cases z⟩)
    · exact .inr h
  xd := fun a fv h => e _ _ h fun ps z => by cases z
  frz := fun a o u h => e _ _ h fun ps z => by cases z
  tab := fun P h _ => t P h
theorem sim_N (s : Sim G m S H) (e : LamX.ExtN H H') (t : ∀ P ∈ G.ne.tabs, LamX.TabS H' P (G.ne.tq P)) : Sim G m S H' where
  len := s.len
  nd := s.nd
  tbs := t
  obj := fun n o h => by
    obtain ⟨p, h1, h2⟩ := s.obj n o h
    have ex : Ext G m H m H' := ext_N e t
    refine ⟨p, h1, ?_⟩
    cases h2 with
    | lst a b => exact .lst (e _ _ a fun ps z => by cases z) (b.mono ex)
    | ins a b => exact .ins (e _ _ a fun ps z => by cases z) (b.mono ex)
    | dct a b => exact .dct (e _ _ a fun ps z => by cases z) (b.mono ex)
    | dtu a b => exact .dtu (e _ _ a fun ps z => by unfold DTO at z; cases z) (b.mono ex)
    | fdt a b => exact .fdt (e _ _ a fun ps z => by cases z) (b.mono ex)
    | fdk a b => exact .fdk (e _ _ a fun ps z => by cases z) (b.mono ex)
    | rol a b =>
      refine .rol ?_ (b.mono ex)
      rcases a with ⟨o, a⟩ | a
      · exact .inl ⟨o, e _ _ a fun ps z => by cases z⟩
      · exact .inr a
/-- a value that stands for a text -/
def StrV (u : Value) (x : List Nat) : Prop := ∃ t, u = .str ⟨x.toArray⟩ t
theorem strV_all : ∀ {ss : List (List Nat)} {us : List Value}, Vals ((ss.map fun s => (⟨s.toArray⟩ : Str)).map V.str) us → PySem.W.EachIs StrV us ss
  | [], us, h => by cases h; exact .nil
  | x :: ss, us, h => by
    cases h with
    | cons a b => exact .cons a (strV_all b)
theorem strV_vals : ∀ {ss : List (List Nat)} {us : List Value}, PySem.W.EachIs StrV us ss → Vals ((ss.map fun s => (⟨s.toArray⟩ : Str)).map V.str) us
  | [], us, h => by cases h; exact .nil
  | x :: ss, us, h => by
    cases h with
    | cons a b => exact .cons a (strV_vals b)
theorem reps_strs {ss : List (List Nat)} : RepVs G m H ((ss.map fun s => (⟨s.toArray⟩ : Str)).map V.str) (ss.map .str) := by
  induction ss with
  | nil => exact .nil
  | cons x ss ih => exact .cons (.str x) ih
theorem r_sortLen {a : Expr} {ea : ME} {c P : Addr} {y : Str} {params : Arguments} {scope : Scope} {p p1 p2 p3 p4 p5 lpos kpos pos : Pos} {k kk : Nat} (cx : Ctx0 G X) (hr : Room kk X.A) (hg : Gl X "sorted") (hm : X.mg "sorted" = none) (hml : X.mg "len" = none) (ha : PE X a (tE G W C ea))
    (TB : LamX.TabB X.base X.mg c P) (hcode : X.env.code = .ref c) (hP : P ∈ G.ne.tabs) (hq : G.ne.tq P = X.env.qual ++ "<lambda>") (N : LamN scope y) (hdef : defaultsOf params X.env = ([], []))
    (hbind : ∀ (qq : Str) (cl : List (Str × Addr)) (pm cv ctv : Value) (x : Str) (t : Tok), bindArgs (PySem.W.kla_fn "<lambda>" qq params (lamB y p1 p2 p3 p4 p5 k) scope cl pm cv ctv) ⟨[.str x t], []⟩ = pure [(y, .str x t)])
    (hy : (y == ("__debug__" : Str)) = false := by decide) (na : starEach [a] X.env = (false, eval a X.env) :: starEach [] X.env := by rfl) :
    PE X (.Call (.Name "sorted" p) [a] [⟨some "key", .Lambda params (lamB y p1 p2 p3 p4 p5 k) scope lpos, kpos⟩] pos) (tE G W C (e1 opSortLen ea)) := by
  refine ⟨fun pins s σ H Q I h => ?_⟩
  have h1 := w1 (Rp := RepV G) (f := opSortLen) h
  refine wpAny_Call_Name_kw (ld_blt I hg hm bo_sorted ?_)
  refine PyProof.Rows.callWith_kw (one_arg ha I h1 (fun v s2 x H2 I2 r hx => ?_) na) (by rw [na]; rfl) (by rw [na]; rfl) rfl rfl
  obtain ⟨m, S, d, sim, rd, pp⟩ := hx
  unfold opSortLen at pp
  split at pp
  · rename_i n
    obtain ⟨qa, rfl, hqa⟩ := rd.ref_
    obtain rfl : v = Value.ref qa := r
    split at pp
    · rename_i xs hxs
      split at pp
      · rename_i ss hss
        split at pp
        · rename_i hall
          have tab2 : LamX.Tabs (G.ne.tabs.map fun P => (P, G.ne.tq P)) H2 := fun pr hpr => by
            obtain ⟨P', hP', rfl⟩ := List.mem_map.mp hpr
            exact sim.tbs P' hP'
          show wpAny _ _ (evalAll ((do let v ← eval (.Lambda params (lamB y p1 p2 p3 p4 p5 k) scope lpos) X.env; standAt pos; pure v) :: [])) _ _ s2
          refine wpAny_evalAll_cons (wpAny_bind (LamX.lam_make2 (T := G.ne.tabs.map fun P => (P, G.ne.tq P)) I2 TB hcode (List.mem_map.mpr ⟨P, hP, by rw [hq]⟩) (fun pr hpr e => by
            obtain ⟨P', hP', rfl⟩ := List.mem_map.mp hpr
            have e : P' = P := e
            rw [e]; exact hq) tab2 hdef (fun z hz e => absurd e (N.free z hz)) fun f c' pm ctv H3 s3 I3 eN T3 hf hfn hfr hco => wpAny_bind (wpAny_standAt (wpAny_pure (wpAny_evalAll_nil ?_)))))
          have T3' : ∀ P ∈ G.ne.tabs, LamX.TabS H3 P (G.ne.tq P) := fun P hP => T3 (P, G.ne.tq P) (List.mem_map.mpr ⟨P, hP, rfl⟩)
          have ex3 : Ext G m H2 m H3 := ext_N eN T3'
          have sim3 := sim_N sim eN T3'
          obtain ⟨qa', vs, e1, hq', hv⟩ := sim3.lst hxs
          rw [hqa] at e1
          cases e1
          obtain ⟨its, rv, pl, hz⟩ := I3.list (xs := vs) (.inl (.inl hq'))
          have ev := strs_of hss hv
          subst ev
          have each := strV_all rv
          obtain ⟨⟨oc, fvs, ft, hoc, hdc, hvc⟩, _, _⟩ := I3.hok c' _ hco
          obtain ⟨mb, hb1, hb2⟩ := I3.mod.blt
          have hu := cx.hu
          have hlen : ss.length ≤ sizeLine := by
            have := hz
            rw [List.length_map, List.length_map] at this
            exact this
          have h64 := line63
          refine PySem.W.sorted_key_data (b := false) (kw := [(Str.ofString "key", .ref f)]) (f := .ref f) (fun s : List Nat => keyQ ⟨s.toArray⟩) pl.isList each (PySem.W.AllAlike.of fun _ _ => by simp [keyQ, PySem.W.alike, PySem.W.alikeAll]) (PySem.W.Sortable.tuples fun _ => ⟨_, _, rfl⟩) hlen (fun x _ => ?_) (PyProof.Rows.ksk_s1 _ _) (fun _ => PyProof.Rows.ksk_l1 _ _) (fun _ => PyProof.Rows.ksk_t1 _ _)
            (fun v x hv hx h tk kp => ?_) fun out ep h' tk kp fr hD hl eo => ?_
          · have hd : (keyQ ⟨x.toArray⟩).depth = 1 := by simp [keyQ, PyData.depth, PyData.depthAll]
            rw [hd]
            omega
          · obtain ⟨t, rfl⟩ := hv
            have hxl : x.length ≤ 1000000 := of_decide_eq_true (List.all_eq_true.mp hall x hx)
            exact key_turn (s := { s3 with heap := h, toks := tk }) (kp _ _ hf) ⟨c', oc, fvs, ft, rfl, kp _ _ hoc, hdc, hvc⟩ hr.depth (I3.nolimit.keeps kp) ((I3.mod.glob.keeps I3.bk).keeps kp) ((hb1.keeps I3.bk).keeps kp) hml (hb2 "len" (by decide)) (by rw [sizeLine_eq]; simpa [Str.length] using (by omega : x.length ≤ 16777216)) N hy (hbind _ _ _ _ _ _ _)
          · have ov := strV_vals eo
            have hol : (((ss.mergeSort (PySem.W.dataLe false fun s => keyQ ⟨s.toArray⟩)).map fun s => (⟨s.toArray⟩ : Str)).map V.str).length ≤ sizeLine := by
              rw [List.length_map, List.length_map, List.length_mergeSort]
              exact hlen
            refine ⟨.ref _, upd H3 (s3.heap.objs.size + 1) (.lst (((sortLen ss).map fun s => (⟨s.toArray⟩ : Str)).map V.str)), I3.laid (t' := tk) kp (Nat.le_succ _) ⟨hol, _, ep, ov, hD⟩, rfl, ?_⟩
            have n3 := I3.hok.fresh (Nat.le_succ s3.heap.objs.size)
            exact pp _ _ _ (ex3.trans (ext_push n3)) (sim_new sim3 n3 (.lst upd_same reps_strs)) (ref_new sim3)
        · exact pp.elim
      · exact pp.elim
    · exact pp.elim
  · exact pp.elim
end
end MP

/-! MP: the law's end with tables of code objects. Own work. -/
namespace MP
open PySem PySem.Spec PyProof.Rows L2
/-- an empty table -/
def eTab : Obj := { cls := .none, data := .fields #[] }
/-- a code object and its table, at the law's start -/
structure TabAt (K : PySem.W.Frag) (h : Heap) (c P : Addr) : Prop where
  at_ : h.get? P = some eTab
  out : K.lookup P = none
  hd : PySem.W.CodeHd h c P
/-- the start's heap: the script frozen, the tables -/
def hpT (T : List Addr) (fz : Bool) (a : Addr) (o : Obj) (xs : List V) : Hp := fun b => if b ∈ T then some (.tbl #[]) else if fz = true ∧ b = a then some (.frz o (.lst xs)) else none
section
variable {P : Program} {w : World} {K : PySem.W.Frag} {mg mb : Str → Option Value} {Cx0 : CXT} {k : Nat} {fa a : Addr} {fd : FuncData} {x : Str} {sp : Sp} {t : Shared} {vs : List Value} {ns : List Int}
theorem law_coreT {fz : Bool} {cs : List (Addr × Addr)} (KX : K.In t.heap) (hns : t.heap.Ns mainGlobals mg) (hb : t.heap.Ns builtinsNs mb) (hbb : ∀ x : Str, x ≠ "__name__" → mb x = bootBuiltins x) (hlim : t.heap.NoLimit) (hg : t.gens = #[])
    (hT : ∀ q ∈ cs, TabAt K t.heap q.1 q.2)
    (hbm : ∃ (bm : Addr) (ob : Obj), mg "__builtins__" = some (.ref bm) ∧ bm ≠ builtinsNs ∧ t.heap.get? bm = some ob ∧ ob.cls = .type "module" ∧ ob.dict = some builtinsNs ∧ ob.data = .plain)
    (ha : t.heap.get? a = some { cls := .type "list", data := .seq vs.toArray }) (hr : Room k callerA) (hi : IntsAre vs ns) (hl : ns.length ≤ sizeLine)
    (F : ∀ base : Heap, K.In base → base.Ns mainGlobals mg → (∀ q ∈ cs, LamX.TabB base mg q.1 q.2) → FnG P w K mg base Cx0 k fa fd [x] sp) (hbind : ∀ (s : Shared) (u : Value), BindsTo s fd ⟨[u], []⟩ [(x, u)])
    (hCX : ∀ H e s', Cx0 [] H t (fun _ _ _ => False) e s' → False) (hK : fz = true → K.lookup a = none)
    (hsp : sp [.ref a] (hpT (cs.map (·.2)) fz a { cls := .type "list", data := .seq vs.toArray } (ns.map V.int)) (fun v _ => v = .bl true) fun _ _ _ => False) :
    codeAny (model P w) callerA (.call (.ref fa) ⟨[.ref a], []⟩) (fun r s' => r = .ok (.ret (.bool true)) ∧ OldK t.heap s'.heap ∧ s'.os = t.os ∧ AllBare s'.gens) t := by
  have rv := vals_ints hi
  have cases3 : ∀ (c : Addr) (o : Obj), t.heap.get? c = some o → (∀ us n, o.data ≠ .seq us n) → o.data ≠ .fields #[] → hpT (cs.map (·.2)) fz a { cls := .type "list", data := .seq vs.toArray } (ns.map V.int) c = none := fun c o e h1 h2 => by
    unfold hpT
    rw [if_neg (fun z => ?_), if_neg (fun z => ?_)]
    · obtain ⟨_, rfl⟩ := z
      rw [ha] at e
      cases e
      exact h1 _ _ rfl
    · obtain ⟨q, hq, rfl⟩ := List.mem_map.mp z
      rw [(hT q hq).at_] at e
      cases e
      exact h2 rfl
  have nT : a ∉ cs.map (·.2) := fun z => by
    obtain ⟨q, hq, e⟩ := List.mem_map.mp z
    have h := (hT q hq).at_
    rw [e, ha] at h
    have h' : Data.seq vs.toArray _ = Data.fields #[] := congrArg Obj.data (Option.some.inj h)
    cases h'
  generalize hH : hpT (cs.map (·.2)) fz a { cls := .type "list", data := .seq vs.toArray } (ns.map V.int) = H at cases3 hsp
  have atT : ∀ q ∈ cs, H q.2 = some (.tbl #[]) := fun q hq => by
    rw [← hH]
    unfold hpT
    rw [if_pos (List.mem_map.mpr ⟨q, hq, rfl⟩)]
  have kinds : ∀ c, H c = none ∨ (∃ q ∈ cs, q.2 = c) ∨ (c = a ∧ fz = true ∧ H c = some (.frz { cls := .type "list", data := .seq vs.toArray } (.lst (ns.map V.int)))) := fun c => by
    by_cases h1 : c ∈ cs.map (·.2)
    · obtain ⟨q, hq, e⟩ := List.mem_map.mp h1
      exact .inr (.inl ⟨q, hq, e⟩)
    · by_cases h2 : fz = true ∧ c = a
      · refine .inr (.inr ⟨h2.2, h2.1, ?_⟩)
        rw [← hH]
        unfold hpT
        rw [if_neg h1, if_pos h2]
      · refine .inl ?_
        rw [← hH]
        unfold hpT
        rw [if_neg h1, if_neg h2]
  have seen : ∀ {c : Addr} {o : Obj}, t.heap.get? c = some o → (∀ us n, o.data ≠ .seq us n) → o.data ≠ .fields #[] → (hidT t.heap H).get? c = some o := fun {c o} e h1 h2 => hidT_get e (cases3 c o e h1 h2)
  have nsK : ∀ {c : Addr} {g : Str → Option Value}, t.heap.Ns c g → (hidT t.heap H).Ns c g := fun {c g} ⟨o, es, ep, e, d, r⟩ => ⟨o, es, ep, seen e (fun us n z => by rw [d] at z; cases z) (fun z => by rw [d] at z; cases z), d, r⟩
  have kin : K.In (hidT t.heap H) := fun c o e => hidT_get (KX c o e) (by
    rcases kinds c with z | ⟨q, hq, rfl⟩ | ⟨rfl, z, _⟩
    · exact z
    · rw [(hT q hq).out] at e; cases e
    · rw [hK z] at e; cases e)
  have hok : HOk P w H t.heap := fun c u e => by
    rcases kinds c with z | ⟨q, hq, rfl⟩ | ⟨rfl, _, z⟩
    · rw [z] at e; cases e
    · rw [atT q hq] at e
      cases e
      exact (hT q hq).at_
    · rw [z] at e
      cases e
      exact ⟨ha, by rw [List.length_map]; exact hl, vs, _, rv, ha⟩
  have md : Mod K mg (hidT t.heap H) := ⟨kin, nsK hns, ⟨mb, nsK hb, hbb⟩, let ⟨mc, h1, h2⟩ := hlim; ⟨mc, nsK h1, h2⟩⟩
  have tb : ∀ q ∈ cs, LamX.TabB (hidT t.heap H) mg q.1 q.2 := fun q hq => by
    refine ⟨?_, ?_, fun z => ?_⟩
    · obtain ⟨o, us, file, tf, flags, tg, inF, text, tt, e1, r1, r2, r3, rest⟩ := (hT q hq).hd
      refine ⟨o, us, file, tf, flags, tg, inF, text, tt, seen e1 (fun us n z => by rw [r2] at z; cases z) (fun z => ?_), r1, r2, r3, rest⟩
      rw [r2] at z
      cases z
      simp at r3
    · obtain ⟨bm, ob, b1, b2, b3, b4, b5, b6⟩ := hbm
      refine ⟨bm, ob, b1, b2, fun z => ?_, fun z => ?_, seen b3 (fun us n z => by rw [b6] at z; cases z) (fun z => by rw [b6] at z; cases z), b4, b5, b6⟩
      · obtain ⟨o, es, ep, e, d, _⟩ := hns
        rw [z, e] at b3
        cases b3
        rw [d] at b6
        cases b6
      · rw [z, (hT q hq).at_] at b3
        cases b3
        cases b6
    · obtain ⟨o, es, ep, e, d, _⟩ := hns
      rw [z, (hT q hq).at_] at e
      cases e
      cases d
  have e0 : Env0 P w K mg (hidT t.heap H) callerA [] t H := ⟨rfl, md, fun c o e => of_hidT e, Nat.le_of_eq (hidT_size _ _), trivial, fun c hc => absurd (show c ∈ ([] : List Addr) from hc) (by simp), hok, .of_eq hg⟩
  refine codeAny_mono ((F _ kin (nsK hns) tb).go callerA [] t H ⟨[.ref a], []⟩ [.ref a] [.ref a] _ _ hr rfl e0 (hbind t (.ref a)) (.cons rfl .nil) hsp) fun res s' h => ?_
  cases res with
  | error e => exact (hCX H e s' h).elim
  | ok fl =>
    cases fl with
    | next => exact h.elim
    | brk => exact h.elim
    | cont => exact h.elim
    | ret u =>
      obtain ⟨v, H', os, bare, un, hok', r', q⟩ := h
      cases (show v = .bl true from q)
      cases (show u = Value.bool true from r')
      have more : ∀ q ∈ cs, ∃ z : Array Value, s'.heap.get? q.2 = some { cls := .none, data := .fields z } := fun q hq => by
        obtain ⟨z, e⟩ := un.tbls q.2 #[] (atT q hq)
        exact ⟨_, hok' q.2 _ e⟩
      have same : ∀ c o, (¬ ∃ q ∈ cs, q.2 = c) → t.heap.get? c = some o → s'.heap.get? c = some o := fun c o nc e => by
        rcases kinds c with z | z | ⟨rfl, _, z⟩
        · exact un.keep c o e z (fun z => absurd (show c ∈ ([] : List Addr) from z) (by simp)) (by simp)
        · exact absurd z nc
        · obtain ⟨e1, _⟩ := hok c _ z
          obtain ⟨e2, _⟩ := hok' c _ (un.frzs c _ _ z)
          rw [e] at e1
          cases e1
          exact e2
      refine ⟨rfl, ⟨fun c o e => ?_, fun c o e => ?_⟩, os, bare⟩
      · by_cases hc : ∃ q ∈ cs, q.2 = c
        · obtain ⟨q, hq, rfl⟩ := hc
          obtain ⟨z, hz⟩ := more q hq
          have h1 := (hT q hq).at_
          rw [h1] at e
          cases e
          exact .inr (.inl ⟨((hT q hq).hd.tab h1).isCodeTable, rfl, #[], z, rfl, by rw [Array.empty_append]; exact hz⟩)
        · exact .inl (same c o hc e)
      · by_cases hc : ∃ q ∈ cs, q.2 = c
        · obtain ⟨q, hq, rfl⟩ := hc
          obtain ⟨z, hz⟩ := more q hq
          exact ⟨_, hz⟩
        · exact ⟨o, same c o hc e⟩
end
theorem simT {G : Gx} {T : List Addr} {fz : Bool} {a : Addr} {o : Obj} {ns : List Int} (hs : (fz = true ∧ a ∉ T) ∨ (∃ (u : Array Value) (n : Nat) (o : Obj), True) ) (ht : ∀ P ∈ G.ne.tabs, P ∈ T) (hq : SqF G.K (hpT T fz a o (ns.map V.int)) a (ns.map V.int)) : Sim G [a] (store0 ns) (hpT T fz a o (ns.map V.int)) where
  tbs := fun P h => LamX.TabS.nil (by unfold hpT; rw [if_pos (ht P h)])
  len := rfl
  nd := fun i j p x y hx nx hy ny h1 h2 => by
    have k : ∀ {i : Nat} {x : Ob}, (store0 ns).get i = some x → i = 0 := fun {i x} h => by
      have := Store.get_lt h
      have e : (store0 ns).size = 1 := rfl
      omega
    rw [k hx, k hy]
  obj := fun n ob h => by
    have hn : n = 0 := by
      have := Store.get_lt h
      have e : (store0 ns).size = 1 := rfl
      omega
    subst hn
    have e : (store0 ns).get 0 = some (.rol (ns.map .int)) := Store.get_push_same _ _
    rw [e] at h
    cases h
    exact ⟨a, rfl, .rol (vs := ns.map V.int) hq (reps_ints ns)⟩
/-- what is known of each def's table at the law's start -/
def TabsOf (q : Program) (mg : Str → Option Value) (h : Heap) : Prop := ∀ dd ∈ recsOf q, ∃ (a : Addr) (o : Obj) (fd : FuncData) (c P : Addr), mg dd.name = some (.ref a) ∧ h.get? a = some o ∧ o.data = .func fd ∧ fd.code = .ref c ∧ PySem.W.CodeHd h c P ∧ h.get? P = some eTab
theorem walk_mp3 {l : PySem.W.OpenLaw} {nm k r i : Nat} {q : Program} {loose : List Str} {XP : (Str → Option Value) → Heap → Prop} {YP : World → Heap → Prop} {d : DefRec} {x : Str} {tb : List Fn}
    (hn : l.most = some nm) (hz : nm ≤ sizeLine) (hdf : d.params.defaults = []) (hr : Room r callerA)
    (F : ∀ (w : World) (mg : Str → Option Value) (fa : Addr) (h : Heap), YP w h → h.Ns mainGlobals mg → mg d.name = some (.ref fa) → TabsOf q mg h →
      ∃ (G : Gx) (fd : FuncData) (cs : List (Addr × Addr)), G.K.In h ∧ (∀ u ∈ cs, TabAt G.K h u.1 u.2) ∧ (∀ P ∈ G.ne.tabs, P ∈ cs.map (·.2)) ∧ (∀ (s : Shared) (u : Value), BindsTo s fd ⟨[u], []⟩ [(x, u)]) ∧
        ∀ base : Heap, G.K.In base → base.Ns mainGlobals mg → (∀ u ∈ cs, LamX.TabB base mg u.1 u.2) → FnG l.prog w G.K mg base (L2.CX l.prog w) r fa fd [x] (spM G (callN tb k i) 1))
    (hl : ∀ ns : List Int, ns.length ≤ nm → (∀ z ∈ ns, Builtin.Int.intBits z ≤ 1048576) → ∃ S', callN tb k i [.ref 0] (store0 ns) = .ok (.bl true) S') :
    PySem.W.WalkO q loose XP YP l.row.toRowW d [] (fun f vs => PySem.call f vs) := by
  refine Att.attach_callB hn hdf fun w s₀ s₁ mg mb fa o pm cd doc a us ns G Y ho hd hcd hmg hobj hints hlen hbits hg => ?_
  have tabs : TabsOf q mg s₁.heap := fun dd hdd => by
    obtain ⟨a', o', fd', c', P', h1, h2, h3, h4, h5, h6⟩ := G.T.tab dd hdd
    exact ⟨a', o', fd', c', P', h1, h2, h3, h4, .of h5 h6, h6.2⟩
  obtain ⟨Gm, fd, cs, KX, hT, hts, hb, hF⟩ := F w mg fa _ Y G.T.g hmg tabs
  have lenV := hints.length
  have rv := vals_ints hints
  have hlz : ns.length ≤ sizeLine := Nat.le_trans hlen hz
  have nT : a ∉ cs.map (·.2) := fun z => by
    obtain ⟨u, hu, e⟩ := List.mem_map.mp z
    have h := (hT u hu).at_
    rw [e, hobj] at h
    have h' : Data.seq us.toArray _ = Data.fields #[] := congrArg Obj.data (Option.some.inj h)
    cases h'
  have run : ∀ (fz : Bool), SqF Gm.K (hpT (cs.map (·.2)) fz a { cls := .type "list", data := .seq us.toArray } (ns.map V.int)) a (ns.map V.int) →
      spM Gm (callN tb k i) 1 [.ref a] (hpT (cs.map (·.2)) fz a { cls := .type "list", data := .seq us.toArray } (ns.map V.int)) (fun v _ => v = .bl true) fun _ _ _ => False := fun fz hq => by
    refine ⟨rfl, [a], store0 ns, [.ref 0], simT (.inr ⟨#[], 0, eTab, trivial⟩) hts hq, .cons (.ref rfl) .nil, ?_⟩
    obtain ⟨S', e⟩ := hl ns hlen hbits
    rw [e]
    exact fun m' H' b _ _ r => r.bl_
  cases hk : Gm.K.lookup a with
  | some o =>
    have e := KX a o hk
    rw [hobj] at e
    cases e
    exact law_coreT (fz := false) KX G.T.g G.T.b G.T.builtins G.T.nolimit hg hT G.T.bmain hobj hr hints hlz hF hb (fun H e s' ⟨_, _, _, _, _, _, _, _, _, _, _, _, z⟩ => z) (fun z => by cases z)
      (run false (.inr ⟨_, us.toArray, _, hk, rfl, rfl, rfl, by rw [List.size_toArray, lenV]; exact hlz, by simpa using rv⟩))
  | none =>
    exact law_coreT (fz := true) KX G.T.g G.T.b G.T.builtins G.T.nolimit hg hT G.T.bmain hobj hr hints hlz hF hb (fun H e s' ⟨_, _, _, _, _, _, _, _, _, _, _, _, z⟩ => z) (fun _ => hk)
      (run true (.inl ⟨{ cls := .type "list", data := .seq us.toArray }, by unfold hpT; rw [if_neg nT, if_pos ⟨rfl, rfl⟩]⟩))
/-- a def that makes lambdas -/
structure LamC (K : PySem.W.Frag) (mg : Str → Option Value) (base : Heap) (G : Gx) (f : Addr) (q : Str) : Prop where
  ex : ∃ (c P : Addr), CdOf K f (.ref c) ∧ LamX.TabB base mg c P ∧ P ∈ G.ne.tabs ∧ G.ne.tq P = q
theorem LamC.of {K : PySem.W.Frag} {mg : Str → Option Value} {base : Heap} {G : Gx} {f : Addr} {q : Str} {cdv : Value} (h : LamC K mg base G f q) (hc : CdOf K f cdv) : ∃ c P, cdv = .ref c ∧ LamX.TabB base mg c P ∧ P ∈ G.ne.tabs ∧ G.ne.tq P = q := by
  obtain ⟨c, P, ⟨oo, fd, h1, h2, h3⟩, h4⟩ := h.ex
  obtain ⟨o2, fd2, e1, e2, e3⟩ := hc
  rw [h1] at e1
  cases e1
  rw [h2] at e2
  cases e2
  exact ⟨c, P, e3.symm.trans h3, h4⟩
/-- names of a text, one def that makes lambdas -/
def neOfT (w : World) (K : PySem.W.Frag) (cs fs : List Str) (h : fldsOk fs = true) (P : Addr) (q : Str) : NE := { neOf w K cs fs h with tabs := [P], tq := fun _ => q }
/-! ### the head's facts, empty tables left out -/
def obsXT (n : Nat) (fa : List He.Fa) (fn : List He.DefD) (fx : List (PySem.W.Frag → Bool)) (g : Addr → Option Obj) : AlX := obsX fa fn fx (He.frT g (He.asD g n))
def NoTab (K : PySem.W.Frag) : Prop := ∀ a o, K.lookup a = some o → He.emptyTab o = false
def hookT (n : Nat) (fa : List He.Fa) (fn : List He.DefD) (fx : List (PySem.W.Frag → Bool)) : PySem.W.Hook where
  α := AlX
  obs := fun s => obsXT n fa fn fx s.heap.get?
  val := fun _ => (He.valD fn, true)
  says := fun _ h => ∃ K : PySem.W.Frag, K.In h ∧ NoTab K ∧ SaysX fa fn fx K
  of := fun _ _ e => ⟨_, He.frT_in, fun _ _ z => (He.frT_mem z).2, e⟩
  keeps := fun _ _ _ ⟨K, hK, n, c⟩ k => ⟨K, PySem.W.Frag.In.keeps hK k, n, c⟩
theorem obsXT_eq {n : Nat} {fa : List He.Fa} {fn : List He.DefD} {fx : List (PySem.W.Frag → Bool)} {g : Addr → Option Obj} {s : Shared} (h : ∀ a, g a = s.heap.get? a) : obsXT n fa fn fx g = (hookT n fa fn fx).obs s := by
  have e : g = s.heap.get? := funext h
  rw [e] <;> rfl
/-- a def's table, by its name -/
theorem tab_of {q : Program} {mg : Str → Option Value} {h : Heap} {K : PySem.W.Frag} {x : Str} {f : Addr} {fd : FuncData} {dd : DefRec} (tabs : TabsOf q mg h) (hdd : dd ∈ recsOf q) (hx : dd.name = x) (hf : mg x = some (.ref f)) (KX : K.In h) (nt : NoTab K) {oo : Obj} (hl : K.lookup f = some oo) (hd : oo.data = .func fd) :
    ∃ c P, fd.code = .ref c ∧ TabAt K h c P := by
  obtain ⟨a, o, fd', c, P, h1, h2, h3, h4, h5, h6⟩ := tabs dd hdd
  rw [hx, hf] at h1
  cases h1
  rw [KX _ _ hl] at h2
  cases h2
  rw [hd] at h3
  cases h3
  refine ⟨c, P, h4, h6, ?_, h5⟩
  cases e : K.lookup P with
  | none => rfl
  | some u =>
    have h7 := KX _ _ e
    rw [h6] at h7
    cases h7
    have h8 := nt _ _ e
    cases h8
end MP

/-! MP: the laws' pen: what its helpers do. Own work. -/
namespace MP
/-- the bodies, as the generator prints them -/
def bPen : MS := sRet (eLst (aCons (eB bListX (aCons (eCut (eVar 0) (pNone) (pSome (eC (.int 63)))) (aNil))) (aCons (eC (.int 0)) (aCons (eC (.int 0)) (aNil)))))
def bFresh : MS := sSeq (sSet (.nm 1) (e2 opItem (eVar 0) (eC (.int 1)))) (sSeq (sItem (eVar 0) (eC (.int 1)) (e2 opAdd (eVar 1) (eC (.int 1)))) (sSeq (sSet (.nm 2) (eC (.int 0))) (sSeq (sIf (MP.tB (e2 opNe (e2 opItem (eVar 0) (eC (.int 0))) (eLst (aNil)))) (sSet (.nm 2) (e2 opItem (e2 opItem (eVar 0) (eC (.int 0))) (e2 opMod (eVar 1) (eB bLen (aCons (e2 opItem (eVar 0) (eC (.int 0))) (aNil)))))) (sPass)) (sSeq (sIf (MP.tAnd (MP.tB (e2 opLt (eVar 1) (eB bLen (aCons (e2 opItem (eVar 0) (eC (.int 0))) (aNil))))) (MP.tB (e2 opGe (eVar 2) (e2 opPow (eC (.int 10)) (eC (.int 18)))))) (sRet (e2 opSub (eVar 2) (e2 opPow (eC (.int 10)) (eC (.int 18))))) (sPass)) (sSeq (sSet (.nm 3) (eC (.int 2305843009213693951))) (sSeq (sSet (.nm 4) (e2 opMod (e2 opAdd (e2 opAdd (e2 opMul (eVar 2) (eC (.int 48271))) (e2 opMul (eC (.int 40692)) (eVar 1))) (eC (.int 31))) (eVar 3))) (sSeq (sSet (.nm 5) (eVar 4)) (sSeq (sFor (.nm 6) (iRange1 (eC (.int 6))) (sSeq (sSet (.nm 4) (e2 opMod (e2 opAdd (e2 opAdd (e2 opMul (eVar 4) (eVar 4)) (e2 opMul (e2 opMul (eC (.int 69621)) (e2 opAdd (eVar 6) (eC (.int 1)))) (e2 opAdd (eVar 1) (eC (.int 1))))) (eVar 2)) (eVar 3))) (sSet (.nm 5) (e2 opAdd (e2 opMul (eVar 5) (eVar 3)) (eVar 4))))) (sRet (eVar 5))))))))))
def bDraw (fr : Nat) : MS := sSeq (sIf (MP.tB (e2 opLt (e2 opItem (eVar 0) (eC (.int 2))) (eVar 1))) (sItem (eVar 0) (eC (.int 2)) (eCall fr (aCons (eVar 0) (aNil)) [])) (sPass)) (sSeq (sSet (.nm 2) (e2 opMod (e2 opItem (eVar 0) (eC (.int 2))) (eVar 1))) (sSeq (sItem (eVar 0) (eC (.int 2)) (e2 opDiv (e2 opItem (eVar 0) (eC (.int 2))) (eVar 1))) (sRet (eVar 2))))
def bString (dr : Nat) : MS := sRet (eBM tyStr mJoin (eC (.str [])) (aCons (eLc (e2 opItem (eC (.str [97, 98, 99])) (eCall dr (aCons (eVar 0) (aCons (eVar 1) (aNil))) [])) (.nm 3) (iRange1 (eCall dr (aCons (eVar 0) (aCons (e2 opAdd (eVar 2) (eC (.int 1))) (aNil))) [])) (MP.tYes) [3]) (aNil)))

/-- a pen at n, its cells at q -/
structure Pen (S : Store) (n q : Nat) : Prop where
  ex : ∃ a z : Int, S.get n = some (.lst [.ref q, .int a, .int z])
  cs : ∃ cs : List Int, S.get q = some (.lst (cs.map .int)) ∧ cs.length ≤ 63
theorem snap_int (S : Store) (k : Nat) : ∀ cs : List Int, optAll (snap S (k + 1)) (cs.map D.int) = some (cs.map PySem.PyData.int)
  | [] => rfl
  | c :: cs => by
    rw [List.map_cons, optAll, snap_int S k cs]
    rfl
/-- a list of ints is not the empty one -/
theorem ne_nil {S : Store} {q l : Nat} {cs : List Int} {xs : List D} (h1 : S.get q = some (.lst (cs.map .int))) (h2 : S.get l = some (.lst [])) : opNe (.ref q) (.ref l) S = some (.bl (!cs.isEmpty), S) := by
  have e1 : snap S deep (.ref q) = some (.list (cs.map .int)) := by
    show (match lstAt S q with
      | some xs => (optAll (snap S 39) xs).map PySem.PyData.list
      | none => none) = _
    unfold lstAt; rw [h1]
    show (optAll (snap S 39) (cs.map D.int)).map PySem.PyData.list = _
    rw [snap_int]; rfl
  have e2 : snap S deep (.ref l) = some (.list []) := by
    show (match lstAt S l with
      | some xs => (optAll (snap S 39) xs).map PySem.PyData.list
      | none => none) = _
    unfold lstAt; rw [h2]; rfl
  unfold opNe eqD
  rw [e1, e2]
  cases cs <;> rfl
theorem fmod_lt (a : Int) {p : Int} (h : 0 < p) : 0 ≤ a.fmod p ∧ a.fmod p < p := ⟨Int.fmod_nonneg_of_pos a h, Int.fmod_lt_of_pos a h⟩
theorem ixN_at {n : Nat} {i : Int} (h0 : 0 ≤ i) (h1 : i < n) : ixN n i = some i.toNat := by
  unfold ixN; rw [if_pos h0, if_pos h1]
theorem small_of {i : Int} (h1 : -18446744073709551616 < i) (h2 : i < 18446744073709551616) : small64 i = true := by
  unfold small64
  rw [decide_eq_true h1, decide_eq_true h2]; rfl
theorem fresh_ok {C : Cfg} {S : Store} {n q : Nat} {a z : Int} {cs : List Int} (hp : S.get n = some (.lst [.ref q, .int a, .int z])) (hq : S.get q = some (.lst (cs.map .int))) :
    Ok (runFn ⟨1, 7, bFresh⟩ C [.ref n] S) (fun v S' => ∃ x, v = .int x ∧ Keep S S' [n] ∧ S'.get n = some (.lst [.ref q, .int (a + 1), .int z])) X0 := by
  have hn := Store.get_lt hp
  have hqs := Store.get_lt hq
  have nq : q ≠ n := fun e => by
    subst e
    rw [hp] at hq
    have := Option.some.inj hq
    injection this with h
    cases cs with
    | nil => cases h
    | cons c cs => cases h
  have hS1 : (S.set n (.lst [.ref q, .int (a + 1), .int z])).get n = some (.lst [.ref q, .int (a + 1), .int z]) := Store.get_set_same _ hn
  have hS2 : (S.set n (.lst [.ref q, .int (a + 1), .int z])).get q = some (.lst (cs.map .int)) := by rw [Store.get_set_ne _ hn nq]; exact hq
  have k1 : Keep S (S.set n (.lst [.ref q, .int (a + 1), .int z])) [n] := Keep.set _ hn (List.mem_singleton.mpr rfl)
  rw [ok_run]
  refine ⟨rfl, ?_⟩
  show OkS (bFresh C [some (.ref n), none, none, none, none, none, none] S) _
  unfold bFresh
  rw [oks_seq, oks_set]
  simp [hp, atI, ixN]
  rw [oks_seq, oks_item]
  simp [hp, ixN]
  rw [oks_seq, oks_set]
  simp
  generalize S.set n (.lst [.ref q, .int (a + 1), .int z]) = S1 at hS1 hS2 k1
  have hq1 := Store.get_lt hS2
  -- the cell
  refine seq_mid (fun σ S2 => ∃ cell : Int, σ = [some (.ref n), some (.int a), some (.int cell), none, none, none, none] ∧ S2.get n = some (.lst [.ref q, .int (a + 1), .int z]) ∧ S2.get q = some (.lst (cs.map .int)) ∧ Keep S S2 [n]) ?_ ?_
  · rw [oks_if]
    have g0 : (S1.push (.lst [])).get S1.size = some (.lst []) := Store.get_push_same _ _
    have g1 : (S1.push (.lst [])).get q = some (.lst (cs.map .int)) := Store.get_push_of hS2
    have g2 : (S1.push (.lst [])).get n = some (.lst [.ref q, .int (a + 1), .int z]) := Store.get_push_of hS1
    simp [hS1, atI, ixN]
    rw [ne_nil (xs := []) g1 g0]
    simp
    by_cases hc : cs = []
    · refine .inl ⟨hc, ?_⟩
      rw [oks_pass]
      exact ⟨⟨0, rfl⟩, g2, g1, k1.trans (Keep.push _)⟩
    · refine .inr ⟨hc, ?_⟩
      have hpos : (0 : Int) < cs.length := by have := List.length_pos_iff.mpr hc; omega
      obtain ⟨f0, f1⟩ := fmod_lt a hpos
      have hx : ∃ c, cs[(a.fmod cs.length).toNat]? = some c := ⟨_, List.getElem?_eq_getElem (by omega)⟩
      obtain ⟨c, hx⟩ := hx
      rw [oks_set]
      simp [g2, g1, atI, ixN]
      refine ⟨hc, .int c, ?_, ⟨c, rfl⟩, k1.trans (Keep.push _)⟩
      rw [if_pos f0, if_pos f1]
      simp [hx]
  · rintro σ S2 ⟨cell, rfl, g1, g2, k2⟩
    refine seq_mid (fun σ S' => σ = [some (.ref n), some (.int a), some (.int cell), none, none, none, none] ∧ S' = S2) ?_ ?_
    · rw [oks_if]
      simp [g1, g2, atI, ixN]
      by_cases h1 : (cs.length : Int) ≤ a
      · exact .inl ⟨h1, by rw [oks_pass]; exact ⟨rfl, rfl⟩⟩
      · refine .inr ⟨by omega, ?_⟩
        by_cases h2 : cell < 1000000000000000000
        · exact .inl ⟨h2, by rw [oks_pass]; exact ⟨rfl, rfl⟩⟩
        · refine .inr ⟨by omega, ?_⟩
          rw [oks_ret]
          simp [g1, k2]
    · rintro σ S' ⟨rfl, rfl⟩
      rw [oks_seq, oks_set]
      simp
      rw [oks_seq, oks_set]
      simp [small64]
      rw [oks_seq, oks_set]
      simp
      rw [oks_seq, oks_for]
      simp [okR]
      generalize e : (cell * 48271 + 40692 * a + 31).fmod 2305843009213693951 = st
      have hst := fmod_lt (cell * 48271 + 40692 * a + 31) (p := 2305843009213693951) (by decide)
      rw [e] at hst
      refine for_seq (by rw [rangeL_len]; decide) (fun i σ S'' => S'' = S' ∧ ∃ (st fo : Int) (tn : Option D), (0 ≤ st ∧ st < 2305843009213693951) ∧ σ = [some (.ref n), some (.int a), some (.int cell), some (.int 2305843009213693951), some (.int st), some (.int fo), tn]) ⟨rfl, st, st, none, hst, rfl⟩ ?_ ?_
      · rintro i d σ S'' hd ⟨rfl, st, fo, tn, hst, rfl⟩
        obtain ⟨rfl, hi⟩ := rangeL_at _ _ _ _ _ hd
        refine ⟨_, by simp; rfl, ?_⟩
        rw [oks_seq, oks_set]
        have s1 : small64 st = true := small_of (by omega) (by omega)
        have s2 : small64 69621 = true := by decide
        have s3 : small64 (69621 * ((i : Int) + 1)) = true := small_of (by omega) (by omega)
        have s4 : small64 2305843009213693951 = true := by decide
        simp [s1, s2, s3]
        rw [oks_set]
        simp [s4]
        exact fmod_lt _ (by decide)
      · rintro σ S'' ⟨rfl, st, fo, tn, hst, rfl⟩
        dsimp only
        rw [oks_ret]
        simp [g1, k2]

/-! ### what the helpers promise -/
def FreshSpec (call : List D → M D) : Prop := ∀ {S : Store} {n q : Nat} {a z : Int} {cs : List Int}, S.get n = some (.lst [.ref q, .int a, .int z]) → S.get q = some (.lst (cs.map .int)) →
  Ok (call [.ref n] S) (fun v S' => ∃ x, v = .int x ∧ Keep S S' [n] ∧ S'.get n = some (.lst [.ref q, .int (a + 1), .int z])) X0
def DrawSpec (call : List D → M D) : Prop := ∀ {S : Store} {n q : Nat} {m : Int}, Pen S n q → 0 < m → m < 1073741824 →
  Ok (call [.ref n, .int m] S) (fun v S' => ∃ x, v = .int x ∧ (0 ≤ x ∧ x < m) ∧ Keep S S' [n] ∧ Pen S' n q) X0
def PenSpec (call : List D → M D) : Prop := ∀ {S : Store} {n : Nat} {cs : List Int}, S.get n = some (.rol (cs.map .int)) → cs.length ≤ 63 →
  Ok (call [.ref n] S) (fun v S' => ∃ k q, v = .ref k ∧ S.size ≤ k ∧ S.size ≤ q ∧ Keep S S' [] ∧ Pen S' k q) X0
theorem Pen.lt {S n q} (h : Pen S n q) : n < S.size ∧ q < S.size := by
  obtain ⟨a, z, h1⟩ := h.ex
  obtain ⟨cs, h2, _⟩ := h.cs
  exact ⟨Store.get_lt h1, Store.get_lt h2⟩
theorem Pen.ne {S n q} (h : Pen S n q) : q ≠ n := fun e => by
  obtain ⟨a, z, h1⟩ := h.ex
  obtain ⟨cs, h2, _⟩ := h.cs
  subst e
  rw [h1] at h2
  have h3 := Option.some.inj h2
  injection h3 with h3
  cases cs with
  | nil => cases h3
  | cons c cs => cases h3
theorem Pen.keep {S S' n q ex} (h : Pen S n q) (k : Keep S S' ex) (h1 : n ∉ ex) (h2 : q ∉ ex) : Pen S' n q := by
  obtain ⟨a, z, g1⟩ := h.ex
  obtain ⟨cs, g2, g3⟩ := h.cs
  exact ⟨⟨a, z, k.get g1 h1⟩, ⟨cs, k.get g2 h2, g3⟩⟩
theorem draw_ok {C : Cfg} {fr : Nat} (hf : FreshSpec (C.call fr)) : DrawSpec (runFn ⟨2, 3, bDraw fr⟩ C) := by
  intro S n q m hP hm hm2
  obtain ⟨a, z, hp⟩ := hP.ex
  obtain ⟨cs, hq, hl⟩ := hP.cs
  have nq := hP.ne
  rw [ok_run]
  refine ⟨rfl, ?_⟩
  show OkS (bDraw fr C [some (.ref n), some (.int m), none] S) _
  unfold bDraw
  refine seq_mid (fun σ S2 => ∃ a2 z2 : Int, σ = [some (.ref n), some (.int m), none] ∧ S2.get n = some (.lst [.ref q, .int a2, .int z2]) ∧ S2.get q = some (.lst (cs.map .int)) ∧ Keep S S2 [n]) ?_ ?_
  · rw [oks_if]
    simp [hp, atI, ixN]
    by_cases h1 : m ≤ z
    · refine .inl ⟨h1, ?_⟩
      rw [oks_pass]
      exact ⟨rfl, ⟨a, z, hp⟩, hq, Keep.refl⟩
    · refine .inr ⟨by omega, ?_⟩
      rw [oks_item]
      simp
      refine (hf hp hq).imp fun v S' ⟨x, e, k, g⟩ => ?_
      subst e
      have hn := Store.get_lt g
      have g2 : S'.get q = some (.lst (cs.map .int)) := k.get hq (by simp [nq])
      simp [g, ixN]
      refine ⟨⟨a + 1, x, Store.get_set_same _ hn⟩, ?_, k.trans (Keep.set _ hn (List.mem_singleton.mpr rfl))⟩
      rw [Store.get_set_ne _ hn nq]
      exact g2
  · rintro σ S2 ⟨a2, z2, rfl, g1, g2, k2⟩
    have hn := Store.get_lt g1
    have m0 : m ≠ 0 := by omega
    have mb : m.natAbs < 1073741824 := by omega
    rw [oks_seq, oks_set]
    simp [g1, atI, ixN, m0]
    rw [oks_seq, oks_item]
    simp [g1, atI, ixN, m0, mb]
    rw [oks_ret]
    simp
    refine ⟨fmod_lt _ hm, k2.trans (Keep.set _ hn (List.mem_singleton.mpr rfl)), ⟨⟨a2, _, Store.get_set_same _ hn⟩, ⟨cs, ?_, hl⟩⟩⟩
    rw [Store.get_set_ne _ hn nq]
    exact g2
theorem pen_ok {C : Cfg} : PenSpec (runFn ⟨1, 1, bPen⟩ C) := by
  intro S n cs hg hl
  rw [ok_run]
  refine ⟨rfl, ?_⟩
  show OkS (bPen C [some (.ref n)] S) _
  unfold bPen
  rw [oks_ret]
  have e1 : lstAt S n = some (cs.map .int) := by unfold lstAt; rw [hg]
  have hc : cut (cs.map D.int) none (some 63) = cs.map .int := by
    show ((cs.map D.int).drop 0).take (min 63 (cs.map D.int).length - 0) = _
    rw [List.drop_zero, Nat.sub_zero, List.take_of_length_le (by rw [List.length_map]; omega)]
  have z1 : ∀ Q : D → Store → Prop, OkP (opCut (.ref n) none (some 63) S) Q = Q (.ref S.size) (S.push (.lst (cs.map .int))) := fun Q => by
    unfold opCut
    simp only [e1, hc, List.length_map]
    rw [if_pos (by unfold line; omega)]; rfl
  have z2 : ∀ Q : D → Store → Prop, OkP (bListX [.ref S.size] (S.push (.lst (cs.map .int)))) Q = Q (.ref (S.size + 1)) ((S.push (.lst (cs.map .int))).push (.lst (cs.map .int))) := fun Q => by
    unfold bListX bListS lstAt
    simp only [Store.get_push_same]; rfl
  simp [z1, z2]
  refine ⟨by unfold line; omega, ?_⟩
  refine ⟨by simp [Store.size_push]; omega, S.size + 1, by omega, ((Keep.push _).trans (Keep.push _)).trans (Keep.push _), ⟨⟨0, 0, Store.get_push_same _ _⟩, ⟨cs, ?_, hl⟩⟩⟩
  rw [Store.get_push_lt (by simp [Store.size_push])]
  exact Store.get_push_same _ _

/-- signs, as texts -/
def sgn (l : List Nat) : List D := l.map fun c => .str [c]
theorem strsOf_sgn : ∀ l : List Nat, strsOf (sgn l) = some (l.map fun c => [c])
  | [] => rfl
  | c :: l => by
    show (strsOf (sgn l)).map ([c] :: ·) = _
    rw [strsOf_sgn l]; rfl
theorem flat_sgn : ∀ l : List Nat, (l.map fun c => [c]).flatten = l
  | [] => rfl
  | c :: l => by rw [List.map_cons, List.flatten_cons, flat_sgn l]; rfl
theorem sum_sgn : ∀ l : List Nat, ((l.map fun c => [c]).map fun y => y.length + ([] : List Nat).length).sum = l.length
  | [] => rfl
  | c :: l => by
    rw [List.map_cons, List.map_cons, List.sum_cons, sum_sgn l, List.length_cons]
    simp only [List.length_cons, List.length_nil]
    omega
theorem p_joinS {S : Store} {n : Nat} {l : List Nat} {Q : D → Store → Prop} (h : S.get n = some (.lst (sgn l))) : OkP (mJoin (.str []) [.ref n] S) Q = (l.length ≤ line ∧ Q (.str l) S) := by
  rw [p_join h (strsOf_sgn l), sum_sgn, joinL_nil, flat_sgn]
theorem okR_nat {i : Int} (h0 : 0 ≤ i) (h1 : i < 4611686018427387904) : okR i = true := by
  unfold okR
  rw [decide_eq_true (by omega : -4611686018427387904 ≤ i), decide_eq_true h1]; rfl
def StringSpec (call : List D → M D) : Prop := ∀ {S : Store} {n q sg most : Nat}, Pen S n q → 0 < sg → sg ≤ 3 → most < 1000000 →
  Ok (call [.ref n, .int sg, .int most] S) (fun v S' => ∃ l : List Nat, v = .str l ∧ (l.length ≤ most ∧ ∀ c ∈ l, c ∈ [97, 98, 99].take sg) ∧ Keep S S' [n] ∧ Pen S' n q) X0
theorem string_ok {C : Cfg} {dr : Nat} (hd : DrawSpec (C.call dr)) : StringSpec (runFn ⟨3, 4, bString dr⟩ C) := by
  intro S n q sg most hP h0 h3 hm
  rw [ok_run]
  refine ⟨rfl, ?_⟩
  show OkS (bString dr C [some (.ref n), some (.int sg), some (.int most), none] S) _
  unfold bString
  rw [oks_ret]
  simp [ok_lc]
  refine (hd hP (by omega) (by omega)).imp fun v S1 ⟨x, e, hx, k1, P1⟩ => ?_
  subst e
  obtain ⟨x, rfl⟩ : ∃ y : Nat, x = y := ⟨x.toNat, by omega⟩
  have lt := P1.lt
  have hok : okR (x : Int) = true := okR_nat (by omega) (by omega)
  simp [hok]
  refine Ok.imp (lc_seq (Q := fun S2 => ∃ l : List Nat, S2.get S1.size = some (.lst (sgn l)) ∧ (l.length ≤ x ∧ ∀ c ∈ l, c ∈ [97, 98, 99].take sg) ∧ Keep S S2 [n] ∧ Pen S2 n q) (by rw [rangeL_len]; unfold turns; omega)
    (fun i acc S' => (∃ l : List Nat, acc = sgn l ∧ (l.length ≤ i ∧ ∀ c ∈ l, c ∈ [97, 98, 99].take sg)) ∧ S'.get S1.size = some (.lst acc) ∧ Keep S1 S' [n] ∧ Pen S' n q) ?_ (fun _ _ _ h => h.2.1) ?_ (by rw [rangeL_len]; unfold line; omega) ?_) ?_
  · exact ⟨⟨[], rfl, Nat.zero_le _, fun c h => nomatch h⟩, Store.get_push_same _ _, Keep.push _, P1.keep (ex := []) (Keep.push _) (by simp) (by simp)⟩
  · rintro i d acc S' hd' ha ⟨⟨l, rfl, hl, hc⟩, g, k, P⟩
    refine ⟨_, by simp [wipe]; rfl, ?_⟩
    simp
    refine (hd P (by omega) (by omega)).imp fun v S2 ⟨y, e, hy, k2, P2⟩ => ?_
    subst e
    have hz : ∃ c, ([97, 98, 99] : List Nat)[y.toNat]? = some c ∧ c ∈ ([97, 98, 99] : List Nat).take sg := by
      have hlt : y.toNat < ([97, 98, 99] : List Nat).length := by simp; omega
      refine ⟨_, List.getElem?_eq_getElem hlt, ?_⟩
      rw [List.mem_take_iff_getElem]
      exact ⟨y.toNat, by simp; omega, rfl⟩
    obtain ⟨c, hz, hcs⟩ := hz
    have hix : ixN 3 y = some y.toNat := ixN_at hy.1 (by omega)
    simp [atI, hix, hz]
    have g2 : S2.get S1.size = some (.lst (sgn l)) := k2.get g (by simp; omega)
    have hs := Store.get_lt g2
    refine ⟨c, ⟨by unfold line; omega, rfl⟩, g2, ⟨l ++ [c], by simp [sgn], by simp; omega, ?_⟩, Store.get_set_same _ hs, ?_, ?_⟩
    · intro c' h'
      rcases List.mem_append.mp h' with h' | h'
      · exact hc c' h'
      · rw [List.mem_singleton.mp h']; exact hcs
    · exact (k.trans k2).set_new _ (Nat.le_refl _) hs
    · exact P2.keep (ex := [S1.size]) (Keep.set _ hs (by simp)) (by simp; omega) (by simp; omega)
  · rintro acc S' ha ⟨⟨l, rfl, hl, hc⟩, g, k, P⟩
    rw [rangeL_len] at hl
    exact ⟨l, g, ⟨by omega, hc⟩, k1.trans k, P⟩
  · rintro _ S2 ⟨l, g, ⟨hl, hc⟩, k, P⟩
    simp [p_joinS g]
    exact ⟨by unfold line; omega, ⟨by omega, hc⟩, k, P⟩
end MP

/-! MP: words: what contains, positions, progress_of do. Own work. -/
namespace MP
/-! ### words, in plain Lean -/
/-- the place of each sign of p, as early as possible, from st on -/
def posL (l : List Nat) : Nat → List Nat → Option (List Nat)
  | _, [] => some []
  | st, c :: p => match findC c (l.drop st) st with
    | some j => (posL l (j + 1) p).map (j :: ·)
    | none => none
theorem findC_split {c : Nat} : ∀ {l : List Nat} {i j : Nat}, findC c l i = some j → ∃ pre post, l = pre ++ c :: post ∧ c ∉ pre ∧ j = i + pre.length
  | [], _, _, h => by cases h
  | a :: r, i, j, h => by
    unfold findC at h
    by_cases e : a = c
    · rw [if_pos e] at h
      cases h
      exact ⟨[], r, by rw [e]; rfl, by simp, rfl⟩
    · rw [if_neg e] at h
      obtain ⟨pre, post, h1, h2, h3⟩ := findC_split h
      refine ⟨a :: pre, post, by rw [h1]; rfl, ?_, by rw [List.length_cons]; omega⟩
      simp only [List.mem_cons, not_or]
      exact ⟨fun z => e z.symm, h2⟩
theorem findC_no {c : Nat} : ∀ {l : List Nat} {i : Nat}, findC c l i = none → c ∉ l
  | [], _, _ => by simp
  | a :: r, i, h => by
    unfold findC at h
    by_cases e : a = c
    · rw [if_pos e] at h; cases h
    · rw [if_neg e] at h
      simp only [List.mem_cons, not_or]
      exact ⟨fun z => e z.symm, findC_no h⟩
theorem sub_split {c : Nat} {p post : List Nat} : ∀ {pre : List Nat}, c ∉ pre → ((c :: p).Sublist (pre ++ c :: post) ↔ p.Sublist post)
  | [], _ => by simp
  | a :: pre, h => by
    simp only [List.mem_cons, not_or] at h
    have ih := sub_split (p := p) (post := post) (pre := pre) h.2
    rw [List.cons_append, List.sublist_cons_iff, ih]
    constructor
    · rintro (z | ⟨r, z, _⟩)
      · exact z
      · injection z with z1 z2
        exact absurd z1 h.1
    · exact fun z => .inl z
theorem posL_sub (l : List Nat) : ∀ (p : List Nat) (st : Nat), (posL l st p).isSome = true ↔ p.Sublist (l.drop st)
  | [], st => by simp [posL]
  | c :: p, st => by
    unfold posL
    cases h : findC c (l.drop st) st with
    | none =>
      simp only [Option.isSome_none, Bool.false_eq_true, false_iff]
      exact fun z => findC_no h (z.subset (List.mem_cons_self ..))
    | some j =>
      simp only [Option.isSome_map]
      rw [posL_sub l p (j + 1)]
      obtain ⟨pre, post, h1, h2, h3⟩ := findC_split h
      rw [h1, sub_split h2]
      have e : l.drop (j + 1) = post := by
        have e1 : l.drop (j + 1) = (l.drop st).drop (pre.length + 1) := by rw [List.drop_drop, h3, Nat.add_assoc]
        rw [e1, h1, List.drop_append, List.drop_eq_nil_of_le (by omega), List.nil_append, show pre.length + 1 - pre.length = 1 by omega]
        rfl
      rw [e]
theorem posL_cons {l : List Nat} {st c : Nat} {p : List Nat} : posL l st (c :: p) = (match findC c (l.drop st) st with
    | some j => (posL l (j + 1) p).map (j :: ·)
    | none => none) := rfl
/-- p is contained in l -/
def has (l p : List Nat) : Bool := (posL l 0 p).isSome
theorem has_iff {l p : List Nat} : has l p = true ↔ p.Sublist l := by
  unfold has
  rw [posL_sub, List.drop_zero]
/-- how many signs of p are found from the left, n of them already -/
def prog (p : List Nat) : List Nat → Nat → Nat
  | [], n => n
  | c :: l, n => prog p l (if p[n]? = some c then n + 1 else n)
theorem prog_cons {p l : List Nat} {c n : Nat} : prog p (c :: l) n = prog p l (if p[n]? = some c then n + 1 else n) := rfl
theorem prog_app (p : List Nat) : ∀ (l l' : List Nat) (n : Nat), prog p (l ++ l') n = prog p l' (prog p l n)
  | [], _, _ => rfl
  | c :: l, l', n => by
    rw [List.cons_append]
    show prog p (l ++ l') _ = prog p l' (prog p l _)
    rw [prog_app p l l']
theorem prog_drop (p : List Nat) (k : Nat) : ∀ (l : List Nat) (n : Nat), prog p l (k + n) = k + prog (p.drop k) l n
  | [], _ => rfl
  | c :: l, n => by
    show prog p l (if p[k + n]? = some c then k + n + 1 else k + n) = k + prog (p.drop k) l (if (p.drop k)[n]? = some c then n + 1 else n)
    rw [List.getElem?_drop]
    by_cases h : p[k + n]? = some c
    · rw [if_pos h, if_pos h]; exact prog_drop p k l (n + 1)
    · rw [if_neg h, if_neg h]; exact prog_drop p k l n

/-! ### the program's functions -/
def bPositions : MS := sSeq (sSet (.nm 2) (eLst (aNil))) (sSeq (sSet (.nm 3) (eC (.int 0))) (sSeq (sFor (.nm 4) (iSeq (eVar 1)) (sSeq (sSet (.nm 5) (eBM tyStr mFind (eVar 0) (aCons (eVar 4) (aCons (eVar 3) (aNil))))) (sSeq (sIf (MP.tB (e2 opLt (eVar 5) (eC (.int 0)))) (sRet (eC .non)) (sPass)) (sSeq (sExpr (eBM tyLst mAppend (eVar 2) (aCons (eVar 5) (aNil)))) (sSet (.nm 3) (e2 opAdd (eVar 5) (eC (.int 1)))))))) (sRet (eB bTuple (aCons (eVar 2) (aNil))))))
def bContains (ps : Nat) : MS := sRet (e2 opIsNot (eCall ps (aCons (eVar 0) (aCons (eVar 1) (aNil))) []) (eC .non))
def bProgress : MS := sSeq (sSet (.nm 2) (eC (.int 0))) (sSeq (sFor (.nm 3) (iSeq (eVar 0)) (sIf (MP.tAnd (MP.tB (e2 opLt (eVar 2) (eB bLen (aCons (eVar 1) (aNil))))) (MP.tB (e2 opEq (e2 opItem (eVar 1) (eVar 2)) (eVar 3)))) (sAug 2 opIAdd (eC (.int 1))) (sPass))) (sRet (eVar 2)))
/-- positions, as a value -/
def posD (l p : List Nat) : D := match posL l 0 p with
  | some ps => .tup (ps.map fun (n : Nat) => .int n)
  | none => .non
def PosSpec (call : List D → M D) : Prop := ∀ {S : Store} {l p : List Nat}, p.length ≤ 1000000 → Ok (call [.str l, .str p] S) (fun v S' => v = posD l p ∧ Keep S S' []) X0
def HasSpec (call : List D → M D) : Prop := ∀ {S : Store} {l p : List Nat}, p.length ≤ 1000000 → Ok (call [.str l, .str p] S) (fun v S' => v = .bl (has l p) ∧ Keep S S' []) X0
def ProgSpec (call : List D → M D) : Prop := ∀ {S : Store} {l p : List Nat}, l.length ≤ 1000000 → p.length ≤ 1000000 → Ok (call [.str l, .str p] S) (fun v S' => v = .int (prog p l 0 : Nat) ∧ S' = S) X0
theorem sgn_at {l : List Nat} {i : Nat} {d : D} (h : (sgn l)[i]? = some d) : ∃ c, l[i]? = some c ∧ d = .str [c] := by
  unfold sgn at h
  rw [List.getElem?_map] at h
  obtain ⟨c, h1, h2⟩ := Option.map_eq_some_iff.mp h
  exact ⟨c, h1, h2.symm⟩
theorem sgn_len (l : List Nat) : (sgn l).length = l.length := by unfold sgn; rw [List.length_map]
theorem tyLst_of {S : Store} {n : Nat} {xs : List D} (h : S.get n = some (.lst xs)) : tyLst (.ref n) S = true := by
  unfold tyLst; simp only [h]
theorem positions_ok {C : Cfg} : PosSpec (runFn ⟨2, 6, bPositions⟩ C) := by
  intro S l p hp
  rw [ok_run]
  refine ⟨rfl, ?_⟩
  show OkS (bPositions C [some (.str l), some (.str p), none, none, none, none] S) _
  unfold bPositions
  rw [oks_seq, oks_set]
  simp
  rw [oks_seq, oks_set]
  simp
  rw [oks_seq, oks_for]
  simp
  refine for_seq (xs := sgn p) (by rw [sgn_len]; unfold turns; omega) (fun i σ S' => ∃ (fnd : List Nat) (st : Nat) (x4 x5 : Option D), σ = [some (.str l), some (.str p), some (.ref S.size), some (.int st), x4, x5] ∧
    S'.get S.size = some (.lst (fnd.map fun (n : Nat) => .int n)) ∧ Keep S S' [] ∧ fnd.length = i ∧ posL l 0 p = (posL l st (p.drop i)).map (fnd ++ ·)) ?_ ?_ ?_
  · refine ⟨[], 0, none, none, rfl, Store.get_push_same _ _, Keep.push _, rfl, ?_⟩
    rw [List.drop_zero]
    cases posL l 0 p <;> rfl
  · rintro i d σ S' hd ⟨fnd, st, x4, x5, rfl, g, k, hl, e⟩
    obtain ⟨c, hc, rfl⟩ := sgn_at hd
    have hi := (List.getElem?_eq_some_iff.mp hc).1
    have hdrop : p.drop i = c :: p.drop (i + 1) := by
      rw [List.drop_eq_getElem_cons hi]
      congr 1
      exact Option.some.inj ((List.getElem?_eq_getElem hi).symm.trans hc)
    refine ⟨_, by simp; rfl, ?_⟩
    rw [oks_seq, oks_set]
    simp
    rw [hdrop, posL_cons] at e
    cases hf : findC c (l.drop st) st with
    | none =>
      simp only [hf] at e
      rw [oks_seq, oks_if]
      simp
      rw [oks_ret]
      have e2 : posL l 0 p = none := e
      simp [posD, e2, k]
    | some j =>
      simp only [hf] at e
      have hs := Store.get_lt g
      rw [oks_seq, oks_if]
      simp
      refine .inl ?_
      rw [oks_pass]
      dsimp only
      rw [oks_seq, oks_expr]
      have ht := tyLst_of g
      simp [ht, g]
      refine ⟨by unfold line; omega, ?_⟩
      rw [oks_set]
      simp
      refine ⟨fnd ++ [j], j + 1, by omega, by simp [Store.get_set_same _ hs], k.set_new _ (Nat.le_refl _) hs, by simp [hl], ?_⟩
      rw [e]
      cases posL l (j + 1) (p.drop (i + 1)) <;> simp
  · rintro σ S' ⟨fnd, st, x4, x5, rfl, g, k, hl, e⟩
    dsimp only
    rw [oks_ret]
    simp [g, k]
    rw [sgn_len, List.drop_length] at e
    have e2 : posL l 0 p = some fnd := by rw [e]; simp [posL]
    unfold posD
    rw [e2]
theorem contains_ok {C : Cfg} {ps : Nat} (hp : PosSpec (C.call ps)) : HasSpec (runFn ⟨2, 2, bContains ps⟩ C) := by
  intro S l p h
  rw [ok_run]
  refine ⟨rfl, ?_⟩
  show OkS (bContains ps C [some (.str l), some (.str p)] S) _
  unfold bContains
  rw [oks_ret]
  simp
  refine (hp h).imp fun v S' ⟨e, k⟩ => ?_
  subst e
  unfold posD has
  cases posL l 0 p with
  | none => exact ⟨rfl, k⟩
  | some ps => exact ⟨rfl, k⟩
theorem progress_ok {C : Cfg} : ProgSpec (runFn ⟨2, 4, bProgress⟩ C) := by
  intro S l p hl hp
  rw [ok_run]
  refine ⟨rfl, ?_⟩
  show OkS (bProgress C [some (.str l), some (.str p), none, none] S) _
  unfold bProgress
  rw [oks_seq, oks_set]
  simp
  rw [oks_seq, oks_for]
  simp
  refine for_seq (xs := sgn l) (by rw [sgn_len]; unfold turns; omega) (fun i σ S' => ∃ (n : Nat) (x3 : Option D), σ = [some (.str l), some (.str p), some (.int n), x3] ∧ S' = S ∧ prog p l 0 = prog p (l.drop i) n) ?_ ?_ ?_
  · exact ⟨0, none, rfl, rfl, by rw [List.drop_zero]⟩
  · rintro i d σ S' hd ⟨n, x3, rfl, rfl, e⟩
    obtain ⟨c, hc, rfl⟩ := sgn_at hd
    have hi := (List.getElem?_eq_some_iff.mp hc).1
    have hdrop : l.drop i = c :: l.drop (i + 1) := by
      rw [List.drop_eq_getElem_cons hi]
      congr 1
      exact Option.some.inj ((List.getElem?_eq_getElem hi).symm.trans hc)
    rw [hdrop, prog_cons] at e
    refine ⟨_, by simp; rfl, ?_⟩
    have hpl : p.length ≤ line := by unfold line; omega
    rw [oks_if]
    simp [hpl]
    by_cases hn : n < p.length
    · refine .inr ⟨hn, ?_⟩
      obtain ⟨z, hz⟩ : ∃ z, p[n]? = some z := ⟨_, List.getElem?_eq_getElem hn⟩
      have hix : ixN p.length (n : Int) = some n := by
        have := ixN_at (n := p.length) (i := (n : Int)) (by omega) (by omega)
        simpa using this
      have hat : atI p (n : Int) = some z := by unfold atI; rw [hix]; exact hz
      refine ⟨z, hat, ?_⟩
      by_cases hzc : z = c
      · subst hzc
        rw [if_pos hz] at e
        refine .inr ⟨rfl, ?_⟩
        rw [oks_aug]
        simp
        exact ⟨n + 1, by omega, e⟩
      · rw [hz, if_neg (fun h => hzc (Option.some.inj h))] at e
        refine .inl ⟨hzc, ?_⟩
        rw [oks_pass]
        exact ⟨n, ⟨_, rfl⟩, rfl, e⟩
    · rw [List.getElem?_eq_none (by omega), if_neg (by simp)] at e
      refine .inl ⟨by omega, ?_⟩
      rw [oks_pass]
      exact ⟨n, ⟨_, rfl⟩, rfl, e⟩
  · rintro σ S' ⟨n, x3, rfl, rfl, e⟩
    dsimp only
    rw [oks_ret]
    simp
    rw [sgn_len, List.drop_length] at e
    rw [e]; rfl
theorem cut_take {l : List Nat} {i : Int} (h : 0 ≤ i) : cut l none (some i) = l.take i.toNat := by
  show ((l.drop 0).take ((if i < 0 then (max (i + l.length) 0).toNat else min i.toNat l.length) - 0)) = _
  rw [if_neg (by omega), List.drop_zero, Nat.sub_zero]
  by_cases hl : i.toNat ≤ l.length
  · rw [Nat.min_eq_left hl]
  · rw [Nat.min_eq_right (by omega), List.take_length, List.take_of_length_le (by omega)]
theorem cut_drop {l : List Nat} {i : Int} (h : 0 ≤ i) : cut l (some i) none = l.drop i.toNat := by
  show ((l.drop (if i < 0 then (max (i + l.length) 0).toNat else min i.toNat l.length)).take (l.length - (if i < 0 then (max (i + l.length) 0).toNat else min i.toNat l.length))) = _
  rw [if_neg (by omega)]
  by_cases hl : i.toNat ≤ l.length
  · rw [Nat.min_eq_left hl, List.take_of_length_le (by rw [List.length_drop]; omega)]
  · rw [Nat.min_eq_right (by omega), List.drop_length, List.drop_eq_nil_of_le (by omega)]; simp
end MP

/-! MP: more operations by kinds, in plain Lean. Own work. -/
namespace MP
section
variable {S : Store} {Q : D → Store → Prop} {C : Cfg} {σ : Slots} {T : Pt}
@[simp] theorem p_muls {a : List Nat} {k : Int} : OkP (opMul (.str a) (.int k) S) Q = ((0 ≤ k ∧ k < 1000000 ∧ a.length * k.toNat ≤ line) ∧ Q (.str (repeatL k.toNat a)) S) := okp_if
@[simp] theorem p_isB {a b : Bool} : OkP (opIs (.bl a) (.bl b) S) Q = Q (.bl (decide (a = b))) S := id rfl
@[simp] theorem p_isNotB {a b : Bool} : OkP (opIsNot (.bl a) (.bl b) S) Q = Q (.bl (!decide (a = b))) S := id rfl
@[simp] theorem p_isaT {t : Ty} {xs : List D} : OkP (opIsA t (.tup xs) S) Q = Q (.bl (Ty.le .tup t)) S := id rfl
@[simp] theorem p_isaS {t : Ty} {l : List Nat} : OkP (opIsA t (.str l) S) Q = Q (.bl (Ty.le .str t)) S := id rfl
@[simp] theorem p_isaI {t : Ty} {i : Int} : OkP (opIsA t (.int i) S) Q = Q (.bl (Ty.le .int t)) S := id rfl
@[simp] theorem p_isaB {t : Ty} {b : Bool} : OkP (opIsA t (.bl b) S) Q = Q (.bl (Ty.le .bl t)) S := id rfl
@[simp] theorem p_isaN {t : Ty} : OkP (opIsA t .non S) Q = Q (.bl (Ty.le .non t)) S := id rfl
/-- what repr of a flag gives -/
def rB (b : Bool) : List Nat := (if b then PySem.Str.ofString "True" else PySem.Str.ofString "False").cps.toList
theorem rB_inj {a b : Bool} (h : rB a = rB b) : a = b := by
  cases a <;> cases b <;> first | rfl | (revert h; decide +kernel)
theorem p_repr {x : D} {d : PySem.PyData} (hs : snap S deep x = some d) (h1 : d.showable = true) (h2 : d.shown.length ≤ line) : OkP (bRepr [x] S) Q = Q (.str d.shown.cps.toList) S := by
  unfold bRepr
  simp only [hs]
  rw [if_pos ⟨h1, h2⟩]
  rfl
@[simp] theorem p_reprB {b : Bool} : OkP (bRepr [.bl b] S) Q = Q (.str (rB b)) S := p_repr (d := .bool b) rfl rfl (by cases b <;> decide +kernel)
@[simp] theorem p_listS {l : List Nat} : OkP (bListX [.str l] S) Q = (l.length ≤ line ∧ Q (.ref S.size) (S.push (.lst (sgn l)))) := okp_if
theorem within_one {c : Nat} : ∀ l : List Nat, within [c] l = decide (c ∈ l)
  | [] => by simp [within]
  | d :: r => by
    unfold within
    rw [within_one r]
    simp [List.isPrefixOf]
    by_cases h : c = d <;> simp [h]
@[simp] theorem p_in1 {c : Nat} {l : List Nat} : OkP (opIn (.str [c]) (.str l) S) Q = Q (.bl (decide (c ∈ l))) S := by
  show OkP (some (D.bl (within [c] l), S)) Q = _
  rw [within_one]; rfl
@[simp] theorem p_zipTS {xs : List D} {l : List Nat} {Q : It → Store → Prop} : OkP (zpP (.tup xs) (.str l) S) Q = Q (.zip false [.seq xs, .seq (sgn l)]) S := id rfl
/-- pairs -/
def prs (xs ys : List D) : List D := List.zipWith (fun a b => .tup [a, b]) xs ys
theorem next_zip {xs ys : List D} (i : Nat) : It.next S (.zip false [.seq xs, .seq ys]) i = It.next S (.seq (prs xs ys)) i := by
  unfold It.next It.nexts It.nexts It.nexts It.next
  unfold prs
  rw [List.getElem?_zipWith]
  cases xs[i]? <;> cases ys[i]? <;> rfl
theorem for_next {t u : It} {g : Tg} {b : MS} (h : ∀ S i, It.next S t i = It.next S u i) : ∀ n i σ S, forN t g b C n i σ S = forN u g b C n i σ S
  | 0, _, _, _ => rfl
  | n + 1, i, σ, S => by
    unfold forN
    rw [h S i]
    cases It.next S u i with
    | none => rfl
    | some o =>
      cases o with
      | none => rfl
      | some d =>
        simp only
        cases asg S g d σ with
        | none => rfl
        | some σ1 =>
          simp only
          cases b C σ1 S <;> first | rfl | exact for_next h n (i + 1) _ _
theorem for_zip {xs ys : List D} {g : Tg} {b : MS} : forN (.zip false [.seq xs, .seq ys]) g b C turns 0 σ S = forN (.seq (prs xs ys)) g b C turns 0 σ S := for_next (fun _ i => next_zip i) _ _ _ _
theorem prs_at {xs ys : List D} {i : Nat} {d : D} (h : (prs xs ys)[i]? = some d) : ∃ a b, xs[i]? = some a ∧ ys[i]? = some b ∧ d = .tup [a, b] := by
  unfold prs at h
  rw [List.getElem?_zipWith] at h
  cases h1 : xs[i]? with
  | none => rw [h1] at h; simp at h
  | some a =>
    cases h2 : ys[i]? with
    | none => rw [h1, h2] at h; simp at h
    | some b => rw [h1, h2] at h; exact ⟨a, b, rfl, rfl, by simpa using h.symm⟩
theorem prs_len {xs ys : List D} : (prs xs ys).length = min xs.length ys.length := by unfold prs; rw [List.length_zipWith]
/-- lists of texts -/
def strD (ys : List (List Nat)) : List D := ys.map .str
theorem snap_strs (S : Store) (k : Nat) : ∀ ys : List (List Nat), optAll (snap S (k + 1)) (strD ys) = some (ys.map fun s => PySem.PyData.str ⟨s.toArray⟩)
  | [] => rfl
  | y :: ys => by
    show optAll (snap S (k + 1)) (.str y :: strD ys) = _
    rw [optAll, snap_strs S k ys]
    rfl
theorem eqv_strs : ∀ xs ys : List (List Nat), PySem.PyData.eqv (.list (xs.map fun s => .str ⟨s.toArray⟩)) (.list (ys.map fun s => .str ⟨s.toArray⟩)) = decide (xs = ys)
  | [], [] => rfl
  | [], _ :: _ => rfl
  | _ :: _, [] => rfl
  | x :: xs, y :: ys => by
    have ih := eqv_strs xs ys
    have e : PySem.PyData.eqv (.list ((x :: xs).map fun s => .str ⟨s.toArray⟩)) (.list ((y :: ys).map fun s => .str ⟨s.toArray⟩)) = (PySem.PyData.eqv (.str ⟨x.toArray⟩) (.str ⟨y.toArray⟩) && PySem.PyData.eqv (.list (xs.map fun s => .str ⟨s.toArray⟩)) (.list (ys.map fun s => .str ⟨s.toArray⟩))) := by
      simp [PySem.PyData.eqv, PySem.PyData.eqvAll]
    rw [e, ih, eqv_str, Bool.eq_iff_iff]
    simp
theorem p_neStrs {n k : Nat} {xs ys : List (List Nat)} (h1 : S.get n = some (.lst (strD xs))) (h2 : S.get k = some (.lst (strD ys))) : OkP (opNe (.ref n) (.ref k) S) Q = Q (.bl (!decide (xs = ys))) S := by
  have e : ∀ n xs, S.get n = some (.lst (strD xs)) → snap S deep (.ref n) = some (.list (xs.map fun s => .str ⟨s.toArray⟩)) := fun n xs h => by
    show (match lstAt S n with
      | some xs => (optAll (snap S 39) xs).map PySem.PyData.list
      | none => none) = _
    unfold lstAt; rw [h]
    show (optAll (snap S 39) (strD xs)).map PySem.PyData.list = _
    rw [snap_strs]; rfl
  unfold opNe eqD
  rw [e n xs h1, e k ys h2]
  show OkP (some (D.bl (!PySem.PyData.eqv _ _), S)) Q = _
  rw [eqv_strs]; rfl
theorem sgn_strD (l : List Nat) : sgn l = strD (l.map fun c => [c]) := by unfold sgn strD; rw [List.map_map]; rfl
@[simp] theorem asg_pair {i j : Nat} {a b : D} : asg S (.tp [.nm i, .nm j]) (.tup [a, b]) σ = (if i < σ.length then if j < (σ.set i (some a)).length then some ((σ.set i (some a)).set j (some b)) else none else none) := by
  show (match asg S (.nm i) a σ with
    | some σ' => asgs S [.nm j] [b] σ'
    | none => none) = _
  rw [asg_nm]
  by_cases h : i < σ.length
  · rw [if_pos h, if_pos h]
    show (match asg S (.nm j) b (σ.set i (some a)) with
      | some σ' => asgs S [] [] σ'
      | none => none) = _
    rw [asg_nm]
    by_cases h2 : j < (σ.set i (some a)).length
    · rw [if_pos h2]; rfl
    · rw [if_neg h2]
  · rw [if_neg h, if_neg h]
end
end MP

/-! MP: the laws' own walk of a pattern, in plain Lean. Own work. -/
namespace MP
theorem prog_full (p : List Nat) : ∀ (l : List Nat) (n : Nat), n ≤ p.length → (prog p l n = p.length ↔ (p.drop n).Sublist l)
  | [], n, h => by
    show n = p.length ↔ _
    rw [List.sublist_nil, List.drop_eq_nil_iff]
    omega
  | c :: l, n, h => by
    rw [prog_cons]
    by_cases hc : p[n]? = some c
    · have hn := (List.getElem?_eq_some_iff.mp hc).1
      have e : p.drop n = c :: p.drop (n + 1) := by
        rw [List.drop_eq_getElem_cons hn]
        congr 1
        exact (List.getElem?_eq_some_iff.mp hc).2
      rw [if_pos hc, prog_full p l (n + 1) hn, e, List.cons_sublist_cons]
    · rw [if_neg hc, prog_full p l n h]
      cases e : p.drop n with
      | nil => simp
      | cons d r =>
        rw [List.sublist_cons_iff]
        refine ⟨.inl, ?_⟩
        rintro (z | ⟨r', z, _⟩)
        · exact z
        · injection z with z1 z2
          exfalso
          refine hc ?_
          have := List.getElem?_drop (xs := p) (i := n) (j := 0)
          rw [e, Nat.add_zero] at this
          rw [← this, z1]
          rfl
theorem has_prog (l p : List Nat) : decide (prog p l 0 = p.length) = has l p := by
  rw [Bool.eq_iff_iff, decide_eq_true_eq, has_iff, prog_full p l 0 (Nat.zero_le _), List.drop_zero]
theorem find_at {l : List Nat} {st c j : Nat} (h : findC c (l.drop st) st = some j) : st ≤ j ∧ l[j]? = some c ∧ c ∉ (l.drop st).take (j - st) := by
  obtain ⟨pre, post, h1, h2, rfl⟩ := findC_split h
  refine ⟨Nat.le_add_right _ _, ?_, ?_⟩
  · rw [← List.getElem?_drop, h1]
    simp
  · rw [h1, show st + pre.length - st = pre.length by omega, List.take_left]
    exact h2
theorem posL_at (l : List Nat) : ∀ (p : List Nat) (st : Nat) (ps : List Nat), posL l st p = some ps → ps.map (fun j => l[j]?) = p.map some
  | [], st, ps, h => by
    cases (show some [] = some ps from h)
    rfl
  | c :: p, st, ps, h => by
    rw [posL_cons] at h
    cases hf : findC c (l.drop st) st with
    | none => rw [hf] at h; cases h
    | some j =>
      rw [hf] at h
      obtain ⟨qs, h1, rfl⟩ := Option.map_eq_some_iff.mp h
      rw [List.map_cons, List.map_cons, posL_at l p (j + 1) qs h1, (find_at hf).2.1]
theorem cut_ab {l : List Nat} {a b : Nat} : cut l (some (a : Int)) (some (b : Int)) = (l.drop (min a l.length)).take (min b l.length - min a l.length) := by
  have e : ∀ k d : Nat, sIx l.length d (some (k : Int)) = min k l.length := fun k d => by
    show (if (k : Int) < 0 then (max ((k : Int) + (l.length : Int)) 0).toNat else min (k : Int).toNat l.length) = _
    rw [if_neg (by omega)]
    simp
  unfold cut
  rw [e, e]
theorem cut_one {p : List Nat} {n c : Nat} : cut p (some (n : Int)) (some ((n : Int) + 1)) = [c] ↔ p[n]? = some c := by
  have e : ((n : Int) + 1) = ((n + 1 : Nat) : Int) := by omega
  rw [e, cut_ab]
  by_cases h : n < p.length
  · rw [Nat.min_eq_left (by omega), Nat.min_eq_left (by omega), show n + 1 - n = 1 by omega, List.drop_eq_getElem_cons h, List.getElem?_eq_getElem h]
    show [p[n]] = [c] ↔ _
    rw [List.cons.injEq, Option.some.injEq]
    simp only [and_true]
  · rw [Nat.min_eq_right (by omega), Nat.min_eq_right (by omega), List.getElem?_eq_none (by omega), Nat.sub_self]
    simp
/-! the laws' helpers -/
def bFound : MS := sSeq (sSet (.nm 2) (eC (.int 0))) (sSeq (sFor (.nm 3) (iSeq (eVar 0)) (sIf (MP.tB (e2 opEq (eCut (eVar 1) (pSome (eVar 2)) (pSome (e2 opAdd (eVar 2) (eC (.int 1))))) (eVar 3))) (sSet (.nm 2) (e2 opAdd (eVar 2) (eC (.int 1)))) (sPass))) (sRet (eVar 2)))
def bFits (fo : Nat) : MS := sRet (e2 opEq (eCall fo (aCons (eVar 0) (aCons (eVar 1) (aNil))) []) (eB bLen (aCons (eVar 1) (aNil))))
def FitSpec (call : List D → M D) : Prop := ∀ {S : Store} {l p : List Nat}, l.length ≤ 1000000 → p.length ≤ 1000000 → Ok (call [.str l, .str p] S) (fun v S' => v = .bl (has l p) ∧ S' = S) X0
theorem found_ok {C : Cfg} : ProgSpec (runFn ⟨2, 4, bFound⟩ C) := by
  intro S l p hl hp
  rw [ok_run]
  refine ⟨rfl, ?_⟩
  show OkS (bFound C [some (.str l), some (.str p), none, none] S) _
  unfold bFound
  rw [oks_seq, oks_set]
  simp
  rw [oks_seq, oks_for]
  simp
  refine for_seq (xs := sgn l) (by rw [sgn_len]; unfold turns; omega) (fun i σ S' => ∃ (n : Nat) (x3 : Option D), σ = [some (.str l), some (.str p), some (.int n), x3] ∧ S' = S ∧ prog p l 0 = prog p (l.drop i) n) ?_ ?_ ?_
  · exact ⟨0, none, rfl, rfl, by rw [List.drop_zero]⟩
  · rintro i d σ S' hd ⟨n, x3, rfl, rfl, e⟩
    obtain ⟨c, hc, rfl⟩ := sgn_at hd
    have hi := (List.getElem?_eq_some_iff.mp hc).1
    have hdrop : l.drop i = c :: l.drop (i + 1) := by
      rw [List.drop_eq_getElem_cons hi]
      congr 1
      exact Option.some.inj ((List.getElem?_eq_getElem hi).symm.trans hc)
    rw [hdrop, prog_cons] at e
    refine ⟨_, by simp; rfl, ?_⟩
    have hpl : p.length ≤ line := by unfold line; omega
    rw [oks_if]
    simp [hpl, cut_one]
    by_cases hz : p[n]? = some c
    · rw [if_pos hz] at e
      refine .inr ⟨hz, ?_⟩
      rw [oks_set]
      simp
      exact ⟨n + 1, by omega, e⟩
    · rw [if_neg hz] at e
      refine .inl ⟨hz, ?_⟩
      rw [oks_pass]
      exact ⟨n, ⟨_, rfl⟩, rfl, e⟩
  · rintro σ S' ⟨n, x3, rfl, rfl, e⟩
    dsimp only
    rw [oks_ret]
    simp
    rw [sgn_len, List.drop_length] at e
    rw [e]; rfl
theorem fits_ok {C : Cfg} {fo : Nat} (hf : ProgSpec (C.call fo)) : FitSpec (runFn ⟨2, 2, bFits fo⟩ C) := by
  intro S l p hl hp
  rw [ok_run]
  refine ⟨rfl, ?_⟩
  show OkS (bFits fo C [some (.str l), some (.str p)] S) _
  unfold bFits
  rw [oks_ret]
  simp
  refine (hf hl hp).imp fun v S' ⟨e, e2⟩ => ?_
  subst e; subst e2
  have z : p.length ≤ line := by unfold line; omega
  simp [z]
  rw [← has_prog]
  rw [Bool.eq_iff_iff]
  simp
  omega
/-! ### enumerate, any -/
section
variable {S : Store} {C : Cfg} {σ : Slots} {T : Pt} {Q : D → Store → Prop}
/-- pairs (i, item) -/
def numD (xs : List D) : List D := xs.mapIdx fun i d => .tup [.int i, d]
theorem next_enum {xs : List D} (i : Nat) : It.next S (.enum (.seq xs)) i = It.next S (.seq (numD xs)) i := by
  unfold It.next It.next numD
  rw [List.getElem?_mapIdx]
  cases xs[i]? <;> rfl
theorem for_enum {xs : List D} {g : Tg} {b : MS} : forN (.enum (.seq xs)) g b C turns 0 σ S = forN (.seq (numD xs)) g b C turns 0 σ S := for_next (fun _ i => next_enum i) _ _ _ _
theorem numD_at {xs : List D} {i : Nat} {d : D} (h : (numD xs)[i]? = some d) : ∃ y, xs[i]? = some y ∧ d = .tup [.int i, y] := by
  unfold numD at h
  rw [List.getElem?_mapIdx] at h
  obtain ⟨y, h1, h2⟩ := Option.map_eq_some_iff.mp h
  exact ⟨y, h1, h2.symm⟩
theorem numD_len {xs : List D} : (numD xs).length = xs.length := by unfold numD; rw [List.length_mapIdx]
@[simp] theorem p_enT {xs : List D} {Q : It → Store → Prop} : OkP (enP (.tup xs) S) Q = Q (.enum (.seq xs)) S := id rfl
theorem allB_map : ∀ bs : List Bool, allB (bs.map D.bl) = some bs
  | [] => rfl
  | b :: bs => by
    rw [List.map_cons, allB, allB_map bs]
    rfl
theorem p_any {n : Nat} {bs : List Bool} (h : S.get n = some (.lst (bs.map D.bl))) : OkP (bAny [.ref n] S) Q = Q (.bl (bs.any id)) S := by
  unfold bAny lstAt
  simp only [h, allB_map]
  rfl
end
end MP

/-! MP: how long repr's texts are, in plain Lean. Own work. -/
namespace MP
open PySem (PyData Str)
mutual
/-- a bound of the text's length -/
def wt : PyData → Nat
  | .none => 4
  | .bool _ => 5
  | .int _ => 2000
  | .str s => 10 * s.length + 2
  | .list xs => wts xs + 4
  | .tuple xs => wts xs + 4
  | .dict _ => 0
def wts : List PyData → Nat
  | [] => 0
  | x :: xs => wt x + 2 + wts xs
end
mutual
/-- no dicts, signs of the right size, ints that are shown -/
def fineD : PyData → Bool
  | .none => true
  | .bool _ => true
  | .int i => decide (i.natAbs.log2 < 1920)
  | .str s => s.cps.toList.all fun c => decide (c < 16 ^ 8)
  | .list xs => fineDs xs
  | .tuple xs => fineDs xs
  | .dict _ => false
def fineDs : List PyData → Bool
  | [] => true
  | x :: xs => fineD x && fineDs xs
end
theorem piled_text (ts : List Str) : (PySem.tupleText ts).length ≤ PySem.piled ts + 4 ∧ (PySem.listText ts).length ≤ PySem.piled ts + 4 := by
  constructor
  · unfold PySem.tupleText
    rw [PySem.strLen_append, PySem.strLen_append]
    have e1 : ((("(" : String) : Str)).length = 1 := rfl
    have e3 : (((if ts.length == 1 then ",)" else ")" : String) : Str)).length ≤ 2 := by split <;> decide
    rw [e1]
    by_cases h : ts = []
    · subst h
      have e4 : (Str.join ", " ([] : List Str)).length = 0 := rfl
      rw [e4]; omega
    · have := PySem.join_length_add ts h
      omega
  · cases ts with
    | nil => rw [PySem.listText_nil]; decide
    | cons t r =>
      have h := PySem.textFrom_length_pos r 1 (("[" : Str) ++ (if (0 : Nat) > 0 then ", " else "" : String) ++ t) (Nat.succ_pos 0)
      have e : ((("[" : Str) ++ (if (0 : Nat) > 0 then ", " else "" : String) ++ t)).length = 1 + t.length := by
        rw [PySem.strLen_append, PySem.strLen_append]; rfl
      have hX : (PySem.listText (t :: r)).length = (PySem.textFrom 1 (("[" : Str) ++ (if (0 : Nat) > 0 then ", " else "" : String) ++ t) r).length + 1 := by
        show (PySem.textFrom 0 "[" (t :: r) ++ "]").length = _
        rw [PySem.strLen_append]; rfl
      rw [hX, h, e, PySem.piled_cons]
      omega
mutual
theorem shown_le : ∀ d : PyData, fineD d = true → d.shown.length ≤ wt d ∧ d.showable = true
  | .none, _ => ⟨by show (PyData.shown .none).length ≤ 4; decide, rfl⟩
  | .bool b, _ => ⟨by show (PyData.shown (.bool b)).length ≤ 5; cases b <;> decide, rfl⟩
  | .int i, h => by
    have h1 : i.natAbs.log2 < 1920 := by simpa [fineD] using h
    refine ⟨?_, by simp only [PyData.showable]; exact decide_eq_true h1⟩
    have e := PySem.int_text_length_le (k := 1920) (by decide) h1
    have e2 : (PyData.shown (.int i)).length = (toString i).length := by
      simp only [PyData.shown]
      show (Str.ofString (toString i)).length = _
      rw [PySem.ofString_length]
    rw [e2]
    show _ ≤ 2000
    omega
  | .str s, h => by
    have h1 : ∀ c ∈ s.cps.toList, c < 16 ^ 8 := fun c hc => of_decide_eq_true (List.all_eq_true.mp (by simpa only [fineD] using h) c hc)
    exact ⟨by simp only [PyData.shown, wt]; exact PySem.StrLaws.reprText_len s h1, by simp only [PyData.showable]⟩
  | .list xs, h => by
    have h1 := shown_les xs (by simpa [fineD] using h)
    refine ⟨?_, by simp only [PyData.showable]; exact h1.2⟩
    simp only [PyData.shown, wt]
    have := (piled_text (PyData.shownAll xs)).2
    omega
  | .tuple xs, h => by
    have h1 := shown_les xs (by simpa [fineD] using h)
    refine ⟨?_, by simp only [PyData.showable]; exact h1.2⟩
    simp only [PyData.shown, wt]
    have := (piled_text (PyData.shownAll xs)).1
    omega
  | .dict _, h => by simp [fineD] at h
theorem shown_les : ∀ xs : List PyData, fineDs xs = true → PySem.piled (PyData.shownAll xs) ≤ wts xs ∧ PyData.showableAll xs = true
  | [], _ => ⟨by simp only [PyData.shownAll, wts]; exact Nat.le_refl _, by simp only [PyData.showableAll]⟩
  | x :: xs, h => by
    have h1 : fineD x = true ∧ fineDs xs = true := by simpa [fineDs] using h
    have a := shown_le x h1.1
    have b := shown_les xs h1.2
    refine ⟨?_, by simp only [PyData.showableAll, a.2, b.2, Bool.and_self]⟩
    simp only [PyData.shownAll, wts]
    rw [PySem.piled_cons]
    omega
end
theorem p_reprW {S : Store} {Q : D → Store → Prop} {x : D} {d : PyData} (hs : snap S deep x = some d) (h1 : fineD d = true) (h2 : wt d ≤ line) : OkP (bRepr [x] S) Q = Q (.str d.shown.cps.toList) S := by
  have h := shown_le d h1
  exact p_repr hs h.2 (by omega)
theorem wts_map {α : Type} {f : α → PyData} {m : Nat} : ∀ {xs : List α}, (∀ x ∈ xs, wt (f x) + 2 ≤ m) → wts (xs.map f) ≤ xs.length * m
  | [], _ => by simp [wts]
  | x :: xs, h => by
    have h1 := h x (List.mem_cons_self ..)
    have h2 := wts_map (xs := xs) fun y hy => h y (List.mem_cons_of_mem _ hy)
    rw [List.map_cons, wts, List.length_cons, Nat.succ_mul]
    omega
theorem fineDs_map {α : Type} {f : α → PyData} : ∀ {xs : List α}, (∀ x ∈ xs, fineD (f x) = true) → fineDs (xs.map f) = true
  | [], _ => by simp [fineDs]
  | x :: xs, h => by
    rw [List.map_cons, fineDs, h x (List.mem_cons_self ..), fineDs_map fun y hy => h y (List.mem_cons_of_mem _ hy)]
    rfl
theorem optAll_map {α β γ : Type} {f : α → β} {g : α → γ} {p : β → Option γ} : ∀ {xs : List α}, (∀ x ∈ xs, p (f x) = some (g x)) → optAll p (xs.map f) = some (xs.map g)
  | [], _ => rfl
  | x :: xs, h => by
    rw [List.map_cons, optAll, h x (List.mem_cons_self ..), optAll_map fun y hy => h y (List.mem_cons_of_mem _ hy)]
    rfl
end MP

/-! MP: comprehensions whose parts change nothing; lists of ints, compared and sorted. Own work. -/
namespace MP
section
variable {S : Store} {Q : D → Store → Prop} {C : Cfg} {σ : Slots} {T : Pt}
/-- [f x for x in xs if p x], each part leaves the store as it was (but for new objects) -/
theorem lc_fm {e : ME} {g : Tg} {c : MT} {xs : List D} (p : D → Bool) (f : D → D) (hl : xs.length ≤ 1000000)
    (step : ∀ (i : Nat) (d : D) (S' : Store), xs[i]? = some d → Keep S S' [] → ∃ σ1, asg S' g d σ = some σ1 ∧ Ok (c C σ1 S') (fun b S1 => b = p d ∧ Keep S' S1 [] ∧ (b = true → Ok (e C σ1 S1) (fun y S2 => y = f d ∧ Keep S1 S2 []) X0)) X0) :
    Ok (compN (.seq xs) g c (emit e S.size C) C σ turns 0 (S.push (.lst []))) (fun _ S2 => S2.get S.size = some (.lst ((xs.filter p).map f)) ∧ Keep S S2 []) X0 := by
  refine lc_seq (Q := fun S2 => S2.get S.size = some (.lst ((xs.filter p).map f)) ∧ Keep S S2 []) (by unfold turns; omega)
    (fun j acc S' => acc = ((xs.take j).filter p).map f ∧ S'.get S.size = some (.lst acc) ∧ Keep S S' []) ?_ (fun _ _ _ h => h.2.1) ?_ (by unfold line; omega) ?_
  · exact ⟨rfl, Store.get_push_same _ _, Keep.push _⟩
  · rintro j d acc S' hd ha ⟨rfl, g, k⟩
    obtain ⟨σ1, h1, h2⟩ := step j d S' hd k
    refine ⟨σ1, h1, h2.imp fun b S1 ⟨e1, k1, h3⟩ => ?_⟩
    have ht : xs.take (j + 1) = xs.take j ++ [d] := by rw [List.take_succ, hd]; rfl
    have g1 := k1.get g (by simp)
    rw [ht, List.filter_append, List.map_append]
    cases b with
    | false =>
      have e2 : [d].filter p = [] := by simp [← e1]
      rw [e2, List.map_nil, List.append_nil]
      exact ⟨rfl, g1, k.trans k1⟩
    | true =>
      have e2 : [d].filter p = [d] := by simp [← e1]
      rw [if_pos rfl, e2]
      refine (h3 rfl).imp fun y S2 ⟨e3, k2⟩ => ?_
      subst e3
      have g2 := k2.get g1 (by simp)
      exact ⟨g2, rfl, Store.get_set_same _ (Store.get_lt g2), ((k.trans k1).trans k2).set_new _ (Nat.le_refl _) (Store.get_lt g2)⟩
  · rintro acc S' ha ⟨rfl, g, k⟩
    rw [List.take_length] at g
    exact ⟨g, k⟩
/-- [f x for x in xs] -/
theorem lc_map {e : ME} {g : Tg} {xs : List D} (f : D → D) (hl : xs.length ≤ 1000000)
    (step : ∀ (i : Nat) (d : D) (S' : Store), xs[i]? = some d → Keep S S' [] → ∃ σ1, asg S' g d σ = some σ1 ∧ Ok (e C σ1 S') (fun y S2 => y = f d ∧ Keep S' S2 []) X0) :
    Ok (compN (.seq xs) g tYes (emit e S.size C) C σ turns 0 (S.push (.lst []))) (fun _ S2 => S2.get S.size = some (.lst (xs.map f)) ∧ Keep S S2 []) X0 := by
  have e0 : xs.filter (fun _ => true) = xs := List.filter_eq_self.mpr fun _ _ => rfl
  refine (lc_fm (p := fun _ => true) (f := f) hl fun i d S' hd k => ?_).imp fun _ S2 h => by rw [e0] at h; exact h
  obtain ⟨σ1, h1, h2⟩ := step i d S' hd k
  refine ⟨σ1, h1, ?_⟩
  rw [ok_yes]
  exact ⟨rfl, Keep.refl, fun _ => h2⟩
/-- lists of ints -/
def intD (ns : List Int) : List D := ns.map .int
theorem snapL {n : Nat} {xs : List D} {ds : List PySem.PyData} (h : S.get n = some (.lst xs)) (hs : optAll (snap S 39) xs = some ds) : snap S deep (.ref n) = some (.list ds) := by
  show (match lstAt S n with
    | some xs => (optAll (snap S 39) xs).map PySem.PyData.list
    | none => none) = _
  unfold lstAt; rw [h]
  show (optAll (snap S 39) xs).map PySem.PyData.list = _
  rw [hs]; rfl
theorem eqv_ints : ∀ xs ys : List Int, PySem.PyData.eqv (.list (xs.map .int)) (.list (ys.map .int)) = decide (xs = ys)
  | [], [] => rfl
  | [], _ :: _ => rfl
  | _ :: _, [] => rfl
  | x :: xs, y :: ys => by
    have ih := eqv_ints xs ys
    have e : PySem.PyData.eqv (.list ((x :: xs).map .int)) (.list ((y :: ys).map .int)) = (PySem.PyData.eqv (.int x) (.int y) && PySem.PyData.eqv (.list (xs.map .int)) (.list (ys.map .int))) := by
      simp [PySem.PyData.eqv, PySem.PyData.eqvAll]
    have e2 : PySem.PyData.eqv (.int x) (.int y) = decide (x = y) := by
      show (x == y) = _
      rw [Bool.beq_eq_decide_eq]
    rw [e, ih, e2, Bool.eq_iff_iff]
    simp
theorem p_neInts {n k : Nat} {xs ys : List Int} (h1 : S.get n = some (.lst (intD xs))) (h2 : S.get k = some (.lst (intD ys))) : OkP (opNe (.ref n) (.ref k) S) Q = Q (.bl (!decide (xs = ys))) S := by
  unfold opNe eqD
  rw [snapL h1 (snap_int S 38 xs), snapL h2 (snap_int S 38 ys)]
  show OkP (some (D.bl (!PySem.PyData.eqv _ _), S)) Q = _
  rw [eqv_ints]; rfl
theorem p_eqInts {n k : Nat} {xs ys : List Int} (h1 : S.get n = some (.lst (intD xs))) (h2 : S.get k = some (.lst (intD ys))) : OkP (opEq (.ref n) (.ref k) S) Q = Q (.bl (decide (xs = ys))) S := by
  unfold opEq eqD
  rw [snapL h1 (snap_int S 38 xs), snapL h2 (snap_int S 38 ys)]
  show OkP (some (D.bl (PySem.PyData.eqv _ _), S)) Q = _
  rw [eqv_ints]; rfl
def leI (a b : Int) : Bool := decide (a ≤ b)
theorem sortD_int (ns : List Int) : sortD (intD ns) (ns.map .int) = intD (ns.mergeSort leI) := by
  have e : (intD ns).zip (ns.map PySem.PyData.int) = ns.map fun n => (D.int n, PySem.PyData.int n) := by
    unfold intD
    rw [List.zip_map]
    induction ns with
    | nil => rfl
    | cons a r ih => simp [List.zip, ih]
  unfold sortD
  rw [e, ← PySem.W.sort_maps (r := leI) (fun n => (D.int n, PySem.PyData.int n)) fun a _ b _ => ?_]
  · unfold intD
    rw [List.map_map]
    rfl
  · unfold leI leP
    rw [PySem.W.dataLt_int]
    rw [Bool.eq_iff_iff]
    simp
theorem okSort_int (ns : List Int) : okSort (ns.map .int) = true := by
  unfold okSort
  rw [Bool.and_eq_true, Bool.or_eq_true]
  refine ⟨List.all_eq_true.mpr fun d hd => List.all_eq_true.mpr fun e he => ?_, .inr (List.all_eq_true.mpr fun d hd => ?_)⟩
  · obtain ⟨a, _, rfl⟩ := List.mem_map.mp hd
    obtain ⟨b, _, rfl⟩ := List.mem_map.mp he
    simp [PySem.W.alike]
  · obtain ⟨a, _, rfl⟩ := List.mem_map.mp hd
    rfl
theorem p_sortI {n : Nat} {ns : List Int} (h : S.get n = some (.lst (intD ns))) : OkP (bSorted [.ref n] S) Q = Q (.ref S.size) (S.push (.lst (intD (ns.mergeSort leI)))) := by
  have e : snaps S deep (intD ns) = some (ns.map .int) := snap_int S 39 ns
  unfold bSorted lstAt
  simp only [h, e]
  rw [if_pos (okSort_int ns), sortD_int]
  rfl
theorem sort_down {ns : List Int} (h : ns.Pairwise fun a b => b ≤ a) : ns.mergeSort leI = ns.reverse := by
  refine List.Perm.eq_of_pairwise (le := fun a b : Int => leI a b = true) (fun a b _ _ h1 h2 => ?_) ?_ ?_ ((List.mergeSort_perm ns leI).trans (List.reverse_perm ns).symm)
  · unfold leI at h1 h2
    simp at h1 h2
    omega
  · refine List.pairwise_mergeSort (fun a b c h1 h2 => ?_) (fun a b => ?_) ns
    · unfold leI at *
      simp at *
      omega
    · unfold leI
      simp
      omega
  · rw [List.pairwise_reverse]
    refine h.imp fun h => ?_
    unfold leI
    simpa using h
theorem p_rev {n : Nat} {xs : List D} (h : S.get n = some (.lst xs)) : OkP (opRev (.ref n) S) Q = Q (.ref S.size) (S.push (.lst xs.reverse)) := by
  unfold opRev
  simp only [h]
  rfl
end
end MP

/-! MP: plain data of a bounded size, exceptions in plain Lean. Own work. -/
namespace MP
open PySem (PyData)
/-- data that do not lean on the object k -/
def snapK (S : Store) (k : Nat) : Nat → D → Option PyData
  | 0, _ => none
  | _ + 1, .non => some .none
  | _ + 1, .bl b => some (.bool b)
  | _ + 1, .int i => some (.int i)
  | _ + 1, .str s => some (.str ⟨s.toArray⟩)
  | n + 1, .tup xs => (optAll (snapK S k n) xs).map .tuple
  | n + 1, .ref j => if j = k then none else (match S.get j with
    | some (.lst xs) => (optAll (snapK S k n) xs).map .list
    | _ => none)
  | _ + 1, .exn _ _ => none
  | _ + 1, .lam _ _ => none
theorem optAll_imp {α β : Type} {f g : α → Option β} : ∀ {xs : List α} {ps : List β}, (∀ x ∈ xs, ∀ p, f x = some p → g x = some p) → optAll f xs = some ps → optAll g xs = some ps
  | [], ps, _, e => e
  | x :: xs, ps, h, e => by
    unfold optAll at e ⊢
    cases e1 : f x with
    | none => rw [e1] at e; cases e
    | some a =>
      rw [e1] at e
      cases e2 : optAll f xs with
      | none => rw [e2] at e; cases e
      | some b =>
        rw [e2] at e
        rw [h x (List.mem_cons_self ..) a e1, optAll_imp (fun y hy => h y (List.mem_cons_of_mem _ hy)) e2]
        exact e
theorem snapK_snap {S : Store} {k : Nat} : ∀ {n : Nat} {d : D} {p : PyData}, snapK S k n d = some p → snap S n d = some p
  | 0, _, _, e => by cases e
  | n + 1, .non, _, e => e
  | n + 1, .bl _, _, e => e
  | n + 1, .int _, _, e => e
  | n + 1, .str _, _, e => e
  | n + 1, .tup xs, p, e => by
    obtain ⟨ps, h1, h2⟩ := Option.map_eq_some_iff.mp (show (optAll (snapK S k n) xs).map PyData.tuple = some p from e)
    show (optAll (snap S n) xs).map PyData.tuple = some p
    rw [optAll_imp (fun x _ p h => snapK_snap h) h1, ← h2]; rfl
  | n + 1, .ref j, p, e => by
    have e : (if j = k then none else (match S.get j with
      | some (.lst xs) => (optAll (snapK S k n) xs).map PyData.list
      | _ => none)) = some p := e
    split at e
    · cases e
    · split at e
      · rename_i xs hg
        obtain ⟨ps, h1, h2⟩ := Option.map_eq_some_iff.mp e
        show (match lstAt S j with
          | some xs => (optAll (snap S n) xs).map PyData.list
          | none => none) = some p
        unfold lstAt
        rw [hg]
        show (optAll (snap S n) xs).map PyData.list = some p
        rw [optAll_imp (fun x _ p h => snapK_snap h) h1, ← h2]; rfl
      · cases e
  | n + 1, .exn _ _, _, e => by cases e
  | n + 1, .lam _ _, _, e => by cases e
theorem snapK_keep {S S' : Store} {k : Nat} (kp : Keep S S' [k]) : ∀ {n : Nat} {d : D} {p : PyData}, snapK S k n d = some p → snapK S' k n d = some p
  | 0, _, _, e => by cases e
  | n + 1, .non, _, e => e
  | n + 1, .bl _, _, e => e
  | n + 1, .int _, _, e => e
  | n + 1, .str _, _, e => e
  | n + 1, .tup xs, p, e => by
    obtain ⟨ps, h1, h2⟩ := Option.map_eq_some_iff.mp (show (optAll (snapK S k n) xs).map PyData.tuple = some p from e)
    show (optAll (snapK S' k n) xs).map PyData.tuple = some p
    rw [optAll_imp (fun x _ p h => snapK_keep kp h) h1, ← h2]; rfl
  | n + 1, .ref j, p, e => by
    have e : (if j = k then none else (match S.get j with
      | some (.lst xs) => (optAll (snapK S k n) xs).map PyData.list
      | _ => none)) = some p := e
    show (if j = k then none else (match S'.get j with
      | some (.lst xs) => (optAll (snapK S' k n) xs).map PyData.list
      | _ => none)) = some p
    split at e
    · cases e
    · rename_i hjk
      rw [if_neg hjk]
      split at e
      · rename_i xs hg
        obtain ⟨ps, h1, h2⟩ := Option.map_eq_some_iff.mp e
        rw [kp.get hg (by simp [hjk])]
        show (optAll (snapK S' k n) xs).map PyData.list = some p
        rw [optAll_imp (fun x _ p h => snapK_keep kp h) h1, ← h2]; rfl
      · cases e
  | n + 1, .exn _ _, _, e => by cases e
  | n + 1, .lam _ _, _, e => by cases e
theorem snapK_up {S : Store} {k : Nat} : ∀ {n : Nat} {d : D} {p : PyData}, snapK S k n d = some p → snapK S k (n + 1) d = some p
  | 0, _, _, e => by cases e
  | n + 1, .non, _, e => e
  | n + 1, .bl _, _, e => e
  | n + 1, .int _, _, e => e
  | n + 1, .str _, _, e => e
  | n + 1, .tup xs, p, e => by
    obtain ⟨ps, h1, h2⟩ := Option.map_eq_some_iff.mp (show (optAll (snapK S k n) xs).map PyData.tuple = some p from e)
    show (optAll (snapK S k (n + 1)) xs).map PyData.tuple = some p
    rw [optAll_imp (fun x _ p h => snapK_up h) h1, ← h2]; rfl
  | n + 1, .ref j, p, e => by
    have e : (if j = k then none else (match S.get j with
      | some (.lst xs) => (optAll (snapK S k n) xs).map PyData.list
      | _ => none)) = some p := e
    show (if j = k then none else (match S.get j with
      | some (.lst xs) => (optAll (snapK S k (n + 1)) xs).map PyData.list
      | _ => none)) = some p
    split at e
    · cases e
    · rename_i hjk
      rw [if_neg hjk]
      split at e
      · rename_i xs hg
        obtain ⟨ps, h1, h2⟩ := Option.map_eq_some_iff.mp e
        show (optAll (snapK S k (n + 1)) xs).map PyData.list = some p
        rw [optAll_imp (fun x _ p h => snapK_up h) h1, ← h2]; rfl
      · cases e
  | n + 1, .exn _ _, _, e => by cases e
  | n + 1, .lam _ _, _, e => by cases e
theorem snapK_le {S : Store} {k n m : Nat} {d : D} {p : PyData} (h : n ≤ m) (e : snapK S k n d = some p) : snapK S k m d = some p := by
  obtain ⟨j, rfl⟩ := Nat.le.dest h
  induction j with
  | zero => exact e
  | succ j ih => exact snapK_up (ih (by omega))
/-- plain data, of a bounded size -/
def Da (S : Store) (k n : Nat) (d : D) (b : Nat) : Prop := ∃ p, snapK S k n d = some p ∧ fineD p = true ∧ wt p ≤ b
def DaL (S : Store) (k n : Nat) (xs : List D) (b : Nat) : Prop := ∃ ps, optAll (snapK S k n) xs = some ps ∧ fineDs ps = true ∧ wts ps ≤ b
section
variable {S S' : Store} {k n m b b' B : Nat} {d : D} {xs ys : List D}
theorem Da.le (h : Da S k n d b) (h1 : n ≤ m) (h2 : b ≤ b') : Da S k m d b' := let ⟨p, a, c, e⟩ := h; ⟨p, snapK_le h1 a, c, Nat.le_trans e h2⟩
theorem Da.keep (h : Da S k n d b) (kp : Keep S S' [k]) : Da S' k n d b := let ⟨p, a, c, e⟩ := h; ⟨p, snapK_keep kp a, c, e⟩
theorem Da.keep0 (h : Da S k n d b) (kp : Keep S S' []) : Da S' k n d b := h.keep (kp.weak (by simp))
theorem DaL.le (h : DaL S k n xs b) (h1 : n ≤ m) (h2 : b ≤ b') : DaL S k m xs b' := let ⟨p, a, c, e⟩ := h; ⟨p, optAll_imp (fun _ _ _ z => snapK_le h1 z) a, c, Nat.le_trans e h2⟩
theorem DaL.keep (h : DaL S k n xs b) (kp : Keep S S' [k]) : DaL S' k n xs b := let ⟨p, a, c, e⟩ := h; ⟨p, optAll_imp (fun _ _ _ z => snapK_keep kp z) a, c, e⟩
theorem Da.non : Da S k (n + 1) .non 4 := ⟨.none, rfl, rfl, Nat.le_refl _⟩
theorem Da.bl {v : Bool} : Da S k (n + 1) (.bl v) 5 := ⟨.bool v, rfl, rfl, Nat.le_refl _⟩
theorem Da.int {i : Int} (h : i.natAbs < 1000000) : Da S k (n + 1) (.int i) 2000 := ⟨.int i, rfl, by
  simp only [fineD, decide_eq_true_eq]
  by_cases z : i.natAbs = 0
  · rw [z]; decide
  · exact (Nat.log2_lt z).mpr (Nat.lt_of_lt_of_le (by omega : i.natAbs < 2 ^ 20) (Nat.pow_le_pow_right (by decide) (by decide))), Nat.le_refl _⟩
theorem Da.str {s : List Nat} (h : ∀ c ∈ s, c < 1000) : Da S k (n + 1) (.str s) (10 * s.length + 2) := ⟨.str ⟨s.toArray⟩, rfl, by
  simp only [fineD]
  rw [List.all_eq_true]
  intro c hc
  have := h c (by simpa using hc)
  simp
  omega, by
  simp only [wt]
  exact Nat.le_refl _⟩
theorem DaL.nil : DaL S k n [] 0 := ⟨[], rfl, rfl, Nat.le_refl _⟩
theorem DaL.cons (h : Da S k n d b) (hs : DaL S k n xs B) : DaL S k n (d :: xs) (b + 2 + B) := by
  obtain ⟨p, a, c, e⟩ := h
  obtain ⟨ps, a', c', e'⟩ := hs
  refine ⟨p :: ps, by rw [optAll, a, a'], by simp [fineDs, c, c'], ?_⟩
  rw [wts]; omega
theorem DaL.uncons (h : DaL S k n (d :: xs) B) : ∃ b1 b2, Da S k n d b1 ∧ DaL S k n xs b2 ∧ b1 + 2 + b2 ≤ B := by
  obtain ⟨ps, a, c, e⟩ := h
  unfold optAll at a
  cases e1 : snapK S k n d with
  | none => rw [e1] at a; cases a
  | some p =>
    rw [e1] at a
    cases e2 : optAll (snapK S k n) xs with
    | none => rw [e2] at a; cases a
    | some qs =>
      rw [e2] at a
      cases a
      rw [fineDs, Bool.and_eq_true] at c
      rw [wts] at e
      exact ⟨wt p, wts qs, ⟨p, e1, c.1, Nat.le_refl _⟩, ⟨qs, e2, c.2, Nat.le_refl _⟩, e⟩
theorem DaL.append : ∀ {xs : List D} {b : Nat}, DaL S k n xs b → DaL S k n ys b' → DaL S k n (xs ++ ys) (b + b')
  | [], b, _, h' => h'.le (Nat.le_refl _) (by omega)
  | x :: xs, b, h, h' => by
    obtain ⟨b1, b2, h1, h2, h3⟩ := h.uncons
    exact (DaL.cons h1 (DaL.append h2 h')).le (Nat.le_refl _) (by omega)
theorem DaL.drop : ∀ {xs : List D} {b : Nat} (j : Nat), DaL S k n xs b → DaL S k n (xs.drop j) b
  | xs, _, 0, h => h
  | [], _, j + 1, h => h
  | x :: xs, b, j + 1, h => by
    obtain ⟨b1, b2, h1, h2, h3⟩ := h.uncons
    exact (DaL.drop j h2).le (Nat.le_refl _) (by omega)
theorem DaL.take : ∀ {xs : List D} {b : Nat} (j : Nat), DaL S k n xs b → DaL S k n (xs.take j) b
  | xs, _, 0, h => DaL.nil.le (Nat.le_refl _) (by omega)
  | [], _, j + 1, h => h
  | x :: xs, b, j + 1, h => by
    obtain ⟨b1, b2, h1, h2, h3⟩ := h.uncons
    exact (DaL.cons h1 (DaL.take j h2)).le (Nat.le_refl _) (by omega)
theorem DaL.mem : ∀ {xs : List D} {b : Nat}, DaL S k n xs b → ∀ x ∈ xs, Da S k n x b
  | [], _, _, _, hx => nomatch hx
  | y :: xs, b, h, x, hx => by
    obtain ⟨b1, b2, h1, h2, h3⟩ := h.uncons
    rcases List.mem_cons.mp hx with rfl | hx
    · exact h1.le (Nat.le_refl _) (by omega)
    · exact (DaL.mem h2 x hx).le (Nat.le_refl _) (by omega)
theorem DaL.len : ∀ {xs : List D} {b : Nat}, DaL S k n xs b → 2 * xs.length ≤ b
  | [], _, _ => Nat.zero_le _
  | y :: xs, b, h => by
    obtain ⟨b1, b2, h1, h2, h3⟩ := h.uncons
    have := DaL.len h2
    rw [List.length_cons]; omega
theorem DaL.map {α : Type} {f : α → D} {c : Nat} : ∀ {xs : List α}, (∀ x ∈ xs, Da S k n (f x) c) → DaL S k n (xs.map f) (xs.length * (c + 2))
  | [], _ => DaL.nil.le (Nat.le_refl _) (by omega)
  | x :: xs, h => by
    have h1 := h x (List.mem_cons_self ..)
    have h2 := DaL.map (xs := xs) fun y hy => h y (List.mem_cons_of_mem _ hy)
    exact (DaL.cons h1 h2).le (Nat.le_refl _) (by rw [List.length_cons, Nat.succ_mul]; omega)
theorem Da.tup (h : DaL S k n xs b) : Da S k (n + 1) (.tup xs) (b + 4) := by
  obtain ⟨ps, a, c, e⟩ := h
  refine ⟨.tuple ps, ?_, by simp only [fineD]; exact c, by simp only [wt]; omega⟩
  show (optAll (snapK S k n) xs).map PyData.tuple = _
  rw [a]; rfl
theorem Da.lst {j : Nat} (hj : j ≠ k) (hg : S.get j = some (.lst xs)) (h : DaL S k n xs b) : Da S k (n + 1) (.ref j) (b + 4) := by
  obtain ⟨ps, a, c, e⟩ := h
  refine ⟨.list ps, ?_, by simp only [fineD]; exact c, by simp only [wt]; omega⟩
  show (if j = k then none else (match S.get j with
    | some (.lst xs) => (optAll (snapK S k n) xs).map PyData.list
    | _ => none)) = _
  rw [if_neg hj, hg]
  show (optAll (snapK S k n) xs).map PyData.list = _
  rw [a]; rfl
theorem Da.untup (h : Da S k (n + 1) (.tup xs) b) : DaL S k n xs b := by
  obtain ⟨p, a, c, e⟩ := h
  obtain ⟨ps, h1, rfl⟩ := Option.map_eq_some_iff.mp (show (optAll (snapK S k n) xs).map PyData.tuple = some p from a)
  simp only [fineD] at c
  simp only [wt] at e
  exact ⟨ps, h1, c, by omega⟩
theorem Da.pos (h : Da S k n d b) : ∃ m, n = m + 1 := by
  cases n with
  | zero => obtain ⟨p, a, _⟩ := h; cases a
  | succ m => exact ⟨m, rfl⟩
theorem Da.untup' (h : Da S k n (.tup xs) b) : DaL S k n xs b := by
  obtain ⟨m, rfl⟩ := h.pos
  exact h.untup.le (Nat.le_succ _) (Nat.le_refl _)
theorem Da.unstr {s : List Nat} (h : Da S k n (.str s) b) : 10 * s.length + 2 ≤ b := by
  obtain ⟨m, rfl⟩ := h.pos
  obtain ⟨p, a, c, e⟩ := h
  cases a
  simp only [wt] at e
  exact e
/-- the kind of plain data -/
def tyD : D → Ty
  | .non => .non
  | .bl _ => .bl
  | .int _ => .int
  | .str _ => .str
  | .tup _ => .tup
  | _ => .lst
theorem Da.ty (h : Da S k n d b) : tyOf S d = some (tyD d) ∧ isX d = false := by
  obtain ⟨m, rfl⟩ := h.pos
  obtain ⟨p, a, c, e⟩ := h
  cases d with
  | ref j =>
    have a : (if j = k then none else (match S.get j with
      | some (.lst xs) => (optAll (snapK S k m) xs).map PyData.list
      | _ => none)) = some p := a
    split at a
    · cases a
    · split at a
      · rename_i xs hg
        refine ⟨?_, rfl⟩
        simp only [tyOf, lstAt, hg]; rfl
      · cases a
  | exn _ _ => cases a
  | lam _ _ => cases a
  | _ => exact ⟨rfl, rfl⟩
theorem p_isaD {t : Ty} {Q : D → Store → Prop} (h : Da S k n d b) : OkP (opIsA t d S) Q = Q (.bl ((tyD d).le t)) S := by
  unfold opIsA
  rw [h.ty.1]; rfl
mutual
theorem eqv_self : ∀ p : PyData, fineD p = true → PyData.eqv p p = true
  | .none, _ => rfl
  | .bool b, _ => by cases b <;> rfl
  | .int i, _ => by show (i == i) = true; simp
  | .str s, _ => by show (s == s) = true; simp
  | .list xs, h => by
    have := eqv_selfs xs (by simpa [fineD] using h)
    simpa [PyData.eqv] using this
  | .tuple xs, h => by
    have := eqv_selfs xs (by simpa [fineD] using h)
    simpa [PyData.eqv] using this
  | .dict _, h => by simp [fineD] at h
theorem eqv_selfs : ∀ xs : List PyData, fineDs xs = true → PyData.eqvAll xs xs = true
  | [], _ => rfl
  | x :: xs, h => by
    rw [fineDs, Bool.and_eq_true] at h
    rw [PyData.eqvAll, eqv_self x h.1, eqv_selfs xs h.2]; rfl
end
theorem p_eqSelf {Q : D → Store → Prop} (h : Da S k n d b) (hn : n ≤ 40) : OkP (opEq d d S) Q = Q (.bl true) S := by
  obtain ⟨p, a, c, e⟩ := h
  have e1 := snapK_snap (snapK_le hn a)
  unfold opEq eqD
  rw [show deep = 40 from rfl, e1]
  show OkP (some (D.bl (PyData.eqv p p), S)) Q = _
  rw [eqv_self p c]; rfl
/-- repr of plain data: always the same text -/
theorem repr_of (h : Da S k n d b) (hn : n ≤ 40) (hb : b ≤ line) : ∃ t, ∀ S', Keep S S' [k] → ∀ Q : D → Store → Prop, OkP (bRepr [d] S') Q = Q (.str t) S' := by
  obtain ⟨p, a, c, e⟩ := h
  exact ⟨p.shown.cps.toList, fun S' kp Q => p_reprW (snapK_snap (snapK_le hn (snapK_keep kp a))) c (Nat.le_trans e hb)⟩
end
/-! ### exceptions -/
section
variable {C : Cfg} {σ : Slots} {S : Store} {T : Pt} {E : XP}
theorem oks_raise {c : Nat} {fn : List Nat} {a : MA} : OkS (sRaise c fn a C σ S) T = Ok (a C σ S) (fun xs S' => xs.length = fn.length ∧ T.ex c (fn.zip xs) σ S') (T.xe σ) := by
  unfold sRaise
  cases a C σ S with
  | ok xs S' =>
    simp only [Ok]
    by_cases h : xs.length = fn.length
    · rw [if_pos h]; simp [h, OkS]
    · rw [if_neg h]; simp [h, OkS]
  | ex c fs S' => rfl
  | bad => rfl
theorem oks_if' {c : Prop} [Decidable c] {a b : SR} : OkS (if c then a else b) T = if c then OkS a T else OkS b T := by
  by_cases h : c
  · rw [if_pos h, if_pos h]
  · rw [if_neg h, if_neg h]
theorem oks_try {cs : List Nat} {b : MS} {hs : List Hd} : OkS (sTry cs b hs C σ S) T = OkS (b C σ S) { T with ex := fun c fs σ' S' => (cs.contains c && noX σ') = true ∧ OkS (handle c fs C σ' S' hs) T } := by
  unfold sTry
  cases b C σ S with
  | ex c fs σ' S' =>
    show OkS (if (cs.contains c && noX σ') = true then handle c fs C σ' S' hs else .bad) T = ((cs.contains c && noX σ') = true ∧ OkS (handle c fs C σ' S' hs) T)
    rw [oks_if']
    by_cases h : (cs.contains c && noX σ') = true
    · rw [if_pos h]
      exact propext ⟨fun z => ⟨h, z⟩, fun z => z.2⟩
    · rw [if_neg h]
      exact propext ⟨fun z => z.elim, fun z => h z.1⟩
  | _ => rfl
theorem oks_handle {c : Nat} {fs : Fs} {h : Hd} {r : List Hd} : OkS (handle c fs C σ S (h :: r)) T = if h.m c = true then OkS (outX h.o (h.s C (match h.o with
    | some i => σ.set i (some (.exn c fs))
    | none => σ) S)) T else OkS (handle c fs C σ S r) T := by
  rw [handle, oks_if']
  all_goals rfl
theorem oks_handle0 {c : Nat} {fs : Fs} : OkS (handle c fs C σ S []) T = T.ex c fs σ S := id rfl
theorem oks_out0 {r : SR} : OkS (outX none r) T = OkS r { nx := fun σ S => noX σ = true ∧ T.nx σ S, rt := T.rt, bk := fun σ S => noX σ = true ∧ T.bk σ S, ct := fun σ S => noX σ = true ∧ T.ct σ S } := by
  cases r with
  | nx σ S =>
    show OkS (if noX σ = true then .nx σ S else .bad) T = _
    by_cases h : noX σ = true
    · rw [if_pos h]; simp [OkS, h]
    · rw [if_neg h]; simp [OkS, h]
  | bk σ S =>
    show OkS (if noX σ = true then .bk σ S else .bad) T = _
    by_cases h : noX σ = true
    · rw [if_pos h]; simp [OkS, h]
    · rw [if_neg h]; simp [OkS, h]
  | ct σ S =>
    show OkS (if noX σ = true then .ct σ S else .bad) T = _
    by_cases h : noX σ = true
    · rw [if_pos h]; simp [OkS, h]
    · rw [if_neg h]; simp [OkS, h]
  | _ => rfl
theorem oks_out1 {i : Nat} {r : SR} : OkS (outX (some i) r) T = OkS r { nx := fun σ S => noX (σ.set i none) = true ∧ T.nx (σ.set i none) S, rt := T.rt, bk := fun σ S => noX (σ.set i none) = true ∧ T.bk (σ.set i none) S, ct := fun σ S => noX (σ.set i none) = true ∧ T.ct (σ.set i none) S } := by
  cases r with
  | nx σ S =>
    show OkS (if noX (σ.set i none) = true then .nx (σ.set i none) S else .bad) T = _
    by_cases h : noX (σ.set i none) = true
    · rw [if_pos h]; simp [OkS, h]
    · rw [if_neg h]; simp [OkS, h]
  | bk σ S =>
    show OkS (if noX (σ.set i none) = true then .bk (σ.set i none) S else .bad) T = _
    by_cases h : noX (σ.set i none) = true
    · rw [if_pos h]; simp [OkS, h]
    · rw [if_neg h]; simp [OkS, h]
  | ct σ S =>
    show OkS (if noX (σ.set i none) = true then .ct (σ.set i none) S else .bad) T = _
    by_cases h : noX (σ.set i none) = true
    · rw [if_pos h]; simp [OkS, h]
    · rw [if_neg h]; simp [OkS, h]
  | _ => rfl
theorem ok_xf {cs : List Nat} {i f c : Nat} {fs : Fs} {d : D} {Q} (h : σ[i]? = some (some (.exn c fs))) (hc : cs.contains c = true) (hd : fget f fs = some d) : Ok (eXfC cs i f C σ S) Q E = Q d S := by
  unfold eXfC
  simp only [h, hc, hd]
  rfl
theorem ok_isE {ts : List (Nat × Bool)} {i c : Nat} {fs : Fs} {b : Bool} {Q} (h : σ[i]? = some (some (.exn c fs))) (hd : ts.lookup c = some b) : Ok (eIsE ts i C σ S) Q E = Q (.bl b) S := by
  unfold eIsE
  simp only [h, hd]
  rfl
@[simp] theorem ok_eand {a b : ME} {Q} : Ok (eAnd a b C σ S) Q E = Ok (a C σ S) (fun x S1 => ∃ c, x = .bl c ∧ if c = true then Ok (b C σ S1) Q E else Q (.bl false) S1) E := by
  show Ok (M.bind _ _ S) Q E = _
  rw [ok_bind, ok_tB]
  congr 1; funext x S1
  refine propext ⟨fun ⟨c, h, z⟩ => ⟨c, h, ?_⟩, fun ⟨c, h, z⟩ => ⟨c, h, ?_⟩⟩ <;> cases c <;> simpa using z
@[simp] theorem ok_eor {a b : ME} {Q} : Ok (eOr a b C σ S) Q E = Ok (a C σ S) (fun x S1 => ∃ c, x = .bl c ∧ if c = true then Q (.bl true) S1 else Ok (b C σ S1) Q E) E := by
  show Ok (M.bind _ _ S) Q E = _
  rw [ok_bind, ok_tB]
  congr 1; funext x S1
  refine propext ⟨fun ⟨c, h, z⟩ => ⟨c, h, ?_⟩, fun ⟨c, h, z⟩ => ⟨c, h, ?_⟩⟩ <;> cases c <;> simpa using z
@[simp] theorem ok_enot {a : ME} {Q} : Ok (eNot a C σ S) Q E = Ok (a C σ S) (fun x S1 => ∃ c, x = .bl c ∧ Q (.bl (!c)) S1) E := by
  show Ok (M.bind _ _ S) Q E = _
  rw [ok_bind, ok_tB]
  rfl
@[simp] theorem ok_chain {f g : D → D → P D} {a b c : ME} {Q} : Ok (eChain f g a b c C σ S) Q E = Ok (a C σ S) (fun x S1 => Ok (b C σ S1) (fun y S2 => OkP (f x y S2) fun r S3 => ∃ k, r = .bl k ∧ if k = true then Ok (c C σ S3) (fun z S4 => OkP (g y z S4) Q) E else Q (.bl false) S3) E) E := by
  show Ok (M.bind _ _ S) Q E = _
  rw [ok_bind]
  congr 1; funext x S1
  rw [ok_bind]
  congr 1; funext y S2
  rw [ok_bind, ok_of]
  congr 1; funext r S3
  rw [ok_bind, ok_of, okp_asB]
  refine propext ⟨fun ⟨k, h, z⟩ => ⟨k, h, ?_⟩, fun ⟨k, h, z⟩ => ⟨k, h, ?_⟩⟩ <;> cases k <;> simpa using z
theorem p_all {n : Nat} {bs : List Bool} {Q : D → Store → Prop} (h : S.get n = some (.lst (bs.map D.bl))) : OkP (bAll [.ref n] S) Q = Q (.bl (bs.all id)) S := by
  unfold bAll lstAt
  simp only [h, allB_map]
  rfl
theorem p_notin1 {c : Nat} {l : List Nat} {Q : D → Store → Prop} : OkP (opNotIn (.str [c]) (.str l) S) Q = Q (.bl (!decide (c ∈ l))) S := by
  show OkP (some (D.bl (!within [c] l), S)) Q = _
  rw [within_one]; rfl
theorem memD_strs {s : List Nat} : ∀ ts : List (List Nat), memD (.str ⟨s.toArray⟩) (ts.map fun t => .str ⟨t.toArray⟩) = decide (s ∈ ts)
  | [] => rfl
  | t :: ts => by
    rw [List.map_cons, memD, eqv_str, memD_strs ts]
    by_cases h : t = s
    · subst h; simp
    · have h' : ¬ s = t := fun z => h z.symm
      simp [h, h']
theorem snaps_strs (k : Nat) (ts : List (List Nat)) : snaps S (k + 1) (ts.map D.str) = some (ts.map fun t => .str ⟨t.toArray⟩) := snap_strs S k ts
/-- a text among texts -/
theorem p_inT {s : List Nat} {ts : List (List Nat)} {Q : D → Store → Prop} : OkP (opIn (.str s) (.tup (ts.map D.str)) S) Q = Q (.bl (decide (s ∈ ts))) S := by
  have e : inD S (.str s) (.tup (ts.map D.str)) = some (decide (s ∈ ts)) := by
    show (match snap S deep (.str s), snaps S deep (ts.map D.str) with
      | some a, some bs => some (memD a bs)
      | _, _ => none) = _
    rw [show deep = 39 + 1 from rfl, snaps_strs]
    show some (memD (.str ⟨s.toArray⟩) (ts.map fun t => .str ⟨t.toArray⟩)) = _
    rw [memD_strs]
  unfold opIn
  rw [e]; rfl
theorem p_notinT {s : List Nat} {ts : List (List Nat)} {Q : D → Store → Prop} : OkP (opNotIn (.str s) (.tup (ts.map D.str)) S) Q = Q (.bl (!decide (s ∈ ts))) S := by
  have e : inD S (.str s) (.tup (ts.map D.str)) = some (decide (s ∈ ts)) := by
    show (match snap S deep (.str s), snaps S deep (ts.map D.str) with
      | some a, some bs => some (memD a bs)
      | _, _ => none) = _
    rw [show deep = 39 + 1 from rfl, snaps_strs]
    show some (memD (.str ⟨s.toArray⟩) (ts.map fun t => .str ⟨t.toArray⟩)) = _
    rw [memD_strs]
  unfold opNotIn
  rw [e]; rfl
theorem p_eqT0 {k n b : Nat} {xs : List D} {Q : D → Store → Prop} (h : Da S k n (.tup xs) b) (hn : n ≤ 40) : OkP (opEq (.tup xs) (.tup []) S) Q = Q (.bl xs.isEmpty) S := by
  obtain ⟨m, rfl⟩ := h.pos
  obtain ⟨p, a, c, e⟩ := h
  obtain ⟨ps, h1, rfl⟩ := Option.map_eq_some_iff.mp (show (optAll (snapK S k m) xs).map PyData.tuple = some p from a)
  have e1 := snapK_snap (snapK_le hn a)
  unfold opEq eqD
  rw [show deep = 40 from rfl, e1]
  show OkP (some (D.bl (PyData.eqv (.tuple ps) (.tuple [])), S)) Q = _
  have e2 : PyData.eqv (.tuple ps) (.tuple []) = xs.isEmpty := by
    cases xs with
    | nil => cases h1; rfl
    | cons x r =>
      obtain ⟨q, qs, rfl⟩ : ∃ q qs, ps = q :: qs := by
        unfold optAll at h1
        cases e1 : snapK S k m x with
        | none => rw [e1] at h1; cases h1
        | some q =>
          rw [e1] at h1
          cases e2 : optAll (snapK S k m) r with
          | none => rw [e2] at h1; cases h1
          | some qs => rw [e2] at h1; cases h1; exact ⟨_, _, rfl⟩
      simp [PyData.eqv, PyData.eqvAll]
  rw [e2]; rfl
@[simp] theorem p_cutT {xs : List D} {lo hi : Option Int} {Q : D → Store → Prop} : OkP (opCut (.tup xs) lo hi S) Q = Q (.tup (cut xs lo hi)) S := id rfl
@[simp] theorem p_addT {xs ys : List D} {Q : D → Store → Prop} : OkP (opAdd (.tup xs) (.tup ys) S) Q = (xs.length + ys.length ≤ line ∧ Q (.tup (xs ++ ys)) S) := okp_if
theorem p_addL {n k : Nat} {xs ys : List D} {Q : D → Store → Prop} (h1 : S.get n = some (.lst xs)) (h2 : S.get k = some (.lst ys)) : OkP (opAdd (.ref n) (.ref k) S) Q = (xs.length + ys.length ≤ line ∧ Q (.ref S.size) (S.push (.lst (xs ++ ys)))) := by
  unfold opAdd
  simp only [h1, h2]
  exact okp_if
theorem cut_len {α : Type} {l : List α} {lo hi : Option Int} : (cut l lo hi).length ≤ l.length := by
  unfold cut
  rw [List.length_take, List.length_drop]
  omega
theorem DaL.cut {S : Store} {k n b : Nat} {xs : List D} {lo hi : Option Int} (h : DaL S k n xs b) : DaL S k n (cut xs lo hi) b := (h.drop _).take _
theorem p_listT {xs : List D} {Q : D → Store → Prop} : OkP (bListX [.tup xs] S) Q = Q (.ref S.size) (S.push (.lst xs)) := id rfl
theorem at_mem {α : Type} {xs : List α} {i : Int} (h0 : 0 ≤ i) (h1 : i < xs.length) : ∃ x, atI xs i = some x ∧ x ∈ xs := by
  have hlt : i.toNat < xs.length := by omega
  refine ⟨xs[i.toNat], ?_, List.getElem_mem hlt⟩
  unfold atI
  rw [ixN_at h0 h1]
  exact List.getElem?_eq_getElem hlt
theorem p_eqNil {n k : Nat} {xs : List (List Nat)} {Q : D → Store → Prop} (h1 : S.get n = some (.lst (strD xs))) (h2 : S.get k = some (.lst [])) : OkP (opEq (.ref n) (.ref k) S) Q = Q (.bl (decide (xs = []))) S := by
  unfold opEq eqD
  rw [snapL h1 (snap_strs S 38 xs), snapL (ds := []) h2 rfl]
  show OkP (some (D.bl (PySem.PyData.eqv _ (.list (([] : List (List Nat)).map fun s => .str ⟨s.toArray⟩))), S)) Q = _
  rw [eqv_strs]; rfl
@[simp] theorem p_eqsN {s : List Nat} {Q : D → Store → Prop} : OkP (opEq (.str s) .non S) Q = Q (.bl false) S := id rfl
@[simp] theorem p_eqNs {s : List Nat} {Q : D → Store → Prop} : OkP (opEq .non (.str s) S) Q = Q (.bl false) S := id rfl
end
end MP

/-! MP: machines, in plain Lean: what the program's class does. Own work. -/
namespace MP
open PySem (PyData)
section
variable {C : Cfg} {σ : Slots} {S : Store} {T : Pt} {E : XP} {Q : D → Store → Prop}
theorem oks_fld {cs : List Nat} {f : Nat} {o v : ME} : OkS (sFld cs f o v C σ S) T = Ok (v C σ S) (fun y S1 => Ok (o C σ S1) (fun x S2 => OkP (putFld cs f x y S2) fun _ S3 => T.nx σ S3) (T.xe σ)) (T.xe σ) := by
  unfold sFld; rw [oks_lift]
  congr 1; funext y S1
  rw [oks_lift]
  congr 1; funext x S2
  rw [oks_lift, ok_of]; rfl
@[simp] theorem ok_fld {cs : List Nat} {f : Nat} {o : ME} : Ok (eFld cs f o C σ S) Q E = Ok (o C σ S) (fun x S1 => OkP (opFld cs f x S1) Q) E := ok_e1
theorem p_fld {cs : List Nat} {f n c : Nat} {fs : Fs} {d : D} (h : S.get n = some (.ins c fs)) (hc : cs.contains c = true) (hf : fget f fs = some d) : OkP (opFld cs f (.ref n) S) Q = Q d S := by
  unfold opFld
  simp only [h, hc, hf]
  rfl
theorem p_putFld {cs : List Nat} {f n c : Nat} {fs : Fs} {v : D} {Q : Unit → Store → Prop} (h : S.get n = some (.ins c fs)) (hc : cs.contains c = true) (hl : fs.length < 900) : OkP (putFld cs f (.ref n) v S) Q = Q () (S.set n (.ins c (fput f v fs))) := by
  unfold putFld
  simp only [h, hc, decide_eq_true hl]
  rfl
@[simp] theorem ok_meth {tbl : List (Nat × Nat)} {o : ME} {a : MA} {dd : List D} : Ok (eMeth tbl o a dd C σ S) Q E = Ok (o C σ S) (fun x S1 => ∃ j, methOf S1 tbl x = some j ∧ Ok (a C σ S1) (fun xs S2 => Ok (C.call j (x :: (xs ++ dd)) S2) Q E) E) E := by
  show Ok (M.bind _ _ S) Q E = _
  rw [ok_bind]
  congr 1; funext x S1
  cases h : methOf S1 tbl x with
  | none => simp [Ok]
  | some j =>
    simp only [Option.some.injEq, exists_eq_left']
    rw [ok_bind]
theorem meth_at {tbl : List (Nat × Nat)} {n c : Nat} {fs : Fs} (h : S.get n = some (.ins c fs)) : methOf S tbl (.ref n) = (tbl.find? fun p => p.1 == c).map (·.2) := by
  unfold methOf
  simp only [h]
@[simp] theorem ok_new {c f : Nat} {a : MA} {dd : List D} : Ok (eNew c f a dd C σ S) Q E = Ok (a C σ S) (fun xs S1 => Ok (C.call f (.ref S1.size :: (xs ++ dd)) (S1.push (.ins c []))) (fun v S2 => v = .non ∧ Q (.ref S1.size) S2) E) E := by
  show Ok (M.bind _ _ S) Q E = _
  rw [ok_bind]
  congr 1; funext xs S1
  cases C.call f (.ref S1.size :: (xs ++ dd)) (S1.push (.ins c [])) with
  | ok v S2 => cases v <;> simp [Ok]
  | ex c fs S2 => rfl
  | bad => rfl
end
/-! ### edges -/
abbrev Ed := Int × List Nat × Int
def eD (e : Ed) : D := .tup [.int e.1, .str e.2.1, .int e.2.2]
def eP (e : Ed) : PyData := .tuple [.int e.1, .str ⟨e.2.1.toArray⟩, .int e.2.2]
theorem eqv_edge (a b : Ed) : PyData.eqv (eP a) (eP b) = decide (a = b) := by
  have h1 : ∀ x y : Int, PyData.eqv (.int x) (.int y) = decide (x = y) := fun x y => by
    show (x == y) = _
    rw [Bool.beq_eq_decide_eq]
  have e : PyData.eqv (eP a) (eP b) = (PyData.eqv (.int a.1) (.int b.1) && (PyData.eqv (.str ⟨a.2.1.toArray⟩) (.str ⟨b.2.1.toArray⟩) && PyData.eqv (.int a.2.2) (.int b.2.2))) := by
    simp [eP, PyData.eqv, PyData.eqvAll]
  rw [e, h1, h1, eqv_str, Bool.eq_iff_iff]
  obtain ⟨a1, a2, a3⟩ := a
  obtain ⟨b1, b2, b3⟩ := b
  simp
section
variable {S : Store} {Q : D → Store → Prop} {n : Nat} {es : List Ed} {e : Ed}
theorem snap_eds (k : Nat) : ∀ es : List Ed, optAll (snap S (k + 2)) (es.map eD) = some (es.map eP)
  | [] => rfl
  | e :: es => by
    rw [List.map_cons, optAll, snap_eds k es]
    rfl
theorem memD_eds : ∀ es : List Ed, memD (eP e) (es.map eP) = decide (e ∈ es)
  | [] => rfl
  | x :: es => by
    rw [List.map_cons, memD, eqv_edge, memD_eds es]
    by_cases h : x = e
    · subst h; simp
    · have h' : ¬ e = x := fun z => h z.symm
      simp [h, h']
theorem inD_eds (h : S.get n = some (.lst (es.map eD))) : inD S (eD e) (.ref n) = some (decide (e ∈ es)) := by
  show (match S.get n with
    | some (.dct kvs) => if keyFits (eD e) kvs = true then some (dget (eD e) kvs).isSome else none
    | _ => (match lstAt S n with
      | some xs => (match snap S deep (eD e), snaps S deep xs with
        | some a, some bs => some (memD a bs)
        | _, _ => none)
      | none => none)) = _
  have e1 : lstAt S n = some (es.map eD) := by unfold lstAt; rw [h]
  have e2 : snaps S deep (es.map eD) = some (es.map eP) := snap_eds 38 es
  have e3 : snap S deep (eD e) = some (eP e) := rfl
  rw [h, e1]
  simp only [e2, e3]
  rw [memD_eds]
theorem p_inE (h : S.get n = some (.lst (es.map eD))) : OkP (opIn (eD e) (.ref n) S) Q = Q (.bl (decide (e ∈ es))) S := by
  unfold opIn
  rw [inD_eds h]; rfl
theorem p_notinE (h : S.get n = some (.lst (es.map eD))) : OkP (opNotIn (eD e) (.ref n) S) Q = Q (.bl (!decide (e ∈ es))) S := by
  unfold opNotIn
  rw [inD_eds h]; rfl
theorem find_eds : ∀ es : List Ed, (es.map eP).findIdx? (fun b => PyData.eqv b (eP e)) = es.findIdx? (fun x => e == x)
  | [] => rfl
  | x :: es => by
    rw [List.map_cons, List.findIdx?_cons, List.findIdx?_cons, eqv_edge, find_eds es]
    have z : decide (x = e) = (e == x) := by
      rw [Bool.eq_iff_iff, decide_eq_true_eq, beq_iff_eq]
      exact ⟨fun h => h.symm, fun h => h.symm⟩
    rw [z]
theorem map_erase {α β : Type} (f : α → β) : ∀ (l : List α) (j : Nat), (l.map f).eraseIdx j = (l.eraseIdx j).map f
  | [], _ => rfl
  | _ :: _, 0 => rfl
  | a :: l, j + 1 => by
    show f a :: (l.map f).eraseIdx j = _
    rw [map_erase f l j]; rfl
theorem p_removeE (h : S.get n = some (.lst (es.map eD))) (hm : e ∈ es) : OkP (mRemove (.ref n) [eD e] S) Q = Q .non (S.set n (.lst ((es.erase e).map eD))) := by
  have e2 : snaps S deep (es.map eD) = some (es.map eP) := snap_eds 38 es
  have e3 : snap S deep (eD e) = some (eP e) := rfl
  unfold mRemove
  simp only [h, e2, e3, find_eds]
  rw [List.erase_eq_eraseP, List.eraseP_eq_eraseIdx]
  cases hf : es.findIdx? (fun x => e == x) with
  | none =>
    exfalso
    have := List.findIdx?_eq_none_iff.mp hf e hm
    simp at this
  | some j =>
    simp only [okp_some]
    rw [map_erase]
/-- edges in order -/
def leE (a b : Ed) : Bool := !PySem.W.dataLt (eP b) (eP a)
def sortE (es : List Ed) : List Ed := es.mergeSort leE
theorem okSort_eds (es : List Ed) : okSort (es.map eP) = true := by
  unfold okSort
  rw [Bool.and_eq_true, Bool.or_eq_true]
  refine ⟨List.all_eq_true.mpr fun d hd => List.all_eq_true.mpr fun f hf => ?_, .inl (List.all_eq_true.mpr fun d hd => ?_)⟩
  · obtain ⟨a, _, rfl⟩ := List.mem_map.mp hd
    obtain ⟨b, _, rfl⟩ := List.mem_map.mp hf
    simp [eP, PySem.W.alike, PySem.W.alikeAll]
  · obtain ⟨a, _, rfl⟩ := List.mem_map.mp hd
    rfl
theorem sortD_eds (es : List Ed) : sortD (es.map eD) (es.map eP) = (sortE es).map eD := by
  have e : (es.map eD).zip (es.map eP) = es.map fun x => (eD x, eP x) := by
    rw [List.zip_map]
    induction es with
    | nil => rfl
    | cons a r ih => simp [List.zip, ih]
  unfold sortD
  rw [e, ← PySem.W.sort_maps (r := leE) (fun x => (eD x, eP x)) fun a _ b _ => rfl]
  unfold sortE
  rw [List.map_map]
  rfl
theorem p_sortE (h : S.get n = some (.lst (es.map eD))) : OkP (bSorted [.ref n] S) Q = Q (.ref S.size) (S.push (.lst ((sortE es).map eD))) := by
  have e2 : snaps S deep (es.map eD) = some (es.map eP) := snap_eds 38 es
  unfold bSorted lstAt
  simp only [h, e2]
  rw [if_pos (okSort_eds es), sortD_eds]
  rfl
end
/-! ### machines -/
structure Mach (S : Store) (n a b c sg st : Nat) (kept : List Ed) (first last : List Int) : Prop where
  hn : S.get n = some (.ins 12 [(7, .int sg), (8, .int st), (9, .ref a), (10, .ref b), (11, .ref c)])
  ha : S.get a = some (.lst (kept.map eD))
  hb : S.get b = some (.lst (intD first))
  hc : S.get c = some (.lst (intD last))
  ne : a ≠ b ∧ a ≠ c ∧ b ≠ c
section
variable {S S' : Store} {n a b c sg st : Nat} {kept : List Ed} {first last : List Int}
theorem Mach.keep {ex : List Nat} (m : Mach S n a b c sg st kept first last) (k : Keep S S' ex) (h1 : n ∉ ex) (h2 : a ∉ ex) (h3 : b ∉ ex) (h4 : c ∉ ex) : Mach S' n a b c sg st kept first last :=
  ⟨k.get m.hn h1, k.get m.ha h2, k.get m.hb h3, k.get m.hc h4, m.ne⟩
theorem Mach.lt (m : Mach S n a b c sg st kept first last) : n < S.size ∧ a < S.size ∧ b < S.size ∧ c < S.size := ⟨Store.get_lt m.hn, Store.get_lt m.ha, Store.get_lt m.hb, Store.get_lt m.hc⟩
theorem Mach.ne2 (m : Mach S n a b c sg st kept first last) : n ≠ a ∧ n ≠ b ∧ n ≠ c := by
  refine ⟨fun e => ?_, fun e => ?_, fun e => ?_⟩
  · have := m.ha; rw [← e, m.hn] at this; cases this
  · have := m.hb; rw [← e, m.hn] at this; cases this
  · have := m.hc; rw [← e, m.hn] at this; cases this
end
/-- an int in a range, no bool -/
def isIntD (lo hi : Int) : D → Bool
  | .int i => decide (lo ≤ i ∧ i ≤ hi)
  | _ => false
def abcN (sg : Nat) : List Nat := [97, 98, 99].take sg
def logS (sg : Nat) : D → Bool
  | .str s => s.all fun c => decide (c ∈ abcN sg)
  | _ => false
def bIsInt : MS := sRet (eAnd (e1 (opIsA .int) (eVar 0)) (eAnd (eNot (e1 (opIsA .bl) (eVar 0))) (eChain opLe opLe (eVar 1) (eVar 0) (eVar 2))))
def bIsLog : MS := sRet (eAnd (e1 (opIsA .str) (eVar 0)) (eB bAll (aCons (eLc (e2 opIn (eVar 2) (eCut (eC (.str [97, 98, 99])) (pNone) (pSome (eVar 1)))) (.nm 2) (iSeq (eVar 0)) (MP.tYes) [2]) (aNil))))
def bMachInit (ii : Nat) : MS := sSeq (sIf (MP.tNot (tV (eCall ii (aCons (eVar 1) (aCons (eC (.int 1)) (aCons (eC (.int 3)) (aNil)))) []))) (sRaise 11 [6] (aCons (eC (.int 3)) aNil)) (sPass)) (sSeq (sIf (MP.tNot (tV (eCall ii (aCons (eVar 2) (aCons (eC (.int 1)) (aCons (eC (.int 6)) (aNil)))) []))) (sRaise 11 [6] (aCons (eC (.int 6)) aNil)) (sPass)) (sSeq (sFld [12] 7 (eVar 0) (eVar 1)) (sSeq (sFld [12] 8 (eVar 0) (eVar 2)) (sSeq (sFld [12] 9 (eVar 0) (eLst (aNil))) (sSeq (sFld [12] 10 (eVar 0) (eLst (aNil))) (sFld [12] 11 (eVar 0) (eLst (aNil))))))))
def bReqState (ii : Nat) : MS := sIf (MP.tNot (tV (eCall ii (aCons (eVar 1) (aCons (eC (.int 0)) (aCons (e2 opSub (eFld [12] 8 (eVar 0)) (eC (.int 1))) (aNil)))) []))) (sRaise 5 [3] (aCons (eVar 1) aNil)) (sPass)
def bAddEdge (rq il : Nat) : MS := sSeq (sExpr (eMeth [(12, rq)] (eVar 0) (aCons (eVar 1) (aNil)) [])) (sSeq (sExpr (eMeth [(12, rq)] (eVar 0) (aCons (eVar 3) (aNil)) [])) (sSeq (sIf (MP.tOr (MP.tNot (tV (eCall il (aCons (eVar 2) (aCons (eFld [12] 7 (eVar 0)) (aNil))) []))) (MP.tB (e2 opNe (eB bLen (aCons (eVar 2) (aNil))) (eC (.int 1))))) (sRaise 0 [0] (aCons (eVar 2) aNil)) (sPass)) (sSeq (sSet (.nm 4) (eTup (aCons (eVar 1) (aCons (eVar 2) (aCons (eVar 3) (aNil)))))) (sSeq (sIf (MP.tB (e2 opIn (eVar 4) (eFld [12] 9 (eVar 0)))) (sRaise 9 [4] (aCons (eVar 4) aNil)) (sPass)) (sSeq (sIf (MP.tB (e2 opEq (eB bLen (aCons (eFld [12] 9 (eVar 0)) (aNil))) (eC (.int 14)))) (sRaise 11 [6] (aCons (eC (.int 14)) aNil)) (sPass)) (sExpr (eBM tyLst mAppend (eFld [12] 9 (eVar 0)) (aCons (eVar 4) (aNil)))))))))
def bRemEdge : MS := sSeq (sSet (.nm 4) (eTup (aCons (eVar 1) (aCons (eVar 2) (aCons (eVar 3) (aNil)))))) (sSeq (sIf (MP.tB (e2 opNotIn (eVar 4) (eFld [12] 9 (eVar 0)))) (sRaise 6 [4] (aCons (eVar 4) aNil)) (sPass)) (sExpr (eBM tyLst mRemove (eFld [12] 9 (eVar 0)) (aCons (eVar 4) (aNil)))))
def bEdges : MS := sRet (eB bTuple (aCons (eB bSorted (aCons (eFld [12] 9 (eVar 0)) (aNil))) (aNil)))
def IsIntSpec (call : List D → M D) : Prop := ∀ {S : Store} {d : D} {lo hi : Int}, tyOf S d = some (tyD d) → isX d = false → Ok (call [d, .int lo, .int hi] S) (fun v S' => v = .bl (isIntD lo hi d) ∧ S' = S) X0
def IsLogSpec (call : List D → M D) : Prop := ∀ {S : Store} {d : D} {sg : Nat}, tyOf S d = some (tyD d) → isX d = false → (∀ s, d = .str s → s.length ≤ 100000) → sg ≤ 3 → Ok (call [d, .int sg] S) (fun v S' => v = .bl (logS sg d) ∧ Keep S S' []) X0
theorem isint_ok {C : Cfg} : IsIntSpec (runFn ⟨3, 3, bIsInt⟩ C) := by
  intro S d lo hi h1 h2
  rw [ok_run]
  refine ⟨rfl, ?_⟩
  show OkS (bIsInt C [some d, some (.int lo), some (.int hi)] S) _
  unfold bIsInt
  rw [oks_ret]
  have hi' : ∀ (t : Ty) (Q : D → Store → Prop), OkP (opIsA t d S) Q = Q (.bl ((tyD d).le t)) S := fun t Q => by
    unfold opIsA; rw [h1]; rfl
  cases d with
  | int i =>
    simp [hi', tyD, Ty.le, isIntD]
    by_cases z1 : i < lo
    · have : ¬ lo ≤ i := by omega
      simp [z1, this]
    · have : lo ≤ i := by omega
      by_cases z2 : hi < i
      · have z3 : ¬ i ≤ hi := by omega
        simp [z1, this, z2, z3]
      · have z3 : i ≤ hi := by omega
        simp [z1, this, z2, z3]
  | _ => simp [h2, hi', tyD, Ty.le, isIntD]
theorem cut_abcN {sg : Nat} (h : sg ≤ 3) : cut [97, 98, 99] none (some (sg : Int)) = abcN sg := by
  rw [cut_take (by omega)]
  simp [abcN]
def inDN (sg : Nat) : D → D
  | .str [c] => .bl (decide (c ∈ abcN sg))
  | _ => .non
theorem inDN_map (sg : Nat) (s : List Nat) : (sgn s).map (inDN sg) = (s.map fun c => decide (c ∈ abcN sg)).map D.bl := by
  unfold sgn
  rw [List.map_map, List.map_map]; rfl
theorem islog_ok {C : Cfg} : IsLogSpec (runFn ⟨2, 3, bIsLog⟩ C) := by
  intro S d sg h1 h2 hl h3
  rw [ok_run]
  refine ⟨rfl, ?_⟩
  show OkS (bIsLog C [some d, some (.int sg), none] S) _
  unfold bIsLog
  rw [oks_ret]
  have hi' : ∀ (t : Ty) (Q : D → Store → Prop), OkP (opIsA t d S) Q = Q (.bl ((tyD d).le t)) S := fun t Q => by
    unfold opIsA; rw [h1]; rfl
  cases d with
  | str s =>
    have hs := hl s rfl
    simp [hi', tyD, Ty.le, ok_lc, wipe]
    refine Ok.imp (lc_map (inDN sg) (xs := sgn s) (by rw [sgn_len]; omega) fun j d S2 hd2 k2 => ?_) ?_
    · obtain ⟨c, hc, rfl⟩ := sgn_at hd2
      refine ⟨_, by simp; rfl, ?_⟩
      simp [cut_abcN h3]
      exact ⟨by decide, rfl, Keep.refl⟩
    · rintro _ S2 ⟨g, kp⟩
      rw [inDN_map] at g
      rw [p_all g]
      refine ⟨?_, kp⟩
      rw [List.all_map]
      rfl
  | _ =>
    simp [h2, hi', tyD, Ty.le, logS]
    exact Keep.refl
/-! ### the methods -/
def inR (st : Nat) (s : Int) : Prop := 0 ≤ s ∧ s < st
instance {st : Nat} {s : Int} : Decidable (inR st s) := by unfold inR; exact inferInstance
theorem isInt_inR {st : Nat} {s : Int} : isIntD 0 ((st : Int) - 1) (.int s) = decide (inR st s) := by
  show decide (0 ≤ s ∧ s ≤ (st : Int) - 1) = decide (inR st s)
  exact decide_eq_decide.mpr ⟨fun h => ⟨h.1, by have := h.2; omega⟩, fun h => ⟨h.1, by have := h.2; omega⟩⟩
def ReqSpec (call : List D → M D) : Prop := ∀ {S : Store} {n a b c sg st : Nat} {kept : List Ed} {first last : List Int} {s : Int}, Mach S n a b c sg st kept first last →
  Ok (call [.ref n, .int s] S) (fun v S' => v = .non ∧ inR st s ∧ S' = S) (fun k fs S' => ¬ inR st s ∧ k = 5 ∧ fs = [(3, .int s)] ∧ S' = S)
theorem req_ok {C : Cfg} {ii : Nat} (hi : IsIntSpec (C.call ii)) : ReqSpec (runFn ⟨2, 2, bReqState ii⟩ C) := by
  intro S n a b c sg st kept first last s m
  rw [ok_run]
  refine ⟨rfl, ?_⟩
  show OkS (bReqState ii C [some (.ref n), some (.int s)] S) _
  unfold bReqState
  rw [oks_if]
  simp
  rw [p_fld m.hn rfl (d := .int st) rfl]
  simp
  refine (hi (d := .int s) (S := S) rfl rfl).imp fun v S1 ⟨e, e2⟩ => ?_
  subst e; subst e2
  rw [isInt_inR]
  simp [truth]
  by_cases h : inR st s
  · first | refine .inl ⟨h, ?_⟩ | refine .inr ⟨h, ?_⟩
    rw [oks_pass]
    exact ⟨h, rfl⟩
  · first | refine .inl ⟨h, ?_⟩ | refine .inr ⟨h, ?_⟩
    rw [oks_raise]
    simp
    exact h
/-- what add_edge raises -/
def addR (sg st : Nat) (kept : List Ed) (e : Ed) : Option (Nat × Nat × D) :=
  if ¬ inR st e.1 then some (5, 3, .int e.1) else if ¬ inR st e.2.2 then some (5, 3, .int e.2.2) else if ¬ (logS sg (.str e.2.1) = true ∧ e.2.1.length = 1) then some (0, 0, .str e.2.1)
  else if e ∈ kept then some (9, 4, eD e) else if kept.length = 14 then some (11, 6, .int 14) else none
def AddSpec (call : List D → M D) : Prop := ∀ {S : Store} {n a b c sg st : Nat} {kept : List Ed} {first last : List Int} {e : Ed}, Mach S n a b c sg st kept first last → sg ≤ 3 → kept.length ≤ 1000 → e.2.1.length ≤ 1000 →
  Ok (call [.ref n, .int e.1, .str e.2.1, .int e.2.2] S) (fun v S' => v = .non ∧ addR sg st kept e = none ∧ Keep S S' [a] ∧ Mach S' n a b c sg st (kept ++ [e]) first last)
    (fun k fs S' => ∃ f d, addR sg st kept e = some (k, f, d) ∧ fs = [(f, d)] ∧ Keep S S' [])
theorem add_ok {C : Cfg} {rq il : Nat} (hr : ReqSpec (C.call rq)) (hl : IsLogSpec (C.call il)) : AddSpec (runFn ⟨4, 5, bAddEdge rq il⟩ C) := by
  intro S n a b c sg st kept first last e m h3 hk hs
  obtain ⟨o, s, t⟩ := e
  simp only at hs
  rw [ok_run]
  refine ⟨rfl, ?_⟩
  show OkS (bAddEdge rq il C [some (.ref n), some (.int o), some (.str s), some (.int t), none] S) _
  unfold bAddEdge
  have lt := m.lt
  have ne2 := m.ne2
  have ne1 := m.ne
  rw [oks_seq, oks_expr]
  simp [meth_at m.hn]
  refine (hr m).mono (fun v S1 ⟨e, h1, e2⟩ => ?_) (fun k fs S1 ⟨h1, e1, e2, e3⟩ => ?_)
  · subst e; subst e2
    rw [oks_seq, oks_expr]
    simp [meth_at m.hn]
    refine (hr m).mono (fun v S1 ⟨e, h2, e2⟩ => ?_) (fun k fs S1 ⟨h2, e1, e2, e3⟩ => ?_)
    · subst e; subst e2
      rw [oks_seq, oks_if]
      simp
      rw [p_fld m.hn rfl (d := .int sg) rfl]
      refine (hl (S := S1) (d := .str s) rfl rfl (fun s' e => by cases e; omega) h3).imp fun v S2 ⟨e, k2⟩ => ?_
      subst e
      have m2 := m.keep k2 (by simp) (by simp) (by simp) (by simp)
      have zl : s.length ≤ line := by unfold line; omega
      simp [truth, zl]
      by_cases h4 : logS sg (.str s) = true ∧ s.length = 1
      · have e0 : addR sg st kept (o, s, t) = if (o, s, t) ∈ kept then some (9, 4, eD (o, s, t)) else if kept.length = 14 then some (11, 6, .int 14) else none := by
          unfold addR
          rw [if_neg (by simpa using h1), if_neg (by simpa using h2), if_neg (by simpa using h4)]
        have hlen : ((s.length : Int) = 1) := by omega
        first | refine .inl ⟨h4.1, .inl ⟨hlen, ?_⟩⟩ | refine .inl ⟨h4.1, .inr ⟨hlen, ?_⟩⟩ | refine .inr ⟨h4.1, .inl ⟨hlen, ?_⟩⟩ | refine .inr ⟨h4.1, .inr ⟨hlen, ?_⟩⟩
        rw [oks_pass]
        dsimp only
        rw [oks_seq, oks_set]
        simp
        refine ⟨by decide, ?_⟩
        have eE : D.tup [.int o, .str s, .int t] = eD (o, s, t) := rfl
        rw [oks_seq, oks_if]
        simp
        rw [p_fld m2.hn rfl (d := .ref a) rfl, eE, p_inE m2.ha]
        simp
        by_cases h5 : (o, s, t) ∈ kept
        · first | refine .inl ⟨h5, ?_⟩ | refine .inr ⟨h5, ?_⟩
          rw [oks_raise]
          simp
          rw [e0, if_pos h5]
          exact ⟨rfl, 4, eD (o, s, t), rfl, ⟨rfl, rfl⟩, k2⟩
        · first | refine .inl ⟨h5, ?_⟩ | refine .inr ⟨h5, ?_⟩
          rw [oks_pass]
          dsimp only
          rw [oks_seq, oks_if]
          simp
          rw [p_fld m2.hn rfl (d := .ref a) rfl, p_len m2.ha]
          simp
          by_cases h6 : kept.length = 14
          · have h6' : (kept.length : Int) = 14 := by omega
            first | refine .inl ⟨h6', ?_⟩ | refine .inr ⟨h6', ?_⟩
            rw [oks_raise]
            simp
            rw [e0, if_neg h5, if_pos h6]
            exact ⟨6, .int 14, rfl, ⟨rfl, rfl⟩, k2⟩
          · have h6' : ¬ (kept.length : Int) = 14 := by omega
            first | refine .inl ⟨h6', ?_⟩ | refine .inr ⟨h6', ?_⟩
            rw [oks_pass]
            dsimp only
            rw [oks_expr]
            simp
            rw [p_fld m2.hn rfl (d := .ref a) rfl]
            have ht := tyLst_of m2.ha
            have lt2 := m2.lt
            refine ⟨ht, ?_⟩
            rw [p_append m2.ha]
            refine ⟨rfl, by rw [List.length_map]; unfold line; omega, by rw [e0, if_neg h5, if_neg h6], (k2.weak (by simp)).trans (Keep.set _ lt2.2.1 (by simp)), ?_⟩
            refine ⟨?_, ?_, ?_, ?_, ne1⟩
            · rw [Store.get_set_ne _ lt2.2.1 (by omega)]; exact m2.hn
            · rw [Store.get_set_same _ lt2.2.1]
              simp [eE]
            · rw [Store.get_set_ne _ lt2.2.1 (by omega)]; exact m2.hb
            · rw [Store.get_set_ne _ lt2.2.1 (by omega)]; exact m2.hc
      · have e0 : addR sg st kept (o, s, t) = some (0, 0, .str s) := by
          unfold addR
          rw [if_neg (by simpa using h1), if_neg (by simpa using h2), if_pos (by simpa using h4)]
        have go : OkS (sRaise 0 [0] (aCons (eVar 2) aNil) C [some (.ref n), some (.int o), some (.str s), some (.int t), none] S2)
            { nx := fun _ _ => False, rt := fun _ _ => False, ex := fun k fs x S' => ∃ f d, addR sg st kept (o, s, t) = some (k, f, d) ∧ fs = [(f, d)] ∧ Keep S1 S' [] } := by
          rw [oks_raise]
          simp
          rw [e0]
          exact ⟨0, .str s, rfl, ⟨rfl, rfl⟩, k2⟩
        have go' := fun T' => go.mono (T' := T') (fun _ _ z => z.elim) (fun _ _ z => z.elim) (fun _ _ z => z.elim) (fun _ _ z => z.elim)
        by_cases h5 : logS sg (.str s) = true
        · have h6 : ¬ ((s.length : Int) = 1) := fun z => h4 ⟨h5, by omega⟩
          first | refine .inl ⟨h5, .inl ⟨h6, go' _ fun _ _ _ _ z => z⟩⟩ | refine .inl ⟨h5, .inr ⟨h6, go' _ fun _ _ _ _ z => z⟩⟩ | refine .inr ⟨h5, .inl ⟨h6, go' _ fun _ _ _ _ z => z⟩⟩ | refine .inr ⟨h5, .inr ⟨h6, go' _ fun _ _ _ _ z => z⟩⟩
        · have h5' : logS sg (.str s) = false := by simpa using h5
          first | refine .inl ⟨h5', go' _ fun _ _ _ _ z => z⟩ | refine .inr ⟨h5', go' _ fun _ _ _ _ z => z⟩
    · subst e1; subst e2; subst e3
      refine ⟨3, .int t, ?_, rfl, Keep.refl⟩
      unfold addR
      rw [if_neg (by simpa using h1), if_pos (by simpa using h2)]
  · subst e1; subst e2; subst e3
    refine ⟨3, .int o, ?_, rfl, Keep.refl⟩
    unfold addR
    rw [if_pos (by simpa using h1)]
def RemSpec (call : List D → M D) : Prop := ∀ {S : Store} {n a b c sg st : Nat} {kept : List Ed} {first last : List Int} {e : Ed}, Mach S n a b c sg st kept first last →
  Ok (call [.ref n, .int e.1, .str e.2.1, .int e.2.2] S) (fun v S' => v = .non ∧ e ∈ kept ∧ Keep S S' [a] ∧ Mach S' n a b c sg st (kept.erase e) first last)
    (fun k fs S' => e ∉ kept ∧ k = 6 ∧ fs = [(4, eD e)] ∧ S' = S)
theorem rem_ok {C : Cfg} : RemSpec (runFn ⟨4, 5, bRemEdge⟩ C) := by
  intro S n a b c sg st kept first last e m
  obtain ⟨o, s, t⟩ := e
  rw [ok_run]
  refine ⟨rfl, ?_⟩
  show OkS (bRemEdge C [some (.ref n), some (.int o), some (.str s), some (.int t), none] S) _
  unfold bRemEdge
  have lt := m.lt
  have ne2 := m.ne2
  have ne1 := m.ne
  rw [oks_seq, oks_set]
  simp
  refine ⟨by decide, ?_⟩
  have eE : D.tup [.int o, .str s, .int t] = eD (o, s, t) := rfl
  rw [oks_seq, oks_if]
  simp
  rw [p_fld m.hn rfl (d := .ref a) rfl, eE, p_notinE m.ha]
  simp
  by_cases h5 : (o, s, t) ∈ kept
  · first | refine .inl ⟨h5, ?_⟩ | refine .inr ⟨h5, ?_⟩
    rw [oks_pass]
    dsimp only
    rw [oks_expr]
    simp
    rw [p_fld m.hn rfl (d := .ref a) rfl]
    have ht := tyLst_of m.ha
    refine ⟨ht, ?_⟩
    rw [p_removeE m.ha h5]
    refine ⟨rfl, h5, Keep.set _ lt.2.1 (by simp), ?_, ?_, ?_, ?_, ne1⟩
    · rw [Store.get_set_ne _ lt.2.1 (by omega)]; exact m.hn
    · rw [Store.get_set_same _ lt.2.1]
    · rw [Store.get_set_ne _ lt.2.1 (by omega)]; exact m.hb
    · rw [Store.get_set_ne _ lt.2.1 (by omega)]; exact m.hc
  · first | refine .inl ⟨h5, ?_⟩ | refine .inr ⟨h5, ?_⟩
    rw [oks_raise]
    simp
    exact ⟨rfl, h5⟩
def EdgesSpec (call : List D → M D) : Prop := ∀ {S : Store} {n a b c sg st : Nat} {kept : List Ed} {first last : List Int}, Mach S n a b c sg st kept first last →
  Ok (call [.ref n] S) (fun v S' => v = .tup ((sortE kept).map eD) ∧ Keep S S' []) X0
theorem edges_ok {C : Cfg} : EdgesSpec (runFn ⟨1, 1, bEdges⟩ C) := by
  intro S n a b c sg st kept first last m
  rw [ok_run]
  refine ⟨rfl, ?_⟩
  show OkS (bEdges C [some (.ref n)] S) _
  unfold bEdges
  rw [oks_ret]
  simp
  rw [p_fld m.hn rfl (d := .ref a) rfl, p_sortE m.ha]
  have g : (S.push (.lst ((sortE kept).map eD))).get S.size = some (.lst ((sortE kept).map eD)) := Store.get_push_same _ _
  rw [p_tuple g]
  exact ⟨rfl, Keep.push _⟩

/-! ### a new machine -/
def InitSpec (call : List D → M D) : Prop := ∀ {S : Store} {n : Nat} {dk dn : D}, S.get n = some (.ins 12 []) → tyOf S dk = some (tyD dk) → isX dk = false → tyOf S dn = some (tyD dn) → isX dn = false →
  Ok (call [.ref n, dk, dn] S) (fun v S' => v = .non ∧ isIntD 1 3 dk = true ∧ isIntD 1 6 dn = true ∧ ∃ sg st a b c : Nat, dk = .int sg ∧ dn = .int st ∧ (S.size ≤ a ∧ S.size ≤ b ∧ S.size ≤ c) ∧ Mach S' n a b c sg st [] [] [] ∧ Keep S S' [n])
    (fun k fs S' => k = 11 ∧ ((isIntD 1 3 dk = false ∧ fs = [(6, .int 3)]) ∨ (isIntD 1 3 dk = true ∧ isIntD 1 6 dn = false ∧ fs = [(6, .int 6)])) ∧ S' = S)
theorem int_of {lo hi : Int} {d : D} (h : isIntD lo hi d = true) (h0 : 0 ≤ lo) : ∃ m : Nat, d = .int m ∧ lo ≤ m ∧ m ≤ hi := by
  unfold isIntD at h
  split at h
  · rename_i i
    have h := of_decide_eq_true h
    exact ⟨i.toNat, by congr 1; omega, by omega, by omega⟩
  · cases h
theorem init_ok {C : Cfg} {ii : Nat} (hi : IsIntSpec (C.call ii)) : InitSpec (runFn ⟨3, 3, bMachInit ii⟩ C) := by
  intro S n dk dn hg tk xk tn xn
  rw [ok_run]
  refine ⟨rfl, ?_⟩
  show OkS (bMachInit ii C [some (.ref n), some dk, some dn] S) _
  unfold bMachInit
  rw [oks_seq, oks_if]
  simp [xk]
  refine (hi tk xk).imp fun v S1 ⟨e, e2⟩ => ?_
  subst e; subst e2
  simp [truth]
  cases h1 : isIntD 1 3 dk with
  | false =>
    first | refine .inl ⟨rfl, ?_⟩ | refine .inr ⟨rfl, ?_⟩
    rw [oks_raise]
    simp
  | true =>
    first | refine .inl ⟨rfl, ?_⟩ | refine .inr ⟨rfl, ?_⟩
    rw [oks_pass]
    dsimp only
    rw [oks_seq, oks_if]
    simp [xn]
    refine (hi tn xn).imp fun v S2 ⟨e, e2⟩ => ?_
    subst e; subst e2
    simp [truth]
    cases h2 : isIntD 1 6 dn with
    | false =>
      first | refine .inl ⟨rfl, ?_⟩ | refine .inr ⟨rfl, ?_⟩
      rw [oks_raise]
      simp
    | true =>
      first | refine .inl ⟨rfl, ?_⟩ | refine .inr ⟨rfl, ?_⟩
      rw [oks_pass]
      dsimp only
      obtain ⟨sg, rfl, _, _⟩ := int_of h1 (by decide)
      obtain ⟨st, rfl, _, _⟩ := int_of h2 (by decide)
      have hn := Store.get_lt hg
      rw [oks_seq, oks_fld]
      simp
      rw [p_putFld hg rfl (by decide)]
      have g1 : (S2.set n (.ins 12 [(7, .int sg)])).get n = some (.ins 12 [(7, .int sg)]) := Store.get_set_same _ hn
      have k1 : Keep S2 (S2.set n (.ins 12 [(7, .int sg)])) [n] := Keep.set _ hn (by simp)
      have s1 : (S2.set n (.ins 12 [(7, .int sg)])).size = S2.size := rfl
      show OkS _ _
      rw [show fput 7 (D.int sg) [] = [(7, .int sg)] from rfl]
      generalize S2.set n (.ins 12 [(7, .int sg)]) = A1 at g1 k1 s1
      rw [oks_seq, oks_fld]
      simp
      rw [p_putFld g1 rfl (by simp)]
      rw [show fput 8 (D.int st) [(7, .int sg)] = [(7, .int sg), (8, .int st)] from rfl]
      have g2 : (A1.set n (.ins 12 [(7, .int sg), (8, .int st)])).get n = some (.ins 12 [(7, .int sg), (8, .int st)]) := Store.get_set_same _ (by omega)
      have k2 : Keep A1 (A1.set n (.ins 12 [(7, .int sg), (8, .int st)])) [n] := Keep.set _ (by omega) (by simp)
      have s2 : (A1.set n (.ins 12 [(7, .int sg), (8, .int st)])).size = S2.size := s1
      generalize A1.set n (.ins 12 [(7, .int sg), (8, .int st)]) = A2 at g2 k2 s2
      rw [oks_seq, oks_fld]
      simp
      have g3 : (A2.push (.lst [])).get n = some (.ins 12 [(7, .int sg), (8, .int st)]) := Store.get_push_of g2
      have ga3 : (A2.push (.lst [])).get A2.size = some (.lst []) := Store.get_push_same _ _
      have k3 : Keep A2 (A2.push (.lst [])) [n] := Keep.push _
      have s3 : (A2.push (.lst [])).size = S2.size + 1 := by show A2.size + 1 = _; omega
      generalize A2.push (.lst []) = A3 at g3 ga3 k3 s3
      rw [p_putFld g3 rfl (by simp), s2]
      rw [s2] at ga3
      rw [show fput 9 (D.ref S2.size) [(7, .int sg), (8, .int st)] = [(7, .int sg), (8, .int st), (9, .ref S2.size)] from rfl]
      have g4 : (A3.set n (.ins 12 [(7, .int sg), (8, .int st), (9, .ref S2.size)])).get n = some (.ins 12 [(7, .int sg), (8, .int st), (9, .ref S2.size)]) := Store.get_set_same _ (by omega)
      have ga4 : (A3.set n (.ins 12 [(7, .int sg), (8, .int st), (9, .ref S2.size)])).get S2.size = some (.lst []) := by rw [Store.get_set_ne _ (by omega) (by omega)]; exact ga3
      have k4 : Keep A3 (A3.set n (.ins 12 [(7, .int sg), (8, .int st), (9, .ref S2.size)])) [n] := Keep.set _ (by omega) (by simp)
      have s4 : (A3.set n (.ins 12 [(7, .int sg), (8, .int st), (9, .ref S2.size)])).size = S2.size + 1 := s3
      generalize A3.set n (.ins 12 [(7, .int sg), (8, .int st), (9, .ref S2.size)]) = A4 at g4 ga4 k4 s4
      rw [oks_seq, oks_fld]
      simp
      have g5 : (A4.push (.lst [])).get n = some (.ins 12 [(7, .int sg), (8, .int st), (9, .ref S2.size)]) := Store.get_push_of g4
      have ga5 : (A4.push (.lst [])).get S2.size = some (.lst []) := Store.get_push_of ga4
      have gb5 : (A4.push (.lst [])).get A4.size = some (.lst []) := Store.get_push_same _ _
      have k5 : Keep A4 (A4.push (.lst [])) [n] := Keep.push _
      have s5 : (A4.push (.lst [])).size = S2.size + 2 := by show A4.size + 1 = _; omega
      generalize A4.push (.lst []) = A5 at g5 ga5 gb5 k5 s5
      rw [p_putFld g5 rfl (by simp), s4]
      rw [s4] at gb5
      rw [show fput 10 (D.ref (S2.size + 1)) [(7, .int sg), (8, .int st), (9, .ref S2.size)] = [(7, .int sg), (8, .int st), (9, .ref S2.size), (10, .ref (S2.size + 1))] from rfl]
      have g6 : (A5.set n (.ins 12 [(7, .int sg), (8, .int st), (9, .ref S2.size), (10, .ref (S2.size + 1))])).get n = some (.ins 12 [(7, .int sg), (8, .int st), (9, .ref S2.size), (10, .ref (S2.size + 1))]) := Store.get_set_same _ (by omega)
      have ga6 : (A5.set n (.ins 12 [(7, .int sg), (8, .int st), (9, .ref S2.size), (10, .ref (S2.size + 1))])).get S2.size = some (.lst []) := by rw [Store.get_set_ne _ (by omega) (by omega)]; exact ga5
      have gb6 : (A5.set n (.ins 12 [(7, .int sg), (8, .int st), (9, .ref S2.size), (10, .ref (S2.size + 1))])).get (S2.size + 1) = some (.lst []) := by rw [Store.get_set_ne _ (by omega) (by omega)]; exact gb5
      have k6 : Keep A5 (A5.set n (.ins 12 [(7, .int sg), (8, .int st), (9, .ref S2.size), (10, .ref (S2.size + 1))])) [n] := Keep.set _ (by omega) (by simp)
      have s6 : (A5.set n (.ins 12 [(7, .int sg), (8, .int st), (9, .ref S2.size), (10, .ref (S2.size + 1))])).size = S2.size + 2 := s5
      generalize A5.set n (.ins 12 [(7, .int sg), (8, .int st), (9, .ref S2.size), (10, .ref (S2.size + 1))]) = A6 at g6 ga6 gb6 k6 s6
      rw [oks_fld]
      simp
      have g7 : (A6.push (.lst [])).get n = some (.ins 12 [(7, .int sg), (8, .int st), (9, .ref S2.size), (10, .ref (S2.size + 1))]) := Store.get_push_of g6
      have ga7 : (A6.push (.lst [])).get S2.size = some (.lst []) := Store.get_push_of ga6
      have gb7 : (A6.push (.lst [])).get (S2.size + 1) = some (.lst []) := Store.get_push_of gb6
      have gc7 : (A6.push (.lst [])).get A6.size = some (.lst []) := Store.get_push_same _ _
      have k7 : Keep A6 (A6.push (.lst [])) [n] := Keep.push _
      have s7 : (A6.push (.lst [])).size = S2.size + 3 := by show A6.size + 1 = _; omega
      generalize A6.push (.lst []) = A7 at g7 ga7 gb7 gc7 k7 s7
      rw [p_putFld g7 rfl (by simp), s6]
      rw [s6] at gc7
      rw [show fput 11 (D.ref (S2.size + 2)) [(7, .int sg), (8, .int st), (9, .ref S2.size), (10, .ref (S2.size + 1))] = [(7, .int sg), (8, .int st), (9, .ref S2.size), (10, .ref (S2.size + 1)), (11, .ref (S2.size + 2))] from rfl]
      refine ⟨sg, rfl, st, rfl, S2.size, S2.size + 1, S2.size + 2, ⟨by omega, by omega, by omega⟩, ⟨?_, ?_, ?_, ?_, by omega, by omega, by omega⟩, ?_⟩
      · exact Store.get_set_same _ (by omega)
      · rw [Store.get_set_ne _ (by omega) (by omega)]; exact ga7
      · rw [Store.get_set_ne _ (by omega) (by omega)]; exact gb7
      · rw [Store.get_set_ne _ (by omega) (by omega)]; exact gc7
      · exact ((((((k1.trans k2).trans k3).trans k4).trans k5).trans k6).trans k7).trans (Keep.set _ (by omega) (by simp))
/-! ### loops over lists that stay -/
section
variable {S : Store} {C : Cfg} {σ : Slots} {T : Pt}
theorem lst_next {n : Nat} {xs : List D} {i : Nat} (h : S.get n = some (.lst xs)) : It.next S (.lst n) i = some xs[i]? := by
  unfold It.next lstAt
  simp only [h]
theorem for_lst {n : Nat} {xs : List D} {g : Tg} {b : MS} (hl : xs.length < turns) (I : Nat → Slots → Store → Prop) (at_ : ∀ i σ S, I i σ S → S.get n = some (.lst xs)) (h0 : I 0 σ S)
    (step : ∀ (i : Nat) (d : D) (σ : Slots) (S : Store), xs[i]? = some d → I i σ S → ∃ σ1, asg S g d σ = some σ1 ∧ OkS (b C σ1 S) { nx := I (i + 1), rt := T.rt, bk := T.nx, ct := I (i + 1), ex := T.ex })
    (done : ∀ σ S, I xs.length σ S → T.nx σ S) : OkS (forN (.lst n) g b C turns 0 σ S) T := by
  refine for_inv xs.length (fun i σ S => i ≤ xs.length ∧ I i σ S) (fun i σ S ⟨hi, h⟩ => ?_) turns 0 σ S ⟨Nat.zero_le _, h0⟩ (by omega)
  have hn := lst_next (i := i) (at_ i σ S h)
  by_cases e : i < xs.length
  · obtain ⟨σ1, h1, h2⟩ := step i xs[i] σ S (List.getElem?_eq_getElem e) h
    refine .inr ⟨xs[i], σ1, e, by rw [hn, List.getElem?_eq_getElem e], h1, ?_⟩
    exact h2.mono (fun σ S z => ⟨e, z⟩) (fun _ _ z => z) (fun _ _ z => z) (fun σ S z => ⟨e, z⟩) fun _ _ _ _ z => z
  · have e' : i = xs.length := by omega
    subst e'
    exact .inl ⟨Nat.le_refl _, by rw [hn, List.getElem?_eq_none (Nat.le_refl _)], done σ S h⟩
/-- [f x for x in xs if p x], xs a list that stays -/
theorem lc_fml {n : Nat} {e : ME} {g : Tg} {c : MT} {xs : List D} (p : D → Bool) (f : D → D) (hg : S.get n = some (.lst xs)) (hl : xs.length ≤ 1000000)
    (step : ∀ (i : Nat) (d : D) (S' : Store), xs[i]? = some d → Keep S S' [] → ∃ σ1, asg S' g d σ = some σ1 ∧ Ok (c C σ1 S') (fun b S1 => b = p d ∧ Keep S' S1 [] ∧ (b = true → Ok (e C σ1 S1) (fun y S2 => y = f d ∧ Keep S1 S2 []) X0)) X0) :
    Ok (compN (.lst n) g c (emit e S.size C) C σ turns 0 (S.push (.lst []))) (fun _ S2 => S2.get S.size = some (.lst ((xs.filter p).map f)) ∧ Keep S S2 []) X0 := by
  have hn := Store.get_lt hg
  refine comp_inv (Q := fun S2 => S2.get S.size = some (.lst ((xs.filter p).map f)) ∧ Keep S S2 []) xs.length (fun i S' => i ≤ xs.length ∧ S'.get S.size = some (.lst (((xs.take i).filter p).map f)) ∧ Keep S S' []) (fun i S' ⟨hi, g, k⟩ => ?_) turns 0 _ ⟨Nat.zero_le _, Store.get_push_same _ _, Keep.push _⟩ (by unfold turns; omega)
  have hx := lst_next (i := i) (k.get hg (by simp))
  by_cases e1 : i < xs.length
  · have hd : xs[i]? = some xs[i] := List.getElem?_eq_getElem e1
    obtain ⟨σ1, h1, h2⟩ := step i xs[i] S' hd k
    refine .inr ⟨xs[i], σ1, e1, by rw [hx, hd], h1, h2.imp fun b S1 ⟨eb, k1, h3⟩ => ?_⟩
    have ht : xs.take (i + 1) = xs.take i ++ [xs[i]] := by rw [List.take_succ, hd]; rfl
    have g1 := k1.get g (by simp)
    rw [ht, List.filter_append, List.map_append]
    have hz : (((xs.take i).filter p).map f).length ≤ i := by
      rw [List.length_map]
      exact Nat.le_trans (List.length_filter_le _ _) (by rw [List.length_take]; omega)
    cases b with
    | false =>
      have e2 : [xs[i]].filter p = [] := by simp [← eb]
      rw [e2, List.map_nil, List.append_nil]
      exact ⟨e1, g1, k.trans k1⟩
    | true =>
      have e2 : [xs[i]].filter p = [xs[i]] := by simp [← eb]
      rw [if_pos rfl, e2, ok_emit]
      refine (h3 rfl).imp fun y S2 ⟨e3, k2⟩ => ?_
      subst e3
      have g2 := k2.get g1 (by simp)
      exact ⟨_, g2, by unfold line; omega, e1, Store.get_set_same _ (Store.get_lt g2), ((k.trans k1).trans k2).set_new _ (Nat.le_refl _) (Store.get_lt g2)⟩
  · have e' : i = xs.length := by omega
    subst e'
    refine .inl ⟨Nat.le_refl _, by rw [hx, List.getElem?_eq_none (Nat.le_refl _)], ?_, k⟩
    rw [List.take_length] at g
    exact g
theorem p_popAt {n : Nat} {xs : List D} {i : Int} {Q : D → Store → Prop} (h : S.get n = some (.lst xs)) (h0 : 0 ≤ i) (h1 : i < xs.length) (h2 : xs.length ≤ 1000000) : OkP (mPopAt (.ref n) [.int i] S) Q = ∃ y, xs[i.toNat]? = some y ∧ Q y (S.set n (.lst (xs.eraseIdx i.toNat))) := by
  have e : okR i = true := okR_nat h0 (by omega)
  unfold mPopAt
  simp only [h, e, ixN_at h0 h1]
  cases xs[i.toNat]? <;> simp [OkP]
theorem erase_ix {α : Type} [BEq α] [LawfulBEq α] : ∀ {l : List α} {i : Nat} {x : α}, l.Nodup → l[i]? = some x → l.erase x = l.eraseIdx i
  | [], _, _, _, h => by simp at h
  | a :: l, 0, x, _, h => by
    simp at h
    subst h
    simp
  | a :: l, i + 1, x, nd, h => by
    rw [List.getElem?_cons_succ] at h
    have hx := List.mem_of_getElem? h
    obtain ⟨h1, h2⟩ := List.nodup_cons.mp nd
    have ne : ¬ a = x := fun e => h1 (e ▸ hx)
    rw [List.erase_cons_tail (by simpa using ne), List.eraseIdx_cons_succ, erase_ix h2 h]
end
end MP

/-! MP: dict comprehensions in plain Lean; machines walked. Own work. -/
namespace MP
open PySem (PyData)
section
variable {S : Store} {Q : D → Store → Prop} {C : Cfg} {σ : Slots} {T : Pt} {E : Nat → Fs → Store → Prop}
@[simp] theorem ok_dct : Ok (eDct C σ S) Q E = Q (.ref S.size) (S.push (.dct [])) := id rfl
theorem ok_emitD {k v : ME} {n : Nat} {Q : Store → Prop} : Ok (emitD k v n C σ S) (fun _ S' => Q S') X0 = Ok (k C σ S) (fun x S1 => Ok (v C σ S1) (fun y S2 => ∃ kvs, S2.get n = some (.dct kvs) ∧ (keyFits x kvs && decide (kvs.length < line)) = true ∧ Q (S2.set n (.dct (dput x y kvs)))) X0) X0 := by
  unfold emitD
  cases k C σ S with
  | bad => rfl
  | ex c fs S' => rfl
  | ok x S1 =>
    show Ok (match v C σ S1 with
      | .ok y S2 => (match S2.get n with
        | some (.dct kvs) => if (keyFits x kvs && decide (kvs.length < line)) = true then .ok () (S2.set n (.dct (dput x y kvs))) else .bad
        | _ => .bad)
      | _ => .bad) _ _ = Ok (v C σ S1) _ _
    cases v C σ S1 with
    | bad => rfl
    | ex c fs S' => rfl
    | ok y S2 =>
      show Ok (match S2.get n with
        | some (.dct kvs) => if (keyFits x kvs && decide (kvs.length < line)) = true then .ok () (S2.set n (.dct (dput x y kvs))) else .bad
        | _ => .bad) _ _ = ∃ kvs, S2.get n = some (.dct kvs) ∧ (keyFits x kvs && decide (kvs.length < line)) = true ∧ Q (S2.set n (.dct (dput x y kvs)))
      cases S2.get n with
      | none => simp [Ok]
      | some o =>
        cases o with
        | dct kvs =>
          by_cases h : (keyFits x kvs && decide (kvs.length < line)) = true
          · simp only [h, if_true, Option.some.injEq, Ob.dct.injEq, exists_eq_left', true_and]; rfl
          · have e : ∀ kvs', some (Ob.dct kvs) = some (Ob.dct kvs') → kvs' = kvs := fun _ z => by cases z; rfl
            rw [Bool.not_eq_true] at h
            simp only [h, Bool.false_eq_true, if_false]
            show False = _
            refine (propext ⟨fun z => z.elim, fun ⟨kvs', z, z2, _⟩ => ?_⟩)
            rw [e kvs' z, h] at z2
            cases z2
        | _ => simp [Ok]
/-- {k: v for g in t if c} -/
theorem ok_dc {k v : ME} {g : Tg} {t : MI} {c : MT} {own : List Nat} {Q} : Ok (eDc k v g t c own C σ S) Q E =
    Ok (t C σ S) (fun i S1 => Ok (compN i g c (emitD k v S1.size C) C (wipe σ own) turns 0 (S1.push (.dct []))) (fun _ S2 => Q (.ref S1.size) S2) X0) E := by
  show Ok (M.bind _ _ S) Q E = _
  rw [ok_bind]
  congr 1; funext i S1
  cases compN i g c (emitD k v S1.size C) C (wipe σ own) turns 0 (S1.push (.dct [])) <;> rfl
/-! ### the keys of a dict whose values are all True -/
section
variable {α : Type} [DecidableEq α]
def addK (l : List α) (x : α) : List α := if x ∈ l then l else l ++ [x]
/-- each once, at its first place -/
def uk (l : List α) : List α := l.foldl addK []
theorem uk_snoc (l : List α) (x : α) : uk (l ++ [x]) = addK (uk l) x := by unfold uk; rw [List.foldl_append]; rfl
theorem mem_addK {l : List α} {x y : α} : y ∈ addK l x ↔ y ∈ l ∨ y = x := by
  unfold addK
  split
  · rename_i h
    exact ⟨.inl, fun z => z.elim id fun e => e ▸ h⟩
  · rw [List.mem_append, List.mem_singleton]
theorem nodup_addK {l : List α} (x : α) (h : l.Nodup) : (addK l x).Nodup := by
  unfold addK
  split
  · exact h
  · rename_i hn
    rw [List.nodup_append]
    exact ⟨h, by simp, fun a ha b hb => by
      rw [List.mem_singleton] at hb
      subst hb
      exact fun e => hn (e ▸ ha)⟩
theorem foldl_addK (l : List α) : ∀ acc : List α, (∀ y, y ∈ l.foldl addK acc ↔ y ∈ acc ∨ y ∈ l) ∧ (acc.Nodup → (l.foldl addK acc).Nodup) := by
  induction l with
  | nil => exact fun acc => ⟨fun y => by simp, fun h => h⟩
  | cons x r ih =>
    intro acc
    obtain ⟨h1, h2⟩ := ih (addK acc x)
    refine ⟨fun y => ?_, fun h => h2 (nodup_addK x h)⟩
    show y ∈ r.foldl addK (addK acc x) ↔ _
    rw [h1, mem_addK, List.mem_cons, or_assoc]
theorem mem_uk {l : List α} {y : α} : y ∈ uk l ↔ y ∈ l := by
  unfold uk
  rw [(foldl_addK l []).1]; simp
theorem nodup_uk (l : List α) : (uk l).Nodup := (foldl_addK l []).2 List.nodup_nil
theorem len_addK {l : List α} {x : α} : (addK l x).length ≤ l.length + 1 := by
  unfold addK
  split
  · omega
  · rw [List.length_append, List.length_singleton]; omega
theorem len_uk (l : List α) : (uk l).length ≤ l.length := by
  have h : ∀ (l acc : List α), (l.foldl addK acc).length ≤ acc.length + l.length := by
    intro l
    induction l with
    | nil => intro acc; simp
    | cons x r ih =>
      intro acc
      have := ih (addK acc x)
      have := len_addK (l := acc) (x := x)
      rw [List.length_cons]
      show (r.foldl addK (addK acc x)).length ≤ _
      omega
  have := h l []
  simpa [uk] using this
/-- keys as data -/
structure KeyD (kd : α → D) : Prop where
  eq : ∀ a b, D.beq (kd a) (kd b) = decide (a = b)
  fit : ∀ a l, keyFits (kd a) l = true
theorem keyI : KeyD D.int := ⟨fun a b => by unfold D.beq; rw [Bool.eq_iff_iff]; simp, fun _ _ => rfl⟩
theorem keyS : KeyD D.str := ⟨fun a b => by unfold D.beq; rw [Bool.eq_iff_iff]; simp, fun _ _ => rfl⟩
def kt (kd : α → D) (ks : List α) : List (D × D) := ks.map fun a => (kd a, .bl true)
theorem kt_put {kd : α → D} (hk : KeyD kd) (ks : List α) (x : α) : dput (kd x) (.bl true) (kt kd ks) = kt kd (addK ks x) := by
  unfold dput kt addK
  have h : ((ks.map fun a => (kd a, D.bl true)).any fun p => D.beq p.1 (kd x)) = decide (x ∈ ks) := by
    rw [List.any_map, Bool.eq_iff_iff, List.any_eq_true, decide_eq_true_iff]
    exact ⟨fun ⟨y, h1, h2⟩ => by
      have h2 : D.beq (kd y) (kd x) = true := h2
      rw [hk.eq, decide_eq_true_iff] at h2
      exact h2 ▸ h1, fun h => ⟨x, h, by show D.beq (kd x) (kd x) = true; rw [hk.eq]; simp⟩⟩
  rw [h]
  by_cases hx : x ∈ ks
  · rw [if_pos (by simpa using hx), if_pos hx, List.map_map]
    refine List.map_congr_left fun a _ => ?_
    show (if D.beq (kd a) (kd x) = true then (kd a, D.bl true) else (kd a, D.bl true)) = _
    split <;> rfl
  · rw [if_neg (by simpa using hx), if_neg hx, List.map_append]; rfl
theorem kt_keys (kd : α → D) (ks : List α) : (kt kd ks).map (·.1) = ks.map kd := by unfold kt; rw [List.map_map]; rfl
theorem kt_len (kd : α → D) (ks : List α) : (kt kd ks).length = ks.length := by unfold kt; rw [List.length_map]
/-- {kd (f x): True for x in it if p x}, each part leaves the store as it was (but for new objects) -/
theorem dc_fm {it : It} {k : ME} {g : Tg} {c : MT} {xs : List D} {kd : α → D} (hk : KeyD kd) (p : D → Bool) (f : D → α) (hl : xs.length ≤ 1000000) (nx : ∀ S' i, Keep S S' [] → It.next S' it i = some xs[i]?)
    (step : ∀ (i : Nat) (d : D) (S' : Store), xs[i]? = some d → Keep S S' [] → ∃ σ1, asg S' g d σ = some σ1 ∧ Ok (c C σ1 S') (fun b S1 => b = p d ∧ Keep S' S1 [] ∧ (b = true → Ok (k C σ1 S1) (fun y S2 => y = kd (f d) ∧ Keep S1 S2 []) X0)) X0) :
    Ok (compN it g c (emitD k (eC (.bl true)) S.size C) C σ turns 0 (S.push (.dct []))) (fun _ S2 => S2.get S.size = some (.dct (kt kd (uk ((xs.filter p).map f)))) ∧ Keep S S2 []) X0 := by
  refine comp_inv (Q := fun S2 => S2.get S.size = some (.dct (kt kd (uk ((xs.filter p).map f)))) ∧ Keep S S2 []) xs.length (fun i S' => i ≤ xs.length ∧ S'.get S.size = some (.dct (kt kd (uk (((xs.take i).filter p).map f)))) ∧ Keep S S' []) (fun i S' ⟨hi, g, kp⟩ => ?_) turns 0 _ ⟨Nat.zero_le _, Store.get_push_same _ _, Keep.push _⟩ (by unfold turns; omega)
  have hx := nx S' i kp
  by_cases e1 : i < xs.length
  · have hd : xs[i]? = some xs[i] := List.getElem?_eq_getElem e1
    obtain ⟨σ1, h1, h2⟩ := step i xs[i] S' hd kp
    refine .inr ⟨xs[i], σ1, e1, by rw [hx, hd], h1, h2.imp fun b S1 ⟨e2, k1, h3⟩ => ?_⟩
    have ht : xs.take (i + 1) = xs.take i ++ [xs[i]] := by rw [List.take_succ, hd]; rfl
    have g1 := k1.get g (by simp)
    cases b with
    | false =>
      have e3 : [xs[i]].filter p = [] := by simp [← e2]
      rw [if_neg Bool.false_ne_true, ht, List.filter_append, List.map_append, e3, List.map_nil, List.append_nil]
      exact ⟨e1, g1, kp.trans k1⟩
    | true =>
      have e3 : [xs[i]].filter p = [xs[i]] := by simp [← e2]
      rw [if_pos rfl, ok_emitD]
      refine (h3 rfl).imp fun y S2 ⟨e4, k2⟩ => ?_
      subst e4
      simp only [ok_c]
      have g2 := k2.get g1 (by simp)
      refine ⟨_, g2, ?_, ?_⟩
      · rw [hk.fit, Bool.true_and, decide_eq_true_iff, kt_len]
        have h5 := len_uk (((xs.take i).filter p).map f)
        have h6 := List.length_filter_le p (xs.take i)
        rw [List.length_map] at h5
        rw [List.length_take] at h6
        unfold line
        omega
      · refine ⟨e1, ?_, ((kp.trans k1).trans k2).set_new _ (Nat.le_refl _) (Store.get_lt g2)⟩
        rw [Store.get_set_same _ (Store.get_lt g2), kt_put hk, ht, List.filter_append, List.map_append, e3]
        show _ = some (Ob.dct (kt kd (uk (List.map f (List.filter p (List.take i xs)) ++ [f xs[i]]))))
        rw [uk_snoc]
  · have e2 : i = xs.length := by omega
    refine .inl ⟨hi, by rw [hx, List.getElem?_eq_none (by omega)], ?_⟩
    rw [e2, List.take_length] at g
    exact ⟨g, kp⟩
end
theorem p_listK {α : Type} [DecidableEq α] {n : Nat} {kd : α → D} {ks : List α} {Q : D → Store → Prop} (h : S.get n = some (.dct (kt kd ks))) : OkP (bListX [.ref n] S) Q = Q (.ref S.size) (S.push (.lst (ks.map kd))) := by
  unfold bListX
  simp only [h]
  rw [kt_keys]; rfl
/-! ### ints in tuples and lists -/
theorem snap_ints (S : Store) (k : Nat) (ns : List Int) : optAll (snap S (k + 1)) (intD ns) = some (ns.map PyData.int) := snap_int S k ns
theorem memD_ints (i : Int) : ∀ ns : List Int, memD (.int i) (ns.map PyData.int) = decide (i ∈ ns)
  | [] => by simp [memD]
  | n :: r => by
    rw [List.map_cons, memD, memD_ints i r]
    have : PyData.eqv (.int n) (.int i) = (n == i) := rfl
    rw [this, Bool.eq_iff_iff]
    simp
    exact ⟨fun h => h.elim (fun e => .inl e.symm) .inr, fun h => h.elim (fun e => .inl e.symm) .inr⟩
theorem p_inIT {i : Int} {ns : List Int} : OkP (opIn (.int i) (.tup (intD ns)) S) Q = Q (.bl (decide (i ∈ ns))) S := by
  have e : inD S (.int i) (.tup (intD ns)) = some (decide (i ∈ ns)) := by
    show (match snap S deep (.int i), snaps S deep (intD ns) with
      | some a, some bs => some (memD a bs)
      | _, _ => none) = _
    have e1 : snaps S deep (intD ns) = some (ns.map PyData.int) := snap_ints S 39 ns
    rw [e1]
    show some (memD (.int i) (ns.map PyData.int)) = _
    rw [memD_ints]
  unfold opIn
  rw [e]; rfl
theorem inD_IL {i : Int} {n : Nat} {ns : List Int} (h : S.get n = some (.lst (intD ns))) : inD S (.int i) (.ref n) = some (decide (i ∈ ns)) := by
  have e1 : snaps S deep (intD ns) = some (ns.map PyData.int) := snap_ints S 39 ns
  have e2 : snap S deep (.int i) = some (.int i) := rfl
  simp only [inD, lstAt, h, e1, e2, memD_ints]
theorem p_inIL {i : Int} {n : Nat} {ns : List Int} (h : S.get n = some (.lst (intD ns))) : OkP (opIn (.int i) (.ref n) S) Q = Q (.bl (decide (i ∈ ns))) S := by
  unfold opIn
  rw [inD_IL h]; rfl
theorem p_notinIL {i : Int} {n : Nat} {ns : List Int} (h : S.get n = some (.lst (intD ns))) : OkP (opNotIn (.int i) (.ref n) S) Q = Q (.bl (!decide (i ∈ ns))) S := by
  unfold opNotIn
  rw [inD_IL h]; rfl
/-! ### ascending, each once -/
theorem asc_sort {l : List Int} (h : l.Nodup) : l.mergeSort leI = sortU l := by
  have s1 : (l.mergeSort leI).Pairwise fun a b => leI a b = true := List.pairwise_mergeSort (fun a b c h1 h2 => by
    unfold leI at *
    simp only [decide_eq_true_eq] at *
    omega) (fun a b => by
    unfold leI
    simp only [Bool.or_eq_true, decide_eq_true_eq]
    omega) l
  have pm := List.mergeSort_perm l leI
  have nd : (l.mergeSort leI).Nodup := pm.nodup_iff.mpr h
  refine asc_unique ?_ (asc_sortU l) fun x => by rw [pm.mem_iff, mem_sortU]
  have nd' : (l.mergeSort leI).Pairwise fun a b => a ≠ b := nd
  refine (s1.and nd').imp fun {a b} ⟨h1, h2⟩ => ?_
  unfold leI at h1
  have := of_decide_eq_true h1
  omega
theorem sortU_ext {l m : List Int} (h : ∀ x, x ∈ l ↔ x ∈ m) : sortU l = sortU m := asc_unique (asc_sortU l) (asc_sortU m) fun x => by rw [mem_sortU, mem_sortU, h]
theorem sort_uk (l : List Int) : (uk l).mergeSort leI = sortU l := by
  rw [asc_sort (nodup_uk l)]
  exact sortU_ext fun x => mem_uk
theorem p_sortset {n : Nat} {ns : List Int} (h : S.get n = some (.lst (intD ns))) (hl : ns.length < 64) : OkP (opSortSet (.ref n) S) Q = Q (.ref S.size) (S.push (.lst (intD (sortU ns)))) := by
  have e : ∀ ns : List Int, intsOf (intD ns) = some ns := fun ns => by
    induction ns with
    | nil => rfl
    | cons a r ih =>
      show (intsOf (intD r)).map (a :: ·) = _
      rw [ih]; rfl
  unfold opSortSet lstAt
  simp only [h, e, if_pos hl]
  rfl
/-! ### the methods that walk -/
def bAddStart (rq : Nat) : MS := sSeq (sExpr (eMeth [(12, rq)] (eVar 0) (aCons (eVar 1) (aNil)) [])) (sSeq (sIf (MP.tB (e2 opIn (eVar 1) (eFld [12] 10 (eVar 0)))) (sRet (eC (.bl false))) (sPass)) (sSeq (sExpr (eBM tyLst mAppend (eFld [12] 10 (eVar 0)) (aCons (eVar 1) (aNil)))) (sRet (eC (.bl true)))))
def bAddEnd (rq : Nat) : MS := sSeq (sExpr (eMeth [(12, rq)] (eVar 0) (aCons (eVar 1) (aNil)) [])) (sSeq (sIf (MP.tB (e2 opIn (eVar 1) (eFld [12] 11 (eVar 0)))) (sRet (eC (.bl false))) (sPass)) (sSeq (sExpr (eBM tyLst mAppend (eFld [12] 11 (eVar 0)) (aCons (eVar 1) (aNil)))) (sRet (eC (.bl true)))))
def bStarts : MS := sRet (eB bTuple (aCons (eB bSorted (aCons (eFld [12] 10 (eVar 0)) (aNil))) (aNil)))
def bStep : MS := sSeq (sSet (.nm 3) (eDc (eVar 6) (eC (.bl true)) (.tp [(.nm 4), (.nm 5), (.nm 6)]) (iSeq (eFld [12] 9 (eVar 0))) (MP.tAnd (MP.tB (e2 opEq (eVar 5) (eVar 2))) (MP.tB (e2 opIn (eVar 4) (eVar 1)))) [4, 5, 6])) (sRet (eB bTuple (aCons (eB bSorted (aCons (eB bListX (aCons (eVar 3) (aNil))) (aNil))) (aNil))))
def bAfter (ss sp : Nat) : MS := sSeq (sSet (.nm 2) (eMeth [(12, ss)] (eVar 0) aNil [])) (sSeq (sFor (.nm 3) (iSeq (eVar 1)) (sSet (.nm 2) (eMeth [(12, sp)] (eVar 0) (aCons (eVar 2) (aCons (eVar 3) (aNil))) []))) (sRet (eVar 2)))
def bHasEnd : MS := sRet (eB bAny (aCons (eLc (e2 opIn (eVar 2) (eFld [12] 11 (eVar 0))) (.nm 2) (iSeq (eVar 1)) (MP.tYes) [2]) (aNil)))
def bHasLog (he sa : Nat) : MS := sRet (eMeth [(12, he)] (eVar 0) (aCons (eMeth [(12, sa)] (eVar 0) (aCons (eVar 1) (aNil)) []) (aNil)) [])
/-- the states to which a sign leads -/
def tgts (es : List Ed) (states : List Int) (s : List Nat) : List Int := (es.filter fun e => decide (e.2.1 = s) && decide (e.1 ∈ states)).map (·.2.2)
def stepS (es : List Ed) (states : List Int) (s : List Nat) : List Int := sortU (tgts es states s)
def aft (es : List Ed) (st : List Int) (log : List Nat) : List Int := log.foldl (fun z c => stepS es z [c]) st
def StartsSpec (call : List D → M D) : Prop := ∀ {S : Store} {n a b c sg st : Nat} {kept : List Ed} {first last : List Int}, Mach S n a b c sg st kept first last → first.Nodup →
  Ok (call [.ref n] S) (fun v S' => v = .tup (intD (sortU first)) ∧ Keep S S' []) X0
theorem starts_ok {C : Cfg} : StartsSpec (runFn ⟨1, 1, bStarts⟩ C) := by
  intro S n a b c sg st kept first last m nd
  rw [ok_run]
  refine ⟨rfl, ?_⟩
  show OkS (bStarts C [some (.ref n)] S) _
  unfold bStarts
  rw [oks_ret]
  simp
  rw [p_fld m.hn rfl (d := .ref b) rfl, p_sortI m.hb, asc_sort nd, p_tuple (Store.get_push_same _ _)]
  exact ⟨rfl, Keep.push _⟩
def StepSpec (call : List D → M D) : Prop := ∀ {S : Store} {n a b c sg st : Nat} {kept : List Ed} {first last states : List Int} {s : List Nat}, Mach S n a b c sg st kept first last → kept.length ≤ 1000 →
  Ok (call [.ref n, .tup (intD states), .str s] S) (fun v S' => v = .tup (intD (stepS kept states s)) ∧ Keep S S' []) X0
def okE (states : List Int) (s : List Nat) : D → Bool
  | .tup [.int o, .str l, .int _] => decide (l = s) && decide (o ∈ states)
  | _ => false
def toE : D → Int
  | .tup [_, _, .int t] => t
  | _ => 0
theorem tgts_eq (es : List Ed) (states : List Int) (s : List Nat) : ((es.map eD).filter (okE states s)).map toE = tgts es states s := by
  unfold tgts
  rw [List.filter_map, List.map_map]
  rfl
theorem step_ok {C : Cfg} : StepSpec (runFn ⟨3, 7, bStep⟩ C) := by
  intro S n a b c sg st kept first last states s m hk
  rw [ok_run]
  refine ⟨rfl, ?_⟩
  show OkS (bStep C [some (.ref n), some (.tup (intD states)), some (.str s), none, none, none, none] S) _
  unfold bStep
  rw [oks_seq, oks_set]
  simp [ok_dc, wipe]
  rw [p_fld m.hn rfl (d := .ref a) rfl, p_itL m.ha]
  refine Ok.imp (dc_fm keyI (xs := kept.map eD) (okE states s) toE (by rw [List.length_map]; omega) (fun S' i k => lst_next (k.get m.ha (by simp))) fun i d S' hd k1 => ?_) ?_
  · rw [List.getElem?_map] at hd
    obtain ⟨e, he, rfl⟩ := Option.map_eq_some_iff.mp hd
    obtain ⟨o, l, t⟩ := e
    refine ⟨_, rfl, ?_⟩
    simp
    by_cases h1 : l = s
    · first | refine .inl ⟨h1, ?_⟩ | refine .inr ⟨h1, ?_⟩
      rw [p_inIT]
      by_cases h2 : o ∈ states
      · simp [h2, okE, eD, h1, toE, Keep.refl]
      · simp [h2, okE, eD, h1, toE, Keep.refl]
    · first | refine .inl ⟨h1, ?_⟩ | refine .inr ⟨h1, ?_⟩
      simp [okE, eD, h1, Keep.refl]
  · rintro _ S1 ⟨g, k1⟩
    rw [tgts_eq] at g
    rw [oks_ret]
    simp
    rw [p_listK g]
    have g2 : (S1.push (.lst ((uk (tgts kept states s)).map D.int))).get S1.size = some (.lst (intD (uk (tgts kept states s)))) := Store.get_push_same _ _
    rw [p_sortI g2, sort_uk, p_tuple (Store.get_push_same _ _)]
    exact ⟨rfl, (k1.trans (Keep.push _)).trans (Keep.push _)⟩
def AfterSpec (call : List D → M D) : Prop := ∀ {S : Store} {n a b c sg st : Nat} {kept : List Ed} {first last : List Int} {log : List Nat}, Mach S n a b c sg st kept first last → kept.length ≤ 1000 → first.Nodup → log.length ≤ 1000000 →
  Ok (call [.ref n, .str log] S) (fun v S' => v = .tup (intD (aft kept (sortU first) log)) ∧ Keep S S' []) X0
theorem after_ok {C : Cfg} {ss sp : Nat} (hs : StartsSpec (C.call ss)) (hp : StepSpec (C.call sp)) : AfterSpec (runFn ⟨2, 4, bAfter ss sp⟩ C) := by
  intro S n a b c sg st kept first last log m hk nd hl
  rw [ok_run]
  refine ⟨rfl, ?_⟩
  show OkS (bAfter ss sp C [some (.ref n), some (.str log), none, none] S) _
  unfold bAfter
  rw [oks_seq, oks_set]
  simp [meth_at m.hn]
  refine (hs m nd).imp fun v S1 ⟨e, k1⟩ => ?_
  subst e
  rw [oks_seq, oks_for]
  simp
  refine for_seq (xs := sgn log) (by rw [sgn_len]; unfold turns; omega) (fun i σ S' => (∃ x3, σ = [some (.ref n), some (.str log), some (.tup (intD (aft kept (sortU first) (log.take i)))), x3]) ∧ Keep S S' []) ⟨⟨none, rfl⟩, k1⟩ ?_ ?_
  · rintro i d σ S' hd ⟨⟨x3, rfl⟩, kp⟩
    obtain ⟨ch, hc, rfl⟩ := sgn_at hd
    refine ⟨_, by simp; rfl, ?_⟩
    have m' := m.keep kp (by simp) (by simp) (by simp) (by simp)
    rw [oks_set]
    simp [meth_at m'.hn]
    refine (hp m' hk).imp fun v S2 ⟨e, k2⟩ => ?_
    subst e
    refine ⟨?_, kp.trans k2⟩
    have ht : log.take (i + 1) = log.take i ++ [ch] := by rw [List.take_succ, hc]; rfl
    rw [ht]
    unfold aft
    rw [List.foldl_append]
    rfl
  · rintro σ S' ⟨⟨x3, rfl⟩, kp⟩
    rw [sgn_len, List.take_length]
    dsimp only
    rw [oks_ret]
    simp
    exact kp
def HasEndSpec (call : List D → M D) : Prop := ∀ {S : Store} {n a b c sg st : Nat} {kept : List Ed} {first last states : List Int}, Mach S n a b c sg st kept first last → states.length ≤ 1000000 →
  Ok (call [.ref n, .tup (intD states)] S) (fun v S' => v = .bl (states.any fun x => decide (x ∈ last)) ∧ Keep S S' []) X0
def inL (last : List Int) : D → D
  | .int i => .bl (decide (i ∈ last))
  | _ => .non
theorem hasend_ok {C : Cfg} : HasEndSpec (runFn ⟨2, 3, bHasEnd⟩ C) := by
  intro S n a b c sg st kept first last states m hl
  rw [ok_run]
  refine ⟨rfl, ?_⟩
  show OkS (bHasEnd C [some (.ref n), some (.tup (intD states)), none] S) _
  unfold bHasEnd
  rw [oks_ret]
  simp [ok_lc, wipe]
  refine Ok.imp (lc_map (inL last) (xs := intD states) (by unfold intD; rw [List.length_map]; exact hl) fun j d S2 hd k2 => ?_) ?_
  · unfold intD at hd
    rw [List.getElem?_map] at hd
    obtain ⟨i, hi, rfl⟩ := Option.map_eq_some_iff.mp hd
    refine ⟨_, by simp; rfl, ?_⟩
    have m2 := m.keep k2 (by simp) (by simp) (by simp) (by simp)
    simp
    rw [p_fld m2.hn rfl (d := .ref c) rfl, p_inIL m2.hc]
    exact ⟨rfl, Keep.refl⟩
  · rintro _ S2 ⟨g, k2⟩
    have e : (intD states).map (inL last) = (states.map fun x => decide (x ∈ last)).map D.bl := by
      unfold intD
      rw [List.map_map, List.map_map]; rfl
    rw [e] at g
    rw [p_any g]
    refine ⟨?_, k2⟩
    rw [List.any_map]; rfl
def HasLogSpec (call : List D → M D) : Prop := ∀ {S : Store} {n a b c sg st : Nat} {kept : List Ed} {first last : List Int} {log : List Nat}, Mach S n a b c sg st kept first last → kept.length ≤ 1000 → first.length ≤ 1000 → first.Nodup → log.length ≤ 1000000 →
  Ok (call [.ref n, .str log] S) (fun v S' => v = .bl ((aft kept (sortU first) log).any fun x => decide (x ∈ last)) ∧ Keep S S' []) X0
theorem nodup_lt {l : List Int} (h : l.Pairwise (· < ·)) : l.Nodup := h.imp fun h => by omega
theorem len_sortU (l : List Int) : (sortU l).length ≤ l.length := by
  exact (nodup_lt (asc_sortU l)).length_le_of_subset fun x hx => mem_sortU.mp hx
theorem len_step (es : List Ed) (states : List Int) (s : List Nat) : (stepS es states s).length ≤ es.length := by
  have h1 := len_sortU (tgts es states s)
  have h2 : (tgts es states s).length ≤ es.length := by
    unfold tgts
    rw [List.length_map]
    exact List.length_filter_le _ _
  exact Nat.le_trans h1 h2
theorem len_aft (es : List Ed) (log : List Nat) : ∀ st : List Int, (aft es st log).length ≤ max st.length es.length := by
  induction log with
  | nil => intro st; exact Nat.le_max_left ..
  | cons c r ih =>
    intro st
    have h1 := ih (stepS es st [c])
    have h2 := len_step es st [c]
    show (aft es (stepS es st [c]) r).length ≤ _
    omega
theorem haslog_ok {C : Cfg} {he sa : Nat} (hs : AfterSpec (C.call sa)) (hp : HasEndSpec (C.call he)) : HasLogSpec (runFn ⟨2, 2, bHasLog he sa⟩ C) := by
  intro S n a b c sg st kept first last log m hk hf nd hl
  rw [ok_run]
  refine ⟨rfl, ?_⟩
  show OkS (bHasLog he sa C [some (.ref n), some (.str log)] S) _
  unfold bHasLog
  rw [oks_ret]
  simp [meth_at m.hn]
  refine (hs m hk nd hl).imp fun v S1 ⟨e, k1⟩ => ?_
  subst e
  have m1 := m.keep k1 (by simp) (by simp) (by simp) (by simp)
  have h1 := len_aft kept log (sortU first)
  have h2 := len_sortU first
  refine (hp m1 (by omega)).imp fun v S2 ⟨e, k2⟩ => ?_
  exact ⟨e, k1.trans k2⟩
end
end MP

/-! MP: the laws' drawn plans of machines, in plain Lean. Own work. -/
namespace MP
open PySem (PyData)
section
variable {S : Store} {Q : D → Store → Prop} {C : Cfg} {σ : Slots} {T : Pt} {E : Nat → Fs → Store → Prop}
/-! ### starts and ends are added -/
def AddStartSpec (call : List D → M D) : Prop := ∀ {S : Store} {n a b c sg st : Nat} {kept : List Ed} {first last : List Int} {s : Int}, Mach S n a b c sg st kept first last → first.length ≤ 1000 →
  Ok (call [.ref n, .int s] S) (fun v S' => inR st s ∧ v = .bl (!decide (s ∈ first)) ∧ Keep S S' [b] ∧ Mach S' n a b c sg st kept (if s ∈ first then first else first ++ [s]) last) (fun k fs S' => ¬ inR st s ∧ k = 5 ∧ fs = [(3, .int s)] ∧ S' = S)
theorem addstart_ok {C : Cfg} {rq : Nat} (hr : ReqSpec (C.call rq)) : AddStartSpec (runFn ⟨2, 2, bAddStart rq⟩ C) := by
  intro S n a b c sg st kept first last s m hl
  rw [ok_run]
  refine ⟨rfl, ?_⟩
  show OkS (bAddStart rq C [some (.ref n), some (.int s)] S) _
  unfold bAddStart
  have lt := m.lt
  have ne2 := m.ne2
  have ne1 := m.ne
  rw [oks_seq, oks_expr]
  simp [meth_at m.hn]
  refine (hr m).mono (fun v S1 ⟨e, h1, e2⟩ => ?_) (fun k fs S1 ⟨h1, e1, e2, e3⟩ => ⟨h1, e1, e2, e3⟩)
  subst e; subst e2
  rw [oks_seq, oks_if]
  simp
  rw [p_fld m.hn rfl (d := .ref b) rfl, p_inIL m.hb]
  by_cases hm : s ∈ first
  · simp [hm]
    rw [oks_ret]
    simp
    exact ⟨h1, Keep.refl, m⟩
  · simp [hm]
    rw [oks_pass]
    dsimp only
    rw [oks_seq, oks_expr]
    simp
    rw [p_fld m.hn rfl (d := .ref b) rfl]
    have hz : (intD first).length < line := by unfold intD line; rw [List.length_map]; omega
    refine ⟨by simp [tyLst, m.hb], ?_⟩
    rw [p_append m.hb]
    refine ⟨hz, ?_⟩
    rw [oks_ret]
    simp
    have e : intD first ++ [.int s] = intD (first ++ [s]) := by unfold intD; rw [List.map_append]; rfl
    rw [e]
    have kk : Keep S1 (S1.set b (.lst (intD (first ++ [s])))) [b] := Keep.set _ lt.2.2.1 (by simp)
    exact ⟨h1, kk, ⟨kk.get m.hn (by simp; omega), kk.get m.ha (by simp; omega), Store.get_set_same _ lt.2.2.1, kk.get m.hc (by simp; omega), m.ne⟩⟩
def AddEndSpec (call : List D → M D) : Prop := ∀ {S : Store} {n a b c sg st : Nat} {kept : List Ed} {first last : List Int} {s : Int}, Mach S n a b c sg st kept first last → last.length ≤ 1000 →
  Ok (call [.ref n, .int s] S) (fun v S' => inR st s ∧ v = .bl (!decide (s ∈ last)) ∧ Keep S S' [c] ∧ Mach S' n a b c sg st kept first (if s ∈ last then last else last ++ [s])) (fun k fs S' => ¬ inR st s ∧ k = 5 ∧ fs = [(3, .int s)] ∧ S' = S)
theorem addend_ok {C : Cfg} {rq : Nat} (hr : ReqSpec (C.call rq)) : AddEndSpec (runFn ⟨2, 2, bAddEnd rq⟩ C) := by
  intro S n a b c sg st kept first last s m hl
  rw [ok_run]
  refine ⟨rfl, ?_⟩
  show OkS (bAddEnd rq C [some (.ref n), some (.int s)] S) _
  unfold bAddEnd
  have lt := m.lt
  have ne2 := m.ne2
  have ne1 := m.ne
  rw [oks_seq, oks_expr]
  simp [meth_at m.hn]
  refine (hr m).mono (fun v S1 ⟨e, h1, e2⟩ => ?_) (fun k fs S1 ⟨h1, e1, e2, e3⟩ => ⟨h1, e1, e2, e3⟩)
  subst e; subst e2
  rw [oks_seq, oks_if]
  simp
  rw [p_fld m.hn rfl (d := .ref c) rfl, p_inIL m.hc]
  by_cases hm : s ∈ last
  · simp [hm]
    rw [oks_ret]
    simp
    exact ⟨h1, Keep.refl, m⟩
  · simp [hm]
    rw [oks_pass]
    dsimp only
    rw [oks_seq, oks_expr]
    simp
    rw [p_fld m.hn rfl (d := .ref c) rfl]
    have hz : (intD last).length < line := by unfold intD line; rw [List.length_map]; omega
    refine ⟨by simp [tyLst, m.hc], ?_⟩
    rw [p_append m.hc]
    refine ⟨hz, ?_⟩
    rw [oks_ret]
    simp
    have e : intD last ++ [.int s] = intD (last ++ [s]) := by unfold intD; rw [List.map_append]; rfl
    rw [e]
    have kk : Keep S1 (S1.set c (.lst (intD (last ++ [s])))) [c] := Keep.set _ lt.2.2.2 (by simp)
    exact ⟨h1, kk, ⟨kk.get m.hn (by simp; omega), kk.get m.ha (by simp; omega), kk.get m.hb (by simp; omega), Store.get_set_same _ lt.2.2.2, m.ne⟩⟩
/-! ### plans -/
def bPlan (dr : Nat) : MS := sSeq (sSet (.nm 4) (e2 opAdd (eC (.int 1)) (eCall dr (aCons (eVar 0) (aCons (eVar 2) (aNil))) []))) (sSeq (sSet (.nm 5) (eLc (eVar 10) (.nm 10) (iRange1 (eVar 4)) (MP.tOr (MP.tB (e2 opEq (eVar 10) (eC (.int 0)))) (MP.tB (e2 opEq (eCall dr (aCons (eVar 0) (aCons (eC (.int 4)) (aNil))) []) (eC (.int 0))))) [10])) (sSeq (sSet (.nm 6) (eLc (eVar 10) (.nm 10) (iRange1 (eVar 4)) (MP.tB (e2 opEq (eCall dr (aCons (eVar 0) (aCons (eC (.int 2)) (aNil))) []) (eC (.int 0)))) [10])) (sSeq (sSet (.nm 7) (eLst (aNil))) (sSeq (sFor (.nm 8) (iRange1 (eCall dr (aCons (eVar 0) (aCons (e2 opAdd (eVar 3) (eC (.int 1))) (aNil))) [])) (sSeq (sSet (.nm 9) (eTup (aCons (eCall dr (aCons (eVar 0) (aCons (eVar 4) (aNil))) []) (aCons (e2 opItem (eC (.str [97, 98, 99])) (eCall dr (aCons (eVar 0) (aCons (eVar 1) (aNil))) [])) (aCons (eCall dr (aCons (eVar 0) (aCons (eVar 4) (aNil))) []) (aNil)))))) (sIf (MP.tB (e2 opNotIn (eVar 9) (eVar 7))) (sExpr (eBM tyLst mAppend (eVar 7) (aCons (eVar 9) (aNil)))) (sPass)))) (sRet (eLst (aCons (eVar 4) (aCons (eVar 5) (aCons (eVar 6) (aCons (eVar 7) (aNil)))))))))))
def bMachOf (ini ad asr aen : Nat) : MS := sSeq (sSet (.nm 2) (eNew 12 ini (aCons (eVar 0) (aCons (e2 opItem (eVar 1) (eC (.int 0))) (aNil))) [])) (sSeq (sFor (.nm 3) (iSeq (e2 opItem (eVar 1) (eC (.int 1)))) (sExpr (eMeth [(12, asr)] (eVar 2) (aCons (eVar 3) (aNil)) []))) (sSeq (sFor (.nm 3) (iSeq (e2 opItem (eVar 1) (eC (.int 2)))) (sExpr (eMeth [(12, aen)] (eVar 2) (aCons (eVar 3) (aNil)) []))) (sSeq (sFor (.tp [(.nm 4), (.nm 5), (.nm 6)]) (iSeq (e2 opItem (eVar 1) (eC (.int 3)))) (sExpr (eMeth [(12, ad)] (eVar 2) (aCons (eVar 4) (aCons (eVar 5) (aCons (eVar 6) (aNil)))) []))) (sRet (eVar 2)))))
def bStepped : MS := sRet (e1 opSortSet (eLc (eVar 5) (.tp [(.nm 3), (.nm 4), (.nm 5)]) (iSeq (e2 opItem (eVar 0) (eC (.int 3)))) (MP.tAnd (MP.tB (e2 opEq (eVar 4) (eVar 2))) (MP.tB (e2 opIn (eVar 3) (eVar 1)))) [3, 4, 5]))
def bStates (sp : Nat) : MS := sSeq (sSet (.nm 2) (e1 opSortSet (e2 opItem (eVar 0) (eC (.int 1))))) (sSeq (sFor (.nm 3) (iSeq (eVar 1)) (sSet (.nm 2) (eCall sp (aCons (eVar 0) (aCons (eVar 2) (aCons (eVar 3) (aNil)))) []))) (sRet (eVar 2)))
def bHas (sts : Nat) : MS := sRet (e2 opNe (eLc (eVar 2) (.nm 2) (iSeq (eCall sts (aCons (eVar 0) (aCons (eVar 1) (aNil))) [])) (MP.tB (e2 opIn (eVar 2) (e2 opItem (eVar 0) (eC (.int 2))))) [2]) (eLst (aNil)))
def bAllStr : MS := sSeq (sPar 2 3 (eLst (aCons (eC (.str [])) (aNil))) (eLst (aCons (eC (.str [])) (aNil)))) (sSeq (sFor (.nm 4) (iRange1 (eVar 1)) (sSeq (sSet (.nm 5) (eLst (aNil))) (sSeq (sFor (.nm 6) (iSeq (eVar 3)) (sExpr (eBM tyLst mExtendX (eVar 5) (aCons (eLc (e2 opAdd (eVar 6) (eVar 7)) (.nm 7) (iSeq (eCut (eC (.str [97, 98, 99])) (pNone) (pSome (eVar 0)))) (MP.tYes) [7]) (aNil))))) (sPar 2 3 (e2 opAdd (eVar 2) (eVar 5)) (eVar 5))))) (sRet (eVar 2)))
/-- a plan: states, starts, ends, edges -/
structure Plan (S : Store) (j p1 p2 p3 many : Nat) (starts ends : List Int) (es : List Ed) : Prop where
  hj : S.get j = some (.lst [.int many, .ref p1, .ref p2, .ref p3])
  h1 : S.get p1 = some (.lst (intD starts))
  h2 : S.get p2 = some (.lst (intD ends))
  h3 : S.get p3 = some (.lst (es.map eD))
theorem Plan.keep {S S' : Store} {j p1 p2 p3 many : Nat} {starts ends : List Int} {es : List Ed} {ex : List Nat} (p : Plan S j p1 p2 p3 many starts ends es) (k : Keep S S' ex) (z : j ∉ ex) (z1 : p1 ∉ ex) (z2 : p2 ∉ ex) (z3 : p3 ∉ ex) : Plan S' j p1 p2 p3 many starts ends es :=
  ⟨k.get p.hj z, k.get p.h1 z1, k.get p.h2 z2, k.get p.h3 z3⟩
/-- ascending states of a machine with so many -/
def Sts (many : Nat) (l : List Int) : Prop := l.Pairwise (· < ·) ∧ ∀ x ∈ l, inR many x
structure FineP (sg st ed many : Nat) (starts ends : List Int) (es : List Ed) : Prop where
  lo : 1 ≤ many
  hi : many ≤ st
  s1 : Sts many starts
  s2 : Sts many ends
  nd : es.Nodup
  len : es.length ≤ ed
  ok : ∀ e ∈ es, inR many e.1 ∧ inR many e.2.2 ∧ ∃ c, e.2.1 = [c] ∧ c ∈ abcN sg
theorem Sts.nil {many : Nat} : Sts many [] := ⟨.nil, fun x h => nomatch h⟩
theorem Sts.len {many : Nat} {l : List Int} (h : Sts many l) : l.length ≤ many := by
  have h1 : (l.map Int.toNat).Nodup := by
    rw [List.nodup_iff_pairwise_ne, List.pairwise_map]
    have h2 : l.Pairwise fun a b => a < b ∧ 0 ≤ a := by
      have := h.2
      refine List.Pairwise.imp_of_mem ?_ h.1
      intro a b ha _ hab
      exact ⟨hab, (this a ha).1⟩
    exact h2.imp fun {a b} ⟨h3, h4⟩ => by omega
  have h2 : l.map Int.toNat ⊆ List.range many := fun x hx => by
    obtain ⟨y, hy, rfl⟩ := List.mem_map.mp hx
    have := h.2 y hy
    rw [List.mem_range]
    unfold inR at this
    omega
  have h3 := h1.length_le_of_subset h2
  rw [List.length_map, List.length_range] at h3
  exact h3
/-- [i for i in range(n) if ..]: the test may draw -/
theorem lc_pick {e : ME} {g : Tg} {c : MT} {n k q : Nat} (hn : n ≤ 1000) (P : Pen S k q)
    (step : ∀ (i : Nat) (S' : Store), i < n → Keep S S' [k] → Pen S' k q → ∃ σ1, asg S' g (.int i) σ = some σ1 ∧ Ok (c C σ1 S') (fun b S1 => Keep S' S1 [k] ∧ Pen S1 k q ∧ (b = true → Ok (e C σ1 S1) (fun y S2 => y = .int i ∧ S2 = S1) X0)) X0) :
    Ok (compN (.seq (rangeL 0 1 n)) g c (emit e S.size C) C σ turns 0 (S.push (.lst []))) (fun _ S2 => ∃ ns, S2.get S.size = some (.lst (intD ns)) ∧ Sts n ns ∧ Keep S S2 [k] ∧ Pen S2 k q) X0 := by
  have lt := P.lt
  refine lc_seq (Q := fun S2 => ∃ ns, S2.get S.size = some (.lst (intD ns)) ∧ Sts n ns ∧ Keep S S2 [k] ∧ Pen S2 k q) (by rw [rangeL_len]; unfold turns; omega)
    (fun i acc S' => (∃ ns, acc = intD ns ∧ Sts i ns) ∧ S'.get S.size = some (.lst acc) ∧ Keep S S' [k] ∧ Pen S' k q) ?_ (fun _ _ _ h => h.2.1) ?_ (by rw [rangeL_len]; unfold line; omega) ?_
  · exact ⟨⟨[], rfl, Sts.nil⟩, Store.get_push_same _ _, Keep.push _, P.keep (ex := []) (Keep.push _) (by simp) (by simp)⟩
  · rintro i d acc S' hd ha ⟨⟨ns, rfl, hs⟩, hg, kp, P'⟩
    obtain ⟨rfl, hi⟩ := rangeL_at _ _ _ _ _ hd
    have e0 : (0 : Int) + (i : Int) * 1 = i := by omega
    rw [e0]
    have up : Sts (i + 1) ns := ⟨hs.1, fun x hx => by have := hs.2 x hx; unfold inR at *; omega⟩
    obtain ⟨σ1, h1, h2⟩ := step i S' hi kp P'
    refine ⟨σ1, h1, h2.imp fun b S1 ⟨k1, P1, h3⟩ => ?_⟩
    have g1 := k1.get hg (by simp; omega)
    cases b with
    | false => exact ⟨⟨ns, rfl, up⟩, g1, kp.trans k1, P1⟩
    | true =>
      rw [if_pos rfl]
      refine (h3 rfl).imp fun y S2 ⟨e1, e2⟩ => ?_
      subst e1; subst e2
      have hl := Store.get_lt g1
      refine ⟨g1, ⟨ns ++ [(i : Int)], by unfold intD; rw [List.map_append]; rfl, ?_, ?_⟩, Store.get_set_same _ hl, (kp.trans k1).set_new _ (Nat.le_refl _) hl, P1.keep (ex := [S.size]) (Keep.set _ hl (by simp)) (by simp; omega) (by simp; omega)⟩
      · rw [List.pairwise_append]
        refine ⟨hs.1, List.pairwise_singleton _ _, fun a ha b hb => ?_⟩
        rw [List.mem_singleton] at hb
        have := hs.2 a ha
        unfold inR at this
        omega
      · intro x hx
        rcases List.mem_append.mp hx with hx | hx
        · exact up.2 x hx
        · rw [List.mem_singleton.mp hx]
          unfold inR
          omega
  · rintro acc S' ha ⟨⟨ns, rfl, hs⟩, hg, kp, P'⟩
    rw [rangeL_len] at hs
    exact ⟨ns, hg, hs, kp, P'⟩
def PlanSpec (call : List D → M D) : Prop := ∀ {S : Store} {k q sg st ed : Nat}, Pen S k q → 1 ≤ sg → sg ≤ 3 → 1 ≤ st → st ≤ 1000 → ed ≤ 1000 →
  Ok (call [.ref k, .int sg, .int st, .int ed] S) (fun v S' => ∃ j p1 p2 p3 many starts ends es, v = .ref j ∧ Plan S' j p1 p2 p3 many starts ends es ∧ FineP sg st ed many starts ends es ∧ (S.size ≤ j ∧ S.size ≤ p1 ∧ S.size ≤ p2 ∧ S.size ≤ p3) ∧ (p1 < p2 ∧ p2 < p3 ∧ p3 < j) ∧ Keep S S' [k] ∧ Pen S' k q) X0
theorem plan_ok {C : Cfg} {dr : Nat} (hd : DrawSpec (C.call dr)) : PlanSpec (runFn ⟨4, 11, bPlan dr⟩ C) := by
  intro S k q sg st ed P g1 g3 t1 t2 e1
  rw [ok_run]
  refine ⟨rfl, ?_⟩
  show OkS (bPlan dr C [some (.ref k), some (.int sg), some (.int st), some (.int ed), none, none, none, none, none, none, none] S) _
  unfold bPlan
  rw [oks_seq, oks_set]
  simp
  refine (hd P (by omega) (by omega)).imp fun v S1 ⟨x, e, hx, k1, P1⟩ => ?_
  subst e
  have hxn : ((x.toNat : Nat) : Int) = x := by omega
  generalize x.toNat = y at hxn
  subst hxn
  have es : (1 + (y : Int)) = ((1 + y : Nat) : Int) := by omega
  simp only [okp_some, p_add]
  rw [es]
  clear es
  generalize hmany : 1 + y = many
  have m1 : 1 ≤ many := by omega
  have m2 : many ≤ st := by omega
  have okm : okR (many : Int) = true := okR_nat (by omega) (by omega)
  rw [oks_seq, oks_set]
  simp [ok_lc, okm, wipe]
  refine Ok.imp (lc_pick (by omega) P1 fun i S' hi kp P' => ⟨_, by simp; rfl, ?_⟩) ?_
  · simp
    by_cases h0 : (i : Int) = 0
    · have h0' : i = 0 := by omega
      subst h0'
      simp [Keep.refl, P']
    · have h0' : ¬ i = 0 := by omega
      simp [h0']
      refine (hd P' (by omega) (by omega)).imp fun v S2 ⟨y, e, hy, k2, P2⟩ => ?_
      subst e
      simp
      by_cases hy0 : y = 0
      · simp [hy0, k2, P2]
      · simp [hy0, k2, P2]
  intro _ S2 hh
  have hh := hh.choose_spec
  generalize Exists.choose _ = starts at hh
  have gs := hh.1
  have s1 := hh.2.1
  have k2 := hh.2.2.1
  have P2 := hh.2.2.2
  clear hh
  rw [oks_seq, oks_set]
  simp [ok_lc, okm, wipe]
  refine Ok.imp (lc_pick (by omega) P2 fun i S' hi kp P' => ⟨_, by simp; rfl, ?_⟩) ?_
  · simp
    refine (hd P' (by omega) (by omega)).imp fun v S3 ⟨y, e, hy, k3, P3⟩ => ?_
    subst e
    simp
    by_cases hy0 : y = 0
    · simp [hy0, k3, P3]
    · simp [hy0, k3, P3]
  rintro _ S3 ⟨ends, ge, s2, k3, P3⟩
  rw [oks_seq, oks_set]
  simp
  have lt1 := P1.lt
  have lt2 := P2.lt
  have lt3 := P3.lt
  have le1 := k1.le
  have le2 := k2.le
  have le3 := k3.le
  have gs3 := k3.get gs (by simp; omega)
  have hl2 := Store.get_lt gs
  have hl3 := Store.get_lt ge
  have gl : (S3.push (.lst [])).get S3.size = some (.lst []) := Store.get_push_same _ _
  have kl : Keep S3 (S3.push (.lst [])) [] := Keep.push _
  have zl : (S3.push (.lst [])).size = S3.size + 1 := Store.size_push _ _
  have P4 := P3.keep kl (by simp) (by simp)
  generalize S3.push (.lst []) = S4 at gl kl zl P4
  rw [oks_seq, oks_for]
  simp
  refine (hd P4 (by omega) (by omega)).imp fun v S5 ⟨y, e, hy, k5, P5⟩ => ?_
  subst e
  obtain ⟨y, rfl⟩ : ∃ z : Nat, y = z := ⟨y.toNat, by omega⟩
  have oky : okR (y : Int) = true := okR_nat (by omega) (by omega)
  simp [oky]
  have k35 : Keep S3 S5 [k] := (kl.weak (by simp)).trans k5
  refine for_seq (xs := rangeL 0 1 y) (by rw [rangeL_len]; unfold turns; omega)
    (fun i σ S' => (∃ x8 x9, σ = [some (.ref k), some (.int sg), some (.int st), some (.int ed), some (.int many), some (.ref S1.size), some (.ref S2.size), some (.ref S3.size), x8, x9, none]) ∧
      (∃ es : List Ed, S'.get S3.size = some (.lst (es.map eD)) ∧ es.Nodup ∧ es.length ≤ i ∧ ∀ e ∈ es, inR many e.1 ∧ inR many e.2.2 ∧ ∃ c, e.2.1 = [c] ∧ c ∈ abcN sg) ∧ Keep S3 S' [k] ∧ Pen S' k q)
    ⟨⟨none, none, rfl⟩, ⟨[], k5.get gl (by simp; omega), List.nodup_nil, Nat.zero_le _, fun e h => nomatch h⟩, k35, P5⟩ ?_ ?_
  · rintro i d σ S' hd' ⟨⟨x8, x9, rfl⟩, ⟨es, ges, nd, hl, hok⟩, kp, P'⟩
    obtain ⟨rfl, hi⟩ := rangeL_at _ _ _ _ _ hd'
    refine ⟨_, by simp; rfl, ?_⟩
    rw [oks_seq, oks_set]
    simp
    refine (hd P' (by omega) (by omega)).imp fun v S6 ⟨o, e, ho, k6, P6⟩ => ?_
    subst e
    refine (hd P6 (by omega) (by omega)).imp fun v S7 ⟨z, e, hz, k7, P7⟩ => ?_
    subst e
    obtain ⟨c, hc, hcm⟩ : ∃ c, atI [97, 98, 99] z = some c ∧ c ∈ abcN sg := by
      have hlt : z.toNat < ([97, 98, 99] : List Nat).length := by simp; omega
      refine ⟨([97, 98, 99] : List Nat)[z.toNat], ?_, ?_⟩
      · unfold atI
        rw [ixN_at hz.1 (by simp; omega)]
        exact List.getElem?_eq_getElem hlt
      · unfold abcN
        rw [List.mem_take_iff_getElem]
        exact ⟨z.toNat, by simp; omega, rfl⟩
    rw [p_itemS]
    refine ⟨c, ⟨by decide, hc⟩, ?_⟩
    refine (hd P7 (by omega) (by omega)).imp fun v S8 ⟨t, e, ht, k8, P8⟩ => ?_
    subst e
    have ges8 := ((k6.trans k7).trans k8).get ges (by simp; omega)
    have k38 := kp.trans ((k6.trans k7).trans k8)
    have eE : D.tup [.int o, .str [c], .int t] = eD (o, [c], t) := rfl
    rw [oks_if]
    simp
    refine ⟨by decide, ?_⟩
    rw [eE, p_notinE ges8]
    have hh := Store.get_lt ges8
    by_cases hm : (o, [c], t) ∈ es
    · simp [hm]
      rw [oks_pass]
      exact ⟨⟨_, _, rfl⟩, ⟨es, ges8, nd, by omega, fun o l t h => hok (o, l, t) h⟩, k38, P8⟩
    · simp [hm]
      rw [oks_expr]
      simp
      refine ⟨by simp [tyLst, ges8], rfl, ?_⟩
      rw [p_append ges8]
      refine ⟨by rw [List.length_map]; unfold line; omega, ?_⟩
      have ea : es.map eD ++ [eD (o, [c], t)] = (es ++ [(o, [c], t)]).map eD := by rw [List.map_append]; rfl
      rw [ea]
      refine ⟨⟨es ++ [(o, [c], t)], Store.get_set_same _ hh, ?_, by rw [List.length_append, List.length_singleton]; omega, ?_⟩, k38.set_new _ (Nat.le_refl _) hh, P8.keep (ex := [S3.size]) (Keep.set _ hh (by simp)) (by simp; omega) (by simp; omega)⟩
      · rw [List.nodup_append]
        exact ⟨nd, by simp, fun a ha b hb => by
          rw [List.mem_singleton] at hb
          subst hb
          exact fun e => hm (e ▸ ha)⟩
      · intro o' l' t' he
        rcases List.mem_append.mp he with he | he
        · exact hok (o', l', t') he
        · cases List.mem_singleton.mp he
          exact ⟨⟨ho.1, ho.2⟩, ⟨ht.1, ht.2⟩, c, rfl, hcm⟩
  · rintro σ S' ⟨⟨x8, x9, rfl⟩, ⟨es, ges, nd, hl, hok⟩, kp, P'⟩
    rw [rangeL_len] at hl
    dsimp only
    rw [oks_ret]
    simp
    have kk : Keep S' (S'.push (.lst [.int many, .ref S1.size, .ref S2.size, .ref S3.size])) [] := Keep.push _
    have z := Store.get_lt ges
    have gs' := kp.get gs3 (by simp; omega)
    have ge' := kp.get ge (by simp; omega)
    refine ⟨by unfold line; omega, _, _, _, many, starts, ends, es, ⟨Store.get_push_same _ _, kk.get gs' (by simp), kk.get ge' (by simp), kk.get ges (by simp)⟩, ⟨m1, m2, s1, s2, nd, by omega, hok⟩, ⟨by omega, by omega, by omega, by omega⟩, ⟨by omega, by omega, z⟩, ?_, P'.keep kk (by simp) (by simp)⟩
    exact (((k1.trans k2).trans k3).trans kp).trans (kk.weak (by simp))
structure FineQ (sg many : Nat) (starts ends : List Int) (es : List Ed) : Prop where
  lo : 1 ≤ many
  hi : many ≤ 6
  s1 : starts.Nodup
  r1 : ∀ x ∈ starts, inR many x
  s2 : ends.Nodup
  r2 : ∀ x ∈ ends, inR many x
  nd : es.Nodup
  ok : ∀ e ∈ es, inR many e.1 ∧ inR many e.2.2 ∧ ∃ c, e.2.1 = [c] ∧ c ∈ abcN sg
theorem FineP.q {sg st ed many : Nat} {starts ends : List Int} {es : List Ed} (f : FineP sg st ed many starts ends es) (h : st ≤ 6) : FineQ sg many starts ends es :=
  ⟨f.lo, by have := f.hi; omega, nodup_lt f.s1.1, f.s1.2, nodup_lt f.s2.1, f.s2.2, f.nd, f.ok⟩
theorem inR_len {many : Nat} {l : List Int} (nd : l.Nodup) (h : ∀ x ∈ l, inR many x) : l.length ≤ many := by
  have h1 : (l.map Int.toNat).Nodup := by
    rw [List.nodup_iff_pairwise_ne, List.pairwise_map]
    refine List.Pairwise.imp_of_mem ?_ nd
    intro a b ha hb hab
    have h1 := h a ha
    have h2 := h b hb
    unfold inR at h1 h2
    omega
  have h2 : l.map Int.toNat ⊆ List.range many := fun x hx => by
    obtain ⟨y, hy, rfl⟩ := List.mem_map.mp hx
    have := h y hy
    rw [List.mem_range]
    unfold inR at this
    omega
  have h3 := h1.length_le_of_subset h2
  rw [List.length_map, List.length_range] at h3
  exact h3
/-- the machine of a plan -/
def MachOfSpec (call : List D → M D) : Prop := ∀ {S : Store} {sg j p1 p2 p3 many : Nat} {starts ends : List Int} {es : List Ed}, Plan S j p1 p2 p3 many starts ends es → FineQ sg many starts ends es → es.length ≤ 14 → 1 ≤ sg → sg ≤ 3 →
  Ok (call [.int sg, .ref j] S) (fun v S' => ∃ n a b c, v = .ref n ∧ Mach S' n a b c sg many es starts ends ∧ (S.size ≤ n ∧ S.size ≤ a ∧ S.size ≤ b ∧ S.size ≤ c) ∧ Keep S S' []) X0
theorem addR_none {sg st : Nat} {kept : List Ed} {e : Ed} (h1 : inR st e.1) (h2 : inR st e.2.2) (h3 : ∃ c, e.2.1 = [c] ∧ c ∈ abcN sg) (h4 : e ∉ kept) (h5 : kept.length ≠ 14) : addR sg st kept e = none := by
  obtain ⟨c, h3, h6⟩ := h3
  unfold addR
  rw [if_neg (by simpa using h1), if_neg (by simpa using h2), if_neg (by rw [h3]; simp [logS, h6]), if_neg h4, if_neg h5]
theorem machof_ok {C : Cfg} {ini ad asr aen : Nat} (hi : InitSpec (C.call ini)) (ha : AddSpec (C.call ad)) (hs : AddStartSpec (C.call asr)) (he : AddEndSpec (C.call aen)) : MachOfSpec (runFn ⟨2, 7, bMachOf ini ad asr aen⟩ C) := by
  intro S sg j p1 p2 p3 many starts ends es pl fp hes g1 g3
  rw [ok_run]
  refine ⟨rfl, ?_⟩
  show OkS (bMachOf ini ad asr aen C [some (.int sg), some (.ref j), none, none, none, none, none] S) _
  unfold bMachOf
  have q0 : atI [D.int many, .ref p1, .ref p2, .ref p3] 0 = some (.int many) := rfl
  have q1 : atI [D.int many, .ref p1, .ref p2, .ref p3] 1 = some (.ref p1) := rfl
  have q2 : atI [D.int many, .ref p1, .ref p2, .ref p3] 2 = some (.ref p2) := rfl
  have q3 : atI [D.int many, .ref p1, .ref p2, .ref p3] 3 = some (.ref p3) := rfl
  have l1 := Store.get_lt pl.hj
  have l2 := Store.get_lt pl.h1
  have l3 := Store.get_lt pl.h2
  have l4 := Store.get_lt pl.h3
  have lo := fp.lo
  have hi6 := fp.hi
  rw [oks_seq, oks_set]
  simp
  rw [p_item pl.hj]
  refine ⟨_, q0, ?_⟩
  have kI : Keep S (S.push (.ins 12 [])) [] := Keep.push _
  have gI : (S.push (.ins 12 [])).get S.size = some (.ins 12 []) := Store.get_push_same _ _
  have zI : (S.push (.ins 12 [])).size = S.size + 1 := Store.size_push _ _
  generalize S.push (.ins 12 []) = S1 at kI gI zI
  refine (hi gI (dk := .int sg) (dn := .int many) rfl rfl rfl rfl).mono (fun v S2 ⟨e, _, _, sg', st', a, b, c, e1, e2, hl, m, k2⟩ => ?_) (fun k fs S2 ⟨e1, h, e3⟩ => ?_)
  · have e1 : sg = sg' := by cases e1; rfl
    have e2 : many = st' := by cases e2; rfl
    subst e1; subst e2
    refine ⟨e, ?_⟩
    have k0 : Keep S S2 [] := kI.drop k2 (Nat.le_refl _)
    -- the starts
    refine seq_mid (fun σ S' => (∃ x3, σ = [some (.int sg), some (.ref j), some (.ref S.size), x3, none, none, none]) ∧ Mach S' S.size a b c sg many [] starts [] ∧ Keep S S' []) ?_ ?_
    · rw [oks_for]
      simp
      rw [p_item (k0.get pl.hj (by simp))]
      refine ⟨_, q1, ?_⟩
      rw [p_itL (k0.get pl.h1 (by simp))]
      have hl1 := inR_len fp.s1 fp.r1
      refine for_lst (xs := intD starts) (by unfold intD turns; rw [List.length_map]; omega) (fun i σ S' => (∃ x3, σ = [some (.int sg), some (.ref j), some (.ref S.size), x3, none, none, none]) ∧ Mach S' S.size a b c sg many [] (starts.take i) [] ∧ Keep S S' [])
        (fun i σ S' h => h.2.2.get pl.h1 (by simp)) ⟨⟨none, rfl⟩, m, k0⟩ ?_ ?_
      · rintro i d σ S' hd ⟨⟨x3, rfl⟩, m', kp⟩
        unfold intD at hd
        rw [List.getElem?_map] at hd
        obtain ⟨s, hs1, rfl⟩ := Option.map_eq_some_iff.mp hd
        refine ⟨_, rfl, ?_⟩
        rw [oks_expr]
        simp [meth_at m'.hn]
        have hn : s ∉ starts.take i := fun hm => by
          have := fp.s1
          obtain ⟨hlt, hget⟩ := List.getElem?_eq_some_iff.mp hs1
          have ht : starts.take (i + 1) = starts.take i ++ [s] := by rw [List.take_succ, hs1]; rfl
          have nd2 : (starts.take (i + 1)).Nodup := this.sublist (List.take_sublist _ _)
          rw [ht, List.nodup_append] at nd2
          exact nd2.2.2 s hm s (by simp) rfl
        refine (hs m' (by rw [List.length_take]; omega)).mono (fun v S3 ⟨_, _, k3, m3⟩ => ?_) (fun k fs S3 ⟨h, _⟩ => absurd (fp.r1 s (List.mem_of_getElem? hs1)) h)
        rw [if_neg hn] at m3
        have ht : starts.take (i + 1) = starts.take i ++ [s] := by rw [List.take_succ, hs1]; rfl
        rw [ht]
        exact ⟨m3, kp.drop k3 (by omega)⟩
      · rintro σ S' ⟨⟨x3, rfl⟩, m', kp⟩
        unfold intD at m'
        rw [List.length_map, List.take_length] at m'
        exact ⟨⟨x3, rfl⟩, m', kp⟩
    rintro σ S3 ⟨⟨x3, rfl⟩, m3, k3⟩
    -- the ends
    refine seq_mid (fun σ S' => (∃ x3, σ = [some (.int sg), some (.ref j), some (.ref S.size), x3, none, none, none]) ∧ Mach S' S.size a b c sg many [] starts ends ∧ Keep S S' []) ?_ ?_
    · rw [oks_for]
      simp
      rw [p_item (k3.get pl.hj (by simp))]
      refine ⟨_, q2, ?_⟩
      rw [p_itL (k3.get pl.h2 (by simp))]
      have hl1 := inR_len fp.s2 fp.r2
      refine for_lst (xs := intD ends) (by unfold intD turns; rw [List.length_map]; omega) (fun i σ S' => (∃ x3, σ = [some (.int sg), some (.ref j), some (.ref S.size), x3, none, none, none]) ∧ Mach S' S.size a b c sg many [] starts (ends.take i) ∧ Keep S S' [])
        (fun i σ S' h => h.2.2.get pl.h2 (by simp)) ⟨⟨x3, rfl⟩, m3, k3⟩ ?_ ?_
      · rintro i d σ S' hd ⟨⟨x3, rfl⟩, m', kp⟩
        unfold intD at hd
        rw [List.getElem?_map] at hd
        obtain ⟨s, hs1, rfl⟩ := Option.map_eq_some_iff.mp hd
        refine ⟨_, rfl, ?_⟩
        rw [oks_expr]
        simp [meth_at m'.hn]
        have hn : s ∉ ends.take i := fun hm => by
          have := fp.s2
          have ht : ends.take (i + 1) = ends.take i ++ [s] := by rw [List.take_succ, hs1]; rfl
          have nd2 : (ends.take (i + 1)).Nodup := this.sublist (List.take_sublist _ _)
          rw [ht, List.nodup_append] at nd2
          exact nd2.2.2 s hm s (by simp) rfl
        refine (he m' (by rw [List.length_take]; omega)).mono (fun v S3 ⟨_, _, k3, m3⟩ => ?_) (fun k fs S3 ⟨h, _⟩ => absurd (fp.r2 s (List.mem_of_getElem? hs1)) h)
        rw [if_neg hn] at m3
        have ht : ends.take (i + 1) = ends.take i ++ [s] := by rw [List.take_succ, hs1]; rfl
        rw [ht]
        exact ⟨m3, kp.drop k3 (by omega)⟩
      · rintro σ S' ⟨⟨x3, rfl⟩, m', kp⟩
        unfold intD at m'
        rw [List.length_map, List.take_length] at m'
        exact ⟨⟨x3, rfl⟩, m', kp⟩
    rintro σ S4 ⟨⟨x3, rfl⟩, m4, k4⟩
    -- the edges
    refine seq_mid (fun σ S' => (∃ x3 x4 x5 x6, σ = [some (.int sg), some (.ref j), some (.ref S.size), x3, x4, x5, x6]) ∧ Mach S' S.size a b c sg many es starts ends ∧ Keep S S' []) ?_ ?_
    · rw [oks_for]
      simp
      rw [p_item (k4.get pl.hj (by simp))]
      refine ⟨_, q3, ?_⟩
      rw [p_itL (k4.get pl.h3 (by simp))]
      have hl1 := hes
      refine for_lst (xs := es.map eD) (by unfold turns; rw [List.length_map]; omega) (fun i σ S' => (∃ x3 x4 x5 x6, σ = [some (.int sg), some (.ref j), some (.ref S.size), x3, x4, x5, x6]) ∧ Mach S' S.size a b c sg many (es.take i) starts ends ∧ Keep S S' [])
        (fun i σ S' h => h.2.2.get pl.h3 (by simp)) ⟨⟨x3, none, none, none, rfl⟩, m4, k4⟩ ?_ ?_
      · rintro i d σ S' hd ⟨⟨x3, x4, x5, x6, rfl⟩, m', kp⟩
        rw [List.getElem?_map] at hd
        obtain ⟨e, hs1, rfl⟩ := Option.map_eq_some_iff.mp hd
        have hlt := (List.getElem?_eq_some_iff.mp hs1).1
        have hem := List.mem_of_getElem? hs1
        obtain ⟨f1, f2, f3⟩ := fp.ok e hem
        have f4 : e.2.1.length ≤ 1000 := by
          obtain ⟨c, h, _⟩ := f3
          rw [h]; simp
        obtain ⟨o, l, t⟩ := e
        refine ⟨_, rfl, ?_⟩
        rw [oks_expr]
        simp [meth_at m'.hn]
        have ht : es.take (i + 1) = es.take i ++ [(o, l, t)] := by rw [List.take_succ, hs1]; rfl
        have hn : (o, l, t) ∉ es.take i := fun hm => by
          have nd2 : (es.take (i + 1)).Nodup := fp.nd.sublist (List.take_sublist _ _)
          rw [ht, List.nodup_append] at nd2
          exact nd2.2.2 _ hm _ (by simp) rfl
        have no : addR sg many (es.take i) (o, l, t) = none := addR_none f1 f2 f3 hn (by rw [List.length_take]; omega)
        refine (ha (e := (o, l, t)) m' g3 (by rw [List.length_take]; omega) f4).mono (fun v S5 ⟨_, _, k5, m5⟩ => ?_) (fun k fs S5 ⟨f, d, h, _⟩ => by rw [no] at h; cases h)
        rw [ht]
        exact ⟨m5, kp.drop k5 (by omega)⟩
      · rintro σ S' ⟨⟨x3, x4, x5, x6, rfl⟩, m', kp⟩
        rw [List.length_map, List.take_length] at m'
        exact ⟨⟨x3, x4, x5, x6, rfl⟩, m', kp⟩
    rintro σ S5 ⟨⟨x3, x4, x5, x6, rfl⟩, m5, k5⟩
    rw [oks_ret]
    simp
    exact ⟨a, b, c, m5, ⟨by omega, by omega, by omega⟩, k5⟩
  · exfalso
    rcases h with ⟨h, _⟩ | ⟨_, h, _⟩
    · have : isIntD 1 3 (.int sg) = true := by simp [isIntD]; omega
      rw [this] at h; cases h
    · have : isIntD 1 6 (.int many) = true := by simp [isIntD]; omega
      rw [this] at h; cases h
/-- the law's own states -/
def SteppedSpec (call : List D → M D) : Prop := ∀ {S : Store} {j p1 p2 p3 many z : Nat} {starts ends : List Int} {es : List Ed} {states : List Int} {s : List Nat}, Plan S j p1 p2 p3 many starts ends es → es.length < 64 → S.get z = some (.lst (intD states)) →
  Ok (call [.ref j, .ref z, .str s] S) (fun v S' => ∃ r, v = .ref r ∧ S.size ≤ r ∧ S'.get r = some (.lst (intD (stepS es states s))) ∧ Keep S S' []) X0
theorem fm_int {xs : List D} {p : D → Bool} {f : D → D} {g : D → Int} (h : ∀ d ∈ xs, f d = .int (g d)) : (xs.filter p).map f = intD ((xs.filter p).map g) := by
  unfold intD
  rw [List.map_map]
  exact List.map_congr_left fun d hd => h d (List.mem_filter.mp hd).1
theorem stepped_ok {C : Cfg} : SteppedSpec (runFn ⟨3, 6, bStepped⟩ C) := by
  intro S j p1 p2 p3 many z starts ends es states s pl hl hz
  rw [ok_run]
  refine ⟨rfl, ?_⟩
  show OkS (bStepped C [some (.ref j), some (.ref z), some (.str s), none, none, none] S) _
  unfold bStepped
  have q3 : atI [D.int many, .ref p1, .ref p2, .ref p3] 3 = some (.ref p3) := rfl
  rw [oks_ret]
  simp [ok_lc, wipe]
  rw [p_item pl.hj]
  refine ⟨_, q3, ?_⟩
  rw [p_itL pl.h3]
  refine Ok.imp (lc_fml (okE states s) (fun d => .int (toE d)) pl.h3 (by rw [List.length_map]; omega) fun i d S' hd k1 => ?_) ?_
  · rw [List.getElem?_map] at hd
    obtain ⟨e, he, rfl⟩ := Option.map_eq_some_iff.mp hd
    obtain ⟨o, l, t⟩ := e
    refine ⟨_, rfl, ?_⟩
    simp
    by_cases h1 : l = s
    · first | refine .inl ⟨h1, ?_⟩ | refine .inr ⟨h1, ?_⟩
      rw [p_inIL (k1.get hz (by simp))]
      by_cases h2 : o ∈ states
      · simp [h2, okE, eD, h1, toE, Keep.refl]
      · simp [h2, okE, eD, h1, toE, Keep.refl]
    · first | refine .inl ⟨h1, ?_⟩ | refine .inr ⟨h1, ?_⟩
      simp [okE, eD, h1, Keep.refl]
  · rintro _ S1 ⟨g, k1⟩
    rw [fm_int (g := toE) fun d _ => rfl, tgts_eq] at g
    have hl2 : (tgts es states s).length < 64 := by
      unfold tgts
      rw [List.length_map]
      have := List.length_filter_le (fun e : Ed => decide (e.2.1 = s) && decide (e.1 ∈ states)) es
      omega
    rw [p_sortset g hl2]
    exact ⟨_, rfl, k1.le, Store.get_push_same _ _, k1.trans (Keep.push _)⟩
def StatesSpec (call : List D → M D) : Prop := ∀ {S : Store} {j p1 p2 p3 many : Nat} {starts ends : List Int} {es : List Ed} {log : List Nat}, Plan S j p1 p2 p3 many starts ends es → es.length < 64 → starts.length < 64 → log.length ≤ 1000000 →
  Ok (call [.ref j, .str log] S) (fun v S' => ∃ r, v = .ref r ∧ S.size ≤ r ∧ S'.get r = some (.lst (intD (aft es (sortU starts) log))) ∧ Keep S S' []) X0
theorem states_ok {C : Cfg} {sp : Nat} (hs : SteppedSpec (C.call sp)) : StatesSpec (runFn ⟨2, 4, bStates sp⟩ C) := by
  intro S j p1 p2 p3 many starts ends es log pl hl hl2 hlog
  rw [ok_run]
  refine ⟨rfl, ?_⟩
  show OkS (bStates sp C [some (.ref j), some (.str log), none, none] S) _
  unfold bStates
  have q1 : atI [D.int many, .ref p1, .ref p2, .ref p3] 1 = some (.ref p1) := rfl
  rw [oks_seq, oks_set]
  simp
  rw [p_item pl.hj]
  refine ⟨_, q1, ?_⟩
  rw [p_sortset pl.h1 hl2]
  have kI : Keep S (S.push (.lst (intD (sortU starts)))) [] := Keep.push _
  have gI : (S.push (.lst (intD (sortU starts)))).get S.size = some (.lst (intD (sortU starts))) := Store.get_push_same _ _
  generalize S.push (.lst (intD (sortU starts))) = S1 at kI gI
  rw [oks_seq, oks_for]
  simp
  refine for_seq (xs := sgn log) (by rw [sgn_len]; unfold turns; omega) (fun i σ S' => (∃ r x3, σ = [some (.ref j), some (.str log), some (.ref r), x3] ∧ S.size ≤ r ∧ S'.get r = some (.lst (intD (aft es (sortU starts) (log.take i))))) ∧ Keep S S' []) ⟨⟨_, none, rfl, Nat.le_refl _, gI⟩, kI⟩ ?_ ?_
  · rintro i d σ S' hd ⟨⟨r, x3, rfl, hr, gr⟩, kp⟩
    obtain ⟨ch, hc, rfl⟩ := sgn_at hd
    refine ⟨_, by simp; rfl, ?_⟩
    rw [oks_set]
    simp
    refine (hs (pl.keep kp (by simp) (by simp) (by simp) (by simp)) hl gr).imp fun v S2 ⟨r2, e, hr2, g2, k2⟩ => ?_
    subst e
    have ht : log.take (i + 1) = log.take i ++ [ch] := by rw [List.take_succ, hc]; rfl
    have ea : aft es (sortU starts) (log.take (i + 1)) = stepS es (aft es (sortU starts) (log.take i)) [ch] := by
      rw [ht]
      unfold aft
      rw [List.foldl_append]
      rfl
    rw [ea]
    have := kp.le
    exact ⟨⟨r2, rfl, by omega, g2⟩, kp.trans k2⟩
  · rintro σ S' ⟨⟨r, x3, rfl, hr, gr⟩, kp⟩
    rw [sgn_len, List.take_length] at gr
    dsimp only
    rw [oks_ret]
    simp
    exact ⟨hr, gr, kp⟩
def HasLSpec (call : List D → M D) : Prop := ∀ {S : Store} {j p1 p2 p3 many : Nat} {starts ends : List Int} {es : List Ed} {log : List Nat}, Plan S j p1 p2 p3 many starts ends es → es.length < 64 → starts.length < 64 → log.length ≤ 1000000 →
  Ok (call [.ref j, .str log] S) (fun v S' => v = .bl ((aft es (sortU starts) log).any fun x => decide (x ∈ ends)) ∧ Keep S S' []) X0
theorem filter_any {α : Type} (p : α → Bool) (l : List α) : (!decide (l.filter p = [])) = l.any p := by
  induction l with
  | nil => rfl
  | cons a r ih =>
    rw [List.filter_cons, List.any_cons]
    cases h : p a with
    | true => simp
    | false => simpa using ih
def inI (ends : List Int) : D → Bool
  | .int i => decide (i ∈ ends)
  | _ => false
theorem intD_filter (ends ns : List Int) : (intD ns).filter (inI ends) = intD (ns.filter fun x => decide (x ∈ ends)) := by
  unfold intD
  rw [List.filter_map]
  rfl
theorem has_ok {C : Cfg} {sts : Nat} (hs : StatesSpec (C.call sts)) : HasLSpec (runFn ⟨2, 3, bHas sts⟩ C) := by
  intro S j p1 p2 p3 many starts ends es log pl hl hl2 hlog
  rw [ok_run]
  refine ⟨rfl, ?_⟩
  show OkS (bHas sts C [some (.ref j), some (.str log), none] S) _
  unfold bHas
  have q2 : atI [D.int many, .ref p1, .ref p2, .ref p3] 2 = some (.ref p2) := rfl
  rw [oks_ret]
  simp [ok_lc, wipe]
  refine (hs pl hl hl2 hlog).imp fun v S1 ⟨r, e, hr, gr, k1⟩ => ?_
  subst e
  rw [p_itL gr]
  have h1 := len_aft es log (sortU starts)
  have h2 := len_sortU starts
  refine Ok.imp (lc_fml (inI ends) (fun d => d) gr (by unfold intD; rw [List.length_map]; omega) fun i d S' hd k2 => ?_) ?_
  · unfold intD at hd
    rw [List.getElem?_map] at hd
    obtain ⟨z, hz, rfl⟩ := Option.map_eq_some_iff.mp hd
    have pl' := pl.keep (k1.trans k2) (by simp) (by simp) (by simp) (by simp)
    refine ⟨_, rfl, ?_⟩
    simp
    rw [p_item pl'.hj]
    refine ⟨_, q2, ?_⟩
    rw [p_inIL pl'.h2]
    by_cases h3 : z ∈ ends
    · simp [h3, inI, Keep.refl]
    · simp [h3, inI, Keep.refl]
  · rintro _ S2 ⟨g, k2⟩
    rw [List.map_id', intD_filter] at g
    have kL : Keep S2 (S2.push (.lst [])) [] := Keep.push _
    have gL : (S2.push (.lst [])).get S2.size = some (.lst (intD [])) := Store.get_push_same _ _
    rw [p_neInts (kL.get g (by simp)) gL, filter_any]
    exact ⟨rfl, (k1.trans k2).trans kL⟩
theorem ok_body {ar sl : Nat} {b : MS} {as : List D} {σ0 : Slots} {Q : D → Store → Prop} (h : as.length = ar) (he : as.map some ++ List.replicate (sl - as.length) none = σ0)
    (hb : OkS (b C σ0 S) { nx := fun _ S' => Q .non S', rt := Q, ex := fun c fs _ S' => E c fs S' }) : Ok (runFn ⟨ar, sl, b⟩ C as S) Q E := by
  rw [ok_run]
  subst he
  exact ⟨h, hb⟩
/-! ### all strings of the first signs -/
def nextS (sg : Nat) (l : List (List Nat)) : List (List Nat) := l.flatMap fun one => (abcN sg).map fun c => one ++ [c]
def levS (sg : Nat) : Nat → List (List Nat)
  | 0 => [[]]
  | n + 1 => nextS sg (levS sg n)
/-- the strings of at most so many signs, in order -/
def allS (sg : Nat) : Nat → List (List Nat)
  | 0 => [[]]
  | n + 1 => allS sg n ++ levS sg (n + 1)
theorem abc_len {sg : Nat} : (abcN sg).length ≤ 3 := by unfold abcN; rw [List.length_take]; simp; omega
theorem next_len {sg : Nat} (l : List (List Nat)) : (nextS sg l).length ≤ 3 * l.length := by
  have := abc_len (sg := sg)
  induction l with
  | nil => simp [nextS]
  | cons a r ih =>
    unfold nextS at ih ⊢
    rw [List.flatMap_cons, List.length_append, List.length_map, List.length_cons]
    omega
theorem lev_len {sg : Nat} : ∀ n, (levS sg n).length ≤ 3 ^ n
  | 0 => by simp [levS]
  | n + 1 => by
    have h1 := next_len (sg := sg) (levS sg n)
    have h2 := lev_len (sg := sg) n
    show (nextS sg (levS sg n)).length ≤ _
    rw [Nat.pow_succ]
    omega
theorem all_len {sg : Nat} : ∀ n, (allS sg n).length ≤ 3 ^ (n + 1)
  | 0 => by simp [allS]
  | n + 1 => by
    have h1 := all_len (sg := sg) n
    have h2 := lev_len (sg := sg) (n + 1)
    show (allS sg n ++ levS sg (n + 1)).length ≤ _
    rw [List.length_append, Nat.pow_succ 3 (n + 1)]
    omega
theorem lev_mem {sg : Nat} : ∀ {n : Nat} {s : List Nat}, s ∈ levS sg n → s.length = n ∧ ∀ c ∈ s, c ∈ abcN sg
  | 0, s, h => by
    rw [levS, List.mem_singleton] at h
    subst h
    exact ⟨rfl, fun c h => nomatch h⟩
  | n + 1, s, h => by
    obtain ⟨a, h1, h2⟩ := List.mem_flatMap.mp (show s ∈ (levS sg n).flatMap _ from h)
    obtain ⟨c, h3, rfl⟩ := List.mem_map.mp h2
    obtain ⟨h4, h5⟩ := lev_mem h1
    refine ⟨by rw [List.length_append, h4]; rfl, fun x hx => ?_⟩
    rcases List.mem_append.mp hx with hx | hx
    · exact h5 x hx
    · rw [List.mem_singleton.mp hx]; exact h3
theorem all_mem {sg : Nat} : ∀ {n : Nat} {s : List Nat}, s ∈ allS sg n → s.length ≤ n ∧ ∀ c ∈ s, c ∈ abcN sg
  | 0, s, h => by
    rw [allS, List.mem_singleton] at h
    subst h
    exact ⟨Nat.le_refl _, fun c h => nomatch h⟩
  | n + 1, s, h => by
    rcases List.mem_append.mp (show s ∈ allS sg n ++ levS sg (n + 1) from h) with h | h
    · obtain ⟨h1, h2⟩ := all_mem h
      exact ⟨by omega, h2⟩
    · obtain ⟨h1, h2⟩ := lev_mem h
      exact ⟨by omega, h2⟩
theorem p_extL {n k : Nat} {xs ys : List D} (h : S.get n = some (.lst xs)) (h2 : S.get k = some (.lst ys)) : OkP (mExtendX (.ref n) [.ref k] S) Q = (xs.length + ys.length ≤ line ∧ Q .non (S.set n (.lst (xs ++ ys)))) := by
  show OkP (mExtend (.ref n) [.ref k] S) Q = _
  unfold mExtend
  simp only [h, h2]
  exact okp_if
def AllStrSpec (call : List D → M D) : Prop := ∀ {S : Store} {sg most : Nat}, sg ≤ 3 → most ≤ 8 →
  Ok (call [.int sg, .int most] S) (fun v S' => ∃ r, v = .ref r ∧ S.size ≤ r ∧ S'.get r = some (.lst (strD (allS sg most))) ∧ Keep S S' []) X0
def addC (one : List Nat) : D → D
  | .str [c] => .str (one ++ [c])
  | _ => .non
theorem allstr_ok {C : Cfg} : AllStrSpec (runFn ⟨2, 8, bAllStr⟩ C) := by
  intro S sg most g3 m8
  rw [ok_run]
  constructor
  · rfl
  rw [show (enter ⟨2, 8, bAllStr⟩ [D.int sg, D.int most]) = [some (.int sg), some (.int most), none, none, none, none, none, none] from rfl, bAllStr]
  dsimp only
  have okm : okR (most : Int) = true := okR_nat (by omega) (by omega)
  rw [oks_seq, oks_par]
  simp
  refine ⟨by decide, ?_⟩
  have kA : Keep S (S.push (.lst [.str []])) [] := Keep.push _
  have gA : (S.push (.lst [.str []])).get S.size = some (.lst (strD [[]])) := Store.get_push_same _ _
  have zA : (S.push (.lst [.str []])).size = S.size + 1 := Store.size_push _ _
  generalize S.push (.lst [.str []]) = S1 at kA gA zA ⊢
  have kB : Keep S1 (S1.push (.lst [.str []])) [] := Keep.push _
  have gB : (S1.push (.lst [.str []])).get S1.size = some (.lst (strD [[]])) := Store.get_push_same _ _
  have zB : (S1.push (.lst [.str []])).size = S1.size + 1 := Store.size_push _ _
  generalize S1.push (.lst [.str []]) = S2 at kB gB zB ⊢
  rw [oks_seq, oks_for]
  simp [okm]
  refine for_seq (by rw [rangeL_len]; unfold turns; omega) (fun i σ S' => (∃ F L x4 x5 x6, σ = [some (.int sg), some (.int most), some (.ref F), some (.ref L), x4, x5, x6, none] ∧ S.size ≤ F ∧ S.size ≤ L ∧ S'.get F = some (.lst (strD (allS sg i))) ∧ S'.get L = some (.lst (strD (levS sg i)))) ∧ Keep S S' [])
    ⟨⟨_, _, none, none, none, rfl, Nat.le_refl _, by omega, kB.get gA (by simp), gB⟩, kA.trans kB⟩ ?_ ?_
  · rintro i d σ S' hd ⟨⟨F, L, x4, x5, x6, rfl, hF, hL, gF, gL⟩, kp⟩
    obtain ⟨rfl, hi⟩ := rangeL_at _ _ _ _ _ hd
    refine ⟨_, by simp; rfl, ?_⟩
    have b1 := lev_len (sg := sg) i
    have b2 := all_len (sg := sg) i
    have b3 : 3 ^ i ≤ 3 ^ 8 := Nat.pow_le_pow_right (by omega) (by omega)
    have b4 : 3 ^ (i + 1) ≤ 3 ^ 9 := Nat.pow_le_pow_right (by omega) (by omega)
    rw [oks_seq, oks_set]
    simp
    have lF := Store.get_lt gF
    have lL := Store.get_lt gL
    have kC : Keep S' (S'.push (.lst [])) [] := Keep.push _
    have gC : (S'.push (.lst [])).get S'.size = some (.lst (strD [])) := Store.get_push_same _ _
    have zC : (S'.push (.lst [])).size = S'.size + 1 := Store.size_push _ _
    generalize S'.push (.lst []) = S3 at kC gC zC ⊢
    have le0 := kp.le
    refine seq_mid (fun σ S4 => (∃ x6, σ = [some (.int sg), some (.int most), some (.ref F), some (.ref L), some (.int i), some (.ref S'.size), x6, none]) ∧ S4.get S'.size = some (.lst (strD (nextS sg (levS sg i)))) ∧ Keep S' S4 []) ?_ ?_
    · rw [oks_for]
      simp
      rw [p_itL (kC.get gL (by simp))]
      refine for_lst (xs := strD (levS sg i)) (by unfold strD turns; rw [List.length_map]; omega) (fun j σ S4 => (∃ x6, σ = [some (.int sg), some (.int most), some (.ref F), some (.ref L), some (.int i), some (.ref S'.size), x6, none]) ∧ S4.get S'.size = some (.lst (strD (nextS sg ((levS sg i).take j)))) ∧ Keep S' S4 [])
        (fun j σ S4 h => h.2.2.get gL (by simp)) ⟨⟨x6, rfl⟩, gC, kC⟩ ?_ ?_
      · rintro j d σ S4 hd4 ⟨⟨x6, rfl⟩, g4, k4⟩
        unfold strD at hd4
        rw [List.getElem?_map] at hd4
        obtain ⟨one, h1, rfl⟩ := Option.map_eq_some_iff.mp hd4
        refine ⟨_, rfl, ?_⟩
        rw [oks_expr]
        have h1m := List.mem_of_getElem? h1
        obtain ⟨h2, h3⟩ := lev_mem h1m
        have l4 := Store.get_lt g4
        simp [ok_lc, wipe]
        refine ⟨by simp [tyLst, g4], by decide, ?_⟩
        rw [cut_abcN g3]
        refine Ok.imp (lc_map (addC one) (xs := sgn (abcN sg)) (by rw [sgn_len]; have := abc_len (sg := sg); omega) fun m d S5 hd5 k5 => ?_) ?_
        · obtain ⟨c, hc, rfl⟩ := sgn_at hd5
          refine ⟨_, by simp; rfl, ?_⟩
          simp [addC]
          exact ⟨by unfold line; omega, Keep.refl⟩
        · rintro _ S5 ⟨g5, k5⟩
          have e5 : (sgn (abcN sg)).map (addC one) = strD ((abcN sg).map fun c => one ++ [c]) := by
            unfold sgn strD
            rw [List.map_map, List.map_map]; rfl
          rw [e5] at g5
          rw [p_extL (k5.get g4 (by simp)) g5]
          have ht : (levS sg i).take (j + 1) = (levS sg i).take j ++ [one] := by rw [List.take_succ, h1]; rfl
          have en : nextS sg ((levS sg i).take (j + 1)) = nextS sg ((levS sg i).take j) ++ (abcN sg).map fun c => one ++ [c] := by
            rw [ht]; unfold nextS; rw [List.flatMap_append]; simp
          have es : strD (nextS sg ((levS sg i).take j)) ++ strD ((abcN sg).map fun c => one ++ [c]) = strD (nextS sg ((levS sg i).take (j + 1))) := by
            rw [en]; unfold strD; rw [List.map_append]
          have n1 := next_len (sg := sg) ((levS sg i).take j)
          have n2 : ((levS sg i).take j).length ≤ (levS sg i).length := by rw [List.length_take]; omega
          have n3 := abc_len (sg := sg)
          have l5 := Store.get_lt (k5.get g4 (by simp))
          rw [es]
          refine ⟨by unfold strD line; rw [List.length_map, List.length_map, List.length_map]; omega, Store.get_set_same _ l5, (k4.trans k5).set_new _ (Nat.le_refl _) l5⟩
      · rintro σ S4 ⟨⟨x6, rfl⟩, g4, k4⟩
        unfold strD at g4
        rw [List.length_map, List.take_length] at g4
        exact ⟨⟨x6, rfl⟩, g4, k4⟩
    rintro σ S4 ⟨⟨x6, rfl⟩, g4, k4⟩
    rw [oks_par]
    simp
    have gF4 := k4.get gF (by simp)
    rw [p_addL gF4 g4]
    have n1 := next_len (sg := sg) (levS sg i)
    have kD : Keep S4 (S4.push (.lst (strD (allS sg i) ++ strD (nextS sg (levS sg i))))) [] := Keep.push _
    have gD : (S4.push (.lst (strD (allS sg i) ++ strD (nextS sg (levS sg i))))).get S4.size = some (.lst (strD (allS sg (i + 1)))) := by
      rw [Store.get_push_same]
      show _ = some (Ob.lst (strD (allS sg i ++ nextS sg (levS sg i))))
      unfold strD
      rw [List.map_append]
    have l4 := k4.le
    refine ⟨by unfold strD line; rw [List.length_map, List.length_map]; omega, ⟨_, _, ⟨rfl, rfl⟩, by omega, by omega, gD, kD.get g4 (by simp)⟩, (kp.trans k4).trans kD⟩
  · rintro σ S' ⟨⟨F, L, x4, x5, x6, rfl, hF, hL, gF, gL⟩, kp⟩
    rw [rangeL_len] at gF
    dsimp only
    rw [oks_ret]
    simp
    exact ⟨hF, gF, kp⟩
/-! ### more that the laws share -/
/-- [e for i in range(n)]: texts that are drawn -/
theorem lc_strs (p : List Nat → Prop) {e : ME} {g : Tg} {n k q : Nat} (hn : n ≤ 1000) (P : Pen S k q)
    (step : ∀ (i : Nat) (S' : Store), i < n → Keep S S' [k] → Pen S' k q → ∃ σ1, asg S' g (.int i) σ = some σ1 ∧ Ok (e C σ1 S') (fun y S2 => ∃ s, y = .str s ∧ p s ∧ Keep S' S2 [k] ∧ Pen S2 k q) X0) :
    Ok (compN (.seq (rangeL 0 1 n)) g tYes (emit e S.size C) C σ turns 0 (S.push (.lst []))) (fun _ S2 => ∃ l, S2.get S.size = some (.lst (strD l)) ∧ (∀ s ∈ l, p s) ∧ l.length = n ∧ Keep S S2 [k] ∧ Pen S2 k q) X0 := by
  have lt := P.lt
  refine lc_seq (Q := fun S2 => ∃ l, S2.get S.size = some (.lst (strD l)) ∧ (∀ s ∈ l, p s) ∧ l.length = n ∧ Keep S S2 [k] ∧ Pen S2 k q) (by rw [rangeL_len]; unfold turns; omega)
    (fun i acc S' => (∃ l, acc = strD l ∧ (∀ s ∈ l, p s) ∧ l.length = i) ∧ S'.get S.size = some (.lst acc) ∧ Keep S S' [k] ∧ Pen S' k q) ?_ (fun _ _ _ h => h.2.1) ?_ (by rw [rangeL_len]; unfold line; omega) ?_
  · exact ⟨⟨[], rfl, (fun s h => nomatch h), rfl⟩, Store.get_push_same _ _, Keep.push _, P.keep (ex := []) (Keep.push _) (by simp) (by simp)⟩
  · rintro i d acc S' hd ha ⟨⟨l, rfl, hs, hl⟩, hg, kp, P'⟩
    obtain ⟨rfl, hi⟩ := rangeL_at _ _ _ _ _ hd
    have e0 : (0 : Int) + (i : Int) * 1 = i := by omega
    rw [e0]
    obtain ⟨σ1, h1, h2⟩ := step i S' hi kp P'
    refine ⟨σ1, h1, ?_⟩
    rw [ok_yes, if_pos rfl]
    refine h2.imp fun y S2 ⟨s, e1, hp, k2, P2⟩ => ?_
    subst e1
    have g1 := k2.get hg (by simp; omega)
    have hl2 := Store.get_lt g1
    refine ⟨g1, ⟨l ++ [s], by unfold strD; rw [List.map_append]; rfl, ?_, by rw [List.length_append, List.length_singleton]; omega⟩, Store.get_set_same _ hl2, (kp.trans k2).set_new _ (Nat.le_refl _) hl2, P2.keep (ex := [S.size]) (Keep.set _ hl2 (by simp)) (by simp; omega) (by simp; omega)⟩
    intro x hx
    rcases List.mem_append.mp hx with hx | hx
    · exact hs x hx
    · rw [List.mem_singleton.mp hx]; exact hp
  · rintro acc S' ha ⟨⟨l, rfl, hs, hl⟩, hg, kp, P'⟩
    rw [rangeL_len] at hl
    exact ⟨l, hg, hs, hl, kp, P'⟩
theorem tgts_in {es : List Ed} {many : Nat} (h : ∀ e ∈ es, inR many e.2.2) (states : List Int) (s : List Nat) : ∀ x ∈ stepS es states s, inR many x := by
  intro x hx
  obtain ⟨e, he, rfl⟩ := List.mem_map.mp (mem_sortU.mp hx)
  exact h e (List.mem_filter.mp he).1
theorem aft_in {es : List Ed} {many : Nat} (h : ∀ e ∈ es, inR many e.2.2) : ∀ (log : List Nat) (st : List Int), (∀ x ∈ st, inR many x) → ∀ x ∈ aft es st log, inR many x
  | [], st, hs => hs
  | c :: r, st, hs => aft_in h r (stepS es st [c]) (tgts_in h st [c])
theorem sortU_in {many : Nat} {l : List Int} (h : ∀ x ∈ l, inR many x) : ∀ x ∈ sortU l, inR many x := fun x hx => h x (mem_sortU.mp hx)
theorem da_ints {S : Store} {k many : Nat} {l : List Int} (h : ∀ x ∈ l, inR many x) (hm : many ≤ 1000) (hl : l.length ≤ 100) : Da S k 2 (.tup (intD l)) 300000 :=
  (Da.tup (DaL.map (c := 2000) (n := 1) fun x hx => Da.int (by have := h x hx; unfold inR at this; omega))).le (Nat.le_refl _) (by omega)
theorem sts_len {es : List Ed} {starts : List Int} {log : List Nat} {sg st ed many : Nat} {ends : List Int} (fp : FineP sg st ed many starts ends es) : (aft es (sortU starts) log).length ≤ max st ed := by
  have h1 := len_aft es log (sortU starts)
  have h2 := len_sortU starts
  have h3 := fp.s1.len
  have h4 := fp.hi
  have h5 := fp.len
  omega
theorem rep_mem {n : Nat} {l : List Nat} {c : Nat} : c ∈ repeatL n l → c ∈ l := by
  induction n with
  | zero => intro h; cases h
  | succ n ih =>
    intro h
    have h : c ∈ l ++ repeatL n l := h
    rcases List.mem_append.mp h with h | h
    · exact h
    · exact ih h
theorem rep_len (n : Nat) (l : List Nat) : (repeatL n l).length = n * l.length := by
  induction n with
  | zero => simp [repeatL]
  | succ n ih =>
    show (l ++ repeatL n l).length = _
    rw [List.length_append, ih, Nat.succ_mul]; omega
theorem strD_app (xs ys : List (List Nat)) : strD xs ++ strD ys = strD (xs ++ ys) := by unfold strD; rw [List.map_append]
theorem strD_len (xs : List (List Nat)) : (strD xs).length = xs.length := by unfold strD; rw [List.length_map]
end
end MP

/-! MP: starts and ends taken away, twins, pairs; a machine beside its plan. Own work. -/
namespace MP
open PySem (PyData)
section
variable {S : Store} {Q : D → Store → Prop} {C : Cfg} {σ : Slots} {T : Pt} {E : Nat → Fs → Store → Prop}
def bRemStart (rq : Nat) : MS := sSeq (sExpr (eMeth [(12, rq)] (eVar 0) (aCons (eVar 1) (aNil)) [])) (sSeq (sIf (MP.tB (e2 opNotIn (eVar 1) (eFld [12] 10 (eVar 0)))) (sRet (eC (.bl false))) (sPass)) (sSeq (sExpr (eBM tyLst mRemove (eFld [12] 10 (eVar 0)) (aCons (eVar 1) (aNil)))) (sRet (eC (.bl true)))))
def bRemEnd (rq : Nat) : MS := sSeq (sExpr (eMeth [(12, rq)] (eVar 0) (aCons (eVar 1) (aNil)) [])) (sSeq (sIf (MP.tB (e2 opNotIn (eVar 1) (eFld [12] 11 (eVar 0)))) (sRet (eC (.bl false))) (sPass)) (sSeq (sExpr (eBM tyLst mRemove (eFld [12] 11 (eVar 0)) (aCons (eVar 1) (aNil)))) (sRet (eC (.bl true)))))
def bEnds : MS := sRet (eB bTuple (aCons (eB bSorted (aCons (eFld [12] 11 (eVar 0)) (aNil))) (aNil)))
def bTwin (ini : Nat) : MS := sSeq (sSet (.nm 1) (eNew 12 ini (aCons (eFld [12] 7 (eVar 0)) (aCons (eFld [12] 8 (eVar 0)) (aNil))) [])) (sSeq (sFld [12] 9 (eVar 1) (eB bListX (aCons (eFld [12] 9 (eVar 0)) (aNil)))) (sSeq (sFld [12] 10 (eVar 1) (eB bListX (aCons (eFld [12] 10 (eVar 0)) (aNil)))) (sSeq (sFld [12] 11 (eVar 1) (eB bListX (aCons (eFld [12] 11 (eVar 0)) (aNil)))) (sRet (eVar 1)))))
def bPair : MS := sIf (MP.tB (e2 opNe (eFld [12] 7 (e2 opItem (eVar 0) (eC (.int 0)))) (eFld [12] 7 (e2 opItem (eVar 0) (eC (.int 1)))))) (sRaise 3 [] aNil) (sPass)
theorem find_ints (i : Int) : ∀ ns : List Int, (ns.map PyData.int).findIdx? (fun b => PyData.eqv b (.int i)) = ns.findIdx? (fun x => i == x)
  | [] => rfl
  | x :: ns => by
    have z : PyData.eqv (.int x) (.int i) = (i == x) := by
      show (x == i) = (i == x)
      rw [Bool.eq_iff_iff, beq_iff_eq, beq_iff_eq]
      exact ⟨fun h => h.symm, fun h => h.symm⟩
    rw [List.map_cons, List.findIdx?_cons, List.findIdx?_cons, z, find_ints i ns]
theorem p_removeI {n : Nat} {ns : List Int} {i : Int} (h : S.get n = some (.lst (intD ns))) (hm : i ∈ ns) : OkP (mRemove (.ref n) [.int i] S) Q = Q .non (S.set n (.lst (intD (ns.erase i)))) := by
  have e2 : snaps S deep (intD ns) = some (ns.map PyData.int) := snap_ints S 39 ns
  have e3 : snap S deep (.int i) = some (.int i) := rfl
  unfold mRemove
  simp only [h, e2, e3, find_ints]
  rw [List.erase_eq_eraseP, List.eraseP_eq_eraseIdx]
  cases hf : ns.findIdx? (fun x => i == x) with
  | none =>
    exfalso
    have := List.findIdx?_eq_none_iff.mp hf i hm
    simp at this
  | some j =>
    simp only [okp_some]
    unfold intD
    rw [map_erase]
theorem p_listR {n : Nat} {xs : List D} (h : S.get n = some (.lst xs)) : OkP (bListX [.ref n] S) Q = Q (.ref S.size) (S.push (.lst xs)) := by
  unfold bListX bListS lstAt
  simp only [h]
  rfl
def RemStartSpec (call : List D → M D) : Prop := ∀ {S : Store} {n a b c sg st : Nat} {kept : List Ed} {first last : List Int} {s : Int}, Mach S n a b c sg st kept first last →
  Ok (call [.ref n, .int s] S) (fun v S' => inR st s ∧ v = .bl (decide (s ∈ first)) ∧ Keep S S' [b] ∧ Mach S' n a b c sg st kept (first.erase s) last) (fun k fs S' => ¬ inR st s ∧ k = 5 ∧ fs = [(3, .int s)] ∧ S' = S)
theorem remstart_ok {C : Cfg} {rq : Nat} (hr : ReqSpec (C.call rq)) : RemStartSpec (runFn ⟨2, 2, bRemStart rq⟩ C) := by
  intro S n a b c sg st kept first last s m
  rw [ok_run]
  refine ⟨rfl, ?_⟩
  show OkS (bRemStart rq C [some (.ref n), some (.int s)] S) _
  unfold bRemStart
  have lt := m.lt
  have ne2 := m.ne2
  have ne1 := m.ne
  rw [oks_seq, oks_expr]
  simp [meth_at m.hn]
  refine (hr m).mono (fun v S1 ⟨e, h1, e2⟩ => ?_) (fun k fs S1 ⟨h1, e1, e2, e3⟩ => ⟨h1, e1, e2, e3⟩)
  subst e; subst e2
  rw [oks_seq, oks_if]
  simp
  rw [p_fld m.hn rfl (d := .ref b) rfl, p_notinIL m.hb]
  by_cases hm : s ∈ first
  · simp [hm]
    rw [oks_pass]
    dsimp only
    rw [oks_seq, oks_expr]
    simp
    rw [p_fld m.hn rfl (d := .ref b) rfl]
    refine ⟨by simp [tyLst, m.hb], ?_⟩
    rw [p_removeI m.hb hm]
    rw [oks_ret]
    simp
    have kk : Keep S1 (S1.set b (.lst (intD (first.erase s)))) [b] := Keep.set _ lt.2.2.1 (by simp)
    exact ⟨h1, kk, ⟨kk.get m.hn (by simp; omega), kk.get m.ha (by simp; omega), Store.get_set_same _ lt.2.2.1, kk.get m.hc (by simp; omega), m.ne⟩⟩
  · simp [hm]
    rw [oks_ret]
    simp
    refine ⟨h1, Keep.refl, ?_⟩
    rw [List.erase_of_not_mem hm]
    exact m
def RemEndSpec (call : List D → M D) : Prop := ∀ {S : Store} {n a b c sg st : Nat} {kept : List Ed} {first last : List Int} {s : Int}, Mach S n a b c sg st kept first last →
  Ok (call [.ref n, .int s] S) (fun v S' => inR st s ∧ v = .bl (decide (s ∈ last)) ∧ Keep S S' [c] ∧ Mach S' n a b c sg st kept first (last.erase s)) (fun k fs S' => ¬ inR st s ∧ k = 5 ∧ fs = [(3, .int s)] ∧ S' = S)
theorem remend_ok {C : Cfg} {rq : Nat} (hr : ReqSpec (C.call rq)) : RemEndSpec (runFn ⟨2, 2, bRemEnd rq⟩ C) := by
  intro S n a b c sg st kept first last s m
  rw [ok_run]
  refine ⟨rfl, ?_⟩
  show OkS (bRemEnd rq C [some (.ref n), some (.int s)] S) _
  unfold bRemEnd
  have lt := m.lt
  have ne2 := m.ne2
  have ne1 := m.ne
  rw [oks_seq, oks_expr]
  simp [meth_at m.hn]
  refine (hr m).mono (fun v S1 ⟨e, h1, e2⟩ => ?_) (fun k fs S1 ⟨h1, e1, e2, e3⟩ => ⟨h1, e1, e2, e3⟩)
  subst e; subst e2
  rw [oks_seq, oks_if]
  simp
  rw [p_fld m.hn rfl (d := .ref c) rfl, p_notinIL m.hc]
  by_cases hm : s ∈ last
  · simp [hm]
    rw [oks_pass]
    dsimp only
    rw [oks_seq, oks_expr]
    simp
    rw [p_fld m.hn rfl (d := .ref c) rfl]
    refine ⟨by simp [tyLst, m.hc], ?_⟩
    rw [p_removeI m.hc hm]
    rw [oks_ret]
    simp
    have kk : Keep S1 (S1.set c (.lst (intD (last.erase s)))) [c] := Keep.set _ lt.2.2.2 (by simp)
    exact ⟨h1, kk, ⟨kk.get m.hn (by simp; omega), kk.get m.ha (by simp; omega), kk.get m.hb (by simp; omega), Store.get_set_same _ lt.2.2.2, m.ne⟩⟩
  · simp [hm]
    rw [oks_ret]
    simp
    refine ⟨h1, Keep.refl, ?_⟩
    rw [List.erase_of_not_mem hm]
    exact m
def EndsSpec (call : List D → M D) : Prop := ∀ {S : Store} {n a b c sg st : Nat} {kept : List Ed} {first last : List Int}, Mach S n a b c sg st kept first last → last.Nodup →
  Ok (call [.ref n] S) (fun v S' => v = .tup (intD (sortU last)) ∧ Keep S S' []) X0
theorem ends_ok {C : Cfg} : EndsSpec (runFn ⟨1, 1, bEnds⟩ C) := by
  intro S n a b c sg st kept first last m nd
  rw [ok_run]
  refine ⟨rfl, ?_⟩
  show OkS (bEnds C [some (.ref n)] S) _
  unfold bEnds
  rw [oks_ret]
  simp
  rw [p_fld m.hn rfl (d := .ref c) rfl, p_sortI m.hc, asc_sort nd, p_tuple (Store.get_push_same _ _)]
  exact ⟨rfl, Keep.push _⟩
def TwinSpec (call : List D → M D) : Prop := ∀ {S : Store} {n a b c sg st : Nat} {kept : List Ed} {first last : List Int}, Mach S n a b c sg st kept first last → 1 ≤ sg → sg ≤ 3 → 1 ≤ st → st ≤ 6 →
  Ok (call [.ref n] S) (fun v S' => ∃ n' a' b' c', v = .ref n' ∧ Mach S' n' a' b' c' sg st kept first last ∧ (S.size ≤ n' ∧ n' < a' ∧ a' < b' ∧ b' < c') ∧ Keep S S' []) X0
theorem twin_ok {C : Cfg} {ini : Nat} (hi : InitSpec (C.call ini)) : TwinSpec (runFn ⟨1, 2, bTwin ini⟩ C) := by
  intro S n a b c sg st kept first last m g1 g3 t1 t6
  rw [ok_run]
  refine ⟨rfl, ?_⟩
  show OkS (bTwin ini C [some (.ref n), none] S) _
  unfold bTwin
  rw [oks_seq, oks_set]
  simp
  rw [p_fld m.hn rfl (d := .int sg) rfl, p_fld m.hn rfl (d := .int st) rfl]
  have kI : Keep S (S.push (.ins 12 [])) [] := Keep.push _
  have gI : (S.push (.ins 12 [])).get S.size = some (.ins 12 []) := Store.get_push_same _ _
  have zI : (S.push (.ins 12 [])).size = S.size + 1 := Store.size_push _ _
  generalize S.push (.ins 12 []) = S1 at kI gI zI
  refine (hi gI (dk := .int sg) (dn := .int st) rfl rfl rfl rfl).mono (fun v S2 ⟨e, _, _, sg', st', a', b', c', e1, e2, hl, m1, k2⟩ => ?_) (fun k fs S2 ⟨e1, h, e3⟩ => ?_)
  · have e1 : sg = sg' := by cases e1; rfl
    have e2 : st = st' := by cases e2; rfl
    subst e1; subst e2
    refine ⟨e, ?_⟩
    have k0 : Keep S S2 [] := kI.drop k2 (Nat.le_refl _)
    have m2 := m.keep k0 (by simp) (by simp) (by simp) (by simp)
    have lt := m.lt
    have hn1 := m1.hn
    have l1 := Store.get_lt hn1
    have le2 := k2.le
    -- the edges
    rw [oks_seq, oks_fld]
    simp
    rw [p_fld m2.hn rfl (d := .ref a) rfl, p_listR m2.ha]
    have kA : Keep S2 (S2.push (.lst (kept.map eD))) [] := Keep.push _
    have gA : (S2.push (.lst (kept.map eD))).get S2.size = some (.lst (kept.map eD)) := Store.get_push_same _ _
    have zA : (S2.push (.lst (kept.map eD))).size = S2.size + 1 := Store.size_push _ _
    have m3 := m2.keep kA (by simp) (by simp) (by simp) (by simp)
    have hn3 := kA.get hn1 (by simp)
    generalize S2.push (.lst (kept.map eD)) = S3 at kA gA zA m3 hn3 ⊢
    rw [p_putFld hn3 rfl (by simp)]
    have l3 := Store.get_lt hn3
    have kB : Keep S3 (S3.set S.size (.ins 12 (fput 9 (.ref S2.size) [(7, .int sg), (8, .int st), (9, .ref a'), (10, .ref b'), (11, .ref c')]))) [S.size] := Keep.set _ l3 (by simp)
    have hn4 : (S3.set S.size (.ins 12 (fput 9 (.ref S2.size) [(7, .int sg), (8, .int st), (9, .ref a'), (10, .ref b'), (11, .ref c')]))).get S.size = some (.ins 12 [(7, .int sg), (8, .int st), (9, .ref S2.size), (10, .ref b'), (11, .ref c')]) := Store.get_set_same _ l3
    have m4 := m3.keep kB (by simp; omega) (by simp; omega) (by simp; omega) (by simp; omega)
    have gA4 := kB.get gA (by simp; omega)
    have z4 : (S3.set S.size (.ins 12 (fput 9 (.ref S2.size) [(7, .int sg), (8, .int st), (9, .ref a'), (10, .ref b'), (11, .ref c')]))).size = S3.size := Store.size_set _ _ _
    generalize S3.set S.size (.ins 12 (fput 9 (.ref S2.size) [(7, .int sg), (8, .int st), (9, .ref a'), (10, .ref b'), (11, .ref c')])) = S4 at kB hn4 m4 gA4 z4 ⊢
    -- the starts
    rw [oks_seq, oks_fld]
    simp
    rw [p_fld m4.hn rfl (d := .ref b) rfl, p_listR m4.hb]
    have kC : Keep S4 (S4.push (.lst (intD first))) [] := Keep.push _
    have gC : (S4.push (.lst (intD first))).get S4.size = some (.lst (intD first)) := Store.get_push_same _ _
    have zC : (S4.push (.lst (intD first))).size = S4.size + 1 := Store.size_push _ _
    have m5 := m4.keep kC (by simp) (by simp) (by simp) (by simp)
    have hn5 := kC.get hn4 (by simp)
    have gA5 := kC.get gA4 (by simp)
    generalize S4.push (.lst (intD first)) = S5 at kC gC zC m5 hn5 gA5 ⊢
    rw [p_putFld hn5 rfl (by simp)]
    have l5 := Store.get_lt hn5
    have kD : Keep S5 (S5.set S.size (.ins 12 (fput 10 (.ref S4.size) [(7, .int sg), (8, .int st), (9, .ref S2.size), (10, .ref b'), (11, .ref c')]))) [S.size] := Keep.set _ l5 (by simp)
    have hn6 : (S5.set S.size (.ins 12 (fput 10 (.ref S4.size) [(7, .int sg), (8, .int st), (9, .ref S2.size), (10, .ref b'), (11, .ref c')]))).get S.size = some (.ins 12 [(7, .int sg), (8, .int st), (9, .ref S2.size), (10, .ref S4.size), (11, .ref c')]) := Store.get_set_same _ l5
    have m6 := m5.keep kD (by simp; omega) (by simp; omega) (by simp; omega) (by simp; omega)
    have gA6 := kD.get gA5 (by simp; omega)
    have gC6 := kD.get gC (by simp; omega)
    have z6 : (S5.set S.size (.ins 12 (fput 10 (.ref S4.size) [(7, .int sg), (8, .int st), (9, .ref S2.size), (10, .ref b'), (11, .ref c')]))).size = S5.size := Store.size_set _ _ _
    generalize S5.set S.size (.ins 12 (fput 10 (.ref S4.size) [(7, .int sg), (8, .int st), (9, .ref S2.size), (10, .ref b'), (11, .ref c')])) = S6 at kD hn6 m6 gA6 gC6 z6 ⊢
    -- the ends
    rw [oks_seq, oks_fld]
    simp
    rw [p_fld m6.hn rfl (d := .ref c) rfl, p_listR m6.hc]
    have kE : Keep S6 (S6.push (.lst (intD last))) [] := Keep.push _
    have gE : (S6.push (.lst (intD last))).get S6.size = some (.lst (intD last)) := Store.get_push_same _ _
    have hn7 := kE.get hn6 (by simp)
    have gA7 := kE.get gA6 (by simp)
    have gC7 := kE.get gC6 (by simp)
    generalize S6.push (.lst (intD last)) = S7 at kE gE hn7 gA7 gC7 ⊢
    rw [p_putFld hn7 rfl (by simp)]
    have l7 := Store.get_lt hn7
    have l8 := Store.get_lt gE
    have kF : Keep S7 (S7.set S.size (.ins 12 (fput 11 (.ref S6.size) [(7, .int sg), (8, .int st), (9, .ref S2.size), (10, .ref S4.size), (11, .ref c')]))) [S.size] := Keep.set _ l7 (by simp)
    rw [oks_ret]
    simp
    refine ⟨_, _, _, ⟨Store.get_set_same _ l7, kF.get gA7 (by simp; omega), kF.get gC7 (by simp; omega), kF.get gE (by simp; omega), by omega, by omega, by omega⟩, ⟨by omega, by omega, by omega⟩, ?_⟩
    exact ((((((k0.trans kA).drop kB (by omega)).trans kC).drop kD (by omega)).trans kE).drop kF (by omega))
  · exfalso
    rcases h with ⟨h, _⟩ | ⟨_, h, _⟩
    · have : isIntD 1 3 (.int sg) = true := by simp [isIntD]; omega
      rw [this] at h; cases h
    · have : isIntD 1 6 (.int st) = true := by simp [isIntD]; omega
      rw [this] at h; cases h
def PairSpec (call : List D → M D) : Prop := ∀ {S : Store} {n1 a1 b1 c1 s1 t1 n2 a2 b2 c2 s2 t2 : Nat} {k1 k2 : List Ed} {f1 l1 f2 l2 : List Int}, Mach S n1 a1 b1 c1 s1 t1 k1 f1 l1 → Mach S n2 a2 b2 c2 s2 t2 k2 f2 l2 →
  Ok (call [.tup [.ref n1, .ref n2]] S) (fun v S' => v = .non ∧ s1 = s2 ∧ S' = S) (fun k fs S' => k = 3 ∧ s1 ≠ s2 ∧ fs = [] ∧ S' = S)
theorem pair_ok {C : Cfg} : PairSpec (runFn ⟨1, 1, bPair⟩ C) := by
  intro S n1 a1 b1 c1 s1 t1 n2 a2 b2 c2 s2 t2 k1 k2 f1 l1 f2 l2 m1 m2
  rw [ok_run]
  refine ⟨rfl, ?_⟩
  show OkS (bPair C [some (.tup [.ref n1, .ref n2])] S) _
  unfold bPair
  have q0 : atI [D.ref n1, .ref n2] 0 = some (.ref n1) := rfl
  have q1 : atI [D.ref n1, .ref n2] 1 = some (.ref n2) := rfl
  rw [oks_if]
  simp [q0, q1]
  rw [p_fld m1.hn rfl (d := .int s1) rfl]
  rw [p_fld m2.hn rfl (d := .int s2) rfl]
  simp
  by_cases h : s1 = s2
  · have h' : (s1 : Int) = s2 := by omega
    simp [h', h]
    rw [oks_pass]
  · have h' : ¬ (s1 : Int) = s2 := by omega
    simp [h', h]
    rw [oks_raise]
    simp [h]
/-! ### a machine beside its plan -/
structure Ad where
  n : Nat
  a : Nat
  b : Nat
  c : Nat
  j : Nat
  p1 : Nat
  p2 : Nat
  p3 : Nat
def Ad.all (d : Ad) : List Nat := [d.n, d.a, d.b, d.c, d.j, d.p1, d.p2, d.p3]
structure Duo (S : Store) (d : Ad) (sg many : Nat) (starts ends : List Int) (es : List Ed) : Prop where
  m : Mach S d.n d.a d.b d.c sg many es starts ends
  pl : Plan S d.j d.p1 d.p2 d.p3 many starts ends es
  nd : d.all.Nodup
theorem Duo.keep {S S' : Store} {d : Ad} {sg many : Nat} {starts ends : List Int} {es : List Ed} {ex : List Nat} (h : Duo S d sg many starts ends es) (k : Keep S S' ex) (z : ∀ x ∈ d.all, x ∉ ex) : Duo S' d sg many starts ends es :=
  ⟨h.m.keep k (z _ (by simp [Ad.all])) (z _ (by simp [Ad.all])) (z _ (by simp [Ad.all])) (z _ (by simp [Ad.all])), h.pl.keep k (z _ (by simp [Ad.all])) (z _ (by simp [Ad.all])) (z _ (by simp [Ad.all])) (z _ (by simp [Ad.all])), h.nd⟩
theorem Duo.keep0 {S S' : Store} {d : Ad} {sg many : Nat} {starts ends : List Int} {es : List Ed} (h : Duo S d sg many starts ends es) (k : Keep S S' []) : Duo S' d sg many starts ends es := h.keep k fun _ _ z => nomatch z
theorem Duo.lt {S : Store} {d : Ad} {sg many : Nat} {starts ends : List Int} {es : List Ed} (h : Duo S d sg many starts ends es) : ∀ x ∈ d.all, x < S.size := by
  intro x hx
  obtain ⟨l1, l2, l3, l4⟩ := h.m.lt
  have l5 := Store.get_lt h.pl.hj
  have l6 := Store.get_lt h.pl.h1
  have l7 := Store.get_lt h.pl.h2
  have l8 := Store.get_lt h.pl.h3
  simp [Ad.all] at hx
  rcases hx with rfl | rfl | rfl | rfl | rfl | rfl | rfl | rfl <;> assumption
theorem nodup_ix {α : Type} {l : List α} (h : l.Nodup) {i j : Nat} {x y : α} (hx : l[i]? = some x) (hy : l[j]? = some y) (ne : i ≠ j) : x ≠ y := by
  obtain ⟨h1, e1⟩ := List.getElem?_eq_some_iff.mp hx
  obtain ⟨h2, e2⟩ := List.getElem?_eq_some_iff.mp hy
  have key : ∀ {i j : Nat} (hi : i < l.length) (hj : j < l.length), i < j → l[i] ≠ l[j] := fun hi hj hij => List.pairwise_iff_getElem.mp h _ _ hi hj hij
  intro e
  rcases Nat.lt_or_gt_of_ne ne with z | z
  · exact key h1 h2 z (by rw [e1, e2, e])
  · exact key h2 h1 z (by rw [e1, e2, e])
theorem Ad.n_a {d : Ad} (h : d.all.Nodup) : d.n ≠ d.a := nodup_ix h (i := 0) (j := 1) rfl rfl (by decide)
theorem Ad.n_b {d : Ad} (h : d.all.Nodup) : d.n ≠ d.b := nodup_ix h (i := 0) (j := 2) rfl rfl (by decide)
theorem Ad.n_c {d : Ad} (h : d.all.Nodup) : d.n ≠ d.c := nodup_ix h (i := 0) (j := 3) rfl rfl (by decide)
theorem Ad.n_j {d : Ad} (h : d.all.Nodup) : d.n ≠ d.j := nodup_ix h (i := 0) (j := 4) rfl rfl (by decide)
theorem Ad.n_p1 {d : Ad} (h : d.all.Nodup) : d.n ≠ d.p1 := nodup_ix h (i := 0) (j := 5) rfl rfl (by decide)
theorem Ad.n_p2 {d : Ad} (h : d.all.Nodup) : d.n ≠ d.p2 := nodup_ix h (i := 0) (j := 6) rfl rfl (by decide)
theorem Ad.n_p3 {d : Ad} (h : d.all.Nodup) : d.n ≠ d.p3 := nodup_ix h (i := 0) (j := 7) rfl rfl (by decide)
theorem Ad.a_n {d : Ad} (h : d.all.Nodup) : d.a ≠ d.n := nodup_ix h (i := 1) (j := 0) rfl rfl (by decide)
theorem Ad.a_b {d : Ad} (h : d.all.Nodup) : d.a ≠ d.b := nodup_ix h (i := 1) (j := 2) rfl rfl (by decide)
theorem Ad.a_c {d : Ad} (h : d.all.Nodup) : d.a ≠ d.c := nodup_ix h (i := 1) (j := 3) rfl rfl (by decide)
theorem Ad.a_j {d : Ad} (h : d.all.Nodup) : d.a ≠ d.j := nodup_ix h (i := 1) (j := 4) rfl rfl (by decide)
theorem Ad.a_p1 {d : Ad} (h : d.all.Nodup) : d.a ≠ d.p1 := nodup_ix h (i := 1) (j := 5) rfl rfl (by decide)
theorem Ad.a_p2 {d : Ad} (h : d.all.Nodup) : d.a ≠ d.p2 := nodup_ix h (i := 1) (j := 6) rfl rfl (by decide)
theorem Ad.a_p3 {d : Ad} (h : d.all.Nodup) : d.a ≠ d.p3 := nodup_ix h (i := 1) (j := 7) rfl rfl (by decide)
theorem Ad.b_n {d : Ad} (h : d.all.Nodup) : d.b ≠ d.n := nodup_ix h (i := 2) (j := 0) rfl rfl (by decide)
theorem Ad.b_a {d : Ad} (h : d.all.Nodup) : d.b ≠ d.a := nodup_ix h (i := 2) (j := 1) rfl rfl (by decide)
theorem Ad.b_c {d : Ad} (h : d.all.Nodup) : d.b ≠ d.c := nodup_ix h (i := 2) (j := 3) rfl rfl (by decide)
theorem Ad.b_j {d : Ad} (h : d.all.Nodup) : d.b ≠ d.j := nodup_ix h (i := 2) (j := 4) rfl rfl (by decide)
theorem Ad.b_p1 {d : Ad} (h : d.all.Nodup) : d.b ≠ d.p1 := nodup_ix h (i := 2) (j := 5) rfl rfl (by decide)
theorem Ad.b_p2 {d : Ad} (h : d.all.Nodup) : d.b ≠ d.p2 := nodup_ix h (i := 2) (j := 6) rfl rfl (by decide)
theorem Ad.b_p3 {d : Ad} (h : d.all.Nodup) : d.b ≠ d.p3 := nodup_ix h (i := 2) (j := 7) rfl rfl (by decide)
theorem Ad.c_n {d : Ad} (h : d.all.Nodup) : d.c ≠ d.n := nodup_ix h (i := 3) (j := 0) rfl rfl (by decide)
theorem Ad.c_a {d : Ad} (h : d.all.Nodup) : d.c ≠ d.a := nodup_ix h (i := 3) (j := 1) rfl rfl (by decide)
theorem Ad.c_b {d : Ad} (h : d.all.Nodup) : d.c ≠ d.b := nodup_ix h (i := 3) (j := 2) rfl rfl (by decide)
theorem Ad.c_j {d : Ad} (h : d.all.Nodup) : d.c ≠ d.j := nodup_ix h (i := 3) (j := 4) rfl rfl (by decide)
theorem Ad.c_p1 {d : Ad} (h : d.all.Nodup) : d.c ≠ d.p1 := nodup_ix h (i := 3) (j := 5) rfl rfl (by decide)
theorem Ad.c_p2 {d : Ad} (h : d.all.Nodup) : d.c ≠ d.p2 := nodup_ix h (i := 3) (j := 6) rfl rfl (by decide)
theorem Ad.c_p3 {d : Ad} (h : d.all.Nodup) : d.c ≠ d.p3 := nodup_ix h (i := 3) (j := 7) rfl rfl (by decide)
theorem Ad.j_n {d : Ad} (h : d.all.Nodup) : d.j ≠ d.n := nodup_ix h (i := 4) (j := 0) rfl rfl (by decide)
theorem Ad.j_a {d : Ad} (h : d.all.Nodup) : d.j ≠ d.a := nodup_ix h (i := 4) (j := 1) rfl rfl (by decide)
theorem Ad.j_b {d : Ad} (h : d.all.Nodup) : d.j ≠ d.b := nodup_ix h (i := 4) (j := 2) rfl rfl (by decide)
theorem Ad.j_c {d : Ad} (h : d.all.Nodup) : d.j ≠ d.c := nodup_ix h (i := 4) (j := 3) rfl rfl (by decide)
theorem Ad.j_p1 {d : Ad} (h : d.all.Nodup) : d.j ≠ d.p1 := nodup_ix h (i := 4) (j := 5) rfl rfl (by decide)
theorem Ad.j_p2 {d : Ad} (h : d.all.Nodup) : d.j ≠ d.p2 := nodup_ix h (i := 4) (j := 6) rfl rfl (by decide)
theorem Ad.j_p3 {d : Ad} (h : d.all.Nodup) : d.j ≠ d.p3 := nodup_ix h (i := 4) (j := 7) rfl rfl (by decide)
theorem Ad.p1_n {d : Ad} (h : d.all.Nodup) : d.p1 ≠ d.n := nodup_ix h (i := 5) (j := 0) rfl rfl (by decide)
theorem Ad.p1_a {d : Ad} (h : d.all.Nodup) : d.p1 ≠ d.a := nodup_ix h (i := 5) (j := 1) rfl rfl (by decide)
theorem Ad.p1_b {d : Ad} (h : d.all.Nodup) : d.p1 ≠ d.b := nodup_ix h (i := 5) (j := 2) rfl rfl (by decide)
theorem Ad.p1_c {d : Ad} (h : d.all.Nodup) : d.p1 ≠ d.c := nodup_ix h (i := 5) (j := 3) rfl rfl (by decide)
theorem Ad.p1_j {d : Ad} (h : d.all.Nodup) : d.p1 ≠ d.j := nodup_ix h (i := 5) (j := 4) rfl rfl (by decide)
theorem Ad.p1_p2 {d : Ad} (h : d.all.Nodup) : d.p1 ≠ d.p2 := nodup_ix h (i := 5) (j := 6) rfl rfl (by decide)
theorem Ad.p1_p3 {d : Ad} (h : d.all.Nodup) : d.p1 ≠ d.p3 := nodup_ix h (i := 5) (j := 7) rfl rfl (by decide)
theorem Ad.p2_n {d : Ad} (h : d.all.Nodup) : d.p2 ≠ d.n := nodup_ix h (i := 6) (j := 0) rfl rfl (by decide)
theorem Ad.p2_a {d : Ad} (h : d.all.Nodup) : d.p2 ≠ d.a := nodup_ix h (i := 6) (j := 1) rfl rfl (by decide)
theorem Ad.p2_b {d : Ad} (h : d.all.Nodup) : d.p2 ≠ d.b := nodup_ix h (i := 6) (j := 2) rfl rfl (by decide)
theorem Ad.p2_c {d : Ad} (h : d.all.Nodup) : d.p2 ≠ d.c := nodup_ix h (i := 6) (j := 3) rfl rfl (by decide)
theorem Ad.p2_j {d : Ad} (h : d.all.Nodup) : d.p2 ≠ d.j := nodup_ix h (i := 6) (j := 4) rfl rfl (by decide)
theorem Ad.p2_p1 {d : Ad} (h : d.all.Nodup) : d.p2 ≠ d.p1 := nodup_ix h (i := 6) (j := 5) rfl rfl (by decide)
theorem Ad.p2_p3 {d : Ad} (h : d.all.Nodup) : d.p2 ≠ d.p3 := nodup_ix h (i := 6) (j := 7) rfl rfl (by decide)
theorem Ad.p3_n {d : Ad} (h : d.all.Nodup) : d.p3 ≠ d.n := nodup_ix h (i := 7) (j := 0) rfl rfl (by decide)
theorem Ad.p3_a {d : Ad} (h : d.all.Nodup) : d.p3 ≠ d.a := nodup_ix h (i := 7) (j := 1) rfl rfl (by decide)
theorem Ad.p3_b {d : Ad} (h : d.all.Nodup) : d.p3 ≠ d.b := nodup_ix h (i := 7) (j := 2) rfl rfl (by decide)
theorem Ad.p3_c {d : Ad} (h : d.all.Nodup) : d.p3 ≠ d.c := nodup_ix h (i := 7) (j := 3) rfl rfl (by decide)
theorem Ad.p3_j {d : Ad} (h : d.all.Nodup) : d.p3 ≠ d.j := nodup_ix h (i := 7) (j := 4) rfl rfl (by decide)
theorem Ad.p3_p1 {d : Ad} (h : d.all.Nodup) : d.p3 ≠ d.p1 := nodup_ix h (i := 7) (j := 5) rfl rfl (by decide)
theorem Ad.p3_p2 {d : Ad} (h : d.all.Nodup) : d.p3 ≠ d.p2 := nodup_ix h (i := 7) (j := 6) rfl rfl (by decide)
/-- the plan's list of edges changes -/
theorem Duo.set3 {S : Store} {d : Ad} {sg many : Nat} {starts ends : List Int} {es es' : List Ed} (h : Duo S d sg many starts ends es) :
    Mach (S.set d.p3 (.lst (es'.map eD))) d.n d.a d.b d.c sg many es starts ends ∧ Plan (S.set d.p3 (.lst (es'.map eD))) d.j d.p1 d.p2 d.p3 many starts ends es' ∧ Keep S (S.set d.p3 (.lst (es'.map eD))) [d.p3] := by
  have l := Store.get_lt h.pl.h3
  have k : Keep S (S.set d.p3 (.lst (es'.map eD))) [d.p3] := Keep.set _ l (by simp)
  exact ⟨h.m.keep k (by simp [Ad.n_p3 h.nd]) (by simp [Ad.a_p3 h.nd]) (by simp [Ad.b_p3 h.nd]) (by simp [Ad.c_p3 h.nd]),
    ⟨k.get h.pl.hj (by simp [Ad.j_p3 h.nd]), k.get h.pl.h1 (by simp [Ad.p1_p3 h.nd]), k.get h.pl.h2 (by simp [Ad.p2_p3 h.nd]), Store.get_set_same _ l⟩, k⟩
theorem Duo.set2 {S : Store} {d : Ad} {sg many : Nat} {starts ends ends' : List Int} {es : List Ed} (h : Plan S d.j d.p1 d.p2 d.p3 many starts ends es) (nd : d.all.Nodup) {ms me : List Int} {mk : List Ed} (m : Mach S d.n d.a d.b d.c sg many mk ms me) :
    Mach (S.set d.p2 (.lst (intD ends'))) d.n d.a d.b d.c sg many mk ms me ∧ Plan (S.set d.p2 (.lst (intD ends'))) d.j d.p1 d.p2 d.p3 many starts ends' es ∧ Keep S (S.set d.p2 (.lst (intD ends'))) [d.p2] := by
  have l := Store.get_lt h.h2
  have k : Keep S (S.set d.p2 (.lst (intD ends'))) [d.p2] := Keep.set _ l (by simp)
  exact ⟨m.keep k (by simp [Ad.n_p2 nd]) (by simp [Ad.a_p2 nd]) (by simp [Ad.b_p2 nd]) (by simp [Ad.c_p2 nd]),
    ⟨k.get h.hj (by simp [Ad.j_p2 nd]), k.get h.h1 (by simp [Ad.p1_p2 nd]), Store.get_set_same _ l, k.get h.h3 (by simp [Ad.p3_p2 nd])⟩, k⟩
theorem Duo.set1 {S : Store} {d : Ad} {sg many : Nat} {starts starts' ends : List Int} {es : List Ed} (h : Plan S d.j d.p1 d.p2 d.p3 many starts ends es) (nd : d.all.Nodup) {ms me : List Int} {mk : List Ed} (m : Mach S d.n d.a d.b d.c sg many mk ms me) :
    Mach (S.set d.p1 (.lst (intD starts'))) d.n d.a d.b d.c sg many mk ms me ∧ Plan (S.set d.p1 (.lst (intD starts'))) d.j d.p1 d.p2 d.p3 many starts' ends es ∧ Keep S (S.set d.p1 (.lst (intD starts'))) [d.p1] := by
  have l := Store.get_lt h.h1
  have k : Keep S (S.set d.p1 (.lst (intD starts'))) [d.p1] := Keep.set _ l (by simp)
  exact ⟨m.keep k (by simp [Ad.n_p1 nd]) (by simp [Ad.a_p1 nd]) (by simp [Ad.b_p1 nd]) (by simp [Ad.c_p1 nd]),
    ⟨k.get h.hj (by simp [Ad.j_p1 nd]), Store.get_set_same _ l, k.get h.h2 (by simp [Ad.p2_p1 nd]), k.get h.h3 (by simp [Ad.p3_p1 nd])⟩, k⟩
theorem Plan.outA {S S' : Store} {d : Ad} {many : Nat} {starts ends : List Int} {es : List Ed} (h : Plan S d.j d.p1 d.p2 d.p3 many starts ends es) (nd : d.all.Nodup) (k : Keep S S' [d.a]) : Plan S' d.j d.p1 d.p2 d.p3 many starts ends es :=
  h.keep k (by simp [Ad.j_a nd]) (by simp [Ad.p1_a nd]) (by simp [Ad.p2_a nd]) (by simp [Ad.p3_a nd])
theorem Plan.outB {S S' : Store} {d : Ad} {many : Nat} {starts ends : List Int} {es : List Ed} (h : Plan S d.j d.p1 d.p2 d.p3 many starts ends es) (nd : d.all.Nodup) (k : Keep S S' [d.b]) : Plan S' d.j d.p1 d.p2 d.p3 many starts ends es :=
  h.keep k (by simp [Ad.j_b nd]) (by simp [Ad.p1_b nd]) (by simp [Ad.p2_b nd]) (by simp [Ad.p3_b nd])
theorem Plan.outC {S S' : Store} {d : Ad} {many : Nat} {starts ends : List Int} {es : List Ed} (h : Plan S d.j d.p1 d.p2 d.p3 many starts ends es) (nd : d.all.Nodup) (k : Keep S S' [d.c]) : Plan S' d.j d.p1 d.p2 d.p3 many starts ends es :=
  h.keep k (by simp [Ad.j_c nd]) (by simp [Ad.p1_c nd]) (by simp [Ad.p2_c nd]) (by simp [Ad.p3_c nd])
theorem Pen.out {S S' : Store} {k q x : Nat} {d : Ad} (P : Pen S k q) (kp : Keep S S' [x]) (hx : x ∈ d.all) (hk : k ∉ d.all) (hq : q ∉ d.all) : Pen S' k q :=
  P.keep kp (by rw [List.mem_singleton]; exact fun e => hk (e ▸ hx)) (by rw [List.mem_singleton]; exact fun e => hq (e ▸ hx))
theorem Keep.to {S S' : Store} {k x : Nat} {d : Ad} (kp : Keep S S' [x]) (hx : x ∈ d.all) : Keep S S' (k :: d.all) := kp.weak fun y hy => by
  rw [List.mem_singleton] at hy
  rw [hy]
  exact List.mem_cons_of_mem _ hx
theorem Ad.mem {d : Ad} : d.a ∈ d.all ∧ d.b ∈ d.all ∧ d.c ∈ d.all ∧ d.p1 ∈ d.all ∧ d.p2 ∈ d.all ∧ d.p3 ∈ d.all := by simp [Ad.all]
/-- behind an edit -/
def EdP (S : Store) (k q : Nat) (d : Ad) (sg many L : Nat) (S' : Store) : Prop := ∃ starts ends es, Duo S' d sg many starts ends es ∧ FineQ sg many starts ends es ∧ es.length ≤ L ∧ Keep S S' (k :: d.all) ∧ Pen S' k q
section
variable {k q : Nat} {d : Ad} {sg many : Nat} {starts ends : List Int} {es : List Ed} {o st : Int} {x6 x7 : Option D}
/-- an edge is taken away -/
theorem ed_rem {dr rm : Nat} (hd : DrawSpec (C.call dr)) (hr : RemSpec (C.call rm)) (P : Pen S k q) (du : Duo S d sg many starts ends es) (f : FineQ sg many starts ends es) (hk : k ∉ d.all) (hq : q ∉ d.all) (hl : es.length ≤ 14) (hne : es ≠ [])
    (hT : ∀ S' x6' es', Duo S' d sg many starts ends es' → FineQ sg many starts ends es' → es'.length ≤ es.length → Keep S S' (k :: d.all) → Pen S' k q → T.nx [some (.ref k), some (.ref d.n), some (.ref d.j), some (.int sg), some (.int o), some (.int st), x6', x7] S') :
    OkS (sSeq (sSet (.nm 6) (eBM tyLst mPopAt (e2 opItem (eVar 2) (eC (.int 3))) (aCons (eCall dr (aCons (eVar 0) (aCons (eB bLen (aCons (e2 opItem (eVar 2) (eC (.int 3))) (aNil))) (aNil))) []) (aNil)))) (sExpr (eMeth [(12, rm)] (eVar 1) (aCons (e2 opItem (eVar 6) (eC (.int 0))) (aCons (e2 opItem (eVar 6) (eC (.int 1))) (aCons (e2 opItem (eVar 6) (eC (.int 2))) (aNil)))) []))
      C [some (.ref k), some (.ref d.n), some (.ref d.j), some (.int sg), some (.int o), some (.int st), x6, x7] S) T := by
  obtain ⟨ma, mb, mc, mp1, mp2, mp3⟩ := Ad.mem (d := d)
  have q3 : atI [D.int many, .ref d.p1, .ref d.p2, .ref d.p3] 3 = some (.ref d.p3) := rfl
  have pos : 0 < es.length := List.length_pos_iff.mpr hne
  rw [oks_seq, oks_set]
  simp
  rw [p_item du.pl.hj]
  refine ⟨_, q3, ?_⟩
  refine ⟨by simp [tyLst, du.pl.h3], ?_⟩
  rw [p_item du.pl.hj]
  refine ⟨_, q3, ?_⟩
  rw [p_len du.pl.h3, List.length_map]
  refine (hd P (by omega) (by omega)).imp fun v S1 ⟨i, e, hi, k1, P1⟩ => ?_
  subst e
  have d1 := du.keep k1 (fun x hx z => by rw [List.mem_singleton] at z; exact hk (z ▸ hx))
  rw [p_popAt d1.pl.h3 hi.1 (by rw [List.length_map]; omega) (by rw [List.length_map]; omega)]
  have hlt : i.toNat < es.length := by omega
  have hget : es[i.toNat]? = some es[i.toNat] := List.getElem?_eq_getElem hlt
  refine ⟨eD es[i.toNat], by rw [List.getElem?_map, hget]; rfl, ?_⟩
  generalize hE : es[i.toNat] = ed at hget
  obtain ⟨eo, el, et⟩ := ed
  rw [map_erase]
  obtain ⟨m2, pl2, kB⟩ := d1.set3 (es' := es.eraseIdx i.toNat)
  have P2 := P1.out kB mp3 hk hq
  generalize S1.set d.p3 (.lst ((es.eraseIdx i.toNat).map eD)) = S2 at kB m2 P2 pl2 ⊢
  have e0 : atI [D.int eo, .str el, .int et] 0 = some (.int eo) := rfl
  have e1 : atI [D.int eo, .str el, .int et] 1 = some (.str el) := rfl
  have e2 : atI [D.int eo, .str el, .int et] 2 = some (.int et) := rfl
  simp [eD]
  rw [oks_expr]
  simp [meth_at m2.hn, e0, e1, e2]
  have hm := List.mem_of_getElem? hget
  refine (hr (e := (eo, el, et)) m2).mono (fun v S3 ⟨_, _, k3, m3⟩ => ?_) (fun k fs S3 ⟨h, _⟩ => absurd hm h)
  rw [erase_ix f.nd hget] at m3
  have nd' : (es.eraseIdx i.toNat).Nodup := f.nd.sublist (List.eraseIdx_sublist _ _)
  have sub : ∀ e ∈ es.eraseIdx i.toNat, e ∈ es := fun e he => (List.eraseIdx_sublist es i.toNat).subset he
  refine hT S3 _ (es.eraseIdx i.toNat) ⟨m3, pl2.outA du.nd k3, du.nd⟩ ⟨f.lo, f.hi, f.s1, f.r1, f.s2, f.r2, nd', fun e he => f.ok e (sub e he)⟩ ?_ (((k1.weak (by simp)).trans (kB.to mp3)).trans (k3.to ma)) (P2.out k3 ma hk hq)
  exact (List.eraseIdx_sublist es i.toNat).length_le
theorem FineQ.addS {s : Int} (f : FineQ sg many starts ends es) (h : inR many s) (hn : s ∉ starts) : FineQ sg many (starts ++ [s]) ends es :=
  ⟨f.lo, f.hi, by
    rw [List.nodup_append]
    exact ⟨f.s1, by simp, fun a ha b hb => by
      rw [List.mem_singleton] at hb
      subst hb
      exact fun e => hn (e ▸ ha)⟩, fun x hx => by
    rcases List.mem_append.mp hx with hx | hx
    · exact f.r1 x hx
    · rw [List.mem_singleton.mp hx]; exact h, f.s2, f.r2, f.nd, f.ok⟩
theorem FineQ.addE {s : Int} (f : FineQ sg many starts ends es) (h : inR many s) (hn : s ∉ ends) : FineQ sg many starts (ends ++ [s]) es :=
  ⟨f.lo, f.hi, f.s1, f.r1, by
    rw [List.nodup_append]
    exact ⟨f.s2, by simp, fun a ha b hb => by
      rw [List.mem_singleton] at hb
      subst hb
      exact fun e => hn (e ▸ ha)⟩, fun x hx => by
    rcases List.mem_append.mp hx with hx | hx
    · exact f.r2 x hx
    · rw [List.mem_singleton.mp hx]; exact h, f.nd, f.ok⟩
theorem FineQ.remS {s : Int} (f : FineQ sg many starts ends es) : FineQ sg many (starts.erase s) ends es :=
  ⟨f.lo, f.hi, f.s1.sublist (List.erase_sublist ..), fun x hx => f.r1 x (List.mem_of_mem_erase hx), f.s2, f.r2, f.nd, f.ok⟩
theorem FineQ.remE {s : Int} (f : FineQ sg many starts ends es) : FineQ sg many starts (ends.erase s) es :=
  ⟨f.lo, f.hi, f.s1, f.r1, f.s2.sublist (List.erase_sublist ..), fun x hx => f.r2 x (List.mem_of_mem_erase hx), f.nd, f.ok⟩
theorem ed_adds {fx : Nat} {c : Int} {R : MS} (ha : AddStartSpec (C.call fx)) (P : Pen S k q) (du : Duo S d sg many starts ends es) (f : FineQ sg many starts ends es) (hk : k ∉ d.all) (hq : q ∉ d.all) (hst : inR many st)
    (hT : ∀ S' starts', Duo S' d sg many starts' ends es → FineQ sg many starts' ends es → Keep S S' (k :: d.all) → Pen S' k q → T.nx [some (.ref k), some (.ref d.n), some (.ref d.j), some (.int sg), some (.int o), some (.int st), x6, x7] S')
    (hR : ∀ S', Duo S' d sg many starts ends es → Keep S S' (k :: d.all) → Pen S' k q → OkS (R C [some (.ref k), some (.ref d.n), some (.ref d.j), some (.int sg), some (.int o), some (.int st), x6, x7] S') T) :
    OkS (sIf (MP.tAnd (MP.tB (e2 opEq (eVar 4) (eC (.int c)))) (tV (eMeth [(12, fx)] (eVar 1) (aCons (eVar 5) (aNil)) []))) (sExpr (eBM tyLst mAppend (e2 opItem (eVar 2) (eC (.int 1))) (aCons (eVar 5) (aNil)))) R
      C [some (.ref k), some (.ref d.n), some (.ref d.j), some (.int sg), some (.int o), some (.int st), x6, x7] S) T := by
  obtain ⟨ma, mb, mc, mp1, mp2, mp3⟩ := Ad.mem (d := d)
  have q3 : atI [D.int many, .ref d.p1, .ref d.p2, .ref d.p3] 1 = some (.ref d.p1) := rfl
  rw [oks_if]
  simp
  by_cases h0 : o = c
  · simp [h0, meth_at du.m.hn]
    subst h0
    refine (ha du.m (by have := inR_len f.s1 f.r1; have := f.hi; omega) ).mono (fun v S1 ⟨_, e, k1, m1⟩ => ?_) (fun k fs S1 ⟨h, _⟩ => absurd hst h)
    subst e
    have pl1 := du.pl.outB du.nd k1
    have P1 := P.out k1 mb hk hq
    by_cases hm : st ∈ starts
    · rw [if_pos hm] at m1
      simp [hm, truth]
      exact hR S1 ⟨m1, pl1, du.nd⟩ (k1.to mb) P1
    · rw [if_neg hm] at m1
      simp [hm, truth]
      rw [oks_expr]
      simp
      rw [p_item pl1.hj]
      refine ⟨_, q3, ?_⟩
      refine ⟨by simp [tyLst, pl1.h1], ?_⟩
      have hz : (intD starts).length < line := by unfold intD line; rw [List.length_map]; have := inR_len f.s1 f.r1; have := f.hi; omega
      rw [p_append pl1.h1]
      refine ⟨hz, ?_⟩
      have e : intD starts ++ [.int st] = intD (starts ++ [st]) := by unfold intD; rw [List.map_append]; rfl
      rw [e]
      obtain ⟨m2, pl2, k2⟩ := Duo.set1 (starts' := starts ++ [st]) pl1 du.nd m1
      exact hT _ _ ⟨m2, pl2, du.nd⟩ (f.addS hst hm) ((k1.to mb).trans (k2.to mp1)) (P1.out k2 mp1 hk hq)
  · simp [h0]
    exact hR S du Keep.refl P
theorem ed_adde {fx : Nat} {c : Int} {R : MS} (ha : AddEndSpec (C.call fx)) (P : Pen S k q) (du : Duo S d sg many starts ends es) (f : FineQ sg many starts ends es) (hk : k ∉ d.all) (hq : q ∉ d.all) (hst : inR many st)
    (hT : ∀ S' ends', Duo S' d sg many starts ends' es → FineQ sg many starts ends' es → Keep S S' (k :: d.all) → Pen S' k q → T.nx [some (.ref k), some (.ref d.n), some (.ref d.j), some (.int sg), some (.int o), some (.int st), x6, x7] S')
    (hR : ∀ S', Duo S' d sg many starts ends es → Keep S S' (k :: d.all) → Pen S' k q → OkS (R C [some (.ref k), some (.ref d.n), some (.ref d.j), some (.int sg), some (.int o), some (.int st), x6, x7] S') T) :
    OkS (sIf (MP.tAnd (MP.tB (e2 opEq (eVar 4) (eC (.int c)))) (tV (eMeth [(12, fx)] (eVar 1) (aCons (eVar 5) (aNil)) []))) (sExpr (eBM tyLst mAppend (e2 opItem (eVar 2) (eC (.int 2))) (aCons (eVar 5) (aNil)))) R
      C [some (.ref k), some (.ref d.n), some (.ref d.j), some (.int sg), some (.int o), some (.int st), x6, x7] S) T := by
  obtain ⟨ma, mb, mc, mp1, mp2, mp3⟩ := Ad.mem (d := d)
  have q3 : atI [D.int many, .ref d.p1, .ref d.p2, .ref d.p3] 2 = some (.ref d.p2) := rfl
  rw [oks_if]
  simp
  by_cases h0 : o = c
  · simp [h0, meth_at du.m.hn]
    subst h0
    refine (ha du.m (by have := inR_len f.s2 f.r2; have := f.hi; omega) ).mono (fun v S1 ⟨_, e, k1, m1⟩ => ?_) (fun k fs S1 ⟨h, _⟩ => absurd hst h)
    subst e
    have pl1 := du.pl.outC du.nd k1
    have P1 := P.out k1 mc hk hq
    by_cases hm : st ∈ ends
    · rw [if_pos hm] at m1
      simp [hm, truth]
      exact hR S1 ⟨m1, pl1, du.nd⟩ (k1.to mc) P1
    · rw [if_neg hm] at m1
      simp [hm, truth]
      rw [oks_expr]
      simp
      rw [p_item pl1.hj]
      refine ⟨_, q3, ?_⟩
      refine ⟨by simp [tyLst, pl1.h2], ?_⟩
      have hz : (intD ends).length < line := by unfold intD line; rw [List.length_map]; have := inR_len f.s2 f.r2; have := f.hi; omega
      rw [p_append pl1.h2]
      refine ⟨hz, ?_⟩
      have e : intD ends ++ [.int st] = intD (ends ++ [st]) := by unfold intD; rw [List.map_append]; rfl
      rw [e]
      obtain ⟨m2, pl2, k2⟩ := Duo.set2 (ends' := ends ++ [st]) pl1 du.nd m1
      exact hT _ _ ⟨m2, pl2, du.nd⟩ (f.addE hst hm) ((k1.to mc).trans (k2.to mp2)) (P1.out k2 mp2 hk hq)
  · simp [h0]
    exact hR S du Keep.refl P
theorem ed_rems {fx : Nat} {c : Int} {R : MS} (ha : RemStartSpec (C.call fx)) (P : Pen S k q) (du : Duo S d sg many starts ends es) (f : FineQ sg many starts ends es) (hk : k ∉ d.all) (hq : q ∉ d.all) (hst : inR many st)
    (hT : ∀ S' starts', Duo S' d sg many starts' ends es → FineQ sg many starts' ends es → Keep S S' (k :: d.all) → Pen S' k q → T.nx [some (.ref k), some (.ref d.n), some (.ref d.j), some (.int sg), some (.int o), some (.int st), x6, x7] S')
    (hR : ∀ S', Duo S' d sg many starts ends es → Keep S S' (k :: d.all) → Pen S' k q → OkS (R C [some (.ref k), some (.ref d.n), some (.ref d.j), some (.int sg), some (.int o), some (.int st), x6, x7] S') T) :
    OkS (sIf (MP.tAnd (MP.tB (e2 opEq (eVar 4) (eC (.int c)))) (tV (eMeth [(12, fx)] (eVar 1) (aCons (eVar 5) (aNil)) []))) (sExpr (eBM tyLst mRemove (e2 opItem (eVar 2) (eC (.int 1))) (aCons (eVar 5) (aNil)))) R
      C [some (.ref k), some (.ref d.n), some (.ref d.j), some (.int sg), some (.int o), some (.int st), x6, x7] S) T := by
  obtain ⟨ma, mb, mc, mp1, mp2, mp3⟩ := Ad.mem (d := d)
  have q3 : atI [D.int many, .ref d.p1, .ref d.p2, .ref d.p3] 1 = some (.ref d.p1) := rfl
  rw [oks_if]
  simp
  by_cases h0 : o = c
  · simp [h0, meth_at du.m.hn]
    subst h0
    refine (ha du.m ).mono (fun v S1 ⟨_, e, k1, m1⟩ => ?_) (fun k fs S1 ⟨h, _⟩ => absurd hst h)
    subst e
    have pl1 := du.pl.outB du.nd k1
    have P1 := P.out k1 mb hk hq
    by_cases hm : st ∈ starts
    · simp [hm, truth]
      rw [oks_expr]
      simp
      rw [p_item pl1.hj]
      refine ⟨_, q3, ?_⟩
      refine ⟨by simp [tyLst, pl1.h1], ?_⟩
      rw [p_removeI pl1.h1 hm]
      obtain ⟨m2, pl2, k2⟩ := Duo.set1 (starts' := starts.erase st) pl1 du.nd m1
      exact hT _ _ ⟨m2, pl2, du.nd⟩ f.remS ((k1.to mb).trans (k2.to mp1)) (P1.out k2 mp1 hk hq)
    · rw [List.erase_of_not_mem hm] at m1
      simp [hm, truth]
      exact hR S1 ⟨m1, pl1, du.nd⟩ (k1.to mb) P1
  · simp [h0]
    exact hR S du Keep.refl P
theorem ed_reme {fx : Nat} {c : Int} {R : MS} (ha : RemEndSpec (C.call fx)) (P : Pen S k q) (du : Duo S d sg many starts ends es) (f : FineQ sg many starts ends es) (hk : k ∉ d.all) (hq : q ∉ d.all) (hst : inR many st)
    (hT : ∀ S' ends', Duo S' d sg many starts ends' es → FineQ sg many starts ends' es → Keep S S' (k :: d.all) → Pen S' k q → T.nx [some (.ref k), some (.ref d.n), some (.ref d.j), some (.int sg), some (.int o), some (.int st), x6, x7] S')
    (hR : ∀ S', Duo S' d sg many starts ends es → Keep S S' (k :: d.all) → Pen S' k q → OkS (R C [some (.ref k), some (.ref d.n), some (.ref d.j), some (.int sg), some (.int o), some (.int st), x6, x7] S') T) :
    OkS (sIf (MP.tAnd (MP.tB (e2 opEq (eVar 4) (eC (.int c)))) (tV (eMeth [(12, fx)] (eVar 1) (aCons (eVar 5) (aNil)) []))) (sExpr (eBM tyLst mRemove (e2 opItem (eVar 2) (eC (.int 2))) (aCons (eVar 5) (aNil)))) R
      C [some (.ref k), some (.ref d.n), some (.ref d.j), some (.int sg), some (.int o), some (.int st), x6, x7] S) T := by
  obtain ⟨ma, mb, mc, mp1, mp2, mp3⟩ := Ad.mem (d := d)
  have q3 : atI [D.int many, .ref d.p1, .ref d.p2, .ref d.p3] 2 = some (.ref d.p2) := rfl
  rw [oks_if]
  simp
  by_cases h0 : o = c
  · simp [h0, meth_at du.m.hn]
    subst h0
    refine (ha du.m ).mono (fun v S1 ⟨_, e, k1, m1⟩ => ?_) (fun k fs S1 ⟨h, _⟩ => absurd hst h)
    subst e
    have pl1 := du.pl.outC du.nd k1
    have P1 := P.out k1 mc hk hq
    by_cases hm : st ∈ ends
    · simp [hm, truth]
      rw [oks_expr]
      simp
      rw [p_item pl1.hj]
      refine ⟨_, q3, ?_⟩
      refine ⟨by simp [tyLst, pl1.h2], ?_⟩
      rw [p_removeI pl1.h2 hm]
      obtain ⟨m2, pl2, k2⟩ := Duo.set2 (ends' := ends.erase st) pl1 du.nd m1
      exact hT _ _ ⟨m2, pl2, du.nd⟩ f.remE ((k1.to mc).trans (k2.to mp2)) (P1.out k2 mp2 hk hq)
    · rw [List.erase_of_not_mem hm] at m1
      simp [hm, truth]
      exact hR S1 ⟨m1, pl1, du.nd⟩ (k1.to mc) P1
  · simp [h0]
    exact hR S du Keep.refl P
/-- a drawn edge -/
theorem ed_edge {dr : Nat} (hd : DrawSpec (C.call dr)) (P : Pen S k q) (du : Duo S d sg many starts ends es) (f : FineQ sg many starts ends es) (hk : k ∉ d.all) (hst : inR many st) (g1 : 1 ≤ sg) (g3 : sg ≤ 3)
    (hT : ∀ S' e, inR many e.1 → inR many e.2.2 → (∃ c, e.2.1 = [c] ∧ c ∈ abcN sg) → Keep S S' [k] → Pen S' k q → T.nx [some (.ref k), some (.ref d.n), some (.ref d.j), some (.int sg), some (.int o), some (.int st), x6, some (eD e)] S') :
    OkS (sSet (.nm 7) (eTup (aCons (eVar 5) (aCons (e2 opItem (eC (.str [97, 98, 99])) (eCall dr (aCons (eVar 0) (aCons (eVar 3) (aNil))) [])) (aCons (eCall dr (aCons (eVar 0) (aCons (e2 opItem (eVar 2) (eC (.int 0))) (aNil))) []) (aNil)))))
      C [some (.ref k), some (.ref d.n), some (.ref d.j), some (.int sg), some (.int o), some (.int st), x6, x7] S) T := by
  have q0 : atI [D.int many, .ref d.p1, .ref d.p2, .ref d.p3] 0 = some (.int many) := rfl
  have lo := f.lo
  have hi := f.hi
  rw [oks_set]
  simp
  refine (hd P (by omega) (by omega)).imp fun v S1 ⟨z, e, hz, k1, P1⟩ => ?_
  subst e
  obtain ⟨c, hc, hcm⟩ : ∃ c, atI [97, 98, 99] z = some c ∧ c ∈ abcN sg := by
    have hlt : z.toNat < ([97, 98, 99] : List Nat).length := by simp; omega
    refine ⟨([97, 98, 99] : List Nat)[z.toNat], ?_, ?_⟩
    · unfold atI
      rw [ixN_at hz.1 (by simp; omega)]
      exact List.getElem?_eq_getElem hlt
    · unfold abcN
      rw [List.mem_take_iff_getElem]
      exact ⟨z.toNat, by simp; omega, rfl⟩
  rw [p_itemS]
  refine ⟨c, ⟨by decide, hc⟩, ?_⟩
  have d1 := du.keep k1 (fun x hx z => by rw [List.mem_singleton] at z; exact hk (z ▸ hx))
  rw [p_item d1.pl.hj]
  refine ⟨_, q0, ?_⟩
  refine (hd P1 (by omega) (by omega)).imp fun v S2 ⟨t, e, ht, k2, P2⟩ => ?_
  subst e
  exact ⟨by decide, hT S2 (st, [c], t) hst ⟨ht.1, ht.2⟩ ⟨c, rfl, hcm⟩ (k1.trans k2) P2⟩
/-- .. is added -/
theorem ed_app {ad : Nat} {e : Ed} (ha : AddSpec (C.call ad)) (P : Pen S k q) (du : Duo S d sg many starts ends es) (f : FineQ sg many starts ends es) (hk : k ∉ d.all) (hq : q ∉ d.all) (g3 : sg ≤ 3) (hl : es.length < 14) (w1 : inR many e.1) (w2 : inR many e.2.2) (w3 : ∃ c, e.2.1 = [c] ∧ c ∈ abcN sg) (hn : e ∉ es)
    (hT : ∀ S', Duo S' d sg many starts ends (es ++ [e]) → FineQ sg many starts ends (es ++ [e]) → Keep S S' (k :: d.all) → Pen S' k q → T.nx [some (.ref k), some (.ref d.n), some (.ref d.j), some (.int sg), some (.int o), some (.int st), x6, some (eD e)] S') :
    OkS (sSeq (sExpr (eBM tyLst mAppend (e2 opItem (eVar 2) (eC (.int 3))) (aCons (eVar 7) (aNil)))) (sExpr (eMeth [(12, ad)] (eVar 1) (aCons (e2 opItem (eVar 7) (eC (.int 0))) (aCons (e2 opItem (eVar 7) (eC (.int 1))) (aCons (e2 opItem (eVar 7) (eC (.int 2))) (aNil)))) []))
      C [some (.ref k), some (.ref d.n), some (.ref d.j), some (.int sg), some (.int o), some (.int st), x6, some (eD e)] S) T := by
  obtain ⟨ma, mb, mc, mp1, mp2, mp3⟩ := Ad.mem (d := d)
  have q3 : atI [D.int many, .ref d.p1, .ref d.p2, .ref d.p3] 3 = some (.ref d.p3) := rfl
  have xe : isX (eD e) = false := rfl
  have hlen : e.2.1.length ≤ 1000 := by
    obtain ⟨c, h, _⟩ := w3
    rw [h]; simp
  rw [oks_seq, oks_expr]
  simp [xe]
  rw [p_item du.pl.hj]
  refine ⟨_, q3, ?_⟩
  refine ⟨by simp [tyLst, du.pl.h3], ?_⟩
  rw [p_append du.pl.h3]
  refine ⟨by rw [List.length_map]; unfold line; omega, ?_⟩
  have ea : es.map eD ++ [eD e] = (es ++ [e]).map eD := by rw [List.map_append]; rfl
  rw [ea]
  obtain ⟨m2, pl2, kB⟩ := du.set3 (es' := es ++ [e])
  have P2 := P.out kB mp3 hk hq
  generalize S.set d.p3 (.lst ((es ++ [e]).map eD)) = S2 at kB m2 P2 pl2 ⊢
  obtain ⟨eo, el, et⟩ := e
  have i0 : atI [D.int eo, .str el, .int et] 0 = some (.int eo) := rfl
  have i1 : atI [D.int eo, .str el, .int et] 1 = some (.str el) := rfl
  have i2 : atI [D.int eo, .str el, .int et] 2 = some (.int et) := rfl
  rw [oks_expr]
  simp [meth_at m2.hn, eD, i0, i1, i2]
  have no : addR sg many es (eo, el, et) = none := addR_none w1 w2 w3 hn (by omega)
  refine (ha (e := (eo, el, et)) m2 g3 (by omega) hlen).mono (fun v S3 ⟨_, _, k3, m3⟩ => ?_) (fun k fs S3 ⟨f, d, h, _⟩ => by rw [no] at h; cases h)
  refine hT S3 ⟨m3, pl2.outA du.nd k3, du.nd⟩ ⟨f.lo, f.hi, f.s1, f.r1, f.s2, f.r2, ?_, ?_⟩ ((kB.to mp3).trans (k3.to ma)) (P2.out k3 ma hk hq)
  · rw [List.nodup_append]
    exact ⟨f.nd, by simp, fun a ha b hb => by
      rw [List.mem_singleton] at hb
      subst hb
      exact fun e => hn (e ▸ ha)⟩
  · intro x hx
    rcases List.mem_append.mp hx with hx | hx
    · exact f.ok x hx
    · rw [List.mem_singleton.mp hx]; exact ⟨w1, w2, w3⟩
end
/-! ### more -/
theorem p_neSelf {k n b : Nat} {d : D} (h : Da S k n d b) (hn : n ≤ 40) : OkP (opNe d d S) Q = Q (.bl false) S := by
  obtain ⟨p, a, c, e⟩ := h
  have e1 := snapK_snap (snapK_le hn a)
  unfold opNe eqD
  rw [show deep = 40 from rfl, e1]
  show OkP (some (D.bl (!PyData.eqv p p), S)) Q = _
  rw [eqv_self p c]; rfl
theorem da_edge {k many : Nat} {e : Ed} (h1 : inR many e.1) (h2 : inR many e.2.2) (h3 : ∃ c, e.2.1 = [c] ∧ c ∈ abcN 3) (hm : many ≤ 1000) : Da S k 2 (eD e) 4024 := by
  obtain ⟨c, h3, h4⟩ := h3
  obtain ⟨o, s, t⟩ := e
  have h3 : s = [c] := h3
  subst h3
  have hc : c < 1000 := by simp [abcN] at h4; omega
  unfold inR at h1 h2
  have hs : Da S k 1 (.str [c]) 12 := Da.str (by simpa using hc)
  have hi : ∀ i : Int, 0 ≤ i ∧ i < many → Da S k 1 (.int i) 2000 := fun i h => Da.int (by omega)
  exact (Da.tup (DaL.cons (hi o h1) (DaL.cons hs (DaL.cons (hi t h2) DaL.nil)))).le (Nat.le_refl _) (by decide)
/-- a loop over items that are known turn by turn -/
theorem for_it {t : It} {xs : List D} {g : Tg} {b : MS} (hl : xs.length < turns) (I : Nat → Slots → Store → Prop) (at_ : ∀ i σ S, I i σ S → It.next S t i = some xs[i]?) (h0 : I 0 σ S)
    (step : ∀ (i : Nat) (d : D) (σ : Slots) (S : Store), xs[i]? = some d → I i σ S → ∃ σ1, asg S g d σ = some σ1 ∧ OkS (b C σ1 S) { nx := I (i + 1), rt := T.rt, bk := T.nx, ct := I (i + 1), ex := T.ex })
    (done : ∀ σ S, I xs.length σ S → T.nx σ S) : OkS (forN t g b C turns 0 σ S) T := by
  refine for_inv xs.length (fun i σ S => i ≤ xs.length ∧ I i σ S) (fun i σ S ⟨hi, h⟩ => ?_) turns 0 σ S ⟨Nat.zero_le _, h0⟩ (by omega)
  have hn := at_ i σ S h
  by_cases e : i < xs.length
  · obtain ⟨σ1, h1, h2⟩ := step i xs[i] σ S (List.getElem?_eq_getElem e) h
    refine .inr ⟨xs[i], σ1, e, by rw [hn, List.getElem?_eq_getElem e], h1, ?_⟩
    exact h2.mono (fun σ S z => ⟨e, z⟩) (fun _ _ z => z) (fun _ _ z => z) (fun σ S z => ⟨e, z⟩) fun _ _ _ _ z => z
  · have e' : i = xs.length := by omega
    subst e'
    exact .inl ⟨Nat.le_refl _, by rw [hn, List.getElem?_eq_none (Nat.le_refl _)], done σ S h⟩
theorem next_zipL {n k : Nat} {xs ys : List D} (h1 : S.get n = some (.lst xs)) (h2 : S.get k = some (.lst ys)) (i : Nat) : It.next S (.zip false [.lst n, .lst k]) i = some (prs xs ys)[i]? := by
  have a : It.next S (.lst n) i = some xs[i]? := lst_next h1
  have b : It.next S (.lst k) i = some ys[i]? := lst_next h2
  have c := next_zip (S := S) (xs := xs) (ys := ys) i
  have d : It.next S (.seq (prs xs ys)) i = some (prs xs ys)[i]? := by unfold It.next; rfl
  rw [← d, ← c]
  have a' : It.next S (.seq xs) i = some xs[i]? := by unfold It.next; rfl
  have b' : It.next S (.seq ys) i = some ys[i]? := by unfold It.next; rfl
  unfold It.next It.nexts It.nexts It.nexts
  rw [a, b, a', b']
theorem p_zipLL {n k : Nat} {xs ys : List D} {Q : It → Store → Prop} (h1 : S.get n = some (.lst xs)) (h2 : S.get k = some (.lst ys)) : OkP (zpP (.ref n) (.ref k) S) Q = Q (.zip false [.lst n, .lst k]) S := by
  unfold zpP srcOf lstAt
  simp only [h1, h2]
  rfl
theorem p_cutL {n : Nat} {xs : List D} {lo hi : Option Int} (h : S.get n = some (.lst xs)) (hl : xs.length ≤ line) : OkP (opCut (.ref n) lo hi S) Q = Q (.ref S.size) (S.push (.lst (cut xs lo hi))) := by
  unfold opCut lstAt
  simp only [h, if_pos hl]
  rfl
theorem p_neEN {n k : Nat} {es : List Ed} (h1 : S.get n = some (.lst (es.map eD))) (h2 : S.get k = some (.lst [])) : OkP (opNe (.ref n) (.ref k) S) Q = Q (.bl (!decide (es = []))) S := by
  unfold opNe eqD
  rw [snapL h1 (snap_eds 37 es), snapL (ds := []) h2 rfl]
  have e : PyData.eqv (.list (es.map eP)) (.list []) = decide (es = []) := by cases es <;> rfl
  show OkP (some (D.bl (!PyData.eqv (.list (es.map eP)) (.list [])), S)) Q = _
  rw [e]; rfl
end
end MP

/-! MP: texts by length, then by alphabet. Own work. -/
namespace MP
open PySem (PyData)
/-- shorter, or as long and ahead in the alphabet -/
def slt (a b : List Nat) : Prop := a.length < b.length ∨ (a.length = b.length ∧ a < b)
instance {a b : List Nat} : Decidable (slt a b) := by unfold slt; exact inferInstance
theorem slt_irr (a : List Nat) : ¬ slt a a := fun h => h.elim (fun h => by omega) fun h => List.lt_irrefl a h.2
theorem slt_trans {a b c : List Nat} (h1 : slt a b) (h2 : slt b c) : slt a c := by
  rcases h1 with h1 | ⟨h1, h3⟩ <;> rcases h2 with h2 | ⟨h2, h4⟩
  · exact .inl (by omega)
  · exact .inl (by omega)
  · exact .inl (by omega)
  · exact .inr ⟨by omega, List.lt_trans h3 h4⟩
theorem slt_total (a b : List Nat) : a = b ∨ slt a b ∨ slt b a := by
  by_cases h : a.length = b.length
  · by_cases h1 : a < b
    · exact .inr (.inl (.inr ⟨h, h1⟩))
    · by_cases h2 : b < a
      · exact .inr (.inr (.inr ⟨h.symm, h2⟩))
      · exact .inl (List.le_antisymm (List.not_lt.mp h2) (List.not_lt.mp h1))
  · by_cases h1 : a.length < b.length
    · exact .inr (.inl (.inl h1))
    · exact .inr (.inr (.inl (by omega)))
theorem lt_keyQ (a b : List Nat) : PySem.W.dataLt (keyQ ⟨a.toArray⟩) (keyQ ⟨b.toArray⟩) = decide (slt a b) := by
  unfold keyQ
  rw [PySem.W.dataLt_pair rfl rfl, PySem.W.dataLt_str, PySem.W.dataLt_int]
  have e1 : PyData.eqv (.int ((⟨a.toArray⟩ : PySem.Str).length : Int)) (.int ((⟨b.toArray⟩ : PySem.Str).length : Int)) = decide (a.length = b.length) := by
    show ((a.length : Int) == (b.length : Int)) = _
    rw [Bool.eq_iff_iff]
    simp
    exact ⟨fun h => by omega, fun h => by omega⟩
  have e2 : PyData.eqv (.str (⟨a.toArray⟩ : PySem.Str)) (.str (⟨b.toArray⟩ : PySem.Str)) = decide (a = b) := eqv_str a b
  rw [e1, e2]
  have e3 : (⟨a.toArray⟩ : PySem.Str).length = a.length := by simp [PySem.Str.length]
  have e4 : (⟨b.toArray⟩ : PySem.Str).length = b.length := by simp [PySem.Str.length]
  rw [e3, e4]
  rw [Bool.eq_iff_iff]
  unfold slt
  by_cases h : a.length = b.length
  · by_cases h2 : a = b
    · subst h2
      simp [List.lt_irrefl]
    · simp [h, h2]
  · simp [h]
def leL (a b : List Nat) : Bool := !decide (slt b a)
theorem le_keyQ : (PySem.W.dataLe false fun s : List Nat => keyQ ⟨s.toArray⟩) = leL := by
  funext a b
  rw [PySem.W.dataLe_eq]
  show (!PySem.W.dataLt (keyQ ⟨b.toArray⟩) (keyQ ⟨a.toArray⟩)) = _
  rw [lt_keyQ]; rfl
theorem sortLen_eq (ss : List (List Nat)) : sortLen ss = ss.mergeSort leL := by unfold sortLen; rw [le_keyQ]
theorem leL_trans (a b c : List Nat) (h1 : leL a b = true) (h2 : leL b c = true) : leL a c = true := by
  unfold leL at *
  simp only [Bool.not_eq_true', decide_eq_false_iff_not] at *
  intro h
  rcases slt_total a b with z | z | z
  · subst z; exact h2 h
  · exact h2 (slt_trans h z)
  · exact h1 z
theorem leL_total (a b : List Nat) : (leL a b || leL b a) = true := by
  unfold leL
  rw [Bool.or_eq_true]
  simp only [Bool.not_eq_true', decide_eq_false_iff_not]
  by_cases h : slt b a
  · exact .inr fun z => slt_irr _ (slt_trans h z)
  · exact .inl h
theorem sortL_sorted (l : List (List Nat)) : (l.mergeSort leL).Pairwise fun a b => leL a b = true := List.pairwise_mergeSort leL_trans leL_total l
theorem sortL_asc {l : List (List Nat)} (h : l.Nodup) : (l.mergeSort leL).Pairwise slt := by
  have s1 := sortL_sorted l
  have nd : (l.mergeSort leL).Pairwise fun a b => a ≠ b := ((List.mergeSort_perm l leL).nodup_iff.mpr h)
  refine (s1.and nd).imp fun {a b} ⟨h1, h2⟩ => ?_
  unfold leL at h1
  simp only [Bool.not_eq_true', decide_eq_false_iff_not] at h1
  rcases slt_total a b with z | z | z
  · exact absurd z h2
  · exact z
  · exact absurd z h1
/-- strictly ascending lists with the same members -/
theorem asc_uniq : ∀ {l m : List (List Nat)}, l.Pairwise slt → m.Pairwise slt → (∀ x, x ∈ l ↔ x ∈ m) → l = m
  | [], [], _, _, _ => rfl
  | [], y :: m, _, _, h => absurd ((h y).mpr (List.mem_cons_self ..)) (by simp)
  | x :: l, [], _, _, h => absurd ((h x).mp (List.mem_cons_self ..)) (by simp)
  | x :: l, y :: m, h1, h2, h => by
    obtain ⟨a1, a2⟩ := List.pairwise_cons.mp h1
    obtain ⟨b1, b2⟩ := List.pairwise_cons.mp h2
    have e : x = y := by
      have p1 := (h x).mp (List.mem_cons_self ..)
      have p2 := (h y).mpr (List.mem_cons_self ..)
      rcases List.mem_cons.mp p1 with z | z
      · exact z
      · rcases List.mem_cons.mp p2 with z2 | z2
        · exact z2.symm
        · exact absurd (slt_trans (a1 y z2) (b1 x z)) (slt_irr x)
    subst e
    rw [asc_uniq a2 b2 fun z => ?_]
    constructor
    · intro hz
      rcases List.mem_cons.mp ((h z).mp (List.mem_cons_of_mem _ hz)) with e | e
      · subst e; exact absurd (a1 z hz) (slt_irr z)
      · exact e
    · intro hz
      rcases List.mem_cons.mp ((h z).mpr (List.mem_cons_of_mem _ hz)) with e | e
      · subst e; exact absurd (b1 z hz) (slt_irr z)
      · exact e
/-- in order, each once -/
def ordS (ss : List (List Nat)) : List (List Nat) := sortLen (uk ss)
theorem ordS_asc (ss : List (List Nat)) : (ordS ss).Pairwise slt := by unfold ordS; rw [sortLen_eq]; exact sortL_asc (nodup_uk ss)
theorem mem_ordS {ss : List (List Nat)} {x : List Nat} : x ∈ ordS ss ↔ x ∈ ss := by
  unfold ordS
  rw [sortLen_eq, (List.mergeSort_perm _ leL).mem_iff, mem_uk]
theorem ordS_ext {l m : List (List Nat)} (h : ∀ x, x ∈ l ↔ x ∈ m) : ordS l = ordS m := asc_uniq (ordS_asc l) (ordS_asc m) fun x => by rw [mem_ordS, mem_ordS, h]
theorem len_ordS (ss : List (List Nat)) : (ordS ss).length ≤ ss.length := by
  unfold ordS
  rw [sortLen_eq, List.length_mergeSort]
  exact len_uk ss
section
variable {S : Store} {Q : D → Store → Prop} {C : Cfg} {σ : Slots} {T : Pt} {E : Nat → Fs → Store → Prop}
theorem strsOf_map1 : ∀ ss : List (List Nat), strsOf (ss.map D.str) = some ss
  | [] => rfl
  | x :: ss => by
    rw [List.map_cons]
    show (strsOf (ss.map D.str)).map (x :: ·) = _
    rw [strsOf_map1 ss]; rfl
theorem p_sortLen {n : Nat} {ss : List (List Nat)} (h : S.get n = some (.lst (ss.map .str))) (hl : ∀ s ∈ ss, s.length ≤ 1000000) : OkP (opSortLen (.ref n) S) Q = Q (.ref S.size) (S.push (.lst ((sortLen ss).map .str))) := by
  unfold opSortLen
  simp only [h, strsOf_map1]
  rw [if_pos (List.all_eq_true.mpr fun s hs => decide_eq_true (hl s hs))]
  rfl
def getS : D → List Nat
  | .str s => s
  | _ => []
def bInOrder : MS := sRet (eB bTuple (aCons (e1 opSortLen (eB bListX (aCons (eDc (eVar 1) (eC (.bl true)) (.nm 1) (iSeq (eVar 0)) (MP.tYes) [1]) (aNil)))) (aNil)))
def InOrdSpec (call : List D → M D) : Prop := ∀ {S : Store} {v : D} {ss : List (List Nat)}, (v = .tup (ss.map .str) ∨ ∃ n, v = .ref n ∧ S.get n = some (.lst (ss.map .str))) → ss.length ≤ 1000000 → (∀ s ∈ ss, s.length ≤ 1000000) →
  Ok (call [v] S) (fun v S' => v = .tup ((ordS ss).map .str) ∧ Keep S S' []) X0
theorem inord_ok {C : Cfg} : InOrdSpec (runFn ⟨1, 2, bInOrder⟩ C) := by
  intro S v ss hv hl hs
  rw [ok_run]
  refine ⟨rfl, ?_⟩
  show OkS (bInOrder C [some v, none] S) _
  unfold bInOrder
  rw [oks_ret]
  simp only [ok_B, ok_cons, ok_nil, ok_e1]
  rw [ok_dc]
  have fin : ∀ it : It, (∀ S' i, Keep S S' [] → It.next S' it i = some (ss.map D.str)[i]?) → Ok (compN it (.nm 1) tYes (emitD (eVar 1) (eC (.bl true)) S.size C) C [some v, none] turns 0 (S.push (.dct []))) (fun _ S2 => OkP (bListX [.ref S.size] S2) fun x S1 => OkP (opSortLen x S1) fun x S1 => OkP (bTuple [x] S1) fun v S' => v = .tup ((ordS ss).map .str) ∧ Keep S S' []) X0 := by
    intro it nx
    refine (dc_fm (kd := D.str) keyS (fun _ => true) getS (xs := ss.map D.str) (by rw [List.length_map]; exact hl) nx fun i d S' hd k => ?_).imp fun _ S2 ⟨g, k2⟩ => ?_
    · rw [List.getElem?_map] at hd
      obtain ⟨x, hx, rfl⟩ := Option.map_eq_some_iff.mp hd
      refine ⟨[some v, some (.str x)], rfl, ?_⟩
      rw [ok_yes]
      refine ⟨rfl, Keep.refl, fun _ => ?_⟩
      simp only [ok_var, List.getElem?_cons_zero, List.getElem?_cons_succ, isX_str]
      exact ⟨trivial, rfl, Keep.refl⟩
    · have e : ((ss.map D.str).filter fun _ => true).map getS = ss := by
        rw [List.filter_eq_self.mpr fun _ _ => rfl, List.map_map]
        have : (getS ∘ D.str) = id := rfl
        rw [this, List.map_id]
      rw [e] at g
      rw [p_listK g, p_sortLen (Store.get_push_same _ _) (fun s h => hs s (mem_uk.mp h)), p_tuple (Store.get_push_same _ _)]
      exact ⟨rfl, (k2.trans (Keep.push _)).trans (Keep.push _)⟩
  rcases hv with rfl | ⟨n, rfl, hg⟩
  · simp only [ok_i1, ok_var, List.getElem?_cons_zero, isX_tup]
    refine ⟨trivial, ?_⟩
    rw [p_itT]
    exact (fin (.seq (ss.map D.str)) fun S' i _ => by unfold It.next; rfl).mono (fun _ _ h => h) fun _ _ _ z => z.elim
  · simp only [ok_i1, ok_var, List.getElem?_cons_zero, isX_ref]
    refine ⟨trivial, ?_⟩
    rw [p_itL hg]
    exact (fin (.lst n) fun S' i k => lst_next (k.get hg (by simp))).mono (fun _ _ h => h) fun _ _ _ z => z.elim
end
/-! ### each once, of a sorted list -/
def addL (acc : List (List Nat)) (x : List Nat) : List (List Nat) := if acc.getLast? = some x then acc else acc ++ [x]
def ddf (l : List (List Nat)) : List (List Nat) := l.foldl addL []
theorem ddf_snoc (l : List (List Nat)) (x : List Nat) : ddf (l ++ [x]) = addL (ddf l) x := by unfold ddf; rw [List.foldl_append]; rfl
theorem last_addL (acc : List (List Nat)) (x : List Nat) : (addL acc x).getLast? = some x := by
  unfold addL
  split
  · assumption
  · simp
theorem last_ddf (L : List (List Nat)) : ∀ n, (ddf (L.take n)).getLast? = (L.take n).getLast?
  | 0 => rfl
  | n + 1 => by
    cases h : L[n]? with
    | none =>
      rw [List.take_succ, h]
      simpa using last_ddf L n
    | some x =>
      rw [List.take_succ, h]
      show (ddf (L.take n ++ [x])).getLast? = (L.take n ++ [x]).getLast?
      rw [ddf_snoc, last_addL]
      simp
theorem ddf_props {L : List (List Nat)} (hL : L.Pairwise fun a b => leL a b = true) : ∀ n, (ddf (L.take n)).Pairwise slt ∧ ∀ x, x ∈ ddf (L.take n) ↔ x ∈ L.take n
  | 0 => ⟨.nil, fun x => Iff.rfl⟩
  | n + 1 => by
    obtain ⟨h1, h2⟩ := ddf_props hL n
    cases h : L[n]? with
    | none =>
      rw [List.take_succ, h]
      simpa using ⟨h1, h2⟩
    | some x =>
      rw [List.take_succ, h]
      show (ddf (L.take n ++ [x])).Pairwise slt ∧ ∀ y, y ∈ ddf (L.take n ++ [x]) ↔ y ∈ L.take n ++ [x]
      rw [ddf_snoc]
      unfold addL
      split
      · rename_i hl
        have hx : x ∈ L.take n := (h2 x).mp (List.mem_of_getLast? hl)
        refine ⟨h1, fun y => ?_⟩
        rw [h2, List.mem_append, List.mem_singleton]
        exact ⟨.inl, fun z => z.elim id fun e => e ▸ hx⟩
      · rename_i hl
        have hP : (L.take n ++ [x]).Pairwise fun a b => leL a b = true := by
          have e : L.take (n + 1) = L.take n ++ [x] := by rw [List.take_succ, h]; rfl
          rw [← e]
          exact hL.sublist (List.take_sublist _ _)
        have le := (List.pairwise_append.mp hP).2.2
        refine ⟨List.pairwise_append.mpr ⟨h1, List.pairwise_singleton _ _, fun a ha b hb => ?_⟩, fun y => ?_⟩
        · rw [List.mem_singleton] at hb
          subst hb
          have h3 := le a ((h2 a).mp ha) b (by simp)
          unfold leL at h3
          simp only [Bool.not_eq_true', decide_eq_false_iff_not] at h3
          rcases slt_total a b with z | z | z
          · subst z
            exfalso
            -- a is in the list and every member is before the last, which is not a
            cases hg : (ddf (L.take n)).getLast? with
            | none => rw [List.getLast?_eq_none_iff] at hg; rw [hg] at ha; cases ha
            | some w =>
              rw [hg] at hl
              have hne : w ≠ a := fun e => hl (by rw [e])
              obtain ⟨ys, hys⟩ := List.getLast?_eq_some_iff.mp hg
              rw [hys] at ha h1
              rcases List.mem_append.mp ha with ha | ha
              · have h4 := (List.pairwise_append.mp h1).2.2 a ha w (by simp)
                have hw : w ∈ L.take n := (h2 w).mp (by rw [hys]; simp)
                have h5 := le w hw a (by simp)
                unfold leL at h5
                simp only [Bool.not_eq_true', decide_eq_false_iff_not] at h5
                exact h5 h4
              · rw [List.mem_singleton] at ha
                exact hne ha.symm
          · exact z
          · exact absurd z h3
        · rw [List.mem_append, List.mem_append, h2]
theorem ddf_ordS (ss : List (List Nat)) : ddf (ss.mergeSort leL) = ordS ss := by
  have h := ddf_props (sortL_sorted ss) (ss.mergeSort leL).length
  rw [List.take_length] at h
  exact asc_uniq h.1 (ordS_asc ss) fun x => by rw [h.2, mem_ordS, (List.mergeSort_perm ss leL).mem_iff]
/-! ### the law's own order -/
def prL (s : List Nat) : D := .tup [.int (s.length : Int), .str s]
def prQ (s : List Nat) : PyData := .tuple [.int (s.length : Int), .str ⟨s.toArray⟩]
theorem prQ_key (s : List Nat) : prQ s = keyQ ⟨s.toArray⟩ := by unfold prQ keyQ; simp [PySem.Str.length]
section
variable {S : Store} {Q : D → Store → Prop} {C : Cfg} {σ : Slots} {T : Pt} {E : Nat → Fs → Store → Prop}
theorem snap_prs (k : Nat) : ∀ ss : List (List Nat), optAll (snap S (k + 2)) (ss.map prL) = some (ss.map prQ)
  | [] => rfl
  | e :: es => by
    rw [List.map_cons, optAll, snap_prs k es]
    rfl
theorem okSort_prs (ss : List (List Nat)) : okSort (ss.map prQ) = true := by
  unfold okSort
  rw [Bool.and_eq_true, Bool.or_eq_true]
  refine ⟨List.all_eq_true.mpr fun d hd => List.all_eq_true.mpr fun f hf => ?_, .inl (List.all_eq_true.mpr fun d hd => ?_)⟩
  · obtain ⟨a, _, rfl⟩ := List.mem_map.mp hd
    obtain ⟨b, _, rfl⟩ := List.mem_map.mp hf
    simp [prQ, PySem.W.alike, PySem.W.alikeAll]
  · obtain ⟨a, _, rfl⟩ := List.mem_map.mp hd
    rfl
theorem leL_prQ (a b : List Nat) : leL a b = !PySem.W.dataLt (prQ b) (prQ a) := by
  rw [prQ_key, prQ_key, lt_keyQ]; rfl
theorem sortD_prs (ss : List (List Nat)) : sortD (ss.map prL) (ss.map prQ) = (ss.mergeSort leL).map prL := by
  have e : (ss.map prL).zip (ss.map prQ) = ss.map fun x => (prL x, prQ x) := by
    induction ss with
    | nil => rfl
    | cons a r ih => simp [ih]
  unfold sortD
  rw [e, ← PySem.W.sort_maps (r := leL) (fun x => (prL x, prQ x)) fun a _ b _ => leL_prQ a b, List.map_map]
  rfl
theorem p_sortPr {n : Nat} {ss : List (List Nat)} (h : S.get n = some (.lst (ss.map prL))) : OkP (bSorted [.ref n] S) Q = Q (.ref S.size) (S.push (.lst ((ss.mergeSort leL).map prL))) := by
  have e2 : snaps S deep (ss.map prL) = some (ss.map prQ) := snap_prs 38 ss
  unfold bSorted lstAt
  simp only [h, e2]
  rw [if_pos (okSort_prs ss), sortD_prs]
  rfl
theorem next_enumL {n : Nat} {xs : List D} {S' : Store} (h : S'.get n = some (.lst xs)) (i : Nat) : It.next S' (.enum (.lst n)) i = some (xs[i]?.map fun d => D.tup [.int (i : Int), d]) := by
  have a := lst_next (i := i) h
  unfold It.next
  rw [a]
  cases xs[i]? <;> rfl
theorem p_enL {n : Nat} {xs : List D} {Q : It → Store → Prop} (h : S.get n = some (.lst xs)) : OkP (enP (.ref n) S) Q = Q (.enum (.lst n)) S := by
  unfold enP srcOf lstAt
  simp only [h]
  rfl
def bOrdered : MS := sSeq (sSet (.nm 1) (eB bSorted (aCons (eLc (eTup (aCons (eB bLen (aCons (eVar 2) (aNil))) (aCons (eVar 2) (aNil)))) (.nm 2) (iSeq (eVar 0)) (MP.tYes) [2]) (aNil)))) (sRet (eLc (e2 opItem (eVar 2) (eC (.int 1))) (.tp [(.nm 3), (.nm 2)]) (iEnumE (eVar 1)) (MP.tOr (MP.tB (e2 opEq (eVar 3) (eC (.int 0)))) (MP.tB (e2 opNe (e2 opItem (eVar 1) (e2 opSub (eVar 3) (eC (.int 1)))) (eVar 2)))) [3, 2]))
def OrderedSpec (call : List D → M D) : Prop := ∀ {S : Store} {n : Nat} {ss : List (List Nat)}, S.get n = some (.lst (ss.map .str)) → ss.length ≤ 1000 → (∀ s ∈ ss, s.length ≤ 1000 ∧ ∀ c ∈ s, c < 1000) →
  Ok (call [.ref n] S) (fun v S' => ∃ n', v = .ref n' ∧ S'.get n' = some (.lst ((ordS ss).map .str)) ∧ Keep S S' []) X0
theorem p_nePr {a b : List Nat} : OkP (opNe (prL a) (prL b) S) Q = Q (.bl (!decide (a = b))) S := by
  have e1 : snap S deep (prL a) = some (prQ a) := rfl
  have e2 : snap S deep (prL b) = some (prQ b) := rfl
  unfold opNe eqD
  rw [e1, e2]
  show OkP (some (D.bl (!PyData.eqv (prQ a) (prQ b)), S)) Q = _
  have e3 : PyData.eqv (prQ a) (prQ b) = decide (a = b) := by
    have h1 : PyData.eqv (.int (a.length : Int)) (.int (b.length : Int)) = decide ((a.length : Int) = b.length) := by
      show ((a.length : Int) == (b.length : Int)) = _
      rw [Bool.beq_eq_decide_eq]
    have e : PyData.eqv (prQ a) (prQ b) = (PyData.eqv (.int (a.length : Int)) (.int (b.length : Int)) && PyData.eqv (.str ⟨a.toArray⟩) (.str ⟨b.toArray⟩)) := by
      simp [prQ, PyData.eqv, PyData.eqvAll]
    rw [e, h1, eqv_str, Bool.eq_iff_iff]
    simp
    exact fun h => by rw [h]
  rw [e3]; rfl
theorem ordered_ok {C : Cfg} : OrderedSpec (runFn ⟨1, 4, bOrdered⟩ C) := by
  intro S n ss hg hl hs
  rw [ok_run]
  refine ⟨rfl, ?_⟩
  show OkS (bOrdered C [some (.ref n), none, none, none] S) _
  unfold bOrdered
  rw [oks_seq, oks_set]
  simp only [ok_B, ok_cons, ok_nil, ok_lc, ok_i1, ok_var, List.getElem?_cons_zero, isX_ref]
  refine ⟨trivial, ?_⟩
  rw [p_itL hg]
  show Ok (compN (.lst n) _ _ _ C [some (.ref n), none, none, none] turns 0 (S.push (.lst []))) _ _
  refine Ok.imp (lc_fml (fun _ => true) (fun d => prL (getS d)) hg (by rw [List.length_map]; omega) fun i d S' hd k => ?_) ?_
  · rw [List.getElem?_map] at hd
    obtain ⟨x, hx, rfl⟩ := Option.map_eq_some_iff.mp hd
    have hxl := (hs x (List.mem_of_getElem? hx)).1
    refine ⟨_, rfl, ?_⟩
    rw [ok_yes]
    refine ⟨rfl, Keep.refl, fun _ => ?_⟩
    simp
    exact ⟨by unfold line; omega, by decide, rfl, Keep.refl⟩
  rintro _ S1 ⟨g1, k1⟩
  have e1 : ((ss.map D.str).filter fun _ => true).map (fun d => prL (getS d)) = ss.map prL := by
    rw [List.filter_eq_self.mpr fun _ _ => rfl, List.map_map]; rfl
  rw [e1] at g1
  rw [p_sortPr g1]
  have kA : Keep S1 (S1.push (.lst ((ss.mergeSort leL).map prL))) [] := Keep.push _
  have gA : (S1.push (.lst ((ss.mergeSort leL).map prL))).get S1.size = some (.lst ((ss.mergeSort leL).map prL)) := Store.get_push_same _ _
  generalize S1.push (.lst ((ss.mergeSort leL).map prL)) = S2 at kA gA ⊢
  have hLl : (ss.mergeSort leL).length = ss.length := List.length_mergeSort ss
  have dd := ddf_ordS ss
  generalize ss.mergeSort leL = L at gA hLl dd
  refine ⟨_, rfl, ?_⟩
  rw [oks_ret]
  simp only [ok_lc, ok_i1, ok_var, List.set_cons_succ, List.set_cons_zero, List.getElem?_cons_zero, List.getElem?_cons_succ, isX_ref]
  refine ⟨trivial, ?_⟩
  rw [p_enL gA]
  show Ok (compN (.enum (.lst S1.size)) _ _ _ C [some (.ref n), some (.ref S1.size), none, none] turns 0 (S2.push (.lst []))) _ _
  refine Ok.imp (Q := fun _ S' => S'.get S2.size = some (.lst ((ddf L).map .str)) ∧ Keep S2 S' []) (comp_inv (Q := fun S' => S'.get S2.size = some (.lst ((ddf L).map .str)) ∧ Keep S2 S' []) L.length (fun i S' => i ≤ L.length ∧ S'.get S2.size = some (.lst ((ddf (L.take i)).map .str)) ∧ Keep S2 S' []) (fun i S' ⟨hi, g, k⟩ => ?_) turns 0 _ ⟨Nat.zero_le _, Store.get_push_same _ _, Keep.push _⟩ (by unfold turns; omega)) fun _ S3 ⟨g, k⟩ => ?_
  · have hn := next_enumL (k.get gA (by simp)) i
    by_cases h : i < L.length
    · have hx : L[i]? = some L[i] := List.getElem?_eq_getElem h
      generalize L[i] = x at hx
      have hx2 : (L.map prL)[i]? = some (prL x) := by rw [List.getElem?_map, hx]; rfl
      have hm : x ∈ L := List.mem_of_getElem? hx
      rw [hx2] at hn
      refine .inr ⟨.tup [.int i, prL x], _, h, hn, by simp; rfl, ?_⟩
      have ht : L.take (i + 1) = L.take i ++ [x] := by rw [List.take_succ, hx]; rfl
      have gL := k.get gA (by simp)
      have fin : ∀ b : Bool, b = !decide ((ddf (L.take i)).getLast? = some x) → (if b = true then Ok ((emit (e2 opItem (eVar 2) (eC (.int 1))) S2.size C) [some (.ref n), some (.ref S1.size), some (prL x), some (.int i)] S') (fun _ S4 => i + 1 ≤ L.length ∧ S4.get S2.size = some (.lst ((ddf (L.take (i + 1))).map .str)) ∧ Keep S2 S4 []) X0 else i + 1 ≤ L.length ∧ S'.get S2.size = some (.lst ((ddf (L.take (i + 1))).map .str)) ∧ Keep S2 S' []) := by
        intro b hb
        rw [ht, ddf_snoc]
        by_cases hl : (ddf (L.take i)).getLast? = some x
        · rw [if_neg (by rw [hb]; simp [hl])]
          refine ⟨h, ?_, k⟩
          unfold addL
          rw [if_pos hl]
          exact g
        · rw [if_pos (by rw [hb]; simp [hl]), ok_emit]
          have qx : atI [D.int (x.length : Int), .str x] 1 = some (.str x) := rfl
          have xp : isX (prL x) = false := rfl
          simp only [ok_e2, ok_var, ok_c, List.getElem?_cons_zero, List.getElem?_cons_succ]
          refine ⟨xp, ?_⟩
          show OkP (opItem (.tup [.int (x.length : Int), .str x]) (.int 1) S') _
          rw [p_itemT]
          have lg := Store.get_lt g
          have hlen : ((ddf (L.take i)).map D.str).length ≤ 1000 := by
            have h1 : ∀ j, (ddf (L.take j)).length ≤ j := fun j => by
              induction j with
              | zero => simp [ddf]
              | succ j ih =>
                cases hj : L[j]? with
                | none =>
                  rw [List.take_succ, hj]
                  simp
                  omega
                | some y =>
                  rw [List.take_succ, hj]
                  show (ddf (L.take j ++ [y])).length ≤ j + 1
                  rw [ddf_snoc]
                  unfold addL
                  split
                  · omega
                  · rw [List.length_append, List.length_singleton]; omega
            rw [List.length_map]
            have := h1 i
            omega
          refine ⟨_, qx, _, g, by unfold line; omega, h, ?_, k.set_new _ (Nat.le_refl _) lg⟩
          rw [Store.get_set_same _ lg]
          unfold addL
          rw [if_neg hl, List.map_append]
          rfl
      simp only [ok_tOr, ok_tB, ok_e2, ok_var, ok_c, List.getElem?_cons_zero, List.getElem?_cons_succ, isX_int, isX_ref, p_eqI, p_sub]
      refine ⟨trivial, _, rfl, ?_⟩
      by_cases h0 : i = 0
      · subst h0
        rw [if_pos (by simp)]
        exact fin true (by simp [ddf])
      · rw [if_neg (by simpa using h0)]
        refine ⟨trivial, trivial, ?_⟩
        rw [p_item gL]
        have hp : i - 1 < L.length := by omega
        have hy : L[i - 1]? = some L[i - 1] := List.getElem?_eq_getElem hp
        generalize L[i - 1] = y at hy
        have hix : atI (L.map prL) ((i : Int) - 1) = some (prL y) := by
          unfold atI
          rw [List.length_map, ixN_at (by omega) (by omega)]
          have e : ((i : Int) - 1).toNat = i - 1 := by omega
          show (L.map prL)[((i : Int) - 1).toNat]? = _
          rw [e, List.getElem?_map, hy]; rfl
        have xp : isX (prL x) = false := rfl
        refine ⟨_, hix, xp, ?_⟩
        rw [p_nePr]
        refine ⟨_, rfl, ?_⟩
        refine fin _ ?_
        have hlast : (L.take i).getLast? = some y := by
          have e : L.take i = L.take (i - 1) ++ [y] := by
            have := List.take_succ (l := L) (i := i - 1)
            rw [show i - 1 + 1 = i by omega, hy] at this
            exact this
          rw [e]
          simp
        rw [last_ddf, hlast]
        congr 1
        rw [Bool.eq_iff_iff]
        simp
    · have e : i = L.length := by omega
      subst e
      refine .inl ⟨Nat.le_refl _, ?_, ?_, k⟩
      · rw [hn, List.getElem?_eq_none (by rw [List.length_map]; omega)]; rfl
      · rw [List.take_length] at g
        exact g
  · rw [dd] at g
    exact ⟨S2.size, rfl, g, (k1.trans kA).trans k⟩
end
end MP

/-! MP: the least of some texts. Own work. -/
namespace MP
open PySem (PyData)
def addM (acc : List (List Nat)) (s : List Nat) : List (List Nat) := if acc.any (fun kept => has s kept) = true then acc else acc ++ [s]
def leastS (ss : List (List Nat)) : List (List Nat) := (ordS ss).foldl addM []
/-- contains no other one -/
def isMin (L : List (List Nat)) (s : List Nat) : Bool := L.all fun o => decide (o = s) || !has s o
theorem isMin_iff {L : List (List Nat)} {s : List Nat} : isMin L s = true ↔ ∀ o ∈ L, o ≠ s → ¬ o.Sublist s := by
  unfold isMin
  rw [List.all_eq_true]
  constructor
  · intro h o ho hne hs
    have h1 := h o ho
    rw [Bool.or_eq_true, decide_eq_true_eq, Bool.not_eq_true'] at h1
    rcases h1 with h1 | h1
    · exact hne h1
    · rw [has_iff.mpr hs] at h1; cases h1
  · intro h o ho
    rw [Bool.or_eq_true, decide_eq_true_eq, Bool.not_eq_true']
    by_cases e : o = s
    · exact .inl e
    · right
      cases hh : has s o with
      | false => rfl
      | true => exact absurd (has_iff.mp hh) (h o ho e)
theorem sub_len {o s : List Nat} (h : o.Sublist s) (ne : o ≠ s) : o.length < s.length := by
  have h1 := h.length_le
  rcases Nat.lt_or_ge o.length s.length with z | z
  · exact z
  · exact absurd (h.eq_of_length (by omega)) ne
theorem min_under (L : List (List Nat)) : ∀ (n : Nat) (o : List Nat), o.length ≤ n → o ∈ L → ∃ m ∈ L, m.Sublist o ∧ isMin L m = true
  | n, o, hl, ho => by
    by_cases h : isMin L o = true
    · exact ⟨o, ho, List.Sublist.refl _, h⟩
    · have h' : ¬ ∀ o2 ∈ L, o2 ≠ o → ¬ o2.Sublist o := fun z => h (isMin_iff.mpr z)
      have ⟨o2, h1⟩ := Classical.not_forall.mp h'
      have ⟨h2, h3⟩ := Classical.not_imp.mp h1
      have ⟨h4, h5⟩ := Classical.not_imp.mp h3
      have h5 := Classical.not_not.mp h5
      have lt := sub_len h5 h4
      match n, hl with
      | 0, hl => omega
      | n + 1, hl =>
        obtain ⟨m, m1, m2, m3⟩ := min_under L n o2 (by omega) h2
        exact ⟨m, m1, m2.trans h5, m3⟩
theorem fold_min {L : List (List Nat)} (hL : L.Pairwise slt) : ∀ n, (L.take n).foldl addM [] = (L.take n).filter (isMin L)
  | 0 => by simp
  | n + 1 => by
    cases h : L[n]? with
    | none =>
      rw [List.take_succ, h]
      simpa using fold_min hL n
    | some s =>
      rw [List.take_succ, h]
      show (L.take n ++ [s]).foldl addM [] = (L.take n ++ [s]).filter (isMin L)
      rw [List.foldl_append, fold_min hL n, List.filter_append]
      show addM ((L.take n).filter (isMin L)) s = _
      have hsm : s ∈ L := List.mem_of_getElem? h
      have hP : (L.take n ++ [s]).Pairwise slt := by
        have e : L.take (n + 1) = L.take n ++ [s] := by rw [List.take_succ, h]; rfl
        rw [← e]
        exact hL.sublist (List.take_sublist _ _)
      have before := (List.pairwise_append.mp hP).2.2
      have key : (((L.take n).filter (isMin L)).any fun kept => has s kept) = !isMin L s := by
        rw [Bool.eq_iff_iff, List.any_eq_true, Bool.not_eq_true']
        constructor
        · rintro ⟨x, hx, hh⟩
          have hx1 := (List.mem_filter.mp hx).1
          have hlt := before x hx1 s (by simp)
          cases hm : isMin L s with
          | false => rfl
          | true =>
            refine absurd (has_iff.mp hh) (isMin_iff.mp hm x (List.mem_of_mem_take hx1) fun e => ?_)
            subst e
            exact slt_irr _ hlt
        · intro hm
          have h' : ¬ ∀ o2 ∈ L, o2 ≠ s → ¬ o2.Sublist s := fun z => by rw [isMin_iff.mpr z] at hm; cases hm
          have ⟨o2, h1⟩ := Classical.not_forall.mp h'
          have ⟨h2, h3⟩ := Classical.not_imp.mp h1
          have ⟨h4, h5⟩ := Classical.not_imp.mp h3
          have h5 := Classical.not_not.mp h5
          obtain ⟨m, m1, m2, m3⟩ := min_under L o2.length o2 (Nat.le_refl _) h2
          have hl := m2.length_le
          have hl2 := sub_len h5 h4
          have hms : slt m s := .inl (by omega)
          refine ⟨m, List.mem_filter.mpr ⟨?_, m3⟩, has_iff.mpr (m2.trans h5)⟩
          -- m stands ahead of s
          have hsplit : L = L.take n ++ (s :: L.drop (n + 1)) := by
            have hn := (List.getElem?_eq_some_iff.mp h)
            rw [← hn.2, List.getElem_cons_drop, List.take_append_drop]
          rw [hsplit] at m1
          rcases List.mem_append.mp m1 with z | z
          · exact z
          · exfalso
            have hL2 := hL
            rw [hsplit] at hL2
            have h6 := (List.pairwise_append.mp hL2).2.1
            rcases List.mem_cons.mp z with z | z
            · subst z; exact slt_irr _ hms
            · exact slt_irr _ (slt_trans hms ((List.pairwise_cons.mp h6).1 m z))
      unfold addM
      rw [key]
      cases hm : isMin L s with
      | true => simp [hm]
      | false => simp [hm]
theorem leastS_eq (ss : List (List Nat)) : leastS ss = (ordS ss).filter (isMin (ordS ss)) := by
  have h := fold_min (ordS_asc ss) (ordS ss).length
  rw [List.take_length] at h
  exact h
section
variable {S : Store} {Q : D → Store → Prop} {C : Cfg} {σ : Slots} {T : Pt} {E : Nat → Fs → Store → Prop}
def bLeast (io co : Nat) : MS := sSeq (sSet (.nm 1) (eLst (aNil))) (sSeq (sFor (.nm 2) (iSeq (eCall io (aCons (eVar 0) (aNil)) [])) (sIf (MP.tNot (tV (eB bAny (aCons (eLc (eCall co (aCons (eVar 2) (aCons (eVar 3) (aNil))) []) (.nm 3) (iSeq (eVar 1)) (MP.tYes) [3]) (aNil))))) (sExpr (eBM tyLst mAppend (eVar 1) (aCons (eVar 2) (aNil)))) (sPass))) (sRet (eB bTuple (aCons (eVar 1) (aNil)))))
def LeastSpec (call : List D → M D) : Prop := ∀ {S : Store} {v : D} {ss : List (List Nat)}, (v = .tup (ss.map .str) ∨ ∃ n, v = .ref n ∧ S.get n = some (.lst (ss.map .str))) → ss.length ≤ 100000 → (∀ s ∈ ss, s.length ≤ 1000000) →
  Ok (call [v] S) (fun v S' => v = .tup ((leastS ss).map .str) ∧ Keep S S' []) X0
theorem len_addM {acc : List (List Nat)} {s : List Nat} : (addM acc s).length ≤ acc.length + 1 := by
  unfold addM
  split
  · omega
  · rw [List.length_append, List.length_singleton]; omega
theorem mem_addM {acc : List (List Nat)} {s x : List Nat} (h : x ∈ addM acc s) : x ∈ acc ∨ x = s := by
  unfold addM at h
  split at h
  · exact .inl h
  · rcases List.mem_append.mp h with h | h
    · exact .inl h
    · exact .inr (List.mem_singleton.mp h)
theorem foldM_props (L : List (List Nat)) : ∀ i, ((L.take i).foldl addM []).length ≤ i ∧ ∀ x ∈ (L.take i).foldl addM [], x ∈ L
  | 0 => ⟨by simp, fun x h => by simp at h⟩
  | i + 1 => by
    obtain ⟨h1, h2⟩ := foldM_props L i
    cases h : L[i]? with
    | none =>
      rw [List.take_succ, h]
      simp only [Option.toList_none, List.append_nil]
      exact ⟨by omega, h2⟩
    | some s =>
      rw [List.take_succ, h]
      show ((L.take i ++ [s]).foldl addM []).length ≤ i + 1 ∧ ∀ x ∈ (L.take i ++ [s]).foldl addM [], x ∈ L
      rw [List.foldl_append]
      refine ⟨?_, fun x hx => ?_⟩
      · have := len_addM (acc := (L.take i).foldl addM []) (s := s)
        show (addM _ s).length ≤ _
        omega
      · rcases mem_addM hx with hx | hx
        · exact h2 x hx
        · exact hx ▸ List.mem_of_getElem? h
theorem least_ok {C : Cfg} {io co : Nat} (hi : InOrdSpec (C.call io)) (hc : HasSpec (C.call co)) : LeastSpec (runFn ⟨1, 4, bLeast io co⟩ C) := by
  intro S v ss hv hl hs
  rw [ok_run]
  refine ⟨rfl, ?_⟩
  have xv : isX v = false := by rcases hv with rfl | ⟨n, rfl, _⟩ <;> rfl
  show OkS (bLeast io co C [some v, none, none, none] S) _
  unfold bLeast
  rw [oks_seq, oks_set]
  simp
  have kA : Keep S (S.push (.lst [])) [] := Keep.push _
  have gA : (S.push (.lst [])).get S.size = some (.lst []) := Store.get_push_same _ _
  have hv1 : v = .tup (ss.map .str) ∨ ∃ n, v = .ref n ∧ (S.push (.lst [])).get n = some (.lst (ss.map .str)) := hv.imp id fun ⟨n, h1, h2⟩ => ⟨n, h1, kA.get h2 (by simp)⟩
  generalize S.push (.lst []) = S1 at kA gA hv1
  have lA := Store.get_lt gA
  refine seq_mid (fun σ S' => (∃ x2, σ = [some v, some (.ref S.size), x2, none]) ∧ S'.get S.size = some (.lst ((leastS ss).map .str)) ∧ Keep S S' []) ?_ ?_
  · rw [oks_for]
    simp [xv]
    refine (hi hv1 (by omega) hs).imp fun w S2 ⟨e, k2⟩ => ?_
    subst e
    have hol : (ordS ss).length ≤ 100000 := Nat.le_trans (len_ordS ss) hl
    have hos : ∀ s ∈ ordS ss, s.length ≤ 1000000 := fun s h => hs s (mem_ordS.mp h)
    have eL : leastS ss = (ordS ss).foldl addM [] := rfl
    rw [eL]
    generalize ordS ss = L at hol hos
    rw [p_itT]
    refine for_seq (xs := L.map D.str) (by rw [List.length_map]; unfold turns; omega) (fun i σ S' => (∃ x2, σ = [some v, some (.ref S.size), x2, none]) ∧ S'.get S.size = some (.lst (((L.take i).foldl addM []).map .str)) ∧ Keep S S' []) ⟨⟨_, rfl⟩, k2.get gA (by simp), kA.trans k2⟩ ?_ ?_
    · rintro i d σ S' hd ⟨⟨x2, rfl⟩, g, k⟩
      rw [List.getElem?_map] at hd
      obtain ⟨s, hsx, rfl⟩ := Option.map_eq_some_iff.mp hd
      have ht : L.take (i + 1) = L.take i ++ [s] := by rw [List.take_succ, hsx]; rfl
      obtain ⟨p1, p2⟩ := foldM_props L i
      have hi' : i < L.length := (List.getElem?_eq_some_iff.mp hsx).1
      rw [ht, List.foldl_append]
      generalize (L.take i).foldl addM [] = acc at g p1 p2
      show ∃ σ1, _ ∧ OkS _ { nx := fun σ S' => (∃ x2, σ = [some v, some (.ref S.size), x2, none]) ∧ S'.get S.size = some (.lst ((addM acc s).map .str)) ∧ Keep S S' [], rt := _, bk := _, ct := _, ex := _ }
      refine ⟨_, rfl, ?_⟩
      rw [oks_if]
      simp only [ok_tNot, ok_tV, ok_B, ok_cons, ok_nil, ok_lc, ok_i1, ok_var, List.set_cons_succ, List.set_cons_zero, List.getElem?_cons_zero, List.getElem?_cons_succ, isX_ref]
      refine ⟨trivial, ?_⟩
      rw [p_itL g]
      show Ok (compN (.lst S.size) _ _ _ C [some v, some (.ref S.size), some (.str s), none] turns 0 (S'.push (.lst []))) _ _
      refine Ok.imp (lc_fml (fun _ => true) (fun d => .bl (has s (getS d))) g (by rw [List.length_map]; omega) fun j d S2 hd2 k2 => ?_) ?_
      · rw [List.getElem?_map] at hd2
        obtain ⟨x, hx, rfl⟩ := Option.map_eq_some_iff.mp hd2
        refine ⟨_, rfl, ?_⟩
        rw [ok_yes]
        refine ⟨rfl, Keep.refl, fun _ => ?_⟩
        simp only [ok_call, ok_cons, ok_nil, ok_var, List.set_cons_succ, List.set_cons_zero, List.getElem?_cons_zero, List.getElem?_cons_succ, isX_str, List.append_nil]
        exact ⟨trivial, trivial, (hc (hos x (p2 x (List.mem_of_getElem? hx)))).imp fun y S3 ⟨e, k3⟩ => ⟨e, k3⟩⟩
      · rintro _ S2 ⟨g2, k2⟩
        have e2 : ((acc.map D.str).filter fun _ => true).map (fun d => D.bl (has s (getS d))) = (acc.map fun x => has s x).map D.bl := by
          rw [List.filter_eq_self.mpr fun _ _ => rfl, List.map_map, List.map_map]; rfl
        rw [e2] at g2
        rw [p_any g2]
        have e3 : ((acc.map fun x => has s x).any id) = acc.any fun kept => has s kept := by rw [List.any_map]; rfl
        rw [e3]
        refine ⟨_, rfl, ?_⟩
        have gk := k2.get g (by simp)
        have kk := k.trans k2
        unfold addM
        by_cases ha : (acc.any fun kept => has s kept) = true
        · rw [ha, if_neg (by simp), if_pos rfl, oks_pass]
          exact ⟨⟨_, rfl⟩, gk, kk⟩
        · have ha' : (acc.any fun kept => has s kept) = false := by simpa using ha
          rw [ha', if_pos (by simp), if_neg (by simp), oks_expr]
          have lg := Store.get_lt gk
          simp
          refine ⟨by simp [tyLst, gk], ?_⟩
          rw [p_append gk]
          refine ⟨by rw [List.length_map]; unfold line; omega, ?_⟩
          refine ⟨?_, kk.set_new _ (Nat.le_refl _) lg⟩
          exact Store.get_set_same _ lg
    · rintro σ S' ⟨⟨x2, rfl⟩, g, k⟩
      rw [List.length_map, List.take_length] at g
      exact ⟨⟨_, rfl⟩, g, k⟩
  · rintro σ S' ⟨⟨x2, rfl⟩, g, k⟩
    rw [oks_ret]
    simp
    rw [p_tuple g]
    exact ⟨rfl, k⟩
end
end MP

namespace K04
open PySem PySem.Spec PyProof.Rows L2 MP
def top (i : Nat) : Stmt := PySem.Challenge.pw_gaprules_k04_least_strings.main.body.getD i (.Pass ⟨0, 0, 0, 0⟩)
def cm (i j : Nat) : Stmt := match top i with
  | .ClassDef _ _ _ body _ _ _ _ _ _ _ => body.getD j (.Pass ⟨0, 0, 0, 0⟩)
  | s => s
abbrev s_positions : Stmt := top 1
abbrev s_contains : Stmt := top 2
abbrev s_in_order : Stmt := top 3
abbrev s_least_strings : Stmt := top 4
abbrev s__law_pen : Stmt := top 6
abbrev s__law_fresh : Stmt := top 7
abbrev s__law_draw : Stmt := top 8
abbrev s__law_string : Stmt := top 9
abbrev s__law_found : Stmt := top 10
abbrev s__law_contains : Stmt := top 11
abbrev s__law_ordered : Stmt := top 12
abbrev s_law : Stmt := top 13
def N_positions : List Str := [PySem.Str.ofString "log", PySem.Str.ofString "pattern", PySem.Str.ofString "found", PySem.Str.ofString "start", PySem.Str.ofString "sign", PySem.Str.ofString "place"]
def N_contains : List Str := [PySem.Str.ofString "log", PySem.Str.ofString "pattern"]
def N_in_order : List Str := [PySem.Str.ofString "strings", PySem.Str.ofString "string"]
def N_least_strings : List Str := [PySem.Str.ofString "strings", PySem.Str.ofString "found", PySem.Str.ofString "string", PySem.Str.ofString "kept"]
def N__law_pen : List Str := [PySem.Str.ofString "script"]
def N__law_fresh : List Str := [PySem.Str.ofString "pen", PySem.Str.ofString "at", PySem.Str.ofString "cell", PySem.Str.ofString "p", PySem.Str.ofString "state", PySem.Str.ofString "found", PySem.Str.ofString "turn"]
def N__law_draw : List Str := [PySem.Str.ofString "pen", PySem.Str.ofString "many", PySem.Str.ofString "digit"]
def N__law_string : List Str := [PySem.Str.ofString "pen", PySem.Str.ofString "signs", PySem.Str.ofString "most", PySem.Str.ofString "step"]
def N__law_found : List Str := [PySem.Str.ofString "log", PySem.Str.ofString "pattern", PySem.Str.ofString "count", PySem.Str.ofString "sign"]
def N__law_contains : List Str := [PySem.Str.ofString "log", PySem.Str.ofString "pattern"]
def N__law_ordered : List Str := [PySem.Str.ofString "strings", PySem.Str.ofString "found", PySem.Str.ofString "one", PySem.Str.ofString "k"]
def N_law : List Str := [PySem.Str.ofString "script", PySem.Str.ofString "pen", PySem.Str.ofString "turn", PySem.Str.ofString "strings", PySem.Str.ofString "one", PySem.Str.ofString "at", PySem.Str.ofString "before", PySem.Str.ofString "due", PySem.Str.ofString "step", PySem.Str.ofString "other"]
def cNs : List Str := ["NotALog", "InvalidRules", "InvalidClaim", "Unpaired", "ParseError", "UnknownState", "UnknownEdge", "UnknownCheckpoint", "UnknownRecord", "EdgeExists", "Endless", "LimitExceeded", "Machine", "Automaton", "Downset", "Steps", "Levels", "Meetings", "RuleFollower", "KindFollower", "Session", "Lines"]
def fNs : List Str := ["value", "place", "line", "state", "edge", "number", "limit", "signs", "states", "kept", "first", "last"]
theorem fNs_ok : fldsOk fNs = true := by decide +kernel
/-! the program as combinators -/
def b_positions : MS := sSeq (sSet (.nm 2) (eLst (aNil))) (sSeq (sSet (.nm 3) (eC (.int 0))) (sSeq (sFor (.nm 4) (iSeq (eVar 1)) (sSeq (sSet (.nm 5) (eBM tyStr mFind (eVar 0) (aCons (eVar 4) (aCons (eVar 3) (aNil))))) (sSeq (sIf (MP.tB (e2 opLt (eVar 5) (eC (.int 0)))) (sRet (eC .non)) (sPass)) (sSeq (sExpr (eBM tyLst mAppend (eVar 2) (aCons (eVar 5) (aNil)))) (sSet (.nm 3) (e2 opAdd (eVar 5) (eC (.int 1)))))))) (sRet (eB bTuple (aCons (eVar 2) (aNil))))))
def b_contains : MS := sRet (e2 opIsNot (eCall 0 (aCons (eVar 0) (aCons (eVar 1) (aNil))) []) (eC .non))
def b_in_order : MS := sRet (eB bTuple (aCons (e1 opSortLen (eB bListX (aCons (eDc (eVar 1) (eC (.bl true)) (.nm 1) (iSeq (eVar 0)) (MP.tYes) [1]) (aNil)))) (aNil)))
def b_least_strings : MS := sSeq (sSet (.nm 1) (eLst (aNil))) (sSeq (sFor (.nm 2) (iSeq (eCall 2 (aCons (eVar 0) (aNil)) [])) (sIf (MP.tNot (tV (eB bAny (aCons (eLc (eCall 1 (aCons (eVar 2) (aCons (eVar 3) (aNil))) []) (.nm 3) (iSeq (eVar 1)) (MP.tYes) [3]) (aNil))))) (sExpr (eBM tyLst mAppend (eVar 1) (aCons (eVar 2) (aNil)))) (sPass))) (sRet (eB bTuple (aCons (eVar 1) (aNil)))))
def b__law_pen : MS := sRet (eLst (aCons (eB bListX (aCons (eCut (eVar 0) (pNone) (pSome (eC (.int 63)))) (aNil))) (aCons (eC (.int 0)) (aCons (eC (.int 0)) (aNil)))))
def b__law_fresh : MS := sSeq (sSet (.nm 1) (e2 opItem (eVar 0) (eC (.int 1)))) (sSeq (sItem (eVar 0) (eC (.int 1)) (e2 opAdd (eVar 1) (eC (.int 1)))) (sSeq (sSet (.nm 2) (eC (.int 0))) (sSeq (sIf (MP.tB (e2 opNe (e2 opItem (eVar 0) (eC (.int 0))) (eLst (aNil)))) (sSet (.nm 2) (e2 opItem (e2 opItem (eVar 0) (eC (.int 0))) (e2 opMod (eVar 1) (eB bLen (aCons (e2 opItem (eVar 0) (eC (.int 0))) (aNil)))))) (sPass)) (sSeq (sIf (MP.tAnd (MP.tB (e2 opLt (eVar 1) (eB bLen (aCons (e2 opItem (eVar 0) (eC (.int 0))) (aNil))))) (MP.tB (e2 opGe (eVar 2) (e2 opPow (eC (.int 10)) (eC (.int 18)))))) (sRet (e2 opSub (eVar 2) (e2 opPow (eC (.int 10)) (eC (.int 18))))) (sPass)) (sSeq (sSet (.nm 3) (eC (.int 2305843009213693951))) (sSeq (sSet (.nm 4) (e2 opMod (e2 opAdd (e2 opAdd (e2 opMul (eVar 2) (eC (.int 48271))) (e2 opMul (eC (.int 40692)) (eVar 1))) (eC (.int 31))) (eVar 3))) (sSeq (sSet (.nm 5) (eVar 4)) (sSeq (sFor (.nm 6) (iRange1 (eC (.int 6))) (sSeq (sSet (.nm 4) (e2 opMod (e2 opAdd (e2 opAdd (e2 opMul (eVar 4) (eVar 4)) (e2 opMul (e2 opMul (eC (.int 69621)) (e2 opAdd (eVar 6) (eC (.int 1)))) (e2 opAdd (eVar 1) (eC (.int 1))))) (eVar 2)) (eVar 3))) (sSet (.nm 5) (e2 opAdd (e2 opMul (eVar 5) (eVar 3)) (eVar 4))))) (sRet (eVar 5))))))))))
def b__law_draw : MS := sSeq (sIf (MP.tB (e2 opLt (e2 opItem (eVar 0) (eC (.int 2))) (eVar 1))) (sItem (eVar 0) (eC (.int 2)) (eCall 5 (aCons (eVar 0) (aNil)) [])) (sPass)) (sSeq (sSet (.nm 2) (e2 opMod (e2 opItem (eVar 0) (eC (.int 2))) (eVar 1))) (sSeq (sItem (eVar 0) (eC (.int 2)) (e2 opDiv (e2 opItem (eVar 0) (eC (.int 2))) (eVar 1))) (sRet (eVar 2))))
def b__law_string : MS := sRet (eBM tyStr mJoin (eC (.str [])) (aCons (eLc (e2 opItem (eC (.str [97, 98, 99])) (eCall 6 (aCons (eVar 0) (aCons (eVar 1) (aNil))) [])) (.nm 3) (iRange1 (eCall 6 (aCons (eVar 0) (aCons (e2 opAdd (eVar 2) (eC (.int 1))) (aNil))) [])) (MP.tYes) [3]) (aNil)))
def b__law_found : MS := sSeq (sSet (.nm 2) (eC (.int 0))) (sSeq (sFor (.nm 3) (iSeq (eVar 0)) (sIf (MP.tB (e2 opEq (eCut (eVar 1) (pSome (eVar 2)) (pSome (e2 opAdd (eVar 2) (eC (.int 1))))) (eVar 3))) (sSet (.nm 2) (e2 opAdd (eVar 2) (eC (.int 1)))) (sPass))) (sRet (eVar 2)))
def b__law_contains : MS := sRet (e2 opEq (eCall 8 (aCons (eVar 0) (aCons (eVar 1) (aNil))) []) (eB bLen (aCons (eVar 1) (aNil))))
def b__law_ordered : MS := sSeq (sSet (.nm 1) (eB bSorted (aCons (eLc (eTup (aCons (eB bLen (aCons (eVar 2) (aNil))) (aCons (eVar 2) (aNil)))) (.nm 2) (iSeq (eVar 0)) (MP.tYes) [2]) (aNil)))) (sRet (eLc (e2 opItem (eVar 2) (eC (.int 1))) (.tp [(.nm 3), (.nm 2)]) (iEnumE (eVar 1)) (MP.tOr (MP.tB (e2 opEq (eVar 3) (eC (.int 0)))) (MP.tB (e2 opNe (e2 opItem (eVar 1) (e2 opSub (eVar 3) (eC (.int 1)))) (eVar 2)))) [3, 2]))
def b_law : MS := sSeq (sSet (.nm 1) (eCall 4 (aCons (eVar 0) (aNil)) [])) (sSeq (sFor (.nm 2) (iRange1 (eC (.int 5))) (sSeq (sSet (.nm 3) (eLc (eCall 7 (aCons (eVar 1) (aCons (eC (.int 3)) (aCons (e2 opItem (eLst (aCons (eC (.int 2)) (aCons (eC (.int 4)) (aCons (eC (.int 9)) (aNil))))) (eCall 6 (aCons (eVar 1) (aCons (eC (.int 3)) (aNil))) [])) (aNil)))) []) (.nm 8) (iRange1 (eCall 6 (aCons (eVar 1) (aCons (eC (.int 12)) (aNil))) [])) (MP.tYes) [8])) (sSeq (sFor (.nm 4) (iSeq (eCut (eVar 3) (pNone) (pSome (eCall 6 (aCons (eVar 1) (aCons (eC (.int 4)) (aNil))) [])))) (sSeq (sSet (.nm 5) (eCall 6 (aCons (eVar 1) (aCons (e2 opAdd (eB bLen (aCons (eVar 4) (aNil))) (eC (.int 1))) (aNil))) [])) (sExpr (eBM tyLst mAppend (eVar 3) (aCons (e2 opAdd (e2 opAdd (eCut (eVar 4) (pNone) (pSome (eVar 5))) (e2 opItem (eC (.str [97, 98, 99])) (eCall 6 (aCons (eVar 1) (aCons (eC (.int 3)) (aNil))) []))) (eCut (eVar 4) (pSome (eVar 5)) (pNone))) (aNil)))))) (sSeq (sIf (MP.tB (e2 opEq (eCall 6 (aCons (eVar 1) (aCons (eC (.int 2)) (aNil))) []) (eC (.int 0)))) (sSet (.nm 3) (eLc (eVar 4) (.nm 4) (iSeq (eVar 3)) (MP.tB (e2 opNe (eVar 4) (eC (.str [])))) [4])) (sPass)) (sSeq (sPar 6 7 (eB bListX (aCons (eVar 3) (aNil))) (eLst (aNil))) (sSeq (sFor (.nm 4) (iSeq (eCall 10 (aCons (eVar 3) (aNil)) [])) (sIf (MP.tB (e2 opEq (eLc (eC (.int 1)) (.nm 9) (iSeq (eVar 3)) (MP.tAnd (MP.tB (e2 opNe (eVar 9) (eVar 4))) (tV (eCall 9 (aCons (eVar 4) (aCons (eVar 9) (aNil))) []))) [9]) (eLst (aNil)))) (sExpr (eBM tyLst mAppend (eVar 7) (aCons (eVar 4) (aNil)))) (sPass))) (sIf (MP.tOr (MP.tB (e2 opNe (eB bRepr (aCons (eCall 3 (aCons (eVar 3) (aNil)) []) (aNil))) (eB bRepr (aCons (eB bTuple (aCons (eVar 7) (aNil))) (aNil))))) (MP.tB (e2 opNe (eVar 3) (eVar 6)))) (sRet (eC (.bl false))) (sPass)))))))) (sRet (eAnd (e2 opEq (eCall 3 (aCons (eTup (aCons (eC (.str [97, 98])) (aCons (eC (.str [98])) (aCons (eC (.str [97, 97, 98])) (aCons (eC (.str [97, 97])) (aNil)))))) (aNil)) []) (eTup (aCons (eC (.str [98])) (aCons (eC (.str [97, 97])) (aNil))))) (e2 opEq (eCall 3 (aCons (eLst (aCons (eC (.str [])) (aNil))) (aNil)) []) (eTup (aCons (eC (.str [])) (aNil)))))))
def tb : List Fn := [⟨2, 6, b_positions⟩, ⟨2, 2, b_contains⟩, ⟨1, 2, b_in_order⟩, ⟨1, 4, b_least_strings⟩, ⟨1, 1, b__law_pen⟩, ⟨1, 7, b__law_fresh⟩, ⟨2, 3, b__law_draw⟩, ⟨3, 4, b__law_string⟩, ⟨2, 4, b__law_found⟩, ⟨2, 2, b__law_contains⟩, ⟨1, 4, b__law_ordered⟩, ⟨1, 10, b_law⟩]
/-! what the text has around it -/
structure Fs (P : Program) (w : World) (K : PySem.W.Frag) (mg : Str → Option Value) (base : Heap) (G : Gx) (n : Nat) : Prop where
  hK : G.K = K
  g_positions : mg "positions" = some (.ref (He.ga K "positions"))
  c_positions : Cal G P w K mg base ⟨callN tb n⟩ (rm n) (He.ga K "positions") 0 []
  g_contains : mg "contains" = some (.ref (He.ga K "contains"))
  c_contains : Cal G P w K mg base ⟨callN tb n⟩ (rm n) (He.ga K "contains") 1 []
  g_in_order : mg "in_order" = some (.ref (He.ga K "in_order"))
  c_in_order : Cal G P w K mg base ⟨callN tb n⟩ (rm n) (He.ga K "in_order") 2 []
  g_least_strings : mg "least_strings" = some (.ref (He.ga K "least_strings"))
  c_least_strings : Cal G P w K mg base ⟨callN tb n⟩ (rm n) (He.ga K "least_strings") 3 []
  g__law_pen : mg "_law_pen" = some (.ref (He.ga K "_law_pen"))
  c__law_pen : Cal G P w K mg base ⟨callN tb n⟩ (rm n) (He.ga K "_law_pen") 4 []
  g__law_fresh : mg "_law_fresh" = some (.ref (He.ga K "_law_fresh"))
  c__law_fresh : Cal G P w K mg base ⟨callN tb n⟩ (rm n) (He.ga K "_law_fresh") 5 []
  g__law_draw : mg "_law_draw" = some (.ref (He.ga K "_law_draw"))
  c__law_draw : Cal G P w K mg base ⟨callN tb n⟩ (rm n) (He.ga K "_law_draw") 6 []
  g__law_string : mg "_law_string" = some (.ref (He.ga K "_law_string"))
  c__law_string : Cal G P w K mg base ⟨callN tb n⟩ (rm n) (He.ga K "_law_string") 7 []
  g__law_found : mg "_law_found" = some (.ref (He.ga K "_law_found"))
  c__law_found : Cal G P w K mg base ⟨callN tb n⟩ (rm n) (He.ga K "_law_found") 8 []
  g__law_contains : mg "_law_contains" = some (.ref (He.ga K "_law_contains"))
  c__law_contains : Cal G P w K mg base ⟨callN tb n⟩ (rm n) (He.ga K "_law_contains") 9 []
  g__law_ordered : mg "_law_ordered" = some (.ref (He.ga K "_law_ordered"))
  c__law_ordered : Cal G P w K mg base ⟨callN tb n⟩ (rm n) (He.ga K "_law_ordered") 10 []
  g_law : mg "law" = some (.ref (He.ga K "law"))
  c_law : Cal G P w K mg base ⟨callN tb n⟩ (rm n) (He.ga K "law") 11 []
  l_0 : G.ne.fld 0 = "value"
  l_1 : G.ne.fld 1 = "place"
  l_2 : G.ne.fld 2 = "line"
  l_3 : G.ne.fld 3 = "state"
  l_4 : G.ne.fld 4 = "edge"
  l_5 : G.ne.fld 5 = "number"
  l_6 : G.ne.fld 6 = "limit"
  l_7 : G.ne.fld 7 = "signs"
  l_8 : G.ne.fld 8 = "states"
  l_9 : G.ne.fld 9 = "kept"
  l_10 : G.ne.fld 10 = "first"
  l_11 : G.ne.fld 11 = "last"
  f_any : mg "any" = none
  f_enumerate : mg "enumerate" = none
  f_len : mg "len" = none
  f_list : mg "list" = none
  f_range : mg "range" = none
  f_repr : mg "repr" = none
  f_sorted : mg "sorted" = none
  f_tuple : mg "tuple" = none
  lm_in_order : LamC K mg base G (He.ga K "in_order") (("in_order" ++ ".<locals>." : Str) ++ "<lambda>")
theorem sc_positions : FnScope N_positions ["log", "pattern"] (defScope s_positions) := ⟨rfl, rfl, rfl, by decide +kernel, rfl, by decide +kernel, by decide +kernel⟩
theorem sc_contains : FnScope N_contains ["log", "pattern"] (defScope s_contains) := ⟨rfl, rfl, rfl, by decide +kernel, rfl, by decide +kernel, by decide +kernel⟩
theorem sc_in_order : FnScope N_in_order ["strings"] (defScope s_in_order) := ⟨rfl, rfl, rfl, by decide +kernel, rfl, by decide +kernel, by decide +kernel⟩
theorem sc_least_strings : FnScope N_least_strings ["strings"] (defScope s_least_strings) := ⟨rfl, rfl, rfl, by decide +kernel, rfl, by decide +kernel, by decide +kernel⟩
theorem sc__law_pen : FnScope N__law_pen ["script"] (defScope s__law_pen) := ⟨rfl, rfl, rfl, by decide +kernel, rfl, by decide +kernel, by decide +kernel⟩
theorem sc__law_fresh : FnScope N__law_fresh ["pen"] (defScope s__law_fresh) := ⟨rfl, rfl, rfl, by decide +kernel, rfl, by decide +kernel, by decide +kernel⟩
theorem sc__law_draw : FnScope N__law_draw ["pen", "many"] (defScope s__law_draw) := ⟨rfl, rfl, rfl, by decide +kernel, rfl, by decide +kernel, by decide +kernel⟩
theorem sc__law_string : FnScope N__law_string ["pen", "signs", "most"] (defScope s__law_string) := ⟨rfl, rfl, rfl, by decide +kernel, rfl, by decide +kernel, by decide +kernel⟩
theorem sc__law_found : FnScope N__law_found ["log", "pattern"] (defScope s__law_found) := ⟨rfl, rfl, rfl, by decide +kernel, rfl, by decide +kernel, by decide +kernel⟩
theorem sc__law_contains : FnScope N__law_contains ["log", "pattern"] (defScope s__law_contains) := ⟨rfl, rfl, rfl, by decide +kernel, rfl, by decide +kernel, by decide +kernel⟩
theorem sc__law_ordered : FnScope N__law_ordered ["strings"] (defScope s__law_ordered) := ⟨rfl, rfl, rfl, by decide +kernel, rfl, by decide +kernel, by decide +kernel⟩
theorem sc_law : FnScope N_law ["script"] (defScope s_law) := ⟨rfl, rfl, rfl, by decide +kernel, rfl, by decide +kernel, by decide +kernel⟩
section
variable {P : Program} {w : World} {K : PySem.W.Frag} {mg : Str → Option Value} {base : Heap} {G : Gx} {n : Nat} {f : Addr} {cdv : Value} {A : Around} {outer : List Env} {s : Shared} {H : Hp} {E : XK}
theorem d_positions (h : Fs P w K mg base G n) (hr : Room (rm n + 1) (A.deeper (envOfC "positions" (defScope s_positions) s.heap.objs.size f cdv))) (h0 : Room (rm n) (A.deeper (envOfC "positions" (defScope s_positions) s.heap.objs.size f cdv))) (h2 : Room 2 (A.deeper (envOfC "positions" (defScope s_positions) s.heap.objs.size f cdv))) (c : Ctx G (cxOf (L2.CX P w) P w K mg base N_positions "positions" (defScope s_positions) f cdv A outer s H E) (fun c d _ H => E c d H)) : PSs (cxOf (L2.CX P w) P w K mg base N_positions "positions" (defScope s_positions) f cdv A outer s H E) (defBody s_positions) (tS G (fun c d _ H => E c d H) ⟨callN tb n⟩ b_positions) :=
  s_cons (s_set (r_lst (r_nil)) (gn c.toCtx0 2)) (s_cons (s_set (r_int) (gn c.toCtx0 3)) (s_cons (s_for c (i_seq c.toCtx0 (rv 1)) (gn c.toCtx0 4) (s_cons (s_set (r_bm PySem.F.plainAttrs_str PySem.F.slot_str_find PySem.F.type_str_find m_find (fun _ _ _ _ _ => ty_str) (rv 0) (r_cons (rv 4) (r_cons (rv 3) (r_nil)))) (gn c.toCtx0 5)) (s_cons (s_if (r_tb (o_lt) (rv 5) (r_int) (nomark _)) (s_one (s_ret (r_non))) (s_nil)) (s_cons (s_expr (r_bm PySem.F.plainAttrs_list PySem.F.slot_list_append PySem.F.type_list_append m_append (fun _ _ _ _ _ => ty_lst c.hK) (rv 2) (r_cons (rv 5) (r_nil)))) (s_one (s_set (r_op (o_add c.hK) (rv 5) (r_int)) (gn c.toCtx0 3))))))) (s_one (s_ret (r_ct (b_tuple c.hK) rfl h.f_tuple bo_tuple (r_cons (rv 2) (r_nil)))))))
theorem d_contains (h : Fs P w K mg base G n) (hr : Room (rm n + 1) (A.deeper (envOfC "contains" (defScope s_contains) s.heap.objs.size f cdv))) (h0 : Room (rm n) (A.deeper (envOfC "contains" (defScope s_contains) s.heap.objs.size f cdv))) (h2 : Room 2 (A.deeper (envOfC "contains" (defScope s_contains) s.heap.objs.size f cdv))) (c : Ctx G (cxOf (L2.CX P w) P w K mg base N_contains "contains" (defScope s_contains) f cdv A outer s H E) (fun c d _ H => E c d H)) : PSs (cxOf (L2.CX P w) P w K mg base N_contains "contains" (defScope s_contains) f cdv A outer s H E) (defBody s_contains) (tS G (fun c d _ H => E c d H) ⟨callN tb n⟩ b_contains) :=
  s_one (s_ret (r_cmp (o_isnot) (r_call c h.c_positions h0 rfl h.g_positions (r_cons (rv 0) (r_cons (rv 1) (r_nil)))) (r_non) (nomark _)))
theorem d_in_order (h : Fs P w K mg base G n) (hr : Room (rm n + 1) (A.deeper (envOfC "in_order" (defScope s_in_order) s.heap.objs.size f cdv))) (h0 : Room (rm n) (A.deeper (envOfC "in_order" (defScope s_in_order) s.heap.objs.size f cdv))) (h2 : Room 2 (A.deeper (envOfC "in_order" (defScope s_in_order) s.heap.objs.size f cdv))) (c : Ctx G (cxOf (L2.CX P w) P w K mg base N_in_order "in_order" (defScope s_in_order) f cdv A outer s H E) (fun c d _ H => E c d H)) (hf : f = He.ga K "in_order") (hcd : CdOf K f cdv) : PSs (cxOf (L2.CX P w) P w K mg base N_in_order "in_order" (defScope s_in_order) f cdv A outer s H E) (defBody s_in_order) (tS G (fun c d _ H => E c d H) ⟨callN tb n⟩ b_in_order) :=
  by
  subst hf
  obtain ⟨c0, P0, rfl, tb0, hP0, hq0⟩ := h.lm_in_order.of hcd
  exact s_one (s_ret (r_ct (b_tuple c.hK) rfl h.f_tuple bo_tuple (r_cons (r_sortLen (c := c0) (P := P0) c.toCtx0 hr rfl h.f_sorted h.f_len (r_ct (b_listX c) rfl h.f_list bo_list (r_cons (r_dc c (i_seq c.toCtx0 (rv 0)) (own := [(PySem.Str.ofString "string", 1)]) (by kernel_rfl) rfl (by decide) (fun _ _ _ _ _ => gn (Ctx.blk c).toCtx0 1) (fun _ _ _ _ _ => r_pts0) (fun _ _ _ _ _ => rv 1) (fun _ _ _ _ _ => r_bl)) (r_nil))) tb0 rfl hP0 hq0 (lamN_by (by decide +kernel)) rfl (fun _ _ _ _ _ _ _ => rfl)) (r_nil))))
theorem d_least_strings (h : Fs P w K mg base G n) (hr : Room (rm n + 1) (A.deeper (envOfC "least_strings" (defScope s_least_strings) s.heap.objs.size f cdv))) (h0 : Room (rm n) (A.deeper (envOfC "least_strings" (defScope s_least_strings) s.heap.objs.size f cdv))) (h2 : Room 2 (A.deeper (envOfC "least_strings" (defScope s_least_strings) s.heap.objs.size f cdv))) (c : Ctx G (cxOf (L2.CX P w) P w K mg base N_least_strings "least_strings" (defScope s_least_strings) f cdv A outer s H E) (fun c d _ H => E c d H)) : PSs (cxOf (L2.CX P w) P w K mg base N_least_strings "least_strings" (defScope s_least_strings) f cdv A outer s H E) (defBody s_least_strings) (tS G (fun c d _ H => E c d H) ⟨callN tb n⟩ b_least_strings) :=
  s_cons (s_set (r_lst (r_nil)) (gn c.toCtx0 1)) (s_cons (s_for c (i_seq c.toCtx0 (r_call c h.c_in_order h0 rfl h.g_in_order (r_cons (rv 0) (r_nil)))) (gn c.toCtx0 2) (s_one (s_if (r_not (r_tv c.toCtx0 (r_cb (b_any c) rfl h.f_any bo_any (r_cons (r_lc c (i_seq c.toCtx0 (rv 1)) (own := [(PySem.Str.ofString "kept", 3)]) (by kernel_rfl) rfl (by decide) (fun _ _ _ _ _ => gn (Ctx.blk c).toCtx0 3) (fun _ _ _ _ _ => r_pts0) (fun _ _ _ _ _ => r_call (Ctx.blk c) h.c_contains h0 rfl h.g_contains (r_cons (rv 2) (r_cons (rv 3) (r_nil))))) (r_nil))))) (s_one (s_expr (r_bm PySem.F.plainAttrs_list PySem.F.slot_list_append PySem.F.type_list_append m_append (fun _ _ _ _ _ => ty_lst c.hK) (rv 1) (r_cons (rv 2) (r_nil))))) (s_nil)))) (s_one (s_ret (r_ct (b_tuple c.hK) rfl h.f_tuple bo_tuple (r_cons (rv 1) (r_nil))))))
theorem d__law_pen (h : Fs P w K mg base G n) (hr : Room (rm n + 1) (A.deeper (envOfC "_law_pen" (defScope s__law_pen) s.heap.objs.size f cdv))) (h0 : Room (rm n) (A.deeper (envOfC "_law_pen" (defScope s__law_pen) s.heap.objs.size f cdv))) (h2 : Room 2 (A.deeper (envOfC "_law_pen" (defScope s__law_pen) s.heap.objs.size f cdv))) (c : Ctx G (cxOf (L2.CX P w) P w K mg base N__law_pen "_law_pen" (defScope s__law_pen) f cdv A outer s H E) (fun c d _ H => E c d H)) : PSs (cxOf (L2.CX P w) P w K mg base N__law_pen "_law_pen" (defScope s__law_pen) f cdv A outer s H E) (defBody s__law_pen) (tS G (fun c d _ H => E c d H) ⟨callN tb n⟩ b__law_pen) :=
  s_one (s_ret (r_lst (r_cons (r_ct (b_listX c) rfl h.f_list bo_list (r_cons (r_cut c.toCtx0 (rv 0) (r_pn) (r_ps (r_int))) (r_nil))) (r_cons (r_int) (r_cons (r_int) (r_nil))))))
theorem d__law_fresh (h : Fs P w K mg base G n) (hr : Room (rm n + 1) (A.deeper (envOfC "_law_fresh" (defScope s__law_fresh) s.heap.objs.size f cdv))) (h0 : Room (rm n) (A.deeper (envOfC "_law_fresh" (defScope s__law_fresh) s.heap.objs.size f cdv))) (h2 : Room 2 (A.deeper (envOfC "_law_fresh" (defScope s__law_fresh) s.heap.objs.size f cdv))) (c : Ctx G (cxOf (L2.CX P w) P w K mg base N__law_fresh "_law_fresh" (defScope s__law_fresh) f cdv A outer s H E) (fun c d _ H => E c d H)) : PSs (cxOf (L2.CX P w) P w K mg base N__law_fresh "_law_fresh" (defScope s__law_fresh) f cdv A outer s H E) (defBody s__law_fresh) (tS G (fun c d _ H => E c d H) ⟨callN tb n⟩ b__law_fresh) :=
  s_cons (s_set (r_ix c.toCtx0 (rv 0) (r_int)) (gn c.toCtx0 1)) (s_cons (s_item (rv 0) (r_int) (r_op (o_add c.hK) (rv 1) (r_int))) (s_cons (s_set (r_int) (gn c.toCtx0 2)) (s_cons (s_if (r_tb (o_neC c.toCtx0) (r_ix c.toCtx0 (rv 0) (r_int)) (r_lst (r_nil)) (nomark _)) (s_one (s_set (r_ix c.toCtx0 (r_ix c.toCtx0 (rv 0) (r_int)) (r_op o_mod (rv 1) (r_cb (b_len c.hK) rfl h.f_len bo_len (r_cons (r_ix c.toCtx0 (rv 0) (r_int)) (r_nil))))) (gn c.toCtx0 2))) (s_nil)) (s_cons (s_if (PW.pt (r_and (r_tb (o_lt) (rv 1) (r_cb (b_len c.hK) rfl h.f_len bo_len (r_cons (r_ix c.toCtx0 (rv 0) (r_int)) (r_nil))) (nomark _)) (r_and1 (r_tb (o_ge) (rv 2) (r_op o_pow (r_int) (r_int)) (nomark _))))) (s_one (s_ret (r_op o_sub (rv 2) (r_op o_pow (r_int) (r_int))))) (s_nil)) (s_cons (s_set (r_int) (gn c.toCtx0 3)) (s_cons (s_set (r_op o_mod (r_op (o_add c.hK) (r_op (o_add c.hK) (r_op o_mul (rv 2) (r_int)) (r_op o_mul (r_int) (rv 1))) (r_int)) (rv 3)) (gn c.toCtx0 4)) (s_cons (s_set (rv 4) (gn c.toCtx0 5)) (s_cons (s_for c (i_range1 rfl h.f_range (r_int)) (gn c.toCtx0 6) (s_cons (s_set (r_op o_mod (r_op (o_add c.hK) (r_op (o_add c.hK) (r_op o_mul (rv 4) (rv 4)) (r_op o_mul (r_op o_mul (r_int) (r_op (o_add c.hK) (rv 6) (r_int))) (r_op (o_add c.hK) (rv 1) (r_int)))) (rv 2)) (rv 3)) (gn c.toCtx0 4)) (s_one (s_set (r_op (o_add c.hK) (r_op o_mul (rv 5) (rv 3)) (rv 4)) (gn c.toCtx0 5))))) (s_one (s_ret (rv 5)))))))))))
theorem d__law_draw (h : Fs P w K mg base G n) (hr : Room (rm n + 1) (A.deeper (envOfC "_law_draw" (defScope s__law_draw) s.heap.objs.size f cdv))) (h0 : Room (rm n) (A.deeper (envOfC "_law_draw" (defScope s__law_draw) s.heap.objs.size f cdv))) (h2 : Room 2 (A.deeper (envOfC "_law_draw" (defScope s__law_draw) s.heap.objs.size f cdv))) (c : Ctx G (cxOf (L2.CX P w) P w K mg base N__law_draw "_law_draw" (defScope s__law_draw) f cdv A outer s H E) (fun c d _ H => E c d H)) : PSs (cxOf (L2.CX P w) P w K mg base N__law_draw "_law_draw" (defScope s__law_draw) f cdv A outer s H E) (defBody s__law_draw) (tS G (fun c d _ H => E c d H) ⟨callN tb n⟩ b__law_draw) :=
  s_cons (s_if (r_tb (o_lt) (r_ix c.toCtx0 (rv 0) (r_int)) (rv 1) (nomark _)) (s_one (s_item (rv 0) (r_int) (r_call c h.c__law_fresh h0 rfl h.g__law_fresh (r_cons (rv 0) (r_nil))))) (s_nil)) (s_cons (s_set (r_op o_mod (r_ix c.toCtx0 (rv 0) (r_int)) (rv 1)) (gn c.toCtx0 2)) (s_cons (s_item (rv 0) (r_int) (r_op o_div (r_ix c.toCtx0 (rv 0) (r_int)) (rv 1))) (s_one (s_ret (rv 2)))))
theorem d__law_string (h : Fs P w K mg base G n) (hr : Room (rm n + 1) (A.deeper (envOfC "_law_string" (defScope s__law_string) s.heap.objs.size f cdv))) (h0 : Room (rm n) (A.deeper (envOfC "_law_string" (defScope s__law_string) s.heap.objs.size f cdv))) (h2 : Room 2 (A.deeper (envOfC "_law_string" (defScope s__law_string) s.heap.objs.size f cdv))) (c : Ctx G (cxOf (L2.CX P w) P w K mg base N__law_string "_law_string" (defScope s__law_string) f cdv A outer s H E) (fun c d _ H => E c d H)) : PSs (cxOf (L2.CX P w) P w K mg base N__law_string "_law_string" (defScope s__law_string) f cdv A outer s H E) (defBody s__law_string) (tS G (fun c d _ H => E c d H) ⟨callN tb n⟩ b__law_string) :=
  s_one (s_ret (r_bm PySem.F.plainAttrs_str PySem.F.slot_str_join PySem.F.type_str_join (m_join c.hK) (fun _ _ _ _ _ => ty_str) (r_str (by decide +kernel)) (r_cons (r_lc c (i_range1 rfl h.f_range (r_call c h.c__law_draw h0 rfl h.g__law_draw (r_cons (rv 0) (r_cons (r_op (o_add c.hK) (rv 2) (r_int)) (r_nil))))) (own := [(PySem.Str.ofString "step", 3)]) (by kernel_rfl) rfl (by decide) (fun _ _ _ _ _ => gn (Ctx.blk c).toCtx0 3) (fun _ _ _ _ _ => r_pts0) (fun _ _ _ _ _ => r_ix (Ctx.blk c).toCtx0 (r_str (by decide +kernel)) (r_call (Ctx.blk c) h.c__law_draw h0 rfl h.g__law_draw (r_cons (rv 0) (r_cons (rv 1) (r_nil)))))) (r_nil))))
theorem d__law_found (h : Fs P w K mg base G n) (hr : Room (rm n + 1) (A.deeper (envOfC "_law_found" (defScope s__law_found) s.heap.objs.size f cdv))) (h0 : Room (rm n) (A.deeper (envOfC "_law_found" (defScope s__law_found) s.heap.objs.size f cdv))) (h2 : Room 2 (A.deeper (envOfC "_law_found" (defScope s__law_found) s.heap.objs.size f cdv))) (c : Ctx G (cxOf (L2.CX P w) P w K mg base N__law_found "_law_found" (defScope s__law_found) f cdv A outer s H E) (fun c d _ H => E c d H)) : PSs (cxOf (L2.CX P w) P w K mg base N__law_found "_law_found" (defScope s__law_found) f cdv A outer s H E) (defBody s__law_found) (tS G (fun c d _ H => E c d H) ⟨callN tb n⟩ b__law_found) :=
  s_cons (s_set (r_int) (gn c.toCtx0 2)) (s_cons (s_for c (i_seq c.toCtx0 (rv 0)) (gn c.toCtx0 3) (s_one (s_if (r_tb (o_eqC c.toCtx0) (r_cut c.toCtx0 (rv 1) (r_ps (rv 2)) (r_ps (r_op (o_add c.hK) (rv 2) (r_int)))) (rv 3) (nomark _)) (s_one (s_set (r_op (o_add c.hK) (rv 2) (r_int)) (gn c.toCtx0 2))) (s_nil)))) (s_one (s_ret (rv 2))))
theorem d__law_contains (h : Fs P w K mg base G n) (hr : Room (rm n + 1) (A.deeper (envOfC "_law_contains" (defScope s__law_contains) s.heap.objs.size f cdv))) (h0 : Room (rm n) (A.deeper (envOfC "_law_contains" (defScope s__law_contains) s.heap.objs.size f cdv))) (h2 : Room 2 (A.deeper (envOfC "_law_contains" (defScope s__law_contains) s.heap.objs.size f cdv))) (c : Ctx G (cxOf (L2.CX P w) P w K mg base N__law_contains "_law_contains" (defScope s__law_contains) f cdv A outer s H E) (fun c d _ H => E c d H)) : PSs (cxOf (L2.CX P w) P w K mg base N__law_contains "_law_contains" (defScope s__law_contains) f cdv A outer s H E) (defBody s__law_contains) (tS G (fun c d _ H => E c d H) ⟨callN tb n⟩ b__law_contains) :=
  s_one (s_ret (r_cmp (o_eqC c.toCtx0) (r_call c h.c__law_found h0 rfl h.g__law_found (r_cons (rv 0) (r_cons (rv 1) (r_nil)))) (r_cb (b_len c.hK) rfl h.f_len bo_len (r_cons (rv 1) (r_nil))) (nomark _)))
theorem d__law_ordered (h : Fs P w K mg base G n) (hr : Room (rm n + 1) (A.deeper (envOfC "_law_ordered" (defScope s__law_ordered) s.heap.objs.size f cdv))) (h0 : Room (rm n) (A.deeper (envOfC "_law_ordered" (defScope s__law_ordered) s.heap.objs.size f cdv))) (h2 : Room 2 (A.deeper (envOfC "_law_ordered" (defScope s__law_ordered) s.heap.objs.size f cdv))) (c : Ctx G (cxOf (L2.CX P w) P w K mg base N__law_ordered "_law_ordered" (defScope s__law_ordered) f cdv A outer s H E) (fun c d _ H => E c d H)) : PSs (cxOf (L2.CX P w) P w K mg base N__law_ordered "_law_ordered" (defScope s__law_ordered) f cdv A outer s H E) (defBody s__law_ordered) (tS G (fun c d _ H => E c d H) ⟨callN tb n⟩ b__law_ordered) :=
  s_cons (s_set (r_cb (b_sorted c.toCtx0) rfl h.f_sorted bo_sorted (r_cons (r_lc c (i_seq c.toCtx0 (rv 0)) (own := [(PySem.Str.ofString "one", 2)]) (by kernel_rfl) rfl (by decide) (fun _ _ _ _ _ => gn (Ctx.blk c).toCtx0 2) (fun _ _ _ _ _ => r_pts0) (fun _ _ _ _ _ => r_tup (r_cons (r_cb (b_len (Ctx.blk c).hK) rfl h.f_len bo_len (r_cons (rv 2) (r_nil))) (r_cons (rv 2) (r_nil))))) (r_nil))) (gn c.toCtx0 1)) (s_one (s_ret (r_lc c (i_enum c.toCtx0 rfl h.f_enumerate (rv 1)) (own := [(PySem.Str.ofString "k", 3), (PySem.Str.ofString "one", 2)]) (by kernel_rfl) rfl (by decide) (fun _ _ _ _ _ => g_tup (Ctx.blk c) (g_cons (gn (Ctx.blk c).toCtx0 3) (g_cons (gn (Ctx.blk c).toCtx0 2) (g_nil)))) (fun _ _ _ _ _ => r_pts1 (PW.pt (r_or (r_tb (o_eqC (Ctx.blk c).toCtx0) (rv 3) (r_int) (nomark _)) (r_or1 (r_tb (o_neC (Ctx.blk c).toCtx0) (r_ix (Ctx.blk c).toCtx0 (rv 1) (r_op o_sub (rv 3) (r_int))) (rv 2) (nomark _)))))) (fun _ _ _ _ _ => r_ix (Ctx.blk c).toCtx0 (rv 2) (r_int)))))
theorem d_law (h : Fs P w K mg base G n) (hr : Room (rm n + 1) (A.deeper (envOfC "law" (defScope s_law) s.heap.objs.size f cdv))) (h0 : Room (rm n) (A.deeper (envOfC "law" (defScope s_law) s.heap.objs.size f cdv))) (h2 : Room 2 (A.deeper (envOfC "law" (defScope s_law) s.heap.objs.size f cdv))) (c : Ctx G (cxOf (L2.CX P w) P w K mg base N_law "law" (defScope s_law) f cdv A outer s H E) (fun c d _ H => E c d H)) : PSs (cxOf (L2.CX P w) P w K mg base N_law "law" (defScope s_law) f cdv A outer s H E) (defBody s_law) (tS G (fun c d _ H => E c d H) ⟨callN tb n⟩ b_law) :=
  s_cons (s_set (r_call c h.c__law_pen h0 rfl h.g__law_pen (r_cons (rv 0) (r_nil))) (gn c.toCtx0 1)) (s_cons (s_for c (i_range1 rfl h.f_range (r_int)) (gn c.toCtx0 2) (s_cons (s_setLc (i := 3) c rfl rfl (sw_true rfl rfl rfl (by decide +kernel)) (i_range1 rfl h.f_range (r_call c h.c__law_draw h0 rfl h.g__law_draw (r_cons (rv 1) (r_cons (r_int) (r_nil))))) (own := [(PySem.Str.ofString "step", 8)]) (by kernel_rfl) rfl (by decide) (fun _ _ _ _ _ => gn (Ctx.blk c).toCtx0 8) (fun _ _ _ _ _ => r_pts0) (fun _ _ _ _ _ => r_call (Ctx.blk c) h.c__law_string h0 rfl h.g__law_string (r_cons (rv 1) (r_cons (r_int) (r_cons (r_ix (Ctx.blk c).toCtx0 (r_lst (r_cons (r_int) (r_cons (r_int) (r_cons (r_int) (r_nil))))) (r_call (Ctx.blk c) h.c__law_draw h0 rfl h.g__law_draw (r_cons (rv 1) (r_cons (r_int) (r_nil))))) (r_nil)))))) (s_cons (s_for c (i_seq c.toCtx0 (r_cut c.toCtx0 (rv 3) (r_pn) (r_ps (r_call c h.c__law_draw h0 rfl h.g__law_draw (r_cons (rv 1) (r_cons (r_int) (r_nil))))))) (gn c.toCtx0 4) (s_cons (s_set (r_call c h.c__law_draw h0 rfl h.g__law_draw (r_cons (rv 1) (r_cons (r_op (o_add c.hK) (r_cb (b_len c.hK) rfl h.f_len bo_len (r_cons (rv 4) (r_nil))) (r_int)) (r_nil)))) (gn c.toCtx0 5)) (s_one (s_expr (r_bm PySem.F.plainAttrs_list PySem.F.slot_list_append PySem.F.type_list_append m_append (fun _ _ _ _ _ => ty_lst c.hK) (rv 3) (r_cons (r_op (o_add c.hK) (r_op (o_add c.hK) (r_cut c.toCtx0 (rv 4) (r_pn) (r_ps (rv 5))) (r_ix c.toCtx0 (r_str (by decide +kernel)) (r_call c h.c__law_draw h0 rfl h.g__law_draw (r_cons (rv 1) (r_cons (r_int) (r_nil)))))) (r_cut c.toCtx0 (rv 4) (r_ps (rv 5)) (r_pn))) (r_nil))))))) (s_cons (s_if (r_tb (o_eqC c.toCtx0) (r_call c h.c__law_draw h0 rfl h.g__law_draw (r_cons (rv 1) (r_cons (r_int) (r_nil)))) (r_int) (nomark _)) (s_one (s_setLc (i := 3) c rfl rfl (sw_true rfl rfl rfl (by decide +kernel)) (i_seq c.toCtx0 (rv 3)) (own := [(PySem.Str.ofString "one", 4)]) (by kernel_rfl) rfl (by decide) (fun _ _ _ _ _ => gn (Ctx.blk c).toCtx0 4) (fun _ _ _ _ _ => r_pts1 (r_tb (o_neC (Ctx.blk c).toCtx0) (rv 4) (r_str (by decide +kernel)) (nomark _))) (fun _ _ _ _ _ => rv 4))) (s_nil)) (s_cons (s_par (i := 6) (j := 7) c rfl rfl (by decide) rfl rfl (r_ct (b_listX c) rfl h.f_list bo_list (r_cons (rv 3) (r_nil))) (r_lst (r_nil)) (by rfl)) (s_cons (s_for c (i_seq c.toCtx0 (r_call c h.c__law_ordered h0 rfl h.g__law_ordered (r_cons (rv 3) (r_nil)))) (gn c.toCtx0 4) (s_one (s_if (r_tb (o_eqC c.toCtx0) (r_lc c (i_seq c.toCtx0 (rv 3)) (own := [(PySem.Str.ofString "other", 9)]) (by kernel_rfl) rfl (by decide) (fun _ _ _ _ _ => gn (Ctx.blk c).toCtx0 9) (fun _ _ _ _ _ => r_pts1 (PW.pt (r_and (r_tb (o_neC (Ctx.blk c).toCtx0) (rv 9) (rv 4) (nomark _)) (r_and1 (r_tv (Ctx.blk c).toCtx0 (r_call (Ctx.blk c) h.c__law_contains h0 rfl h.g__law_contains (r_cons (rv 4) (r_cons (rv 9) (r_nil))))))))) (fun _ _ _ _ _ => r_int)) (r_lst (r_nil)) (nomark _)) (s_one (s_expr (r_bm PySem.F.plainAttrs_list PySem.F.slot_list_append PySem.F.type_list_append m_append (fun _ _ _ _ _ => ty_lst c.hK) (rv 7) (r_cons (rv 4) (r_nil))))) (s_nil)))) (s_one (s_if (PW.pt (r_or (r_tb (o_neC c.toCtx0) (r_cb (b_repr c.toCtx0) rfl h.f_repr bo_repr (r_cons (r_call c h.c_least_strings h0 rfl h.g_least_strings (r_cons (rv 3) (r_nil))) (r_nil))) (r_cb (b_repr c.toCtx0) rfl h.f_repr bo_repr (r_cons (r_ct (b_tuple c.hK) rfl h.f_tuple bo_tuple (r_cons (rv 7) (r_nil))) (r_nil))) (nomark _)) (r_or1 (r_tb (o_neC c.toCtx0) (rv 3) (rv 6) (nomark _))))) (s_one (s_ret (r_bl))) (s_nil))))))))) (s_one (s_ret (r_eand (r_cmp (o_eqC c.toCtx0) (r_call c h.c_least_strings h0 rfl h.g_least_strings (r_cons (r_tup (r_cons (r_str (by decide +kernel)) (r_cons (r_str (by decide +kernel)) (r_cons (r_str (by decide +kernel)) (r_cons (r_str (by decide +kernel)) (r_nil)))))) (r_nil))) (r_tup (r_cons (r_str (by decide +kernel)) (r_cons (r_str (by decide +kernel)) (r_nil)))) (nomark _)) (pe_one (r_cmp (o_eqC c.toCtx0) (r_call c h.c_least_strings h0 rfl h.g_least_strings (r_cons (r_lst (r_cons (r_str (by decide +kernel)) (r_nil))) (r_nil))) (r_tup (r_cons (r_str (by decide +kernel)) (r_nil))) (nomark _)))))))
end
/-! the head -/
def e_positions : He.DefD := ⟨("positions", none), "positions", "positions", defArgs s_positions, defBody s_positions, defScope s_positions, [], []⟩
def e_contains : He.DefD := ⟨("contains", none), "contains", "contains", defArgs s_contains, defBody s_contains, defScope s_contains, [], []⟩
def e_in_order : He.DefD := ⟨("in_order", none), "in_order", "in_order", defArgs s_in_order, defBody s_in_order, defScope s_in_order, [], []⟩
def e_least_strings : He.DefD := ⟨("least_strings", none), "least_strings", "least_strings", defArgs s_least_strings, defBody s_least_strings, defScope s_least_strings, [], []⟩
def e__law_pen : He.DefD := ⟨("_law_pen", none), "_law_pen", "_law_pen", defArgs s__law_pen, defBody s__law_pen, defScope s__law_pen, [], []⟩
def e__law_fresh : He.DefD := ⟨("_law_fresh", none), "_law_fresh", "_law_fresh", defArgs s__law_fresh, defBody s__law_fresh, defScope s__law_fresh, [], []⟩
def e__law_draw : He.DefD := ⟨("_law_draw", none), "_law_draw", "_law_draw", defArgs s__law_draw, defBody s__law_draw, defScope s__law_draw, [], []⟩
def e__law_string : He.DefD := ⟨("_law_string", none), "_law_string", "_law_string", defArgs s__law_string, defBody s__law_string, defScope s__law_string, [], []⟩
def e__law_found : He.DefD := ⟨("_law_found", none), "_law_found", "_law_found", defArgs s__law_found, defBody s__law_found, defScope s__law_found, [], []⟩
def e__law_contains : He.DefD := ⟨("_law_contains", none), "_law_contains", "_law_contains", defArgs s__law_contains, defBody s__law_contains, defScope s__law_contains, [], []⟩
def e__law_ordered : He.DefD := ⟨("_law_ordered", none), "_law_ordered", "_law_ordered", defArgs s__law_ordered, defBody s__law_ordered, defScope s__law_ordered, [], []⟩
def e_law : He.DefD := ⟨("law", none), "law", "law", defArgs s_law, defBody s_law, defScope s_law, [], []⟩
def fn : List He.DefD := [e_positions, e_contains, e_in_order, e_least_strings, e__law_pen, e__law_fresh, e__law_draw, e__law_string, e__law_found, e__law_contains, e__law_ordered, e_law]
def fa : List He.Fa := [.glo "positions", .glo "contains", .glo "in_order", .glo "least_strings", .glo "_law_pen", .glo "_law_fresh", .glo "_law_draw", .glo "_law_string", .glo "_law_found", .glo "_law_contains", .glo "_law_ordered", .glo "law", .free "any", .free "enumerate", .free "len", .free "list", .free "range", .free "repr", .free "sorted", .free "tuple"]
def fx : List (PySem.W.Frag → Bool) := []
abbrev R : PySem.W.OpenRow := PySem.W.OpenLaw.row PySem.Challenge.rw_gaprules_k04_least_strings
abbrev hk : PySem.W.Hook := hookT 4 fa fn fx
def ob (s : PySem.W.SharedT) : AlX := obsXT 4 fa fn fx (HandSHeadRun.getT s)
theorem ob_eq (s : PySem.W.SharedT) : ob s = hk.obs s.abs := obsXT_eq (HandSHeadRun.getT_eq s)
def loose : List String := (["positions", "contains", "least_strings", "_law_pen", "_law_fresh", "_law_draw", "_law_string", "_law_found", "_law_contains", "_law_ordered"] : List String)
def looseS : List PySem.Str := (["positions", "contains", "least_strings", "_law_pen", "_law_fresh", "_law_draw", "_law_string", "_law_found", "_law_contains", "_law_ordered"] : List PySem.Str)
theorem run (w : World) : HandSHeadRun.RunEq R (PySem.W.view R.prog [3, 13]) hk ob 3000 looseS w := by
  intro os
  kernel_rfl
abbrev Gk (w : World) (K : PySem.W.Frag) (P0 : Addr) : Gx := ⟨K, neOfT w K cNs fNs fNs_ok P0 (("in_order" ++ ".<locals>." : Str) ++ "<lambda>"), fun _ _ _ => False⟩
section
variable {P : Program} {w : World} {K : PySem.W.Frag} {mg : Str → Option Value} {base h : Heap}
theorem fs_of {P0 : Addr} (X : K.In h) (N : h.Ns mainGlobals mg) (c : SaysX fa fn fx K) (hl : LamC K mg base (Gk w K P0) (He.ga K "in_order") (("in_order" ++ ".<locals>." : Str) ++ "<lambda>")) : ∀ n, Fs P w K mg base (Gk w K P0) n := by
  obtain ⟨fd_positions, D_positions⟩ := c.d.def_ 0 (d := e_positions) rfl
  obtain ⟨fd_contains, D_contains⟩ := c.d.def_ 1 (d := e_contains) rfl
  obtain ⟨fd_in_order, D_in_order⟩ := c.d.def_ 2 (d := e_in_order) rfl
  obtain ⟨fd_least_strings, D_least_strings⟩ := c.d.def_ 3 (d := e_least_strings) rfl
  obtain ⟨fd__law_pen, D__law_pen⟩ := c.d.def_ 4 (d := e__law_pen) rfl
  obtain ⟨fd__law_fresh, D__law_fresh⟩ := c.d.def_ 5 (d := e__law_fresh) rfl
  obtain ⟨fd__law_draw, D__law_draw⟩ := c.d.def_ 6 (d := e__law_draw) rfl
  obtain ⟨fd__law_string, D__law_string⟩ := c.d.def_ 7 (d := e__law_string) rfl
  obtain ⟨fd__law_found, D__law_found⟩ := c.d.def_ 8 (d := e__law_found) rfl
  obtain ⟨fd__law_contains, D__law_contains⟩ := c.d.def_ 9 (d := e__law_contains) rfl
  obtain ⟨fd__law_ordered, D__law_ordered⟩ := c.d.def_ 10 (d := e__law_ordered) rfl
  obtain ⟨fd_law, D_law⟩ := c.d.def_ 11 (d := e_law) rfl
  have B_positions : Binds K fd_positions ["log", "pattern"] [] := D_positions.bindsN fun _ _ _ _ _ _ us hl => match us, hl with | [_, _], _ => rfl
  have B_contains : Binds K fd_contains ["log", "pattern"] [] := D_contains.bindsN fun _ _ _ _ _ _ us hl => match us, hl with | [_, _], _ => rfl
  have B_in_order : Binds K fd_in_order ["strings"] [] := D_in_order.bindsN fun _ _ _ _ _ _ us hl => match us, hl with | [_], _ => rfl
  have B_least_strings : Binds K fd_least_strings ["strings"] [] := D_least_strings.bindsN fun _ _ _ _ _ _ us hl => match us, hl with | [_], _ => rfl
  have B__law_pen : Binds K fd__law_pen ["script"] [] := D__law_pen.bindsN fun _ _ _ _ _ _ us hl => match us, hl with | [_], _ => rfl
  have B__law_fresh : Binds K fd__law_fresh ["pen"] [] := D__law_fresh.bindsN fun _ _ _ _ _ _ us hl => match us, hl with | [_], _ => rfl
  have B__law_draw : Binds K fd__law_draw ["pen", "many"] [] := D__law_draw.bindsN fun _ _ _ _ _ _ us hl => match us, hl with | [_, _], _ => rfl
  have B__law_string : Binds K fd__law_string ["pen", "signs", "most"] [] := D__law_string.bindsN fun _ _ _ _ _ _ us hl => match us, hl with | [_, _, _], _ => rfl
  have B__law_found : Binds K fd__law_found ["log", "pattern"] [] := D__law_found.bindsN fun _ _ _ _ _ _ us hl => match us, hl with | [_, _], _ => rfl
  have B__law_contains : Binds K fd__law_contains ["log", "pattern"] [] := D__law_contains.bindsN fun _ _ _ _ _ _ us hl => match us, hl with | [_, _], _ => rfl
  have B__law_ordered : Binds K fd__law_ordered ["strings"] [] := D__law_ordered.bindsN fun _ _ _ _ _ _ us hl => match us, hl with | [_], _ => rfl
  have B_law : Binds K fd_law ["script"] [] := D_law.bindsN fun _ _ _ _ _ _ us hl => match us, hl with | [_], _ => rfl
  intro n
  induction n with
  | zero => exact ⟨rfl,
      He.glo_ok X N (c.d.fact 0 (f := .glo "positions") rfl),
      (cal_of2 D_positions (fn_mp02 (ps := ["log", "pattern"])) B_positions (fun F e => by cases e; rfl)),
      He.glo_ok X N (c.d.fact 1 (f := .glo "contains") rfl),
      (cal_of2 D_contains (fn_mp02 (ps := ["log", "pattern"])) B_contains (fun F e => by cases e; rfl)),
      He.glo_ok X N (c.d.fact 2 (f := .glo "in_order") rfl),
      (cal_of2 D_in_order (fn_mp02 (ps := ["strings"])) B_in_order (fun F e => by cases e; rfl)),
      He.glo_ok X N (c.d.fact 3 (f := .glo "least_strings") rfl),
      (cal_of2 D_least_strings (fn_mp02 (ps := ["strings"])) B_least_strings (fun F e => by cases e; rfl)),
      He.glo_ok X N (c.d.fact 4 (f := .glo "_law_pen") rfl),
      (cal_of2 D__law_pen (fn_mp02 (ps := ["script"])) B__law_pen (fun F e => by cases e; rfl)),
      He.glo_ok X N (c.d.fact 5 (f := .glo "_law_fresh") rfl),
      (cal_of2 D__law_fresh (fn_mp02 (ps := ["pen"])) B__law_fresh (fun F e => by cases e; rfl)),
      He.glo_ok X N (c.d.fact 6 (f := .glo "_law_draw") rfl),
      (cal_of2 D__law_draw (fn_mp02 (ps := ["pen", "many"])) B__law_draw (fun F e => by cases e; rfl)),
      He.glo_ok X N (c.d.fact 7 (f := .glo "_law_string") rfl),
      (cal_of2 D__law_string (fn_mp02 (ps := ["pen", "signs", "most"])) B__law_string (fun F e => by cases e; rfl)),
      He.glo_ok X N (c.d.fact 8 (f := .glo "_law_found") rfl),
      (cal_of2 D__law_found (fn_mp02 (ps := ["log", "pattern"])) B__law_found (fun F e => by cases e; rfl)),
      He.glo_ok X N (c.d.fact 9 (f := .glo "_law_contains") rfl),
      (cal_of2 D__law_contains (fn_mp02 (ps := ["log", "pattern"])) B__law_contains (fun F e => by cases e; rfl)),
      He.glo_ok X N (c.d.fact 10 (f := .glo "_law_ordered") rfl),
      (cal_of2 D__law_ordered (fn_mp02 (ps := ["strings"])) B__law_ordered (fun F e => by cases e; rfl)),
      He.glo_ok X N (c.d.fact 11 (f := .glo "law") rfl),
      (cal_of2 D_law (fn_mp02 (ps := ["script"])) B_law (fun F e => by cases e; rfl)),
      rfl,
      rfl,
      rfl,
      rfl,
      rfl,
      rfl,
      rfl,
      rfl,
      rfl,
      rfl,
      rfl,
      rfl,
      He.free_ok X N (c.d.fact 12 (f := .free "any") rfl),
      He.free_ok X N (c.d.fact 13 (f := .free "enumerate") rfl),
      He.free_ok X N (c.d.fact 14 (f := .free "len") rfl),
      He.free_ok X N (c.d.fact 15 (f := .free "list") rfl),
      He.free_ok X N (c.d.fact 16 (f := .free "range") rfl),
      He.free_ok X N (c.d.fact 17 (f := .free "repr") rfl),
      He.free_ok X N (c.d.fact 18 (f := .free "sorted") rfl),
      He.free_ok X N (c.d.fact 19 (f := .free "tuple") rfl),
      hl⟩
  | succ n ih => exact ⟨rfl,
      He.glo_ok X N (c.d.fact 0 (f := .glo "positions") rfl),
      (cal_of2 D_positions (fn_mp2 (i := 0) (F := ⟨2, 6, b_positions⟩) D_positions sc_positions rfl rfl rfl (fun cdv A outer s H E hr cx => d_positions ih hr (room_h0 hr) (room_h2 hr) cx)) B_positions (fun F e => by cases e; rfl)),
      He.glo_ok X N (c.d.fact 1 (f := .glo "contains") rfl),
      (cal_of2 D_contains (fn_mp2 (i := 1) (F := ⟨2, 2, b_contains⟩) D_contains sc_contains rfl rfl rfl (fun cdv A outer s H E hr cx => d_contains ih hr (room_h0 hr) (room_h2 hr) cx)) B_contains (fun F e => by cases e; rfl)),
      He.glo_ok X N (c.d.fact 2 (f := .glo "in_order") rfl),
      (cal_of2 D_in_order (fn_mp3 (i := 2) (F := ⟨1, 2, b_in_order⟩) D_in_order sc_in_order rfl rfl rfl (fun cdv A outer s H E hr hcd cx => d_in_order ih hr (room_h0 hr) (room_h2 hr) cx rfl hcd)) B_in_order (fun F e => by cases e; rfl)),
      He.glo_ok X N (c.d.fact 3 (f := .glo "least_strings") rfl),
      (cal_of2 D_least_strings (fn_mp2 (i := 3) (F := ⟨1, 4, b_least_strings⟩) D_least_strings sc_least_strings rfl rfl rfl (fun cdv A outer s H E hr cx => d_least_strings ih hr (room_h0 hr) (room_h2 hr) cx)) B_least_strings (fun F e => by cases e; rfl)),
      He.glo_ok X N (c.d.fact 4 (f := .glo "_law_pen") rfl),
      (cal_of2 D__law_pen (fn_mp2 (i := 4) (F := ⟨1, 1, b__law_pen⟩) D__law_pen sc__law_pen rfl rfl rfl (fun cdv A outer s H E hr cx => d__law_pen ih hr (room_h0 hr) (room_h2 hr) cx)) B__law_pen (fun F e => by cases e; rfl)),
      He.glo_ok X N (c.d.fact 5 (f := .glo "_law_fresh") rfl),
      (cal_of2 D__law_fresh (fn_mp2 (i := 5) (F := ⟨1, 7, b__law_fresh⟩) D__law_fresh sc__law_fresh rfl rfl rfl (fun cdv A outer s H E hr cx => d__law_fresh ih hr (room_h0 hr) (room_h2 hr) cx)) B__law_fresh (fun F e => by cases e; rfl)),
      He.glo_ok X N (c.d.fact 6 (f := .glo "_law_draw") rfl),
      (cal_of2 D__law_draw (fn_mp2 (i := 6) (F := ⟨2, 3, b__law_draw⟩) D__law_draw sc__law_draw rfl rfl rfl (fun cdv A outer s H E hr cx => d__law_draw ih hr (room_h0 hr) (room_h2 hr) cx)) B__law_draw (fun F e => by cases e; rfl)),
      He.glo_ok X N (c.d.fact 7 (f := .glo "_law_string") rfl),
      (cal_of2 D__law_string (fn_mp2 (i := 7) (F := ⟨3, 4, b__law_string⟩) D__law_string sc__law_string rfl rfl rfl (fun cdv A outer s H E hr cx => d__law_string ih hr (room_h0 hr) (room_h2 hr) cx)) B__law_string (fun F e => by cases e; rfl)),
      He.glo_ok X N (c.d.fact 8 (f := .glo "_law_found") rfl),
      (cal_of2 D__law_found (fn_mp2 (i := 8) (F := ⟨2, 4, b__law_found⟩) D__law_found sc__law_found rfl rfl rfl (fun cdv A outer s H E hr cx => d__law_found ih hr (room_h0 hr) (room_h2 hr) cx)) B__law_found (fun F e => by cases e; rfl)),
      He.glo_ok X N (c.d.fact 9 (f := .glo "_law_contains") rfl),
      (cal_of2 D__law_contains (fn_mp2 (i := 9) (F := ⟨2, 2, b__law_contains⟩) D__law_contains sc__law_contains rfl rfl rfl (fun cdv A outer s H E hr cx => d__law_contains ih hr (room_h0 hr) (room_h2 hr) cx)) B__law_contains (fun F e => by cases e; rfl)),
      He.glo_ok X N (c.d.fact 10 (f := .glo "_law_ordered") rfl),
      (cal_of2 D__law_ordered (fn_mp2 (i := 10) (F := ⟨1, 4, b__law_ordered⟩) D__law_ordered sc__law_ordered rfl rfl rfl (fun cdv A outer s H E hr cx => d__law_ordered ih hr (room_h0 hr) (room_h2 hr) cx)) B__law_ordered (fun F e => by cases e; rfl)),
      He.glo_ok X N (c.d.fact 11 (f := .glo "law") rfl),
      (cal_of2 D_law (fn_mp2 (i := 11) (F := ⟨1, 10, b_law⟩) D_law sc_law rfl rfl rfl (fun cdv A outer s H E hr cx => d_law ih hr (room_h0 hr) (room_h2 hr) cx)) B_law (fun F e => by cases e; rfl)),
      rfl,
      rfl,
      rfl,
      rfl,
      rfl,
      rfl,
      rfl,
      rfl,
      rfl,
      rfl,
      rfl,
      rfl,
      He.free_ok X N (c.d.fact 12 (f := .free "any") rfl),
      He.free_ok X N (c.d.fact 13 (f := .free "enumerate") rfl),
      He.free_ok X N (c.d.fact 14 (f := .free "len") rfl),
      He.free_ok X N (c.d.fact 15 (f := .free "list") rfl),
      He.free_ok X N (c.d.fact 16 (f := .free "range") rfl),
      He.free_ok X N (c.d.fact 17 (f := .free "repr") rfl),
      He.free_ok X N (c.d.fact 18 (f := .free "sorted") rfl),
      He.free_ok X N (c.d.fact 19 (f := .free "tuple") rfl),
      hl⟩
end
theorem holds_of (hl : ∀ ns : List Int, ns.length ≤ 63 → (∀ z ∈ ns, Builtin.Int.intBits z ≤ 1048576) → ∃ S', callN tb 4 11 [.ref 0] (store0 ns) = .ok (.bl true) S') : PySem.Challenge.rw_gaprules_k04_least_strings.Holds := by
  w_on; o_law
  refine HandSHeadRun.head_any (r := PySem.W.OpenLaw.row PySem.Challenge.rw_gaprules_k04_least_strings) (q := PySem.W.view R.prog [3, 13]) (H := hk) (ob := ob) (M := 3000) (loose := looseS) (d := HandSHeadRun.topDef R.prog 13) (kwd := []) ob_eq
    (by kernel_rfl) (fun s => by kernel_rfl) run (by kernel_rfl) (by kernel_rfl) (by kernel_rfl) (by rfl) (by first | assumption | decide +kernel) (by decide +kernel) ⟨rfl, rfl, rfl, rfl, rfl, by decide +kernel⟩ ?hw ?hc
  case hw => w_witness2
  case hc =>
    refine walk_mp3 (l := PySem.Challenge.rw_gaprules_k04_least_strings) (nm := 63) (k := 4) (r := rm 4) (i := 11) (x := "script") (tb := tb) rfl (by decide) (by kernel_rfl) ⟨rfl, by decide, by decide⟩ ?F hl
    intro w mg fa h Y N hmg0 tabs
    obtain ⟨K, KX, nt, c⟩ := Y
    have hmg : mg ("law" : PySem.Str) = some (.ref fa) := by
      have e : (HandSHeadRun.topDef R.prog 13).name = ("law" : PySem.Str) := by kernel_rfl
      rw [← e]
      exact hmg0
    obtain ⟨fd, D⟩ := c.d.def_ 11 (d := e_law) rfl
    have e := hmg.symm.trans (He.glo_ok KX N (c.d.fact 11 (f := .glo "law") rfl))
    cases e
    have b := FunD.bindsA (ps := ["script"]) D fun _ _ _ _ _ _ us hl => match us, hl with | [_], _ => rfl
    obtain ⟨fdl, Dl⟩ := c.d.def_ 2 (d := e_in_order) rfl
    obtain ⟨oc, od, dV, kV, doc, pm, an, cdv, ct, osl, rfl, lk, _, _, _⟩ := Dl.ex
    have hm0 : mg "in_order" = some (.ref (He.ga K "in_order")) := He.glo_ok KX N (c.d.fact 2 (f := .glo "in_order") rfl)
    obtain ⟨c0, P0, hc0, TA⟩ := tab_of tabs (dd := HandSHeadRun.topDef R.prog 3) (List.mem_of_getElem? (i := 0) (by kernel_rfl)) (by kernel_rfl) hm0 KX nt lk rfl
    exact ⟨Gk w K P0, fd, [(c0, P0)], KX, fun u hu => by rw [List.mem_singleton.mp hu]; exact TA, fun P hP => by rw [List.mem_singleton.mp hP]; simp, fun s u => b s [u] rfl, fun base _ _ hB => fn_mp2 (n := 3) (i := 11) (F := ⟨1, 10, b_law⟩) D sc_law rfl rfl rfl fun cdv A outer s H E hr cx => d_law (fs_of KX N c ⟨c0, P0, ⟨_, _, lk, rfl, hc0⟩, hB _ (List.mem_singleton.mpr rfl), List.mem_singleton.mpr rfl, rfl⟩ _) hr (room_h0 hr) (room_h2 hr) cx⟩
end K04

namespace K04
open MP
theorem positions_at (lv : Nat) : PosSpec (callN tb (lv + 1) 0) := by
  have e : callN tb (lv + 1) 0 = runFn ⟨2, 6, b_positions⟩ ⟨callN tb (lv + 0)⟩ := funext fun _ => callN_succ rfl
  rw [e]
  exact @positions_ok ⟨callN tb (lv + 0)⟩ 
theorem contains_at (lv : Nat) : HasSpec (callN tb (lv + 2) 1) := by
  have e : callN tb (lv + 2) 1 = runFn ⟨2, 2, b_contains⟩ ⟨callN tb (lv + 1)⟩ := funext fun _ => callN_succ rfl
  rw [e]
  exact @contains_ok ⟨callN tb (lv + 1)⟩ 0 (positions_at (lv + 0))
theorem inord_at (lv : Nat) : InOrdSpec (callN tb (lv + 1) 2) := by
  have e : callN tb (lv + 1) 2 = runFn ⟨1, 2, b_in_order⟩ ⟨callN tb (lv + 0)⟩ := funext fun _ => callN_succ rfl
  rw [e]
  exact @inord_ok ⟨callN tb (lv + 0)⟩ 
theorem least_at (lv : Nat) : LeastSpec (callN tb (lv + 3) 3) := by
  have e : callN tb (lv + 3) 3 = runFn ⟨1, 4, b_least_strings⟩ ⟨callN tb (lv + 2)⟩ := funext fun _ => callN_succ rfl
  rw [e]
  exact @least_ok ⟨callN tb (lv + 2)⟩ 2 1 (inord_at (lv + 1)) (contains_at (lv + 0))
theorem pen_at (lv : Nat) : PenSpec (callN tb (lv + 1) 4) := by
  have e : callN tb (lv + 1) 4 = runFn ⟨1, 1, b__law_pen⟩ ⟨callN tb (lv + 0)⟩ := funext fun _ => callN_succ rfl
  rw [e]
  exact @pen_ok ⟨callN tb (lv + 0)⟩ 
theorem fresh_at (lv : Nat) : FreshSpec (callN tb (lv + 1) 5) := by
  have e : callN tb (lv + 1) 5 = runFn ⟨1, 7, b__law_fresh⟩ ⟨callN tb (lv + 0)⟩ := funext fun _ => callN_succ rfl
  rw [e]
  exact @fresh_ok ⟨callN tb (lv + 0)⟩ 
theorem draw_at (lv : Nat) : DrawSpec (callN tb (lv + 2) 6) := by
  have e : callN tb (lv + 2) 6 = runFn ⟨2, 3, b__law_draw⟩ ⟨callN tb (lv + 1)⟩ := funext fun _ => callN_succ rfl
  rw [e]
  exact @draw_ok ⟨callN tb (lv + 1)⟩ 5 (fresh_at (lv + 0))
theorem string_at (lv : Nat) : StringSpec (callN tb (lv + 3) 7) := by
  have e : callN tb (lv + 3) 7 = runFn ⟨3, 4, b__law_string⟩ ⟨callN tb (lv + 2)⟩ := funext fun _ => callN_succ rfl
  rw [e]
  exact @string_ok ⟨callN tb (lv + 2)⟩ 6 (draw_at (lv + 0))
theorem found_at (lv : Nat) : ProgSpec (callN tb (lv + 1) 8) := by
  have e : callN tb (lv + 1) 8 = runFn ⟨2, 4, b__law_found⟩ ⟨callN tb (lv + 0)⟩ := funext fun _ => callN_succ rfl
  rw [e]
  exact @found_ok ⟨callN tb (lv + 0)⟩ 
theorem fits_at (lv : Nat) : FitSpec (callN tb (lv + 2) 9) := by
  have e : callN tb (lv + 2) 9 = runFn ⟨2, 2, b__law_contains⟩ ⟨callN tb (lv + 1)⟩ := funext fun _ => callN_succ rfl
  rw [e]
  exact @fits_ok ⟨callN tb (lv + 1)⟩ 8 (found_at (lv + 0))
theorem ordered_at (lv : Nat) : OrderedSpec (callN tb (lv + 1) 10) := by
  have e : callN tb (lv + 1) 10 = runFn ⟨1, 4, b__law_ordered⟩ ⟨callN tb (lv + 0)⟩ := funext fun _ => callN_succ rfl
  rw [e]
  exact @ordered_ok ⟨callN tb (lv + 0)⟩ 
theorem p_neRepr {S : Store} {k n b : Nat} {d : D} (h : Da S k n d b) (hn : n ≤ 40) (hb : b ≤ line) : ∃ t, ∀ S' (Q : D → Store → Prop), Keep S S' [k] → OkP (bRepr [d] S') Q = Q (.str t) S' := by
  obtain ⟨t, ht⟩ := repr_of h hn hb
  exact ⟨t, fun S' Q kp => ht S' kp Q⟩
theorem cut_takeG {α : Type} {l : List α} {i : Int} (h : 0 ≤ i) : cut l none (some i) = l.take i.toNat := by
  show ((l.drop 0).take ((if i < 0 then (max (i + l.length) 0).toNat else min i.toNat l.length) - 0)) = _
  rw [if_neg (by omega), List.drop_zero, Nat.sub_zero]
  by_cases hl : i.toNat ≤ l.length
  · rw [Nat.min_eq_left hl]
  · rw [Nat.min_eq_right (by omega), List.take_length, List.take_of_length_le (by omega)]
/-- lists of equal data are not unequal -/
theorem p_neLL {S : Store} {Q : D → Store → Prop} {n k j m b : Nat} {xs : List D} (h1 : S.get n = some (.lst xs)) (h2 : S.get k = some (.lst xs)) (hd : DaL S j m xs b) (hm : m ≤ 39) : OkP (opNe (.ref n) (.ref k) S) Q = Q (.bl false) S := by
  obtain ⟨ps, a, c, e⟩ := hd
  have e1 : optAll (snap S 39) xs = some ps := optAll_imp (fun _ _ _ z => snapK_snap (snapK_le hm z)) a
  unfold opNe eqD
  rw [snapL h1 e1, snapL h2 e1]
  show OkP (some (D.bl (!PySem.PyData.eqv (.list ps) (.list ps)), S)) Q = _
  rw [show PySem.PyData.eqv (.list ps) (.list ps) = true from eqv_selfs ps c]
  rfl
def Fn (N : Nat) (ss : List (List Nat)) : Prop := ∀ s ∈ ss, s.length ≤ N ∧ ∀ c ∈ s, c < 1000
def Fine (ss : List (List Nat)) : Prop := ∀ s ∈ ss, s.length ≤ 12 ∧ ∀ c ∈ s, c < 1000
theorem da_strs {S : Store} {k : Nat} {ss : List (List Nat)} (h : Fine ss) : DaL S k 3 (ss.map D.str) (ss.length * 200) :=
  (DaL.map (c := 122) fun s hs => (Da.str (n := 2) (h s hs).2).le (Nat.le_refl _) (by have := (h s hs).1; omega)).le (Nat.le_refl _) (by omega)
theorem fine_ord {ss : List (List Nat)} (h : Fine ss) : Fine (ordS ss) := fun s hs => h s (mem_ordS.mp hs)
theorem ord_1 : ordS [[97, 98], [98], [97, 97, 98], [97, 97]] = [[98], [97, 97], [97, 98], [97, 97, 98]] := by
  refine asc_uniq (ordS_asc _) (by decide +kernel) fun x => ?_
  rw [mem_ordS]
  simp only [List.mem_cons, List.not_mem_nil, or_false]
  constructor
  · intro h
    rcases h with h | h | h | h <;> simp [h]
  · intro h
    rcases h with h | h | h | h <;> simp [h]
theorem ord_2 : ordS [[]] = [[]] := asc_uniq (ordS_asc _) (by decide +kernel) fun x => by rw [mem_ordS]
theorem least_1 : leastS [[97, 98], [98], [97, 97, 98], [97, 97]] = [[98], [97, 97]] := by
  unfold leastS
  rw [ord_1]
  decide +kernel
theorem least_2 : leastS [[]] = [[]] := by
  unfold leastS
  rw [ord_2]
  decide +kernel
theorem law_ok (ns : List Int) (hn : ns.length ≤ 63) : Ok (callN tb 4 11 [.ref 0] (store0 ns)) (fun v _ => v = .bl true) X0 := by
  rw [callN_succ (F := ⟨1, 10, b_law⟩) rfl, ok_run]
  refine ⟨rfl, ?_⟩
  show OkS (b_law ⟨callN tb 3⟩ [some (.ref 0), none, none, none, none, none, none, none, none, none] (store0 ns)) _
  unfold b_law
  rw [oks_seq, oks_set]
  simp
  have hg : (store0 ns).get 0 = some (.rol (ns.map .int)) := Store.get_push_same _ _
  refine (pen_at 2 (S := store0 ns) (cs := ns) hg hn).imp fun v S1 ⟨k, q, e, hk, hq, kp, P⟩ => ?_
  subst e
  refine seq_mid (fun σ S' => ∃ x2 x3 x4 x5 x6 x7 x8 x9, σ = [some (.ref 0), some (.ref k), x2, x3, x4, x5, x6, x7, x8, x9]) ?_ ?_
  · rw [oks_for]
    have r6 : okR 5 = true := by decide
    simp [r6]
    refine for_seq (by rw [rangeL_len]; decide) (fun i σ S => (∃ x2 x3 x4 x5 x6 x7 x8 x9, σ = [some (.ref 0), some (.ref k), x2, x3, x4, x5, x6, x7, x8, x9]) ∧ Pen S k q) ⟨⟨_, _, _, _, _, _, _, _, rfl⟩, P⟩ ?_ (fun _ _ h => h.1)
    rintro i dd σ S hd ⟨⟨x2, x3, x4, x5, x6, x7, x8, x9, rfl⟩, P2⟩
    refine ⟨_, by simp; rfl, ?_⟩
    rw [oks_seq, oks_set]
    simp only [ok_lc, ok_i1, ok_call, ok_cons, ok_nil, ok_c, ok_var, List.getElem?_cons_zero, List.getElem?_cons_succ, isX_ref, List.append_nil]
    refine ⟨trivial, ?_⟩
    refine (draw_at 1 P2 (by omega) (by omega)).imp fun v S2 ⟨y, e, hy, k2, P3⟩ => ?_
    subst e
    obtain ⟨y, rfl⟩ : ∃ z : Nat, y = z := ⟨y.toNat, by omega⟩
    have oky : okR (y : Int) = true := okR_nat (by omega) (by omega)
    rw [p_rg1]
    refine ⟨oky, ?_⟩
    show Ok (compN (.seq (rangeL 0 1 y)) _ _ _ _ [some (.ref 0), some (.ref k), some dd, x3, x4, x5, x6, x7, none, x9] turns 0 (S2.push (.lst []))) _ _
    have lk2 := P3.lt
    refine Ok.imp (lc_seq (Q := fun S' => ∃ ss : List (List Nat), S'.get S2.size = some (.lst (ss.map .str)) ∧ Fn 9 ss ∧ ss.length ≤ 11 ∧ Pen S' k q) (by rw [rangeL_len]; unfold turns; omega)
      (fun i acc S' => ∃ ss : List (List Nat), acc = ss.map .str ∧ S'.get S2.size = some (.lst acc) ∧ Fn 9 ss ∧ Pen S' k q) ⟨[], rfl, Store.get_push_same _ _, (fun s hs => by cases hs), P3.keep (Keep.push _ (ex := [])) (by simp) (by simp)⟩ (fun _ _ _ ⟨_, _, h, _⟩ => h) ?_ (by rw [rangeL_len]; unfold line; omega) ?_) ?_
    · rintro j d acc S' hd' ha ⟨ss, rfl, g, f, P4⟩
      refine ⟨_, by simp; rfl, ?_⟩
      rw [ok_yes, if_pos rfl]
      simp only [ok_call, ok_cons, ok_nil, ok_c, ok_var, ok_e2, ok_lst, List.getElem?_cons_zero, List.getElem?_cons_succ, isX_ref, List.append_nil]
      refine ⟨trivial, by show 3 ≤ line; decide, ?_⟩
      have kA : Keep S' (S'.push (.lst [.int 2, .int 4, .int 9])) [] := Keep.push _
      have gA : (S'.push (.lst [.int 2, .int 4, .int 9])).get S'.size = some (.lst [.int 2, .int 4, .int 9]) := Store.get_push_same _ _
      have P5 := P4.keep kA (by simp) (by simp)
      have g5 := kA.get g (by simp)
      have lt4 := P4.lt
      have lg4 := Store.get_lt g
      generalize S'.push (.lst [.int 2, .int 4, .int 9]) = S5 at kA gA P5 g5 ⊢
      refine ⟨trivial, (draw_at 1 P5 (by omega) (by omega)).imp fun v S6 ⟨z, e, hz, k6, P6⟩ => ?_⟩
      subst e
      rw [p_item (k6.get gA (by simp; omega))]
      have g6 := k6.get g5 (by simp; omega)
      have key : ∀ most : Nat, most ≤ 9 → Ok (callN tb 3 7 [.ref k, .int 3, .int most] S6) (fun y S7 => S7.get S2.size = some (.lst (ss.map .str)) ∧ ∃ ss' : List (List Nat), ss.map D.str ++ [y] = ss'.map .str ∧ (S7.set S2.size (.lst (ss.map D.str ++ [y]))).get S2.size = some (.lst (ss.map D.str ++ [y])) ∧ Fn 9 ss' ∧ Pen (S7.set S2.size (.lst (ss.map D.str ++ [y]))) k q) X0 := fun most hm => by
        refine (string_at 0 (sg := 3) (most := most) P6 (by omega) (by omega) (by omega)).imp fun v S7 ⟨l, e, ⟨h1, h2⟩, k7, P7⟩ => ?_
        subst e
        have g7 := k7.get g6 (by simp; omega)
        have lg := Store.get_lt g7
        refine ⟨g7, ss ++ [l], by rw [List.map_append]; rfl, Store.get_set_same _ lg, fun s hs => ?_, P7.keep (ex := [S2.size]) (Keep.set _ lg (by simp)) (by simp; omega) (by simp; omega)⟩
        rcases List.mem_append.mp hs with hs | hs
        · exact f s hs
        · rw [List.mem_singleton] at hs
          subst hs
          refine ⟨by omega, fun c hc => ?_⟩
          have := h2 c hc
          simp at this
          omega
      have hz3 : z = 0 ∨ z = 1 ∨ z = 2 := by omega
      rcases hz3 with rfl | rfl | rfl
      · exact ⟨_, rfl, key 2 (by decide)⟩
      · exact ⟨_, rfl, key 4 (by decide)⟩
      · exact ⟨_, rfl, key 9 (by decide)⟩
    · rintro acc S' ha ⟨ss, rfl, g, f, P4⟩
      rw [rangeL_len, List.length_map] at ha
      exact ⟨ss, g, f, by omega, P4⟩
    rintro _ S3 ⟨ss, g3, f, hl, P4⟩
    refine ⟨_, rfl, ?_⟩
    dsimp only [List.set_cons_succ, List.set_cons_zero]
    -- some with one sign more
    have lg3 := Store.get_lt g3
    have lt4 := P4.lt
    generalize hn1 : S2.size = n1 at g3 lg3 lk2
    clear hn1
    have fF : Fine ss := fun s hs => ⟨by have := (f s hs).1; omega, (f s hs).2⟩
    refine seq_mid (fun σ S' => (∃ x4 x5 ts, σ = [some (.ref 0), some (.ref k), some dd, some (.ref n1), x4, x5, x6, x7, x8, x9] ∧ S'.get n1 = some (.lst (ts.map .str)) ∧ Fine ts ∧ ts.length ≤ 14) ∧ Pen S' k q ∧ n1 < S'.size) ?_ ?_
    · rw [oks_for]
      simp
      refine (draw_at 1 P4 (by omega) (by omega)).imp fun v S4 ⟨c, e, hc, k4, P5⟩ => ?_
      subst e
      refine ⟨c, rfl, ?_⟩
      have ne3 : n1 ≠ k := by omega
      have ne4 : n1 ≠ q := by omega
      have g4 := k4.get g3 (by simp [ne3])
      rw [p_cutL g4 (by rw [List.length_map]; unfold line; omega), cut_takeG (by omega)]
      have et : (ss.map D.str).take c.toNat = (ss.take c.toNat).map D.str := by rw [List.map_take]
      rw [et]
      have kA : Keep S4 (S4.push (.lst ((ss.take c.toNat).map D.str))) [] := Keep.push _
      have gA : (S4.push (.lst ((ss.take c.toNat).map D.str))).get S4.size = some (.lst ((ss.take c.toNat).map D.str)) := Store.get_push_same _ _
      have g5 := kA.get g4 (by simp)
      have P6 := P5.keep kA (by simp) (by simp)
      have lg4 := Store.get_lt g4
      have lt5 := P5.lt
      generalize S4.push (.lst ((ss.take c.toNat).map D.str)) = S5 at kA gA g5 P6 ⊢
      have f9 : Fn 9 (ss.take c.toNat) := fun s hs => f s (List.mem_of_mem_take hs)
      have hcl : (ss.take c.toNat).length ≤ 3 := by rw [List.length_take]; omega
      generalize ss.take c.toNat = us at gA f9 hcl
      rw [p_itL gA]
      generalize hn2 : S4.size = n2 at gA lg4 lt5
      clear hn2
      refine for_lst (xs := us.map D.str) (by rw [List.length_map]; unfold turns; omega) (fun i σ S' => (∃ x4 x5 ts, σ = [some (.ref 0), some (.ref k), some dd, some (.ref n1), x4, x5, x6, x7, x8, x9] ∧ S'.get n1 = some (.lst (ts.map .str)) ∧ Fine ts ∧ ts.length ≤ 11 + i) ∧ S'.get n2 = some (.lst (us.map .str)) ∧ Pen S' k q)
        (fun i σ S' h => h.2.1) ⟨⟨_, _, ss, rfl, g5, fF, by omega⟩, gA, P6⟩ ?_ ?_
      · rintro i d σ S' hd ⟨⟨x4', x5', ts, rfl, gt, ft, lt⟩, gu, P7⟩
        rw [List.getElem?_map] at hd
        obtain ⟨s, hs, rfl⟩ := Option.map_eq_some_iff.mp hd
        have hi := (List.getElem?_eq_some_iff.mp hs).1
        obtain ⟨s1, s2⟩ := f9 s (List.mem_of_getElem? hs)
        have l9 : s.length ≤ line := by unfold line; omega
        refine ⟨_, rfl, ?_⟩
        rw [oks_seq, oks_set]
        simp
        refine ⟨l9, ?_⟩
        refine (draw_at 1 P7 (m := (s.length : Int) + 1) (by omega) (by omega)).imp fun v S8 ⟨a, e, ha, k8, P8⟩ => ?_
        subst e
        rw [oks_expr]
        simp
        have gt8 := k8.get gt (by simp [ne3])
        refine ⟨by simp [tyLst, gt8], l9, ?_⟩
        refine (draw_at 1 P8 (by omega) (by omega)).imp fun v S9 ⟨z, e, hz, k9, P9⟩ => ?_
        subst e
        obtain ⟨ch, hch, hc2⟩ : ∃ c, atI [97, 98, 99] z = some c ∧ c < 1000 := by
          have : z = 0 ∨ z = 1 ∨ z = 2 := by omega
          rcases this with rfl | rfl | rfl
          · exact ⟨97, rfl, by omega⟩
          · exact ⟨98, rfl, by omega⟩
          · exact ⟨99, rfl, by omega⟩
        rw [p_itemS]
        refine ⟨ch, ⟨by decide, hch⟩, ?_⟩
        rw [cut_take (by omega), cut_drop (by omega), p_adds]
        have l1 : (s.take a.toNat).length ≤ 9 := by rw [List.length_take]; omega
        have l2 : (s.drop a.toNat).length ≤ 9 := by rw [List.length_drop]; omega
        refine ⟨by rw [List.length_singleton]; unfold line; omega, l9, ?_⟩
        rw [p_adds]
        refine ⟨by rw [List.length_append, List.length_singleton]; unfold line; omega, ?_⟩
        have gt9 := k9.get gt8 (by simp [ne3])
        have gu8 := k8.get gu (by simp; omega)
        have gu9 := k9.get gu8 (by simp; omega)
        rw [p_append gt9]
        have lg9 := Store.get_lt gt9
        refine ⟨by rw [List.length_map]; unfold line; omega, ?_⟩
        have kS : Keep S9 (S9.set n1 (.lst (ts.map D.str ++ [.str (s.take a.toNat ++ [ch] ++ s.drop a.toNat)]))) [n1] := Keep.set _ lg9 (by simp)
        refine ⟨⟨ts ++ [s.take a.toNat ++ [ch] ++ s.drop a.toNat], ?_, ?_, ?_⟩, kS.get gu9 (by simp; omega), P9.keep kS (by simp; omega) (by simp; omega)⟩
        · rw [Store.get_set_same _ lg9, List.map_append]; rfl
        · intro x hx
          rcases List.mem_append.mp hx with hx | hx
          · exact ft x hx
          · rw [List.mem_singleton] at hx
            subst hx
            refine ⟨?_, fun c hc => ?_⟩
            · rw [List.length_append, List.length_append, List.length_singleton, List.length_take, List.length_drop]; omega
            · rcases List.mem_append.mp hc with hc | hc
              · rcases List.mem_append.mp hc with hc | hc
                · exact s2 c (List.mem_of_mem_take hc)
                · rw [List.mem_singleton] at hc; omega
              · exact s2 c (List.mem_of_mem_drop hc)
        · rw [List.length_append, List.length_singleton]; omega
      · rintro σ S' ⟨⟨x4', x5', ts, rfl, gt, ft, lt⟩, gu, P7⟩
        rw [List.length_map] at lt
        exact ⟨⟨⟨_, _, rfl⟩, ts, gt, ft, by omega⟩, P7, Store.get_lt gt⟩
    rintro σ S4 ⟨⟨y4, y5, ts, rfl, gt, ft, lt⟩, P5, ln⟩
    refine seq_mid (fun σ S' => ∃ y4 y5 n1 ts, σ = [some (.ref 0), some (.ref k), some dd, some (.ref n1), y4, y5, x6, x7, x8, x9] ∧ S'.get n1 = some (.lst (ts.map .str)) ∧ Fine ts ∧ ts.length ≤ 14 ∧ Pen S' k q) ?_ ?_
    · rw [oks_if]
      simp
      refine (draw_at 1 P5 (by omega) (by omega)).imp fun v S5 ⟨z, e, hz, k5, P6⟩ => ?_
      subst e
      have ne3 : n1 ≠ k := by omega
      have g5 := k5.get gt (by simp [ne3])
      by_cases z0 : z = 0
      · simp [z0]
        rw [oks_set]
        simp only [ok_lc, ok_i1, ok_var, List.getElem?_cons_zero, List.getElem?_cons_succ, isX_ref]
        refine ⟨trivial, ?_⟩
        rw [p_itL g5]
        show Ok (compN (.lst n1) _ _ _ _ [some (.ref 0), some (.ref k), some dd, some (.ref n1), none, y5, x6, x7, x8, x9] turns 0 (S5.push (.lst []))) _ _
        refine Ok.imp (lc_fml (fun d => !decide (getS d = [])) (fun d => d) g5 (by rw [List.length_map]; omega) fun j d S' hd2 k2 => ?_) ?_
        · rw [List.getElem?_map] at hd2
          obtain ⟨x, hx, rfl⟩ := Option.map_eq_some_iff.mp hd2
          refine ⟨_, rfl, ?_⟩
          simp [getS]
          by_cases hx0 : x = []
          · exact .inl ⟨hx0, by simp [hx0], Keep.refl⟩
          · exact .inr ⟨hx0, by simp [hx0], Keep.refl⟩
        · rintro _ S6 ⟨g6, k6⟩
          have e6 : ((ts.map D.str).filter fun d => !decide (getS d = [])).map (fun d => d) = (ts.filter fun s => !decide (s = [])).map D.str := by
            rw [List.filter_map]
            simp only [List.map_id']
            rfl
          rw [e6] at g6
          refine ⟨_, rfl, ?_⟩
          exact ⟨_, _, _, rfl, _, g6, fun s hs => ft s (List.mem_filter.mp hs).1, Nat.le_trans (List.length_filter_le _ _) lt, P6.keep k6 (by simp) (by simp)⟩
      · simp [z0]
        rw [oks_pass]
        exact ⟨_, _, _, rfl, ts, g5, ft, lt, P6⟩
    rintro σ S5 ⟨z4, z5, m1, us, rfl, gu, fu, lu, P6⟩
    rw [oks_seq, oks_par]
    simp
    rw [p_listR gu]
    have kB : Keep S5 (S5.push (.lst (us.map D.str))) [] := Keep.push _
    have gB : (S5.push (.lst (us.map D.str))).get S5.size = some (.lst (us.map D.str)) := Store.get_push_same _ _
    have gu6 := kB.get gu (by simp)
    have P7 := P6.keep kB (by simp) (by simp)
    have lgu := Store.get_lt gu
    have zB : (S5.push (.lst (us.map D.str))).size = S5.size + 1 := Store.size_push _ _
    generalize S5.push (.lst (us.map D.str)) = S6 at kB gB gu6 P7 zB ⊢
    generalize hm2 : S5.size = m2 at gB lgu zB ⊢
    clear hm2
    have kC : Keep S6 (S6.push (.lst [])) [] := Keep.push _
    have gC : (S6.push (.lst [])).get S6.size = some (.lst (([] : List (List Nat)).map D.str)) := Store.get_push_same _ _
    have gu7 := kC.get gu6 (by simp)
    have gB7 := kC.get gB (by simp)
    have P8 := P7.keep kC (by simp) (by simp)
    generalize S6.push (.lst []) = S7 at kC gC gu7 gB7 P8 ⊢
    have lt7 := P7.lt
    generalize hm3 : S6.size = m3 at gC zB lt7 ⊢
    clear hm3
    have h1000 : ∀ s ∈ us, s.length ≤ 1000 ∧ ∀ c ∈ s, c < 1000 := fun s hs => ⟨by have := (fu s hs).1; omega, (fu s hs).2⟩
    have hbig : ∀ s ∈ us, s.length ≤ 1000000 := fun s hs => by have := (fu s hs).1; omega
    refine seq_mid (fun σ S' => (∃ y4 x9', σ = [some (.ref 0), some (.ref k), some dd, some (.ref m1), y4, z5, some (.ref m2), some (.ref m3), x8, x9']) ∧ S'.get m3 = some (.lst ((leastS us).map .str)) ∧ S'.get m1 = some (.lst (us.map .str)) ∧ S'.get m2 = some (.lst (us.map .str)) ∧ Pen S' k q) ?_ ?_
    · rw [oks_for]
      simp
      refine (ordered_at 2 gu7 (by omega) h1000).imp fun v S8 ⟨n3, e, g8, k8⟩ => ?_
      subst e
      have gu8 := k8.get gu7 (by simp)
      have gB8 := k8.get gB7 (by simp)
      have gC8 := k8.get gC (by simp)
      have P9 := P8.keep k8 (by simp) (by simp)
      have hol : (ordS us).length ≤ 14 := Nat.le_trans (len_ordS us) lu
      have hos : ∀ s ∈ ordS us, s ∈ us := fun s h => mem_ordS.mp h
      rw [leastS_eq]
      have hmin : ∀ s ∈ ordS us, isMin (ordS us) s = us.all fun o => decide (o = s) || !has s o := fun s _ => by
        unfold isMin
        rw [Bool.eq_iff_iff, List.all_eq_true, List.all_eq_true]
        exact ⟨fun h o ho => h o (mem_ordS.mpr ho), fun h o ho => h o (mem_ordS.mp ho)⟩
      generalize isMin (ordS us) = im at hmin
      generalize ordS us = L at g8 hol hos hmin
      rw [p_itL g8]
      have lt8 := P9.lt
      have ne31 : m3 ≠ m1 := by have := Store.get_lt gu; omega
      have le8 := k8.le
      have l3 := Store.get_lt gC
      have n33' : L ≠ [] → n3 ≠ m3 := fun h e => by
        rw [e, gC8] at g8
        have h1 := Option.some.inj g8
        injection h1 with h1
        cases L with
        | nil => exact h rfl
        | cons a r => cases h1
      refine for_lst (xs := L.map D.str) (by rw [List.length_map]; unfold turns; omega) (fun i σ S' => (∃ y4 x9', σ = [some (.ref 0), some (.ref k), some dd, some (.ref m1), y4, z5, some (.ref m2), some (.ref m3), x8, x9']) ∧ S'.get m3 = some (.lst (((L.take i).filter im).map .str)) ∧ S'.get n3 = some (.lst (L.map .str)) ∧ S'.get m1 = some (.lst (us.map .str)) ∧ S'.get m2 = some (.lst (us.map .str)) ∧ Pen S' k q)
        (fun i σ S' h => h.2.2.1) ⟨⟨_, _, rfl⟩, gC8, g8, gu8, gB8, P9⟩ ?_ ?_
      · rintro i d σ S' hd ⟨⟨y4', x9', rfl⟩, g, gn, g1, g2, PP⟩
        rw [List.getElem?_map] at hd
        obtain ⟨s, hs, rfl⟩ := Option.map_eq_some_iff.mp hd
        have hsm := List.mem_of_getElem? hs
        have hi := (List.getElem?_eq_some_iff.mp hs).1
        have ht : L.take (i + 1) = L.take i ++ [s] := by rw [List.take_succ, hs]; rfl
        rw [ht, List.filter_append]
        refine ⟨_, rfl, ?_⟩
        rw [oks_if]
        simp only [ok_tB, ok_e2, ok_lc, ok_i1, ok_lst, ok_nil, ok_var, List.set_cons_succ, List.set_cons_zero, List.getElem?_cons_zero, List.getElem?_cons_succ, isX_ref]
        refine ⟨trivial, ?_⟩
        rw [p_itL g1]
        show Ok (compN (.lst m1) _ _ _ _ [some (.ref 0), some (.ref k), some dd, some (.ref m1), some (.str s), z5, some (.ref m2), some (.ref m3), x8, none] turns 0 (S'.push (.lst []))) _ _
        refine Ok.imp (lc_fml (fun d => (!decide (getS d = s)) && has s (getS d)) (fun _ => .int 1) g1 (by rw [List.length_map]; omega) fun j d S2 hd2 k2 => ?_) ?_
        · rw [List.getElem?_map] at hd2
          obtain ⟨x, hx, rfl⟩ := Option.map_eq_some_iff.mp hd2
          have hxm := List.mem_of_getElem? hx
          refine ⟨_, rfl, ?_⟩
          simp only [ok_tAnd, ok_tB, ok_tV, ok_e2, ok_c, ok_call, ok_cons, ok_nil, ok_var, List.set_cons_succ, List.set_cons_zero, List.getElem?_cons_zero, List.getElem?_cons_succ, isX_str, p_nes, List.append_nil]
          refine ⟨trivial, trivial, _, rfl, ?_⟩
          by_cases hxs : x = s
          · rw [if_neg (by simp [hxs])]
            exact ⟨by simp [getS, hxs], Keep.refl, fun z => by cases z⟩
          · rw [if_pos (by simp [hxs])]
            refine ⟨trivial, trivial, (fits_at 1 (l := s) (p := x) (hbig s (hos s hsm)) (hbig x hxm)).imp fun y S3 ⟨e, e2⟩ => ?_⟩
            subst e; subst e2
            exact ⟨_, rfl, by simp [getS, hxs], Keep.refl, fun _ => ⟨trivial, Keep.refl⟩⟩
        · rintro _ S2 ⟨g5, k5⟩
          have e5 : ((us.map D.str).filter fun d => (!decide (getS d = s)) && has s (getS d)).map (fun _ => D.int 1) = intD ((us.filter fun o => (!decide (o = s)) && has s o).map fun _ => (1 : Int)) := by
            unfold intD
            rw [List.filter_map, List.map_map, List.map_map]
            rfl
          rw [e5] at g5
          have kN : Keep S2 (S2.push (.lst [])) [] := Keep.push _
          have gN : (S2.push (.lst [])).get S2.size = some (.lst (intD [])) := Store.get_push_same _ _
          refine ⟨by show 0 ≤ line; decide, ?_⟩
          have g5' := kN.get g5 (by simp)
          have k6 := k5.trans kN
          generalize S2.push (.lst []) = S6 at kN gN g5' k6 ⊢
          rw [p_eqInts g5' gN]
          have him : im s = decide (((us.filter fun o => (!decide (o = s)) && has s o).map fun _ => (1 : Int)) = []) := by
            rw [hmin s hsm, Bool.eq_iff_iff, List.all_eq_true, decide_eq_true_eq, List.map_eq_nil_iff, List.filter_eq_nil_iff]
            constructor
            · intro h o ho
              have := h o ho
              by_cases e1 : o = s <;> simp_all
            · intro h o ho
              have := h o ho
              by_cases e1 : o = s <;> simp_all
          rw [← him]
          refine ⟨_, rfl, ?_⟩
          have g' := k6.get g (by simp)
          cases hb : im s with
          | false =>
            rw [if_neg (by simp), oks_pass]
            have ef : [s].filter im = [] := by simp [hb]
            rw [ef, List.append_nil]
            exact ⟨⟨_, _, rfl⟩, g', k6.get gn (by simp), k6.get g1 (by simp), k6.get g2 (by simp), PP.keep k6 (by simp) (by simp)⟩
          | true =>
            rw [if_pos rfl, oks_expr]
            have ef : [s].filter im = [s] := by simp [hb]
            rw [ef]
            have lg' := Store.get_lt g'
            simp only [ok_BM, ok_cons, ok_nil, ok_var, List.set_cons_succ, List.set_cons_zero, List.getElem?_cons_zero, List.getElem?_cons_succ, isX_ref, isX_str]
            refine ⟨trivial, by simp [tyLst, g'], trivial, ?_⟩
            rw [p_append g']
            have hlen : (((L.take i).filter im).map D.str).length ≤ 14 := by
              rw [List.length_map]
              exact Nat.le_trans (List.length_filter_le _ _) (by rw [List.length_take]; omega)
            refine ⟨by unfold line; omega, ?_⟩
            have ea : ((L.take i).filter im).map D.str ++ [.str s] = ((L.take i).filter im ++ [s]).map D.str := by rw [List.map_append]; rfl
            rw [ea]
            have kS : Keep S6 (S6.set m3 (.lst (((L.take i).filter im ++ [s]).map D.str))) [m3] := Keep.set _ lg' (by simp)
            have n33 : n3 ≠ m3 := n33' fun e => by rw [e] at hsm; cases hsm
            exact ⟨⟨_, _, rfl⟩, Store.get_set_same _ lg', kS.get (k6.get gn (by simp)) (by simp [n33]), kS.get (k6.get g1 (by simp)) (by simp [ne31.symm]), kS.get (k6.get g2 (by simp)) (by simp; omega), (PP.keep k6 (by simp) (by simp)).keep kS (by simp; omega) (by simp; omega)⟩
      · rintro σ S' ⟨⟨y4', x9', rfl⟩, g, gn, g1, g2, PP⟩
        rw [List.length_map, List.take_length] at g
        exact ⟨⟨_, _, rfl⟩, g, g1, g2, PP⟩
    rintro σ S8 ⟨⟨y4, x9', rfl⟩, g8, gu8, gB8, P9⟩
    have fL : Fine (leastS us) := fun s hs => by
      rw [leastS_eq] at hs
      exact fu s (mem_ordS.mp (List.mem_filter.mp hs).1)
    have lL : (leastS us).length ≤ 14 := by
      rw [leastS_eq]
      exact Nat.le_trans (List.length_filter_le _ _) (Nat.le_trans (len_ordS us) lu)
    rw [oks_if]
    simp
    refine (least_at 0 (v := .ref m1) (ss := us) (.inr ⟨m1, rfl, gu8⟩) (by omega) hbig).imp fun v S9 ⟨e, k9⟩ => ?_
    subst e
    have daO : Da S9 k 4 (.tup ((leastS us).map D.str)) 10000 := (Da.tup (da_strs fL)).le (Nat.le_refl _) (by omega)
    obtain ⟨t, ht⟩ := p_neRepr daO (by decide) (by decide)
    rw [ht S9 _ Keep.refl, p_tuple (k9.get g8 (by simp)), ht S9 _ Keep.refl]
    simp
    rw [p_neLL (k9.get gu8 (by simp)) (k9.get gB8 (by simp)) (j := k) (m := 3) (da_strs fu) (by decide)]
    simp
    rw [oks_pass]
    exact ⟨⟨_, _, _, _, _, _, _, _, rfl⟩, P9.keep k9 (by simp) (by simp)⟩
  · rintro σ S ⟨x2, x3, x4, x5, x6, x7, x8, x9, rfl⟩
    rw [oks_ret]
    simp
    refine ⟨by decide, ?_⟩
    refine (least_at 0 (v := .tup ([[97, 98], [98], [97, 97, 98], [97, 97]].map .str)) (ss := [[97, 98], [98], [97, 97, 98], [97, 97]]) (.inl rfl) (by decide) (by decide)).imp fun v S1 ⟨e, k1⟩ => ?_
    subst e
    rw [least_1]
    have f1 : Fine [[98], [97, 97]] := by
      intro s hs
      simp at hs
      rcases hs with rfl | rfl <;> simp
    have d1 : Da S1 0 4 (.tup ([[98], [97, 97]].map D.str)) 404 := Da.tup (da_strs f1)
    refine ⟨by decide, ?_⟩
    show OkP (opEq (.tup ([[98], [97, 97]].map D.str)) (.tup ([[98], [97, 97]].map D.str)) S1) _
    rw [p_eqSelf d1 (by decide)]
    refine ⟨rfl, by decide, ?_⟩
    refine (least_at 0 (v := .ref S1.size) (ss := [[]]) (.inr ⟨_, rfl, Store.get_push_same _ _⟩) (by decide) (by decide)).imp fun v S2 ⟨e, k2⟩ => ?_
    subst e
    rw [least_2]
    refine ⟨by decide, ?_⟩
    have f2 : Fine [[]] := by
      intro s hs
      simp at hs
      subst hs
      simp
    have d2 : Da S2 0 4 (.tup ([[]].map D.str)) 204 := Da.tup (da_strs f2)
    show OkP (opEq (.tup ([[]].map D.str)) (.tup ([[]].map D.str)) S2) _
    rw [p_eqSelf d2 (by decide)]
end K04

theorem PySem.Challenge.cw_gaprules_k04_least_strings_holds : PySem.Challenge.rw_gaprules_k04_least_strings.Holds := by
  exact K04.holds_of fun ns h _ => by
    obtain ⟨a, S', e, z⟩ := (K04.law_ok ns h).ok
    subst z
    exact ⟨S', e⟩
