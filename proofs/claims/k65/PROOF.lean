import PyProof.Rows.All
import Wide.All
import OpenK.AllK
import Wide.FinOn
import PySem.Challenge.RW_gaprules_k65_kinds_followed
import PyProof.P3Statements
import PyProof.ReprReads
import HandS.ForMost
import HandS.ForExc
import HandS.Flow
import HandS.CallSlots
import KE.KDictKeyed
import HandS.Lambda
import HandS.TupAny
import HandS.StrMore
import HandS.Style
import HandS.Zip
import HandS.Defaults
import HandS.EndBits
import HandS.HeadHook3
import PyProof.Claim2Refuses
import KE.GoesEnum
import KE.GoesMore
import HandS.IsInst
import HandS.RaiseMore
import PyProof.ListStr
import PyProof.ReprRoads
import KE.SortCalls
import KE.DataCmp
import HandS.SortInts
import HandS.Dict
import HandS.ExcInit
import KE.KExcInit
import PyProof.ExcBaseAll.LookupError
import PyProof.ExcBaseAll.RuntimeError
import PyProof.ExcBaseAll.OverflowError
import HandS.TryMany
import HandS.ExcField
import HandS.ExcIs
import HandS.Head2
import HandS.HeadEnd
import KE.DataFind
import HandS.SetFor
import HandS.Strs
import HandS.DictComp
import HandS.Conv
import HandS.SetKeys
import HandS.Sort
import HandS.Replace
import KE.SortKeyHeap
import HandS.HeadHook4
import KE.GoesEnumKw
import PyProof.Rows.CallKwBuiltin
import PyProof.WalksMore
import HandS.Text
import HandS.FStr
import HandS.Codes
import PyProof.StrLawsTight
import PyProof.StrLawsChain
import HandS.ExcValue
import HandS.SetTxt0
import HandS.TupSets
import PyProof.StrLawsRepr
import PyProof.FitsInt
import KE.DataEq
set_option linter.all false
set_option maxRecDepth 100000
set_option Elab.async false
set_option maxHeartbeats 0
namespace MP
open PySem (PyData Str)
inductive D where
  | non | bl (b : Bool) | int (i : Int) | str (s : List Nat) | tup (xs : List D) | ref (n : Nat)
  | exn (c : Nat) (fs : List (Nat × D))
  | lam (f : Nat) (env : List D)
  deriving Inhabited
namespace D
mutual
def beq : D → D → Bool
  | .non, .non => true
  | .bl a, .bl b => a == b
  | .int a, .int b => a == b
  | .str a, .str b => a == b
  | .tup a, .tup b => beqAll a b
  | .ref a, .ref b => a == b
  | .lam f a, .lam g b => f == g && beqAll a b
  | _, _ => false
def beqAll : List D → List D → Bool
  | [], [] => true
  | a :: as, b :: bs => beq a b && beqAll as bs
  | _, _ => false
end
mutual
/-- a key of a dict: ints, texts, None, tuples of such -/
def isKey : Nat → D → Bool
  | _, .non => true
  | _, .int _ => true
  | _, .str _ => true
  | n, .tup xs => (match n with | 0 => false | n + 1 => isKeys n xs)
  | _, _ => false
def isKeys : Nat → List D → Bool
  | _, [] => true
  | n, x :: xs => isKey n x && isKeys n xs
end
end D
inductive Ob where
  | lst (xs : List D)
  | rol (xs : List D)
  | dct (kvs : List (D × D))
  | dtu (kvs : List (D × D))
  | fdt (kvs : List (D × D))
  | fdk (kvs : List (D × D))
  | ins (c : Nat) (fs : List (Nat × D))
  deriving Inhabited
inductive Trie where
  | leaf
  | node (v : Option Ob) (l r : Trie)
namespace Trie
def get : Trie → Nat → Option Ob
  | .leaf, _ => none
  | .node v l r, i => if i = 0 then v else if i % 2 = 1 then get l (i / 2) else get r (i / 2 - 1)
def setF : Nat → Trie → Nat → Ob → Trie
  | 0, t, _, _ => t
  | k + 1, .leaf, i, o => if i = 0 then .node (some o) .leaf .leaf else if i % 2 = 1 then .node none (setF k .leaf (i / 2) o) .leaf else .node none .leaf (setF k .leaf (i / 2 - 1) o)
  | k + 1, .node v l r, i, o => if i = 0 then .node (some o) l r else if i % 2 = 1 then .node v (setF k l (i / 2) o) r else .node v l (setF k r (i / 2 - 1) o)
theorem get_leaf (i : Nat) : get .leaf i = none := by cases i <;> rfl
theorem get_setF : ∀ (k : Nat) (t : Trie) (i j : Nat) (o : Ob), i < k → get (setF k t i o) j = if j = i then some o else get t j
  | 0, _, _, _, _, h => absurd h (Nat.not_lt_zero _)
  | k + 1, .leaf, i, j, o, h => by
    unfold setF
    by_cases hi : i = 0
    · subst hi
      rw [if_pos rfl]
      unfold get
      by_cases hj : j = 0
      · rw [if_pos hj, if_pos hj]
      · rw [if_neg hj, if_neg hj]
        split <;> rw [get_leaf]
    · rw [if_neg hi]
      by_cases ho : i % 2 = 1
      · rw [if_pos ho]
        show get (.node none (setF k .leaf (i / 2) o) .leaf) j = _
        unfold get
        by_cases hj : j = 0
        · rw [if_pos hj, if_neg (by omega)]
        · rw [if_neg hj]
          by_cases hjo : j % 2 = 1
          · rw [if_pos hjo, get_setF k .leaf (i / 2) (j / 2) o (by omega), get_leaf]
            by_cases e : j = i
            · rw [if_pos e, if_pos (by omega)]
            · rw [if_neg e, if_neg (by omega)]
          · rw [if_neg hjo, get_leaf, if_neg (by omega)]
      · rw [if_neg ho]
        show get (.node none .leaf (setF k .leaf (i / 2 - 1) o)) j = _
        unfold get
        by_cases hj : j = 0
        · rw [if_pos hj, if_neg (by omega)]
        · rw [if_neg hj]
          by_cases hjo : j % 2 = 1
          · rw [if_pos hjo, get_leaf, if_neg (by omega)]
          · rw [if_neg hjo, get_setF k .leaf (i / 2 - 1) (j / 2 - 1) o (by omega), get_leaf]
            by_cases e : j = i
            · rw [if_pos e, if_pos (by omega)]
            · rw [if_neg e, if_neg (by omega)]
  | k + 1, .node v l r, i, j, o, h => by
    unfold setF
    by_cases hi : i = 0
    · subst hi
      rw [if_pos rfl]
      unfold get
      by_cases hj : j = 0
      · rw [if_pos hj, if_pos hj]
      · rw [if_neg hj, if_neg hj, if_neg hj]
    · rw [if_neg hi]
      by_cases ho : i % 2 = 1
      · rw [if_pos ho]
        unfold get
        by_cases hj : j = 0
        · rw [if_pos hj, if_pos hj, if_neg (by omega)]
        · rw [if_neg hj, if_neg hj]
          by_cases hjo : j % 2 = 1
          · rw [if_pos hjo, if_pos hjo, get_setF k l (i / 2) (j / 2) o (by omega)]
            by_cases e : j = i
            · rw [if_pos e, if_pos (by omega)]
            · rw [if_neg e, if_neg (by omega)]
          · rw [if_neg hjo, if_neg hjo, if_neg (by omega)]
      · rw [if_neg ho]
        unfold get
        by_cases hj : j = 0
        · rw [if_pos hj, if_pos hj, if_neg (by omega)]
        · rw [if_neg hj, if_neg hj]
          by_cases hjo : j % 2 = 1
          · rw [if_pos hjo, if_pos hjo, if_neg (by omega)]
          · rw [if_neg hjo, if_neg hjo, get_setF k r (i / 2 - 1) (j / 2 - 1) o (by omega)]
            by_cases e : j = i
            · rw [if_pos e, if_pos (by omega)]
            · rw [if_neg e, if_neg (by omega)]
end Trie
structure Store where
  size : Nat
  t : Trie
namespace Store
def empty : Store := ⟨0, .leaf⟩
def get (S : Store) (n : Nat) : Option Ob := if n < S.size then S.t.get n else none
def set (S : Store) (n : Nat) (o : Ob) : Store := ⟨S.size, S.t.setF (S.size + 1) n o⟩
def push (S : Store) (o : Ob) : Store := ⟨S.size + 1, S.t.setF (S.size + 1) S.size o⟩
theorem size_push (S : Store) (o : Ob) : (S.push o).size = S.size + 1 := rfl
theorem size_set (S : Store) (n : Nat) (o : Ob) : (S.set n o).size = S.size := rfl
theorem get_lt {S : Store} {n : Nat} {o : Ob} (h : S.get n = some o) : n < S.size := by
  unfold get at h
  split at h
  · assumption
  · cases h
theorem get_push_same (S : Store) (o : Ob) : (S.push o).get S.size = some o := by
  show (if S.size < S.size + 1 then (S.t.setF (S.size + 1) S.size o).get S.size else none) = some o
  rw [if_pos (Nat.lt_succ_self _), Trie.get_setF _ _ _ _ _ (Nat.lt_succ_self _), if_pos rfl]
theorem get_push_lt {S : Store} {o : Ob} {n : Nat} (h : n < S.size) : (S.push o).get n = S.get n := by
  show (if n < S.size + 1 then (S.t.setF (S.size + 1) S.size o).get n else none) = (if n < S.size then S.t.get n else none)
  rw [if_pos (by omega), if_pos h, Trie.get_setF _ _ _ _ _ (Nat.lt_succ_self _), if_neg (by omega)]
theorem get_push_of {S : Store} {o o' : Ob} {n : Nat} (h : S.get n = some o) : (S.push o').get n = some o := by
  rw [get_push_lt (get_lt h)]; exact h
theorem get_set_same {S : Store} {n : Nat} (o : Ob) (h : n < S.size) : (S.set n o).get n = some o := by
  show (if n < S.size then (S.t.setF (S.size + 1) n o).get n else none) = some o
  rw [if_pos h, Trie.get_setF _ _ _ _ _ (by omega), if_pos rfl]
theorem get_set_ne {S : Store} {n k : Nat} (o : Ob) (hn : n < S.size) (h : k ≠ n) : (S.set n o).get k = S.get k := by
  show (if k < S.size then (S.t.setF (S.size + 1) n o).get k else none) = (if k < S.size then S.t.get k else none)
  rw [Trie.get_setF _ _ _ _ _ (by omega), if_neg h]
end Store
abbrev Fs := List (Nat × D)
inductive R (α : Type) where
  | ok (a : α) (S : Store)
  | ex (c : Nat) (fs : Fs) (S : Store)
  | bad
abbrev M (α : Type) := Store → R α
namespace M
def ret {α} (a : α) : M α := fun S => .ok a S
def bad {α} : M α := fun _ => .bad
def bind {α β} (m : M α) (f : α → M β) : M β := fun S => match m S with
  | .ok a S' => f a S'
  | .ex c fs S' => .ex c fs S'
  | .bad => .bad
end M
instance : Monad M where
  pure := M.ret
  bind := M.bind
abbrev P (α : Type) := Store → Option (α × Store)
namespace P
def ret {α} (a : α) : P α := fun S => some (a, S)
def bad {α} : P α := fun _ => none
end P
def M.of {α} (p : P α) : M α := fun S => match p S with
  | some (a, S') => .ok a S'
  | none => .bad
abbrev Slots := List (Option D)
structure Cfg where
  call : Nat → List D → M D
abbrev ME := Cfg → Slots → M D
abbrev MA := Cfg → Slots → M (List D)
abbrev MT := Cfg → Slots → M Bool
inductive SR where
  | nx (σ : Slots) (S : Store)
  | rt (d : D) (S : Store)
  | bk (σ : Slots) (S : Store)
  | ct (σ : Slots) (S : Store)
  | ex (c : Nat) (fs : Fs) (σ : Slots) (S : Store)
  | bad
abbrev MS := Cfg → Slots → Store → SR
def line : Nat := 16777216
def mkL (xs : List D) : P D := fun S => if xs.length ≤ line then some (.ref S.size, S.push (.lst xs)) else none
def mkT (xs : List D) : P D := fun S => if xs.length ≤ line then some (.tup xs, S) else none
def lstAt (S : Store) (n : Nat) : Option (List D) := match S.get n with
  | some (.lst xs) => some xs
  | some (.rol xs) => some xs
  | _ => none
def seqOf (S : Store) : D → Option (List D)
  | .tup xs => some xs
  | .ref n => lstAt S n
  | _ => none
def optAll {α β : Type} (f : α → Option β) : List α → Option (List β)
  | [] => some []
  | x :: xs => (match f x, optAll f xs with
    | some a, some b => some (a :: b)
    | _, _ => none)
def snap (S : Store) : Nat → D → Option PyData
  | 0, _ => none
  | _ + 1, .non => some .none
  | _ + 1, .bl b => some (.bool b)
  | _ + 1, .int i => some (.int i)
  | _ + 1, .str s => some (.str ⟨s.toArray⟩)
  | k + 1, .tup xs => (optAll (snap S k) xs).map .tuple
  | k + 1, .ref n => (match lstAt S n with
    | some xs => (optAll (snap S k) xs).map .list
    | none => none)
  | _ + 1, .exn _ _ => none
  | _ + 1, .lam _ _ => none
def snaps (S : Store) (k : Nat) (xs : List D) : Option (List PyData) := optAll (snap S k) xs
def deep : Nat := 40
def fget (f : Nat) : Fs → Option D
  | [] => none
  | (g, x) :: r => if g = f then some x else fget f r
def fput (f : Nat) (v : D) : Fs → Fs
  | [] => [(f, v)]
  | (g, x) :: r => if g = f then (g, v) :: r else (g, x) :: fput f v r
def isX : D → Bool
  | .exn _ _ => true
  | _ => false
def eVar (i : Nat) : ME := fun _ σ S => match σ[i]? with
  | some (some d) => if isX d = true then .bad else .ok d S
  | _ => .bad
def eC (d : D) : ME := fun _ _ S => .ok d S
def aNil : MA := fun _ _ S => .ok [] S
def aCons (a : ME) (r : MA) : MA := fun C σ => (a C σ).bind fun x => (r C σ).bind fun xs => M.ret (x :: xs)
def eTup (a : MA) : ME := fun C σ => (a C σ).bind fun xs => M.of (mkT xs)
def eLst (a : MA) : ME := fun C σ => (a C σ).bind fun xs => M.of (mkL xs)
def e1 (f : D → P D) (a : ME) : ME := fun C σ => (a C σ).bind fun x => M.of (f x)
def e2 (f : D → D → P D) (a b : ME) : ME := fun C σ => (a C σ).bind fun x => (b C σ).bind fun y => M.of (f x y)
def small64 (i : Int) : Bool := decide (-18446744073709551616 < i) && decide (i < 18446744073709551616)
def repeatL {α} (n : Nat) (xs : List α) : List α := (List.replicate n xs).flatten
def opAdd : D → D → P D
  | .int i, .int j => P.ret (.int (i + j))
  | .str a, .str b => fun S => if a.length + b.length ≤ line then some (.str (a ++ b), S) else none
  | .tup a, .tup b => fun S => if a.length + b.length ≤ line then some (.tup (a ++ b), S) else none
  | .ref a, .ref b => fun S => match S.get a, S.get b with
    | some (.lst xs), some (.lst ys) => if xs.length + ys.length ≤ line then some (.ref S.size, S.push (.lst (xs ++ ys))) else none
    | _, _ => none
  | _, _ => P.bad
def opSub : D → D → P D
  | .int i, .int j => P.ret (.int (i - j))
  | _, _ => P.bad
def opMul : D → D → P D
  | .int i, .int j => fun S => if (small64 i || small64 j) = true then some (.int (i * j), S) else none
  | .str a, .int k => fun S => if 0 ≤ k ∧ k < 1000000 ∧ a.length * k.toNat ≤ line then some (.str (repeatL k.toNat a), S) else none
  | .ref a, .int k => fun S => match S.get a with
    | some (.lst xs) => if 0 ≤ k ∧ k < 1000000 ∧ xs.length * k.toNat ≤ line then some (.ref S.size, S.push (.lst (repeatL k.toNat xs))) else none
    | _ => none
  | _, _ => P.bad
def opDiv : D → D → P D
  | .int i, .int j => fun S => if j ≠ 0 ∧ j.natAbs < 1073741824 then some (.int (i.fdiv j), S) else none
  | _, _ => P.bad
def opMod : D → D → P D
  | .int i, .int j => fun S => if j ≠ 0 then some (.int (i.fmod j), S) else none
  | _, _ => P.bad
def opPow : D → D → P D
  | .int i, .int j => fun S => if 0 ≤ j ∧ j ≤ 1000000 ∧ i.natAbs < 18446744073709551616 then some (.int (i ^ j.toNat), S) else none
  | _, _ => P.bad
def ltN : List Nat → List Nat → Bool
  | [], [] => false
  | [], _ :: _ => true
  | _ :: _, [] => false
  | a :: r, b :: t => decide (a < b) || (decide (a = b) && ltN r t)
inductive Sig where
  | int | str | tup (ss : List Sig)
mutual
def Sig.beq : Sig → Sig → Bool
  | .int, .int => true
  | .str, .str => true
  | .tup a, .tup b => Sig.beqs a b
  | _, _ => false
def Sig.beqs : List Sig → List Sig → Bool
  | [], [] => true
  | a :: r, b :: t => Sig.beq a b && Sig.beqs r t
  | _, _ => false
end
mutual
def sigOf : Nat → D → Option Sig
  | _, .int _ => some .int
  | _, .str _ => some .str
  | 0, .tup _ => none
  | k + 1, .tup xs => (sigsOf k xs).map .tup
  | _, _ => none
def sigsOf : Nat → List D → Option (List Sig)
  | _, [] => some []
  | k, x :: xs => (match sigOf k x, sigsOf k xs with
    | some a, some b => some (a :: b)
    | _, _ => none)
end
mutual
/-- the order of data of one signature -/
def ltD : D → D → Bool
  | .int i, .int j => decide (i < j)
  | .str a, .str b => ltN a b
  | .tup a, .tup b => ltDs a b
  | _, _ => false
def ltDs : List D → List D → Bool
  | [], [] => false
  | [], _ :: _ => true
  | _ :: _, [] => false
  | a :: r, b :: t => if D.beq a b = true then ltDs r t else ltD a b
end
def orderable (x y : D) : Bool := match x, y with
  | .int _, .int _ => true
  | .str _, .str _ => true
  | _, _ => false
def opLt (x y : D) : P D := fun S => if orderable x y = true then some (.bl (ltD x y), S) else none
def opLe (x y : D) : P D := fun S => if orderable x y = true then some (.bl (!ltD y x), S) else none
def opGe (x y : D) : P D := fun S => if orderable x y = true then some (.bl (!ltD x y), S) else none
def eqD (S : Store) (x y : D) : Option Bool := match snap S deep x, snap S deep y with
  | some a, some b => some (PyData.eqv a b)
  | _, _ => none
def opEq (x y : D) : P D := fun S => match eqD S x y with
  | some b => some (.bl b, S)
  | none => none
def opNe (x y : D) : P D := fun S => match eqD S x y with
  | some b => some (.bl (!b), S)
  | none => none
def isNonB : D → Bool
  | .non => true
  | _ => false
def opIsNot (x y : D) : P D := match y with
  | .non => P.ret (.bl (!isNonB x))
  | .bl b => (match x with
    | .bl a => P.ret (.bl (!decide (a = b)))
    | _ => P.bad)
  | _ => P.bad
def within (a : List Nat) : List Nat → Bool
  | [] => a.isEmpty
  | c :: r => a.isPrefixOf (c :: r) || within a r
def memD (a : PyData) : List PyData → Bool
  | [] => false
  | y :: r => PyData.eqv y a || memD a r
def dget (k : D) : List (D × D) → Option D
  | [] => none
  | (a, b) :: r => if D.beq a k = true then some b else dget k r
def dput (k v : D) (l : List (D × D)) : List (D × D) :=
  if (l.any fun p => D.beq p.1 k) = true then l.map (fun p => if D.beq p.1 k = true then (p.1, v) else p) else l ++ [(k, v)]
def keyFits (k : D) (_ : List (D × D)) : Bool := match k with
  | .int _ => true
  | .str _ => true
  | _ => false
def inD (S : Store) (x y : D) : Option Bool := match y with
  | .str b => (match x with
    | .str a => some (within a b)
    | _ => none)
  | .tup xs => (match snap S deep x, snaps S deep xs with
    | some a, some bs => some (memD a bs)
    | _, _ => none)
  | .ref n => (match S.get n with
    | some (.dct kvs) => if keyFits x kvs = true then some (dget x kvs).isSome else none
    | _ => (match lstAt S n with
      | some xs => (match snap S deep x, snaps S deep xs with
        | some a, some bs => some (memD a bs)
        | _, _ => none)
      | none => none))
  | _ => none
def opIn (x y : D) : P D := fun S => match inD S x y with
  | some b => some (.bl b, S)
  | none => none
def opNotIn (x y : D) : P D := fun S => match inD S x y with
  | some b => some (.bl (!b), S)
  | none => none
def truth (S : Store) : D → Option Bool
  | .non => some false
  | .bl b => some b
  | .int i => some (i != 0)
  | .str s => if s.length ≤ line then some (!s.isEmpty) else none
  | .tup xs => some (!xs.isEmpty)
  | .ref n => (match lstAt S n with
    | some xs => some (!xs.isEmpty)
    | none => none)
  | _ => none
def asB : D → P Bool
  | .bl b => P.ret b
  | _ => P.bad
def tB (a : ME) : MT := fun C σ => (a C σ).bind fun x => M.of (asB x)
def truthP (x : D) : P Bool := fun S => match truth S x with
  | some b => some (b, S)
  | none => none
def tV (a : ME) : MT := fun C σ => (a C σ).bind fun x => M.of (truthP x)
def tNot (t : MT) : MT := fun C σ => (t C σ).bind fun b => M.ret (!b)
def tAnd (t u : MT) : MT := fun C σ => (t C σ).bind fun b => if b = true then u C σ else M.ret false
def tOr (t u : MT) : MT := fun C σ => (t C σ).bind fun b => if b = true then M.ret true else u C σ
def eAnd (a b : ME) : ME := fun C σ => (tB a C σ).bind fun c => if c = true then b C σ else M.ret (.bl false)
def eNot (a : ME) : ME := fun C σ => (tB a C σ).bind fun c => M.ret (.bl (!c))
def eChain (f g : D → D → P D) (a b c : ME) : ME := fun C σ => (a C σ).bind fun x => (b C σ).bind fun y => (M.of (f x y)).bind fun r => (M.of (asB r)).bind fun k =>
  if k = true then (c C σ).bind fun z => M.of (g y z) else M.ret (.bl false)
def ixN (n : Nat) (i : Int) : Option Nat := if 0 ≤ i then (if i < n then some i.toNat else none) else if -(n : Int) ≤ i then some (i + n).toNat else none
def atI {α : Type} (xs : List α) (i : Int) : Option α := (ixN xs.length i).bind fun j => xs[j]?
def getItem (S : Store) (x y : D) : Option D := match x with
  | .str s => (match y with
    | .int i => if s.length ≤ line then (atI s i).map fun c => .str [c] else none
    | _ => none)
  | .tup xs => (match y with
    | .int i => atI xs i
    | _ => none)
  | .ref n => (match S.get n with
    | some (.dct kvs) => if keyFits y kvs = true then dget y kvs else none
    | some (.lst xs) => (match y with
      | .int i => atI xs i
      | _ => none)
    | some (.rol xs) => (match y with
      | .int i => atI xs i
      | _ => none)
    | _ => none)
  | _ => none
def opItem (x y : D) : P D := fun S => match getItem S x y with
  | some d => some (d, S)
  | none => none
def sIx (n d : Nat) : Option Int → Nat
  | none => d
  | some v => if v < 0 then (max (v + (n : Int)) 0).toNat else min v.toNat n
def cut {α : Type} (xs : List α) (lo hi : Option Int) : List α := (xs.drop (sIx xs.length 0 lo)).take (sIx xs.length xs.length hi - sIx xs.length 0 lo)
def opCut (x : D) (lo hi : Option Int) : P D := match x with
  | .str s => fun S => if s.length ≤ line then some (.str (cut s lo hi), S) else none
  | .tup xs => P.ret (.tup (cut xs lo hi))
  | .ref n => fun S => match lstAt S n with
    | some xs => if xs.length ≤ line then some (.ref S.size, S.push (.lst (cut xs lo hi))) else none
    | none => none
  | _ => P.bad
def pNone : Cfg → Slots → M (Option Int) := fun _ _ S => .ok none S
def asI : D → P (Option Int)
  | .int i => P.ret (some i)
  | _ => P.bad
def pSome (a : ME) : Cfg → Slots → M (Option Int) := fun C σ => (a C σ).bind fun x => M.of (asI x)
def eCut (a : ME) (lo hi : Cfg → Slots → M (Option Int)) : ME := fun C σ => (a C σ).bind fun x => (lo C σ).bind fun l => (hi C σ).bind fun h => M.of (opCut x l h)
def opFld (cs : List Nat) (f : Nat) (x : D) : P D := match x with
  | .ref n => fun S => match S.get n with
    | some (.ins c fs) => if cs.contains c = true then (match fget f fs with
      | some d => some (d, S)
      | none => none) else none
    | _ => none
  | _ => P.bad
def eFld (cs : List Nat) (f : Nat) (a : ME) : ME := e1 (opFld cs f) a
def eCall (f : Nat) (a : MA) (dd : List D) : ME := fun C σ => (a C σ).bind fun xs => C.call f (xs ++ dd)
def methOf (S : Store) (tbl : List (Nat × Nat)) : D → Option Nat
  | .ref n => (match S.get n with
    | some (.ins c _) => (tbl.find? fun p => p.1 == c).map (·.2)
    | _ => none)
  | _ => none
def eMeth (tbl : List (Nat × Nat)) (o : ME) (a : MA) (dd : List D) : ME := fun C σ => (o C σ).bind fun x S => match methOf S tbl x with
  | some f => ((a C σ).bind fun xs => C.call f (x :: (xs ++ dd))) S
  | none => .bad
def eNew (c f : Nat) (a : MA) (dd : List D) : ME := fun C σ => (a C σ).bind fun xs S => match C.call f (.ref S.size :: (xs ++ dd)) (S.push (.ins c [])) with
  | .ok .non S' => .ok (.ref S.size) S'
  | .ok _ _ => .bad
  | .ex c fs S' => .ex c fs S'
  | .bad => .bad
inductive Tg where
  | nm (i : Nat)
  | tp (ts : List Tg)
mutual
def asg (S : Store) : Tg → D → Slots → Option Slots
  | .nm i, d, σ => if i < σ.length then some (σ.set i (some d)) else none
  | .tp ts, d, σ => (match seqOf S d with
    | some xs => asgs S ts xs σ
    | none => none)
def asgs (S : Store) : List Tg → List D → Slots → Option Slots
  | [], [], σ => some σ
  | t :: ts, x :: xs, σ => (match asg S t x σ with
    | some σ' => asgs S ts xs σ'
    | none => none)
  | _, _, _ => none
end
inductive It where
  | seq (xs : List D)
  | lst (n : Nat)
  | enum (i : It)
  | zip (strict : Bool) (is : List It)
  | dK (n k : Nat) | dV (n k : Nat) | dI (n k : Nat)
mutual
/-- at turn i: none: stuck; some none: the end; some (some d): the item d -/
def It.next (S : Store) : It → Nat → Option (Option D)
  | .seq xs, i => some xs[i]?
  | .lst n, i => (match lstAt S n with
    | some xs => some xs[i]?
    | none => none)
  | .enum t, i => (match It.next S t i with
    | some (some d) => some (some (.tup [.int i, d]))
    | some none => some none
    | none => none)
  | .zip strict ts, i => (match It.nexts S ts i with
    | none => none
    | some ds => if ds.all Option.isSome = true then some (some (.tup (ds.filterMap id))) else if strict = true then (if ds.all Option.isNone = true then some none else none) else some none)
  | .dK n k, i => (match S.get n with
    | some (.dct kvs) => if kvs.length = k then some (kvs[i]?.map (·.1)) else none
    | _ => none)
  | .dV n k, i => (match S.get n with
    | some (.dct kvs) => if kvs.length = k then some (kvs[i]?.map (·.2)) else none
    | _ => none)
  | .dI n k, i => (match S.get n with
    | some (.dct kvs) => if kvs.length = k then some (kvs[i]?.map fun p => .tup [p.1, p.2]) else none
    | _ => none)
def It.nexts (S : Store) : List It → Nat → Option (List (Option D))
  | [], _ => some []
  | t :: ts, i => (match It.next S t i, It.nexts S ts i with
    | some a, some b => some (a :: b)
    | _, _ => none)
end
abbrev MI := Cfg → Slots → M It
def itOf (S : Store) : D → Option It
  | .str s => some (.seq (s.map fun c => .str [c]))
  | .tup xs => some (.seq xs)
  | .ref n => (match S.get n with
    | some (.lst _) => some (.lst n)
    | some (.rol _) => some (.lst n)
    | _ => none)
  | _ => none
def itP (x : D) : P It := fun S => (itOf S x).map fun t => (t, S)
def i1 (f : D → P It) (a : ME) : MI := fun C σ => (a C σ).bind fun x => M.of (f x)
def i2 (f : D → D → P It) (a b : ME) : MI := fun C σ => (a C σ).bind fun x => (b C σ).bind fun y => M.of (f x y)
abbrev iSeq : ME → MI := i1 itP
def rangeL (lo c : Int) : Nat → List D
  | 0 => []
  | n + 1 => .int lo :: rangeL (lo + c) c n
def okR (i : Int) : Bool := decide (-4611686018427387904 ≤ i) && decide (i < 4611686018427387904)
def rg1 : D → P It
  | .int j => fun S => if okR j = true then some (.seq (rangeL 0 1 j.toNat), S) else none
  | _ => P.bad
abbrev iRange1 : ME → MI := i1 rg1
def lift (m : M α) (σ : Slots) (S : Store) (k : α → Store → SR) : SR := match m S with
  | .ok a S' => k a S'
  | .ex c fs S' => .ex c fs σ S'
  | .bad => .bad
def sPass : MS := fun _ σ S => .nx σ S
def sSeq (a b : MS) : MS := fun C σ S => match a C σ S with
  | .nx σ' S' => b C σ' S'
  | r => r
def sSet (t : Tg) (a : ME) : MS := fun C σ S => lift (a C σ) σ S fun x S' => match asg S' t x σ with
  | some σ' => .nx σ' S'
  | none => .bad
def sExpr (a : ME) : MS := fun C σ S => lift (a C σ) σ S fun _ S' => .nx σ S'
def sRet (a : ME) : MS := fun C σ S => lift (a C σ) σ S fun x S' => .rt x S'
def sIf (t : MT) (a b : MS) : MS := fun C σ S => lift (t C σ) σ S fun c S' => if c = true then a C σ S' else b C σ S'
def sRaise (c : Nat) (fn : List Nat) (a : MA) : MS := fun C σ S => match a C σ S with
  | .ok xs S' => if xs.length = fn.length then .ex c (fn.zip xs) σ S' else .bad
  | .ex c fs S' => .ex c fs σ S'
  | .bad => .bad
def putFld (cs : List Nat) (f : Nat) (x v : D) : P Unit := match x with
  | .ref n => fun S => match S.get n with
    | some (.ins c fs) => if (cs.contains c && decide (fs.length < 900)) = true then some ((), S.set n (.ins c (fput f v fs))) else none
    | _ => none
  | _ => P.bad
def sFld (cs : List Nat) (f : Nat) (o v : ME) : MS := fun C σ S => lift (v C σ) σ S fun y S1 => lift (o C σ) σ S1 fun x S2 => lift (M.of (putFld cs f x y)) σ S2 fun _ S3 => .nx σ S3
def putItem (x i v : D) : P Unit := match x with
  | .ref n => fun S => match S.get n with
    | some (.lst xs) => (match i with
      | .int k => (match ixN xs.length k with
        | some j => some ((), S.set n (.lst (xs.set j v)))
        | none => none)
      | _ => none)
    | some (.dct kvs) => if (keyFits i kvs && decide (kvs.length < line)) = true then some ((), S.set n (.dct (dput i v kvs))) else none
    | _ => none
  | _ => P.bad
def sItem (o i v : ME) : MS := fun C σ S => lift (v C σ) σ S fun y S1 => lift (o C σ) σ S1 fun x S2 => lift (i C σ) σ S2 fun k S3 => lift (M.of (putItem x k y)) σ S3 fun _ S4 => .nx σ S4
def sPar (i j : Nat) (a b : ME) : MS := fun C σ S => lift (a C σ) σ S fun x S1 => lift (b C σ) σ S1 fun y S2 => if i < σ.length ∧ j < σ.length then .nx ((σ.set i (some x)).set j (some y)) S2 else .bad
def turns : Nat := 1152921504606846976
def whileN (t : MT) (b : MS) (C : Cfg) : Nat → Slots → Store → SR
  | 0, _, _ => .bad
  | n + 1, σ, S => lift (t C σ) σ S fun c S1 => if c = true then (match b C σ S1 with
    | .nx σ' S' => whileN t b C n σ' S'
    | .ct σ' S' => whileN t b C n σ' S'
    | .bk σ' S' => .nx σ' S'
    | .rt d S' => .rt d S'
    | .ex c fs σ' S' => .ex c fs σ' S'
    | .bad => .bad) else .nx σ S1
def sWhile (t : MT) (b : MS) : MS := fun C σ S => whileN t b C turns σ S
def forN (t : It) (g : Tg) (b : MS) (C : Cfg) : Nat → Nat → Slots → Store → SR
  | 0, _, _, _ => .bad
  | n + 1, i, σ, S => match t.next S i with
    | none => .bad
    | some none => .nx σ S
    | some (some d) => (match asg S g d σ with
      | none => .bad
      | some σ1 => (match b C σ1 S with
        | .nx σ' S' => forN t g b C n (i + 1) σ' S'
        | .ct σ' S' => forN t g b C n (i + 1) σ' S'
        | .bk σ' S' => .nx σ' S'
        | .rt d S' => .rt d S'
        | .ex c fs σ' S' => .ex c fs σ' S'
        | .bad => .bad))
def sFor (g : Tg) (t : MI) (b : MS) : MS := fun C σ S => lift (t C σ) σ S fun i S1 => forN i g b C turns 0 σ S1
def compN (t : It) (g : Tg) (c : MT) (f : Slots → M Unit) (C : Cfg) (σ : Slots) : Nat → Nat → M Unit
  | 0, _ => M.bad
  | n + 1, i => fun S => match t.next S i with
    | none => .bad
    | some none => .ok () S
    | some (some d) => (match asg S g d σ with
      | none => .bad
      | some σ1 => (match c C σ1 S with
        | .ok true S1 => (match f σ1 S1 with
          | .ok _ S' => compN t g c f C σ n (i + 1) S'
          | .ex _ _ _ => .bad
          | .bad => .bad)
        | .ok false S1 => compN t g c f C σ n (i + 1) S1
        | .ex _ _ _ => .bad
        | .bad => .bad))
def emit (e : ME) (D : Nat) (C : Cfg) (σ : Slots) : M Unit := fun S => match e C σ S with
  | .ok d S' => (match S'.get D with
    | some (.lst acc) => if acc.length < line then .ok () (S'.set D (.lst (acc ++ [d]))) else .bad
    | _ => .bad)
  | _ => .bad
def wipe (σ : Slots) : List Nat → Slots
  | [] => σ
  | i :: r => wipe (σ.set i none) r
def tYes : MT := fun _ _ S => .ok true S
def eLc (e : ME) (g : Tg) (t : MI) (c : MT) (own : List Nat) : ME := fun C σ => (t C σ).bind fun i S => match compN i g c (emit e S.size C) C (wipe σ own) turns 0 (S.push (.lst [])) with
  | .ok _ S' => .ok (.ref S.size) S'
  | _ => .bad
def emitD (k v : ME) (D : Nat) (C : Cfg) (σ : Slots) : M Unit := fun S => match k C σ S with
  | .ok x S1 => (match v C σ S1 with
    | .ok y S2 => (match S2.get D with
      | some (.dct kvs) => if (keyFits x kvs && decide (kvs.length < line)) = true then .ok () (S2.set D (.dct (dput x y kvs))) else .bad
      | _ => .bad)
    | _ => .bad)
  | _ => .bad
def eDc (k v : ME) (g : Tg) (t : MI) (c : MT) (own : List Nat) : ME := fun C σ => (t C σ).bind fun i S => match compN i g c (emitD k v S.size C) C (wipe σ own) turns 0 (S.push (.dct [])) with
  | .ok _ S' => .ok (.ref S.size) S'
  | _ => .bad
def eB (f : List D → P D) (a : MA) : ME := fun C σ => (a C σ).bind fun xs => M.of (f xs)
def lenOf (S : Store) : D → Option Nat
  | .str s => if s.length ≤ line then some s.length else none
  | .tup xs => some xs.length
  | .ref n => (match S.get n with
    | some (.lst xs) => some xs.length
    | some (.rol xs) => some xs.length
    | some (.dct kvs) => some kvs.length
    | _ => none)
  | _ => none
def bLen : List D → P D
  | [x] => fun S => match lenOf S x with
    | some k => some (.int (k : Nat), S)
    | none => none
  | _ => P.bad
def bListS : List D → P D
  | [.tup xs] => fun S => some (.ref S.size, S.push (.lst xs))
  | [.ref n] => fun S => match lstAt S n with
    | some xs => some (.ref S.size, S.push (.lst xs))
    | _ => none
  | _ => P.bad
def bTuple : List D → P D
  | [.tup xs] => P.ret (.tup xs)
  | [.ref n] => fun S => match S.get n with
    | some (.lst xs) => some (.tup xs, S)
    | some (.rol xs) => some (.tup xs, S)
    | _ => none
  | _ => P.bad
def allB : List D → Option (List Bool)
  | [] => some []
  | .bl b :: r => (allB r).map (b :: ·)
  | _ => none
def bAll : List D → P D
  | [.ref n] => fun S => match lstAt S n with
    | some xs => (match allB xs with
      | some bs => some (.bl (bs.all id), S)
      | none => none)
    | none => none
  | _ => P.bad
def bAny : List D → P D
  | [.ref n] => fun S => match lstAt S n with
    | some xs => (match allB xs with
      | some bs => some (.bl (bs.any id), S)
      | none => none)
    | none => none
  | _ => P.bad
def eBM (ty : D → Store → Bool) (f : D → List D → P D) (o : ME) (a : MA) : ME := fun C σ => (o C σ).bind fun x S => if ty x S = true then ((a C σ).bind fun xs => M.of (f x xs)) S else .bad
def tyLst : D → Store → Bool
  | .ref n, S => (match S.get n with
    | some (.lst _) => true
    | some (.rol _) => true
    | _ => false)
  | _, _ => false
def mAppend : D → List D → P D
  | .ref n, [y] => fun S => match S.get n with
    | some (.lst xs) => if xs.length < line then some (.non, S.set n (.lst (xs ++ [y]))) else none
    | _ => none
  | _, _ => P.bad
def findC (c : Nat) : List Nat → Nat → Option Nat
  | [], _ => none
  | a :: r, i => if a = c then some i else findC c r (i + 1)
def noX (σ : Slots) : Bool := σ.all fun o => match o with
  | some d => !isX d
  | none => true
structure Hd where
  m : Nat → Bool
  o : Option Nat
  s : MS
structure Fn where
  ar : Nat
  sl : Nat
  body : MS
def enter (F : Fn) (as : List D) : Slots := as.map some ++ List.replicate (F.sl - as.length) none
def runFn (F : Fn) (C : Cfg) (as : List D) : M D := fun S => if as.length = F.ar then (match F.body C (enter F as) S with
  | .nx _ S' => .ok .non S'
  | .rt d S' => .ok d S'
  | .ex c fs _ S' => .ex c fs S'
  | _ => .bad) else .bad
def callN (tb : List Fn) : Nat → Nat → List D → M D
  | 0, _, _ => M.bad
  | n + 1, f, as => match tb[f]? with
    | some F => runFn F ⟨callN tb n⟩ as
    | none => M.bad
end MP
namespace MP
open PySem PySem.Spec PyProof.Rows L2
structure NE where
  w : World
  cls : Nat → Addr
  fld : Nat → Str
  inj : ∀ a b, fld a = fld b → a = b
  /-- the tables of code objects of the defs that make lambdas, the lambdas' names -/
  tabs : List Addr := []
  tq : Addr → Str := fun _ => Str.empty
abbrev XR := Addr → Nat → Option Addr → Prop
structure Gx where
  K : PySem.W.Frag
  ne : NE
  xr : XR
variable (G : Gx)
mutual
inductive RepV (m : List Addr) (H : Hp) : V → D → Prop
  | non : RepV m H .non .non
  | bl (b : Bool) : RepV m H (.bl b) (.bl b)
  | int (i : Int) : RepV m H (.int i) (.int i)
  | str (s : List Nat) : RepV m H (.str ⟨s.toArray⟩) (.str s)
  | tup {p : Addr} {vs : List V} {ds : List D} : SqT G.K H p vs → RepVs m H vs ds → RepV m H (.ref p) (.tup ds)
  | ref {p : Addr} {n : Nat} : m[n]? = some p → RepV m H (.ref p) (.ref n)
inductive RepVs (m : List Addr) (H : Hp) : List V → List D → Prop
  | nil : RepVs m H [] []
  | cons {v : V} {vs : List V} {d : D} {ds : List D} : RepV m H v d → RepVs m H vs ds → RepVs m H (v :: vs) (d :: ds)
/-- an exception's own dict -/
inductive RepX (m : List Addr) (H : Hp) : Option Addr → Fs → Prop
  | nil : RepX m H none []
  | some {a : Addr} {fv : List (Str × V)} {fs : Fs} : H a = some (.xd fv) → RepF m H fv fs → RepX m H (some a) fs
/-- fields by name -/
inductive RepF (m : List Addr) (H : Hp) : List (Str × V) → Fs → Prop
  | nil : RepF m H [] []
  | cons {v : V} {f : Nat} {d : D} {fv : List (Str × V)} {fs : Fs} : RepV m H v d → RepF m H fv fs → RepF m H ((G.ne.fld f, v) :: fv) ((f, d) :: fs)
end
structure Ext (m : List Addr) (H : Hp) (m' : List Addr) (H' : Hp) : Prop where
  pre : ∀ (n : Nat) (p : Addr), m[n]? = some p → m'[n]? = some p
  tup : ∀ p vs, SqT G.K H p vs → SqT G.K H' p vs
  xd : ∀ a fv, H a = some (.xd fv) → H' a = some (.xd fv)
  frz : ∀ a o u, H a = some (.frz o u) → H' a = some (.frz o u)
  tab : ∀ P ∈ G.ne.tabs, LamX.TabS H P (G.ne.tq P) → LamX.TabS H' P (G.ne.tq P)
variable {G}
theorem Ext.refl {m H} : Ext G m H m H := ⟨fun _ _ h => h, fun _ _ h => h, fun _ _ h => h, fun _ _ _ h => h, fun _ _ h => h⟩
theorem Ext.trans {m H m1 H1 m2 H2} (a : Ext G m H m1 H1) (b : Ext G m1 H1 m2 H2) : Ext G m H m2 H2 :=
  ⟨fun n p h => b.pre n p (a.pre n p h), fun p vs h => b.tup p vs (a.tup p vs h), fun p vs h => b.xd p vs (a.xd p vs h), fun p o u h => b.frz p o u (a.frz p o u h), fun P h t => b.tab P h (a.tab P h t)⟩
mutual
theorem RepV.mono {m H m' H'} (e : Ext G m H m' H') : ∀ {v d}, RepV G m H v d → RepV G m' H' v d
  | _, _, .non => .non
  | _, _, .bl b => .bl b
  | _, _, .int i => .int i
  | _, _, .str s => .str s
  | _, _, .tup h hs => .tup (e.tup _ _ h) (RepVs.mono e hs)
  | _, _, .ref h => .ref (e.pre _ _ h)
theorem RepVs.mono {m H m' H'} (e : Ext G m H m' H') : ∀ {vs ds}, RepVs G m H vs ds → RepVs G m' H' vs ds
  | _, _, .nil => .nil
  | _, _, .cons h hs => .cons (RepV.mono e h) (RepVs.mono e hs)
theorem RepX.mono {m H m' H'} (e : Ext G m H m' H') : ∀ {d fs}, RepX G m H d fs → RepX G m' H' d fs
  | _, _, .nil => .nil
  | _, _, .some h hf => .some (e.xd _ _ h) (RepF.mono e hf)
theorem RepF.mono {m H m' H'} (e : Ext G m H m' H') : ∀ {fv fs}, RepF G m H fv fs → RepF G m' H' fv fs
  | _, _, .nil => .nil
  | _, _, .cons h hs => .cons (RepV.mono e h) (RepF.mono e hs)
end
theorem RepVs.length {m H} : ∀ {vs ds}, RepVs G m H vs ds → vs.length = ds.length
  | _, _, .nil => rfl
  | _, _, .cons _ hs => by rw [List.length_cons, List.length_cons, RepVs.length hs]
theorem RepVs.get {m H} : ∀ {vs ds} {i : Nat} {d : D}, RepVs G m H vs ds → ds[i]? = some d → ∃ v, vs[i]? = some v ∧ RepV G m H v d
  | _, _, _, _, .nil, e => by simp at e
  | _, _, 0, _, .cons h _, e => by
    simp only [List.getElem?_cons_zero, Option.some.injEq] at e
    subst e
    exact ⟨_, rfl, h⟩
  | _, _, i + 1, d, .cons _ hs, e => by
    obtain ⟨v, h1, h2⟩ := RepVs.get (i := i) (d := d) hs (by simpa using e)
    exact ⟨v, by simpa using h1, h2⟩
theorem RepVs.append {m H} : ∀ {vs ds vs' ds'}, RepVs G m H vs ds → RepVs G m H vs' ds' → RepVs G m H (vs ++ vs') (ds ++ ds')
  | _, _, _, _, .nil, h => h
  | _, _, _, _, .cons h hs, h' => .cons h (RepVs.append hs h')
theorem RepVs.take {m H} : ∀ {vs ds} (n : Nat), RepVs G m H vs ds → RepVs G m H (vs.take n) (ds.take n)
  | _, _, 0, _ => .nil
  | _, _, _ + 1, .nil => .nil
  | _, _, n + 1, .cons h hs => .cons h (RepVs.take n hs)
theorem RepVs.drop {m H} : ∀ {vs ds} (n : Nat), RepVs G m H vs ds → RepVs G m H (vs.drop n) (ds.drop n)
  | _, _, 0, h => h
  | _, _, _ + 1, .nil => .nil
  | _, _, n + 1, .cons _ hs => RepVs.drop n hs
theorem RepVs.set {m H v d} (h : RepV G m H v d) : ∀ {vs ds} (i : Nat), RepVs G m H vs ds → RepVs G m H (vs.set i v) (ds.set i d)
  | _, _, _, .nil => .nil
  | _, _, 0, .cons _ hs => .cons h hs
  | _, _, i + 1, .cons h' hs => .cons h' (RepVs.set h i hs)
theorem RepVs.revAux {m H} : ∀ (ds : List D) {vs : List V} {vs' : List V} {ds' : List D}, RepVs G m H vs ds → RepVs G m H vs' ds' → RepVs G m H (vs.reverseAux vs') (ds.reverseAux ds')
  | [], _, _, _, h, h' => by cases h; exact h'
  | d :: ds, _, _, _, h, h' => by
    cases h with
    | @cons v vs _ _ a b =>
      rename_i vs' ds'
      exact RepVs.revAux (vs := vs) (vs' := v :: vs') (ds' := d :: ds') ds b (.cons a h')
theorem RepVs.reverse {m H} {vs ds} (h : RepVs G m H vs ds) : RepVs G m H vs.reverse ds.reverse := RepVs.revAux ds h .nil
theorem RepF.length {m H} : ∀ {fv fs}, RepF G m H fv fs → fv.length = fs.length
  | _, _, .nil => rfl
  | _, _, .cons _ hs => by rw [List.length_cons, List.length_cons, RepF.length hs]
theorem RepF.lookup {m H} : ∀ {fv fs} {f : Nat} {d : D}, RepF G m H fv fs → fget f fs = some d → ∃ v, fv.lookup (G.ne.fld f) = some v ∧ RepV G m H v d
  | _, _, _, _, .nil, e => by simp [fget] at e
  | _, _, f, d, .cons (f := g) h hs, e => by
    unfold fget at e
    by_cases q : g = f
    · subst q
      rw [if_pos rfl] at e
      cases e
      exact ⟨_, by simp [List.lookup], h⟩
    · rw [if_neg q] at e
      obtain ⟨v, h1, h2⟩ := RepF.lookup hs e
      refine ⟨v, ?_, h2⟩
      have hb : (G.ne.fld f == G.ne.fld g) = false := beq_eq_false_iff_ne.mpr fun z => q (G.ne.inj _ _ z).symm
      simp only [List.lookup, hb]
      exact h1
theorem RepF.put {m H} {f : Nat} {v : V} {d : D} (h : RepV G m H v d) : ∀ {fv fs}, RepF G m H fv fs → RepF G m H (putF (G.ne.fld f) v fv) (fput f d fs)
  | _, _, .nil => .cons h .nil
  | _, _, .cons (f := g) h' hs => by
    unfold putF fput
    by_cases q : g = f
    · subst q
      rw [if_pos rfl, if_pos rfl]
      exact .cons h hs
    · rw [if_neg q, if_neg fun z => q (G.ne.inj _ _ z)]
      exact .cons h' (RepF.put h hs)
theorem RepF.zip {m H} : ∀ {fn : List Nat} {vs : List V} {ds : List D}, fn.length = ds.length → RepVs G m H vs ds → RepF G m H ((fn.map G.ne.fld).zip vs) (fn.zip ds)
  | [], _, _, _, _ => .nil
  | _ :: _, _, [], e, _ => by simp at e
  | f :: fn, _, d :: ds, e, .cons h hs => .cons h (RepF.zip (by simpa using e) hs)
def dKey : D → Option Key
  | .int i => some (.inl i)
  | .str s => some (.inr ⟨s.toArray⟩)
  | _ => none
inductive RepK (G : Gx) (m : List Addr) (H : Hp) : List (Key × V) → List (D × D) → Prop
  | nil : RepK G m H [] []
  | cons {k : Key} {v : V} {a x : D} {kv : List (Key × V)} {ds : List (D × D)} : dKey a = some k → RepV G m H v x → RepK G m H kv ds → RepK G m H ((k, v) :: kv) ((a, x) :: ds)
theorem RepK.mono {m H m' H'} (e : Ext G m H m' H') : ∀ {kv ds}, RepK G m H kv ds → RepK G m' H' kv ds
  | _, _, .nil => .nil
  | _, _, .cons k h hs => .cons k (h.mono e) (RepK.mono e hs)
theorem RepK.length {m H} : ∀ {kv ds}, RepK G m H kv ds → kv.length = ds.length
  | _, _, .nil => rfl
  | _, _, .cons _ _ hs => by rw [List.length_cons, List.length_cons, RepK.length hs]
theorem dKey_eq {a b : D} {k l : Key} (ha : dKey a = some k) (hb : dKey b = some l) : D.beq a b = true ↔ k = l := by
  cases a <;> unfold dKey at ha <;> cases ha <;> cases b <;> unfold dKey at hb <;> cases hb <;> unfold D.beq <;> simp
theorem dKey_rep {m H} {v : V} {d : D} {k : Key} (r : RepV G m H v d) (h : dKey d = some k) : v = kV k := by
  cases r <;> unfold dKey at h <;> cases h <;> rfl
theorem dKey_repv {m H} {d : D} {k : Key} (h : dKey d = some k) : RepV G m H (kV k) d := by
  cases d <;> unfold dKey at h <;> cases h
  · exact .int _
  · exact .str _
theorem keyFits_some {d : D} {l : List (D × D)} (h : keyFits d l = true) : ∃ k, dKey d = some k := by
  cases d <;> first | exact ⟨_, rfl⟩ | exact nomatch h
theorem RepK.get {m H} {d : D} {k : Key} (h : dKey d = some k) : ∀ {kv ds}, RepK G m H kv ds → (∀ x, dget d ds = some x → ∃ v, valV kv k = some v ∧ RepV G m H v x) ∧ (dget d ds = none → valV kv k = none)
  | _, _, .nil => ⟨fun x e => by simp [dget] at e, fun _ => rfl⟩
  | _, _, .cons (a := a) hk hv hs => by
    obtain ⟨i1, i2⟩ := RepK.get h hs
    unfold dget
    by_cases e : D.beq a d = true
    · have ek := (dKey_eq hk h).mp e
      rw [if_pos e]
      refine ⟨fun x q => ?_, fun q => by cases q⟩
      cases q
      exact ⟨_, valV_pos ek, hv⟩
    · have ek : ¬ _ = _ := fun z => e ((dKey_eq hk h).mpr z)
      rw [if_neg e]
      exact ⟨fun x q => by rw [valV_neg ek]; exact i1 x q, fun q => by rw [valV_neg ek]; exact i2 q⟩
theorem RepK.isSome {m H} {d : D} {k : Key} (h : dKey d = some k) {kv ds} (r : RepK G m H kv ds) : (valV kv k).isSome = (dget d ds).isSome := by
  obtain ⟨i1, i2⟩ := r.get h
  cases q : dget d ds with
  | none => rw [i2 q]; rfl
  | some x =>
    obtain ⟨v, e, _⟩ := i1 x q
    rw [e]; rfl
theorem RepK.append {m H} : ∀ {kv ds kv' ds'}, RepK G m H kv ds → RepK G m H kv' ds' → RepK G m H (kv ++ kv') (ds ++ ds')
  | _, _, _, _, .nil, h => h
  | _, _, _, _, .cons a b c, h => .cons a b (RepK.append c h)
theorem RepK.any {m H} {d : D} {k : Key} (h : dKey d = some k) : ∀ {kv ds}, RepK G m H kv ds → (kv.any fun p => decide (p.1 = k)) = ds.any fun p => D.beq p.1 d
  | _, _, .nil => rfl
  | _, _, .cons (a := a) (k := l) hk hv hs => by
    rw [List.any_cons, List.any_cons, RepK.any h hs]
    have z := dKey_eq hk h
    show (decide (l = k) || _) = (D.beq a d || _)
    cases q : D.beq a d with
    | true => rw [decide_eq_true (z.mp q)]
    | false => rw [decide_eq_false fun y => by rw [z.mpr y] at q; cases q]
theorem RepK.maps {m H} {d x : D} {k : Key} {v : V} (h : dKey d = some k) (rx : RepV G m H v x) : ∀ {kv ds}, RepK G m H kv ds → RepK G m H (kv.map fun p => if p.1 = k then (p.1, v) else p) (ds.map fun p => if D.beq p.1 d = true then (p.1, x) else p)
  | _, _, .nil => .nil
  | _, _, .cons (a := a) (k := l) hk hv hs => by
    rw [List.map_cons, List.map_cons]
    have z := dKey_eq hk h
    show RepK G m H ((if l = k then (l, v) else _) :: _) ((if D.beq a d = true then (a, x) else _) :: _)
    by_cases q : l = k
    · rw [if_pos q, if_pos (z.mpr q)]
      exact .cons hk rx (RepK.maps h rx hs)
    · rw [if_neg q, if_neg fun y => q (z.mp y)]
      exact .cons hk hv (RepK.maps h rx hs)
theorem RepK.put {m H} {d x : D} {k : Key} {v : V} (h : dKey d = some k) (rx : RepV G m H v x) {kv ds} (r : RepK G m H kv ds) : RepK G m H (putK kv k v) (dput d x ds) := by
  unfold putK dput
  rw [r.any h]
  split
  · exact r.maps h rx
  · exact r.append (.cons h rx .nil)
theorem RepK.keys {m H} : ∀ {kv ds}, RepK G m H kv ds → RepVs G m H (kv.map fun p => kV p.1) (ds.map (·.1))
  | _, _, .nil => .nil
  | _, _, .cons k _ hs => .cons (dKey_repv k) (RepK.keys hs)
def SqF (K : PySem.W.Frag) (H : Hp) (a : Addr) (xs : List V) : Prop := (∃ o, H a = some (.frz o (.lst xs))) ∨
  ∃ (o : Obj) (its : Array Value) (n : Nat), K.lookup a = some o ∧ o.cls = .type "list" ∧ o.dict = none ∧ o.data = .seq its n ∧ its.size ≤ sizeLine ∧ Vals xs its.toList
theorem SqF.sq {K H a xs} (h : SqF K H a xs) : SqL K H a xs := by
  rcases h with h | h
  · exact .inl (.inr h)
  · exact .inr h
mutual
/-- a key: an int, a text, None, a tuple of such -/
def nk : Nat → D → Option NestedKey
  | _, .non => some .none
  | _, .int i => some (.num i)
  | _, .str s => some (.text ⟨s.toArray⟩)
  | n, .tup xs => (match n with
    | 0 => none
    | n + 1 => (nks n xs).map .tup)
  | _, _ => none
def nks : Nat → List D → Option (List NestedKey)
  | _, [] => some []
  | n, x :: xs => (match nk n x, nks n xs with
    | some a, some b => some (a :: b)
    | _, _ => none)
end
def tk (d : D) : Option NestedKey := match d with
  | .tup xs => nk 8 (.tup xs)
  | _ => none
def DTO (w : World) (d : Addr) (xs : List (NestedKey × Addr × V)) : HO := .ext fun h =>
  (d == sysModules) = false ∧ xs.length ≤ sizeLine ∧ (xs.map (·.1)).Nodup ∧
  ∃ (ys : List (NestedKey × Addr × Value)) (o : Obj) (es : Array DictEntry) (ep : Nat), Paired (fun (p : NestedKey × Addr × V) (q : NestedKey × Addr × Value) => p.1 = q.1 ∧ p.2.1 = q.2.1 ∧ RelV p.2.2 q.2.2) xs ys ∧
    h.get? d = some o ∧ o.ExactDict ∧ o.data = .dict es ep ∧ es.toList = ys.map fun x => ⟨x.1.hash w, .ref x.2.1, x.2.2⟩
inductive RepN (G : Gx) (m : List Addr) (H : Hp) : List (NestedKey × Addr × V) → List (D × D) → Prop
  | nil : RepN G m H [] []
  | cons {k : NestedKey} {q : Addr} {v : V} {a x : D} {kv : List (NestedKey × Addr × V)} {ds : List (D × D)} : tk a = some k → RepV G m H (.ref q) a → RepV G m H v x → RepN G m H kv ds → RepN G m H ((k, q, v) :: kv) ((a, x) :: ds)
theorem RepN.mono {m H m' H'} (e : Ext G m H m' H') : ∀ {kv ds}, RepN G m H kv ds → RepN G m' H' kv ds
  | _, _, .nil => .nil
  | _, _, .cons k a h hs => .cons k (a.mono e) (h.mono e) (RepN.mono e hs)
theorem RepN.length {m H} : ∀ {kv ds}, RepN G m H kv ds → kv.length = ds.length
  | _, _, .nil => rfl
  | _, _, .cons _ _ _ hs => by rw [List.length_cons, List.length_cons, RepN.length hs]
inductive RepO (G : Gx) (m : List Addr) (H : Hp) (p : Addr) : Ob → Prop
  | lst {vs : List V} {xs : List D} : H p = some (.lst vs) → RepVs G m H vs xs → RepO G m H p (.lst xs)
  | rol {vs : List V} {xs : List D} : SqF G.K H p vs → RepVs G m H vs xs → RepO G m H p (.rol xs)
  | ins {dx : Addr} {c : Nat} {fv : List (Str × V)} {fs : Fs} : H p = some (.ins (G.ne.cls c) dx fv) → RepF G m H fv fs → RepO G m H p (.ins c fs)
  | dct {kv : List (Key × V)} {ds : List (D × D)} : H p = some (.dK kv) → RepK G m H kv ds → RepO G m H p (.dct ds)
  | dtu {kv : List (NestedKey × Addr × V)} {ds : List (D × D)} : H p = some (DTO G.ne.w p kv) → RepN G m H kv ds → RepO G m H p (.dtu ds)
  | fdt {o : Obj} {kv : List (NestedKey × Addr × V)} {ds : List (D × D)} : H p = some (.frz o (DTO G.ne.w p kv)) → RepN G m H kv ds → RepO G m H p (.fdt ds)
  | fdk {o : Obj} {kv : List (Key × V)} {ds : List (D × D)} : H p = some (.frz o (.dK kv)) → RepK G m H kv ds → RepO G m H p (.fdk ds)
def isRol : Ob → Bool
  | .rol _ => true
  | .fdt _ => true
  | .fdk _ => true
  | _ => false
structure Sim (G : Gx) (m : List Addr) (S : Store) (H : Hp) : Prop where
  len : m.length = S.size
  nd : ∀ (i j : Nat) (p : Addr) (a b : Ob), S.get i = some a → isRol a = false → S.get j = some b → isRol b = false → m[i]? = some p → m[j]? = some p → i = j
  obj : ∀ (n : Nat) (o : Ob), S.get n = some o → ∃ p, m[n]? = some p ∧ RepO G m H p o
  tbs : ∀ P ∈ G.ne.tabs, LamX.TabS H P (G.ne.tq P)
inductive SV (G : Gx) (m : List Addr) (H : Hp) : V → D → Prop
  | val {v : V} {d : D} (h : RepV G m H v d) : SV G m H v d
  | exn {a : Addr} {c : Nat} {d : Option Addr} {fs : Fs} (h : G.xr a c d) (hx : RepX G m H d fs) : SV G m H (.ref a) (.exn c fs)
theorem SV.mono {m H m' H' v d} (e : Ext G m H m' H') : SV G m H v d → SV G m' H' v d
  | .val h => .val (h.mono e)
  | .exn h hx => .exn h (hx.mono e)
theorem SV.rep {m H v d} (h : SV G m H v d) (n : isX d = false) : RepV G m H v d := by
  cases h with
  | val h => exact h
  | exn h hx => cases n
def SlotR (G : Gx) (m : List Addr) (H : Hp) (ls : Slots) (σ : L2.St) : Prop := ls.length = σ.length ∧ ∀ (i : Nat) (d : D), ls[i]? = some (some d) → ∃ v, σ[i]? = some (some v) ∧ SV G m H v d
theorem SlotR.mono {m H m' H' ls σ} (e : Ext G m H m' H') (h : SlotR G m H ls σ) : SlotR G m' H' ls σ :=
  ⟨h.1, fun i d q => let ⟨v, a, b⟩ := h.2 i d q; ⟨v, a, b.mono e⟩⟩
theorem SlotR.set {m H ls σ} {i : Nat} {v : V} {d : D} (h : SlotR G m H ls σ) (r : RepV G m H v d) : SlotR G m H (ls.set i (some d)) (σ.set i (some v)) := by
  refine ⟨by rw [List.length_set, List.length_set, h.1], fun j x q => ?_⟩
  by_cases e : i = j
  · subst e
    by_cases hi : i < ls.length
    · rw [List.getElem?_set_self hi] at q
      cases q
      exact ⟨v, List.getElem?_set_self (h.1 ▸ hi), .val r⟩
    · rw [List.getElem?_eq_none (by simpa using hi)] at q
      cases q
  · rw [List.getElem?_set_ne e] at q
    obtain ⟨w, a, b⟩ := h.2 j x q
    exact ⟨w, by rw [List.getElem?_set_ne e]; exact a, b⟩
def Mut1 : Option HO → Prop
  | some (.lst _) => True
  | some (.dK _) => True
  | some (.dT _) => True
  | some (.set _ _) => True
  | some (.ins _ _ _) => True
  | some (.ext φ) => ∃ w d xs, HO.ext φ = DTO w d xs
  | _ => False
theorem Mut1.m {u : Option HO} (h : Mut1 u) : Mut u := by
  cases u with
  | none => exact (show False from h).elim
  | some o =>
    cases o <;> first | exact True.intro | exact (show False from h).elim
def fldO (q : Str) : Obj := { cls := .none, data := .fields #[.none, .str q 0] }
theorem fldH_get {q : Str} {n b : Nat} {o : Obj} (h : ({ objs := Array.replicate n (fldO q) } : Heap).get? b = some o) : o = fldO q := by
  unfold Heap.get? at h
  simp only [Array.getElem?_replicate] at h
  by_cases hl : b < n
  · rw [if_pos hl] at h
    exact (Option.some.inj h).symm
  · rw [if_neg hl] at h
    cases h
theorem fldH_at {q : Str} {n b : Nat} (hl : b < n) : ({ objs := Array.replicate n (fldO q) } : Heap).get? b = some (fldO q) := by
  unfold Heap.get?
  simp only [Array.getElem?_replicate, if_pos hl]
  rfl
theorem codeO_dto {c d : Addr} {q : Str} {w : World} {xs : List (NestedKey × Addr × V)} : LamX.CodeO c q ≠ DTO w d xs := fun e => by
  unfold LamX.CodeO DTO at e
  have e' := congrFun (HO.ext.inj e) { objs := Array.replicate (c + 1) (fldO q) }
  have hx : ∃ (oc : Obj) (vs : Array Value) (t : Tok), ({ objs := Array.replicate (c + 1) (fldO q) } : Heap).get? c = some oc ∧ oc.data = .fields vs ∧ vs[1]? = some (.str q t) := ⟨fldO q, #[.none, .str q 0], 0, fldH_at (Nat.lt_succ_self c), rfl, rfl⟩
  rw [e'] at hx
  obtain ⟨_, _, _, ys, o, es, ep, _, h1, _, h2, _⟩ := hx
  have h3 := fldH_get h1
  subst h3
  have h4 : (Data.fields #[.none, .str q 0] : Data) = .dict es ep := h2
  cases h4
theorem tabS_mut {H : Hp} {P a : Addr} {q : Str} {o : HO} (h : LamX.TabS H P q) (n : Mut1 (H a)) : LamX.TabS (upd H a o) P q := by
  obtain ⟨ps, h1, h2, h3⟩ := h
  refine ⟨ps, by rw [upd_ne (fun z => by subst z; rw [h1] at n; exact n)]; exact h1, h2, fun pos cv hc => ?_⟩
  obtain ⟨c, e1, e2⟩ := h3 pos cv hc
  refine ⟨c, e1, ?_⟩
  rw [upd_ne (fun z => ?_)]
  · exact e2
  · subst z
    rw [e2] at n
    obtain ⟨w, d, xs, z⟩ : ∃ w d xs, LamX.CodeO c q = DTO w d xs := n
    exact codeO_dto z
theorem tabS_new {H : Hp} {P a : Addr} {q : Str} {o : HO} (h : LamX.TabS H P q) (n : H a = none) : LamX.TabS (upd H a o) P q := h.ext fun b u e => by rw [upd_ne (ne_of_none e n)]; exact e
theorem Sim.isSome {m S H} (s : Sim G m S H) {n : Nat} {o : Ob} (h : S.get n = some o) : ∃ p, m[n]? = some p ∧ RepO G m H p o := s.obj n o h
theorem RepO.tracked {m H p o} (h : RepO G m H p o) (n : isRol o = false) : ∃ u, H p = some u ∧ Mut1 (some u) := by
  cases h with
  | lst a b => exact ⟨_, a, trivial⟩
  | ins a b => exact ⟨_, a, trivial⟩
  | dct a b => exact ⟨_, a, trivial⟩
  | dtu a b => exact ⟨_, a, ⟨_, _, _, rfl⟩⟩
  | rol a b => cases n
  | fdt a b => cases n
  | fdk a b => cases n
theorem Sim.lst {m S H} (s : Sim G m S H) {n : Nat} {xs : List D} (h : S.get n = some (.lst xs)) : ∃ p vs, m[n]? = some p ∧ H p = some (.lst vs) ∧ RepVs G m H vs xs := by
  obtain ⟨p, h1, h2⟩ := s.obj n _ h
  cases h2 with
  | lst h3 h4 => exact ⟨p, _, h1, h3, h4⟩
theorem Sim.ins {m S H} (s : Sim G m S H) {n c : Nat} {fs : Fs} (h : S.get n = some (.ins c fs)) : ∃ p dx fv, m[n]? = some p ∧ H p = some (.ins (G.ne.cls c) dx fv) ∧ RepF G m H fv fs := by
  obtain ⟨p, h1, h2⟩ := s.obj n _ h
  cases h2 with
  | ins h3 h4 => exact ⟨p, _, _, h1, h3, h4⟩
theorem Sim.seqL {m S H} (s : Sim G m S H) {n : Nat} {xs : List D} (h : lstAt S n = some xs) : ∃ p vs, m[n]? = some p ∧ SqL G.K H p vs ∧ RepVs G m H vs xs := by
  unfold lstAt at h
  cases q : S.get n with
  | none => rw [q] at h; cases h
  | some o =>
    rw [q] at h
    obtain ⟨p, h1, h2⟩ := s.obj n o q
    cases h2 with
    | lst h3 h4 => cases h; exact ⟨p, _, h1, .of h3, h4⟩
    | rol h3 h4 => cases h; exact ⟨p, _, h1, h3.sq, h4⟩
    | ins h3 h4 => cases h
    | dct h3 h4 => cases h
    | dtu h3 h4 => cases h
    | fdt h3 h4 => cases h
    | fdk h3 h4 => cases h
theorem Sim.dtu {m S H} (s : Sim G m S H) {n : Nat} {ds : List (D × D)} (h : S.get n = some (.dtu ds)) : ∃ p kv, m[n]? = some p ∧ H p = some (DTO G.ne.w p kv) ∧ RepN G m H kv ds := by
  obtain ⟨p, h1, h2⟩ := s.obj n _ h
  cases h2 with
  | dtu h3 h4 => exact ⟨p, _, h1, h3, h4⟩
theorem Sim.fdt {m S H} (s : Sim G m S H) {n : Nat} {ds : List (D × D)} (h : S.get n = some (.fdt ds)) : ∃ p o kv, m[n]? = some p ∧ H p = some (.frz o (DTO G.ne.w p kv)) ∧ RepN G m H kv ds := by
  obtain ⟨p, h1, h2⟩ := s.obj n _ h
  cases h2 with
  | fdt h3 h4 => exact ⟨p, _, _, h1, h3, h4⟩
theorem Sim.fdk {m S H} (s : Sim G m S H) {n : Nat} {ds : List (D × D)} (h : S.get n = some (.fdk ds)) : ∃ p o kv, m[n]? = some p ∧ H p = some (.frz o (.dK kv)) ∧ RepK G m H kv ds := by
  obtain ⟨p, h1, h2⟩ := s.obj n _ h
  cases h2 with
  | fdk h3 h4 => exact ⟨p, _, _, h1, h3, h4⟩
theorem Sim.dct {m S H} (s : Sim G m S H) {n : Nat} {ds : List (D × D)} (h : S.get n = some (.dct ds)) : ∃ p kv, m[n]? = some p ∧ H p = some (.dK kv) ∧ RepK G m H kv ds := by
  obtain ⟨p, h1, h2⟩ := s.obj n _ h
  cases h2 with
  | dct h3 h4 => exact ⟨p, _, h1, h3, h4⟩
theorem sqT_new {K : PySem.W.Frag} {H : Hp} {p q : Addr} {vs : List V} {o : HO} (h : SqT K H p vs) (n : H q = none) : SqT K (upd H q o) p vs := by
  rcases h with (h | ⟨ob, h⟩) | h
  · exact .inl (.inl (by rw [upd_ne (ne_of_none h n)]; exact h))
  · exact .inl (.inr ⟨ob, by rw [upd_ne (ne_of_none h n)]; exact h⟩)
  · exact .inr h
theorem sqT_mut {K : PySem.W.Frag} {H : Hp} {p q : Addr} {vs : List V} {o : HO} (h : SqT K H p vs) (n : Mut (H q)) : SqT K (upd H q o) p vs := by
  have ne : ∀ u, H p = some u → ¬ Mut (some u) → p ≠ q := fun u e nm z => by subst z; rw [e] at n; exact nm n
  rcases h with (h | ⟨ob, h⟩) | h
  · exact .inl (.inl (by rw [upd_ne (ne _ h fun z => z)]; exact h))
  · exact .inl (.inr ⟨ob, by rw [upd_ne (ne _ h fun z => z)]; exact h⟩)
  · exact .inr h
theorem sqL_new {K : PySem.W.Frag} {H : Hp} {p q : Addr} {vs : List V} {o : HO} (h : SqF K H p vs) (n : H q = none) : SqF K (upd H q o) p vs := by
  rcases h with ⟨ob, h⟩ | h
  · exact .inl ⟨ob, by rw [upd_ne (ne_of_none h n)]; exact h⟩
  · exact .inr h
theorem Ext.new {m H} {q : Addr} {o : HO} (n : H q = none) : Ext G m H m (upd H q o) :=
  ⟨fun _ _ h => h, fun _ _ h => sqT_new h n, fun a fv h => by rw [upd_ne (ne_of_none h n)]; exact h, fun a o u h => by rw [upd_ne (ne_of_none h n)]; exact h, fun P _ t => tabS_new t n⟩
theorem Ext.app {m H} {q : Addr} : Ext G m H (m ++ [q]) H :=
  ⟨fun i p h => by rw [List.getElem?_append_left (List.getElem?_eq_some_iff.mp h).1]; exact h, fun _ _ h => h, fun _ _ h => h, fun _ _ _ h => h, fun _ _ h => h⟩
theorem Ext.mut {m H} {q : Addr} {o : HO} (n : Mut1 (H q)) : Ext G m H m (upd H q o) :=
  ⟨fun _ _ h => h, fun _ _ h => sqT_mut h (Mut1.m n), fun a fv h => by rw [upd_ne (fun z => by subst z; rw [h] at n; exact n)]; exact h, fun a o u h => by rw [upd_ne (fun z => by subst z; rw [h] at n; exact n)]; exact h, fun P _ t => tabS_mut t n⟩
theorem RepO.new {m H m'} {p q : Addr} {o : Ob} {u : HO} (h : RepO G m H p o) (n : H q = none) (e : Ext G m H m' (upd H q u)) : RepO G m' (upd H q u) p o := by
  cases h with
  | lst h1 h2 => exact .lst (by rw [upd_ne (ne_of_none h1 n)]; exact h1) (h2.mono e)
  | ins h1 h2 => exact .ins (by rw [upd_ne (ne_of_none h1 n)]; exact h1) (h2.mono e)
  | rol h1 h2 => exact .rol (sqL_new h1 n) (h2.mono e)
  | dct h1 h2 => exact .dct (by rw [upd_ne (ne_of_none h1 n)]; exact h1) (h2.mono e)
  | fdt h1 h2 => exact .fdt (by rw [upd_ne (ne_of_none h1 n)]; exact h1) (h2.mono e)
  | fdk h1 h2 => exact .fdk (by rw [upd_ne (ne_of_none h1 n)]; exact h1) (h2.mono e)
  | dtu h1 h2 => exact .dtu (by rw [upd_ne (ne_of_none h1 n)]; exact h1) (h2.mono e)
section
variable (G : Gx) (W : WX)
def post {α β : Type} (Rp : List Addr → Hp → β → α → Prop) (σ : L2.St) (m : List Addr) (H : Hp) (Q : β → Hp → Prop) : R α → Prop
  | .ok a S' => ∀ m' H' b, Ext G m H m' H' → Sim G m' S' H' → Rp m' H' b a → Q b H'
  | .ex c fs S' => ∀ m' H' d, Ext G m H m' H' → Sim G m' S' H' → RepX G m' H' d fs → W (.ref (G.ne.cls c)) d σ H'
  | .bad => False
def postP {α β : Type} (Rp : List Addr → Hp → β → α → Prop) (m : List Addr) (H : Hp) (Q : β → Hp → Prop) : Option (α × Store) → Prop
  | some (a, S') => ∀ m' H' b, Ext G m H m' H' → Sim G m' S' H' → Rp m' H' b a → Q b H'
  | none => False
def tX {α β : Type} (Rp : List Addr → Hp → β → α → Prop) (C : Cfg) (e : Cfg → Slots → M α) : L2.St → Hp → (β → Hp → Prop) → Prop :=
  fun σ H Q => ∃ m S ls, Sim G m S H ∧ SlotR G m H ls σ ∧ post G W Rp σ m H Q (e C ls S)
def tK {α β α' β' : Type} (Ra : List Addr → Hp → β' → α' → Prop) (Rp : List Addr → Hp → β → α → Prop) (C : Cfg) (k : Cfg → Slots → α' → M α) : L2.St → Hp → β' → (β → Hp → Prop) → Prop :=
  fun σ H x Q => ∃ m S ls a, Sim G m S H ∧ SlotR G m H ls σ ∧ Ra m H x a ∧ post G W Rp σ m H Q (k C ls a S)
abbrev RB : List Addr → Hp → Bool → Bool → Prop := fun _ _ b a => b = a
abbrev RO : List Addr → Hp → Option Int → Option Int → Prop := fun _ _ b a => b = a
abbrev tE (C : Cfg) (e : ME) : TE := tX G W (RepV G) C e
abbrev tA (C : Cfg) (e : MA) : TA := tX G W (RepVs G) C e
abbrev tT (C : Cfg) (e : MT) : TT := tX G W RB C e
abbrev tO (C : Cfg) (e : Cfg → Slots → M (Option Int)) : L2.St → Hp → (Option Int → Hp → Prop) → Prop := tX G W RO C e
variable {G W}
theorem post.ext {α β : Type} {Rp : List Addr → Hp → β → α → Prop} {σ m H m1 H1} {Q : β → Hp → Prop} {r : R α} (e : Ext G m H m1 H1) (h : post G W Rp σ m H Q r) : post G W Rp σ m1 H1 Q r := by
  cases r with
  | ok a S' => exact fun m' H' b e' s r => h m' H' b (e.trans e') s r
  | ex c fs S' => exact fun m' H' d e' s r => h m' H' d (e.trans e') s r
  | bad => exact h
theorem postP.ext {α β : Type} {Rp : List Addr → Hp → β → α → Prop} {m H m1 H1} {Q : β → Hp → Prop} {r : Option (α × Store)} (e : Ext G m H m1 H1) (h : postP G Rp m H Q r) : postP G Rp m1 H1 Q r := by
  cases r with
  | some p => exact fun m' H' b e' s r => h m' H' b (e.trans e') s r
  | none => exact h
theorem post.of {α β : Type} {Rp : List Addr → Hp → β → α → Prop} {σ m H} {Q : β → Hp → Prop} {p : P α} {S : Store} (h : post G W Rp σ m H Q (M.of p S)) : postP G Rp m H Q (p S) := by
  unfold M.of at h
  cases q : p S with
  | none => rw [q] at h; exact h
  | some a =>
    rw [q] at h
    exact h
theorem post.imp {α β : Type} {Rp : List Addr → Hp → β → α → Prop} {σ m H} {Q Q' : β → Hp → Prop} {r : R α} (h : post G W Rp σ m H Q r) (hq : ∀ b H', Q b H' → Q' b H') : post G W Rp σ m H Q' r := by
  cases r with
  | ok a S' => exact fun m' H' b e s r => hq _ _ (h m' H' b e s r)
  | ex c fs S' => exact h
  | bad => exact h
theorem tX.bind {α β α' β' : Type} {Ra : List Addr → Hp → β' → α' → Prop} {Rp : List Addr → Hp → β → α → Prop} {C : Cfg} {e : Cfg → Slots → M α'} {k : Cfg → Slots → α' → M α} {σ H} {Q : β → Hp → Prop}
    (h : tX G W Rp C (fun C σ => (e C σ).bind (k C σ)) σ H Q) : tX G W Ra C e σ H fun x H1 => tK G W Ra Rp C k σ H1 x Q := by
  obtain ⟨m, S, ls, s, r, h⟩ := h
  refine ⟨m, S, ls, s, r, ?_⟩
  have h : post G W Rp σ m H Q (match e C ls S with
    | .ok a S' => k C ls a S'
    | .ex c fs S' => .ex c fs S'
    | .bad => .bad) := h
  cases q : e C ls S with
  | ok a S' =>
    rw [q] at h
    exact fun m' H' b x s' ra => ⟨m', S', ls, a, s', r.mono x, ra, post.ext x h⟩
  | ex c fs S' =>
    rw [q] at h
    exact h
  | bad =>
    rw [q] at h
    exact h
theorem tK.bind {α β α' β' α2 β2 : Type} {Ra : List Addr → Hp → β' → α' → Prop} {Rb : List Addr → Hp → β2 → α2 → Prop} {Rp : List Addr → Hp → β → α → Prop} {C : Cfg} {e : Cfg → Slots → M α2} {k : Cfg → Slots → α' → α2 → M α} {σ H x} {Q : β → Hp → Prop}
    (mono : ∀ {m H m' H' b a}, Ext G m H m' H' → Ra m H b a → Ra m' H' b a)
    (h : tK G W Ra Rp C (fun C σ a => (e C σ).bind (k C σ a)) σ H x Q) : tX G W Rb C e σ H fun y H1 => tK G W (fun m H (p : β' × β2) (q : α' × α2) => Ra m H p.1 q.1 ∧ Rb m H p.2 q.2) Rp C (fun C σ p => k C σ p.1 p.2) σ H1 (x, y) Q := by
  obtain ⟨m, S, ls, a, s, r, ra, h⟩ := h
  refine ⟨m, S, ls, s, r, ?_⟩
  have h : post G W Rp σ m H Q (match e C ls S with
    | .ok b S' => k C ls a b S'
    | .ex c fs S' => .ex c fs S'
    | .bad => .bad) := h
  cases q : e C ls S with
  | ok b S' =>
    rw [q] at h
    exact fun m' H' y x s' rb => ⟨m', S', ls, (a, b), s', r.mono x, ⟨mono x ra, rb⟩, post.ext x h⟩
  | ex c fs S' =>
    rw [q] at h
    exact h
  | bad =>
    rw [q] at h
    exact h
theorem PE.weak {X : Cx} {e : Expr} {t t' : TE} (h : PE X e t) (i : ∀ σ H Q, t' σ H Q → t σ H Q) : PE X e t' := ⟨fun pins s σ H Q I q => h.run pins s σ H Q I (i σ H Q q)⟩
theorem PT.weak {X : Cx} {e : Expr} {t t' : TT} (h : PT X e t) (i : ∀ σ H Q, t' σ H Q → t σ H Q) : PT X e t' := ⟨fun pins s σ H Q I q => h.run pins s σ H Q I (i σ H Q q)⟩
theorem PW.weak {X : Cx} {e : Expr} {t t' : TT} (h : PW X e t) (i : ∀ σ H Q, t' σ H Q → t σ H Q) : PW X e t' := ⟨fun wh pins s σ H Q I q => h.run wh pins s σ H Q I (i σ H Q q)⟩
theorem PA.weak {X : Cx} {e : List Expr} {t t' : TA} (h : PA X e t) (i : ∀ σ H Q, t' σ H Q → t σ H Q) : PA X e t' := ⟨fun pos pins s σ H Q I q => h.run pos pins s σ H Q I (i σ H Q q)⟩
theorem PS.weak {X : Cx} {e : Stmt} {t t' : TS} (h : PS X e t) (i : ∀ D σ H, t' D σ H → t D σ H) : PS X e t' := ⟨fun pins s σ H Q I q => h.run pins s σ H Q I (i Q σ H q)⟩
theorem PSs.weak {X : Cx} {e : List Stmt} {t t' : TS} (h : PSs X e t) (i : ∀ D σ H, t' D σ H → t D σ H) : PSs X e t' := ⟨fun pins s σ H Q I q => h.run pins s σ H Q I (i Q σ H q)⟩
def rP2 (G : Gx) (f : D → D → P D) : R2 := fun x y H Q => ∃ m S a b, Sim G m S H ∧ RepV G m H x a ∧ RepV G m H y b ∧ postP G (RepV G) m H Q (f a b S)
def rP1 {α β : Type} (G : Gx) (Rp : List Addr → Hp → β → α → Prop) (f : D → P α) : V → Hp → (β → Hp → Prop) → Prop := fun x H Q => ∃ m S a, Sim G m S H ∧ RepV G m H x a ∧ postP G Rp m H Q (f a S)
def rPA (G : Gx) (f : List D → P D) : List V → Hp → VK → Prop := fun xs H Q => ∃ m S as, Sim G m S H ∧ RepVs G m H xs as ∧ postP G (RepV G) m H Q (f as S)
theorem w2 {C : Cfg} {f : D → D → P D} {a b : ME} {σ H Q} (h : tE G W C (e2 f a b) σ H Q) : tOp (rP2 G f) (tE G W C a) (tE G W C b) σ H Q := by
  have h1 := tX.bind (Ra := RepV G) (k := fun C σ x => (b C σ).bind fun y => M.of (f x y)) h
  obtain ⟨m, S, ls, s, r, p⟩ := h1
  refine ⟨m, S, ls, s, r, post.imp p fun x H1 q => ?_⟩
  have h2 := tK.bind (G := G) (W := W) (Ra := RepV G) (Rb := RepV G) (Rp := RepV G) (C := C) (e := b) (k := fun _ _ x y => M.of (f x y)) (fun {_ _ _ _ _ _} e r => RepV.mono e r) q
  obtain ⟨m, S, ls, s, r, p⟩ := h2
  refine ⟨m, S, ls, s, r, post.imp p fun y H2 q => ?_⟩
  obtain ⟨m, S, ls, ab, s, r, ⟨ra, rb⟩, p⟩ := q
  exact ⟨m, S, ab.1, ab.2, s, ra, rb, post.of p⟩
theorem w1 {α β : Type} {Rp : List Addr → Hp → β → α → Prop} {C : Cfg} {f : D → P α} {a : ME} {σ H} {Q : β → Hp → Prop} (h : tX G W Rp C (fun C σ => (a C σ).bind fun x => M.of (f x)) σ H Q) : tE G W C a σ H fun x H1 => rP1 G Rp f x H1 Q := by
  have h1 := tX.bind (Ra := RepV G) (k := fun _ _ x => M.of (f x)) h
  obtain ⟨m, S, ls, s, r, p⟩ := h1
  refine ⟨m, S, ls, s, r, post.imp p fun x H1 q => ?_⟩
  obtain ⟨m, S, ls, a, s, r, ra, p⟩ := q
  exact ⟨m, S, a, s, ra, post.of p⟩
theorem wA {C : Cfg} {f : List D → P D} {a : MA} {σ H Q} (h : tE G W C (fun C σ => (a C σ).bind fun x => M.of (f x)) σ H Q) : tA G W C a σ H fun x H1 => rPA G f x H1 Q := by
  have h1 := tX.bind (Ra := RepVs G) (k := fun _ _ x => M.of (f x)) h
  obtain ⟨m, S, ls, s, r, p⟩ := h1
  refine ⟨m, S, ls, s, r, post.imp p fun x H1 q => ?_⟩
  obtain ⟨m, S, ls, a, s, r, ra, p⟩ := q
  exact ⟨m, S, a, s, ra, post.of p⟩
end
end MP
namespace MP
open PySem PySem.Spec PyProof.Rows L2
section
variable {G : Gx} {m : List Addr} {H : Hp} {v : V} {S : Store}
theorem RepV.int_ {i} (h : RepV G m H v (.int i)) : v = .int i := by cases h; rfl
theorem RepV.bl_ {i} (h : RepV G m H v (.bl i)) : v = .bl i := by cases h; rfl
theorem RepV.non_ (h : RepV G m H v .non) : v = .non := by cases h; rfl
theorem RepV.str_ {s} (h : RepV G m H v (.str s)) : v = .str ⟨s.toArray⟩ := by cases h; rfl
theorem RepV.tup_ {ds} (h : RepV G m H v (.tup ds)) : ∃ p vs, v = .ref p ∧ SqT G.K H p vs ∧ RepVs G m H vs ds := by
  cases h with
  | tup a b => exact ⟨_, _, rfl, a, b⟩
theorem RepV.ref_ {n} (h : RepV G m H v (.ref n)) : ∃ p, v = .ref p ∧ m[n]? = some p := by
  cases h with
  | ref a => exact ⟨_, rfl, a⟩
theorem line_eq : line = sizeLine := by rw [sizeLine_eq]; rfl
theorem len_mk (s : List Nat) : (⟨s.toArray⟩ : Str).length = s.length := by simp [Str.length]
theorem app_mk (a b : List Nat) : (⟨a.toArray⟩ : Str) ++ ⟨b.toArray⟩ = ⟨(a ++ b).toArray⟩ := by
  show Str.append _ _ = _
  simp [Str.append]
theorem ext_push {p : Addr} {u : HO} (n : H p = none) : Ext G m H (m ++ [p]) (upd H p u) := Ext.trans (Ext.new n) Ext.app
theorem sim_new {p : Addr} {o : Ob} {u : HO} (s : Sim G m S H) (n : H p = none) (h : RepO G (m ++ [p]) (upd H p u) p o) : Sim G (m ++ [p]) (S.push o) (upd H p u) where
  tbs := fun P h => tabS_new (s.tbs P h) n
  len := by rw [List.length_append, s.len, Store.size_push]; rfl
  nd := fun i j q a b ea na eb nb hi hj => by
    have key : ∀ {k : Nat} {c : Ob}, (S.push o).get k = some c → isRol c = false → (m ++ [p])[k]? = some q → (k < S.size ∧ S.get k = some c ∧ m[k]? = some q) ∨ (k = S.size ∧ q = p) := fun {k c} e nc hk => by
      by_cases h1 : k < S.size
      · rw [Store.get_push_lt h1] at e
        rw [List.getElem?_append_left (by rw [s.len]; exact h1)] at hk
        exact .inl ⟨h1, e, hk⟩
      · have hl := Store.get_lt e
        rw [Store.size_push] at hl
        have hk' : k = S.size := by omega
        subst hk'
        rw [← s.len, List.getElem?_append_right (Nat.le_refl _), Nat.sub_self] at hk
        exact .inr ⟨rfl, by simpa using hk.symm⟩
    have old : ∀ {k : Nat} {c : Ob}, S.get k = some c → isRol c = false → m[k]? = some p → False := fun {k c} e nc hk => by
      obtain ⟨q', h1, h2⟩ := s.obj k c e
      rw [hk] at h1
      cases h1
      obtain ⟨u', h3, _⟩ := h2.tracked nc
      rw [n] at h3
      cases h3
    rcases key ea na hi with ⟨_, e1, h1⟩ | ⟨e1, h1⟩
    · rcases key eb nb hj with ⟨_, e2, h2⟩ | ⟨e2, h2⟩
      · exact s.nd i j q a b e1 na e2 nb h1 h2
      · subst h2; exact (old e1 na h1).elim
    · rcases key eb nb hj with ⟨_, e2, h2⟩ | ⟨e2, h2⟩
      · subst h1; exact (old e2 nb h2).elim
      · rw [e1, e2]
  obj := fun k x e => by
    by_cases hk : k < S.size
    · rw [Store.get_push_lt hk] at e
      obtain ⟨q, h1, h2⟩ := s.obj k x e
      exact ⟨q, (ext_push (G := G) (u := u) n).pre _ _ h1, h2.new n (ext_push n)⟩
    · have hl := Store.get_lt e
      rw [Store.size_push] at hl
      have hk' : k = S.size := by omega
      subst hk'
      rw [Store.get_push_same] at e
      cases e
      refine ⟨p, ?_, h⟩
      rw [← s.len, List.getElem?_append_right (Nat.le_refl _), Nat.sub_self]
      rfl
theorem ref_new {p : Addr} (s : Sim G m S H) {H' : Hp} : RepV G (m ++ [p]) H' (.ref p) (.ref S.size) := by
  refine .ref ?_
  rw [← s.len, List.getElem?_append_right (Nat.le_refl _), Nat.sub_self]
  rfl
theorem sim_set0 {p : Addr} {n : Nat} {o o' : Ob} {u : HO} (s : Sim G m S H) (hn : S.get n = some o) (no : isRol o = false) (hp : m[n]? = some p) (mu : Mut1 (H p)) (h : RepO G m (upd H p u) p o') : Sim G m (S.set n o') (upd H p u) where
  tbs := fun P h => tabS_mut (s.tbs P h) mu
  len := by rw [s.len, Store.size_set]
  nd := fun i j q a b ea na eb nb hi hj => by
    have hlt := Store.get_lt hn
    have key : ∀ {k : Nat} {c : Ob}, (S.set n o').get k = some c → isRol c = false → ∃ c', S.get k = some c' ∧ isRol c' = false := fun {k c} e nc => by
      by_cases hk : k = n
      · subst hk; exact ⟨_, hn, no⟩
      · rw [Store.get_set_ne _ hlt hk] at e; exact ⟨_, e, nc⟩
    obtain ⟨_, e1, n1⟩ := key ea na
    obtain ⟨_, e2, n2⟩ := key eb nb
    exact s.nd i j q _ _ e1 n1 e2 n2 hi hj
  obj := fun k x e => by
    have hlt := Store.get_lt hn
    by_cases hk : k = n
    · subst hk
      rw [Store.get_set_same _ hlt] at e
      cases e
      exact ⟨p, hp, h⟩
    · rw [Store.get_set_ne _ hlt hk] at e
      obtain ⟨q, h1, h2⟩ := s.obj k x e
      have ext : Ext G m H m (upd H p u) := Ext.mut mu
      refine ⟨q, h1, ?_⟩
      cases h2 with
      | lst a b =>
        have ne : q ≠ p := fun z => hk (s.nd k n p _ _ e rfl hn no (z ▸ h1) hp)
        exact .lst (by rw [upd_ne ne]; exact a) (b.mono ext)
      | ins a b =>
        have ne : q ≠ p := fun z => hk (s.nd k n p _ _ e rfl hn no (z ▸ h1) hp)
        exact .ins (by rw [upd_ne ne]; exact a) (b.mono ext)
      | dct a b =>
        have ne : q ≠ p := fun z => hk (s.nd k n p _ _ e rfl hn no (z ▸ h1) hp)
        exact .dct (by rw [upd_ne ne]; exact a) (b.mono ext)
      | dtu a b =>
        have ne : q ≠ p := fun z => hk (s.nd k n p _ _ e rfl hn no (z ▸ h1) hp)
        exact .dtu (by rw [upd_ne ne]; exact a) (b.mono ext)
      | fdt a b =>
        have ne : q ≠ p := fun z => by subst z; rw [a] at mu; exact mu
        exact .fdt (by rw [upd_ne ne]; exact a) (b.mono ext)
      | fdk a b =>
        have ne : q ≠ p := fun z => by subst z; rw [a] at mu; exact mu
        exact .fdk (by rw [upd_ne ne]; exact a) (b.mono ext)
      | rol a b =>
        refine .rol ?_ (b.mono ext)
        rcases a with ⟨ob, a⟩ | a
        · by_cases z : q = p
          · subst z
            rw [a] at mu
            exact mu.elim
          · exact .inl ⟨ob, by rw [upd_ne z]; exact a⟩
        · exact .inr a
theorem sim_set {p : Addr} {n : Nat} {o o' : Ob} {u : HO} (s : Sim G m S H) (hn : S.get n = some o) (no : isRol o = false) (no' : isRol o' = false) (hp : m[n]? = some p) (mu : Mut1 (H p)) (h : RepO G m (upd H p u) p o') : Sim G m (S.set n o') (upd H p u) := sim_set0 s hn no hp mu h
end
theorem new_lst {G : Gx} {m : List Addr} {H : Hp} {S : Store} {vs : List V} {xs : List D} {Q : VK} (s : Sim G m S H) (r : RepVs G m H vs xs) (p : postP G (RepV G) m H Q (some (.ref S.size, S.push (.lst xs)))) :
    ∀ q, H q = none → Q (.ref q) (upd H q (.lst vs)) := fun q n =>
  p _ _ _ (ext_push n) (sim_new s n (.lst upd_same (r.mono (ext_push n)))) (ref_new s)
theorem sim_same {G : Gx} {m : List Addr} {H : Hp} {S : Store} {q : Addr} {u : HO} (s : Sim G m S H) (n : H q = none) : Sim G m S (upd H q u) where
  tbs := fun P h => tabS_new (s.tbs P h) n
  len := s.len
  nd := s.nd
  obj := fun k x e => by
    obtain ⟨p, h1, h2⟩ := s.obj k x e
    exact ⟨p, h1, h2.new n (Ext.new n)⟩
theorem new_tup {G : Gx} {m : List Addr} {H : Hp} {S : Store} {vs : List V} {xs : List D} {Q : VK} (s : Sim G m S H) (r : RepVs G m H vs xs) (p : postP G (RepV G) m H Q (some (.tup xs, S))) :
    ∀ q, H q = none → Q (.ref q) (upd H q (.tup vs)) := fun q n =>
  p _ _ _ (Ext.new n) (sim_same s n) (.tup (SqT.of upd_same) (r.mono (Ext.new n)))
theorem fin_val {G : Gx} {m : List Addr} {H : Hp} {S : Store} {v : V} {d : D} {Q : VK} (s : Sim G m S H) (r : RepV G m H v d) (p : postP G (RepV G) m H Q (some (d, S))) : Q v H := p m H v Ext.refl s r
section
variable {G : Gx} {X : Cx} (hK : G.K = X.K)
include hK
theorem o_add : OpR X (binaryOp .Add) (rP2 G opAdd) := by
  intro pins s σ H x y v u Q I rx ry h
  obtain ⟨m, S, a, b, sim, ra, rb, p⟩ := h
  unfold opAdd at p
  split at p
  · cases ra.int_; cases rb.int_
    exact op_add pins s σ H _ _ v u Q I rx ry ⟨_, _, rfl, rfl, fin_val sim (.int _) p⟩
  · cases ra.str_; cases rb.str_
    split at p
    · rename_i hz
      refine op_add_str pins s σ H _ _ v u Q I rx ry ⟨_, _, rfl, rfl, by rw [len_mk, len_mk, ← line_eq]; exact hz, ?_⟩
      rw [app_mk]
      exact fin_val sim (.str _) p
    · exact p.elim
  · obtain ⟨pa, va, rfl, sa, ra⟩ := ra.tup_
    obtain ⟨pb, vb, rfl, sb, rb⟩ := rb.tup_
    split at p
    · rename_i hz
      refine op_catA pins s σ H _ _ v u Q I rx ry ⟨pa, pb, va, vb, rfl, rfl, hK ▸ sa, hK ▸ sb, by rw [ra.length, rb.length, ← line_eq]; exact hz, fun e => ?_, fun e1 e2 => ?_, fun e1 e2 => new_tup sim (ra.append rb) p⟩
      · subst e
        cases ra
        exact fin_val sim (.tup sb rb) p
      · subst e2
        cases rb
        rw [List.append_nil] at p
        exact fin_val sim (.tup sa ra) p
    · exact p.elim
  · obtain ⟨pa, rfl, ea⟩ := ra.ref_
    obtain ⟨pb, rfl, eb⟩ := rb.ref_
    split at p
    · rename_i xs ys h1 h2
      split at p
      · rename_i hz
        obtain ⟨pa', va, e1, e2, r1⟩ := sim.lst h1
        obtain ⟨pb', vb, e3, e4, r2⟩ := sim.lst h2
        rw [ea] at e1; cases e1
        rw [eb] at e3; cases e3
        exact op_cat pins s σ H _ _ v u Q I rx ry ⟨pa, pb, va, vb, rfl, rfl, e2, e4, by rw [r1.length, r2.length, ← line_eq]; exact hz, new_lst sim (r1.append r2) p⟩
      · exact p.elim
    · exact p.elim
  · exact p.elim
omit hK in
theorem o_sub : OpR X (binaryOp .Sub) (rP2 G opSub) := by
  intro pins s σ H x y v u Q I rx ry h
  obtain ⟨m, S, a, b, sim, ra, rb, p⟩ := h
  unfold opSub at p
  split at p
  · cases ra.int_; cases rb.int_
    exact op_sub pins s σ H _ _ v u Q I rx ry ⟨_, _, rfl, rfl, fin_val sim (.int _) p⟩
  · exact p.elim
omit hK in
theorem o_div : OpR X (binaryOp .FloorDiv) (rP2 G opDiv) := by
  intro pins s σ H x y v u Q I rx ry h
  obtain ⟨m, S, a, b, sim, ra, rb, p⟩ := h
  unfold opDiv at p
  split at p
  · cases ra.int_; cases rb.int_
    split at p
    · rename_i hz
      exact op_fdivN pins s σ H _ _ v u Q I rx ry ⟨_, _, rfl, rfl, hz, fin_val sim (.int _) p⟩
    · exact p.elim
  · exact p.elim
omit hK in
theorem o_mod : OpR X (binaryOp .Mod) (rP2 G opMod) := by
  intro pins s σ H x y v u Q I rx ry h
  obtain ⟨m, S, a, b, sim, ra, rb, p⟩ := h
  unfold opMod at p
  split at p
  · cases ra.int_; cases rb.int_
    split at p
    · rename_i hz
      exact op_modN pins s σ H _ _ v u Q I rx ry ⟨_, _, rfl, rfl, hz, fin_val sim (.int _) p⟩
    · exact p.elim
  · exact p.elim
omit hK in
theorem o_pow : OpR X (binaryOp .Pow) (rP2 G opPow) := by
  intro pins s σ H x y v u Q I rx ry h
  obtain ⟨m, S, a, b, sim, ra, rb, p⟩ := h
  unfold opPow at p
  split at p
  · cases ra.int_; cases rb.int_
    split at p
    · rename_i hz
      exact op_pow pins s σ H _ _ v u Q I rx ry ⟨_, _, rfl, rfl, ⟨hz.1, hz.2.1, hz.2.2⟩, fin_val sim (.int _) p⟩
    · exact p.elim
  · exact p.elim
end
end MP
namespace MP
open PySem PySem.Spec PyProof.Rows L2 SeqAt
theorem nd_cons {x : PyData} {xs : List PyData} (h : PyData.hasDictAll (x :: xs) = false) : x.hasDict = false ∧ PyData.hasDictAll xs = false := by
  simp only [PyData.hasDictAll, Bool.or_eq_false_iff] at h
  exact h
mutual
theorem reads_one {h : Heap} {v : Value} {d e : PyData} {as bs : List Addr} (r : Reads h v d as) (q : Reads h v e bs) (nd : d.hasDict = false) : d = e := by
  cases r with
  | none => cases q; rfl
  | bool _ => cases q; rfl
  | int _ _ => cases q; rfl
  | str _ _ => cases q; rfl
  | dict _ _ _ _ _ => simp [PyData.hasDict] at nd
  | list a1 a2 a3 a4 =>
    cases q with
    | list b1 b2 b3 b4 =>
      obtain rfl := Option.some.inj (a1.symm.trans b1)
      have := a3.symm.trans b3
      injection this with e1 _
      subst e1
      rw [readsAll_one a4 b4 (by simpa [PyData.hasDict] using nd)]
    | tuple b1 b2 _ _ =>
      obtain rfl := Option.some.inj (a1.symm.trans b1)
      exact absurd (a2.symm.trans b2) (by simp)
    | dict b1 b2 _ _ _ =>
      obtain rfl := Option.some.inj (a1.symm.trans b1)
      exact absurd (a2.symm.trans b2) (by simp)
  | tuple a1 a2 a3 a4 =>
    cases q with
    | tuple b1 b2 b3 b4 =>
      obtain rfl := Option.some.inj (a1.symm.trans b1)
      have := a3.symm.trans b3
      injection this with e1 _
      subst e1
      rw [readsAll_one a4 b4 (by simpa [PyData.hasDict] using nd)]
    | list b1 b2 _ _ =>
      obtain rfl := Option.some.inj (a1.symm.trans b1)
      exact absurd (a2.symm.trans b2) (by simp)
    | dict b1 b2 _ _ _ =>
      obtain rfl := Option.some.inj (a1.symm.trans b1)
      exact absurd (a2.symm.trans b2) (by simp)
theorem readsAll_one {h : Heap} {vs : List Value} {ds es : List PyData} {as bs : List Addr} (r : ReadsAll h vs ds as) (q : ReadsAll h vs es bs) (nd : PyData.hasDictAll ds = false) : ds = es := by
  cases r with
  | nil => cases q; rfl
  | cons r1 r2 =>
    cases q with
    | cons q1 q2 =>
      obtain ⟨n1, n2⟩ := nd_cons nd
      rw [reads_one r1 q1 n1, readsAll_one r2 q2 n2]
end
mutual
theorem eqv_same : ∀ d : PyData, d.hasDict = false → PyData.eqv d d = true
  | .none, _ => rfl
  | .bool b, _ => by simp [PyData.eqv]
  | .int i, _ => by simp [PyData.eqv]
  | .str x, _ => by simp [PyData.eqv]
  | .list xs, n => by rw [PyData.eqv]; exact eqvs_same xs (by simpa [PyData.hasDict] using n)
  | .tuple xs, n => by rw [PyData.eqv]; exact eqvs_same xs (by simpa [PyData.hasDict] using n)
  | .dict _, n => by simp [PyData.hasDict] at n
theorem eqvs_same : ∀ ds : List PyData, PyData.hasDictAll ds = false → PyData.eqvAll ds ds = true
  | [], _ => rfl
  | d :: ds, n => by
    obtain ⟨n1, n2⟩ := nd_cons n
    rw [PyData.eqvAll, eqv_same d n1, eqvs_same ds n2]; rfl
end
theorem readsAll_len {h : Heap} {vs : List Value} {ds : List PyData} {as : List Addr} (r : ReadsAll h vs ds as) : vs.length = ds.length := SeqAt.ReadsAll.length ds vs as r
theorem readsAll_at {h : Heap} : ∀ {vs : List Value} {ds : List PyData} {as : List Addr} (j : Nat) (hj : j < vs.length), ReadsAll h vs ds as → ∃ d cs, ds[j]? = some d ∧ Reads h vs[j] d cs ∧ d.depth ≤ PyData.depthAll ds ∧ (PyData.hasDictAll ds = false → d.hasDict = false)
  | _, _, _, j, hj, .nil => absurd hj (Nat.not_lt_zero _)
  | _, _, _, 0, _, .cons r _ => ⟨_, _, rfl, r, by simp only [PyData.depthAll]; exact Nat.le_max_left _ _, fun n => (nd_cons n).1⟩
  | _, _, _, j + 1, hj, .cons _ q => by
    obtain ⟨d, cs, e, r, l, n⟩ := readsAll_at j (Nat.lt_of_succ_lt_succ hj) q
    exact ⟨d, cs, by simpa using e, by simpa using r, by simp only [PyData.depthAll]; exact Nat.le_trans l (Nat.le_max_right _ _), fun z => n (nd_cons z).2⟩
theorem getD_of {ds : List PyData} {j : Nat} {d : PyData} (h : ds[j]? = some d) : ds.getD j .none = d := by simp [List.getD, h]
theorem eqA : ∀ (k : Nat) (da db : PyData) (A : Around) (s : Shared) (a b : Value) (as bs : List Addr), da.depth ≤ k → db.depth ≤ k → Reads s.heap a da as → Reads s.heap b db bs → da.hasDict = false → db.hasDict = false → A.units + k < cLine →
    EqAt A s a b (PyData.eqv da db) := by
  intro k
  induction k with
  | zero =>
    intro da db A s a b as bs h1 h2 ra rb n1 n2 hu
    cases ra with
    | none =>
      cases rb with
      | none => exact EqAt.same _
      | bool y => exact EqAt.none_bool  y
      | int y u => exact EqAt.none_int  y u
      | str y u => exact EqAt.none_str  y u
      | list _ _ _ _ => simp [PyData.depth] at h2
      | tuple _ _ _ _ => simp [PyData.depth] at h2
      | dict _ _ _ _ _ => simp [PyData.hasDict] at n2
    | bool x =>
      cases rb with
      | none => exact EqAt.bool_none x
      | bool y => exact EqAt.bool_bool x y
      | int y u => exact EqAt.bool_int x y u
      | str y u => exact EqAt.bool_str x y u
      | list _ _ _ _ => simp [PyData.depth] at h2
      | tuple _ _ _ _ => simp [PyData.depth] at h2
      | dict _ _ _ _ _ => simp [PyData.hasDict] at n2
    | int x t =>
      cases rb with
      | none => exact EqAt.int_none x t
      | bool y => exact EqAt.int_bool x t y
      | int y u => exact EqAt.int_int x t y u
      | str y u => exact EqAt.int_str x t y u
      | list _ _ _ _ => simp [PyData.depth] at h2
      | tuple _ _ _ _ => simp [PyData.depth] at h2
      | dict _ _ _ _ _ => simp [PyData.hasDict] at n2
    | str x t =>
      cases rb with
      | none => exact EqAt.str_none x t
      | bool y => exact EqAt.str_bool x t y
      | int y u => exact EqAt.str_int x t y u
      | str y u => exact EqAt.str_str x t y u
      | list _ _ _ _ => simp [PyData.depth] at h2
      | tuple _ _ _ _ => simp [PyData.depth] at h2
      | dict _ _ _ _ _ => simp [PyData.hasDict] at n2
    | list _ _ _ _ => simp [PyData.depth] at h1
    | tuple _ _ _ _ => simp [PyData.depth] at h1
    | dict _ _ _ _ _ => simp [PyData.hasDict] at n1
  | succ k ih =>
    intro da db A s a b as bs h1 h2 ra rb n1 n2 hu
    have hu0 : A.units < cLine := by omega
    have hu1 : A.in1.units + k < cLine := by
      show A.units + 1 + k < cLine
      omega
    have item : ∀ {vs ws : Array Value} {xs ys : List PyData} {cs es : List Addr}, ReadsAll s.heap vs.toList xs cs → ReadsAll s.heap ws.toList ys es → PyData.depthAll xs ≤ k → PyData.depthAll ys ≤ k → PyData.hasDictAll xs = false → PyData.hasDictAll ys = false →
        ∀ j (j1 : j < vs.size) (j2 : j < ws.size), EqAt A.in1 s vs[j] ws[j] (pairEq xs ys j) := fun {vs ws xs ys cs es} r q d1 d2 m1 m2 j j1 j2 => by
      obtain ⟨x, _, e1, r1, l1, o1⟩ := readsAll_at j (by simpa using j1) r
      obtain ⟨y, _, e2, r2, l2, o2⟩ := readsAll_at j (by simpa using j2) q
      have key := ih x y A.in1 s _ _ _ _ (by omega) (by omega) r1 r2 (o1 m1) (o2 m2) hu1
      show EqAt A.in1 s vs[j] ws[j] (PyData.eqv (xs.getD j .none) (ys.getD j .none))
      rw [getD_of e1, getD_of e2]
      simpa using key
    cases ra with
    | dict _ _ _ _ _ => simp [PyData.hasDict] at n1
    | @list l _ vs _ xs _ a1 a2 a3 a4 =>
      have hl : s.heap.IsList l vs := ⟨_, a1, a2, _, a3⟩
      cases rb with
      | dict _ _ _ _ _ => simp [PyData.hasDict] at n2
      | none => exact EqAt.list_none hl hu0
      | bool y => exact EqAt.list_bool y hl hu0
      | int y u => exact EqAt.list_int y u hl hu0
      | str y u => exact EqAt.list_str y u hl hu0
      | tuple b1 b2 b3 b4 => exact EqAt.list_tuple hl ⟨_, b1, b2, _, b3⟩ hu0
      | @list l' _ ws _ ys _ b1 b2 b3 b4 =>
        have hl' : s.heap.IsList l' ws := ⟨_, b1, b2, _, b3⟩
        have z1 : vs.size = xs.length := by simpa using readsAll_len a4
        have z2 : ws.size = ys.length := by simpa using readsAll_len b4
        have m1 : PyData.hasDictAll xs = false := by simpa [PyData.hasDict] using n1
        have m2 : PyData.hasDictAll ys = false := by simpa [PyData.hasDict] using n2
        by_cases e : l = l'
        · subst e
          rw [← reads_one (.list a1 a2 a3 a4) (.list b1 b2 b3 b4) n1, eqv_same _ n1]
          exact EqAt.same _
        · show EqAt A s _ _ (PyData.eqvAll xs ys)
          by_cases q : vs.size = ws.size
          · rw [← eqvAll_same_length (show xs.length = ys.length by omega), ← z1]
            exact EqAt.of_refs e (RcAt.lists hl hl' q hu0 (item a4 b4 (by simp only [PyData.depth] at h1; omega) (by simp only [PyData.depth] at h2; omega) m1 m2))
          · rw [eqvAll_other_length (show xs.length ≠ ys.length by omega)]
            exact EqAt.of_refs e (RcAt.lists_lengths hl hl' (by simpa using q) hu0)
    | @tuple l _ vs _ xs _ a1 a2 a3 a4 =>
      have hl : s.heap.IsTuple l vs := ⟨_, a1, a2, _, a3⟩
      cases rb with
      | dict _ _ _ _ _ => simp [PyData.hasDict] at n2
      | none => exact EqAt.tuple_none hl hu0
      | bool y => exact EqAt.tuple_bool y hl hu0
      | int y u => exact EqAt.tuple_int y u hl hu0
      | str y u => exact EqAt.tuple_str y u hl hu0
      | list b1 b2 b3 b4 => exact EqAt.tuple_list hl ⟨_, b1, b2, _, b3⟩ hu0
      | @tuple l' _ ws _ ys _ b1 b2 b3 b4 =>
        have hl' : s.heap.IsTuple l' ws := ⟨_, b1, b2, _, b3⟩
        have z1 : vs.size = xs.length := by simpa using readsAll_len a4
        have z2 : ws.size = ys.length := by simpa using readsAll_len b4
        have m1 : PyData.hasDictAll xs = false := by simpa [PyData.hasDict] using n1
        have m2 : PyData.hasDictAll ys = false := by simpa [PyData.hasDict] using n2
        by_cases e : l = l'
        · subst e
          rw [← reads_one (.tuple a1 a2 a3 a4) (.tuple b1 b2 b3 b4) n1, eqv_same _ n1]
          exact EqAt.same _
        · show EqAt A s _ _ (PyData.eqvAll xs ys)
          rw [← eqvAll_eq xs ys, ← z1, ← z2]
          exact EqAt.of_refs e (RcAt.tuples hl hl' hu0 (item a4 b4 (by simp only [PyData.depth] at h1; omega) (by simp only [PyData.depth] at h2; omega) m1 m2))
    | none =>
      cases rb with
      | none => exact EqAt.same _
      | bool y => exact EqAt.none_bool  y
      | int y u => exact EqAt.none_int  y u
      | str y u => exact EqAt.none_str  y u
      | list b1 b2 b3 b4 => exact EqAt.none_list  ⟨_, b1, b2, _, b3⟩ hu0
      | tuple b1 b2 b3 b4 => exact EqAt.none_tuple  ⟨_, b1, b2, _, b3⟩ hu0
      | dict _ _ _ _ _ => simp [PyData.hasDict] at n2
    | bool x =>
      cases rb with
      | none => exact EqAt.bool_none x
      | bool y => exact EqAt.bool_bool x y
      | int y u => exact EqAt.bool_int x y u
      | str y u => exact EqAt.bool_str x y u
      | list b1 b2 b3 b4 => exact EqAt.bool_list x ⟨_, b1, b2, _, b3⟩ hu0
      | tuple b1 b2 b3 b4 => exact EqAt.bool_tuple x ⟨_, b1, b2, _, b3⟩ hu0
      | dict _ _ _ _ _ => simp [PyData.hasDict] at n2
    | int x t =>
      cases rb with
      | none => exact EqAt.int_none x t
      | bool y => exact EqAt.int_bool x t y
      | int y u => exact EqAt.int_int x t y u
      | str y u => exact EqAt.int_str x t y u
      | list b1 b2 b3 b4 => exact EqAt.int_list x t ⟨_, b1, b2, _, b3⟩ hu0
      | tuple b1 b2 b3 b4 => exact EqAt.int_tuple x t ⟨_, b1, b2, _, b3⟩ hu0
      | dict _ _ _ _ _ => simp [PyData.hasDict] at n2
    | str x t =>
      cases rb with
      | none => exact EqAt.str_none x t
      | bool y => exact EqAt.str_bool x t y
      | int y u => exact EqAt.str_int x t y u
      | str y u => exact EqAt.str_str x t y u
      | list b1 b2 b3 b4 => exact EqAt.str_list x t ⟨_, b1, b2, _, b3⟩ hu0
      | tuple b1 b2 b3 b4 => exact EqAt.str_tuple x t ⟨_, b1, b2, _, b3⟩ hu0
      | dict _ _ _ _ _ => simp [PyData.hasDict] at n2
theorem optAll_cons {α β : Type} {f : α → Option β} {x : α} {xs : List α} {ys : List β} (h : optAll f (x :: xs) = some ys) : ∃ y r, f x = some y ∧ optAll f xs = some r ∧ ys = y :: r := by
  unfold optAll at h
  cases q : f x with
  | none => rw [q] at h; cases h
  | some y =>
    rw [q] at h
    cases q2 : optAll f xs with
    | none => rw [q2] at h; cases h
    | some r =>
      rw [q2] at h
      cases h
      exact ⟨y, r, rfl, rfl, rfl⟩
section
variable {G : Gx} {X : Cx} (hK : G.K = X.K) {m : List Addr} {H : Hp} {S : Store} {pins : List (Addr × Obj)} {s : Shared} {σ : L2.St}
include hK
theorem snap_reads (I : Inv X pins σ H s) (sim : Sim G m S H) : ∀ (k : Nat) (d : D) (da : PyData) (v : V) (u : Value), RepV G m H v d → snap S k d = some da → RelV v u → ∃ as, Reads s.heap u da as ∧ da.depth ≤ k ∧ da.hasDict = false := by
  intro k
  induction k with
  | zero =>
    intro d da v u _ h _
    cases d <;> cases h
  | succ k ih =>
    have all : ∀ (xs : List D) (ds : List PyData) (vs : List V) (us : List Value), RepVs G m H vs xs → optAll (snap S k) xs = some ds → Vals vs us → ∃ as, ReadsAll s.heap us ds as ∧ PyData.depthAll ds ≤ k ∧ PyData.hasDictAll ds = false := by
      intro xs
      induction xs with
      | nil =>
        intro ds vs us r h rv
        cases r
        cases rv
        cases h
        exact ⟨_, ReadsAll.nil, Nat.zero_le _, rfl⟩
      | cons x xs ihx =>
        intro ds vs us r h rv
        obtain ⟨y, t, e1, e2, rfl⟩ := optAll_cons h
        cases r with
        | cons r1 r2 =>
          cases rv with
          | cons q1 q2 =>
            obtain ⟨as, a1, a2, a3⟩ := ih _ _ _ _ r1 e1 q1
            obtain ⟨bs, b1, b2, b3⟩ := ihx _ _ _ r2 e2 q2
            exact ⟨_, ReadsAll.cons a1 b1, by simp only [PyData.depthAll]; exact Nat.max_le.mpr ⟨a2, b2⟩, by simp only [PyData.hasDictAll, a3, b3, Bool.or_self]⟩
    intro d da v u r h rv
    cases d with
    | non => cases h; cases r.non_; cases rv; exact ⟨_, Reads.none, Nat.zero_le _, rfl⟩
    | bl b => cases h; cases r.bl_; cases rv; exact ⟨_, Reads.bool b, Nat.zero_le _, rfl⟩
    | int i => cases h; cases r.int_; obtain ⟨t, rfl⟩ := rv; exact ⟨_, Reads.int i t, Nat.zero_le _, rfl⟩
    | str l => cases h; cases r.str_; obtain ⟨t, rfl⟩ := rv; exact ⟨_, Reads.str _ t, Nat.zero_le _, rfl⟩
    | tup xs =>
      obtain ⟨p, vs, rfl, hs, hv⟩ := r.tup_
      cases rv
      have h' : (optAll (snap S k) xs).map PyData.tuple = some da := h
      obtain ⟨ds, e1, rfl⟩ := Option.map_eq_some_iff.mp h'
      obtain ⟨its, rr, ⟨o, ho, hc, n, hd⟩, _⟩ := I.tuple (hK ▸ hs)
      obtain ⟨as, a1, a2, a3⟩ := all xs ds vs its hv e1 rr
      exact ⟨_, Reads.tuple ho hc hd a1, by simp only [PyData.depth]; omega, by simpa [PyData.hasDict] using a3⟩
    | ref n =>
      obtain ⟨p, rfl, hp⟩ := r.ref_
      cases rv
      have h' : (match lstAt S n with
        | some xs => (optAll (snap S k) xs).map PyData.list
        | none => none) = some da := h
      cases q : lstAt S n with
      | none => rw [q] at h'; cases h'
      | some xs =>
        rw [q] at h'
        obtain ⟨ds, e1, rfl⟩ := Option.map_eq_some_iff.mp h'
        obtain ⟨p', vs, e2, hs, hv⟩ := sim.seqL q
        rw [hp] at e2
        cases e2
        obtain ⟨its, rr, ⟨o, n', ho, hc, _, hd⟩, _⟩ := I.list (hK ▸ hs)
        obtain ⟨as, a1, a2, a3⟩ := all xs ds vs its hv e1 rr
        exact ⟨_, Reads.list ho hc hd a1, by simp only [PyData.depth]; omega, by simpa [PyData.hasDict] using a3⟩
    | exn c fs => cases h
    | lam f e => cases h
theorem eqAt_snap (I : Inv X pins σ H s) (sim : Sim G m S H) {x y : D} {da db : PyData} {v w : V} {u z : Value} {A : Around} (hu : A.units + deep < cLine) (rx : RepV G m H v x) (ry : RepV G m H w y) (ex : snap S deep x = some da) (ey : snap S deep y = some db) (rv : RelV v u) (rw' : RelV w z) :
    EqAt A s u z (PyData.eqv da db) := by
  obtain ⟨as, r1, d1, n1⟩ := snap_reads hK I sim _ _ _ _ _ rx ex rv
  obtain ⟨bs, r2, d2, n2⟩ := snap_reads hK I sim _ _ _ _ _ ry ey rw'
  exact eqA deep da db A s u z as bs d1 d2 r1 r2 n1 n2 hu
end
theorem itemsA {k : Nat} {A : Around} {s : Shared} {vs ws : Array Value} {xs ys : List PyData} {cs es : List Addr} (r : ReadsAll s.heap vs.toList xs cs) (q : ReadsAll s.heap ws.toList ys es) (d1 : PyData.depthAll xs ≤ k) (d2 : PyData.depthAll ys ≤ k)
    (m1 : PyData.hasDictAll xs = false) (m2 : PyData.hasDictAll ys = false) (hu : A.units + 1 + k < cLine) : ∀ j (j1 : j < vs.size) (j2 : j < ws.size), EqAt A.in1 s vs[j] ws[j] (pairEq xs ys j) := fun j j1 j2 => by
  obtain ⟨x, _, e1, r1, l1, o1⟩ := readsAll_at j (by simpa using j1) r
  obtain ⟨y, _, e2, r2, l2, o2⟩ := readsAll_at j (by simpa using j2) q
  have key := eqA k x y A.in1 s _ _ _ _ (by omega) (by omega) r1 r2 (o1 m1) (o2 m2) hu
  show EqAt A.in1 s vs[j] ws[j] (PyData.eqv (xs.getD j .none) (ys.getD j .none))
  rw [getD_of e1, getD_of e2]
  simpa using key
theorem rcA (k : Nat) (da db : PyData) (A : Around) (s : Shared) (a b : Value) (as bs : List Addr) (h1 : da.depth ≤ k) (h2 : db.depth ≤ k) (ra : Reads s.heap a da as) (rb : Reads s.heap b db bs) (n1 : da.hasDict = false) (n2 : db.hasDict = false) (hu : A.units + k < cLine) :
    RcAt A s a b (PyData.eqv da db) := by
  have hu0 : A.units < cLine := by omega
  cases ra with
  | dict _ _ _ _ _ => simp [PyData.hasDict] at n1
  | none =>
    cases rb with
    | none => exact RcAt.none_none
    | bool y => exact RcAt.none_bool  y
    | int y u => exact RcAt.none_int  y u
    | str y u => exact RcAt.none_str  y u
    | list b1 b2 b3 b4 => exact RcAt.none_list  ⟨_, b1, b2, _, b3⟩ hu0
    | tuple b1 b2 b3 b4 => exact RcAt.none_tuple  ⟨_, b1, b2, _, b3⟩ hu0
    | dict _ _ _ _ _ => simp [PyData.hasDict] at n2
  | bool x =>
    cases rb with
    | none => exact RcAt.bool_none x
    | bool y => exact RcAt.bool_bool x y
    | int y u => exact RcAt.bool_int x y u
    | str y u => exact RcAt.bool_str x y u
    | list b1 b2 b3 b4 => exact RcAt.bool_list x ⟨_, b1, b2, _, b3⟩ hu0
    | tuple b1 b2 b3 b4 => exact RcAt.bool_tuple x ⟨_, b1, b2, _, b3⟩ hu0
    | dict _ _ _ _ _ => simp [PyData.hasDict] at n2
  | int x t =>
    cases rb with
    | none => exact RcAt.int_none x t
    | bool y => exact RcAt.int_bool x t y
    | int y u => exact RcAt.int_int x t y u
    | str y u => exact RcAt.int_str x t y u
    | list b1 b2 b3 b4 => exact RcAt.int_list x t ⟨_, b1, b2, _, b3⟩ hu0
    | tuple b1 b2 b3 b4 => exact RcAt.int_tuple x t ⟨_, b1, b2, _, b3⟩ hu0
    | dict _ _ _ _ _ => simp [PyData.hasDict] at n2
  | str x t =>
    cases rb with
    | none => exact RcAt.str_none x t
    | bool y => exact RcAt.str_bool x t y
    | int y u => exact RcAt.str_int x t y u
    | str y u => exact RcAt.str_str x t y u
    | list b1 b2 b3 b4 => exact RcAt.str_list x t ⟨_, b1, b2, _, b3⟩ hu0
    | tuple b1 b2 b3 b4 => exact RcAt.str_tuple x t ⟨_, b1, b2, _, b3⟩ hu0
    | dict _ _ _ _ _ => simp [PyData.hasDict] at n2
  | @list l _ vs _ xs _ a1 a2 a3 a4 =>
    have hl : s.heap.IsList l vs := ⟨_, a1, a2, _, a3⟩
    cases rb with
    | dict _ _ _ _ _ => simp [PyData.hasDict] at n2
    | none => exact RcAt.list_none hl hu0
    | bool y => exact RcAt.list_bool y hl hu0
    | int y u => exact RcAt.list_int y u hl hu0
    | str y u => exact RcAt.list_str y u hl hu0
    | tuple b1 b2 b3 b4 => exact RcAt.list_tuple hl ⟨_, b1, b2, _, b3⟩ hu0
    | @list l' _ ws _ ys _ b1 b2 b3 b4 =>
      have hl' : s.heap.IsList l' ws := ⟨_, b1, b2, _, b3⟩
      have z1 : vs.size = xs.length := by simpa using readsAll_len a4
      have z2 : ws.size = ys.length := by simpa using readsAll_len b4
      have m1 : PyData.hasDictAll xs = false := by simpa [PyData.hasDict] using n1
      have m2 : PyData.hasDictAll ys = false := by simpa [PyData.hasDict] using n2
      simp only [PyData.depth] at h1 h2
      have it := itemsA (k := k - 1) (A := A) (s := s) a4 b4 (by omega) (by omega) m1 m2 (by omega)
      show RcAt A s _ _ (PyData.eqvAll xs ys)
      by_cases q : vs.size = ws.size
      · rw [← eqvAll_same_length (show xs.length = ys.length by omega), ← z1]
        exact RcAt.lists hl hl' q hu0 it
      · rw [eqvAll_other_length (show xs.length ≠ ys.length by omega)]
        exact RcAt.lists_lengths hl hl' (by simpa using q) hu0
  | @tuple l _ vs _ xs _ a1 a2 a3 a4 =>
    have hl : s.heap.IsTuple l vs := ⟨_, a1, a2, _, a3⟩
    cases rb with
    | dict _ _ _ _ _ => simp [PyData.hasDict] at n2
    | none => exact RcAt.tuple_none hl hu0
    | bool y => exact RcAt.tuple_bool y hl hu0
    | int y u => exact RcAt.tuple_int y u hl hu0
    | str y u => exact RcAt.tuple_str y u hl hu0
    | list b1 b2 b3 b4 => exact RcAt.tuple_list hl ⟨_, b1, b2, _, b3⟩ hu0
    | @tuple l' _ ws _ ys _ b1 b2 b3 b4 =>
      have hl' : s.heap.IsTuple l' ws := ⟨_, b1, b2, _, b3⟩
      have z1 : vs.size = xs.length := by simpa using readsAll_len a4
      have z2 : ws.size = ys.length := by simpa using readsAll_len b4
      have m1 : PyData.hasDictAll xs = false := by simpa [PyData.hasDict] using n1
      have m2 : PyData.hasDictAll ys = false := by simpa [PyData.hasDict] using n2
      simp only [PyData.depth] at h1 h2
      have it := itemsA (k := k - 1) (A := A) (s := s) a4 b4 (by omega) (by omega) m1 m2 (by omega)
      show RcAt A s _ _ (PyData.eqvAll xs ys)
      rw [← eqvAll_eq xs ys, ← z1, ← z2]
      exact RcAt.tuples hl hl' hu0 it
theorem rcNeA (k : Nat) (da db : PyData) (A : Around) (s : Shared) (a b : Value) (as bs : List Addr) (h1 : da.depth ≤ k) (h2 : db.depth ≤ k) (ra : Reads s.heap a da as) (rb : Reads s.heap b db bs) (n1 : da.hasDict = false) (n2 : db.hasDict = false) (hu : A.units + k < cLine) :
    RcNeAt A s a b (!PyData.eqv da db) := by
  have hu0 : A.units < cLine := by omega
  cases ra with
  | dict _ _ _ _ _ => simp [PyData.hasDict] at n1
  | none =>
    cases rb with
    | none => exact RcNeAt.none_none
    | bool y => exact RcNeAt.none_bool  y
    | int y u => exact RcNeAt.none_int  y u
    | str y u => exact RcNeAt.none_str  y u
    | list b1 b2 b3 b4 => exact RcNeAt.none_list  ⟨_, b1, b2, _, b3⟩ hu0
    | tuple b1 b2 b3 b4 => exact RcNeAt.none_tuple  ⟨_, b1, b2, _, b3⟩ hu0
    | dict _ _ _ _ _ => simp [PyData.hasDict] at n2
  | bool x =>
    cases rb with
    | none => exact RcNeAt.bool_none x
    | bool y => exact RcNeAt.bool_bool x y
    | int y u => exact RcNeAt.bool_int x y u
    | str y u => exact RcNeAt.bool_str x y u
    | list b1 b2 b3 b4 => exact RcNeAt.bool_list x ⟨_, b1, b2, _, b3⟩ hu0
    | tuple b1 b2 b3 b4 => exact RcNeAt.bool_tuple x ⟨_, b1, b2, _, b3⟩ hu0
    | dict _ _ _ _ _ => simp [PyData.hasDict] at n2
  | int x t =>
    cases rb with
    | none => exact RcNeAt.int_none x t
    | bool y => exact RcNeAt.int_bool x t y
    | int y u => exact RcNeAt.int_int x t y u
    | str y u => exact RcNeAt.int_str x t y u
    | list b1 b2 b3 b4 => exact RcNeAt.int_list x t ⟨_, b1, b2, _, b3⟩ hu0
    | tuple b1 b2 b3 b4 => exact RcNeAt.int_tuple x t ⟨_, b1, b2, _, b3⟩ hu0
    | dict _ _ _ _ _ => simp [PyData.hasDict] at n2
  | str x t =>
    cases rb with
    | none => exact RcNeAt.str_none x t
    | bool y => exact RcNeAt.str_bool x t y
    | int y u => exact RcNeAt.str_int x t y u
    | str y u => exact RcNeAt.str_str x t y u
    | list b1 b2 b3 b4 => exact RcNeAt.str_list x t ⟨_, b1, b2, _, b3⟩ hu0
    | tuple b1 b2 b3 b4 => exact RcNeAt.str_tuple x t ⟨_, b1, b2, _, b3⟩ hu0
    | dict _ _ _ _ _ => simp [PyData.hasDict] at n2
  | @list l _ vs _ xs _ a1 a2 a3 a4 =>
    have hl : s.heap.IsList l vs := ⟨_, a1, a2, _, a3⟩
    cases rb with
    | dict _ _ _ _ _ => simp [PyData.hasDict] at n2
    | none => exact RcNeAt.list_none hl hu0
    | bool y => exact RcNeAt.list_bool y hl hu0
    | int y u => exact RcNeAt.list_int y u hl hu0
    | str y u => exact RcNeAt.list_str y u hl hu0
    | tuple b1 b2 b3 b4 => exact RcNeAt.list_tuple hl ⟨_, b1, b2, _, b3⟩ hu0
    | @list l' _ ws _ ys _ b1 b2 b3 b4 =>
      have hl' : s.heap.IsList l' ws := ⟨_, b1, b2, _, b3⟩
      have z1 : vs.size = xs.length := by simpa using readsAll_len a4
      have z2 : ws.size = ys.length := by simpa using readsAll_len b4
      have m1 : PyData.hasDictAll xs = false := by simpa [PyData.hasDict] using n1
      have m2 : PyData.hasDictAll ys = false := by simpa [PyData.hasDict] using n2
      simp only [PyData.depth] at h1 h2
      have it := itemsA (k := k - 1) (A := A) (s := s) a4 b4 (by omega) (by omega) m1 m2 (by omega)
      show RcNeAt A s _ _ (!PyData.eqvAll xs ys)
      by_cases q : vs.size = ws.size
      · rw [← eqvAll_same_length (show xs.length = ys.length by omega), ← z1]
        exact RcNeAt.lists hl hl' q hu0 it
      · rw [eqvAll_other_length (show xs.length ≠ ys.length by omega)]
        exact RcNeAt.lists_lengths hl hl' (by simpa using q) hu0
  | @tuple l _ vs _ xs _ a1 a2 a3 a4 =>
    have hl : s.heap.IsTuple l vs := ⟨_, a1, a2, _, a3⟩
    cases rb with
    | dict _ _ _ _ _ => simp [PyData.hasDict] at n2
    | none => exact RcNeAt.tuple_none hl hu0
    | bool y => exact RcNeAt.tuple_bool y hl hu0
    | int y u => exact RcNeAt.tuple_int y u hl hu0
    | str y u => exact RcNeAt.tuple_str y u hl hu0
    | list b1 b2 b3 b4 => exact RcNeAt.tuple_list hl ⟨_, b1, b2, _, b3⟩ hu0
    | @tuple l' _ ws _ ys _ b1 b2 b3 b4 =>
      have hl' : s.heap.IsTuple l' ws := ⟨_, b1, b2, _, b3⟩
      have z1 : vs.size = xs.length := by simpa using readsAll_len a4
      have z2 : ws.size = ys.length := by simpa using readsAll_len b4
      have m1 : PyData.hasDictAll xs = false := by simpa [PyData.hasDict] using n1
      have m2 : PyData.hasDictAll ys = false := by simpa [PyData.hasDict] using n2
      simp only [PyData.depth] at h1 h2
      have it := itemsA (k := k - 1) (A := A) (s := s) a4 b4 (by omega) (by omega) m1 m2 (by omega)
      show RcNeAt A s _ _ (!PyData.eqvAll xs ys)
      rw [← eqvAll_eq xs ys, ← z1, ← z2]
      exact RcNeAt.tuples hl hl' hu0 it
section
variable {G : Gx} {X : Cx} (hK : G.K = X.K)
include hK
theorem o_eq (hu : X.A.units + 64 < cLine) : OpR X (compareOp .Eq) (rP2 G opEq) := by
  intro pins s σ H x y v u Q I rx ry h
  obtain ⟨m, S, a, b, sim, ra, rb, p⟩ := h
  unfold opEq eqD at p
  cases ea : snap S deep a with
  | none => rw [ea] at p; exact p.elim
  | some da =>
    cases eb : snap S deep b with
    | none => rw [ea, eb] at p; exact p.elim
    | some db =>
      rw [ea, eb] at p
      obtain ⟨as, r1, d1, n1⟩ := snap_reads hK I sim _ _ _ _ _ ra ea rx
      obtain ⟨bs, r2, d2, n2⟩ := snap_reads hK I sim _ _ _ _ _ rb eb ry
      exact rcA deep da db X.A s v u as bs d1 d2 r1 r2 n1 n2 (by unfold deep; omega) X.prog X.w X.xe _ ⟨.bl _, H, I, rfl, fin_val sim (.bl _) p⟩
theorem o_ne (hu : X.A.units + 64 < cLine) : OpR X (compareOp .NotEq) (rP2 G opNe) := by
  intro pins s σ H x y v u Q I rx ry h
  obtain ⟨m, S, a, b, sim, ra, rb, p⟩ := h
  unfold opNe eqD at p
  cases ea : snap S deep a with
  | none => rw [ea] at p; exact p.elim
  | some da =>
    cases eb : snap S deep b with
    | none => rw [ea, eb] at p; exact p.elim
    | some db =>
      rw [ea, eb] at p
      obtain ⟨as, r1, d1, n1⟩ := snap_reads hK I sim _ _ _ _ _ ra ea rx
      obtain ⟨bs, r2, d2, n2⟩ := snap_reads hK I sim _ _ _ _ _ rb eb ry
      exact rcNeA deep da db X.A s v u as bs d1 d2 r1 r2 n1 n2 (by unfold deep; omega) X.prog X.w X.xe _ ⟨.bl _, H, I, rfl, fin_val sim (.bl _) p⟩
omit hK in
theorem ltN_iff : ∀ (a b : List Nat), ltN a b = decide (a < b)
  | [], [] => by simp [ltN]
  | [], _ :: _ => by simp [ltN]
  | _ :: _, [] => by simp [ltN]
  | a :: r, b :: t => by
    rw [ltN, ltN_iff r t, Bool.eq_iff_iff]
    simp [List.cons_lt_cons_iff]
omit hK in
theorem ord_cases {x y : D} (h : orderable x y = true) : (∃ i j, x = .int i ∧ y = .int j) ∨ ∃ a b, x = .str a ∧ y = .str b := by
  cases x <;> cases y <;> simp [orderable] at h <;> simp
omit hK in
theorem o_lt : OpR X (compareOp .Lt) (rP2 G opLt) := by
  intro pins s σ H x y v u Q I rx ry h
  obtain ⟨m, S, a, b, sim, ra, rb, p⟩ := h
  unfold opLt at p
  split at p
  · rename_i ho
    rcases ord_cases ho with ⟨i, j, rfl, rfl⟩ | ⟨i, j, rfl, rfl⟩
    · cases ra.int_; cases rb.int_
      exact op_lt pins s σ H _ _ v u Q I rx ry ⟨_, _, rfl, rfl, fin_val sim (.bl _) p⟩
    · cases ra.str_; cases rb.str_
      refine op_lt_str pins s σ H _ _ v u Q I rx ry ⟨_, _, rfl, rfl, ?_⟩
      have e : ltD (.str i) (.str j) = decide (i < j) := by rw [← ltN_iff]; rfl
      rw [e] at p
      exact fin_val sim (.bl _) p
  · exact p.elim
omit hK in
theorem o_le : OpR X (compareOp .LtE) (rP2 G opLe) := by
  intro pins s σ H x y v u Q I rx ry h
  obtain ⟨m, S, a, b, sim, ra, rb, p⟩ := h
  unfold opLe at p
  split at p
  · rename_i ho
    rcases ord_cases ho with ⟨i, j, rfl, rfl⟩ | ⟨i, j, rfl, rfl⟩
    · cases ra.int_; cases rb.int_
      refine op_le pins s σ H _ _ v u Q I rx ry ⟨_, _, rfl, rfl, ?_⟩
      have e : (!ltD (.int j) (.int i)) = decide (i ≤ j) := by
        show (!decide (j < i)) = _
        rw [Bool.eq_iff_iff]; simp
      rw [e] at p
      exact fin_val sim (.bl _) p
    · cases ra.str_; cases rb.str_
      refine op_le_str pins s σ H _ _ v u Q I rx ry ⟨_, _, rfl, rfl, ?_⟩
      have e : ltD (.str j) (.str i) = decide (j < i) := by rw [← ltN_iff]; rfl
      rw [e] at p
      exact fin_val sim (.bl _) p
  · exact p.elim
omit hK in
theorem o_ge : OpR X (compareOp .GtE) (rP2 G opGe) := by
  intro pins s σ H x y v u Q I rx ry h
  obtain ⟨m, S, a, b, sim, ra, rb, p⟩ := h
  unfold opGe at p
  split at p
  · rename_i ho
    rcases ord_cases ho with ⟨i, j, rfl, rfl⟩ | ⟨i, j, rfl, rfl⟩
    · cases ra.int_; cases rb.int_
      refine op_ge pins s σ H _ _ v u Q I rx ry ⟨_, _, rfl, rfl, ?_⟩
      have e : (!ltD (.int i) (.int j)) = decide (j ≤ i) := by
        show (!decide (i < j)) = _
        rw [Bool.eq_iff_iff]; simp
      rw [e] at p
      exact fin_val sim (.bl _) p
    · cases ra.str_; cases rb.str_
      refine op_ge_str pins s σ H _ _ v u Q I rx ry ⟨_, _, rfl, rfl, ?_⟩
      have e : ltD (.str i) (.str j) = decide (i < j) := by rw [← ltN_iff]; rfl
      rw [e] at p
      exact fin_val sim (.bl _) p
  · exact p.elim
omit hK in
theorem isNon_of {m : List Addr} {H : Hp} {v : V} {d : D} (r : RepV G m H v d) : decide (v = .non) = isNonB d := by
  cases r <;> simp [isNonB]
omit hK in
theorem o_isnot : OpR X (compareOp .IsNot) (rP2 G opIsNot) := by
  intro pins s σ H x y v u Q I rx ry h
  obtain ⟨m, S, a, b, sim, ra, rb, p⟩ := h
  unfold opIsNot at p
  split at p
  · cases rb.non_
    refine op_notN pins s σ H _ _ v u Q I rx ry ⟨rfl, ?_⟩
    rw [isNon_of ra]
    exact fin_val sim (.bl _) p
  · split at p
    · cases ra.bl_; cases rb.bl_
      exact op_notBl pins s σ H _ _ v u Q I rx ry ⟨_, _, rfl, rfl, fin_val sim (.bl _) p⟩
    · exact p.elim
  · exact p.elim
end
end MP
namespace MP
open PySem PySem.Spec PyProof.Rows L2
theorem ixN_eq (n : Nat) (i : Int) : MP.ixN n i = L2.ixN n i := rfl
theorem atI_eq {α : Type} (xs : List α) (i : Int) : MP.atI xs i = L2.atI xs i := rfl
theorem RepVs.rep {G : Gx} {m H vs ds} (h : RepVs G m H vs ds) : ∀ n, RepVs G m H (repeatL n vs) (repeatL n ds)
  | 0 => .nil
  | n + 1 => by
    show RepVs G m H (List.replicate (n + 1) vs).flatten (List.replicate (n + 1) ds).flatten
    rw [List.replicate_succ, List.replicate_succ, List.flatten_cons, List.flatten_cons]
    exact h.append (RepVs.rep h n)
theorem sIx_eq (n d : Nat) (h : d ≤ n) (o : Option Int) : MP.sIx n d o = HT.sIx n d o := by
  cases o with
  | none => rw [HT.sIx_none]; rfl
  | some v =>
    have e := HT.clip_eq v n d
    have hn : ∀ a : Nat, min v.toNat n = a ↔ min v.toNat n = a := fun _ => Iff.rfl
    show (if v < 0 then (max (v + (n : Int)) 0).toNat else min v.toNat n) = _
    by_cases hv : v < 0
    · rw [if_pos hv] at e ⊢
      omega
    · rw [if_neg hv] at e ⊢
      omega
theorem cut_eq (xs : List V) (lo hi : Option Int) : MP.cut xs lo hi = cutV xs lo hi := by
  unfold MP.cut cutV
  rw [sIx_eq _ _ (Nat.zero_le _), sIx_eq _ _ (Nat.le_refl _)]
theorem RepVs.cut {G : Gx} {m H vs ds} (h : RepVs G m H vs ds) (lo hi : Option Int) : RepVs G m H (cutV vs lo hi) (MP.cut ds lo hi) := by
  rw [← cut_eq]
  unfold MP.cut
  rw [h.length]
  exact (h.drop _).take _
theorem cutS_eq (s : List Nat) (lo hi : Option Int) : cutS ⟨s.toArray⟩ lo hi = ⟨(MP.cut s lo hi).toArray⟩ := by
  unfold cutS MP.cut
  rw [sIx_eq _ _ (Nat.zero_le _), sIx_eq _ _ (Nat.le_refl _)]
  simp [Str.length]
theorem foldl_reps (c : Array Nat) : ∀ (k : Nat) (acc : Array Nat), (List.replicate k c).foldl (· ++ ·) acc = acc ++ (repeatL k c.toList).toArray
  | 0, acc => by simp [repeatL]
  | k + 1, acc => by
    rw [List.replicate_succ, List.foldl_cons, foldl_reps c k]
    apply Array.toList_inj.mp
    simp [repeatL, List.replicate_succ]
theorem mul_eq (s : List Nat) (k : Int) (h0 : 0 ≤ k) : Txt.mul ⟨s.toArray⟩ k = ⟨(repeatL k.toNat s).toArray⟩ := by
  unfold Txt.mul
  by_cases h1 : k < 1
  · rw [if_pos h1]
    have e : k = 0 := by omega
    subst e
    rfl
  · rw [if_neg h1]
    split
    · rename_i hc
      rw [Bool.or_eq_true, beq_iff_eq, beq_iff_eq, len_mk] at hc
      rcases hc with e | e
      · subst e
        simp [repeatL]
      · have e' : s = [] := List.eq_nil_of_length_eq_zero e
        subst e'
        simp [repeatL]
    · rw [foldl_reps]
      simp
section
variable {G : Gx} {X : Cx} (hK : G.K = X.K)
include hK
omit hK in
theorem o_mul : OpR X (binaryOp .Mult) (rP2 G opMul) := by
  intro pins s σ H x y v u Q I rx ry h
  obtain ⟨m, S, a, b, sim, ra, rb, p⟩ := h
  unfold opMul at p
  split at p
  · cases ra.int_; cases rb.int_
    split at p
    · rename_i i j hz
      refine op_mul pins s σ H _ _ v u Q I rx ry ⟨_, _, rfl, rfl, ?_, fin_val sim (.int _) p⟩
      simp only [small64, Bool.or_eq_true, Bool.and_eq_true, decide_eq_true_eq] at hz
      rcases hz with ⟨z1, z2⟩ | ⟨z1, z2⟩
      · exact .inl ⟨by omega, by omega⟩
      · exact .inr ⟨by omega, by omega⟩
    · exact p.elim
  · cases ra.str_; cases rb.int_
    split at p
    · rename_i i k hz
      obtain ⟨t, rfl⟩ := rx
      obtain ⟨t', rfl⟩ := ry
      refine SB.mul (mulOk_of i.length k.toNat (by rw [len_mk]; exact Nat.le_refl _) (by omega) (by omega) (by omega) (by have := hz.2.2; unfold line at this; exact this)) fun t' tk => ?_
      rw [mul_eq _ _ hz.1]
      exact ⟨.str _, H, I.tok _, ⟨_, rfl⟩, fin_val sim (.str _) p⟩
    · exact p.elim
  · obtain ⟨pa, rfl, ea⟩ := ra.ref_
    cases rb.int_
    split at p
    · rename_i xs h1
      split at p
      · rename_i hz
        obtain ⟨pa', va, e1, e2, r1⟩ := sim.lst h1
        rw [ea] at e1; cases e1
        exact op_rep pins s σ H _ _ v u Q I rx ry ⟨pa, _, va, rfl, rfl, e2, by omega, by omega, by rw [r1.length, ← line_eq]; exact hz.2.2, new_lst sim (r1.rep _) p⟩
      · exact p.elim
    · exact p.elim
  · exact p.elim
theorem o_item : IxR X (rP2 G opItem) := by
  intro value slice pins s σ H x y v u Q I rx ry h hs
  obtain ⟨m, S, a, b, sim, ra, rb, p⟩ := h
  unfold opItem at p
  split at p
  · rename_i d hd
    unfold getItem at hd
    split at hd
    · rename_i z
      split at hd
      · rename_i i
        cases ra.str_; cases rb.int_
        split at hd
        · rename_i hz
          obtain ⟨c, h1, rfl⟩ := Option.map_eq_some_iff.mp hd
          exact ix_str value slice pins s σ H _ _ v u Q I rx ry ⟨_, i, c, rfl, rfl, by rw [len_mk, ← line_eq]; exact hz, h1, fin_val sim (.str [c]) p⟩ hs
        · cases hd
      · cases hd
    · rename_i xs
      split at hd
      · rename_i i
        cases rb.int_
        obtain ⟨q, vs, rfl, hq, hv⟩ := ra.tup_
        rw [atI_eq] at hd
        obtain ⟨j, j1, j2, j3, j4, j5⟩ := atI_get hd
        obtain ⟨w, w1, w2⟩ := hv.get j2
        refine ix_tup value slice pins s σ H _ _ v u Q I rx ry ⟨q, vs, i, w, rfl, rfl, hK ▸ hq, ?_, fin_val sim w2 p⟩ hs
        unfold L2.atI at hd ⊢
        rw [hv.length]
        obtain ⟨k, k1, k2⟩ := Option.bind_eq_some_iff.mp hd
        rw [k1]
        obtain ⟨q1, _⟩ := ixN_seq k1
        rw [j1] at q1
        cases q1
        exact w1
      · cases hd
    · rename_i n
      obtain ⟨q, rfl, hq⟩ := ra.ref_
      have lst : ∀ xs i, lstAt S n = some xs → MP.atI xs i = some d → b = .int i → wpAny (model X.prog X.w) X.A (subscriptTail value slice v u) (EP X pins σ Q) X.xe s := fun xs i hl hi hb => by
        subst hb
        cases rb.int_
        obtain ⟨q', vs, e1, hq', hv⟩ := sim.seqL hl
        rw [hq] at e1
        cases e1
        rw [atI_eq] at hi
        obtain ⟨j, j1, j2, j3, j4, j5⟩ := atI_get hi
        obtain ⟨w, w1, w2⟩ := hv.get j2
        refine ix_list value slice pins s σ H _ _ v u Q I rx ry ⟨q, vs, i, w, rfl, rfl, hK ▸ hq', ?_, fin_val sim w2 p⟩ hs
        unfold L2.atI at hi ⊢
        rw [hv.length]
        obtain ⟨k, k1, k2⟩ := Option.bind_eq_some_iff.mp hi
        rw [k1]
        obtain ⟨q1, _⟩ := ixN_seq k1
        rw [j1] at q1
        cases q1
        exact w1
      split at hd
      · rename_i kvs hg
        split at hd
        · rename_i hf
          obtain ⟨k, hk⟩ := keyFits_some hf
          obtain ⟨q', kv, e1, hq', hv⟩ := sim.dct hg
          rw [hq] at e1
          cases e1
          obtain ⟨w, w1, w2⟩ := (hv.get hk).1 _ hd
          cases dKey_rep rb hk
          cases rx
          obtain ⟨_, lo, vs, rel, dd⟩ := dk_of I.hok hq'
          obtain ⟨w', hw, rw'⟩ := RelO.some_of (v := w) (o := valueAt vs k) (by rw [← w1]; exact rel.val k)
          exact tail_any dd.typeIs slot_dict_getitem.lookup (wpAny_getItem_of (kV_is ry) dd.mapOf hw ⟨w, H, I.tok _, rw', fin_val sim w2 p⟩) hs
        · cases hd
      · rename_i xs hg
        split at hd
        · exact lst xs _ (by unfold lstAt; rw [hg]) hd rfl
        · cases hd
      · rename_i xs hg
        split at hd
        · exact lst xs _ (by unfold lstAt; rw [hg]) hd rfl
        · cases hd
      · cases hd
    · cases hd
  · exact p.elim
theorem o_cut : SlR X fun x lo hi H Q => ∃ m S a, Sim G m S H ∧ RepV G m H x a ∧ postP G (RepV G) m H Q (opCut a lo hi S) := by
  intro pins s σ H x v vl vu lo hi sl Q I rx hs pl pu h
  obtain ⟨m, S, a, sim, ra, p⟩ := h
  unfold opCut at p
  split at p
  · cases ra.str_
    split at p
    · rename_i hz
      refine sl_str pins s σ H _ v vl vu lo hi sl Q I rx hs pl pu ⟨_, rfl, by rw [len_mk, ← line_eq]; exact hz, ?_⟩
      rw [cutS_eq]
      exact fin_val sim (.str _) p
    · exact p.elim
  · rename_i xs
    obtain ⟨q, vs, rfl, hq, hv⟩ := ra.tup_
    refine sl_tupA pins s σ H _ v vl vu lo hi sl Q I rx hs pl pu ⟨q, vs, rfl, hK ▸ hq, fun hw => ?_, fun _ => new_tup sim (hv.cut lo hi) p⟩
    have e : MP.cut xs lo hi = xs := by
      unfold MP.cut
      rw [sIx_eq _ _ (Nat.zero_le _), sIx_eq _ _ (Nat.le_refl _), ← hv.length, hw.1, hw.2, Nat.sub_zero, hv.length]
      simp
    have p' : postP G (RepV G) m H Q (some (.tup xs, S)) := by
      rw [← e]
      exact p
    exact fin_val sim (.tup hq hv) p'
  · obtain ⟨q, rfl, hq⟩ := ra.ref_
    split at p
    · rename_i xs hl
      split at p
      · obtain ⟨q', vs, e1, hq', hv⟩ := sim.seqL hl
        rw [hq] at e1
        cases e1
        exact sl_list pins s σ H _ v vl vu lo hi sl Q I rx hs pl pu ⟨q, vs, rfl, hK ▸ hq', new_lst sim (hv.cut lo hi) p⟩
      · exact p.elim
    · exact p.elim
  · exact p.elim
end
end MP
namespace MP
open PySem PySem.Spec PyProof.Rows L2
structure Ctx0 (G : Gx) (X : Cx) : Prop where
  hK : G.K = X.K
  hN : X.N.Nodup
  hu : X.A.units + 64 < cLine
  gd : X.A.guards = some []
  hW : G.ne.w = X.w
structure Ctx (G : Gx) (X : Cx) (W : WX) : Prop extends Ctx0 G X where
  tk : Takes X W
  hp : PassesOwn (model X.prog X.w) X.A X.env X.xe
  calm : X.calm = true
section
variable {G : Gx} {X : Cx} {W : WX} {C : Cfg}
theorem tKV {α β α2 β2 : Type} {Rb : List Addr → Hp → β2 → α2 → Prop} {Rp : List Addr → Hp → β → α → Prop} {e : Cfg → Slots → M α2} {k : Cfg → Slots → D → α2 → M α} {σ H x} {Q : β → Hp → Prop}
    (h : tK G W (RepV G) Rp C (fun C σ a => (e C σ).bind (k C σ a)) σ H x Q) : tX G W Rb C e σ H fun y H1 => tK G W (fun m H (p : V × β2) (q : D × α2) => RepV G m H p.1 q.1 ∧ Rb m H p.2 q.2) Rp C (fun C σ p => k C σ p.1 p.2) σ H1 (x, y) Q :=
  tK.bind (G := G) (W := W) (Ra := RepV G) (Rb := Rb) (Rp := Rp) (C := C) (e := e) (k := k) (fun {_ _ _ _ _ _} e r => RepV.mono e r) h
theorem fin {σ m H d v} {S : Store} {Q : VK} (s : Sim G m S H) (r : RepV G m H v d) (p : post G W (RepV G) σ m H Q (.ok d S)) : Q v H := p m H v Ext.refl s r
theorem r_var {i : Nat} {x : Str} {pos : Pos} (hN : X.N[i]? = some x) (hv : Vis X.env.scope x) (hd : (x == ("__debug__" : Str)) = false := by decide) (hcd : (x == ("__classdict__" : Str)) = false := by decide) : PE X (.Name x pos) (tE G W C (eVar i)) :=
  PE.weak (pe_var hN hv hd hcd) fun σ H Q ⟨m, S, ls, s, r, p⟩ => by
    unfold eVar at p
    cases e : ls[i]? with
    | none => rw [e] at p; exact p.elim
    | some o =>
      cases o with
      | none => rw [e] at p; exact p.elim
      | some d =>
        rw [e] at p
        obtain ⟨v, h1, h2⟩ := r.2 i d e
        simp only at p
        split at p
        · exact p.elim
        · rename_i hx
          exact ⟨v, h1, fin s (h2.rep (by simpa using hx)) p⟩
theorem rv {x : Str} {pos : Pos} (i : Nat) (hN : X.N[i]? = some x := by rfl) (hv : Vis X.env.scope x := by first | exact .inl rfl | exact .inr (.inl rfl) | exact .inr (.inr rfl)) (hd : (x == ("__debug__" : Str)) = false := by decide) (hcd : (x == ("__classdict__" : Str)) = false := by decide) : PE X (.Name x pos) (tE G W C (eVar i)) := r_var hN hv hd hcd
theorem r_c {e : Expr} {v : V} {d : D} (h : PE X e (tC v)) (r : ∀ m H, RepV G m H v d) : PE X e (tE G W C (eC d)) :=
  PE.weak h fun σ H Q ⟨m, S, ls, s, _, p⟩ => fin s (r m H) p
theorem r_int {i j pos} : PE X (.Constant (.int i) j pos) (tE G W C (eC (.int i))) := r_c pe_int fun _ _ => .int i
theorem r_bl {i j pos} : PE X (.Constant (.bool i) j pos) (tE G W C (eC (.bl i))) := r_c pe_bl fun _ _ => .bl i
theorem r_non {j pos} : PE X (.Constant .none j pos) (tE G W C (eC .non)) := r_c pe_non fun _ _ => .non
theorem r_str {x : Str} {l : List Nat} {j pos} (h : x.cps.toList = l) : PE X (.Constant (.str x) j pos) (tE G W C (eC (.str l))) := r_c pe_str fun m H => by
  have e : x = ⟨l.toArray⟩ := by cases x; subst h; simp
  rw [e]; exact .str l
theorem r_glob {x : Str} {v : V} {u : Value} {pos : Pos} {d : D} (hg : Gl X x) (hm : X.mg x = some u) (r : RelV v u) (rd : ∀ m H, RepV G m H v d) (hd : (x == ("__debug__" : Str)) = false := by decide) : PE X (.Name x pos) (tE G W C (eC d)) :=
  r_c (pe_glob hg hm r hd) rd
theorem r_nil : PA X [] (tA G W C aNil) := PA.weak pa_nil fun σ H Q ⟨m, S, ls, s, _, p⟩ => p m H [] Ext.refl s .nil
theorem r_cons {e : Expr} {es : List Expr} {a : ME} {r : MA} (ha : PE X e (tE G W C a)) (hr : PA X es (tA G W C r)) (hs : starEach (e :: es) X.env = (false, eval e X.env) :: starEach es X.env := by rfl) : PA X (e :: es) (tA G W C (aCons a r)) :=
  PA.weak (pa_cons ha hr hs) fun σ H Q h => by
    have h1 := tX.bind (Ra := RepV G) (k := fun C σ x => (r C σ).bind fun xs => M.ret (x :: xs)) h
    obtain ⟨m, S, ls, s, q, p⟩ := h1
    refine ⟨m, S, ls, s, q, post.imp p fun x H1 z => ?_⟩
    have h2 := tKV (Rb := RepVs G) (k := fun _ _ x xs => M.ret (x :: xs)) z
    obtain ⟨m, S, ls, s, q, p⟩ := h2
    refine ⟨m, S, ls, s, q, post.imp p fun y H2 z => ?_⟩
    obtain ⟨m, S, ls, ab, s, q, ⟨ra, rb⟩, p⟩ := z
    exact p m H2 _ Ext.refl s (.cons ra rb)
theorem r_tup {es : List Expr} {a : MA} {x1 pos} (h : PA X es (tA G W C a)) : PE X (.Tuple es x1 pos) (tE G W C (eTup a)) := PE.weak (pe_tup h) fun σ H Q q => by
  have h1 := tX.bind (Ra := RepVs G) (k := fun _ _ x => M.of (mkT x)) q
  obtain ⟨m, S, ls, s, r, p⟩ := h1
  refine ⟨m, S, ls, s, r, post.imp p fun x H1 z => ?_⟩
  obtain ⟨m, S, ls, a, s, r, ra, p⟩ := z
  have p := post.of p
  unfold mkT at p
  split at p
  · rename_i hz
    exact ⟨by rw [ra.length, ← line_eq]; exact hz, new_tup s ra p⟩
  · exact p.elim
theorem r_lst {es : List Expr} {a : MA} {pos} (h : PA X es (tA G W C a)) : PE X (.List es pos) (tE G W C (eLst a)) := PE.weak (pe_lst h) fun σ H Q q => by
  have h1 := tX.bind (Ra := RepVs G) (k := fun _ _ x => M.of (mkL x)) q
  obtain ⟨m, S, ls, s, r, p⟩ := h1
  refine ⟨m, S, ls, s, r, post.imp p fun x H1 z => ?_⟩
  obtain ⟨m, S, ls, a, s, r, ra, p⟩ := z
  have p := post.of p
  unfold mkL at p
  split at p
  · rename_i hz
    exact ⟨by rw [ra.length, ← line_eq]; exact hz, new_lst s ra p⟩
  · exact p.elim
theorem r_op {op : Operator} {f : D → D → P D} {a b : Expr} {ea eb : ME} {pos} (ho : OpR X (binaryOp op) (rP2 G f)) (ha : PE X a (tE G W C ea)) (hb : PE X b (tE G W C eb)) : PE X (.BinOp a op b pos) (tE G W C (e2 f ea eb)) :=
  PE.weak (pe_op ho ha hb) fun σ H Q h => w2 h
theorem r_cmp {op : CmpOp} {f : D → D → P D} {a b : Expr} {ea eb : ME} {pos} (ho : OpR X (compareOp op) (rP2 G f)) (ha : PE X a (tE G W C ea)) (hb : PE X b (tE G W C eb)) (hm : behindInMarks op b = false) : PE X (.Compare a [op] [b] pos) (tE G W C (e2 f ea eb)) :=
  PE.weak (pe_cmpR ho ha hb hm) fun σ H Q h => w2 h
theorem r_ix {a b : Expr} {ea eb : ME} {pos} (c : Ctx0 G X) (ha : PE X a (tE G W C ea)) (hb : PE X b (tE G W C eb)) (hs : PlainIx b := by intro _ _; rfl) : PE X (.Subscript a b pos) (tE G W C (e2 opItem ea eb)) :=
  PE.weak (pe_ix (o_item c.hK) ha hb hs) fun σ H Q h => w2 h
theorem tX.imp {α β : Type} {Rp : List Addr → Hp → β → α → Prop} {e : Cfg → Slots → M α} {σ H} {Q Q' : β → Hp → Prop} (h : tX G W Rp C e σ H Q) (q : ∀ b H', Q b H' → Q' b H') : tX G W Rp C e σ H Q' := by
  obtain ⟨m, S, ls, s, r, p⟩ := h
  exact ⟨m, S, ls, s, r, post.imp p q⟩
theorem asB_fin {x : V} {H : Hp} {Q : Bool → Hp → Prop} (h : rP1 G RB asB x H Q) : ∃ k, x = .bl k ∧ Q k H := by
  obtain ⟨m, S, a, s, r, p⟩ := h
  unfold asB at p
  split at p
  · exact ⟨_, r.bl_, p m H _ Ext.refl s rfl⟩
  · exact p.elim
theorem r_tb {op : CmpOp} {f : D → D → P D} {a b : Expr} {ea eb : ME} {pos} (ho : OpR X (compareOp op) (rP2 G f)) (ha : PE X a (tE G W C ea)) (hb : PE X b (tE G W C eb)) (hm : behindInMarks op b = false) : PT X (.Compare a [op] [b] pos) (tT G W C (tB (e2 f ea eb))) :=
  PT.weak (pt_cmpR ho ha hb hm) fun σ H Q h => by
    have h1 := w1 (Rp := RB) (f := asB) h
    exact w2 (tX.imp h1 fun x H1 z => asB_fin z)
theorem tru_fin {x : V} {H : Hp} {Q : Bool → Hp → Prop} (hK : G.K = X.K) (h : rP1 G RB truthP x H Q) : ∃ k, TruV X.K x H k ∧ Q k H := by
  obtain ⟨m, S, a, s, r, p⟩ := h
  unfold truthP at p
  split at p
  · rename_i b hb
    refine ⟨b, ?_, p m H _ Ext.refl s rfl⟩
    unfold truth at hb
    split at hb
    · cases r.non_; cases hb; rfl
    · cases r.bl_; cases hb; rfl
    · cases r.int_; cases hb; rfl
    · cases r.str_
      split at hb
      · rename_i l hz
        cases hb
        refine ⟨by rw [len_mk, ← line_eq]; exact hz, ?_⟩
        rw [len_mk]
        cases l with
        | nil => rfl
        | cons c l =>
          have h2 : ((((c :: l).length : Nat) : Int) != 0) = true := by
            rw [bne_iff_ne]
            simp only [List.length_cons]
            omega
          rw [h2]
          rfl
      · cases hb
    · obtain ⟨q, vs, rfl, hq, hv⟩ := r.tup_
      cases hb
      refine .inr (.inl ⟨vs, hK ▸ hq, ?_⟩)
      cases hv <;> rfl
    · obtain ⟨q, rfl, hq⟩ := r.ref_
      split at hb
      · rename_i hl
        obtain ⟨q', vs, e1, hq', hv⟩ := s.seqL hl
        rw [hq] at e1
        cases e1
        cases hb
        refine .inl ⟨vs, hK ▸ hq', ?_⟩
        cases hv <;> rfl
      · cases hb
    · cases hb
  · exact p.elim
theorem r_tv {a : Expr} {ea : ME} (c : Ctx0 G X) (ha : PE X a (tE G W C ea)) (he : ∀ whole, isTrue a X.env whole = (do let v ← whole; standAt a.pos; holding [v] (truthy v)) := by intro _; rfl) : PT X a (tT G W C (tV ea)) :=
  PT.weak (pt_truth ha he) fun σ H Q h => tX.imp (w1 (Rp := RB) (f := truthP) h) fun x H1 z => tru_fin c.hK z
theorem r_not {a : Expr} {ta : MT} {pos} (ha : PT X a (tT G W C ta)) : PT X (.UnaryOp .Not a pos) (tT G W C (MP.tNot ta)) :=
  PT.weak (pt_not ha) fun σ H Q h => by
    have h1 := tX.bind (Ra := RB) (k := fun _ _ b => M.ret (!b)) h
    refine tX.imp h1 fun b H1 z => ?_
    obtain ⟨m, S, ls, a, s, r, ra, p⟩ := z
    cases ra
    exact p m H1 _ Ext.refl s rfl
theorem if_k {α β : Type} {Rp : List Addr → Hp → β → α → Prop} {σ H} {Q : β → Hp → Prop} {b : Bool} {e1 e2 : Cfg → Slots → M α}
    (h : tK G W RB Rp C (fun C σ b => if b = true then e1 C σ else e2 C σ) σ H b Q) : if b = true then tX G W Rp C e1 σ H Q else tX G W Rp C e2 σ H Q := by
  obtain ⟨m, S, ls, a, s, r, ra, p⟩ := h
  cases ra
  cases b with
  | true => exact ⟨m, S, ls, s, r, p⟩
  | false => exact ⟨m, S, ls, s, r, p⟩
theorem ret_fin {β : Type} {b : β} {α : Type} {a : α} {Rp : List Addr → Hp → β → α → Prop} {σ H} {Q : β → Hp → Prop} (h : tX G W Rp C (fun _ _ => M.ret a) σ H Q) (r : ∀ m, Rp m H b a) : Q b H := by
  obtain ⟨m, S, ls, s, _, p⟩ := h
  exact p m H b Ext.refl s (r m)
theorem r_and {a b : Expr} {rest : List Expr} {ta tb : MT} {pos} (ha : PT X a (tT G W C ta)) (hb : PW X (.BoolOp .And (b :: rest) pos) (tT G W C tb)) : PW X (.BoolOp .And (a :: b :: rest) pos) (tT G W C (MP.tAnd ta tb)) :=
  PW.weak (pw_and ha hb) fun σ H Q h => by
    have h1 := tX.bind (Ra := RB) (k := fun C σ b => if b = true then tb C σ else M.ret false) h
    refine tX.imp h1 fun b H1 z => ?_
    have z := if_k (e1 := tb) (e2 := fun _ _ => M.ret false) z
    cases b with
    | true => exact z
    | false => exact ret_fin (C := C) z fun _ => rfl
theorem r_or {a b : Expr} {rest : List Expr} {ta tb : MT} {pos} (ha : PT X a (tT G W C ta)) (hb : PW X (.BoolOp .Or (b :: rest) pos) (tT G W C tb)) : PW X (.BoolOp .Or (a :: b :: rest) pos) (tT G W C (MP.tOr ta tb)) :=
  PW.weak (pw_or ha hb) fun σ H Q h => by
    have h1 := tX.bind (Ra := RB) (k := fun C σ b => if b = true then M.ret true else tb C σ) h
    refine tX.imp h1 fun b H1 z => ?_
    have z := if_k (e1 := fun _ _ => M.ret true) (e2 := tb) z
    cases b with
    | false => exact z
    | true => exact ret_fin (C := C) z fun _ => rfl
theorem r_and1 {a : Expr} {ta : MT} {pos} (ha : PT X a (tT G W C ta)) : PW X (.BoolOp .And [a] pos) (tT G W C ta) := pw_and1 ha
theorem r_or1 {a : Expr} {ta : MT} {pos} (ha : PT X a (tT G W C ta)) : PW X (.BoolOp .Or [a] pos) (tT G W C ta) := pw_or1 ha
theorem r_eand {a b : Expr} {rest : List Expr} {ea eb : ME} {pos} (ha : PE X a (tE G W C ea)) (hb : PE X (.BoolOp .And (b :: rest) pos) (tE G W C eb)) : PE X (.BoolOp .And (a :: b :: rest) pos) (tE G W C (eAnd ea eb)) :=
  PE.weak (pe_and ha hb) fun σ H Q h => by
    have h1 := tX.bind (Ra := RB) (k := fun C σ b => if b = true then eb C σ else M.ret (.bl false)) h
    refine tX.imp (w1 (Rp := RB) (f := asB) h1) fun x H1 z => ?_
    obtain ⟨k, e, z⟩ := asB_fin z
    refine ⟨k, e, ?_⟩
    have z := if_k (e1 := eb) (e2 := fun _ _ => M.ret (.bl false)) z
    cases k with
    | true => exact z
    | false => exact ret_fin (C := C) z fun m => .bl _
theorem r_enot {a : Expr} {ea : ME} {pos} (ha : PE X a (tE G W C ea)) : PE X (.UnaryOp .Not a pos) (tE G W C (eNot ea)) :=
  PE.weak (pe_not ha) fun σ H Q h => by
    have h1 := tX.bind (Ra := RB) (k := fun _ _ b => M.ret (D.bl (!b))) h
    refine tX.imp (w1 (Rp := RB) (f := asB) h1) fun x H1 z => ?_
    obtain ⟨k, e, z⟩ := asB_fin z
    refine ⟨k, e, ?_⟩
    obtain ⟨m, S, ls, a, s, r, ra, p⟩ := z
    cases ra
    exact p m H1 _ Ext.refl s (.bl _)
theorem chain_fin {f g : D → D → P D} {ea eb ec : ME} {σ H Q} (h : tE G W C (eChain f g ea eb ec) σ H Q) : tChain (rP2 G f) (rP2 G g) (tE G W C ea) (tE G W C eb) (tE G W C ec) σ H Q := by
  have h1 := tX.bind (Ra := RepV G) (k := fun C σ x => (eb C σ).bind fun y => (M.of (f x y)).bind fun r => (M.of (asB r)).bind fun k => if k = true then (ec C σ).bind fun z => M.of (g y z) else M.ret (.bl false)) h
  refine tX.imp h1 fun x H1 z => ?_
  have h2 := tKV (Rb := RepV G) (k := fun C σ x y => (M.of (f x y)).bind fun r => (M.of (asB r)).bind fun k => if k = true then (ec C σ).bind fun z => M.of (g y z) else M.ret (.bl false)) z
  refine tX.imp h2 fun y H2 z => ?_
  obtain ⟨m, S, ls, ab, s, r, ⟨ra, rb⟩, p⟩ := z
  refine ⟨m, S, ab.1, ab.2, s, ra, rb, ?_⟩
  unfold M.bind M.of at p
  cases e : f ab.1 ab.2 S with
  | none => simp only [e] at p; exact p
  | some w =>
    obtain ⟨d, S1⟩ := w
    simp only [e] at p
    intro m' H' v ex s' rv
    cases d with
    | bl k =>
      cases rv.bl_
      refine ⟨k, rfl, ?_⟩
      cases k with
      | false => exact (show post G W (RepV G) σ m H2 Q (.ok (.bl false) S1) from p) m' H' _ ex s' (.bl _)
      | true =>
        have p0 : post G W (RepV G) σ m H2 Q (((ec C ls).bind fun z => M.of (g ab.2 z)) S1) := p
        have p' : post G W (RepV G) σ m' H' Q (((ec C ls).bind fun z => M.of (g ab.2 z)) S1) := post.ext ex p0
        have q : tK G W (RepV G) (RepV G) C (fun C σ y => (ec C σ).bind fun z => M.of (g y z)) σ H' y Q := ⟨m', S1, ls, ab.2, s', r.mono ex, rb.mono ex, p'⟩
        have h3 := tKV (Rb := RepV G) (k := fun _ _ y z => M.of (g y z)) q
        refine tX.imp h3 fun z H4 t => ?_
        obtain ⟨m, S, ls, ab, s, r, ⟨ra, rb⟩, p⟩ := t
        exact ⟨m, S, ab.1, ab.2, s, ra, rb, post.of p⟩
    | _ => exact False.elim p
theorem r_chain {op op' : CmpOp} {f g : D → D → P D} {a b c : Expr} {ea eb ec : ME} {pos} (ho : OpR X (compareOp op) (rP2 G f)) (ho' : OpR X (compareOp op') (rP2 G g)) (ha : PE X a (tE G W C ea)) (hb : PE X b (tE G W C eb)) (hc : PE X c (tE G W C ec))
    (hm : lastMarks [op, op'] [b, c] = false := by with_unfolding_all rfl) : PE X (.Compare a [op, op'] [b, c] pos) (tE G W C (eChain f g ea eb ec)) := PE.weak (pe_chain ho ho' ha hb hc hm) fun σ H Q h => chain_fin h
theorem r_pn : PO X none (tO G W C pNone) := ⟨fun pins s σ H Q I h => po_none.run pins s σ H Q I (by
  obtain ⟨m, S, ls, s, r, p⟩ := h
  exact p m H none Ext.refl s rfl)⟩
theorem r_ps {e : Expr} {a : ME} (h : PE X e (tE G W C a)) : PO X (some e) (tO G W C (pSome a)) := ⟨fun pins s σ H Q I hh => (po_some h).run pins s σ H Q I (by
  refine tX.imp (w1 (Rp := RO) (f := asI) hh) fun x H1 z => ?_
  obtain ⟨m, S, a, s, r, p⟩ := z
  unfold asI at p
  split at p
  · exact ⟨_, r.int_, p m H1 _ Ext.refl s rfl⟩
  · exact p.elim)⟩
theorem r_cut {e : Expr} {lo hi : Option Expr} {a : ME} {el eh : Cfg → Slots → M (Option Int)} {p2 pos} (c : Ctx0 G X) (he : PE X e (tE G W C a)) (hl : PO X lo (tO G W C el)) (hh : PO X hi (tO G W C eh)) : PE X (.Subscript e (.Slice lo hi none p2) pos) (tE G W C (eCut a el eh)) :=
  PE.weak (pe_slice (o_cut c.hK) he hl hh) fun σ H Q h => by
    have h1 := tX.bind (Ra := RepV G) (k := fun C σ x => (el C σ).bind fun l => (eh C σ).bind fun u => M.of (opCut x l u)) h
    refine tX.imp h1 fun x H1 z => ?_
    have h2 := tKV (Rb := RO) (k := fun C σ x l => (eh C σ).bind fun u => M.of (opCut x l u)) z
    refine tX.imp h2 fun l H2 z => ?_
    have h3 := tK.bind (G := G) (W := W) (C := C) (Ra := fun m H (p : V × Option Int) (q : D × Option Int) => RepV G m H p.1 q.1 ∧ RO m H p.2 q.2) (Rb := RO) (Rp := RepV G) (e := eh) (k := fun _ _ (xl : D × Option Int) u => M.of (opCut xl.1 xl.2 u)) (fun {_ _ _ _ _ _} e r => ⟨RepV.mono e r.1, r.2⟩) z
    refine tX.imp h3 fun u H3 z => ?_
    obtain ⟨m, S, ls, ab, s, r, ⟨⟨ra, rb⟩, rc⟩, p⟩ := z
    have e1 : l = ab.1.2 := rb
    have e2 : u = ab.2 := rc
    subst e1; subst e2
    exact ⟨m, S, _, s, ra, post.of p⟩
end
end MP
namespace MP
open PySem PySem.Spec PyProof.Rows L2
mutual
def Tg.slots : Tg → List Nat
  | .nm i => [i]
  | .tp ts => Tg.slotss ts
def Tg.slotss : List Tg → List Nat
  | [] => []
  | t :: ts => Tg.slots t ++ Tg.slotss ts
end
def Chg (vs : List Nat) (σ σ' : L2.St) : Prop := σ'.length = σ.length ∧ ∀ i, i ∉ vs → σ'[i]? = σ[i]?
theorem Chg.refl {vs σ} : Chg vs σ σ := ⟨rfl, fun _ _ => rfl⟩
theorem Chg.trans {a b σ σ1 σ2} (h : Chg a σ σ1) (k : Chg b σ1 σ2) : Chg (a ++ b) σ σ2 :=
  ⟨k.1.trans h.1, fun i hi => by
    rw [List.mem_append, not_or] at hi
    rw [k.2 i hi.2, h.2 i hi.1]⟩
theorem Chg.set {i σ} {v : Option V} : Chg [i] σ (σ.set i v) :=
  ⟨by rw [List.length_set], fun j hj => List.getElem?_set_ne fun e => hj (by subst e; exact List.mem_singleton.mpr rfl)⟩
theorem wipe_in {σ : L2.St} {i : Nat} : ∀ {vs : List Nat}, i ∈ vs → i < σ.length → (L2.wipe σ vs)[i]? = some none
  | [], h, _ => nomatch h
  | v :: vs, h, hl => by
    unfold L2.wipe
    by_cases e : v = i
    · subst e
      rw [List.getElem?_set_self (by rw [wipe_length]; exact hl)]
    · rw [List.getElem?_set_ne e]
      exact wipe_in ((List.mem_cons.mp h).resolve_left fun z => e z.symm) hl
theorem Chg.wipe {vs ws : List Nat} {σ σ' : L2.St} (h : Chg vs σ σ') (s : ∀ i ∈ vs, i ∈ ws) : L2.wipe σ' ws = L2.wipe σ ws := by
  apply List.ext_getElem?
  intro i
  by_cases hi : i ∈ ws
  · by_cases hl : i < σ.length
    · rw [wipe_in hi hl, wipe_in hi (by rw [h.1]; exact hl)]
    · rw [List.getElem?_eq_none (by rw [wipe_length, h.1]; omega), List.getElem?_eq_none (by rw [wipe_length]; omega)]
  · rw [wipe_out hi, wipe_out hi]
    exact h.2 i fun z => hi (s i z)
section
variable (G : Gx) (W : WX)
def postS (m : List Addr) (H : Hp) (D : Ends) : SR → Prop
  | .nx ls S' => ∀ m' H' σ', Ext G m H m' H' → Sim G m' S' H' → SlotR G m' H' ls σ' → D.nx σ' H'
  | .rt d S' => ∀ m' H' v, Ext G m H m' H' → Sim G m' S' H' → RepV G m' H' v d → D.rt v H'
  | .bk ls S' => ∀ m' H' σ', Ext G m H m' H' → Sim G m' S' H' → SlotR G m' H' ls σ' → D.bk σ' H'
  | .ct ls S' => ∀ m' H' σ', Ext G m H m' H' → Sim G m' S' H' → SlotR G m' H' ls σ' → D.ct σ' H'
  | .ex c fs ls S' => ∀ m' H' d σ', Ext G m H m' H' → Sim G m' S' H' → SlotR G m' H' ls σ' → RepX G m' H' d fs → W (.ref (G.ne.cls c)) d σ' H'
  | .bad => False
def tS (C : Cfg) (st : MS) : TS := fun D σ H => ∃ m S ls, Sim G m S H ∧ SlotR G m H ls σ ∧ postS G W m H D (st C ls S)
def tG (t : Tg) : TG := fun v σ H Q => ∃ m S ls d ls', Sim G m S H ∧ SlotR G m H ls σ ∧ RepV G m H v d ∧ asg S t d ls = some ls' ∧ ∀ σ', Chg t.slots σ σ' → SlotR G m H ls' σ' → Q σ' H
def tGs (ts : List Tg) : TGs := fun vs σ H Q => ∃ m S ls ds ls', Sim G m S H ∧ SlotR G m H ls σ ∧ RepVs G m H vs ds ∧ asgs S ts ds ls = some ls' ∧ ∀ σ', Chg (Tg.slotss ts) σ σ' → SlotR G m H ls' σ' → Q σ' H
variable {G W}
theorem postS.ext {m H m1 H1 D r} (e : Ext G m H m1 H1) (h : postS G W m H D r) : postS G W m1 H1 D r := by
  cases r with
  | nx ls S' => exact fun m' H' σ' e' s r => h m' H' σ' (e.trans e') s r
  | rt d S' => exact fun m' H' v e' s r => h m' H' v (e.trans e') s r
  | bk ls S' => exact fun m' H' σ' e' s r => h m' H' σ' (e.trans e') s r
  | ct ls S' => exact fun m' H' σ' e' s r => h m' H' σ' (e.trans e') s r
  | ex c fs ls S' => exact fun m' H' d σ' e' s r x => h m' H' d σ' (e.trans e') s r x
  | bad => exact h
theorem lift_post {α β : Type} {Ra : List Addr → Hp → β → α → Prop} {σ m H ls D} {S : Store} {A : M α} {k : α → Store → SR} (r : SlotR G m H ls σ) (h : postS G W m H D (lift A ls S k)) :
    post G W Ra σ m H (fun x H1 => ∃ m1 S1 a, Ext G m H m1 H1 ∧ Sim G m1 S1 H1 ∧ SlotR G m1 H1 ls σ ∧ Ra m1 H1 x a ∧ postS G W m1 H1 D (k a S1)) (A S) := by
  unfold lift at h
  cases e : A S with
  | ok a S' =>
    rw [e] at h
    exact fun m' H' b x s ra => ⟨m', S', a, x, s, r.mono x, ra, h.ext x⟩
  | ex c fs S' =>
    rw [e] at h
    exact fun m' H' d x s rx => h m' H' d σ x s (r.mono x) rx
  | bad =>
    rw [e] at h
    exact h
variable {X : Cx} {C : Cfg}
theorem s_nil : PSs X [] (tS G W C sPass) := PSs.weak pss_nil fun D σ H ⟨m, S, ls, s, r, p⟩ => p m H σ Ext.refl s r
theorem s_cons {st : Stmt} {rest : List Stmt} {a b : MS} (h1 : PS X st (tS G W C a)) (h2 : PSs X rest (tS G W C b)) : PSs X (st :: rest) (tS G W C (sSeq a b)) := PSs.weak (pss_cons h1 h2) fun D σ H ⟨m, S, ls, s, r, p⟩ => by
  refine ⟨m, S, ls, s, r, ?_⟩
  unfold sSeq at p
  cases e : a C ls S with
  | nx ls' S' =>
    rw [e] at p
    exact fun m' H' σ' x s' r' => ⟨m', S', ls', s', r', p.ext x⟩
  | rt d S' => rw [e] at p; exact p
  | bk ls S' => rw [e] at p; exact p
  | ct ls S' => rw [e] at p; exact p
  | ex c fs ls S' => rw [e] at p; exact p
  | bad => rw [e] at p; exact p
theorem s_one {st : Stmt} {a : MS} (h1 : PS X st (tS G W C a)) : PSs X [st] (tS G W C a) := pss_one h1
theorem s_ret {e : Expr} {a : ME} {pos} (he : PE X e (tE G W C a)) : PS X (.Return (some e) pos) (tS G W C (sRet a)) := PS.weak (ps_ret he) fun D σ H ⟨m, S, ls, s, r, p⟩ =>
  ⟨m, S, ls, s, r, post.imp (lift_post (Ra := RepV G) r p) fun x H1 ⟨m1, S1, a, e, s1, r1, ra, p1⟩ => p1 m1 H1 x Ext.refl s1 ra⟩
theorem s_expr {e : Expr} {a : ME} {pos : Pos} (he : PE X e (tE G W C a)) (hs : swapsWith e none pos.line X.env = pure false := by rfl) : PS X (.Expr e pos) (tS G W C (sExpr a)) := PS.weak (ps_expr he hs) fun D σ H ⟨m, S, ls, s, r, p⟩ =>
  ⟨m, S, ls, s, r, post.imp (lift_post (Ra := RepV G) r p) fun x H1 ⟨m1, S1, a, e, s1, r1, ra, p1⟩ => p1 m1 H1 σ Ext.refl s1 r1⟩
theorem s_if {c : Expr} {p q : List Stmt} {tc : MT} {a b : MS} {pos} (hc : PT X c (tT G W C tc)) (ha : PSs X p (tS G W C a)) (hb : PSs X q (tS G W C b)) : PS X (.If c p q pos) (tS G W C (sIf tc a b)) := PS.weak (ps_if hc ha hb) fun D σ H ⟨m, S, ls, s, r, p⟩ =>
  ⟨m, S, ls, s, r, post.imp (lift_post (Ra := RB) r p) fun x H1 ⟨m1, S1, k, e, s1, r1, ra, p1⟩ => by
    cases ra
    cases x with
    | true => exact ⟨m1, S1, ls, s1, r1, p1⟩
    | false => exact ⟨m1, S1, ls, s1, r1, p1⟩⟩
theorem g_name {i : Nat} {x : Str} {pos} (c : Ctx0 G X) (hi : X.N[i]? = some x) (hx : Loc X.env.scope x) (hf : X.fn x = true ∨ X.env.scope.names.lookup x = some .local) : PG X (.Name x pos) (tG G (.nm i)) :=
  ⟨fun pins s σ H v u Q I rv ⟨m, S, ls, d, ls', sim, r, rd, e, q⟩ => (pg_name c.hN hi hx hf).run pins s σ H v u Q I rv (by
    unfold asg at e
    split at e
    · cases e
      exact q _ Chg.set (r.set rd)
    · cases e)⟩
theorem gn {x : Str} {pos} (c : Ctx0 G X) (i : Nat) (hi : X.N[i]? = some x := by rfl) (hx : Loc X.env.scope x := by first | exact .inl rfl | exact .inr rfl) (hf : X.fn x = true ∨ X.env.scope.names.lookup x = some .local := by first | exact .inl rfl | exact .inr rfl) : PG X (.Name x pos) (tG G (.nm i)) := g_name c hi hx hf
theorem g_nil : PGs X [] (tGs G []) := ⟨fun pins s σ H vs us Q I rv ⟨m, S, ls, ds, ls', sim, r, rd, e, q⟩ => pgs_nil.run pins s σ H vs us Q I rv (by
  cases ds with
  | nil =>
    cases rd
    unfold asgs at e
    cases e
    exact ⟨rfl, q σ Chg.refl r⟩
  | cons d ds => unfold asgs at e; cases e)⟩
theorem g_cons {e : Expr} {es : List Expr} {t : Tg} {ts : List Tg} (h1 : PG X e (tG G t)) (h2 : PGs X es (tGs G ts))
    (hs : (assignEach (e :: es) X.env).map (·.2) = assign e X.env :: (assignEach es X.env).map (·.2) := by rfl) : PGs X (e :: es) (tGs G (t :: ts)) :=
  ⟨fun pins s σ H vs us Q I rv ⟨m, S, ls, ds, ls', sim, r, rd, e, q⟩ => (pgs_cons h1 h2 hs).run pins s σ H vs us Q I rv (by
    cases ds with
    | nil => unfold asgs at e; cases e
    | cons d ds =>
      cases rd with
      | @cons v vs _ _ ra rb =>
        unfold asgs at e
        cases e1 : asg S t d ls with
        | none => rw [e1] at e; cases e
        | some ls1 =>
          rw [e1] at e
          refine ⟨v, vs, rfl, m, S, ls, d, ls1, sim, r, ra, e1, fun σ1 ch r1 => ?_⟩
          exact ⟨m, S, ls1, ds, ls', sim, r1, rb, e, fun σ2 ch2 r2 => q σ2 (by unfold Tg.slotss; exact ch.trans ch2) r2⟩)⟩
theorem asgs_len {S : Store} : ∀ {ts : List Tg} {ds : List D} {ls ls' : Slots}, asgs S ts ds ls = some ls' → ds.length = ts.length
  | [], [], _, _, _ => rfl
  | [], _ :: _, _, _, e => by unfold asgs at e; cases e
  | _ :: _, [], _, _, e => by unfold asgs at e; cases e
  | t :: ts, d :: ds, ls, ls', e => by
    unfold asgs at e
    split at e
    · rw [List.length_cons, List.length_cons, asgs_len e]
    · cases e
theorem g_tup {es : List Expr} {ts : List Tg} {k : Nat} {pos} (c : Ctx G X W) (h : PGs X es (tGs G ts)) (hn : (assignEach es X.env).length = ts.length := by rfl) (hst : (assignEach es X.env).findIdx? (·.1) = none := by rfl) : PG X (.Tuple es k pos) (tG G (.tp ts)) :=
  ⟨fun pins s σ H v u Q I rv ⟨m, S, ls, d, ls', sim, r, rd, e, q⟩ => by
    unfold asg at e
    split at e
    · rename_i xs hx
      have hl := asgs_len e
      have go : ∀ vs, RepVs G m H vs xs → tGs G ts vs σ H Q := fun vs rr => ⟨m, S, ls, xs, ls', sim, r, rr, e, fun σ' ch r' => q σ' (by unfold Tg.slots; exact ch) r'⟩
      unfold seqOf at hx
      split at hx
      · cases hx
        obtain ⟨p, vs, rfl, hp, hv⟩ := rd.tup_
        exact (pg_tup (n := ts.length) c.calm h hn hst).run pins s σ H _ u Q I rv ⟨p, vs, rfl, c.hK ▸ hp, by rw [hv.length, hl], go vs hv⟩
      · obtain ⟨p, rfl, hp⟩ := rd.ref_
        obtain ⟨p', vs, e1, hp', hv⟩ := sim.seqL hx
        rw [hp] at e1
        cases e1
        exact (pg_lst (n := ts.length) c.calm h hn hst).run pins s σ H _ u Q I rv ⟨p, vs, rfl, c.hK ▸ hp', by rw [hv.length, hl], go vs hv⟩
      · cases hx
    · cases e⟩
theorem s_set {tg e : Expr} {t : Tg} {a : ME} {pos : Pos} (he : PE X e (tE G W C a)) (hg : PG X tg (tG G t)) (hs : swapsWithSole [tg] e pos.line X.env = pure false := by rfl) (hw : swappedStores [tg] e X.env = pure none := by rfl)
    (h1 : (assignEach [tg] X.env).map (·.2) = [assign tg X.env] := by rfl) : PS X (.Assign [tg] e pos) (tS G W C (sSet t a)) := PS.weak (ps_asg he hg hs hw h1) fun D σ H ⟨m, S, ls, s, r, p⟩ =>
  ⟨m, S, ls, s, r, post.imp (lift_post (Ra := RepV G) r p) fun x H1 ⟨m1, S1, a, _, s1, r1, ra, p1⟩ => by
    split at p1
    · rename_i ls' e
      exact ⟨m1, S1, ls, a, ls', s1, r1, ra, e, fun σ' ch r' => p1 m1 H1 σ' Ext.refl s1 r'⟩
    · exact p1.elim⟩
theorem s_par {i j : Nat} {x y : Str} {a b : Expr} {ea eb : ME} {px py pt : Pos} {kt k2 pt2} {pos : Pos} (c : Ctx G X W) (hi : X.N[i]? = some x) (hj : X.N[j]? = some y) (hij : i ≠ j)
    (hx : X.env.scope.names.lookup x = some .local) (hy : X.env.scope.names.lookup y = some .local) (ha : PE X a (tE G W C ea)) (hb : PE X b (tE G W C eb))
    (hw : swappedStores [.Tuple [.Name x px, .Name y py] kt pt] (.Tuple [a, b] k2 pt2) X.env = pure (some [x, y]))
    (hs : swapsWithSole [.Tuple [.Name x px, .Name y py] kt pt] (.Tuple [a, b] k2 pt2) pos.line X.env = pure false := by rfl)
    (h1 : starEach [a, b] X.env = (false, eval a X.env) :: starEach [b] X.env := by rfl) (h2 : starEach [b] X.env = (false, eval b X.env) :: starEach [] X.env := by rfl) :
    PS X (.Assign [.Tuple [.Name x px, .Name y py] kt pt] (.Tuple [a, b] k2 pt2) pos) (tS G W C (sPar i j ea eb)) :=
  PS.weak (ps_par c.calm c.hN hi hj hij hx hy (pa_cons ha (pa_cons hb pa_nil h2) h1) hw hs) fun D σ H ⟨m, S, ls, s, r, p⟩ => by
    refine ⟨m, S, ls, s, r, post.imp (lift_post (Ra := RepV G) r p) fun v H1 ⟨m1, S1, d1, e1, s1, r1, ra, p1⟩ => ?_⟩
    refine ⟨m1, S1, ls, s1, r1, post.imp (lift_post (Ra := RepV G) r1 p1) fun w H2 ⟨m2, S2, d2, e2, s2, r2, rb, p2⟩ => ?_⟩
    refine ⟨v, w, rfl, ?_⟩
    split at p2
    · exact p2 m2 H2 _ Ext.refl s2 ((r2.set (ra.mono e2)).set rb)
    · exact p2.elim
theorem s_while {e : Expr} {body : List Stmt} {t : MT} {b : MS} {pos : Pos} (c : Ctx G X W) (hc : PT X e (tT G W C t)) (hb : PSs X body (tS G W C b)) : PS X (.While e body [] pos) (tS G W C (sWhile t b)) := PS.weak (ps_while c.hp hc hb) fun D σ H ⟨m, S, ls, s, r, p⟩ => by
  refine ⟨fun n σ H => ∃ m S ls, Sim G m S H ∧ SlotR G m H ls σ ∧ postS G W m H D (whileN t b C n ls S), ⟨turns, m, S, ls, s, r, p⟩, ?_⟩
  rintro n σ H ⟨m, S, ls, s, r, p⟩
  cases n with
  | zero => exact p.elim
  | succ n =>
    unfold whileN at p
    refine ⟨m, S, ls, s, r, post.imp (lift_post (Ra := RB) r p) fun k H1 ⟨m1, S1, k', e, s1, r1, ra, p1⟩ => ?_⟩
    cases ra
    cases k with
    | false =>
      rw [if_neg Bool.false_ne_true] at p1 ⊢
      exact p1 m1 H1 σ Ext.refl s1 r1
    | true =>
      rw [if_pos rfl] at p1 ⊢
      refine ⟨fun σ' H' => ∃ m S ls, Sim G m S H' ∧ SlotR G m H' ls σ' ∧ postS G W m H' D (whileN t b C n ls S), fun σ' H' h => ⟨n, Nat.lt_succ_self n, h⟩, m1, S1, ls, s1, r1, ?_⟩
      cases q : b C ls S1 with
      | nx ls' S' => rw [q] at p1; exact fun m' H' σ' x s' r' => ⟨m', S', ls', s', r', p1.ext x⟩
      | rt d S' => rw [q] at p1; exact p1
      | bk ls' S' => rw [q] at p1; exact p1
      | ct ls' S' => rw [q] at p1; exact fun m' H' σ' x s' r' => ⟨m', S', ls', s', r', p1.ext x⟩
      | ex c fs ls S' => rw [q] at p1; exact p1
      | bad => rw [q] at p1; exact p1
def ItR (G : Gx) (m0 : List Addr) (H0 : Hp) (J : L2.It) (t : MP.It) : Prop := ∀ m S H i, Ext G m0 H0 m H → Sim G m S H →
  (t.next S i = some none → J.stop i H) ∧ ∀ d, t.next S i = some (some d) → J.go i H ∧ ∀ x H', J.yld i H x H' → Ext G m H m H' ∧ Sim G m S H' ∧ RepV G m H' x d
theorem ItR.mono {m H m' H' J t} (e : Ext G m H m' H') (h : ItR G m H J t) : ItR G m' H' J t := fun m S H i x s => h m S H i (e.trans x) s
variable (G W)
abbrev tI (C : Cfg) (t : MI) : TI := tX G W (ItR G) C t
variable {G W}
theorem s_for {tg iter : Expr} {body : List Stmt} {g : Tg} {t : MI} {b : MS} {pos : Pos} (c : Ctx G X W) (hi : PI X tg iter (tI G W C t)) (hg : PG X tg (tG G g)) (hb : PSs X body (tS G W C b))
    (hs : ∀ x, foldedSetIterable iter X.env x = pure x := by intro _; rfl) : PS X (.For tg iter body [] pos) (tS G W C (sFor g t b)) := PS.weak (ps_for c.hp c.calm hi hg hb hs) fun D σ H ⟨m, S, ls, s, r, p⟩ => by
  refine ⟨m, S, ls, s, r, post.imp (lift_post (Ra := ItR G) r p) fun J H1 ⟨m1, S1, it, e, s1, r1, ra, p1⟩ => ?_⟩
  refine ⟨fun i n σ H => ∃ m S ls, Sim G m S H ∧ SlotR G m H ls σ ∧ ItR G m H J it ∧ postS G W m H D (forN it g b C n i ls S), ⟨turns, m1, S1, ls, s1, r1, ra, p1⟩, ?_⟩
  rintro i n σ H ⟨m, S, ls, s, r, ra, p⟩
  cases n with
  | zero => exact p.elim
  | succ n =>
    unfold forN at p
    obtain ⟨k1, k2⟩ := ra m S H i Ext.refl s
    cases q : it.next S i with
    | none => rw [q] at p; exact p.elim
    | some o =>
      rw [q] at p
      cases o with
      | none => exact .inl ⟨k1 q, p m H σ Ext.refl s r⟩
      | some d =>
        obtain ⟨go, yld⟩ := k2 d q
        refine .inr ⟨go, fun σ' H' => ∃ m S ls, Sim G m S H' ∧ SlotR G m H' ls σ' ∧ ItR G m H' J it ∧ postS G W m H' D (forN it g b C n (i + 1) ls S), fun σ' H' h => ⟨n, Nat.lt_succ_self n, h⟩, fun x H' y => ?_⟩
        obtain ⟨ex, s', rx⟩ := yld x H' y
        simp only at p
        cases q2 : asg S g d ls with
        | none => rw [q2] at p; exact p.elim
        | some ls1 =>
          rw [q2] at p
          simp only at p
          refine ⟨m, S, ls, d, ls1, s', r.mono ex, rx, q2, fun σ' ch r' => ⟨m, S, ls1, s', r', ?_⟩⟩
          have p := postS.ext ex p
          cases q3 : b C ls1 S with
          | nx ls' S' => rw [q3] at p; exact fun m2 H2 σ2 x2 s2 r2 => ⟨m2, S', ls', s2, r2, ra.mono (ex.trans x2), p.ext x2⟩
          | rt d S' => rw [q3] at p; exact p
          | bk ls' S' => rw [q3] at p; exact p
          | ct ls' S' => rw [q3] at p; exact fun m2 H2 σ2 x2 s2 r2 => ⟨m2, S', ls', s2, r2, ra.mono (ex.trans x2), p.ext x2⟩
          | ex c fs ls S' => rw [q3] at p; exact p
          | bad => rw [q3] at p; exact p
end
end MP
namespace MP
open PySem PySem.Spec PyProof.Rows L2
section
variable {G : Gx} {m : List Addr} {H : Hp}
theorem itr_list {n : Nat} {p : Addr} (h : m[n]? = some p) : ItR G m H (Itl G.K p) (.lst n) := fun m' S H' i x s => by
  have hp := x.pre _ _ h
  unfold MP.It.next
  refine ⟨fun e => ?_, fun d e => ?_⟩ <;> cases q : lstAt S n with
  | none => rw [q] at e; cases e
  | some xs =>
    rw [q] at e
    obtain ⟨p', vs, e1, sq, rv⟩ := s.seqL q
    rw [hp] at e1
    cases e1
    have e : xs[i]? = _ := Option.some.inj e
    first
      | exact ⟨vs, sq, by rw [rv.length]; exact List.getElem?_eq_none_iff.mp e⟩
      | (obtain ⟨v, h1, h2⟩ := rv.get e
         refine ⟨⟨vs, v, sq, h1⟩, ?_⟩
         rintro y _ ⟨rfl, hy⟩
         have z := hy vs sq
         rw [h1] at z
         cases z
         exact ⟨Ext.refl, s, h2⟩)
theorem itr_tup {xs : List D} {p : Addr} {vs : List V} (sq : SqT G.K H p vs) (rv : RepVs G m H vs xs) : ItR G m H (Itt G.K p) (.seq xs) := fun m' S H' i x s => by
  have sq := x.tup _ _ sq
  have rv := rv.mono x
  unfold MP.It.next
  refine ⟨fun e => ?_, fun d e => ?_⟩
  · have e : xs[i]? = _ := Option.some.inj e
    exact ⟨vs, sq, by rw [rv.length]; exact List.getElem?_eq_none_iff.mp e⟩
  · have e : xs[i]? = _ := Option.some.inj e
    obtain ⟨v, h1, h2⟩ := rv.get e
    refine ⟨⟨vs, v, sq, h1⟩, ?_⟩
    rintro y _ ⟨rfl, hy⟩
    have z := hy vs sq
    rw [h1] at z
    cases z
    exact ⟨Ext.refl, s, h2⟩
theorem itr_str {l : List Nat} : ItR G m H (Its ⟨l.toArray⟩) (.seq (l.map fun c => .str [c])) := fun m' S H' i x s => by
  unfold MP.It.next
  refine ⟨fun e => ?_, fun d e => ?_⟩
  · have e : (l.map fun c => D.str [c])[i]? = none := Option.some.inj e
    have := List.getElem?_eq_none_iff.mp e
    rw [List.length_map] at this
    show l.toArray.size ≤ i
    simpa using this
  · have e : (l.map fun c => D.str [c])[i]? = some d := Option.some.inj e
    rw [List.getElem?_map] at e
    obtain ⟨c, h1, rfl⟩ := Option.map_eq_some_iff.mp e
    refine ⟨?_, ?_⟩
    · show i < l.toArray.size
      have := (List.getElem?_eq_some_iff.mp h1).1
      simpa using this
    · rintro y _ ⟨rfl, c', h2, rfl⟩
      have h2 : l.toArray[i]? = some c' := h2
      rw [List.getElem?_toArray, h1] at h2
      cases h2
      exact ⟨Ext.refl, s, .str [c]⟩
theorem rangeL_get (c : Int) : ∀ (n : Nat) (lo : Int) (i : Nat), (rangeL lo c n)[i]? = if i < n then some (.int (lo + (i : Nat) * c)) else none
  | 0, lo, i => by simp [rangeL]
  | n + 1, lo, 0 => by simp [rangeL]
  | n + 1, lo, i + 1 => by
    rw [rangeL, List.getElem?_cons_succ, rangeL_get c n]
    by_cases h : i < n
    · rw [if_pos h, if_pos (by omega)]
      congr 2
      rw [Int.natCast_add, Int.add_mul]
      omega
    · rw [if_neg h, if_neg (by omega)]
theorem itr_rangeC {lo c : Int} {n : Nat} : ItR G m H (Itc lo c n) (.seq (rangeL lo c n)) := fun m' S H' i x s => by
  unfold MP.It.next
  rw [rangeL_get]
  refine ⟨fun e => ?_, fun d e => ?_⟩
  · have e := Option.some.inj e
    split at e
    · cases e
    · show n ≤ i
      omega
  · have e := Option.some.inj e
    split at e
    · rename_i h
      cases e
      refine ⟨h, ?_⟩
      rintro y _ ⟨rfl, rfl⟩
      exact ⟨Ext.refl, s, .int _⟩
    · cases e
theorem itr_range {lo : Int} {n : Nat} : ItR G m H (Itr lo n) (.seq (rangeL lo 1 n)) := fun m' S H' i x s => by
  have h := itr_rangeC (G := G) (m := m) (H := H) (lo := lo) (c := 1) (n := n) m' S H' i x s
  refine ⟨h.1, fun d e => ?_⟩
  obtain ⟨h1, h2⟩ := h.2 d e
  refine ⟨h1, ?_⟩
  rintro y _ ⟨rfl, rfl⟩
  exact h2 _ _ ⟨rfl, by rw [Int.mul_one]⟩
end
theorem PI.weak {X : Cx} {tg iter : Expr} {t t' : TI} (h : PI X tg iter t) (i : ∀ σ H R, t' σ H R → t σ H R) : PI X tg iter t' := ⟨fun pins s σ H R I q => h.run pins s σ H R I (i σ H R q)⟩
section
variable {G : Gx} {X : Cx} {W : WX} {C : Cfg} {tg : Expr}
theorem i_seq {e : Expr} {a : ME} (c : Ctx0 G X) (he : PE X e (tE G W C a)) : PI X tg e (tI G W C (iSeq a)) := ⟨fun pins s σ H R I h => by
  refine thn (he.run pins s σ H _ I (w1 (Rp := ItR G) (f := itP) h)) fun v s1 ⟨x, H1, I1, rx, z⟩ => ?_
  obtain ⟨m, S, d, sim, rd, p⟩ := z
  unfold itP itOf at p
  split at p
  · rename_i l
    cases rd.str_
    obtain ⟨t, rfl⟩ := rx
    have q : R (Its ⟨l.toArray⟩) H1 := p m H1 _ Ext.refl sim itr_str
    cases ha : (⟨l.toArray⟩ : Str).cps.all (· < 128)
    · exact wpAny_pyIter_wide ha (pi_one (tk := s1.toks) I1 _ (turn_str _ _ t "str_iterator" (.inr rfl)) ⟨_, Heap.get?_push_size _ rfl, rfl, rfl⟩ q)
    · exact wpAny_pyIter_ascii ha (pi_one (tk := s1.toks) I1 _ (turn_str _ _ t "str_ascii_iterator" (.inl rfl)) ⟨_, Heap.get?_push_size _ rfl, rfl, rfl⟩ q)
  · rename_i xs
    obtain ⟨q, vs, rfl, hq, hv⟩ := rd.tup_
    cases rx
    have z : R (Itt X.K q) H1 := by rw [← c.hK]; exact p m H1 _ Ext.refl sim (itr_tup hq hv)
    obtain ⟨its, rv, pt, hz⟩ := I1.tuple (c.hK ▸ hq)
    exact wpAny_pyIter_tuple (show s1.heap.IsTuple q its.toArray from pt) (pi_one (tk := s1.toks) I1 _ (turn_tuple q _) ⟨_, Heap.get?_push_size _ rfl, rfl, rfl⟩ z)
  · rename_i n
    obtain ⟨q, rfl, hq⟩ := rd.ref_
    cases rx
    have go : ∀ xs, lstAt S n = some xs → R (Itl G.K q) H1 → wpAny (model X.prog X.w) X.A (pyIter (.ref q)) (PIE X pins σ tg R) X.xe s1 := fun xs hl z => by
      obtain ⟨q', vs, e1, sq, rv⟩ := sim.seqL hl
      rw [hq] at e1
      cases e1
      obtain ⟨its, rv, pl, hz⟩ := I1.list (c.hK ▸ sq)
      rw [c.hK] at z
      exact wpAny_pyIter_list pl.isList (pi_one (tk := s1.toks) I1 _ (turn_list q _) ⟨_, Heap.get?_push_size _ rfl, rfl, rfl⟩ z)
    split at p
    · rename_i xs hg
      exact go xs (by unfold lstAt; rw [hg]) (p m H1 _ Ext.refl sim (itr_list hq))
    · rename_i xs hg
      exact go xs (by unfold lstAt; rw [hg]) (p m H1 _ Ext.refl sim (itr_list hq))
    · exact p.elim
  · exact p.elim⟩
theorem okR_of {i : Int} (h : okR i = true) : -(2 ^ 62) ≤ i ∧ i < 2 ^ 62 := by
  unfold okR at h
  simp only [Bool.and_eq_true, decide_eq_true_eq] at h
  omega
theorem i_range1 {e : Expr} {a : ME} {p pos : Pos} (hg : Gl X "range") (hm : X.mg "range" = none) (he : PE X e (tE G W C a))
    (h1 : starEach [e] X.env = (false, eval e X.env) :: starEach [] X.env := by rfl) (hs : starEach [e] X.env = [(false, eval e X.env)] := by rfl) : PI X tg (.Call (.Name "range" p) [e] [] pos) (tI G W C (iRange1 a)) :=
  PI.weak (pi_range1 hg hm (pa_cons he pa_nil h1) hs) fun σ H R h => tX.imp (w1 (Rp := ItR G) (f := rg1) h) fun x H1 z => by
    obtain ⟨m, S, d, sim, rd, p⟩ := z
    unfold rg1 at p
    split at p
    · rename_i j
      cases rd.int_
      split at p
      · rename_i hz
        obtain ⟨q1, q2⟩ := okR_of hz
        exact ⟨j, rfl, q1, q2, p m H1 _ Ext.refl sim itr_range⟩
      · exact p.elim
    · exact p.elim
theorem wI2 {α β : Type} {Rp : List Addr → Hp → β → α → Prop} {f : D → D → P α} {a b : ME} {σ H} {R : β → Hp → Prop} (h : tX G W Rp C (fun C σ => (a C σ).bind fun x => (b C σ).bind fun y => M.of (f x y)) σ H R) :
    tE G W C a σ H fun x H1 => tE G W C b σ H1 fun y H2 => ∃ m S d1 d2, Sim G m S H2 ∧ RepV G m H2 x d1 ∧ RepV G m H2 y d2 ∧ postP G Rp m H2 R (f d1 d2 S) := by
  have h1 := tX.bind (Ra := RepV G) (k := fun C σ x => (b C σ).bind fun y => M.of (f x y)) h
  refine tX.imp h1 fun x H1 z => ?_
  have h2 := tKV (Rb := RepV G) (k := fun _ _ x y => M.of (f x y)) z
  refine tX.imp h2 fun y H2 z => ?_
  obtain ⟨m, S, ls, ab, s, r, ⟨ra, rb⟩, p⟩ := z
  exact ⟨m, S, ab.1, ab.2, s, ra, rb, post.of p⟩
end
end MP
namespace MP
open PySem PySem.Spec PyProof.Rows L2
abbrev WF : WX := fun _ _ _ _ => False
theorem wipe_idem (σ : L2.St) (vs : List Nat) : L2.wipe (L2.wipe σ vs) vs = L2.wipe σ vs := by
  apply List.ext_getElem?
  intro i
  by_cases hi : i ∈ vs
  · by_cases hl : i < σ.length
    · rw [wipe_in hi (by rw [wipe_length]; exact hl), wipe_in hi hl]
    · rw [List.getElem?_eq_none (by rw [wipe_length, wipe_length]; omega), List.getElem?_eq_none (by rw [wipe_length]; omega)]
  · rw [wipe_out hi]
theorem mwipe_length : ∀ (vs : List Nat) (ls : Slots), (MP.wipe ls vs).length = ls.length
  | [], _ => rfl
  | v :: vs, ls => by unfold MP.wipe; rw [mwipe_length vs, List.length_set]
theorem mwipe_some : ∀ (vs : List Nat) {ls : Slots} {i : Nat} {d : D}, (MP.wipe ls vs)[i]? = some (some d) → ls[i]? = some (some d) ∧ i ∉ vs
  | [], _, _, _, h => ⟨h, by simp⟩
  | v :: vs, ls, i, d, h => by
    unfold MP.wipe at h
    obtain ⟨h1, h2⟩ := mwipe_some vs h
    by_cases hi : v = i
    · subst hi
      by_cases hl : v < ls.length
      · rw [List.getElem?_set_self hl] at h1; cases h1
      · rw [List.getElem?_eq_none (by rw [List.length_set]; omega)] at h1; cases h1
    · rw [List.getElem?_set_ne hi] at h1
      exact ⟨h1, by simp only [List.mem_cons, not_or]; exact ⟨fun e => hi e.symm, h2⟩⟩
theorem SlotR.wipe {G : Gx} {m H ls σ} (vs : List Nat) (h : SlotR G m H ls σ) : SlotR G m H (MP.wipe ls vs) (L2.wipe σ vs) :=
  ⟨by rw [mwipe_length, wipe_length, h.1], fun i d q => by
    obtain ⟨h1, h2⟩ := mwipe_some vs q
    rw [wipe_out h2]
    exact h.2 i d h1⟩
section
variable {G : Gx} {X : Cx} {W : WX} {C : Cfg}
def postL (G : Gx) (m : List Addr) (H : Hp) (Qd : Hp → Prop) : R Unit → Prop
  | .ok _ S' => ∀ m' H', Ext G m H m' H' → Sim G m' S' H' → Qd H'
  | _ => False
theorem postL.ext {m H m1 H1 Qd r} (e : Ext G m H m1 H1) (h : postL G m H Qd r) : postL G m1 H1 Qd r := by
  cases r with
  | ok a S' => exact fun m' H' x s => h m' H' (e.trans x) s
  | ex c fs S' => exact h
  | bad => exact h
theorem postL.imp {m H} {Qd Qe : Hp → Prop} {r} (h : postL G m H Qd r) (q : ∀ H, Qd H → Qe H) : postL G m H Qe r := by
  cases r with
  | ok a S' => exact fun m' H' x s => q _ (h m' H' x s)
  | ex c fs S' => exact h
  | bad => exact h
theorem emit_post {e : ME} {σ m H ls n D} {S : Store} {Nx : Hp → Prop} (s : Sim G m S H) (r : SlotR G m H ls σ) (hD : m[n]? = some D) (p : postL G m H Nx (emit e n C ls S)) :
    tE G WF C e σ H fun y H4 => ∃ acc, H4 D = some (.lst acc) ∧ acc.length < sizeLine ∧ Nx (upd H4 D (.lst (acc ++ [y]))) := by
  refine ⟨m, S, ls, s, r, ?_⟩
  unfold emit at p
  cases q : e C ls S with
  | bad => rw [q] at p; exact p
  | ex c fs S' => rw [q] at p; exact p.elim
  | ok d S' =>
    rw [q] at p
    intro m' H' y x s' ry
    simp only at p
    cases q2 : S'.get n with
    | none => rw [q2] at p; exact p.elim
    | some o =>
      rw [q2] at p
      cases o with
      | lst acc =>
        simp only at p
        split at p
        · rename_i hz
          obtain ⟨p', vs, e1, e2, rv⟩ := s'.lst q2
          rw [x.pre _ _ hD] at e1
          cases e1
          refine ⟨vs, e2, by rw [rv.length, ← line_eq]; exact hz, ?_⟩
          have mu : Mut1 (H' D) := by rw [e2]; trivial
          have ex : Ext G m' H' m' (upd H' D (.lst (vs ++ [y]))) := Ext.mut mu
          exact p m' _ (x.trans ex) (sim_set s' q2 rfl rfl (x.pre _ _ hD) mu (.lst upd_same ((rv.mono ex).append (.cons (ry.mono ex) .nil))))
        · exact p.elim
      | rol xs => exact p.elim
      | dct kvs => exact p.elim
      | dtu kvs => exact p.elim
      | fdt kvs => exact p.elim
      | fdk kvs => exact p.elim
      | ins c fs => exact p.elim
theorem comp_loop {it : MP.It} {J : L2.It} {g : Tg} {tc : MT} {f : Slots → M Unit} {σ : L2.St} {ls : Slots} {m0 H0} {S0 : Store} {vs : List Nat} {Qd : Hp → Prop} {F : L2.St → Hp → (Hp → Prop) → Prop} (s0 : Sim G m0 S0 H0) (r0 : SlotR G m0 H0 ls (L2.wipe σ vs)) (ri : ItR G m0 H0 J it) (sub : ∀ i ∈ g.slots, i ∈ vs)
    (hf : ∀ (σ2 : L2.St) (m : List Addr) (H : Hp) (S : Store) (ls2 : Slots) (Nx : Hp → Prop), Ext G m0 H0 m H → Sim G m S H → SlotR G m H ls2 σ2 → postL G m H Nx (f ls2 S) → F σ2 H Nx)
    (p : postL G m0 H0 Qd (compN it g tc f C ls turns 0 S0)) :
    ∃ W : Nat → Nat → Hp → Prop, (∃ m, W 0 m H0) ∧ ∀ i m H, W i m H → (J.stop i H ∧ Qd H) ∨ (J.go i H ∧ ∃ Nx : Hp → Prop, (∀ H', Nx H' → ∃ m', m' < m ∧ W (i + 1) m' H') ∧ ∀ x H', J.yld i H x H' →
      tG G g x (L2.wipe σ vs) H' fun σ2 H2 => L2.wipe σ2 vs = L2.wipe σ vs ∧ tT G WF C tc σ2 H2 fun b H3 => if b = true then F σ2 H3 Nx else Nx H3) := by
  refine ⟨fun i n H => ∃ m S, Sim G m S H ∧ Ext G m0 H0 m H ∧ postL G m H Qd (compN it g tc f C ls n i S), ⟨turns, m0, S0, s0, Ext.refl, p⟩, ?_⟩
  rintro i n H ⟨m, S, s, ex0, p⟩
  cases n with
  | zero => exact p.elim
  | succ n =>
    unfold compN at p
    obtain ⟨k1, k2⟩ := ri m S H i ex0 s
    cases q : it.next S i with
    | none => rw [q] at p; exact p.elim
    | some o =>
      rw [q] at p
      cases o with
      | none => exact .inl ⟨k1 q, p m H Ext.refl s⟩
      | some d =>
        obtain ⟨go, yld⟩ := k2 d q
        refine .inr ⟨go, fun H' => ∃ m S, Sim G m S H' ∧ Ext G m0 H0 m H' ∧ postL G m H' Qd (compN it g tc f C ls n (i + 1) S), fun H' h => ⟨n, Nat.lt_succ_self n, h⟩, fun x H' y => ?_⟩
        obtain ⟨ex, s', rx⟩ := yld x H' y
        simp only at p
        cases q2 : asg S g d ls with
        | none => rw [q2] at p; exact p.elim
        | some ls1 =>
          rw [q2] at p
          simp only at p
          refine ⟨m, S, ls, d, ls1, s', r0.mono (ex0.trans ex), rx, q2, fun σ2 ch r2 => ⟨(ch.wipe sub).trans (wipe_idem σ vs), m, S, ls1, s', r2, ?_⟩⟩
          cases q3 : tc C ls1 S with
          | bad => rw [q3] at p; exact p
          | ex c fs S' => rw [q3] at p; exact p.elim
          | ok k S1 =>
            rw [q3] at p
            intro m2 H3 b x2 s2 rb
            cases rb
            cases k with
            | false =>
              rw [if_neg Bool.false_ne_true]
              exact ⟨m2, S1, s2, (ex0.trans ex).trans x2, postL.ext (ex.trans x2) p⟩
            | true =>
              rw [if_pos rfl]
              simp only at p
              refine hf σ2 m2 H3 S1 ls1 _ ((ex0.trans ex).trans x2) s2 (r2.mono x2) ?_
              cases q4 : f ls1 S1 with
              | bad => rw [q4] at p; exact p
              | ex c fs S' => rw [q4] at p; exact p.elim
              | ok u S2 =>
                rw [q4] at p
                exact fun m4 H4 x4 s4 => ⟨m4, S2, s4, ((ex0.trans ex).trans x2).trans x4, postL.ext ((ex.trans x2).trans x4) p⟩
theorem lc_fin {e : ME} {g : Tg} {t : MI} {tc : MT} {vs : List Nat} {σ H} {Q : VK} (sub : ∀ i ∈ g.slots, i ∈ vs) (h : tE G W C (eLc e g t tc vs) σ H Q) : tLc (tI G W C t) (tG G g) (tT G WF C tc) (tE G WF C e) vs σ H Q := by
  have h1 := tX.bind (Ra := ItR G) (k := fun C σ i S => match compN i g tc (emit e S.size C) C (MP.wipe σ vs) turns 0 (S.push (.lst [])) with
    | .ok _ S' => .ok (D.ref S.size) S'
    | _ => .bad) h
  refine tX.imp h1 fun J H1 z D hD => ?_
  obtain ⟨m, S, ls, it, s, r, ri, p⟩ := z
  have ex : Ext G m H1 (m ++ [D]) (upd H1 D (.lst [])) := ext_push hD
  have hl : (m ++ [D])[S.size]? = some D := by rw [← s.len]; exact List.getElem?_concat_length
  refine comp_loop (f := emit e S.size C) (Qd := fun H => Q (.ref D) H) (sim_new s hD (.lst upd_same .nil)) ((r.mono ex).wipe vs) (ri.mono ex) sub (F := fun σ2 H3 Nx => tE G WF C e σ2 H3 fun y H4 => ∃ acc, H4 D = some (.lst acc) ∧ acc.length < sizeLine ∧ Nx (upd H4 D (.lst (acc ++ [y]))))
    (fun σ2 m2 H2 S2 ls2 Nx x2 s2 r2 p2 => emit_post s2 r2 (x2.pre _ _ hl) p2) (?_ : postL G (m ++ [D]) (upd H1 D (.lst [])) (fun H => Q (.ref D) H) _)
  cases q : compN it g tc (emit e S.size C) C (MP.wipe ls vs) turns 0 (S.push (.lst [])) with
  | bad => simp only [q] at p; exact p
  | ex c fs S' => simp only [q] at p; exact p
  | ok u S' =>
    simp only [q] at p
    exact fun m' H' x s' => p m' H' (.ref D) (ex.trans x) s' ((ref_new (G := G) (H' := upd H1 D (.lst [])) s).mono x)
theorem r_pts0 : PTs X [] (tT G W C MP.tYes) := ⟨fun pins s σ H Q I h => pts_nil.run pins s σ H Q I (by
  obtain ⟨m, S, ls, s, r, p⟩ := h
  exact p m H true Ext.refl s rfl)⟩
theorem r_pts1 {e : Expr} {t : MT} (h : PT X e (tT G W C t)) : PTs X [e] (tT G W C t) := pts_one h
theorem Ctx.blk (c : Ctx G X W) {s : Shared} {H : Hp} {scope : Scope} {cl : List (Str × Addr)} {L : Addr} {fp : List Addr} : Ctx G (X.blk s H scope (compEnvC scope cl L X.env) fp) WF where
  hK := c.hK
  hN := c.hN
  tk := fun _ _ ⟨_, _, _, _, _, _, _, _, _, _, _, _, _, _, _, _, w⟩ => w.elim
  hp := fun _ _ z => z.elim
  hu := c.hu
  gd := c.gd
  hW := c.hW
  calm := c.calm
section
variable {elt tg iter : Expr} {ifs : List Expr} {scope : Scope} {own : List (Str × Nat)} {pos : Pos} {g : Tg} {t : MI} {tc : MT} {e : ME} {vs : List Nat}
theorem r_lc (c : Ctx G X W) (hi : PI X tg iter (tI G W C t)) (ok : blkC X.N X.env.scope scope own = true) (hv : own.map (·.2) = vs) (sub : (g.slots.all fun i => vs.contains i) = true)
    (hg : ∀ (s : Shared) (H : Hp) (L : Addr) (cl : List (Str × Addr)) (fp : List Addr), PG (X.blk s H scope (compEnvC scope cl L X.env) fp) tg (tG G g))
    (ht : ∀ (s : Shared) (H : Hp) (L : Addr) (cl : List (Str × Addr)) (fp : List Addr), PTs (X.blk s H scope (compEnvC scope cl L X.env) fp) ifs (tT G WF C tc))
    (he : ∀ (s : Shared) (H : Hp) (L : Addr) (cl : List (Str × Addr)) (fp : List Addr), PE (X.blk s H scope (compEnvC scope cl L X.env) fp) elt (tE G WF C e)) (hs : ∀ x, foldedSetIterable iter X.env x = pure x := by intro _; rfl) :
    PE X (.ListComp elt [⟨tg, iter, ifs, 0⟩] scope pos) (tE G W C (eLc e g t tc vs)) := by
  subst hv
  exact PE.weak (pe_lc c.calm c.hN hi (blkOk_by ok) hg ht he hs) fun σ H Q h => lc_fin (fun i hi => by simpa using List.all_eq_true.mp sub i hi) h
theorem s_setLc {i : Nat} {y : Str} {py spos : Pos} (c : Ctx G X W) (hy : X.N[i]? = some y) (hyl : X.env.scope.names.lookup y = some .local) (hsw : swapsWith (.ListComp elt [⟨tg, iter, ifs, 0⟩] scope pos) (some (.Name y py)) spos.line X.env = pure true)
    (hi : PI X tg iter (tI G W C t)) (ok : blkC X.N X.env.scope scope own = true) (hv : own.map (·.2) = vs) (sub : (g.slots.all fun i => vs.contains i) = true)
    (hg : ∀ (s : Shared) (H : Hp) (L : Addr) (cl : List (Str × Addr)) (fp : List Addr), PG (X.blk s H scope (compEnvC scope cl L X.env) fp) tg (tG G g))
    (ht : ∀ (s : Shared) (H : Hp) (L : Addr) (cl : List (Str × Addr)) (fp : List Addr), PTs (X.blk s H scope (compEnvC scope cl L X.env) fp) ifs (tT G WF C tc))
    (he : ∀ (s : Shared) (H : Hp) (L : Addr) (cl : List (Str × Addr)) (fp : List Addr), PE (X.blk s H scope (compEnvC scope cl L X.env) fp) elt (tE G WF C e)) (hs : ∀ x, foldedSetIterable iter X.env x = pure x := by intro _; rfl) :
    PS X (.Assign [.Name y py] (.ListComp elt [⟨tg, iter, ifs, 0⟩] scope pos) spos) (tS G W C (sSet (.nm i) (eLc e g t tc vs))) := by
  subst hv
  refine PS.weak (ps_setLc c.calm c.hN hy hyl hsw hi (blkOk_by ok) hg ht he hs) fun D σ H ⟨m, S, ls, s, r, p⟩ => lc_fin (fun i hi => by simpa using List.all_eq_true.mp sub i hi) ⟨m, S, ls, s, r, post.imp (lift_post (Ra := RepV G) r p) fun x H1 ⟨m1, S1, a, _, s1, r1, ra, p1⟩ => ?_⟩
  unfold asg at p1
  split at p1
  · rename_i ls' e
    split at e
    · cases e
      exact p1 m1 H1 _ Ext.refl s1 (r1.set ra)
    · cases e
  · exact p1.elim
variable {tg1 iter1 : Expr} {ifs1 : List Expr} {g1 : Tg} {t1 : MI} {tc1 : MT} {vs1 : List Nat}
end
end
end MP
namespace MP
open PySem PySem.Spec PyProof.Rows L2
structure FnG (P : Program) (w : World) (K : PySem.W.Frag) (mg : Str → Option Value) (base : Heap) (Cx0 : CXT) (k : Nat) (f : Addr) (fd : FuncData) (ps : List Str) (sp : Sp) : Prop where
  len : ∀ vs H Q E, sp vs H Q E → vs.length = ps.length
  go : ∀ (A : Around) (out : List Env) (s : Shared) (H : Hp) (ar : Args) (us : List Value) (vs : List V) (Q : VK) (E : XK), Room k A → A.guards = some [] → Env0 P w K mg base A out s H → BindsTo s fd ar (ps.zip us) → Vals vs us → sp vs H Q E →
    codeAny (model P w) A (.call (.ref f) ar) (CR Cx0 out P w H s Q E) s
theorem FnG.of {P : Program} {w : World} {K : PySem.W.Frag} {mg : Str → Option Value} {base : Heap} {Cx0 : CXT} {k : Nat} {f : Addr} {fd : FuncData} {ps : List Str} {sp : Sp} (F : FnOk P w K mg base Cx0 k f fd ps sp) : FnG P w K mg base Cx0 k f fd ps sp :=
  ⟨F.len, fun A out s H ar us vs Q E hr _ => F.run A out s H ar us vs Q E hr⟩
def CdOf (K : PySem.W.Frag) (f : Addr) (cdv : Value) : Prop := ∃ (oo : Obj) (fd : FuncData), K.lookup f = some oo ∧ oo.data = .func fd ∧ fd.code = cdv
theorem FnG.def_ {Cx0 : CXT} {P : Program} {w : World} {K : PySem.W.Frag} {mg : Str → Option Value} {base : Heap} {x qual : Str} {params : Arguments} {body : List Stmt} {scope : Scope} {dvs : List V} {kws : List (Str × V)} {f : Addr} {fd : FuncData} {N ps : List Str} {k : Nat} {sp : Sp}
    (F : FunD K x qual params body scope dvs kws f fd) (S : FnScope N ps scope) (len : ∀ vs H Q E, sp vs H Q E → vs.length = ps.length)
    (hbody : ∀ (cdv : Value) (A : Around) (out : List Env) (s : Shared) (H : Hp) (vs : List V) (Q : VK) (E : XK), Room k (A.deeper (envOfC qual scope s.heap.objs.size f cdv)) → A.guards = some [] → CdOf K f cdv → sp vs H Q E →
      ∃ t, PSs (cxOf Cx0 P w K mg base N qual scope f cdv A out s H E) body t ∧ t { nx := fun _ H' => Q .non H', rt := Q } (start N vs) H) : FnG P w K mg base Cx0 (k + 1) f fd ps sp := by
  obtain ⟨oc, od, dV, kV, doc, pm, an, cdv, ct, osl, rfl, lk, hcd, _, _⟩ := F.ex
  refine ⟨len, fun A out s H ar us vs Q E hr hgd e0 hb r hsp => ?_⟩
  have hlen := len _ _ _ _ hsp
  have kin : K.In s.heap := e0.mod.kin.keeps fun c o e => (e0.bs c o e).1
  have nolim : s.heap.NoLimit := e0.mod.nolimit.keeps fun c o e => (e0.bs c o e).1
  have kinds : ∀ z ∈ ps.zip us, scope.names.lookup z.1 = some .local ∨ (scope.names.lookup z.1 = some .cell ∧ ((cellsFrom (s.heap.objs.size + 1) scope.names []).lookup z.1).isSome = true) := fun ⟨a, v⟩ hz => by
    rcases S.par a (List.of_mem_zip hz).1 with q | q
    · exact .inl q
    · exact .inr ⟨q, PySem.W.cellsFrom_some _ _ _ (.inl q)⟩
  refine codeAny_call_function hr.depth (kin _ _ lk) rfl S.co S.gen rfl (PySem.W.codeRec_of kin hcd) (hb _ _ _ _ ?_)
  refine wpAny_newFunctionEnv_cells S.kind kinds fun env he s1 y => ?_
  subst he
  refine ⟨nolim.keeps y.toInCall.keep, codeAny_func ?_⟩
  obtain ⟨t, ht, hq⟩ := hbody cdv A out s H vs Q E (hr.deeper _) hgd ⟨_, _, lk, rfl, rfl⟩ hsp
  have J0 : Inv (cxOf Cx0 P w K mg base N qual scope f cdv A out s H E) [] (start N vs) H s1 := inv_start S hr.hd e0 hlen r y
  refine wpAny_mono (ht.run [] s1 (start N vs) H _ J0 hq) (fun fl s' hs => ?_) fun e s' hs => hs
  cases fl with
  | ret u =>
    obtain ⟨v, σ', H', J, rv, q⟩ := hs
    exact ⟨v, H', J.os, J.bare, J.base, J.hok, rv, q⟩
  | next =>
    obtain ⟨σ', H', J, q⟩ := hs
    exact ⟨V.non, H', J.os, J.bare, J.base, J.hok, (show RelV V.non Value.none from rfl), q⟩
  | brk =>
    obtain ⟨_, _, _, z⟩ := hs
    exact z.elim
  | cont =>
    obtain ⟨_, _, _, z⟩ := hs
    exact z.elim
section
variable {X : Cx} {Cx0 : CXT} {k : Nat} {f : Addr} {fd : FuncData} {ps : List Str} {sp : Sp} {ds : List Value} {dvs : List V} {E : L2.St → XK} {e : Expr} {es : List Expr} {x : Str} {p pos : Pos} {t : TA}
theorem run_fnG {pins : List (Addr × Obj)} {σ : L2.St} {H : Hp} {s : Shared} {Q : VK} {us : List Value} {vs : List V} (F : FnG X.prog X.w X.K X.mg X.base Cx0 k f fd ps sp) (hr : Room k X.A) (gd : X.A.guards = some []) (hb : Binds X.K fd ps ds) (hd : Vals dvs ds) (hx : PassesAt Cx0 X σ (E σ))
    (I : Inv X pins σ H s) (r : Vals vs us) (h : sp (vs ++ dvs) H Q (E σ)) : wpAny (model X.prog X.w) X.A (call (.ref f) us) (EP X pins σ Q) X.xe s := by
  have rr : Vals (vs ++ dvs) (us ++ ds) := r.append hd
  have len : (us ++ ds).length = ps.length := by rw [← rr.length]; exact F.len _ _ _ _ h
  refine wpAny_call (codeAny_mono (F.go X.A X.stack s H ⟨us, []⟩ (us ++ ds) (vs ++ dvs) Q (E σ) hr gd I.env0 (hb s us I.kIn len) rr h) fun res s' z => ?_)
  cases res with
  | error er => exact hx pins H s er s' I z
  | ok fl =>
    cases fl with
    | ret u => exact I.after z
    | next => exact z.elim
    | brk => exact z.elim
    | cont => exact z.elim
theorem pe_callG (F : FnG X.prog X.w X.K X.mg X.base Cx0 k f fd ps sp) (hr : Room k X.A) (gd : X.A.guards = some []) (hg : Gl X x) (hm : X.mg x = some (.ref f)) (hk : PySem.W.keepIn X.K (.ref f) = true) (hb : Binds X.K fd ps ds) (hd : Vals dvs ds) (hx : ∀ σ, PassesAt Cx0 X σ (E σ))
    (ha : PA X (e :: es) t) (hdb : (x == ("__debug__" : Str)) = false := by decide) (he : starEach (e :: es) X.env = (false, eval e X.env) :: starEach es X.env := by rfl) (hpl : (backTo pos (starEach es X.env)).any (·.1) = false := by rfl) :
    PE X (.Call (.Name x p) (e :: es) [] pos) (tCallSD sp dvs E t) := by
  refine ⟨fun pins s σ H Q I h => ?_⟩
  refine wpAny_Call_Name_kw (ld_glob I hg hm ?_ hdb)
  refine PySem.W.callWith_K (h₀ := X.base) I.ok.mod.kin hk (thn (ha.run pos pins s σ H _ I h) fun us s1 ⟨vs, H1, I1, rv, z⟩ => ⟨I1.kIn, ?_⟩) he hpl
  exact run_fnG F hr gd hb hd (hx σ) I1 rv z
end
theorem law_core {P : Program} {w : World} {K : PySem.W.Frag} {mg mb : Str → Option Value} {Cx0 : CXT} {k : Nat} {fa a : Addr} {fd : FuncData} {x : Str} {sp : Sp} {t : Shared} {vs : List Value}
    (KX : K.In t.heap) (hns : t.heap.Ns mainGlobals mg) (hb : t.heap.Ns builtinsNs mb) (hbb : ∀ x : Str, x ≠ "__name__" → mb x = bootBuiltins x) (hlim : t.heap.NoLimit) (hg : t.gens = #[])
    (ha : t.heap.get? a = some { cls := .type "list", data := .seq vs.toArray }) (hr : Room k callerA)
    (F : ∀ base : Heap, K.In base → base.Ns mainGlobals mg → FnG P w K mg base Cx0 k fa fd [x] sp) (hbind : ∀ (s : Shared) (u : Value), BindsTo s fd ⟨[u], []⟩ [(x, u)])
    (hCX : ∀ H e s', Cx0 [] H t (fun _ _ _ => False) e s' → False) (H : Hp) (hO : Only H) (hsp : sp [.ref a] H (fun v _ => v = .bl true) fun _ _ _ => False) (hok : HOk P w H t.heap) (hA : ∀ b, H b ≠ none → b = a) (hK : H a ≠ none → K.lookup a = none) :
    codeAny (model P w) callerA (.call (.ref fa) ⟨[.ref a], []⟩) (fun r s' => r = .ok (.ret (.bool true)) ∧ OldK t.heap s'.heap ∧ s'.os = t.os ∧ AllBare s'.gens) t := by
  have free : ∀ {c : Addr}, c ≠ a → H c = none := fun {c} hc => by
    cases q : H c with
    | none => rfl
    | some u => exact absurd (hA c (by rw [q]; simp)) hc
  have noA : ∀ {c : Addr} {o : Obj} {es : Array DictEntry} {ep : Nat}, t.heap.get? c = some o → o.data = .dict es ep → H c = none := fun {c o es ep} e d => free fun z => by
    subst z
    rw [ha] at e
    cases e
    cases (show Data.seq vs.toArray _ = Data.dict es ep from d)
  have nsK : ∀ {c : Addr} {g : Str → Option Value}, t.heap.Ns c g → (hidT t.heap H).Ns c g := fun {c g} ⟨o, es, ep, e, d, r⟩ => ⟨o, es, ep, hidT_get e (noA e d), d, r⟩
  have kin : K.In (hidT t.heap H) := fun c o e => hidT_get (KX c o e) (by
    by_cases hc : c = a
    · subst hc
      cases q : H c with
      | none => rfl
      | some u =>
        rw [hK (by rw [q]; simp)] at e
        cases e
    · exact free hc)
  have md : Mod K mg (hidT t.heap H) := ⟨kin, nsK hns, ⟨mb, nsK hb, hbb⟩, let ⟨mc, h1, h2⟩ := hlim; ⟨mc, nsK h1, h2⟩⟩
  have e0 : Env0 P w K mg (hidT t.heap H) callerA [] t H := ⟨rfl, md, fun c o e => of_hidT e, Nat.le_of_eq (hidT_size _ _), trivial, fun c hc => absurd (show c ∈ ([] : List Addr) from hc) (by simp), hok, .of_eq hg⟩
  refine codeAny_mono ((F _ kin (nsK hns)).go callerA [] t H ⟨[.ref a], []⟩ [.ref a] [.ref a] _ _ hr rfl e0 (hbind t (.ref a)) (.cons rfl .nil) hsp) fun res s' h => ?_
  cases res with
  | error e => exact (hCX H e s' h).elim
  | ok fl =>
    cases fl with
    | next => exact h.elim
    | brk => exact h.elim
    | cont => exact h.elim
    | ret u =>
      obtain ⟨v, H', os, bare, un, hok', r', q⟩ := h
      cases (show v = .bl true from q)
      cases (show u = Value.bool true from r')
      refine ⟨rfl, OldK.of_keep fun c o e => ?_, os, bare⟩
      cases q : H c with
      | none => exact un.keep c o e q (fun z => absurd (show c ∈ ([] : List Addr) from z) (by simp)) (by simp)
      | some u =>
        rcases hO c with z | ⟨ob, xs, z⟩
        · rw [q] at z; cases z
        · obtain ⟨e1, _⟩ := hok c _ z
          obtain ⟨e2, _⟩ := hok' c _ (un.frzs c ob _ z)
          rw [e] at e1
          cases e1
          exact e2
theorem law_callG {P : Program} {w : World} {K : PySem.W.Frag} {mg mb : Str → Option Value} {Cx0 : CXT} {k : Nat} {fa a : Addr} {fd : FuncData} {x : Str} {sp : Sp} {t : Shared} {vs : List Value} {ns : List Int}
    (KX : K.In t.heap) (hns : t.heap.Ns mainGlobals mg) (hb : t.heap.Ns builtinsNs mb) (hbb : ∀ x : Str, x ≠ "__name__" → mb x = bootBuiltins x) (hlim : t.heap.NoLimit) (hg : t.gens = #[])
    (ha : t.heap.get? a = some { cls := .type "list", data := .seq vs.toArray }) (hi : IntsAre vs ns) (hl : ns.length ≤ sizeLine) (hr : Room k callerA)
    (F : ∀ base : Heap, K.In base → base.Ns mainGlobals mg → FnG P w K mg base Cx0 k fa fd [x] sp) (hbind : ∀ (s : Shared) (u : Value), BindsTo s fd ⟨[u], []⟩ [(x, u)])
    (hsp : ∀ H : Hp, Only H → SqL K H a (ns.map V.int) → sp [.ref a] H (fun v _ => v = .bl true) fun _ _ _ => False) (hCX : ∀ H e s', Cx0 [] H t (fun _ _ _ => False) e s' → False) :
    codeAny (model P w) callerA (.call (.ref fa) ⟨[.ref a], []⟩) (fun r s' => r = .ok (.ret (.bool true)) ∧ OldK t.heap s'.heap ∧ s'.os = t.os ∧ AllBare s'.gens) t := by
  have rv := vals_ints hi
  have lenV := hi.length
  cases hk : K.lookup a with
  | some o =>
    have e := KX a o hk
    rw [ha] at e
    cases e
    have sq : SqL K (fun _ => none) a (ns.map V.int) := .inr ⟨_, vs.toArray, _, hk, rfl, rfl, rfl, by rw [List.size_toArray, lenV]; exact hl, by simpa using rv⟩
    exact law_core KX hns hb hbb hlim hg ha hr F hbind hCX (fun _ => none) (fun _ => .inl rfl) (hsp _ (fun _ => .inl rfl) sq) (fun c u z => by cases (show (none : Option HO) = some u from z)) (fun c z => absurd rfl z) fun z => absurd rfl z
  | none =>
    let Hs : Hp := fun c => if c = a then some (.frz { cls := .type "list", data := .seq vs.toArray } (.lst (ns.map V.int))) else none
    have only : Only Hs := fun c => by
      by_cases hc : c = a
      · exact .inr ⟨_, _, if_pos hc⟩
      · exact .inl (if_neg hc)
    have sq : SqL K Hs a (ns.map V.int) := .inl (.inr ⟨{ cls := .type "list", data := .seq vs.toArray }, if_pos rfl⟩)
    refine law_core KX hns hb hbb hlim hg ha hr F hbind hCX Hs only (hsp _ only sq) (fun c u z => ?_) (fun c z => ?_) fun _ => hk
    · by_cases hc : c = a
      · have y := (if_pos hc).symm.trans z
        cases y
        subst hc
        exact ⟨ha, by rw [List.length_map]; exact hl, vs, _, rv, ha⟩
      · have y := (if_neg hc).symm.trans z
        cases y
    · by_cases hc : c = a
      · exact hc
      · exact absurd (if_neg hc) z
end MP
namespace MP
open PySem PySem.Spec PyProof.Rows L2
abbrev spM (G : Gx) (f : List D → M D) (n : Nat) : Sp := fun vs H Q E => vs.length = n ∧ ∃ m S as, Sim G m S H ∧ RepVs G m H vs as ∧ post G (fun c d _ H => E c d H) (RepV G) [] m H Q (f as S)
structure Cal (G : Gx) (P : Program) (w : World) (K : PySem.W.Frag) (mg : Str → Option Value) (base : Heap) (C : Cfg) (k : Nat) (f : Addr) (i : Nat) (dd : List D) : Prop where
  ex : ∃ (fd : FuncData) (ps : List Str) (ds : List Value) (dvs : List V), FnG P w K mg base (L2.CX P w) k f fd ps (spM G (C.call i) ps.length) ∧ Binds K fd ps ds ∧ Vals dvs ds ∧
    (∀ m H, RepVs G m H dvs dd) ∧ PySem.W.keepIn K (.ref f) = true ∧ ∀ as S, as.length ≠ ps.length → C.call i as S = .bad
section
variable {G : Gx} {X : Cx} {W : WX} {C : Cfg} {k : Nat} {f : Addr} {i : Nat} {dd : List D} {pos p apos : Pos} {x m : Str} {e o : Expr} {es : List Expr} {a : MA} {eo : ME}
theorem post_w {σ mm H} {Q : VK} {r : R D} (h : post G W (RepV G) σ mm H Q r) : post G (fun c d _ H => WE W σ c d H) (RepV G) [] mm H Q r := by
  cases r with
  | ok a S' => exact h
  | ex c fs S' => exact h
  | bad => exact h
theorem sp_of {fd : FuncData} {ps : List Str} {ds : List Value} {dvs vs : List V} {σ H mm} {S : Store} {as : List D} {Q : VK} (hn : ∀ as S, as.length ≠ ps.length → C.call i as S = .bad) (rd : ∀ m H, RepVs G m H dvs dd) (s : Sim G mm S H) (r : RepVs G mm H vs as)
    (p : post G W (RepV G) σ mm H Q (C.call i (as ++ dd) S)) : spM G (C.call i) ps.length (vs ++ dvs) H Q (WE W σ) := by
  have rr : RepVs G mm H (vs ++ dvs) (as ++ dd) := r.append (rd mm H)
  refine ⟨?_, mm, S, as ++ dd, s, rr, post_w p⟩
  rw [rr.length]
  by_cases h : (as ++ dd).length = ps.length
  · exact h
  · rw [hn _ S h] at p
    exact p.elim
theorem call_fin {fd : FuncData} {ps : List Str} {ds : List Value} {dvs : List V} {σ H} {Q : VK} (hn : ∀ as S, as.length ≠ ps.length → C.call i as S = .bad) (rd : ∀ m H, RepVs G m H dvs dd)
    (h : tE G W C (eCall i a dd) σ H Q) : tA G W C a σ H fun vs H1 => spM G (C.call i) ps.length (vs ++ dvs) H1 Q (WE W σ) := by
  have h1 := tX.bind (Ra := RepVs G) (k := fun C _ xs => C.call i (xs ++ dd)) h
  refine tX.imp h1 fun vs H1 z => ?_
  obtain ⟨mm, S, ls, as, s, r, ra, q⟩ := z
  exact sp_of (fd := fd) (ds := ds) hn rd s ra q
theorem r_call (c : Ctx G X W) (q : Cal G X.prog X.w X.K X.mg X.base C k f i dd) (hr : Room k X.A) (hg : Gl X x) (hm : X.mg x = some (.ref f)) (ha : PA X (e :: es) (tA G W C a))
    (hdb : (x == ("__debug__" : Str)) = false := by decide) (he : starEach (e :: es) X.env = (false, eval e X.env) :: starEach es X.env := by rfl) (hpl : (backTo pos (starEach es X.env)).any (·.1) = false := by rfl) :
    PE X (.Call (.Name x p) (e :: es) [] pos) (tE G W C (eCall i a dd)) := by
  obtain ⟨fd, ps, ds, dvs, F, hb, hd, rd, hk, hn⟩ := q.ex
  exact PE.weak (pe_callG F hr c.gd hg hm hk hb hd (passAt c.tk) ha hdb he hpl) fun σ H Q h => call_fin (fd := fd) (ds := ds) hn rd h
structure MtC (G : Gx) (P : Program) (w : World) (K : PySem.W.Frag) (mg : Str → Option Value) (base : Heap) (C : Cfg) (k : Nat) (m : Str) (c i : Nat) (dd : List D) : Prop where
  cls : Cls K (G.ne.cls c)
  ex : ∃ g, Meth K (G.ne.cls c) m g ∧ Cal G P w K mg base C k g i dd
theorem find_mem {tbl : List (Nat × Nat)} {c i : Nat} (h : (tbl.find? fun p => p.1 == c).map (·.2) = some i) : (c, i) ∈ tbl := by
  obtain ⟨⟨c', i'⟩, h1, h2⟩ := Option.map_eq_some_iff.mp h
  have h3 := List.find?_some h1
  have h4 : c' = c := by simpa using h3
  subst h4
  cases h2
  exact List.mem_of_find?_eq_some h1
theorem lookup_no {m : List Addr} {H : Hp} {n : Str} (hno : ∀ f, G.ne.fld f ≠ n) : ∀ {fv : List (Str × V)} {fs : Fs}, RepF G m H fv fs → fv.lookup n = none
  | _, _, .nil => rfl
  | _, _, .cons (f := f) h hs => by
    have e : (n == G.ne.fld f) = false := beq_eq_false_iff_ne.mpr fun z => hno f z.symm
    simp only [List.lookup, e]
    exact lookup_no hno hs
theorem meth_fin {tbl : List (Nat × Nat)} {a : MA} {σ H} {Q : VK} (h : tE G W C (eMeth tbl eo a dd) σ H Q) :
    tE G W C eo σ H fun x H1 => ∃ mm S ls n c fs j p, Sim G mm S H1 ∧ SlotR G mm H1 ls σ ∧ S.get n = some (.ins c fs) ∧ (c, j) ∈ tbl ∧ x = .ref p ∧ mm[n]? = some p ∧ post G W (RepV G) σ mm H1 Q (((a C ls).bind fun xs => C.call j (.ref n :: (xs ++ dd))) S) := by
  have h1 := tX.bind (Ra := RepV G) (k := fun C σ x S => match methOf S tbl x with
    | some f => ((a C σ).bind fun xs => C.call f (x :: (xs ++ dd))) S
    | none => .bad) h
  refine tX.imp h1 fun x H1 z => ?_
  obtain ⟨mm, S, ls, d, s, r, rd, p⟩ := z
  simp only at p
  cases e : methOf S tbl d with
  | none => rw [e] at p; exact p.elim
  | some j =>
    rw [e] at p
    unfold methOf at e
    split at e
    · rename_i n
      split at e
      · rename_i c fs hg
        obtain ⟨q, rfl, hq⟩ := rd.ref_
        exact ⟨mm, S, ls, n, c, fs, j, q, s, r, hg, find_mem e, rfl, hq, p⟩
      · cases e
    · cases e
theorem r_meth {pl : Sem Bool} {tbl : List (Nat × Nat)} (c : Ctx G X W) (hno : ∀ f, G.ne.fld f ≠ m) (ht : ∀ p ∈ tbl, MtC G X.prog X.w X.K X.mg X.base C k m p.1 p.2 dd) (hr : Room k X.A) (he : PE X o (tE G W C eo)) (ha : PA X (e :: es) (tA G W C a))
    (hst : starEach (e :: es) X.env = (false, eval e X.env) :: starEach es X.env := by rfl) (hpl : (backTo pos (starEach es X.env)).any (·.1) = false := by rfl)
    (hsh : eval (.Call (.Attribute o m apos) (e :: es) [] pos) X.env = (do
      let ov ← eval o X.env
      standAt apos.atName
      let (g, first) ← holding [ov] (getMethod ov m pl)
      callWith pos g first (backTo pos (starEach (e :: es) X.env)) (backToKw pos (keywordEach [] X.env))) := by rfl) :
    PE X (.Call (.Attribute o m apos) (e :: es) [] pos) (tE G W C (eMeth tbl eo a dd)) := by
  refine ⟨fun pins s σ H Q I h => ?_⟩
  refine PySem.W.methodCall_KW (pl := pl) (thn (he.run pins s σ H _ I (meth_fin h)) fun u s1 ⟨x, H1, I1, rx, mm, S, ls, n, cc, fs, j, q, sim, r, hg, hin, ex, hq, p⟩ => ?_) hsh
  subst ex
  obtain rfl : u = Value.ref q := rx
  obtain ⟨q', dx, fv, e1, e2, rf⟩ := sim.ins hg
  rw [hq] at e1
  cases e1
  have mt := ht _ hin
  obtain ⟨g, hmeth, cal⟩ := mt.ex
  obtain ⟨fd, ps, ds, dvs, F, hb, hd, rd, hk, hn⟩ := cal.ex
  refine getmeth_ok I1 e2 mt.cls hmeth (lookup_no hno rf) ?_
  have z : tE G W C (fun C σ => (a C σ).bind fun xs => C.call j (.ref n :: (xs ++ dd))) σ H1 Q := ⟨mm, S, ls, sim, r, p⟩
  have z1 := tX.bind (Ra := RepVs G) (k := fun C _ xs => C.call j (.ref n :: (xs ++ dd))) z
  -- the receiver stays where it is
  have z2 : tA G W C a σ H1 fun vs H2 => spM G (C.call j) ps.length ((.ref q :: vs) ++ dvs) H2 Q (WE W σ) := by
    obtain ⟨m3, S3, ls3, s3, r3, p3⟩ := (⟨mm, S, ls, sim, r, rfl, rfl, (show post G W (RepVs G) σ mm H1 (fun vs H2 => ∃ m2 S2 as, Ext G mm H1 m2 H2 ∧ Sim G m2 S2 H2 ∧ RepVs G m2 H2 vs as ∧ post G W (RepV G) σ m2 H2 Q (C.call j (.ref n :: (as ++ dd)) S2)) (a C ls S) from by
      unfold M.bind at p
      cases w : a C ls S with
      | bad => simp only [w] at p; exact p
      | ex c fs S' => simp only [w] at p; exact p
      | ok as S' =>
        simp only [w] at p
        exact fun m' H' b x s' rb => ⟨m', S', as, x, s', rb, post.ext x p⟩)⟩ : ∃ m3 S3 ls3, Sim G m3 S3 H1 ∧ SlotR G m3 H1 ls3 σ ∧ m3 = mm ∧ S3 = S ∧ post G W (RepVs G) σ m3 H1 _ (a C ls3 S3)) |> fun ⟨m3, S3, ls3, s3, r3, e1, e2, p3⟩ => (⟨m3, S3, ls3, s3, r3, e1, e2, p3⟩ : ∃ m3 S3 ls3, Sim G m3 S3 H1 ∧ SlotR G m3 H1 ls3 σ ∧ m3 = mm ∧ S3 = S ∧ post G W (RepVs G) σ m3 H1 _ (a C ls3 S3))
    obtain ⟨rfl, rfl, p3⟩ := p3
    refine ⟨_, _, ls3, s3, r3, post.imp p3 fun vs H2 ⟨m2, S2, as, x, s2, ra, p2⟩ => ?_⟩
    exact sp_of (fd := fd) (ds := ds) (as := .ref n :: as) hn rd s2 (.cons (.ref (x.pre _ _ hq)) ra) p2
  refine PySem.W.callWith_K (first := [.ref q]) (h₀ := X.base) I1.ok.mod.kin hmeth.kp (thn (ha.run pos pins s1 σ H1 _ I1 z2) fun us s2 ⟨vs, H2, I2, rv, q2⟩ => ⟨I2.kIn, ?_⟩) hst hpl
  exact run_fnG (us := .ref q :: us) (vs := .ref q :: vs) F hr c.gd hb hd (passAt c.tk σ) I2 (.cons rfl rv) q2
theorem r_meth0 {pl : Sem Bool} {tbl : List (Nat × Nat)} (c : Ctx G X W) (hno : ∀ f, G.ne.fld f ≠ m) (ht : ∀ p ∈ tbl, MtC G X.prog X.w X.K X.mg X.base C k m p.1 p.2 dd) (hr : Room k X.A) (he : PE X o (tE G W C eo))
    (hsh : eval (.Call (.Attribute o m apos) [] [] pos) X.env = (do
      let ov ← eval o X.env
      standAt apos.atName
      let (g, first) ← holding [ov] (getMethod ov m pl)
      callWith pos g first (backTo pos (starEach [] X.env)) (backToKw pos (keywordEach [] X.env))) := by rfl) :
    PE X (.Call (.Attribute o m apos) [] [] pos) (tE G W C (eMeth tbl eo aNil dd)) := by
  refine ⟨fun pins s σ H Q I h => ?_⟩
  refine PySem.W.methodCall_KW (pl := pl) (thn (he.run pins s σ H _ I (meth_fin h)) fun u s1 ⟨x, H1, I1, rx, mm, S, ls, n, cc, fs, j, q, sim, r, hg, hin, ex, hq, p⟩ => ?_) hsh
  subst ex
  obtain rfl : u = Value.ref q := rx
  obtain ⟨q', dx, fv, e1, e2, rf⟩ := sim.ins hg
  rw [hq] at e1
  cases e1
  have mt := ht _ hin
  obtain ⟨g, hmeth, cal⟩ := mt.ex
  obtain ⟨fd, ps, ds, dvs, F, hb, hd, rd, hk, hn⟩ := cal.ex
  refine getmeth_ok I1 e2 mt.cls hmeth (lookup_no hno rf) ?_
  have q2 : spM G (C.call j) ps.length ([.ref q] ++ dvs) H1 Q (WE W σ) := sp_of (fd := fd) (ds := ds) (as := [.ref n]) hn rd sim (.cons (.ref hq) .nil) p
  exact PySem.W.callWith_K0 (first := [.ref q]) I1.kIn hmeth.kp (run_fnG (us := [.ref q]) (vs := [.ref q]) F hr c.gd hb hd (passAt c.tk σ) I1 (.cons rfl .nil) q2)
end
end MP
namespace MP
open PySem PySem.Spec PyProof.Rows L2
section
variable {G : Gx} {X : Cx} {W : WX} {C : Cfg} {k : Nat} {f : Addr} {i : Nat} {dd : List D} {pos p apos : Pos} {x : Str} {e o : Expr} {es : List Expr} {a : MA} {eo ev : ME}
structure FldC (G : Gx) (K : PySem.W.Frag) (c f : Nat) : Prop where
  cls : Cls K (G.ne.cls c)
  no : NoAttr K (G.ne.cls c) (G.ne.fld f)
theorem fld_fin {cs : List Nat} {f : Nat} {x : V} {H : Hp} {Q : VK} (hc : ∀ c ∈ cs, FldC G X.K c f) (h : rP1 G (RepV G) (opFld cs f) x H Q) :
    ∃ a C dx fs v, x = .ref a ∧ H a = some (.ins C dx fs) ∧ Cls X.K C ∧ NoAttr X.K C (G.ne.fld f) ∧ fs.lookup (G.ne.fld f) = some v ∧ Q v H := by
  obtain ⟨m, S, d, s, r, p⟩ := h
  unfold opFld at p
  split at p
  · rename_i n
    split at p
    · rename_i c fs hg
      split at p
      · rename_i hin
        have q := hc c (by simpa using hin)
        split at p
        · rename_i d hd
          obtain ⟨pa, rfl, hp⟩ := r.ref_
          obtain ⟨pa', dx, fv, e1, e2, rf⟩ := s.ins hg
          rw [hp] at e1
          cases e1
          obtain ⟨v, h1, h2⟩ := rf.lookup hd
          exact ⟨pa, _, dx, fv, v, rfl, e2, q.cls, q.no, h1, fin_val s h2 p⟩
        · exact p.elim
      · exact p.elim
    · exact p.elim
  · exact p.elim
theorem r_fld {cs : List Nat} {f : Nat} {n : Str} (hc : ∀ c ∈ cs, FldC G X.K c f) (hn : G.ne.fld f = n) (he : PE X o (tE G W C eo)) (hb : attributeBase o n X.env (eval o X.env) = eval o X.env := by rfl) : PE X (.Attribute o n apos) (tE G W C (eFld cs f eo)) := by
  subst hn
  exact PE.weak (pe_fld he hb) fun σ H Q h => tX.imp (w1 (Rp := RepV G) (f := opFld cs f) h) fun x H1 z => fld_fin hc z
theorem put_fin {α : Type} {cs : List Nat} {f : Nat} {m S H} {x y : V} {dx dy : D} {ls : Slots} {σ : L2.St} {k : Unit → Store → SR} {D : Ends} (hc : ∀ c ∈ cs, FldC G X.K c f) (s : Sim G m S H) (r : SlotR G m H ls σ) (rx : RepV G m H x dx) (ry : RepV G m H y dy)
    (h : postS G W m H D (lift (M.of (putFld cs f dx dy)) ls S fun _ S3 => .nx ls S3)) :
    ∃ a C d fs, x = .ref a ∧ H a = some (.ins C d fs) ∧ Cls X.K C ∧ NoAttr X.K C (G.ne.fld f) ∧ fs.length < 1000 ∧ D.nx σ (upd H a (.ins C d (putF (G.ne.fld f) y fs))) := by
  unfold lift M.of putFld at h
  cases dx with
  | ref n =>
    simp only at h
    cases q : S.get n with
    | none => rw [q] at h; exact h.elim
    | some ob =>
      rw [q] at h
      cases ob with
      | ins c fs =>
        simp only at h
        by_cases hz3 : (cs.contains c && decide (fs.length < 900)) = true
        · rw [if_pos hz3] at h
          simp only at h
          rw [Bool.and_eq_true] at hz3
          have hq := hc c (by simpa using hz3.1)
          have hl : fs.length < 900 := of_decide_eq_true hz3.2
          obtain ⟨pa, rfl, hp⟩ := rx.ref_
          obtain ⟨pa', d, fv, e1, e2, rf⟩ := s.ins q
          rw [hp] at e1
          cases e1
          refine ⟨pa, _, d, fv, rfl, e2, hq.cls, hq.no, by rw [rf.length]; omega, ?_⟩
          have mu : Mut1 (H pa) := by rw [e2]; trivial
          have ex : Ext G m H m (upd H pa (.ins (G.ne.cls c) d (putF (G.ne.fld f) y fv))) := Ext.mut mu
          exact h m _ σ ex (sim_set s q rfl rfl hp mu (.ins upd_same ((rf.mono ex).put (ry.mono ex)))) (r.mono ex)
        · rw [if_neg hz3] at h
          exact h.elim
      | lst xs => exact h.elim
      | rol xs => exact h.elim
      | dct kvs => exact h.elim
      | dtu kvs => exact h.elim
      | fdt kvs => exact h.elim
      | fdk kvs => exact h.elim
  | _ => exact h.elim
theorem s_fld {cs : List Nat} {f : Nat} {n : Str} {value : Expr} {p' : Pos} (hc : ∀ c ∈ cs, FldC G X.K c f) (hn : G.ne.fld f = n) (ho : PE X o (tE G W C eo)) (hv : PE X value (tE G W C ev)) (hs : swapsWith value (some (.Attribute o n p')) pos.line X.env = pure false := by rfl) :
    PS X (.Assign [.Attribute o n p'] value pos) (tS G W C (MP.sFld cs f eo ev)) := by
  subst hn
  refine PS.weak (ps_fld ho hv hs) fun D σ H ⟨m, S, ls, s, r, p⟩ => ?_
  refine ⟨m, S, ls, s, r, post.imp (lift_post (Ra := RepV G) r p) fun y H1 ⟨m1, S1, dy, x1, s1, r1, ry, p1⟩ => ?_⟩
  refine ⟨m1, S1, ls, s1, r1, post.imp (lift_post (Ra := RepV G) r1 p1) fun x H2 ⟨m2, S2, dx, x2, s2, r2, rx, p2⟩ => ?_⟩
  exact put_fin (α := Unit) (k := fun _ S3 => .nx ls S3) hc s2 r2 rx (ry.mono x2) p2
structure MkC (G : Gx) (P : Program) (w : World) (K : PySem.W.Frag) (mg : Str → Option Value) (base : Heap) (C : Cfg) (k : Nat) (c i : Nat) (dd : List D) : Prop where
  ex : ∃ g, Mk K (G.ne.cls c) g ∧ Cal G P w K mg base C k g i dd
theorem new_ins {m : List Addr} {H : Hp} {S : Store} {c : Nat} {x dx : Addr} (s : Sim G m S H) (hx : H x = none) (hd : H dx = none) (ne : dx ≠ x) :
    Ext G m H (m ++ [x]) (upd (upd H dx (.own x)) x (.ins (G.ne.cls c) dx [])) ∧ Sim G (m ++ [x]) (S.push (.ins c [])) (upd (upd H dx (.own x)) x (.ins (G.ne.cls c) dx [])) := by
  have hx' : upd H dx (.own x) x = none := by rw [upd_ne (Ne.symm ne)]; exact hx
  exact ⟨(Ext.new hd).trans (ext_push hx'), sim_new (sim_same s hd) hx' (.ins upd_same .nil)⟩
theorem make_guards (A : Around) (c : Addr) (us : List Value) : (A.under (.builtin "type.__call__" ⟨.ref c :: us, []⟩)).guards = A.guards := by
  first | rfl | simp [Around.under, Code.guards, Code.isGuard, pushGuards, guardIds]
theorem run_makeSD {pins : List (Addr × Obj)} {σ : L2.St} {H : Hp} {s : Shared} {Q : VK} {us : List Value} {vs : List V} {c g : Nat → Addr} {cc : Nat} {gI : Addr} {fd : FuncData} {ps : List Str} {sp : Sp} {ds : List Value} {dvs : List V} (M : Mk X.K (G.ne.cls cc) gI) (F : FnG X.prog X.w X.K X.mg X.base (L2.CX X.prog X.w) k gI fd ps sp) (hr : Room (k + 1) X.A) (gd : X.A.guards = some []) (hb : Binds X.K fd ps ds) (hd : Vals dvs ds)
    (hx : ∀ σ, PassesAt (L2.CX X.prog X.w) X σ (WE W σ)) (I : Inv X pins σ H s) (r : Vals vs us)
    (h : ∀ x dx, H x = none → H dx = none → dx ≠ x → sp (.ref x :: (vs ++ dvs)) (upd (upd H dx (.own x)) x (.ins (G.ne.cls cc) dx [])) (fun v H2 => v = .non ∧ Q (.ref x) H2) (WE W σ)) :
    wpAny (model X.prog X.w) X.A (call (.ref (G.ne.cls cc)) us) (EP X pins σ Q) X.xe s := by
  have hq := h (s.heap.objs.size + 1) s.heap.objs.size (I.hok.fresh (Nat.le_succ _)) (I.hok.fresh (Nat.le_refl _)) (Nat.ne_of_lt (Nat.lt_succ_self _))
  have I2 := Inv.made (C := G.ne.cls cc) I
  have rr : Vals (V.ref (s.heap.objs.size + 1) :: (vs ++ dvs)) (Value.ref (s.heap.objs.size + 1) :: (us ++ ds)) := .cons rfl (r.append hd)
  have len : (Value.ref (s.heap.objs.size + 1) :: us ++ ds).length = ps.length := by
    have z := rr.length
    rw [F.len _ _ _ _ hq] at z
    exact z.symm
  refine wpAny_call (make_map (f := gI) I.kIn M.makes M.init (beq_iff_eq.mp M.fn) (codeAny_mono (F.go _ X.stack _ _ ⟨Value.ref (s.heap.objs.size + 1) :: us, []⟩ (Value.ref (s.heap.objs.size + 1) :: (us ++ ds)) _ _ (WE W σ) (hr.make (G.ne.cls cc) us []) ((make_guards _ _ _).trans gd)
    (I2.env0.make (G.ne.cls cc) us []) (hb _ (Value.ref (s.heap.objs.size + 1) :: us) I2.kIn len) rr hq) fun res s' z => ?_))
  cases res with
  | error er => exact hx σ pins _ _ er s' I2 z
  | ok fl =>
    cases fl with
    | ret u =>
      obtain ⟨v, H', I3, rv, ev, q3⟩ := I2.after z
      subst ev
      exact ⟨rv, ⟨V.ref (s.heap.objs.size + 1), H', I3, rfl, q3⟩⟩
    | next => exact z.elim
    | brk => exact z.elim
    | cont => exact z.elim
theorem new_fin {cc : Nat} {fd : FuncData} {ps : List Str} {ds : List Value} {dvs : List V} {σ H} {Q : VK} (hn : ∀ as S, as.length ≠ ps.length → C.call i as S = .bad) (rd : ∀ m H, RepVs G m H dvs dd)
    (h : tE G W C (eNew cc i a dd) σ H Q) : tA G W C a σ H fun vs H1 => ∀ x dx, H1 x = none → H1 dx = none → dx ≠ x →
      spM G (C.call i) ps.length (.ref x :: (vs ++ dvs)) (upd (upd H1 dx (.own x)) x (.ins (G.ne.cls cc) dx [])) (fun v H2 => v = .non ∧ Q (.ref x) H2) (WE W σ) := by
  have h1 := tX.bind (Ra := RepVs G) (k := fun C _ xs S => match C.call i (.ref S.size :: (xs ++ dd)) (S.push (.ins cc [])) with
    | .ok .non S' => R.ok (D.ref S.size) S'
    | .ok _ _ => .bad
    | .ex c fs S' => .ex c fs S'
    | .bad => .bad) h
  refine tX.imp h1 fun vs H1 z x dx hx hd ne => ?_
  obtain ⟨mm, S, ls, as, s, r, ra, p⟩ := z
  obtain ⟨ex, s'⟩ := new_ins (c := cc) s hx hd ne
  have rs : RepV G (mm ++ [x]) (upd (upd H1 dx (.own x)) x (.ins (G.ne.cls cc) dx [])) (.ref x) (.ref S.size) := ref_new s
  refine sp_of (fd := fd) (ds := ds) (as := .ref S.size :: as) (vs := .ref x :: vs) hn rd s' (.cons rs (ra.mono ex)) ?_
  simp only at p
  show post G W (RepV G) σ _ _ _ (C.call i (.ref S.size :: (as ++ dd)) (S.push (.ins cc [])))
  cases w : C.call i (.ref S.size :: (as ++ dd)) (S.push (.ins cc [])) with
  | bad => rw [w] at p; exact p
  | ex c fs S' =>
    rw [w] at p
    exact fun m' H' d x' s2 rx => p m' H' d (ex.trans x') s2 rx
  | ok d S' =>
    rw [w] at p
    intro m' H' b x' s2 rb
    cases d with
    | non => exact ⟨rb.non_, p m' H' (.ref x) (ex.trans x') s2 (rs.mono x')⟩
    | _ => exact p.elim
theorem r_new {cc : Nat} (c : Ctx G X W) (q : MkC G X.prog X.w X.K X.mg X.base C k cc i dd) (hr : Room (k + 1) X.A) (hg : Gl X x) (hm : X.mg x = some (.ref (G.ne.cls cc))) (ha : PA X (e :: es) (tA G W C a))
    (hdb : (x == ("__debug__" : Str)) = false := by decide) (he : starEach (e :: es) X.env = (false, eval e X.env) :: starEach es X.env := by rfl) (hpl : (backTo pos (starEach es X.env)).any (·.1) = false := by rfl) :
    PE X (.Call (.Name x p) (e :: es) [] pos) (tE G W C (eNew cc i a dd)) := by
  obtain ⟨g, mk, cal⟩ := q.ex
  obtain ⟨fd, ps, ds, dvs, F, hb, hd, rd, hk, hn⟩ := cal.ex
  refine ⟨fun pins s σ H Q I h => ?_⟩
  refine wpAny_Call_Name_kw (ld_glob I hg hm ?_ hdb)
  refine PySem.W.callWith_K (h₀ := X.base) I.ok.mod.kin mk.kp (thn (ha.run pos pins s σ H _ I (new_fin (fd := fd) (ds := ds) hn rd h)) fun us s1 ⟨vs, H1, I1, rv, z⟩ => ⟨I1.kIn, ?_⟩) he hpl
  exact run_makeSD (c := fun _ => 0) (g := fun _ => 0) mk F hr c.gd hb hd (passAt c.tk) I1 rv z
end
theorem start_rep {G : Gx} {m : List Addr} {H : Hp} {vs : List V} {as : List D} {N : List Str} {sl : Nat} (r : RepVs G m H vs as) (h : sl = N.length) : SlotR G m H (as.map some ++ List.replicate (sl - as.length) none) (start N vs) := by
  subst h
  unfold L2.start
  rw [r.length]
  refine ⟨by rw [List.length_append, List.length_append, List.length_map, List.length_map, r.length, List.length_replicate, List.length_replicate], fun i d e => ?_⟩
  by_cases hi : i < as.length
  · rw [List.getElem?_append_left (by rw [List.length_map]; exact hi), List.getElem?_map] at e
    obtain ⟨d', h1, h2⟩ := Option.map_eq_some_iff.mp e
    cases h2
    obtain ⟨v, h3, h4⟩ := r.get h1
    exact ⟨v, by rw [List.getElem?_append_left (by rw [List.length_map, r.length]; exact hi), List.getElem?_map, h3]; rfl, .val h4⟩
  · rw [List.getElem?_append_right (by rw [List.length_map]; omega), List.getElem?_replicate] at e
    split at e <;> cases e
theorem body_fin {G : Gx} {C : Cfg} {F : Fn} {N : List Str} {m : List Addr} {S : Store} {H : Hp} {vs : List V} {as : List D} {Q : VK} {E : XK} (hs : F.sl = N.length) (s : Sim G m S H) (r : RepVs G m H vs as) (p : post G (fun c d _ H => E c d H) (RepV G) [] m H Q (runFn F C as S)) :
    tS G (fun c d _ H => E c d H) C F.body { nx := fun _ H' => Q .non H', rt := Q } (start N vs) H := by
  refine ⟨m, S, enter F as, s, start_rep r hs, ?_⟩
  unfold runFn at p
  split at p
  · cases e : F.body C (enter F as) S with
    | nx ls' S' => rw [e] at p; exact fun m' H' σ' x s' _ => p m' H' .non x s' .non
    | rt d S' => rw [e] at p; exact p
    | bk ls' S' => rw [e] at p; exact p.elim
    | ct ls' S' => rw [e] at p; exact p.elim
    | ex c fs ls S' => rw [e] at p; exact fun m' H' d σ' x s' _ rx => p m' H' d x s' rx
    | bad => rw [e] at p; exact p
  · exact p.elim
theorem ctx_of {G : Gx} {P : Program} {w : World} {K : PySem.W.Frag} {mg : Str → Option Value} {base : Heap} {N : List Str} {qual : Str} {scope : Scope} {f : Addr} {cdv : Value} {A : Around} {outer : List Env} {s : Shared} {H : Hp} {E : XK} {k : Nat}
    (hK : G.K = K) (nd : N.Nodup) (hr : Room k (A.deeper (envOfC qual scope s.heap.objs.size f cdv))) (hgd : A.guards = some []) (hW : G.ne.w = w) : Ctx G (cxOf (L2.CX P w) P w K mg base N qual scope f cdv A outer s H E) (fun c d _ H => E c d H) where
  hK := hK
  hN := nd
  tk := takes_of rfl rfl rfl rfl
  hp := passes_of rfl
  hu := hr.units
  gd := hgd
  hW := hW
  calm := rfl
theorem call_bad {tb : List Fn} {n i : Nat} {l : Nat} (h : ∀ F, tb[i]? = some F → F.ar = l) : ∀ as S, as.length ≠ l → callN tb n i as S = .bad := fun as S hne => by
  cases n with
  | zero => rfl
  | succ n =>
    unfold callN
    cases e : tb[i]? with
    | none => rfl
    | some F =>
      show runFn F _ as S = _
      unfold runFn
      rw [if_neg (by rw [h F e]; exact hne)]
def store0 (ns : List Int) : Store := Store.empty.push (.rol (ns.map .int))
theorem reps_ints {G : Gx} {m H} : ∀ ns : List Int, RepVs G m H (ns.map V.int) (ns.map D.int)
  | [] => .nil
  | n :: ns => .cons (.int n) (reps_ints ns)
theorem sim0 {G : Gx} {H : Hp} {a : Addr} {ns : List Int} (hO : Only H) (hS : SqL G.K H a (ns.map V.int)) (ht : ∀ P ∈ G.ne.tabs, LamX.TabS H P (G.ne.tq P)) : Sim G [a] (store0 ns) H where
  tbs := ht
  len := rfl
  nd := fun i j p x y hx nx hy ny h1 h2 => by
    have k : ∀ {i : Nat} {x : Ob}, (store0 ns).get i = some x → i = 0 := fun {i x} h => by
      have := Store.get_lt h
      have e : (store0 ns).size = 1 := rfl
      omega
    rw [k hx, k hy]
  obj := fun n o h => by
    have hn : n = 0 := by
      have := Store.get_lt h
      have e : (store0 ns).size = 1 := rfl
      omega
    subst hn
    have e : (store0 ns).get 0 = some (.rol (ns.map .int)) := Store.get_push_same _ _
    rw [e] at h
    cases h
    refine ⟨a, rfl, .rol (vs := ns.map V.int) ?_ (reps_ints ns)⟩
    rcases hS with (hS | hS) | hS
    · rcases hO a with z | ⟨ob, xs, z⟩
      · rw [z] at hS; cases hS
      · rw [z] at hS; cases hS
    · exact .inl hS
    · exact .inr hS
end MP
namespace MP
open PySem PySem.Spec PyProof.Rows L2
def rMt (G : Gx) (f : D → List D → P D) : V → List V → Hp → VK → Prop := fun x xs H Q => ∃ m S d as, Sim G m S H ∧ RepV G m H x d ∧ RepVs G m H xs as ∧ postP G (RepV G) m H Q (f d as S)
section
variable {G : Gx} {m : List Addr} {H : Hp}
theorem RepVs.nil_ {vs} (h : RepVs G m H vs []) : vs = [] := by cases h; rfl
theorem RepVs.cons_ {vs d ds} (h : RepVs G m H vs (d :: ds)) : ∃ v w, vs = v :: w ∧ RepV G m H v d ∧ RepVs G m H w ds := by
  cases h with
  | cons a b => exact ⟨_, _, rfl, a, b⟩
theorem RepVs.one_ {vs d} (h : RepVs G m H vs [d]) : ∃ v, vs = [v] ∧ RepV G m H v d := by
  obtain ⟨v, w, rfl, a, b⟩ := h.cons_
  rw [b.nil_]
  exact ⟨v, rfl, a⟩
theorem bools_of : ∀ {ds : List D} {bs : List Bool} {vs : List V}, allB ds = some bs → RepVs G m H vs ds → vs = bs.map V.bl
  | [], bs, vs, e, h => by
    unfold allB at e
    cases e
    exact h.nil_
  | .bl b :: ds, bs, vs, e, h => by
    unfold allB at e
    obtain ⟨bs', e1, rfl⟩ := Option.map_eq_some_iff.mp e
    obtain ⟨v, w, rfl, a, r⟩ := h.cons_
    rw [a.bl_, bools_of e1 r]
    rfl
  | .non :: _, _, _, e, _ => by unfold allB at e; cases e
  | .int _ :: _, _, _, e, _ => by unfold allB at e; cases e
  | .str _ :: _, _, _, e, _ => by unfold allB at e; cases e
  | .tup _ :: _, _, _, e, _ => by unfold allB at e; cases e
  | .ref _ :: _, _, _, e, _ => by unfold allB at e; cases e
  | .exn _ _ :: _, _, _, e, _ => by unfold allB at e; cases e
  | .lam _ _ :: _, _, _, e, _ => by unfold allB at e; cases e
end
section
variable {G : Gx} {X : Cx} {W : WX} {C : Cfg}
theorem b_len (hK : G.K = X.K) : CallR X (.builtin "len") (rPA G bLen) := by
  intro pins s σ H xs us Q I r h
  obtain ⟨m, S, as, sim, ra, p⟩ := h
  unfold bLen at p
  split at p
  · rename_i d
    obtain ⟨x, rfl, rx⟩ := ra.one_
    split at p
    · rename_i k hk
      have dct : ∀ n kvs, d = .ref n → S.get n = some (.dct kvs) → kvs.length = k → wpAny (model X.prog X.w) X.A (call (.builtin "len") us) (EP X pins σ Q) X.xe s := fun n kvs hd hg hl => by
        subst hd
        obtain ⟨q, rfl, hq⟩ := rx.ref_
        obtain ⟨q', kv, e1, hq', hv⟩ := sim.dct hg
        rw [hq] at e1
        cases e1
        exact call_lenD pins s σ H _ us Q I r ⟨q, kv, rfl, hq', by rw [hv.length, hl]; exact fin_val sim (.int _) p⟩
      by_cases hdc : ∃ n kvs, d = .ref n ∧ S.get n = some (.dct kvs) ∧ kvs.length = k
      · obtain ⟨n, kvs, h1, h2, h3⟩ := hdc
        exact dct n kvs h1 h2 h3
      refine call_len pins s σ H _ us Q I r ⟨x, k, rfl, ?_, fin_val sim (.int _) p⟩
      unfold lenOf at hk
      split at hk
      · cases rx.str_
        split at hk
        · rename_i hz
          cases hk
          exact ⟨by rw [len_mk, ← line_eq]; exact hz, by rw [len_mk]⟩
        · cases hk
      · cases hk
        obtain ⟨q, vs, rfl, hq, hv⟩ := rx.tup_
        exact .inr ⟨vs, hK ▸ hq, by rw [hv.length]⟩
      · rename_i n
        obtain ⟨q, rfl, hq⟩ := rx.ref_
        have go : ∀ xs, lstAt S n = some xs → xs.length = k → LenV X.K (.ref q) H k := fun xs hl e => by
          obtain ⟨q', vs, e1, hq', hv⟩ := sim.seqL hl
          rw [hq] at e1
          cases e1
          exact .inl ⟨vs, hK ▸ hq', by rw [hv.length, e]⟩
        split at hk
        · rename_i xs hg
          exact go xs (by unfold lstAt; rw [hg]) (Option.some.inj hk)
        · rename_i xs hg
          exact go xs (by unfold lstAt; rw [hg]) (Option.some.inj hk)
        · rename_i kvs hg
          exact absurd ⟨_, kvs, rfl, hg, Option.some.inj hk⟩ hdc
        · cases hk
      · cases hk
    · exact p.elim
  · exact p.elim
theorem b_tuple (hK : G.K = X.K) : CallR X (.type "tuple") (rPA G bTuple) := by
  intro pins s σ H xs us Q I r h
  obtain ⟨m, S, as, sim, ra, p⟩ := h
  unfold bTuple at p
  split at p
  · rename_i ds
    obtain ⟨x, rfl, rx⟩ := ra.one_
    have rx' := rx
    obtain ⟨q, vs, rfl, hq, hv⟩ := rx.tup_
    exact call_tuple_of pins s σ H _ us Q I r ⟨q, vs, rfl, .inr ⟨hK ▸ hq, fin_val sim rx' p⟩⟩
  · rename_i n
    obtain ⟨x, rfl, rx⟩ := ra.one_
    obtain ⟨q, rfl, hq⟩ := rx.ref_
    have go : ∀ xs, lstAt S n = some xs → postP G (RepV G) m H Q (some (.tup xs, S)) → wpAny (model X.prog X.w) X.A (call (.type "tuple") us) (EP X pins σ Q) X.xe s := fun xs hl p => by
      obtain ⟨q', vs, e1, hq', hv⟩ := sim.seqL hl
      rw [hq] at e1
      cases e1
      exact call_tuple_of pins s σ H _ us Q I r ⟨q, vs, rfl, .inl ⟨hK ▸ hq', new_tup sim hv p⟩⟩
    split at p
    · rename_i xs hg
      exact go xs (by unfold lstAt; rw [hg]) p
    · rename_i xs hg
      exact go xs (by unfold lstAt; rw [hg]) p
    · exact p.elim
  · exact p.elim
theorem b_list (hK : G.K = X.K) : CallR X (.type "list") (rPA G bListS) := by
  intro pins s σ H xs us Q I r h
  obtain ⟨m, S, as, sim, ra, p⟩ := h
  unfold bListS at p
  split at p
  · rename_i ds
    obtain ⟨x, rfl, rx⟩ := ra.one_
    obtain ⟨q, vs, rfl, hq, hv⟩ := rx.tup_
    exact call_list_of pins s σ H _ us Q I r ⟨q, vs, rfl, .inr (hK ▸ hq), new_lst sim hv p⟩
  · rename_i n
    obtain ⟨x, rfl, rx⟩ := ra.one_
    obtain ⟨q, rfl, hq⟩ := rx.ref_
    split at p
    · rename_i xs hl
      obtain ⟨q', vs, e1, hq', hv⟩ := sim.seqL hl
      rw [hq] at e1
      cases e1
      exact call_list_of pins s σ H _ us Q I r ⟨q, vs, rfl, .inl (hK ▸ hq'), new_lst sim hv p⟩
    · exact p.elim
  · exact p.elim
theorem b_all (c : Ctx G X W) : CallR X (.builtin "all") (rPA G bAll) := by
  intro pins s σ H xs us Q I r h
  obtain ⟨m, S, as, sim, ra, p⟩ := h
  unfold bAll at p
  split at p
  · rename_i n
    obtain ⟨x, rfl, rx⟩ := ra.one_
    obtain ⟨q, rfl, hq⟩ := rx.ref_
    split at p
    · rename_i xs hl
      split at p
      · rename_i bs hb
        obtain ⟨q', vs, e1, hq', hv⟩ := sim.seqL hl
        rw [hq] at e1
        cases e1
        have e2 := bools_of hb hv
        subst e2
        exact cr_all c.calm pins s σ H _ us Q I r ⟨q, bs, rfl, c.hK ▸ hq', fin_val sim (.bl _) p⟩
      · exact p.elim
    · exact p.elim
  · exact p.elim
theorem b_any (c : Ctx G X W) : CallR X (.builtin "any") (rPA G bAny) := by
  intro pins s σ H xs us Q I r h
  obtain ⟨m, S, as, sim, ra, p⟩ := h
  unfold bAny at p
  split at p
  · rename_i n
    obtain ⟨x, rfl, rx⟩ := ra.one_
    obtain ⟨q, rfl, hq⟩ := rx.ref_
    split at p
    · rename_i xs hl
      split at p
      · rename_i bs hb
        obtain ⟨q', vs, e1, hq', hv⟩ := sim.seqL hl
        rw [hq] at e1
        cases e1
        have e2 := bools_of hb hv
        subst e2
        exact cr_any c.calm pins s σ H _ us Q I r ⟨q, bs, rfl, c.hK ▸ hq', fin_val sim (.bl _) p⟩
      · exact p.elim
    · exact p.elim
  · exact p.elim
variable {f : List D → P D} {id T : String} {x name : Str} {p pos apos : Pos} {e o : Expr} {es : List Expr} {a : MA} {eo : ME}
theorem r_cb (hc : CallR X (.builtin id) (rPA G f)) (hg : Gl X x) (hm : X.mg x = none) (hv : bootBuiltins x = some (.builtin id)) (ha : PA X (e :: es) (tA G W C a)) (hn : x ≠ "__name__" := by decide) (hdb : (x == ("__debug__" : Str)) = false := by decide)
    (he : starEach (e :: es) X.env = (false, eval e X.env) :: starEach es X.env := by rfl) (hpl : (backTo pos (starEach es X.env)).any (·.1) = false := by rfl) : PE X (.Call (.Name x p) (e :: es) [] pos) (tE G W C (eB f a)) :=
  PE.weak (pe_callB hc hg hm hv ha hn hdb he hpl) fun σ H Q h => wA h
theorem r_ct (hc : CallR X (.type T) (rPA G f)) (hg : Gl X x) (hm : X.mg x = none) (hv : bootBuiltins x = some (.type T)) (ha : PA X (e :: es) (tA G W C a)) (hn : x ≠ "__name__" := by decide) (hdb : (x == ("__debug__" : Str)) = false := by decide)
    (he : starEach (e :: es) X.env = (false, eval e X.env) :: starEach es X.env := by rfl) (hpl : (backTo pos (starEach es X.env)).any (·.1) = false := by rfl) : PE X (.Call (.Name x p) (e :: es) [] pos) (tE G W C (eB f a)) :=
  PE.weak (pe_callTy hc hg hm hv ha hn hdb he hpl) fun σ H Q h => wA h
theorem bm_fin {ty : D → Store → Bool} {f : D → List D → P D} {σ H} {Q : VK} (hty : ∀ m S H x d, Sim G m S H → RepV G m H x d → ty d S = true → tyV X.K T x H) (h : tE G W C (eBM ty f eo a) σ H Q) : tBM X.K T (rMt G f) (tE G W C eo) (tA G W C a) σ H Q := by
  have h1 := tX.bind (Ra := RepV G) (k := fun C σ x S => if ty x S = true then ((a C σ).bind fun xs => M.of (f x xs)) S else .bad) h
  refine tX.imp h1 fun x H1 z => ?_
  obtain ⟨m, S, ls, d, s, r, rd, p⟩ := z
  simp only at p
  by_cases ht : ty d S = true
  · rw [if_pos ht] at p
    refine ⟨hty _ _ _ _ _ s rd ht, ?_⟩
    have z : tK G W (RepV G) (RepV G) C (fun C σ x => (a C σ).bind fun xs => M.of (f x xs)) σ H1 x Q := ⟨m, S, ls, d, s, r, rd, p⟩
    have z2 := tKV (Rb := RepVs G) (k := fun _ _ x xs => M.of (f x xs)) z
    refine tX.imp z2 fun vs H2 z3 => ?_
    obtain ⟨m, S, ls, dx, s, r, ⟨r1, r2⟩, p⟩ := z3
    exact ⟨m, S, dx.1, dx.2, s, r1, r2, post.of p⟩
  · rw [if_neg ht] at p
    exact p.elim
theorem ty_lst (hK : G.K = X.K) {m S H x d} (s : Sim G m S H) (r : RepV G m H x d) (h : tyLst d S = true) : tyV X.K "list" x H := by
  cases d with
  | ref n =>
    obtain ⟨q, rfl, hq⟩ := r.ref_
    have go : ∀ xs, lstAt S n = some xs → tyV X.K "list" (.ref q) H := fun xs hl => by
      obtain ⟨q', vs, e1, hq', hv⟩ := s.seqL hl
      rw [hq] at e1
      cases e1
      exact .inl ⟨rfl, vs, hK ▸ hq'⟩
    unfold tyLst at h
    simp only at h
    split at h
    · rename_i xs hg; exact go xs (by unfold lstAt; rw [hg])
    · rename_i xs hg; exact go xs (by unfold lstAt; rw [hg])
    · cases h
  | _ => cases h
theorem r_bm {ty : D → Store → Bool} {f : D → List D → P D} (pa : PlainAttrs T) (slot : Slot T name id) (hto : typeOf (.builtin id) = pure (.type "method_descriptor")) (hm : MtR X id (rMt G f))
    (hty : ∀ m S H x d, Sim G m S H → RepV G m H x d → ty d S = true → tyV X.K T x H) (ho : PE X o (tE G W C eo)) (ha : PA X (e :: es) (tA G W C a))
    (hbase : attributeBase o name X.env (eval o X.env) = eval o X.env := by rfl)
    (hfew : ((backTo pos (starEach (e :: es) X.env)).all (fun x => !x.1) && (backToKw pos (keywordEach [] X.env)).all (fun x => x.1.isSome)
      && decide ((e :: es).length + ([] : List Keyword).length + (if ([] : List Keyword).isEmpty then 0 else 1) < 30)) = true := by rfl)
    (hline : (apos.endLine == pos.line) = true := by rfl) (hs : starEach (e :: es) X.env = (false, eval e X.env) :: starEach es X.env := by rfl) (hplain : (backTo pos (starEach es X.env)).any (·.1) = false := by rfl) :
    PE X (.Call (.Attribute o name apos) (e :: es) [] pos) (tE G W C (eBM ty f eo a)) :=
  PE.weak (pe_bm pa slot hto hm ho ha hbase hfew hline hs hplain) fun σ H Q h => bm_fin hty h
theorem m_append : MtR X "list.append" (rMt G mAppend) := by
  intro pins s σ H x xs v us Q I rx rs h
  obtain ⟨m, S, d, as, sim, rd, ra, p⟩ := h
  unfold mAppend at p
  split at p
  · rename_i n y
    obtain ⟨q, rfl, hq⟩ := rd.ref_
    obtain ⟨w, rfl, rw'⟩ := ra.one_
    split at p
    · rename_i xs hg
      split at p
      · rename_i hz
        obtain ⟨q', vs, e1, e2, rv⟩ := sim.lst hg
        rw [hq] at e1
        cases e1
        have mu : Mut1 (H q) := by rw [e2]; trivial
        have ex : Ext G m H m (upd H q (.lst (vs ++ [w]))) := Ext.mut mu
        exact mt_append pins s σ H _ _ v us Q I rx rs ⟨q, vs, w, rfl, rfl, e2, by rw [rv.length, ← line_eq]; exact hz,
          p m _ _ ex (sim_set sim hg rfl rfl hq mu (.lst upd_same ((rv.mono ex).append (.cons (rw'.mono ex) .nil)))) .non⟩
      · exact p.elim
    · exact p.elim
  · exact p.elim
def rSetK : V → V → V → Hp → (Hp → Prop) → Prop := fun o i v H Q => ∃ a kvs k, o = .ref a ∧ i = kV k ∧ H a = some (.dK kvs) ∧ kvs.length < sizeLine ∧ Q (upd H a (.dK (putK kvs k v)))
theorem set_lk {X : Cx} : PSet X (fun o i v H Q => rSetL o i v H Q ∨ rSetK o i v H Q) := by
  intro pins s σ H o i v ov iv u Q I ro ri rv h
  rcases h with h | h
  · exact set_list pins s σ H o i v ov iv u Q I ro ri rv h
  · obtain ⟨a, kvs, k, rfl, rfl, e, l, q⟩ := h
    cases (show ov = Value.ref a from ro)
    obtain ⟨z, hd, vs, rel, dd⟩ := dk_of I.hok e
    have hz : vs.length ≤ sizeLine := by rw [← rel.length]; exact z
    have hl : (putK kvs k v).length ≤ sizeLine := by have := length_putK kvs k v; omega
    refine wpAny_setItem_pairs (hsz := hz) (kV_is ri) dd fun h' dd' hs => ?_
    have he : ∃ q, h'.get? a = some q := let ⟨q, _, _, hq, _⟩ := dd'; ⟨q, hq⟩
    exact ⟨_, d_write I (by rw [e]; exact True.intro) hs he (dk_new hl hd (rel.put k rv) dd'), q⟩
theorem put_lst {cs : D} {m S H} {x i y : V} {dx di dy : D} {Q : Hp → Prop} {S' : Store} (s : Sim G m S H) (rx : RepV G m H x dx) (ri : RepV G m H i di) (ry : RepV G m H y dy) (e : putItem dx di dy S = some ((), S'))
    (h : ∀ H', Ext G m H m H' → Sim G m S' H' → Q H') : rSetL x i y H Q ∨ rSetK x i y H Q := by
  unfold putItem at e
  split at e
  · rename_i n
    obtain ⟨q, rfl, hq⟩ := rx.ref_
    split at e
    · rename_i xs hg
      split at e
      · rename_i k
        cases ri.int_
        split at e
        · rename_i j hj
          cases e
          obtain ⟨q', vs, e1, e2, rv⟩ := s.lst hg
          rw [hq] at e1
          cases e1
          have mu : Mut1 (H q) := by rw [e2]; trivial
          have ex : Ext G m H m (upd H q (.lst (vs.set j y))) := Ext.mut mu
          exact .inl ⟨q, vs, k, j, rfl, rfl, e2, by rw [rv.length, ← ixN_eq]; exact hj, h _ ex (sim_set s hg rfl rfl hq mu (.lst upd_same ((rv.mono ex).set (ry.mono ex) j)))⟩
        · cases e
      · cases e
    · split at e
      · rename_i kvs hg hf
        rw [Bool.and_eq_true] at hf
        obtain ⟨k, hk⟩ := keyFits_some hf.1
        have hz := of_decide_eq_true hf.2
        cases e
        obtain ⟨q', kv, e1, e2, rv⟩ := s.dct hg
        rw [hq] at e1
        cases e1
        cases dKey_rep ri hk
        have mu : Mut1 (H q) := by rw [e2]; trivial
        have ex : Ext G m H m (upd H q (.dK (putK kv k y))) := Ext.mut mu
        exact .inr ⟨q, kv, k, rfl, rfl, e2, by rw [rv.length, ← line_eq]; exact hz, h _ ex (sim_set s hg rfl rfl hq mu (.dct upd_same ((rv.mono ex).put hk (ry.mono ex))))⟩
      · cases e
    · cases e
  · cases e
theorem s_item {o i value : Expr} {eo ei ev : ME} {p' pos : Pos} (ho : PE X o (tE G W C eo)) (hi : PE X i (tE G W C ei)) (hv : PE X value (tE G W C ev))
    (ha : ∀ v, assign (.Subscript o i p') X.env v = (do
      let ov ← holding [v] (eval o X.env)
      let iv ← holding [v, ov] (eval i X.env)
      standAt p'
      holding [v, ov, iv] (setItem ov iv v)
      release [v, ov, iv] []) := by intro _; rfl)
    (hs : swapsWithSole [.Subscript o i p'] value pos.line X.env = pure false := by rfl) (hw : swappedStores [.Subscript o i p'] value X.env = pure none := by rfl)
    (h1 : (assignEach [.Subscript o i p'] X.env).map (·.2) = [assign (.Subscript o i p') X.env] := by rfl) :
    PS X (.Assign [.Subscript o i p'] value pos) (tS G W C (sItem eo ei ev)) :=
  PS.weak (ps_asg hv (pg_sub ho hi set_lk ha) hs hw h1) fun D σ H ⟨m, S, ls, s, r, p⟩ => by
    refine ⟨m, S, ls, s, r, post.imp (lift_post (Ra := RepV G) r p) fun y H1 ⟨m1, S1, dy, x1, s1, r1, ry, p1⟩ => ?_⟩
    refine ⟨m1, S1, ls, s1, r1, post.imp (lift_post (Ra := RepV G) r1 p1) fun x H2 ⟨m2, S2, dx, x2, s2, r2, rx, p2⟩ => ?_⟩
    refine ⟨m2, S2, ls, s2, r2, post.imp (lift_post (Ra := RepV G) r2 p2) fun k H3 ⟨m3, S3, dk, x3, s3, r3, rk, p3⟩ => ?_⟩
    unfold lift M.of at p3
    cases q : putItem dx dk dy S3 with
    | none => simp only [q] at p3; exact p3.elim
    | some w =>
      simp only [q] at p3
      exact put_lst (cs := .non) s3 (rx.mono x3) rk (ry.mono (x2.trans x3)) q fun H' ex s' => p3 m3 H' σ ex s' (r3.mono ex)
end
end MP
namespace MP
open PySem
theorem bo_len : bootBuiltins "len" = some (.builtin "len") := by decide +kernel
theorem bo_list : bootBuiltins "list" = some (.type "list") := by decide +kernel
theorem bo_tuple : bootBuiltins "tuple" = some (.type "tuple") := by decide +kernel
theorem bo_int : bootBuiltins "int" = some (.type "int") := by decide +kernel
theorem bo_all : bootBuiltins "all" = some (.builtin "all") := by decide +kernel
theorem bo_any : bootBuiltins "any" = some (.builtin "any") := by decide +kernel
end MP
namespace MP
open PySem PySem.SeqAt PySem.Spec PyProof.Rows L2
theorem within_iff (a : List Nat) : ∀ b : List Nat, within a b = true ↔ ∃ i, i + a.length ≤ b.length ∧ (b.drop i).take a.length = a
  | [] => by
    unfold within
    constructor
    · intro h
      have e : a = [] := by simpa using h
      subst e
      exact ⟨0, by simp, rfl⟩
    · rintro ⟨i, h1, h2⟩
      have : a.length = 0 := by rw [List.length_nil] at h1; omega
      simpa using List.eq_nil_of_length_eq_zero this
  | c :: r => by
    unfold within
    rw [Bool.or_eq_true, within_iff a r, List.isPrefixOf_iff_prefix]
    constructor
    · rintro (⟨t, h⟩ | ⟨i, h1, h2⟩)
      · refine ⟨0, ?_, ?_⟩
        · rw [← h, List.length_append]; omega
        · rw [List.drop_zero, ← h, List.take_left]
      · exact ⟨i + 1, by rw [List.length_cons]; omega, h2⟩
    · rintro ⟨i, h1, h2⟩
      cases i with
      | zero =>
        rw [List.drop_zero] at h2
        exact .inl ⟨(c :: r).drop a.length, by rw [← h2, List.length_take, Nat.min_eq_left (by omega), List.take_append_drop]⟩
      | succ i => exact .inr ⟨i, by rw [List.length_cons] at h1; omega, h2⟩
theorem found_within (a b : List Nat) : (!(Builtin.Str.occurrences ⟨b.toArray⟩ ⟨a.toArray⟩ 0 (⟨b.toArray⟩ : Str).length 1).isEmpty) = within a b := by
  rw [Bool.eq_iff_iff, PySem.StrLaws.found_iff, within_iff]
  simp only [PySem.StrLaws.subAt_eq, len_mk]
  constructor
  · rintro ⟨i, h1, h2⟩
    exact ⟨i, h1, by simpa using h2⟩
  · rintro ⟨i, h1, h2⟩
    exact ⟨i, h1, by simpa using h2⟩
section
variable {G : Gx} {X : Cx} (hK : G.K = X.K)
noncomputable def eqTo (h : Heap) (a : PyData) (y : Value) : Bool := @decide (∃ d as, Reads h y d as ∧ PyData.eqv d a = true) (Classical.propDecidable _)
theorem eqTo_eq {h : Heap} {a d : PyData} {y : Value} {as : List Addr} (r : Reads h y d as) : eqTo h a y = PyData.eqv d a := by
  unfold eqTo
  rw [Bool.eq_iff_iff, @decide_eq_true_iff _ (Classical.propDecidable _)]
  constructor
  · rintro ⟨d', as', r', e⟩
    obtain ⟨rfl, _⟩ := Reads.unique r d' as' r'
    exact e
  · exact fun e => ⟨d, as, r, e⟩
include hK
theorem items_eq {pins : List (Addr × Obj)} {s : Shared} {σ : L2.St} {H : Hp} {m : List Addr} {S : Store} {A : Around} (I : Inv X pins σ H s) (sim : Sim G m S H) (hu : A.units + deep < cLine) {x : D} {v : V} {u : Value} {a : PyData} (rx : RepV G m H v x) (ex : snap S deep x = some a) (rv : RelV v u) :
    ∀ {xs : List D} {bs : List PyData} {vs : List V} {us : List Value}, snaps S deep xs = some bs → RepVs G m H vs xs → Vals vs us → (∀ y ∈ us, EqAt A s y u (eqTo s.heap a y)) ∧ us.any (eqTo s.heap a) = memD a bs
  | [], bs, vs, us, hb, rr, rw' => by
    unfold snaps optAll at hb
    cases hb
    rw [rr.nil_] at rw'
    cases rw'
    exact ⟨fun y h => (nomatch h), rfl⟩
  | d :: xs, bs, vs, us, hb, rr, rw' => by
    unfold snaps optAll at hb
    obtain ⟨w, ws, rfl, r1, r2⟩ := rr.cons_
    cases rw' with
    | @cons _ y _ us' q1 q2 =>
      cases e1 : snap S deep d with
      | none => rw [e1] at hb; cases hb
      | some b =>
        cases e2 : optAll (snap S deep) xs with
        | none => rw [e1, e2] at hb; cases hb
        | some bs' =>
          rw [e1, e2] at hb
          cases hb
          obtain ⟨h1, h2⟩ := items_eq I sim hu rx ex rv (bs := bs') e2 r2 q2
          obtain ⟨as, rd, _⟩ := snap_reads hK I sim _ _ _ _ _ r1 e1 q1
          have ee := eqTo_eq (a := a) rd
          refine ⟨fun z hz => ?_, ?_⟩
          · rcases List.mem_cons.mp hz with rfl | hz
            · rw [ee]
              exact eqAt_snap hK I sim hu r1 rx e1 ex q1 rv
            · exact h1 z hz
          · rw [List.any_cons, h2, ee]
            rfl
theorem in_any (neg : Bool) (hu : X.A.units + 64 < cLine) : OpR X (compareOp (if neg = true then .NotIn else .In)) (rP2 G (if neg = true then opNotIn else opIn)) := by
  intro pins s σ H x y v u Q I rx ry h
  obtain ⟨m, S, a, b, sim, ra, rb, p⟩ := h
  have hu1 : X.A.in1.units + deep < cLine := by
    show X.A.units + 1 + 40 < cLine
    omega
  have key : ∃ r, inD S a b = some r ∧ Q (.bl (if neg = true then !r else r)) H := by
    cases neg with
    | false =>
      simp only [Bool.false_eq_true, if_false] at p ⊢
      unfold opIn at p
      split at p
      · rename_i r hr
        exact ⟨r, hr, fin_val sim (.bl r) p⟩
      · exact p.elim
    | true =>
      simp only [if_true] at p ⊢
      unfold opNotIn at p
      split at p
      · rename_i r hr
        exact ⟨r, hr, fin_val sim (.bl (!r)) p⟩
      · exact p.elim
  obtain ⟨r, hr, q⟩ := key
  clear p
  unfold inD at hr
  split at hr
  · -- a text
    split at hr
    · cases ra.str_; cases rb.str_
      cases hr
      cases neg with
      | false =>
        simp only [Bool.false_eq_true, if_false] at q ⊢
        exact op_in_str pins s σ H _ _ v u Q I rx ry ⟨_, _, rfl, rfl, by rw [found_within]; exact q⟩
      | true =>
        simp only [if_true] at q ⊢
        exact op_notin_str pins s σ H _ _ v u Q I rx ry ⟨_, _, rfl, rfl, by rw [found_within]; exact q⟩
    · cases hr
  · -- a tuple
    rename_i xs
    obtain ⟨t, vs, rfl, ht, hv⟩ := rb.tup_
    cases ry
    split at hr
    · rename_i da bs e1 e2
      cases hr
      obtain ⟨its, rvi, pt, _⟩ := I.tuple (hK ▸ ht)
      obtain ⟨h1, h2⟩ := items_eq hK (A := X.A.in1) I sim hu1 ra e1 rx e2 hv rvi
      have fin : ∀ b : Bool, b = (if neg = true then !memD da bs else memD da bs) → EP X pins σ Q (.bool b) s := fun b e => ⟨.bl b, H, I, rfl, by rw [e]; exact q⟩
      cases neg with
      | false => exact SeqAt.in_tupleAt (eqTo s.heap da) (show s.heap.IsTuple t its.toArray from pt) (fun y hy => h1 y (by simpa using hy)) (fin _ (by simp [h2]))
      | true => exact SeqAt.notIn_tupleAt (eqTo s.heap da) (show s.heap.IsTuple t its.toArray from pt) (fun y hy => h1 y (by simpa using hy)) (fin _ (by simp [h2]))
    · cases hr
  · -- a list
    rename_i n
    obtain ⟨t, rfl, ht⟩ := rb.ref_
    cases ry
    split at hr
    · rename_i kvs hg
      split at hr
      · rename_i hf
        obtain ⟨k, hk⟩ := keyFits_some hf
        obtain ⟨q', kv, e1, hq', hv⟩ := sim.dct hg
        rw [ht] at e1
        cases e1
        cases dKey_rep ra hk
        obtain ⟨_, lo, vs, rel, dd⟩ := dk_of I.hok hq'
        have eb : (valueAt vs k).isSome = r := by
          rw [← (rel.val k).isSome_eq, hv.isSome hk]
          exact Option.some.inj hr
        cases neg with
        | false => exact wpAny_in_of (kV_is rx) lo dd.mapOf ⟨.bl r, H, I.tok _, by rw [eb]; rfl, q⟩
        | true => exact wpAny_notIn_of (kV_is rx) lo dd.mapOf ⟨.bl (!r), H, I.tok _, by rw [eb]; rfl, q⟩
      · cases hr
    · split at hr
      · rename_i xs hl
        split at hr
        · rename_i da bs e1 e2
          cases hr
          obtain ⟨t', vs, e3, ht', hv⟩ := sim.seqL hl
          rw [ht] at e3
          cases e3
          obtain ⟨its, rvi, pl, _⟩ := I.list (hK ▸ ht')
          obtain ⟨h1, h2⟩ := items_eq hK (A := X.A.in1) I sim hu1 ra e1 rx e2 hv rvi
          have fin : ∀ b : Bool, b = (if neg = true then !memD da bs else memD da bs) → EP X pins σ Q (.bool b) s := fun b e => ⟨.bl b, H, I, rfl, by rw [e]; exact q⟩
          cases neg with
          | false => exact SeqAt.in_listAt (eqTo s.heap da) pl.isList (fun y hy => h1 y (by simpa using hy)) (fin _ (by simp [h2]))
          | true => exact SeqAt.notIn_listAt (eqTo s.heap da) pl.isList (fun y hy => h1 y (by simpa using hy)) (fin _ (by simp [h2]))
        · cases hr
      · cases hr
  · cases hr
end
theorem o_in {G : Gx} {X : Cx} (c : Ctx0 G X) : OpR X (compareOp .In) (rP2 G opIn) := in_any c.hK false c.hu
theorem o_notin {G : Gx} {X : Cx} (c : Ctx0 G X) : OpR X (compareOp .NotIn) (rP2 G opNotIn) := in_any c.hK true c.hu
end MP
namespace MP
open PySem PySem.Spec PyProof.Rows L2
inductive Src where
  | lst (a : Addr)
  | tup (a : Addr)
  | str (x : Str)
def Src.is (K : PySem.W.Frag) (H : Hp) : Src → List V → Prop
  | .lst a, xs => SqL K H a xs
  | .tup a, xs => SqT K H a xs
  | .str x, xs => xs = x.cps.toList.map fun c => V.str ⟨#[c]⟩
def Src.st (it : Addr) (i : Nat) (h : Heap) : Src → Prop
  | .lst a => h.IsListIter it a i
  | .tup a => h.IsTupleIter it a i
  | .str x => ∃ t, h.IsStrIter it (strIterType x) x t i
def Src.lt (N : Nat) : Src → Prop
  | .lst a => a < N
  | .tup a => a < N
  | .str _ => True
theorem Src.inj {X : Cx} {pins : List (Addr × Obj)} {σ : L2.St} {H : Hp} {s : Shared} (I : Inv X pins σ H s) : ∀ {r : Src} {xs ys : List V}, r.is X.K H xs → r.is X.K H ys → xs = ys
  | .lst _, _, _, h, h' => I.list_inj h h'
  | .tup _, _, _, h, h' => I.tuple_inj h h'
  | .str _, _, _, h, h' => h.trans h'.symm
theorem Src.keep {it : Addr} {i : Nat} {h h' : Heap} (k : ∀ o, h.get? it = some o → h'.get? it = some o) : ∀ {r : Src}, r.st it i h → r.st it i h'
  | .lst _, st => Heap.IsListIter.at st k
  | .tup _, st => Heap.IsTupleIter.at st k
  | .str _, ⟨t, o, e, r⟩ => ⟨t, o, k o e, r⟩
theorem Src.obj {it : Addr} {i : Nat} {h : Heap} : ∀ {r : Src}, r.st it i h → ∃ o, h.get? it = some o ∧ ∀ v, o.data ≠ .cell v
  | .lst _, ⟨o, e, _, d⟩ => ⟨o, e, fun v q => by rw [d] at q; cases q⟩
  | .tup _, ⟨o, e, _, d⟩ => ⟨o, e, fun v q => by rw [d] at q; cases q⟩
  | .str _, ⟨t, o, e, _, d⟩ => ⟨o, e, fun v q => by rw [d] at q; cases q⟩
theorem ended {prog : Program} {w : World} {A : Around} {it : Addr} {fp : List Addr} {k : Nat} {T : Heap → Prop} (live : ∀ h, T h → ∃ o, h.get? it = some o)
    (frame : ∀ h h', T h → (∀ b ∈ fp, ∀ o, h.get? b = some o → h'.get? b = some o) → T h')
    (done : ∀ (s : Shared) (Q : Value → Shared → Prop) (E : Value → Shared → Prop), T s.heap → (∀ h' e, Heap.ExtBut it s.heap h' → (∃ o, h'.get? e = some o ∧ o.cls = .type "StopIteration") → E (.ref e) { s with heap := h' }) → wpAny (model prog w) A (Builtin.SmallTypes.nextOf (.ref it)) Q E s) :
    Draws prog w A it fp k (fun _ _ => True) (fun i h => i = k ∧ T h) where
  live := fun _ h st => live h st.2
  frame := fun _ h h' st hk => ⟨st.1, frame h h' st.2 hk⟩
  item := fun i s Q E hi st _ => absurd st.1 (by omega)
  done := fun s Q E st hE => done s Q E st.2 hE
structure DrawsIt (X : Cx) (A : Around) (N : Nat) (r : Src) (it i : Nat) (s : Shared) (x : Option V) (n : Nat) (fp : List Addr) (P : Nat → Value → Prop) (St : Nat → Heap → Prop) : Prop where
  d : Draws X.prog X.w A it fp n P St
  lt : ∀ y, x = some y → i < n
  le : i ≤ n
  end_ : x = none → i = n
  st : St i s.heap
  val : ∀ y v, x = some y → P i v → RelV y v
  nx : ∀ h', i < n → St (i + 1) h' → r.st it (i + 1) h'
  mem : it ∈ fp
  low : ∀ b ∈ fp, b = it ∨ b < N
section
variable {X : Cx} {A : Around} {pins : List (Addr × Obj)} {σ : L2.St} {H : Hp} {s : Shared}
theorem draws_of (hh : A.handled = none) (I : Inv X pins σ H s) {N it i : Nat} : ∀ {r : Src} {xs : List V}, r.is X.K H xs → r.lt N → N ≤ it → r.st it i s.heap →
    ∃ n fp P St, DrawsIt X A N r it i s xs[i]? n fp P St := by
  intro r xs hi hl hn st
  cases r with
  | lst a =>
    obtain ⟨its, rv, p, _⟩ := I.list hi
    have hne : a ≠ it := Nat.ne_of_lt (Nat.lt_of_lt_of_le hl hn)
    cases hx : xs[i]? with
    | some x =>
      have hlt : i < its.length := by rw [← rv.length]; exact (List.getElem?_eq_some_iff.mp hx).1
      refine ⟨_, _, _, _, Draws.list hh it a hne its.toArray, fun _ _ => by simpa using hlt, by simp; omega, (fun z => nomatch z), ⟨st, p.isList⟩, fun y v e hv => ?_, fun h' _ z => z.1, by simp, fun b hb => ?_⟩
      · cases e
        obtain ⟨u, h1, h2⟩ := rv.get hx
        have hv' : its[i]? = some v := by simpa using hv
        rw [h1] at hv'
        cases hv'
        exact h2
      · rcases List.mem_cons.mp hb with q | q
        · exact .inl q
        · rw [List.mem_singleton.mp q]; exact .inr hl
    | none =>
      have hge : its.toArray[i]? = none := by
        have := List.getElem?_eq_none_iff.mp hx
        rw [rv.length] at this
        simp; omega
      refine ⟨i, [it, a], _, _, ended (T := fun h => h.IsListIter it a i ∧ h.IsList a its.toArray) (fun h z => let ⟨o, ho, _⟩ := z.1; ⟨o, ho⟩) (fun h h' z hk => ⟨z.1.at fun o e => hk it (by simp) o e, z.2.at fun o e => hk a (by simp) o e⟩)
        (fun s Q E z hE => wpAny_nextOf_list_end hh z.1 z.2 hge hE), (fun y e => nomatch e), Nat.le_refl _, fun _ => rfl, ⟨rfl, st, p.isList⟩, (fun y v e => nomatch e), fun h' z => absurd z (Nat.lt_irrefl _), by simp, fun b hb => ?_⟩
      rcases List.mem_cons.mp hb with q | q
      · exact .inl q
      · rw [List.mem_singleton.mp q]; exact .inr hl
  | tup a =>
    obtain ⟨its, rv, p, _⟩ := I.tuple hi
    have hne : a ≠ it := Nat.ne_of_lt (Nat.lt_of_lt_of_le hl hn)
    have p' : s.heap.IsTuple a its.toArray := p
    cases hx : xs[i]? with
    | some x =>
      have hlt : i < its.length := by rw [← rv.length]; exact (List.getElem?_eq_some_iff.mp hx).1
      refine ⟨_, _, _, _, Draws.tuple hh it a hne its.toArray, fun _ _ => by simpa using hlt, by simp; omega, (fun z => nomatch z), ⟨st, p'⟩, fun y v e hv => ?_, fun h' _ z => z.1, by simp, fun b hb => ?_⟩
      · cases e
        obtain ⟨u, h1, h2⟩ := rv.get hx
        have hv' : its[i]? = some v := by simpa using hv
        rw [h1] at hv'
        cases hv'
        exact h2
      · rcases List.mem_cons.mp hb with q | q
        · exact .inl q
        · rw [List.mem_singleton.mp q]; exact .inr hl
    | none =>
      have hge : its.toArray[i]? = none := by
        have := List.getElem?_eq_none_iff.mp hx
        rw [rv.length] at this
        simp; omega
      refine ⟨i, [it, a], _, _, ended (T := fun h => h.IsTupleIter it a i ∧ h.IsTuple a its.toArray) (fun h z => let ⟨o, ho, _⟩ := z.1; ⟨o, ho⟩) (fun h h' z hk => ⟨z.1.at fun o e => hk it (by simp) o e, z.2.at fun o e => hk a (by simp) o e⟩)
        (fun s Q E z hE => wpAny_nextOf_tuple_end hh z.1 z.2 hge hE), (fun y e => nomatch e), Nat.le_refl _, fun _ => rfl, ⟨rfl, st, p'⟩, (fun y v e => nomatch e), fun h' z => absurd z (Nat.lt_irrefl _), by simp, fun b hb => ?_⟩
      rcases List.mem_cons.mp hb with q | q
      · exact .inl q
      · rw [List.mem_singleton.mp q]; exact .inr hl
  | str x =>
    obtain ⟨t, st⟩ := st
    cases (show xs = x.cps.toList.map fun c => V.str ⟨#[c]⟩ from hi)
    cases hx : (x.cps.toList.map fun c => V.str ⟨#[c]⟩)[i]? with
    | some y =>
      rw [List.getElem?_map] at hx
      obtain ⟨c, hc, rfl⟩ := Option.map_eq_some_iff.mp hx
      have hc' : x.cps[i]? = some c := by simpa using hc
      have hlt : i < x.cps.size := (Array.getElem?_eq_some_iff.mp hc').1
      refine ⟨_, _, _, _, Draws.text hh it x t, fun _ _ => hlt, Nat.le_of_lt hlt, (fun z => nomatch z), st, fun y v e hv => ?_, fun h' _ z => ⟨t, z⟩, by simp, fun b hb => .inl (List.mem_singleton.mp hb)⟩
      cases e
      obtain ⟨c', u, h1, rfl⟩ := hv
      rw [hc'] at h1
      cases h1
      exact ⟨u, rfl⟩
    | none =>
      have hge : x.cps[i]? = none := by
        have := List.getElem?_eq_none_iff.mp hx
        rw [List.length_map, Array.length_toList] at this
        simp; omega
      have fin : ∀ (T : String) (_ : T = "str_ascii_iterator" ∨ T = "str_iterator"), s.heap.IsStrIter it T x t i → ∃ n fp P St, DrawsIt X A N (.str x) it i s none n fp P St := fun T hT st' => by
        refine ⟨i, [it], _, _, ended (T := fun h => h.IsStrIter it T x t i) (fun h z => let ⟨o, ho, _⟩ := z; ⟨o, ho⟩) (fun h h' z hk => let ⟨o, ho, r⟩ := z; ⟨o, hk it (by simp) o ho, r⟩)
          (fun s Q E z hE => ?_), (fun y e => nomatch e), Nat.le_refl _, fun _ => rfl, ⟨rfl, st'⟩, (fun y v e => nomatch e), fun h' z => absurd z (Nat.lt_irrefl _), by simp, fun b hb => .inl (List.mem_singleton.mp hb)⟩
        rcases hT with rfl | rfl
        · exact wpAny_nextOf_ascii_end hh z hge hE
        · exact wpAny_nextOf_wide_end hh z hge hE
      refine fin _ ?_ st
      unfold strIterType
      split
      · exact .inl rfl
      · exact .inr rfl
end
theorem nin {fp : List Addr} {it N : Nat} (low : ∀ c ∈ fp, c = it ∨ c < N) (b : Nat) (h1 : b ≠ it := by omega) (h2 : N ≤ b := by omega) : b ∉ fp := fun z => (low b z).elim h1 (Nat.not_lt.mpr h2)
def ItZ (K : PySem.W.Frag) (r1 r2 : Src) : L2.It :=
  ⟨fun i H => ∃ xs ys x y, r1.is K H xs ∧ r2.is K H ys ∧ xs[i]? = some x ∧ ys[i]? = some y,
    fun i H v H' => ∃ T x y, v = .ref T ∧ H T = none ∧ H' = upd H T (.tup [x, y]) ∧ (∀ xs, r1.is K H xs → xs[i]? = some x) ∧ ∀ ys, r2.is K H ys → ys[i]? = some y,
    fun i H => ∃ xs ys, r1.is K H xs ∧ r2.is K H ys ∧ (xs[i]? = none ∨ ys[i]? = none)⟩
theorem turn_zipS {P : Program} {w : World} {K : PySem.W.Frag} {elts : List Expr} {kk : Nat} {tpos : Pos} {r1 r2 : Src} {N : Nat} (l1 : r1.lt N) (l2 : r2.lt N) :
    Turn P w K (.Tuple elts kk tpos) (ItZ K r1 r2) [N + 4, N + 2, N + 3, N, N + 1] (N + 4) (fun i h => IsZip h (N + 4) (N + 2) (N + 3) .none ∧ IsTupOf2 h (N + 2) (.ref N) (.ref (N + 1)) ∧ (∃ x y, IsTupOf2 h (N + 3) x y) ∧ r1.st N i h ∧ r2.st (N + 1) i h) where
  mem := by simp
  obj := fun i h st c hc => by
    obtain ⟨hz, hTI, ⟨x, y, hTO⟩, h1, h2⟩ := st
    have e' : c = N + 4 ∨ c = N + 2 ∨ c = N + 3 ∨ c = N ∨ c = N + 1 := by simpa using hc
    rcases e' with q | q | q | q | q
    · rw [q]; exact ⟨_, hz, fun v q => nomatch q⟩
    · rw [q]; exact ⟨_, hTI, fun v q => nomatch q⟩
    · rw [q]; exact ⟨_, hTO, fun v q => nomatch q⟩
    · rw [q]; exact Src.obj h1
    · rw [q]; exact Src.obj h2
  keep := fun i h h' st k => by
    obtain ⟨hz, hTI, ⟨x, y, hTO⟩, h1, h2⟩ := st
    exact ⟨k _ (by simp) _ hz, k _ (by simp) _ hTI, ⟨x, y, k _ (by simp) _ hTO⟩, Src.keep (fun o q => k N (by simp) o q) h1, Src.keep (fun o q => k (N + 1) (by simp) o q) h2⟩
  item := by
    intro X hP hw hK hc i pins s σ H E I hf st hg
    subst hP hw hK
    obtain ⟨hz, hTI, hTO, h1, h2⟩ := st
    obtain ⟨xs, ys, x, y, hx, hy, hxi, hyi⟩ := hg
    obtain ⟨n1, fp1, P1, St1, d1⟩ := draws_of (A := X.A.in1) (show X.A.in1.handled = none from I.ok.hd hc) I hx l1 (Nat.le_refl N) h1
    obtain ⟨n2, fp2, P2, St2, d2⟩ := draws_of (A := X.A.in1) (show X.A.in1.handled = none from I.ok.hd hc) I hy l2 (Nat.le_succ N) h2
    rw [hxi] at d1
    rw [hyi] at d2
    have k1 := d1.lt x rfl
    have k2 := d2.lt y rfl
    have S : ZipSep2 (N + 4) (N + 2) (N + 3) N (N + 1) fp1 fp2 := ⟨Nat.ne_of_lt (by omega : N + 2 < N + 4), Nat.ne_of_lt (by omega : N + 3 < N + 4), Nat.ne_of_lt (by omega : N + 2 < N + 3), Nat.ne_of_gt (by omega : N < N + 2), d1.mem, nin d1.low (N + 4), nin d1.low (N + 3), Nat.succ_ne_self (N + 1), d2.mem,
      nin d2.low (N + 4), nin d2.low (N + 3), nin d2.low N, nin d1.low (N + 1)⟩
    have W := WalksT.zipD2 (A := X.A) S d1.d d2.d
    have W2 := W.sub
    refine W.item i s _ E (by omega) ⟨hz, hTI, hTO, d1.st, d2.st⟩ fun T vals h' tk hP hle hT hm hk => ⟨_, rfl, W.go elts kk tpos i T _ _ E hm fun h'' st'' hk2 => ?_⟩
    obtain ⟨u, v, hu, hv, rfl⟩ := hP
    have hap : T ∉ [N + 4, N + 3, N, N + 1] := W.apart i T h' hm
    have hT2 : h''.IsTuple T #[u, v] := hT.at fun o e => hk2 T o hap e
    have new : ObjOk X.prog X.w (upd H T (.tup [x, y])) h'' T (.tup [x, y]) :=
      ⟨by show 2 ≤ sizeLine; decide, [u, v], .cons (d1.val x u rfl hu) (.cons (d2.val y v rfl hv) .nil), hT2⟩
    have sub : ∀ c, c ∉ [N + 4, N + 2, N + 3, N, N + 1] → c ∉ [N + 4, N + 3, N, N + 1] := fun c z q => z (by simp at q ⊢; rcases q with q | q | q | q <;> simp [q])
    have I1 : Inv X pins σ (upd H T (.tup [x, y])) { s with heap := h'', toks := tk } :=
      I.turnedNew (t' := tk) (ch := [N + 4, N + 2, N + 3, N, N + 1]) (fun c o hb q => hk2 c o (sub c hb) (hk c o (sub c hb) q)) hf hle new
    refine ⟨.ref T, _, I1, rfl, ⟨T, x, y, rfl, I.hok.fresh hle, rfl, fun l hl => by rw [Src.inj I hl hx]; exact hxi, fun l hl => by rw [Src.inj I hl hy]; exact hyi⟩, ⟨st''.1, st''.2.1, st''.2.2.1, d1.nx _ k1 st''.2.2.2.1, d2.nx _ k2 st''.2.2.2.2⟩, fun c hcm => ?_⟩
    have hzl : N + 4 < s.heap.objs.size := Heap.lt_size hz
    have hlt : c < s.heap.objs.size := by
      have e' : c = N + 4 ∨ c = N + 2 ∨ c = N + 3 ∨ c = N ∨ c = N + 1 := by simpa using hcm
      rcases e' with q | q | q | q | q <;> rw [q]
      · exact hzl
      · exact Nat.lt_of_le_of_lt (by omega : N + 2 ≤ N + 4) hzl
      · exact Nat.lt_of_le_of_lt (by omega : N + 3 ≤ N + 4) hzl
      · exact Nat.lt_of_le_of_lt (by omega : N ≤ N + 4) hzl
      · exact Nat.lt_of_le_of_lt (by omega : N + 1 ≤ N + 4) hzl
    rw [upd_ne (Nat.ne_of_lt (Nat.lt_of_lt_of_le hlt hle))]
    exact (hf c hcm).1
  done := by
    intro X hP hw hK hc i pins s σ H E I hf st hg
    subst hP hw hK
    obtain ⟨hz, hTI, ⟨a1, a2, hTO⟩, h1, h2⟩ := st
    obtain ⟨xs, ys, hx, hy, hend⟩ := hg
    obtain ⟨n1, fp1, P1, St1, d1⟩ := draws_of (A := X.A.in1) (show X.A.in1.handled = none from I.ok.hd hc) I hx l1 (Nat.le_refl N) h1
    obtain ⟨n2, fp2, P2, St2, d2⟩ := draws_of (A := X.A.in1) (show X.A.in1.handled = none from I.ok.hd hc) I hy l2 (Nat.le_succ N) h2
    have S : ZipSep2 (N + 4) (N + 2) (N + 3) N (N + 1) fp1 fp2 := ⟨Nat.ne_of_lt (by omega : N + 2 < N + 4), Nat.ne_of_lt (by omega : N + 3 < N + 4), Nat.ne_of_lt (by omega : N + 2 < N + 3), Nat.ne_of_gt (by omega : N < N + 2), d1.mem, nin d1.low (N + 4), nin d1.low (N + 3), Nat.succ_ne_self (N + 1), d2.mem,
      nin d2.low (N + 4), nin d2.low (N + 3), nin d2.low N, nin d1.low (N + 1)⟩
    have he : i = n1 ∨ i = n2 := hend.imp d1.end_ d2.end_
    exact wpAny_pyNext_zipD2_end (A := X.A) S d1.d d2.d hz hTI hTO d1.st d2.st d1.le d2.le he fun h' tk hk => ⟨rfl, I.turnedL (t' := tk) (ch := [N + 4, N + 2, N + 3, N, N + 1]) (fun c o hb q =>
      hk c o (fun q' => hb (by simp [q'])) (fun q' => hb (by simp [q'])) (fun q' => hb (by simp [q'])) (fun q' => hb (by simp [q'])) q) hf⟩
  self := fun A i s Q E st h => wpAny_pyIter_zip st.1 h
section
variable {prog : Program} {w : World} {A : Around} {E : Value → Shared → Prop} {s : Shared}
end
def SrcR (G : Gx) (m0 : List Addr) (H0 : Hp) (r : Src) (t : MP.It) : Prop := ∀ m S H i, Ext G m0 H0 m H → Sim G m S H →
  (t.next S i = some none → ∃ vs, r.is G.K H vs ∧ vs[i]? = none) ∧ ∀ d, t.next S i = some (some d) → ∃ vs v, r.is G.K H vs ∧ vs[i]? = some v ∧ RepV G m H v d
section
variable {G : Gx} {m : List Addr} {H : Hp}
theorem SrcR.mono {m H m' H' r t} (e : Ext G m H m' H') (h : SrcR G m H r t) : SrcR G m' H' r t := fun m S H i x s => h m S H i (e.trans x) s
theorem srcr_lst {n : Nat} {p : Addr} (h : m[n]? = some p) : SrcR G m H (.lst p) (.lst n) := fun m' S H' i x s => by
  have hp := x.pre _ _ h
  unfold MP.It.next
  cases q : lstAt S n with
  | none => exact ⟨fun e => by simp at e, fun d e => by simp at e⟩
  | some xs =>
    obtain ⟨p', vs, e1, sq, rv⟩ := s.seqL q
    rw [hp] at e1
    cases e1
    refine ⟨fun e => ⟨vs, sq, List.getElem?_eq_none ?_⟩, fun d e => ?_⟩
    · rw [rv.length]; exact List.getElem?_eq_none_iff.mp (Option.some.inj e)
    · obtain ⟨v, h1, h2⟩ := rv.get (Option.some.inj e)
      exact ⟨vs, v, sq, h1, h2⟩
theorem srcr_tup {xs : List D} {p : Addr} {vs : List V} (sq : SqT G.K H p vs) (rv : RepVs G m H vs xs) : SrcR G m H (.tup p) (.seq xs) := fun m' S H' i x s => by
  have sq := x.tup _ _ sq
  have rv := rv.mono x
  unfold MP.It.next
  refine ⟨fun e => ⟨vs, sq, List.getElem?_eq_none ?_⟩, fun d e => ?_⟩
  · rw [rv.length]; exact List.getElem?_eq_none_iff.mp (Option.some.inj e)
  · obtain ⟨v, h1, h2⟩ := rv.get (Option.some.inj e)
    exact ⟨vs, v, sq, h1, h2⟩
theorem srcr_str {l : List Nat} : SrcR G m H (.str ⟨l.toArray⟩) (.seq (l.map fun c => .str [c])) := fun m' S H' i x s => by
  unfold MP.It.next
  refine ⟨fun e => ⟨_, rfl, ?_⟩, fun d e => ?_⟩
  · have e : (l.map fun c => D.str [c])[i]? = none := Option.some.inj e
    have := List.getElem?_eq_none_iff.mp e
    rw [List.length_map] at this
    exact List.getElem?_eq_none (by simpa using this)
  · have e : (l.map fun c => D.str [c])[i]? = some d := Option.some.inj e
    rw [List.getElem?_map] at e
    obtain ⟨c, h1, rfl⟩ := Option.map_eq_some_iff.mp e
    exact ⟨_, .str ⟨#[c]⟩, rfl, by simp [h1], .str [c]⟩
theorem itr_zipS {r1 r2 : Src} {t1 t2 : MP.It} (h : SrcR G m H r1 t1) (h' : SrcR G m H r2 t2) : ItR G m H (ItZ G.K r1 r2) (.zip false [t1, t2]) := fun m' S H' i x s => by
  obtain ⟨h1, h2⟩ := h m' S H' i x s
  obtain ⟨k1, k2⟩ := h' m' S H' i x s
  unfold MP.It.next MP.It.nexts MP.It.nexts MP.It.nexts
  cases q1 : MP.It.next S t1 i with
  | none => exact ⟨fun e => by simp at e, fun d e => by simp at e⟩
  | some o1 =>
    cases q2 : MP.It.next S t2 i with
    | none => exact ⟨fun e => by simp at e, fun d e => by simp at e⟩
    | some o2 =>
      have a1 : ∃ vs, r1.is G.K H' vs ∧ ∀ d, o1 = some d → ∃ v, vs[i]? = some v ∧ RepV G m' H' v d := by
        cases o1 with
        | none => obtain ⟨vs, a, b⟩ := h1 q1; exact ⟨vs, a, fun d z => nomatch z⟩
        | some d => obtain ⟨vs, v, a, b, c⟩ := h2 d q1; exact ⟨vs, a, fun d z => by cases z; exact ⟨v, b, c⟩⟩
      have a2 : ∃ vs, r2.is G.K H' vs ∧ ∀ d, o2 = some d → ∃ v, vs[i]? = some v ∧ RepV G m' H' v d := by
        cases o2 with
        | none => obtain ⟨vs, a, b⟩ := k1 q2; exact ⟨vs, a, fun d z => nomatch z⟩
        | some d => obtain ⟨vs, v, a, b, c⟩ := k2 d q2; exact ⟨vs, a, fun d z => by cases z; exact ⟨v, b, c⟩⟩
      obtain ⟨vs, sq, rv⟩ := a1
      obtain ⟨ws, sq2, rw2⟩ := a2
      cases o1 with
      | none =>
        refine ⟨fun _ => ?_, fun d e => by simp at e⟩
        obtain ⟨vs, a, b⟩ := h1 q1
        exact ⟨vs, ws, a, sq2, .inl b⟩
      | some d1 =>
        cases o2 with
        | none =>
          refine ⟨fun _ => ?_, fun d e => by simp at e⟩
          obtain ⟨ws, a, b⟩ := k1 q2
          exact ⟨vs, ws, sq, a, .inr b⟩
        | some d2 =>
          refine ⟨fun e => by simp at e, fun d e => ?_⟩
          simp at e
          subst e
          obtain ⟨v, e1, r1⟩ := rv d1 rfl
          obtain ⟨v', e2, r2⟩ := rw2 d2 rfl
          refine ⟨⟨vs, ws, v, v', sq, sq2, e1, e2⟩, ?_⟩
          rintro y _ ⟨T, y1, y2, rfl, hT, rfl, hy, hy2⟩
          have z := hy vs sq
          rw [e1] at z; cases z
          have z := hy2 ws sq2
          rw [e2] at z; cases z
          exact ⟨Ext.new hT, sim_same s hT, .tup (SqT.of upd_same) (.cons (r1.mono (Ext.new hT)) (.cons (r2.mono (Ext.new hT)) .nil))⟩
end
def srcOf (S : Store) : D → Option MP.It
  | .str s => some (.seq (s.map fun c => .str [c]))
  | .tup xs => some (.seq xs)
  | .ref n => (match lstAt S n with
    | some _ => some (.lst n)
    | none => none)
  | _ => none
def zpP (x y : D) : P MP.It := fun S => (srcOf S x).bind fun t => (srcOf S y).map fun u => (.zip false [t, u], S)
abbrev iZipE : ME → ME → MI := i2 zpP
theorem src_begins {G : Gx} {X : Cx} {pins : List (Addr × Obj)} {σ : L2.St} {H : Hp} {s : Shared} {m : List Addr} {S : Store} (hK : G.K = X.K) (I : Inv X pins σ H s) (sim : Sim G m S H) {x : D} {v : V} {u : Value} {t : MP.It} (rd : RepV G m H v x) (rx : RelV v u) (e : srcOf S x = some t) :
    ∃ (r : Src) (o : Obj) (B0 : Heap → Prop), Begins u o B0 ∧ B0 s.heap ∧ r.lt s.heap.objs.size ∧ (∀ (h' : Heap) (it : Addr), h'.get? it = some o → r.st it 0 h') ∧ SrcR G m H r t := by
  unfold srcOf at e
  split at e
  · rename_i l
    cases rd.str_
    obtain ⟨tk, rfl⟩ := rx
    cases e
    exact ⟨.str ⟨l.toArray⟩, _, _, begins_text _ tk, trivial, trivial, fun h' it g => ⟨tk, _, g, rfl, rfl⟩, srcr_str⟩
  · rename_i xs
    obtain ⟨q, vs, rfl, hq, hv⟩ := rd.tup_
    cases rx
    cases e
    obtain ⟨its, rv, pt, hz⟩ := I.tuple (hK ▸ hq)
    have pt' : s.heap.IsTuple q its.toArray := pt
    obtain ⟨o1, ho1, _⟩ := id pt'
    exact ⟨.tup q, _, _, begins_tuple q its.toArray, pt', Heap.lt_size ho1, fun h' it g => ⟨_, g, rfl, rfl⟩, srcr_tup hq hv⟩
  · rename_i n
    obtain ⟨q, rfl, hq⟩ := rd.ref_
    cases rx
    split at e
    · rename_i xs hl
      cases e
      obtain ⟨q', vs, e1, sq, rv⟩ := sim.seqL hl
      rw [hq] at e1
      cases e1
      obtain ⟨its, rv, pl, hz⟩ := I.list (hK ▸ sq)
      exact ⟨.lst q, _, _, begins_list q its.toArray, pl.isList, pl.lt, fun h' it g => ⟨_, g, rfl, rfl⟩, srcr_lst hq⟩
    · cases e
  · cases e
section
variable {G : Gx} {X : Cx} {W : WX} {C : Cfg}
theorem i_zip {e e2 : Expr} {a b : ME} {p pos tpos : Pos} {elts : List Expr} {kk : Nat} (c : Ctx0 G X) (hg : Gl X "zip") (hm : X.mg "zip" = none) (he : PE X e (tE G W C a)) (he2 : PE X e2 (tE G W C b))
    (hs : starEach [e, e2] X.env = (false, eval e X.env) :: starEach [e2] X.env := by rfl) (h2 : starEach [e2] X.env = (false, eval e2 X.env) :: starEach [] X.env := by rfl) (hpl : (backTo pos (starEach [e2] X.env)).any (·.1) = false := by rfl) :
    PI X (.Tuple elts kk tpos) (.Call (.Name "zip" p) [e, e2] [] pos) (tI G W C (iZipE a b)) := ⟨fun pins s σ H R I h => by
  refine Call_ (ld_blt I hg hm PyProof.Rows.boot_zip (PyProof.Rows.callWith_type1 (thn ((pa_cons he (pa_cons he2 pa_nil h2) hs).run pos pins s σ H (fun vs H1 => ∃ x y, vs = [x, y] ∧ ∃ m S d1 d2, Sim G m S H1 ∧ RepV G m H1 x d1 ∧ RepV G m H1 y d2 ∧ postP G (ItR G) m H1 R (zpP d1 d2 S)) I
    (tX.imp (wI2 (Rp := ItR G) (f := zpP) h) fun x H1 z => tX.imp z fun y H2 z => ⟨x, y, rfl, z⟩)) fun us s1 ⟨vs, H1, I1, r1, q1⟩ => ?_) hs hpl))
  obtain ⟨x, y, rfl, m, S, d1, d2, sim, rd, rd2, q⟩ := q1
  obtain ⟨u1, u2, rfl, rx, rx2⟩ := vals2 r1
  unfold zpP at q
  cases e1 : srcOf S d1 with
  | none => rw [e1] at q; exact q.elim
  | some t1 =>
    cases e2 : srcOf S d2 with
    | none => rw [e1, e2] at q; exact q.elim
    | some t2 =>
      rw [e1, e2] at q
      obtain ⟨r1, o1, B1, B, b1, hl1, hst1, sr1⟩ := src_begins c.hK I1 sim rd rx e1
      obtain ⟨r2, o2, B2, B', b2, hl2, hst2, sr2⟩ := src_begins c.hK I1 sim rd2 rx2 e2
      refine zip_begins2 B B' b1 b2 fun h' hz hTI hTO ho1 ho2 hsz hk => wpAny_pyIter_zip hz ?_
      have I2 : Inv X pins σ H1 { s1 with heap := h' } := I1.kept (t' := s1.toks) hk
      refine ⟨s1.heap.objs.size + 4, [s1.heap.objs.size + 4, s1.heap.objs.size + 2, s1.heap.objs.size + 3, s1.heap.objs.size, s1.heap.objs.size + 1], _, _, H1, rfl, I2, turn_zipS hl1 hl2, ⟨hz, hTI, ⟨_, _, hTO⟩, hst1 _ _ ho1, hst2 _ _ ho2⟩, fun b hb => ?_, ?_⟩
      · have e' : b = s1.heap.objs.size + 4 ∨ b = s1.heap.objs.size + 2 ∨ b = s1.heap.objs.size + 3 ∨ b = s1.heap.objs.size ∨ b = s1.heap.objs.size + 1 := by simpa using hb
        have hle : s1.heap.objs.size ≤ b := by
          rcases e' with z | z | z | z | z
          · rw [z]; exact Nat.le_add_right _ _
          · rw [z]; exact Nat.le_add_right _ _
          · rw [z]; exact Nat.le_add_right _ _
          · rw [z]; exact Nat.le_refl _
          · rw [z]; exact Nat.le_add_right _ _
        exact I1.fpOk hle (I1.hok.fresh hle)
      · have z : R (ItZ G.K r1 r2) H1 := q m H1 _ Ext.refl sim (itr_zipS sr1 sr2)
        rw [c.hK] at z
        exact z⟩
end
end MP
namespace MP
open PySem PySem.Spec PyProof.Rows L2
inductive Ty where
  | non | bl | int | str | tup | lst | dct
deriving DecidableEq
def Ty.name : Ty → String
  | .non => "NoneType" | .bl => "bool" | .int => "int" | .str => "str" | .tup => "tuple" | .lst => "list" | .dct => "dict"
def Ty.le : Ty → Ty → Bool
  | .bl, .int => true
  | a, b => decide (a = b)
theorem kit_Ty (a b : Ty) : kitB a.name b.name = some (a.le b) := by
  cases a <;> cases b <;> decide +kernel
def tyOf (S : Store) : D → Option Ty
  | .non => some .non
  | .bl _ => some .bl
  | .int _ => some .int
  | .str _ => some .str
  | .tup _ => some .tup
  | .ref n => (match lstAt S n with
    | some _ => some .lst
    | none => (match S.get n with
      | some (.dct _) => some .dct
      | _ => none))
  | _ => none
def opIsA (T : Ty) (d : D) : P D := fun S => (tyOf S d).map fun t => (.bl (t.le T), S)
def bRepr : List D → P D
  | [x] => fun S => match snap S deep x with
    | some d => if d.showable = true ∧ d.shown.length ≤ line then some (.str d.shown.cps.toList, S) else none
    | none => (match x with
      | .ref n => (match S.get n with
        | some (.dct []) => some (.str [123, 125], S)
        | _ => none)
      | _ => none)
  | _ => P.bad
section
variable {G : Gx} {X : Cx} {W : WX} {C : Cfg} {m : List Addr} {H : Hp} {S : Store}
theorem tyx_of (hK : G.K = X.K) (sim : Sim G m S H) {v : V} {d : D} (r : RepV G m H v d) {t : Ty} (e : tyOf S d = some t) : TyX X.K H v (.type t.name) := by
  unfold tyOf at e
  split at e
  · cases e; cases r.non_; exact .base .non
  · cases e; cases r.bl_; exact .base (.bl _)
  · cases e; cases r.int_; exact .base (.int _)
  · cases e; cases r.str_; exact .base (.str _)
  · cases e
    obtain ⟨p, vs, rfl, hp, _⟩ := r.tup_
    rcases hp with (h | ⟨o, h⟩) | ⟨o, its, n, h1, h2, _⟩
    · exact .base (.tup h)
    · exact .fTuple h
    · exact .kTuple (hK ▸ h1) h2
  · split at e
    · rename_i xs hl
      cases e
      obtain ⟨p, rfl, hp⟩ := r.ref_
      obtain ⟨p', vs, e1, sq, _⟩ := sim.seqL hl
      rw [hp] at e1
      cases e1
      rcases sq with (h | ⟨o, h⟩) | ⟨o, its, n, h1, h2, _⟩
      · exact .base (.lst h)
      · exact .base (.frz h)
      · exact .kList (hK ▸ h1) h2
    · split at e
      · rename_i kvs hg
        cases e
        obtain ⟨p, rfl, hp⟩ := r.ref_
        obtain ⟨p', kv, e1, hq, _⟩ := sim.dct hg
        rw [hp] at e1
        cases e1
        exact .base (.dK hq)
      · cases e
  · cases e
theorem pe_tyn {x : Str} {T : String} {p : Pos} (hg : Gl X x) (hm : X.mg x = none) (hv : bootBuiltins x = some (.type T)) (hn : x ≠ "__name__" := by decide) (hd : (x == ("__debug__" : Str)) = false := by decide) :
    PE X (.Name x p) (fun σ H Q => Q (.ty T) H) := ⟨fun _ _ _ H _ I h => ld_blt I hg hm hv ⟨.ty T, H, I, rfl, h⟩ hn hd⟩
theorem r_isi {T : Ty} {e : Expr} {x : Str} {a : ME} {p q pos : Pos} (c : Ctx0 G X) (hg : Gl X "isinstance") (hm : X.mg "isinstance" = none) (hv : bootBuiltins "isinstance" = some (.builtin "isinstance")) (he : PE X e (tE G W C a))
    (hgT : Gl X x) (hmT : X.mg x = none) (hvT : bootBuiltins x = some (.type T.name)) (hn : x ≠ "__name__" := by decide) (hd : (x == ("__debug__" : Str)) = false := by decide)
    (h1 : starEach [e, .Name x q] X.env = (false, eval e X.env) :: starEach [.Name x q] X.env := by rfl) (h2 : starEach [.Name x q] X.env = (false, eval (.Name x q) X.env) :: starEach [] X.env := by rfl)
    (hpl : (backTo pos (starEach [.Name x q] X.env)).any (·.1) = false := by rfl) : PE X (.Call (.Name "isinstance" p) [e, .Name x q] [] pos) (tE G W C (e1 (opIsA T) a)) :=
  PE.weak (pe_callB call_isi hg hm hv (pa_cons he (pa_cons (pe_tyn hgT hmT hvT hn hd) pa_nil h2) h1) (he := h1) (hpl := hpl)) fun σ H Q h => by
    refine tX.imp (w1 (Rp := RepV G) (f := opIsA T) h) fun v H1 z => ?_
    obtain ⟨m, S, d, sim, rd, p⟩ := z
    unfold opIsA at p
    cases e1 : tyOf S d with
    | none => rw [e1] at p; exact p.elim
    | some t =>
      rw [e1] at p
      exact ⟨v, .ty T.name, .type t.name, .type T.name, t.le T, rfl, .ty _, tyx_of c.hK sim rd e1, kit_ty (kit_Ty t T), fin_val sim (.bl _) p⟩
theorem b_repr (c : Ctx0 G X) : CallR X (.builtin "repr") (rPA G bRepr) := by
  intro pins s σ H xs us Q I r h
  obtain ⟨m, S, as, sim, ra, p⟩ := h
  unfold bRepr at p
  split at p
  · rename_i y
    obtain ⟨x, rfl, rx⟩ := ra.one_
    obtain ⟨u, rfl, ru⟩ := vals1 r
    split at p
    · rename_i d hs
      split at p
      · rename_i hz
        have hsz : d.shown.length ≤ sizeLine := by rw [← line_eq]; exact hz.2
        obtain ⟨as, rd, dp, nd⟩ := snap_reads c.hK I sim _ _ _ _ _ rx hs ru
        have q : Q (.str d.shown) H := fin_val sim (show RepV G m H (.str d.shown) (.str d.shown.cps.toList) from .str d.shown.cps.toList) p
        have hu := c.hu
        have hdp : X.A.units + (d.depth + 1) < cLine := by
          have : deep = 40 := rfl
          omega
        have heap : ∀ (a : Addr), Reads s.heap (.ref a) d as → wpAny (model X.prog X.w) X.A (call (.builtin "repr") [.ref a]) (EP X pins σ Q) X.xe s := fun a rd =>
          PySem.repr_of_reads' rd hz.1 (fun z => by rw [nd] at z; cases z) c.gd hdp (fun _ _ e => e) (fun h' t tk hk => ⟨.str d.shown, H, I.kept (t' := tk) hk, ⟨t, rfl⟩, q⟩) hsz
        cases rd with
        | none => exact PySem.P.repr_of_none ⟨.str _, H, I.tok _, ⟨_, rfl⟩, q⟩
        | bool => exact PySem.P.repr_of_bool ⟨.str _, H, I.tok _, ⟨_, rfl⟩, q⟩
        | int => exact PySem.P.repr_of_int (of_decide_eq_true hz.1) ⟨.str _, H, I.tok _, ⟨_, rfl⟩, q⟩
        | str => exact PySem.P.repr_of_str ⟨.str _, H, I.tok _, ⟨_, rfl⟩, q⟩ hsz
        | list a1 a2 a3 a4 => exact heap _ (.list a1 a2 a3 a4)
        | tuple a1 a2 a3 a4 => exact heap _ (.tuple a1 a2 a3 a4)
        | dict a1 a2 a3 a4 a5 => exact heap _ (.dict a1 a2 a3 a4 a5)
      · exact p.elim
    · split at p
      · rename_i n
        split at p
        · rename_i hg
          obtain ⟨p1, rfl, hp⟩ := rx.ref_
          cases ru
          obtain ⟨p', kv, e1, hq, rk⟩ := sim.dct hg
          rw [hp] at e1
          cases e1
          cases rk
          obtain ⟨_, lo, vs, rel, o, es, ep, h1, h2, h3, _, h4, _⟩ := dk_of I.hok hq
          cases rel
          have he : es.toList = [] := by cases q : es.toList with
            | nil => rfl
            | cons a b => rw [q] at h4; cases h4
          have rd : Reads s.heap (.ref p1) (.dict []) (p1 :: [] ++ []) := .dict (kvs := []) h1 h2.1 h3 (by rw [he]; exact .nil) (by rw [he]; exact .nil)
          have hu := c.hu
          refine PySem.repr_of_reads' rd rfl (fun _ hm => ?_) c.gd (by show X.A.units + (1 + 1) < cLine; omega) (fun _ _ e => e) (fun h' t tk hk => ⟨.str ⟨#[123, 125]⟩, H, I.kept (t' := tk) hk, ⟨t, rfl⟩, ?_⟩) (by decide +kernel)
          · rcases List.mem_cons.mp hm with e | e
            · rw [e] at lo
              simp at lo
            · exact nomatch e
          · exact fin_val sim (show RepV G m H (.str ⟨#[123, 125]⟩) (.str [123, 125]) from .str [123, 125]) p
        · exact p.elim
      · exact p.elim
  · exact p.elim
end
def bListX : List D → P D
  | [.str s] => fun S => if s.length ≤ line then some (.ref S.size, S.push (.lst (s.map fun c => .str [c]))) else none
  | [.ref n] => fun S => match S.get n with
    | some (.dct kvs) => some (.ref S.size, S.push (.lst (kvs.map (·.1))))
    | _ => bListS [.ref n] S
  | l => bListS l
theorem vals_signs {l : List Nat} : ∀ {acc : List Value} {k : Nat}, acc.length + k = l.length → (∀ j v, acc[j]? = some v → ∃ c u, l[k + j]? = some c ∧ v = .str ⟨#[c]⟩ u) → Vals ((l.drop k).map fun c => V.str ⟨#[c]⟩) acc
  | [], k, h, _ => by
    rw [List.drop_eq_nil_of_le (by simp at h; omega)]
    exact .nil
  | v :: acc, k, h, hj => by
    obtain ⟨c, u, e, rfl⟩ := hj 0 v rfl
    have hk : k < l.length := (List.getElem?_eq_some_iff.mp e).1
    have e2 : l[k] = c := (List.getElem?_eq_some_iff.mp e).2
    rw [List.drop_eq_getElem_cons hk, e2]
    refine .cons ⟨u, rfl⟩ (vals_signs (by simp at h; omega) fun j v q => ?_)
    obtain ⟨c', u', h1, h2⟩ := hj (j + 1) v q
    exact ⟨c', u', by rw [show k + 1 + j = k + (j + 1) by omega]; exact h1, h2⟩
theorem reps_signs {G : Gx} {m : List Addr} {H : Hp} : ∀ l : List Nat, RepVs G m H (l.map fun c => V.str ⟨#[c]⟩) (l.map fun c => D.str [c])
  | [] => .nil
  | a :: r => .cons (.str [a]) (reps_signs r)
theorem b_listX {G : Gx} {X : Cx} {W : WX} (c : Ctx G X W) : CallR X (.type "list") (rPA G bListX) := by
  intro pins s σ H xs us Q I r h
  obtain ⟨m, S, as, sim, ra, p⟩ := h
  unfold bListX at p
  split at p
  · rename_i l
    obtain ⟨x, rfl, rx⟩ := ra.one_
    cases rx.str_
    obtain ⟨u, rfl, t, rfl⟩ := vals1 r
    split at p
    · rename_i hz
      have hz' : l.length ≤ sizeLine := by rw [sizeLine_eq]; exact hz
      refine PySem.call_list_str (I.ok.hd c.calm) _ t (fun h' tk acc c' kp e it => ?_) (by show l.toArray.size ≤ sizeLine; simpa using hz')
      have hv : Vals (l.map fun c => V.str ⟨#[c]⟩) acc.toList := by
        have := vals_signs (l := l) (acc := acc.toList) (k := 0) (by have := it.1; simp at this ⊢; exact this) fun j v q => by
          obtain ⟨c, u, h1, h2⟩ := it.2 j v (by simpa using q)
          exact ⟨c, u, by simpa using h1, h2⟩
        simpa using this
      refine ⟨.ref s.heap.objs.size, _, I.laid (t' := tk) kp (Nat.le_refl _) (show ObjOk X.prog X.w _ h' _ (.lst _) from ⟨by simpa using hz', acc.toList, c', hv, by rw [Array.toArray_toList]; exact e⟩), rfl, ?_⟩
      exact new_lst sim (reps_signs l) p _ (I.hok.fresh (Nat.le_refl _))
    · exact p.elim
  · rename_i n
    split at p
    · rename_i kvs hg
      obtain ⟨x, rfl, rx⟩ := ra.one_
      obtain ⟨p1, rfl, hp⟩ := rx.ref_
      obtain ⟨p', kv, e1, hq, rk⟩ := sim.dct hg
      rw [hp] at e1
      cases e1
      exact call_listD c.calm pins s σ H _ us Q I r ⟨p1, kv, rfl, .inl hq, new_lst sim rk.keys p⟩
    · exact b_list c.hK pins s σ H xs us Q I r ⟨m, S, _, sim, ra, p⟩
  · exact b_list c.hK pins s σ H xs us Q I r ⟨m, S, as, sim, ra, p⟩
theorem bo_isinstance : bootBuiltins "isinstance" = some (.builtin "isinstance") := by decide +kernel
theorem bo_repr : bootBuiltins "repr" = some (.builtin "repr") := by decide +kernel
theorem bo_bool : bootBuiltins "bool" = some (.type "bool") := by decide +kernel
theorem bo_str : bootBuiltins "str" = some (.type "str") := by decide +kernel
end MP
namespace MP
open PySem PySem.Spec PyProof.Rows L2
def mPop0 : D → List D → P D
  | .ref n, [] => fun S => match S.get n with
    | some (.lst xs) => (match xs[xs.length - 1]? with
      | some y => some (y, S.set n (.lst xs.dropLast))
      | none => none)
    | _ => none
  | _, _ => P.bad
def intsOf : List D → Option (List Int)
  | [] => some []
  | .int i :: r => (intsOf r).map (i :: ·)
  | _ => none
section
variable {G : Gx} {X : Cx} {W : WX} {C : Cfg} {m : List Addr} {H : Hp}
theorem RepVs.dropLast {vs : List V} {ds : List D} (h : RepVs G m H vs ds) : RepVs G m H vs.dropLast ds.dropLast := by
  rw [List.dropLast_eq_take, List.dropLast_eq_take, h.length]; exact h.take _
theorem RepVs.erase {vs : List V} {ds : List D} (k : Nat) (h : RepVs G m H vs ds) : RepVs G m H (vs.eraseIdx k) (ds.eraseIdx k) := by
  rw [List.eraseIdx_eq_take_drop_succ, List.eraseIdx_eq_take_drop_succ]; exact (h.take _).append (h.drop _)
theorem m_pop0 : MtR X "list.pop" (rMt G mPop0) := by
  intro pins s σ H x xs v us Q I rx rs h
  obtain ⟨m, S, d, as, sim, rd, ra, p⟩ := h
  unfold mPop0 at p
  split at p
  · rename_i n
    obtain ⟨q, rfl, hq⟩ := rd.ref_
    cases ra.nil_
    split at p
    · rename_i xs hg
      split at p
      · rename_i y hy
        obtain ⟨q', vs, e1, e2, rv⟩ := sim.lst hg
        rw [hq] at e1
        cases e1
        obtain ⟨y', h1, h2⟩ := rv.get hy
        have mu : Mut1 (H q) := by rw [e2]; trivial
        have ex : Ext G m H m (upd H q (.lst vs.dropLast)) := Ext.mut mu
        exact mt_pop pins s σ H _ _ v us Q I rx rs ⟨q, vs, y', rfl, rfl, e2, by rw [rv.length]; exact h1,
          p m _ _ ex (sim_set sim hg rfl rfl hq mu (.lst upd_same (rv.mono ex).dropLast)) (h2.mono ex)⟩
      · exact p.elim
    · exact p.elim
  · exact p.elim
theorem r_bm0 {id T : String} {name : Str} {pos apos : Pos} {o : Expr} {eo : ME} {ty : D → Store → Bool} {f : D → List D → P D} (pa : PlainAttrs T) (slot : Slot T name id) (hto : typeOf (.builtin id) = pure (.type "method_descriptor")) (hm : MtR X id (rMt G f))
    (hty : ∀ m S H x d, Sim G m S H → RepV G m H x d → ty d S = true → tyV X.K T x H) (ho : PE X o (tE G W C eo))
    (hbase : attributeBase o name X.env (eval o X.env) = eval o X.env := by rfl) (hline : (apos.endLine == pos.line) = true := by rfl) :
    PE X (.Call (.Attribute o name apos) [] [] pos) (tE G W C (eBM ty f eo aNil)) :=
  PE.weak (pe_bm0 pa slot hto hm ho hbase hline) fun σ H Q h => by
    have h1 := tX.bind (Ra := RepV G) (k := fun C σ x S => if ty x S = true then ((aNil C σ).bind fun xs => M.of (f x xs)) S else .bad) h
    refine tX.imp h1 fun x H1 z => ?_
    obtain ⟨m, S, ls, d, s, r, rd, p⟩ := z
    simp only at p
    by_cases ht : ty d S = true
    · rw [if_pos ht] at p
      exact ⟨hty _ _ _ _ _ s rd ht, m, S, d, [], s, rd, .nil, post.of p⟩
    · rw [if_neg ht] at p
      exact p.elim
end
end MP
namespace MP
open PySem PySem.Spec PyProof.Rows L2
def isTup1 : PyData → Bool
  | .tuple (_ :: _) => true
  | _ => false
def isPlainK : PyData → Bool
  | .none => false
  | .tuple _ => false
  | _ => true
def okSort (ds : List PyData) : Bool := (ds.all fun d => ds.all fun e => PySem.W.alike d e) && (ds.all isTup1 || ds.all isPlainK)
def leP (p q : D × PyData) : Bool := !PySem.W.dataLt q.2 p.2
def sortD (xs : List D) (ds : List PyData) : List D := ((xs.zip ds).mergeSort leP).map Prod.fst
def bSorted : List D → P D
  | [.ref n] => fun S => match lstAt S n with
    | some xs => (match snaps S deep xs with
      | some ds => if okSort ds = true then some (.ref S.size, S.push (.lst (sortD xs ds))) else none
      | none => none)
    | none => none
  | _ => P.bad
theorem okSort_spec {ds : List PyData} (h : okSort ds = true) : PySem.W.AllAlike ds ∧ PySem.W.Sortable ds := by
  unfold okSort at h
  rw [Bool.and_eq_true, Bool.or_eq_true] at h
  refine ⟨fun d hd e he => List.all_eq_true.mp (List.all_eq_true.mp h.1 d hd) e he, h.2.imp (fun z d hd => ?_) fun z d hd => ?_⟩
  · have := List.all_eq_true.mp z d hd
    cases d with
    | tuple l =>
      cases l with
      | nil => cases this
      | cons x r => exact ⟨x, r, rfl⟩
    | _ => cases this
  · have := List.all_eq_true.mp z d hd
    cases d with
    | none => cases this
    | tuple l => cases this
    | _ => exact ⟨(fun z => nomatch z), (fun _ z => nomatch z)⟩
section
variable {G : Gx} {X : Cx} {m : List Addr} {H : Hp} {pins : List (Addr × Obj)} {σ : L2.St} {s : Shared} {S : Store}
def SR1 (G : Gx) (m : List Addr) (H : Hp) (h : Heap) (u : Value) (p : D × PyData) : Prop := (∃ v, RepV G m H v p.1 ∧ RelV v u) ∧ (∃ as, Reads h u p.2 as) ∧ p.2.depth ≤ deep
theorem sr_all (hK : G.K = X.K) (I : Inv X pins σ H s) (sim : Sim G m S H) {h' : Heap} (hk : ∀ b o, s.heap.get? b = some o → h'.get? b = some o) : ∀ {xs : List D} {ds : List PyData} {vs : List V} {us : List Value}, snaps S deep xs = some ds → RepVs G m H vs xs → Vals vs us → PySem.W.EachIs (SR1 G m H h') us (xs.zip ds)
  | [], ds, vs, us, hb, rr, rw' => by
    rw [rr.nil_] at rw'
    cases rw'
    exact .nil
  | d :: xs, ds, vs, us, hb, rr, rw' => by
    unfold snaps optAll at hb
    obtain ⟨w, ws, rfl, r1, r2⟩ := rr.cons_
    cases rw' with
    | @cons _ y _ us' q1 q2 =>
      cases e1 : snap S deep d with
      | none => rw [e1] at hb; cases hb
      | some b =>
        cases e2 : optAll (snap S deep) xs with
        | none => rw [e1, e2] at hb; cases hb
        | some bs' =>
          rw [e1, e2] at hb
          cases hb
          obtain ⟨as, rd, dp, _⟩ := snap_reads hK I sim _ _ _ _ _ r1 e1 q1
          exact .cons ⟨⟨w, r1, q1⟩, ⟨as, PyProof.Rows.Reads.keeps hk rd⟩, dp⟩ (sr_all hK I sim hk (ds := bs') e2 r2 q2)
theorem sr_snd {R : Value → D × PyData → Prop} {R' : Value → PyData → Prop} (i : ∀ u p, R u p → R' u p.2) : ∀ {us : List Value} {ps : List (D × PyData)}, PySem.W.EachIs R us ps → PySem.W.EachIs R' us (ps.map Prod.snd)
  | _, _, .nil => .nil
  | _, _, .cons a b => .cons (i _ _ a) (sr_snd i b)
theorem each_snd {P : PyData → Prop} : ∀ {us : List Value} {ds : List PyData}, PySem.W.EachIs (fun _ d => P d) us ds → ∀ d ∈ ds, P d
  | _, _, .nil, _, hd => nomatch hd
  | _, _, .cons a b, d, hd => by
    rcases List.mem_cons.mp hd with z | z
    · rw [z]; exact a
    · exact each_snd b d z
theorem sr_fst {h : Heap} : ∀ {us : List Value} {ps : List (D × PyData)}, PySem.W.EachIs (SR1 G m H h) us ps → ∃ vs, RepVs G m H vs (ps.map Prod.fst) ∧ Vals vs us
  | _, _, .nil => ⟨[], .nil, .nil⟩
  | _, _, .cons a b => by
    obtain ⟨vs, h1, h2⟩ := sr_fst b
    obtain ⟨⟨v, h3, h4⟩, _⟩ := a
    exact ⟨v :: vs, .cons h3 h1, .cons h4 h2⟩
theorem zip_snd : ∀ {xs : List D} {ds : List PyData}, snaps S deep xs = some ds → (xs.zip ds).map Prod.snd = ds
  | [], ds, h => by unfold snaps optAll at h; cases h; rfl
  | d :: xs, ds, h => by
    unfold snaps optAll at h
    cases e1 : snap S deep d with
    | none => rw [e1] at h; cases h
    | some b =>
      cases e2 : optAll (snap S deep) xs with
      | none => rw [e1, e2] at h; cases h
      | some bs' =>
        rw [e1, e2] at h
        cases h
        show b :: (xs.zip bs').map Prod.snd = b :: bs'
        rw [zip_snd (xs := xs) (ds := bs') e2]
theorem b_sorted (c : Ctx0 G X) : CallR X (.builtin "sorted") (rPA G bSorted) := by
  intro pins s σ H xs us Q I r h
  obtain ⟨m, S, as, sim, ra, p⟩ := h
  unfold bSorted at p
  split at p
  · rename_i n
    obtain ⟨x, rfl, rx⟩ := ra.one_
    obtain ⟨q, rfl, hq⟩ := rx.ref_
    obtain ⟨u, rfl, ru⟩ := vals1 r
    cases ru
    split at p
    · rename_i ys hl
      split at p
      · rename_i ds hs
        split at p
        · rename_i hok
          obtain ⟨hal, hsb⟩ := okSort_spec hok
          obtain ⟨q', vs, e1, hq', hv⟩ := sim.seqL hl
          rw [hq] at e1
          cases e1
          obtain ⟨its, rv, pl, hz⟩ := I.list (c.hK ▸ hq')
          have hz' : its.length ≤ sizeLine := by rw [← rv.length]; exact hz
          have each := sr_all c.hK I sim (h' := PySem.W.sortingHeap (PySem.W.copyHeap s.heap its) (s.heap.objs.size + 1) its) (fun b o e => PySem.W.sorting_copy_old e) hs hv rv
          have dps : ∀ d ∈ ds, d.depth ≤ deep := fun d hd => by
            have e := sr_snd (R' := fun _ d => d.depth ≤ deep) (fun u p h => h.2.2) each
            rw [zip_snd hs] at e
            exact each_snd e d hd
          have e2 := sr_snd (R' := fun u d => ∃ as, Reads (PySem.W.sortingHeap (PySem.W.copyHeap s.heap its) (s.heap.objs.size + 1) its) u d as) (fun u p h => h.2.1) each
          rw [zip_snd hs] at e2
          have hu := c.hu
          refine PySem.W.sorted_vals pl.isList (PySem.W.SortsAt.data (s := { s with heap := PySem.W.sortingHeap (PySem.W.copyHeap s.heap its) (s.heap.objs.size + 1) its }) e2 hal hsb fun d hd => by
            have := dps d hd
            show X.A.units + 1 + 1 + d.depth < cLine
            have : deep = 40 := rfl
            omega) hz' ?_
          have out := PySem.W.sortVals_each (κ := PySem.W.dataKind (PySem.W.sortingHeap (PySem.W.copyHeap s.heap its) (s.heap.objs.size + 1) its) ds) (rev := false) (fun p : D × PyData => PySem.W.keyToks p.2) each (by
            have mem : ∀ {us : List Value} {ps : List (D × PyData)}, PySem.W.EachIs (SR1 G m H (PySem.W.sortingHeap (PySem.W.copyHeap s.heap its) (s.heap.objs.size + 1) its)) us ps → (∀ p ∈ ps, p.2 ∈ ds) → PySem.W.EachIs (fun v (b : D × PyData) => (PySem.W.dataKind (PySem.W.sortingHeap (PySem.W.copyHeap s.heap its) (s.heap.objs.size + 1) its) ds).keyOf v = some (PySem.W.keyToks b.2)) us ps := by
              intro us ps h hm
              induction h with
              | nil => exact .nil
              | cons a _ ih =>
                obtain ⟨_, ⟨as, rd⟩, _⟩ := a
                exact .cons (PySem.W.dataKind_some hal (hm _ (List.mem_cons_self ..)) rd) (ih fun p hp => hm p (List.mem_cons_of_mem _ hp))
            exact mem each fun p hp => (List.of_mem_zip hp).2)
          obtain ⟨ws, h1, h2⟩ := sr_fst out
          obtain ⟨ep, he'⟩ := PyProof.Rows.sortedAll_at s.heap its (PySem.W.sortVals (PySem.W.dataKind (PySem.W.sortingHeap (PySem.W.copyHeap s.heap its) (s.heap.objs.size + 1) its) ds) false its its).toArray
          have hlen : ws.length ≤ sizeLine := by
            rw [h2.length, PySem.W.sortVals_length _ rfl]
            exact hz'
          exact ⟨.ref _, upd H (s.heap.objs.size + 1) (.lst ws), I.laid (t' := s.toks) (fun _ _ => PyProof.Rows.sortedAll_old) (Nat.le_succ _) ⟨hlen, _, ep, h2, he'⟩, rfl, new_lst sim h1 p _ (I.hok.fresh (Nat.le_succ _))⟩
        · exact p.elim
      · exact p.elim
    · exact p.elim
  · exact p.elim
end
theorem bo_sorted : bootBuiltins "sorted" = some (.builtin "sorted") := by decide +kernel
end MP
namespace MP
open PySem PySem.Spec PyProof.Rows L2
section
open PySem.AutoSeq1
end
section
variable {G : Gx} {X : Cx} {W : WX} {C : Cfg}
end
end MP
namespace MP
open PySem PySem.Spec PyProof.Rows L2
section
variable {G : Gx} {X : Cx} {W : WX} {C : Cfg}
end
end MP
namespace PySem
namespace MPX
open PySem.W PySem.Calls PyProof.Rows PySem.HandSPX Builtin Builtin.ObjectAttr
structure EB (B newId initId : String) (bm : List Value) : Prop where
  f : ExcBaseFacts B newId initId bm
  pass : ∀ self, refuseLoop self "__setattr__" bm = pure ()
  obj : bm.contains (.type "object") = true
section
variable {prog : Program} {w : World} {A : Around} {E : Value → Shared → Prop} {R : Result → Shared → Prop} {hp : Heap} {g : Array GenState} {d : Drawn} {t : Nat} {os : OsState} {B newId initId : String} {bm : List Value}
theorem osa_first {K : W.Frag} {fld : Str} {tk : Tok} {val : Value} {x C : Addr} {arr : Array Value} {cd : ClassData} (eb : EB B newId initId bm)
    (hk : K.In hp) (ob : hp.get? x = some { cls := .ref C, data := .fields arr }) (isC : W.clsIn K C = some cd) (mr : cd.mro = .ref C :: bm) (dd : cd.hasDict = true) (no : W.findIn K (.ref C) fld = some none)
    (fin : ∀ h2 tk2 dx, (∀ b o, b ≠ x → hp.get? b = some o → h2.get? b = some o) → hp.objs.size ≤ dx → dx ≠ x → h2.get? x = some { cls := .ref C, dict := some dx, data := .fields arr } →
      h2.Ns1 dx (fun y => if y = fld then some val else none) → R (.ok (.ret .none)) ⟨h2, g, d, tk2, os⟩) :
    codeAny (model prog w) A (.call (.builtin "object.__setattr__") ⟨[.ref x, .str fld tk, val], []⟩) R ⟨hp, g, d, t, os⟩ := by
  have inst : W.InstAt hp x { cls := .ref C, data := .fields arr } C none := ⟨ob, rfl, rfl, trivial⟩
  have st := F.store_object
  have nonempty : cd.mro.isEmpty = false := by rw [mr]; rfl
  have isObj : cd.mro.contains (.type "object") = true := by rw [mr, List.contains_cons, eb.obj, Bool.or_true]
  have apart : x ≠ hp.objs.size := Nat.ne_of_lt (Heap.lt_size ob)
  have lkS : W.Looks (model prog w) hp (isInstance (.ref x) (.type "object")) true := inst.type.andThen (W.looks_mroIn hk (by unfold W.mroIn; rw [isC, Option.bind_some, if_neg (by rw [nonempty]; decide), isObj]))
  refine codeAny_call_builtin st.slot.plain st.entry (@W.check_slot (model prog w) _ _ ⟨hp, g, d, t, os⟩ "object.__setattr__" "object" "__setattr__" (.ref x) [.str fld tk, val] [] _ st.kind st.split lkS (st.args (.ref x) (.str fld tk) val) ?_)
  have lkM : W.Looks (model prog w) hp (mroOf (.ref C)) cd.mro := (W.looks_clsIn hk isC).andThen .now
  have lkT : W.Looks (model prog w) hp (storeTaker? none) none := .now
  have lkC : W.Looks (model prog w) hp (classData C) cd := W.looks_clsIn hk isC
  rw [W.osa_eq, refuse_eq]
  refine wpAny_bind (wpAny_bind (inst.type.at (wpAny_bind (lkM.at ?_))))
  rw [mr, refuseLoop_ref, eb.pass]
  refine wpAny_pure (wpAny_bind (inst.type.at (wpAny_bind ((W.looks_findIn hk no).at (wpAny_bind (lkT.at ?_))))))
  show wpAny _ _ (storeInOwnDict (.ref x) (.ref C) (.str fld tk) fld val false) _ _ _
  obtain ⟨nm, bs, mro, ns, qn, hd, sn, sb, ab, col, del⟩ := cd
  dsimp only at dd
  subst dd
  unfold storeInOwnDict ownDictForStores
  repeat (first | with_reducible refine store_in_new ?_ ?_ | with_reducible refine wpAny_loadPart_at ob ?_ | with_reducible refine lkC.at ?_ | wp_step)
  · exact ⟨_, #[], _, (Heap.get?_update_ne _ _ _ _ apart.symm).trans (Heap.get?_push_at rfl rfl), rfl, fun e he => absurd he (by simp), fun _ => rfl⟩
  · intro h2 tk2 ns2 same
    have ob2 : (hp.push { cls := .type "dict", data := .dict #[] }).get? x = some { cls := .ref C, data := .fields arr } := Heap.get?_push_of_some _ ob
    refine fin h2 tk2 hp.objs.size (fun b o hb ho => ?_) (Nat.le_refl _) apart.symm ?_ ns2
    · exact (same.2 b (Nat.ne_of_lt (Heap.lt_size ho))).trans ((Heap.get?_update_ne _ _ _ _ hb).trans (Heap.get?_push_of_some _ ho))
    · exact (same.2 x apart).trans (Heap.get?_update_self _ ob2 rfl)
end
theorem eb_VE : EB "ValueError" "ValueError.__new__" "ValueError.__init__" [.type "ValueError", .type "Exception", .type "BaseException", .type "object"] := ⟨F.excBase_ValueError, fun s => F.store_ValueError.passes s, by decide +kernel⟩
theorem eb_LE : EB "LookupError" "LookupError.__new__" "LookupError.__init__" [.type "LookupError", .type "Exception", .type "BaseException", .type "object"] := ⟨F.excBase_LookupError, fun s => F.store_LookupError.passes s, by decide +kernel⟩
theorem eb_RE : EB "RuntimeError" "RuntimeError.__new__" "RuntimeError.__init__" [.type "RuntimeError", .type "Exception", .type "BaseException", .type "object"] := ⟨F.excBase_RuntimeError, fun s => F.store_RuntimeError.passes s, by decide +kernel⟩
theorem eb_OE : EB "OverflowError" "OverflowError.__new__" "OverflowError.__init__" [.type "OverflowError", .type "ArithmeticError", .type "Exception", .type "BaseException", .type "object"] := ⟨F.excBase_OverflowError, fun s => F.store_OverflowError.passes s, by decide +kernel⟩
end MPX
end PySem
namespace MP
open PySem PySem.Spec PyProof.Rows L2 PySem.MPX
structure EBase (B newId initId : String) (bm : List Value) : Prop where
  eb : EB B newId initId bm
  ty : typeOf (.type B) = pure (.type "type")
  stub : Manifest.isStub B = false
  boot : bootBuiltins (Str.ofString B) = some (.type B)
  init : ∀ K : PySem.W.Frag, PySem.W.findCls K (.type B) (.type "type") "__init__" = some (.val (.builtin initId))
  han : PySem.W.handedIn (.builtin initId) = true
theorem ebase_VE : EBase "ValueError" "ValueError.__new__" "ValueError.__init__" [.type "ValueError", .type "Exception", .type "BaseException", .type "object"] := ⟨eb_VE, by kernel_rfl, by decide +kernel, by decide +kernel, fun K => by kernel_rfl, by decide +kernel⟩
theorem ebase_LE : EBase "LookupError" "LookupError.__new__" "LookupError.__init__" [.type "LookupError", .type "Exception", .type "BaseException", .type "object"] := ⟨eb_LE, by kernel_rfl, by decide +kernel, by decide +kernel, fun K => by kernel_rfl, by decide +kernel⟩
theorem ebase_RE : EBase "RuntimeError" "RuntimeError.__new__" "RuntimeError.__init__" [.type "RuntimeError", .type "Exception", .type "BaseException", .type "object"] := ⟨eb_RE, by kernel_rfl, by decide +kernel, by decide +kernel, fun K => by kernel_rfl, by decide +kernel⟩
theorem ebase_OE : EBase "OverflowError" "OverflowError.__new__" "OverflowError.__init__" [.type "OverflowError", .type "ArithmeticError", .type "Exception", .type "BaseException", .type "object"] := ⟨eb_OE, by kernel_rfl, by decide +kernel, by decide +kernel, fun K => by kernel_rfl, by decide +kernel⟩
structure EC (K : PySem.W.Frag) (C : Addr) (newId : String) (bm : List Value) : Prop where
  cls : ∃ nm q N bs sn sub ab col dd k0 k1 k2 k3 k5, K.lookup C = some (excClassObj nm q C N bs bm true sn sub ab col dd k0 k1 k2 k3 k5 newId)
  sa : PySem.W.findIn K (.ref C) "__setattr__" = some (some (.builtin "object.__setattr__"))
  exC : PySem.W.subIn K (.ref C) (.type "BaseException") = some true
  tyC : PySem.W.typeIn K (.ref C) = some (.type "type")
  kC : PySem.W.keepIn K (.ref C) = true
def ecL (K : PySem.W.Frag) (C : Addr) (newId : String) (bm : List Value) : Bool := match K.lookup C with
  | some ⟨.type ty, _, .cls cd, sl⟩ => (match sl.toList with
    | [_, _, _, _, some (.builtin n), _] => decide (ty = "type") && (decide (n = newId) && (!cd.hasDel && (cd.hasDict && decide (cd.mro = .ref C :: bm))))
    | _ => false)
  | _ => false
def ecB (K : PySem.W.Frag) (C : Addr) (newId : String) (bm : List Value) : Bool := ecL K C newId bm && (decide (PySem.W.findIn K (.ref C) "__setattr__" = some (some (.builtin "object.__setattr__"))) && (decide (PySem.W.subIn K (.ref C) (.type "BaseException") = some true) &&
  (decide (PySem.W.typeIn K (.ref C) = some (.type "type")) && PySem.W.keepIn K (.ref C))))
theorem ecB_ok {K : PySem.W.Frag} {C : Addr} {newId : String} {bm : List Value} (h : ecB K C newId bm = true) : EC K C newId bm := by
  unfold ecB at h
  simp only [Bool.and_eq_true, decide_eq_true_eq] at h
  obtain ⟨h0, h1, h2, h3, h4⟩ := h
  refine ⟨?_, h1, h2, h3, h4⟩
  unfold ecL at h0
  split at h0
  · rename_i ty dd cd sl ho
    split at h0
    · rename_i k0 k1 k2 k3 n k5 hs
      simp only [Bool.and_eq_true, decide_eq_true_eq, Bool.not_eq_true'] at h0
      obtain ⟨rfl, rfl, e3, e4, e5⟩ := h0
      obtain ⟨nm, bs, mro, ns, qn, hd, sn, sub, ab, col, del⟩ := cd
      dsimp only at e3 e4 e5
      subst e3 e4 e5
      obtain ⟨l⟩ := sl
      simp only at hs
      subst hs
      exact ⟨nm, qn, ns, bs, sn, sub, ab, col, dd, k0, k1, k2, k3, k5, ho⟩
    · cases h0
  · cases h0
section
variable {X : Cx} {pins : List (Addr × Obj)} {σ : L2.St} {H : Hp} {s : Shared} {a C : Addr} {fld : Str} {y : V} {u : Value} {A : Around} {E : Value → Shared → Prop} {B newId initId : String} {bm : List Value}
theorem exc_first {Q : Unit → Shared → Prop} (eb : EBase B newId initId bm) (T : EC X.K C newId bm) (I : Inv X pins σ H s) (e : H a = some (exo a C none)) (no : PySem.W.findIn X.K (.ref C) fld = some none) (ry : RelV y u)
    (fin : ∀ dx s2, H dx = none → dx ≠ a → Inv X pins σ (upd (upd H dx (exd dx [(fld, y)])) a (exo a C (some dx))) s2 → Q () s2) : wpAny (model X.prog X.w) A (setAttr (.ref a) fld u) Q E s := by
  obtain ⟨nm, q, N, bs, sn, sub, ab, col, dd, k0, k1, k2, k3, k5, hC⟩ := T.cls
  have isC : PySem.W.clsIn X.K C = some { name := nm, bases := bs, mro := .ref C :: bm, ns := N, qualname := q, hasDict := true, slotNames := sn, subclasses := sub, abstract := ab, collection := col, hasDel := false } := by unfold PySem.W.clsIn; rw [hC] <;> rfl
  obtain ⟨t1, ob⟩ := exo_at I.hok e
  obtain ⟨hp, g, d, t, os⟩ := s
  refine PySem.W.set_plain I.kIn (ox := { cls := .ref C, dict := none, data := .fields #[.ref t1, .none, .none, .none, .bool false, .none] }) (od := none) ⟨ob, rfl, rfl, trivial⟩ T.sa ?_
  refine osa_first eb.eb I.kIn ob isC rfl rfl no (fun h2 tk2 dx kp far apart ob2 ns2 => ?_)
  have fr : H dx = none := I.hok.fresh far
  have young : ∀ {b : Addr} {o : Obj}, hp.get? b = some o → b ≠ dx := fun {b o} z => Nat.ne_of_lt (Nat.lt_of_lt_of_le (Heap.lt_size z) far)
  have notA : ∀ {b : Addr}, H b = none → b ≠ a := fun {b} n z => by
    subst z
    rw [e] at n
    cases n
  have U : Un X.fs [] H (upd (upd H dx (exd dx [(fld, y)])) a (exo a C (some dx))) hp h2 := {
    keep := fun b o z n _ _ => kp b o (notA n) z
    slot := fun b o z n _ _ => ⟨o.slots, kp b o (notA n) z⟩
    free := fun b o z n _ => by rw [upd_ne (notA n), upd_ne (young z)]; exact n
    there := fun b o z _ => by
      by_cases same : b = a
      · exact ⟨_, by rw [same]; exact ob2⟩
      · exact ⟨o, kp b o same z⟩
    tups := fun b xs z => by rw [upd_ne (at_ne e z exo_tup), upd_ne (ne_of_none z fr)]; exact z
    frzs := fun b o v z => by rw [upd_ne (at_ne e z exo_frz), upd_ne (ne_of_none z fr)]; exact z
    tbls := fun b ps z => ⟨#[], by rw [upd_ne (at_ne e z exo_tbl), upd_ne (ne_of_none z fr), z]; simp⟩ }
  refine fin dx _ fr apart (I.un (t' := tk2) U fun b o z => ?_)
  by_cases same : b = a
  · subst same
    rw [upd_same] at z
    cases z
    exact exo_ok ob2
  · rw [upd_ne same] at z
    by_cases isD : b = dx
    · subst isD
      rw [upd_same] at z
      cases z
      exact exd_ok ns2 (relO_put (fs := []) ry fun g => True.intro)
    · rw [upd_ne isD] at z
      refine (I.hok b o z).stay (fun c v hc z2 => kp c v ?_ z2) (fun c hc => ?_) (fun c xs hc => ?_)
      · rcases hc with hc | hc
        · rw [hc]; exact same
        · exact at_ne e hc exo_own
      · rw [upd_ne (at_ne e hc exo_own), upd_ne (ne_of_none hc fr)]; exact hc
      · rw [upd_ne (at_ne e hc exo_tup), upd_ne (ne_of_none hc fr)]; exact hc
theorem base_init {us : List Value} {Q : Value → Shared → Prop} (eb : EBase B newId initId bm) (T : EC X.K C newId bm) (I : Inv X pins σ H s) (e : H a = some (exo a C none)) (hl : us.length ≤ sizeLine) (fin : ∀ s2, Inv X pins σ H s2 → Q .none s2) :
    wpAny (model X.prog X.w) A (call (.builtin initId) (.ref a :: us)) Q E s := by
  obtain ⟨nm, q, N, bs, sn, sub, ab, col, dd, k0, k1, k2, k3, k5, hC⟩ := T.cls
  obtain ⟨t1, ob⟩ := exo_at I.hok e
  obtain ⟨hp, g, d, t, os⟩ := s
  refine wpAny_call (PySem.HandSPX.init_base eb.eb.f (fun _ => rfl) (I.kIn _ _ hC) ob hl fun h2 t2 kp ob2 => ?_)
  have J := I.write (t' := t) (x := a) (e := a) (o := exo a C none) (by rw [e]; exact True.intro) (.inl rfl) kp ⟨_, ob2⟩ (exo_ok ob2)
  have same : upd H a (exo a C none) = H := by
    funext b
    by_cases z : b = a
    · rw [z, upd_same, e]
    · rw [upd_ne z]
  rw [same] at J
  exact fin _ J
end
def tEI (C : Addr) (ta : TA) : TE := fun σ H Q => ta σ H fun vs H1 => ∃ (a : Addr) (ws : List V), vs = .ref a :: ws ∧ ws.length ≤ 1000 ∧ H1 a = some (exo a C none) ∧ Q .non H1
def tES (C : Addr) (f : Str) (to te : TE) : TS := fun D σ H => te σ H fun y H1 => to σ H1 fun x H2 => ∃ a : Addr, x = .ref a ∧ H2 a = some (exo a C none) ∧
  ∀ dx, H2 dx = none → dx ≠ a → D.nx σ (upd (upd H2 dx (exd dx [(f, y)])) a (exo a C (some dx)))
section
variable {X : Cx} {C : Addr} {o e : Expr} {es : List Expr} {to te : TE} {ta : TA} {f : Str} {p p' p1 p2 pos : Pos} {B newId initId : String} {bm : List Value}
theorem e_init {pl : Sem Bool} (eb : EBase B newId initId bm) (T : EC X.K C newId bm) (hg : Gl X (Str.ofString B)) (hm : X.mg (Str.ofString B) = none) (hn : Str.ofString B ≠ "__name__") (hdb : (Str.ofString B == ("__debug__" : Str)) = false) (ha : PA X (e :: es) ta)
    (hc : eval (.Call (.Attribute (.Name (Str.ofString B) p1) "__init__" p2) (e :: es) [] pos) X.env = (do
      let ov ← eval (.Name (Str.ofString B) p1) X.env
      standAt p2.atName
      let (g, first) ← holding [ov] (getMethod ov "__init__" pl)
      callWith pos g first (backTo pos (starEach (e :: es) X.env)) (backToKw pos (keywordEach [] X.env))) := by rfl)
    (he : starEach (e :: es) X.env = (false, eval e X.env) :: starEach es X.env := by rfl) (hpl : (backTo pos (starEach es X.env)).any (·.1) = false := by rfl) :
    PE X (.Call (.Attribute (.Name (Str.ofString B) p1) "__init__" p2) (e :: es) [] pos) (tEI C ta) := by
  refine ⟨fun pins s σ H Q I h => ?_⟩
  refine PySem.W.methodCall_KW (ld_blt I hg hm eb.boot ?_ hn hdb) hc
  obtain ⟨m, fr⟩ := I.fr
  refine PySem.W.method_type fr I.ok.mod.kin eb.ty eb.stub (eb.init _) eb.han ?_
  show wpAny _ _ (callWith pos (Value.builtin initId) [] (backTo pos (starEach (e :: es) X.env)) []) _ _ _
  refine PyProof.Rows.callWith_method1 (thn (ha.run pos pins _ σ H _ (I.tok _) h) fun us s1 ⟨vs, H1, I1, rv, a, ws, ev, hl, ea, q⟩ => ?_) he hpl
  subst ev
  cases rv with
  | @cons _ u0 _ ur ra rw2 =>
    obtain rfl : u0 = Value.ref a := ra
    have len : ur.length ≤ sizeLine := by
      rw [← Paired.length rw2, sizeLine_eq]
      omega
    exact base_init eb T I1 ea len fun s2 J => ⟨.non, H1, J, rfl, q⟩
theorem e_set (eb : EBase B newId initId bm) (T : EC X.K C newId bm) (no : PySem.W.findIn X.K (.ref C) f = some none) (ho : PE X o to) (he : PE X e te) (hs : swapsWith e (some (.Attribute o f p')) pos.line X.env = pure false := by rfl) :
    PS X (.Assign [.Attribute o f p'] e pos) (tES C f to te) := by
  refine ⟨fun pins s σ H D I h => ?_⟩
  refine plainObj_wpAny_Assign_Attribute (thn (he.run pins s σ H _ I h) fun v s1 ⟨y, H1, I1, ry, z⟩ => thn (ho.run pins s1 σ H1 _ I1 z) fun u s2 ⟨x, H2, I2, rx, a, ex, ea, z2⟩ => ?_) hs
  subst ex
  obtain rfl : u = Value.ref a := rx
  exact exc_first eb T I2 ea no ry fun dx s3 n ne J => ⟨σ, _, J, z2 dx n ne⟩
end
def spX (C : Addr) : Option Str → Sp
  | none => fun vs H Q _ => ∃ a : Addr, vs = [.ref a] ∧ H a = some (exo a C none) ∧ Q .non H
  | some f => fun vs H Q _ => ∃ (a : Addr) (y : V), vs = [.ref a, y] ∧ H a = some (exo a C none) ∧ ∀ dx, H dx = none → dx ≠ a → Q .non (upd (upd H dx (exd dx [(f, y)])) a (exo a C (some dx)))
def tIni0 (C : Addr) (m : Str) : TS := tDrop (tEI C (tCons (tVar 0) (tCons (tC (.str m)) tNil)))
def tIni1 (C : Addr) (m f : Str) : TS := tSeq (tDrop (tEI C (tCons (tVar 0) (tCons (tC (.str m)) tNil)))) (tES C f (tVar 0) (tVar 1))
theorem ini0_fin {C : Addr} {m : Str} {N : List Str} (hN : N.length = 1) {vs : List V} {H : Hp} {Q : VK} {E : XK} (h : spX C none vs H Q E) : tIni0 C m { nx := fun _ H' => Q .non H', rt := Q } (L2.start N vs) H := by
  obtain ⟨a, rfl, ea, q⟩ := h
  exact ⟨.ref a, rfl, a, [.str m], rfl, by simp, ea, q⟩
theorem ini1_fin {C : Addr} {m f : Str} {N : List Str} (hN : N.length = 2) {vs : List V} {H : Hp} {Q : VK} {E : XK} (h : spX C (some f) vs H Q E) : tIni1 C m f { nx := fun _ H' => Q .non H', rt := Q } (L2.start N vs) H := by
  obtain ⟨a, y, rfl, ea, q⟩ := h
  exact ⟨.ref a, rfl, a, [.str m], rfl, by simp, ea, y, rfl, .ref a, rfl, a, rfl, ea, q⟩
section
variable {P : Program} {w : World} {K : PySem.W.Frag} {mg : Str → Option Value} {base : Heap} {x qual : Str} {params : Arguments} {body : List Stmt} {scope : Scope} {dvs : List V} {kws : List (Str × V)} {f : Addr} {fd : FuncData} {k : Nat} {C : Addr} {m fld p1 : Str}
theorem ini0_ok (F : FunD K x qual params body scope dvs kws f fd) (S : FnScope ["self"] ["self"] scope)
    (der : ∀ (cdv : Value) (A : Around) (outer : List Env) (s : Shared) (H : Hp) (E : XK), PSs (cxOf (L2.CX P w) P w K mg base ["self"] qual scope f cdv A outer s H E) body (tIni0 C m)) : FnOk P w K mg base (L2.CX P w) (k + 1) f fd ["self"] (spX C none) :=
  F.ok S (fun vs H Q E h => by obtain ⟨a, rfl, _⟩ := h; rfl) fun cdv A outer s H vs Q E hr h => ⟨_, der cdv A outer s H E, ini0_fin rfl h⟩
theorem ini1_ok (F : FunD K x qual params body scope dvs kws f fd) (S : FnScope ["self", p1] ["self", p1] scope)
    (der : ∀ (cdv : Value) (A : Around) (outer : List Env) (s : Shared) (H : Hp) (E : XK), PSs (cxOf (L2.CX P w) P w K mg base ["self", p1] qual scope f cdv A outer s H E) body (tIni1 C m fld)) : FnOk P w K mg base (L2.CX P w) (k + 1) f fd ["self", p1] (spX C (some fld)) :=
  F.ok S (fun vs H Q E h => by obtain ⟨a, y, rfl, _⟩ := h; rfl) fun cdv A outer s H vs Q E hr h => ⟨_, der cdv A outer s H E, ini1_fin rfl h⟩
end
theorem made_end {X : Cx} {pins : List (Addr × Obj)} {σ : L2.St} {H1 H2 H3 : Hp} {hp hp2 h2 : Heap} {g1 g2 : Array GenState} {d1 d2 : Drawn} {t1 t2 : Nat} {os1 os2 : OsState} {a C : Addr} {d : Option Addr} {fs : List (Str × V)} {Q : XK} (T : Raises X (.ref C)) (I1 : Inv X pins σ H1 ⟨hp, g1, d1, t1, os1⟩)
    (far : hp.objs.size ≤ a) (kp : ∀ b o, hp.get? b = some o → hp2.get? b = some o) (un : Un (frs X.stack) [] (upd H1 a (exo a C none)) H2 hp2 h2) (hok : HOk X.prog X.w H2 h2) (ho : os2 = os1) (hb : AllBare g2)
    (ea : H2 a = some (exo a C d)) (cs : (d = none ∧ H3 = del H2 a) ∨ ∃ x, d = some x ∧ H2 x = some (exd x fs) ∧ H1 x = none ∧ H3 = upd (del H2 a) x (.xd fs)) (q : Q (.ref C) d H3) : MkP X pins σ Q (.ref a) ⟨h2, g2, d2, t2, os2⟩ := by
  obtain ⟨t0, obE⟩ := exo_at hok ea
  have fr : H1 a = none := I1.hok.fresh far
  obtain ⟨gr, gA, gB⟩ := restrict h2 fun b => decide (b ≠ a)
  have gk : ∀ b, b ≠ a → gr.get? b = h2.get? b := fun b hb => gA b (decide_eq_true hb)
  have ge : gr.get? a = none := gB a (by simp)
  have old : ∀ {b : Addr} {o : Obj}, hp.get? b = some o → b ≠ a := fun {b o} z => Nat.ne_of_lt (Nat.lt_of_lt_of_le (Heap.lt_size z) far)
  have up : ∀ {b : Addr}, b ≠ a → H1 b = none → upd H1 a (exo a C none) b = none := fun {b} hb n => by rw [upd_ne hb]; exact n
  -- where the two heaps differ
  have h3 : ∀ b, b ≠ a → (∀ x, d = some x → b ≠ x) → H3 b = H2 b := fun b n1 n2 => by
    rcases cs with ⟨_, rfl⟩ | ⟨x, e, _, _, rfl⟩
    · exact del_ne n1
    · rw [upd_ne (n2 x e), del_ne n1]
  have notX : ∀ {b x : Addr} {u : HO}, d = some x → H1 b = some u → b ≠ x := fun {b x u} e z => by
    rcases cs with ⟨e2, _⟩ | ⟨x2, e2, _, n, _⟩
    · rw [e2] at e; cases e
    · rw [e2] at e; cases e
      exact ne_of_none z n
  have H3a : H3 a = none := by
    rcases cs with ⟨_, rfl⟩ | ⟨x, _, ex, _, rfl⟩
    · exact del_same
    · have : a ≠ x := fun z => by
        subst z
        rw [ea] at ex
        have z2 := Option.some.inj ex
        obtain ⟨_, ns, _⟩ := exd_at hok (dx := a) (by rw [ea, z2])
        obtain ⟨ob, es, ep, e1, e2, _⟩ := ns
        rw [obE] at e1
        have z3 := Option.some.inj e1
        subst z3
        cases e2
      rw [upd_ne this, del_same]
  have free2 : ∀ {b : Addr} {o : Obj}, hp.get? b = some o → H1 b = none → H2 b = none := fun {b o} z n => un.free b o (kp b o z) (up (old z) n) (by simp)
  have U : Un (frs X.stack) [] H1 H3 hp gr := {
    keep := fun b o z n hf hx => by
      rw [gk b (old z)]
      exact un.keep b o (kp b o z) (up (old z) n) hf hx
    slot := fun b o z n hf hx => by
      rw [gk b (old z)]
      exact un.slot b o (kp b o z) (up (old z) n) hf hx
    free := fun b o z n hx => by
      have n2 := free2 z n
      rw [h3 b (old z) fun x e y => by
        subst y
        rcases cs with ⟨e2, _⟩ | ⟨x2, e2, ex, _, _⟩
        · rw [e2] at e; cases e
        · rw [e2] at e; cases e
          rw [n2] at ex; cases ex]
      exact n2
    there := fun b o z hx => by
      rw [gk b (old z)]
      exact un.there b o (kp b o z) hx
    tups := fun b xs z => by
      rw [h3 b (ne_of_none z fr) fun x e => notX e z]
      exact un.tups b xs (by rw [upd_ne (ne_of_none z fr)]; exact z)
    frzs := fun b o v z => by
      rw [h3 b (ne_of_none z fr) fun x e => notX e z]
      exact un.frzs b o v (by rw [upd_ne (ne_of_none z fr)]; exact z)
    tbls := fun b ps z => by
      rw [h3 b (ne_of_none z fr) fun x e => notX e z]
      exact un.tbls b ps (by rw [upd_ne (ne_of_none z fr)]; exact z) }
  have hok3 : HOk X.prog X.w H3 gr := fun b o z => by
    have nba : b ≠ a := fun e => by rw [e, H3a] at z; cases z
    have stays : ∀ o', H2 b = some o' → ObjOk X.prog X.w H3 gr b o' := fun o' z2 => by
      have noa : ∀ {c : Addr}, H2 c = some (.own b) → c ≠ a := fun {c} hc => at_ne ea hc exo_own
      refine (hok b o' z2).stay (fun c v hc y => ?_) (fun c hc => ?_) (fun c xs hc => ?_)
      · have nca : c ≠ a := by
          rcases hc with hc | hc
          · rw [hc]; exact nba
          · exact noa hc
        rw [gk c nca]
        exact y
      · rw [h3 c (noa hc) fun x e y => by
          subst y
          rcases cs with ⟨e2, _⟩ | ⟨x2, e2, ex, _, _⟩
          · rw [e2] at e; cases e
          · rw [e2] at e; cases e
            rw [hc] at ex
            exact exd_own (Option.some.inj ex).symm]
        exact hc
      · rw [h3 c (at_ne ea hc exo_tup) fun x e y => by
          subst y
          rcases cs with ⟨e2, _⟩ | ⟨x2, e2, ex, _, _⟩
          · rw [e2] at e; cases e
          · rw [e2] at e; cases e
            rw [hc] at ex
            exact exd_tup (Option.some.inj ex).symm]
        exact hc
    rcases cs with ⟨e2, rfl⟩ | ⟨x, e2, ex, nx, rfl⟩
    · rw [del_ne nba] at z
      exact stays o z
    · by_cases bx : b = x
      · subst bx
        rw [upd_same] at z
        cases z
        obtain ⟨mA, ns, rel⟩ := exd_at hok ex
        exact ⟨mA, ns.at fun o y => (gk b nba).trans y, rel⟩
      · rw [upd_ne bx, del_ne nba] at z
        exact stays o z
  have J : Inv X pins σ H3 ⟨gr, g2, d2, t2, os2⟩ := I1.call' (ch := []) ho U hok3 hb (fun b z => absurd z (by simp))
  refine ⟨a, _, _, ⟨gr, g2, d2, t2, os2⟩, H3, .ref C, d, rfl, J, fun b o z => ?_, ge, obE, ⟨rfl, rfl⟩, rfl, rfl, H3a, rfl, hb, T, q⟩
  by_cases nba : b = a
  · rw [nba, ge] at z
    cases z
  · exact (gk b nba).symm.trans z
structure XcC (G : Gx) (P : Program) (w : World) (K : PySem.W.Frag) (mg : Str → Option Value) (base : Heap) (k : Nat) (c : Nat) (fn : Option Nat) : Prop where
  ex : ∃ (B newId initId : String) (bm : List Value) (fI : Addr) (fd : FuncData) (ps : List Str), EBase B newId initId bm ∧ EC K (G.ne.cls c) newId bm ∧ PySem.W.findIn K (.ref (G.ne.cls c)) "__init__" = some (some (.ref fI)) ∧
    PySem.W.typeIn K (.ref fI) = some (.type "function") ∧ FnOk P w K mg base (L2.CX P w) (k + 1) fI fd ps (spX (G.ne.cls c) (fn.map G.ne.fld)) ∧ L2.Binds K fd ps []
section
variable {G : Gx} {X : Cx} {W : WX} {C : Cfg} {k c : Nat} {fn : Option Nat} {x : Str} {p pos : Pos}
def Made (H1 : Hp) (fs : Option (List (Str × V))) (d : Option Addr) (H2 : Hp) : Prop := match fs with
  | none => d = none ∧ H2 = H1
  | some l => ∃ x, d = some x ∧ H1 x = none ∧ H2 = upd H1 x (.xd l)
theorem run_exc {pins : List (Addr × Obj)} {σ : L2.St} {H1 : Hp} {s1 : Shared} {Q : XK} {us : List Value} {vs : List V} (q : XcC G X.prog X.w X.K X.mg X.base k c fn) (hr : Room (k + 2) X.A) (I1 : Inv X pins σ H1 s1) (rv : Vals vs us) (fs : Option (List (Str × V))) (len : us.length ≤ 1000)
    (sh : ∀ (a : Addr) (Q2 : VK), H1 a = none → (∀ d H2, H2 a = some (exo a (G.ne.cls c) d) → ((d = none ∧ fs = none ∧ H2 = upd H1 a (exo a (G.ne.cls c) none)) ∨ ∃ x l, d = some x ∧ fs = some l ∧ H1 x = none ∧ x ≠ a ∧ H2 = upd (upd (upd H1 a (exo a (G.ne.cls c) none)) x (exd x l)) a (exo a (G.ne.cls c) (some x))) → Q2 .non H2) →
      spX (G.ne.cls c) (fn.map G.ne.fld) (.ref a :: vs) (upd H1 a (exo a (G.ne.cls c) none)) Q2 fun _ _ _ => False)
    (fin : ∀ d H2, Made H1 fs d H2 → Q (.ref (G.ne.cls c)) d H2) : wpAny (model X.prog X.w) X.A (call (.ref (G.ne.cls c)) us) (MkP X pins σ Q) X.xe s1 := by
  obtain ⟨B, newId, initId, bm, fI, fd, ps, eb, T, iC, tI, F1, hb⟩ := q.ex
  generalize G.ne.cls c = Cl at *
  obtain ⟨nm, qn, N, bs, sn, sub, ab, col, dd, k0, k1, k2, k3, k5, hC⟩ := T.cls
  obtain ⟨hp, g, dr, tk, os⟩ := s1
  have far : hp.objs.size ≤ hp.objs.size + 1 := Nat.le_succ _
  have fr : H1 (hp.objs.size + 1) = none := I1.hok.fresh far
  have hq := sh (hp.objs.size + 1) (fun v H2 => v = .non ∧ ∃ d, H2 (hp.objs.size + 1) = some (exo (hp.objs.size + 1) Cl d) ∧ ((d = none ∧ fs = none ∧ H2 = upd H1 (hp.objs.size + 1) (exo (hp.objs.size + 1) Cl none)) ∨
    ∃ x l, d = some x ∧ fs = some l ∧ H1 x = none ∧ x ≠ hp.objs.size + 1 ∧ H2 = upd (upd (upd H1 (hp.objs.size + 1) (exo (hp.objs.size + 1) Cl none)) x (exd x l)) (hp.objs.size + 1) (exo (hp.objs.size + 1) Cl (some x)))) fr fun d H2 e1 e2 => ⟨rfl, d, e1, e2⟩
  have kp : ∀ b o, hp.get? b = some o → ((hp.push (PySem.W.kdv_tup us)).push (PySem.HandSPX.excO Cl hp.objs.size)).get? b = some o := fun b o e => Heap.get?_push_of_some _ (Heap.get?_push_of_some _ e)
  have ob : ((hp.push (PySem.W.kdv_tup us)).push (PySem.HandSPX.excO Cl hp.objs.size)).get? (hp.objs.size + 1) = some (PySem.HandSPX.excO Cl hp.objs.size) := by heap_get
  have I2 : Inv X pins σ (upd H1 (hp.objs.size + 1) (exo (hp.objs.size + 1) Cl none)) ⟨(hp.push (PySem.W.kdv_tup us)).push (PySem.HandSPX.excO Cl hp.objs.size), g, dr, tk, os⟩ :=
    I1.laid (t' := tk) (a := hp.objs.size + 1) (o := exo (hp.objs.size + 1) Cl none) (h' := (hp.push (PySem.W.kdv_tup us)).push (PySem.HandSPX.excO Cl hp.objs.size)) kp far (exo_ok ob)
  have rr : Vals (V.ref (hp.objs.size + 1) :: vs) (Value.ref (hp.objs.size + 1) :: us) := .cons rfl rv
  have len2 : (Value.ref (hp.objs.size + 1) :: us).length = ps.length := by
    have z := rr.length
    rw [F1.len _ _ _ _ hq] at z
    exact z.symm
  have bn := hb _ (Value.ref (hp.objs.size + 1) :: us) I2.kIn (by rw [List.append_nil]; exact len2)
  rw [List.append_nil] at bn
  have hus : us.length ≤ sizeLine := by rw [sizeLine_eq]; omega
  refine wpAny_call (PySem.HandSPX.call_own eb.eb.f (fun _ => rfl) (I1.kIn _ _ hC) (PySem.W.looks_findIn I1.kIn iC) (fun self => PySem.W.bind_fn I1.kIn self tI) hus
    (codeAny_mono (F1.run _ X.stack _ _ ⟨Value.ref (hp.objs.size + 1) :: us, []⟩ (Value.ref (hp.objs.size + 1) :: us) _ _ (fun _ _ _ => False) (hr.make Cl us []) (I2.env0.make Cl us []) bn rr hq) fun r s2 z => ?_))
  cases r with
  | error er =>
    obtain ⟨_, _, _, _, _, _, _, _, _, _, _, _, no⟩ := z
    exact no.elim
  | ok fl =>
    cases fl with
    | ret u =>
      obtain ⟨v, H2, os2, bare2, un2, hok2, rvv, ev, d, ea, cs⟩ := z
      subst ev
      obtain ⟨h2, g2, d2, t2, os'⟩ := s2
      refine ⟨rvv, ?_⟩
      rcases cs with ⟨rfl, rfl, rfl⟩ | ⟨y, l, rfl, rfl, ny, na, rfl⟩
      · refine made_end (H3 := H1) (fs := []) (raises_own T.exC T.tyC) I1 far kp un2 hok2 os2 bare2 ea (.inl ⟨rfl, ?_⟩) (fin none H1 ⟨rfl, rfl⟩)
        funext b
        by_cases hb2 : b = hp.objs.size + 1
        · rw [hb2, del_same, fr]
        · rw [del_ne hb2, upd_ne hb2]
      · refine made_end (H3 := upd H1 y (.xd l)) (fs := l) (raises_own T.exC T.tyC) I1 far kp un2 hok2 os2 bare2 ea (.inr ⟨y, rfl, ?_, ny, ?_⟩) (fin (some y) _ ⟨y, rfl, ny, rfl⟩)
        · rw [upd_ne na, upd_same]
        · funext b
          by_cases hb2 : b = y
          · rw [hb2, upd_same, upd_same]
          · rw [upd_ne hb2, upd_ne hb2]
            by_cases hb3 : b = hp.objs.size + 1
            · rw [hb3, del_same, fr]
            · rw [del_ne hb3, upd_ne hb3, upd_ne hb2, upd_ne hb3]
    | next => exact z.elim
    | brk => exact z.elim
    | cont => exact z.elim
theorem mk_one {e : Expr} {ta : TA} {f : Nat} (q : XcC G X.prog X.w X.K X.mg X.base k c (some f)) (hr : Room (k + 2) X.A) (hg : Gl X x) (hm : X.mg x = some (.ref (G.ne.cls c))) (ha : PA X [e] ta)
    (hdb : (x == ("__debug__" : Str)) = false := by decide) (he : starEach [e] X.env = (false, eval e X.env) :: starEach [] X.env := by rfl) (hpl : (backTo pos (starEach [] X.env)).any (·.1) = false := by rfl) :
    PMk X (.Call (.Name x p) [e] [] pos) (fun σ H Q => ta σ H fun vs H1 => ∃ y, vs = [y] ∧ ∀ d H2, Made H1 (some [(G.ne.fld f, y)]) d H2 → Q (.ref (G.ne.cls c)) d H2) := by
  intro pins s σ H Q I h
  have kC : PySem.W.keepIn X.K (.ref (G.ne.cls c)) = true := by obtain ⟨_, _, _, _, _, _, _, _, T, _⟩ := q.ex; exact T.kC
  refine wpAny_Call_Name_kw (ld_glob I hg hm ?_ hdb)
  refine PySem.W.callWith_K (h₀ := X.base) I.ok.mod.kin kC (thn (ha.run pos pins s σ H _ I h) fun us s1 ⟨vs, H1, I1, rv, y, ev, z⟩ => ⟨I1.kIn, ?_⟩) he hpl
  subst ev
  refine run_exc q hr I1 rv (some [(G.ne.fld f, y)]) (by have := rv.length; simp at this ⊢; omega) (fun a Q2 fr g => ⟨a, y, rfl, upd_same, fun dx n ne => g (some dx) _ upd_same (.inr ⟨dx, _, rfl, rfl, ?_, ne, rfl⟩)⟩) z
  rw [upd_ne ne] at n
  exact n
theorem mk_none (q : XcC G X.prog X.w X.K X.mg X.base k c none) (hr : Room (k + 2) X.A) (hg : Gl X x) (hm : X.mg x = some (.ref (G.ne.cls c))) (hdb : (x == ("__debug__" : Str)) = false := by decide) :
    PMk X (.Call (.Name x p) [] [] pos) (fun _ H Q => ∀ d H2, Made H none d H2 → Q (.ref (G.ne.cls c)) d H2) := by
  intro pins s σ H Q I h
  have kC : PySem.W.keepIn X.K (.ref (G.ne.cls c)) = true := by obtain ⟨_, _, _, _, _, _, _, _, T, _⟩ := q.ex; exact T.kC
  refine wpAny_Call_Name_kw (ld_glob I hg hm ?_ hdb)
  exact PySem.W.callWith_K0 I.kIn kC (run_exc (us := []) q hr I .nil none (by simp) (fun a Q2 fr g => ⟨a, rfl, upd_same, g none _ upd_same (.inl ⟨rfl, rfl, rfl⟩)⟩) h)
theorem made_ext {m : List Addr} {H1 : Hp} {fs : Option (List (Str × V))} {d : Option Addr} {H2 : Hp} {S : Store} (s : Sim G m S H1) (h : Made H1 fs d H2) : Ext G m H1 m H2 ∧ Sim G m S H2 := by
  unfold Made at h
  cases fs with
  | none =>
    obtain ⟨_, rfl⟩ := h
    exact ⟨Ext.refl, s⟩
  | some l =>
    obtain ⟨x, _, n, rfl⟩ := h
    exact ⟨Ext.new n, sim_same s n⟩
theorem s_raise1 {e : Expr} {f : Nat} {a : ME} {rpos : Pos} (cx : Ctx G X W) (q : XcC G X.prog X.w X.K X.mg X.base k c (some f)) (hr : Room (k + 2) X.A) (hg : Gl X x) (hm : X.mg x = some (.ref (G.ne.cls c))) (he1 : PE X e (tE G W C a))
    (hdb : (x == ("__debug__" : Str)) = false := by decide) (he : starEach [e] X.env = (false, eval e X.env) :: starEach [] X.env := by rfl) (hpl : (backTo pos (starEach [] X.env)).any (·.1) = false := by rfl) :
    PS X (.Raise (some (.Call (.Name x p) [e] [] pos)) none rpos) (tS G W C (sRaise c [f] (aCons a aNil))) :=
  PS.weak (ps_raise cx.calm cx.tk (mk_one q hr hg hm (r_cons he1 r_nil he) hdb he hpl)) fun D σ H ⟨m, S, ls, s, r, p⟩ => by
    refine ⟨m, S, ls, s, r, ?_⟩
    unfold sRaise at p
    cases w : aCons a aNil C ls S with
    | bad => rw [w] at p; exact p
    | ex c2 fs S2 => rw [w] at p; exact fun m2 H2 d x2 s2 rx => p m2 H2 d σ x2 s2 (r.mono x2) rx
    | ok ds S2 =>
      rw [w] at p
      intro m2 H2 vs x2 s2 rv
      simp only at p
      by_cases hl : ds.length = [f].length
      · rw [if_pos hl] at p
        obtain ⟨d1, rfl⟩ : ∃ d1, ds = [d1] := by
          match ds, hl with
          | [d1], _ => exact ⟨d1, rfl⟩
        obtain ⟨y, rfl, ry⟩ := rv.one_
        refine ⟨y, rfl, fun d H3 md => ?_⟩
        obtain ⟨ex3, s3⟩ := made_ext s2 md
        obtain ⟨xd, rfl, n, rfl⟩ := md
        exact p m2 _ (some xd) σ (x2.trans ex3) s3 (r.mono (x2.trans ex3)) (.some upd_same (.cons (ry.mono ex3) .nil))
      · rw [if_neg hl] at p
        exact p.elim
theorem s_raise0 {rpos : Pos} (cx : Ctx G X W) (q : XcC G X.prog X.w X.K X.mg X.base k c none) (hr : Room (k + 2) X.A) (hg : Gl X x) (hm : X.mg x = some (.ref (G.ne.cls c))) (hdb : (x == ("__debug__" : Str)) = false := by decide) :
    PS X (.Raise (some (.Call (.Name x p) [] [] pos)) none rpos) (tS G W C (sRaise c [] aNil)) :=
  PS.weak (ps_raise cx.calm cx.tk (mk_none q hr hg hm hdb)) fun D σ H ⟨m, S, ls, s, r, p⟩ => by
    rintro d H2 ⟨rfl, rfl⟩
    exact p m _ none σ Ext.refl s r .nil
end
end MP
namespace MP
open PySem PySem.Spec PyProof.Rows L2
abbrev Cl := Value × Option Nat × (Addr → Value → Option Addr → TS)
inductive Hnd (X : Cx) : List ExceptHandler → List Cl → Prop
  | nil : Hnd X [] []
  | only {x : Str} {c : Value} {ts : Addr → Value → Option Addr → TS} {st : Stmt} {suite : List Stmt} {np pos' : Pos} {hds : List ExceptHandler} {l : List Cl} (hc : Names X x c)
      (hsu : ∀ (a : Addr) (oe : Obj) (cls : Value) (d : Option Addr) (pn : List (Addr × Obj)), Zc cls d oe → (∃ vs, oe.data = .fields vs) → PSs (X.suite a ((a, oe) :: pn)) (st :: suite) (ts a cls d)) (r : Hnd X hds l) :
      Hnd X (.ExceptHandler (some (.Name x np)) none (st :: suite) pos' :: hds) ((c, none, ts) :: l)
  | named {x n : Str} {i : Nat} {c : Value} {ts : Addr → Value → Option Addr → TS} {st : Stmt} {suite : List Stmt} {np pos' : Pos} {hds : List ExceptHandler} {l : List Cl} (hc : Names X x c) (hN : X.N.Nodup) (hi : X.N[i]? = some n) (hln : X.env.kindOf n = some .local)
      (hsu : ∀ (a : Addr) (oe : Obj) (cls : Value) (d : Option Addr) (pn : List (Addr × Obj)), Zc cls d oe → (∃ vs, oe.data = .fields vs) → PSs (X.suite a ((a, oe) :: pn)) (st :: suite) (ts a cls d)) (r : Hnd X hds l) :
      Hnd X (.ExceptHandler (some (.Name x np)) (some n) (st :: suite) pos' :: hds) ((c, some i, ts) :: l)
section
variable {X : Cx} {body : List Stmt} {hd0 : ExceptHandler} {hds : List ExceptHandler} {l : List Cl} {pos : Pos} {tb : WX → TS} {Wout : WX}
end
end MP
namespace MP
open PySem PySem.Spec PyProof.Rows L2
section
variable {K : PySem.W.Frag} {ne : NE} {r r' : XR} {m m' : List Addr} {H H' : Hp}
mutual
theorem RepV.re : ∀ {v d}, RepV ⟨K, ne, r⟩ m H v d → RepV ⟨K, ne, r'⟩ m H v d
  | _, _, .non => .non
  | _, _, .bl b => .bl b
  | _, _, .int i => .int i
  | _, _, .str s => .str s
  | _, _, .tup h hs => .tup h (RepVs.re hs)
  | _, _, .ref h => .ref h
theorem RepVs.re : ∀ {vs ds}, RepVs ⟨K, ne, r⟩ m H vs ds → RepVs ⟨K, ne, r'⟩ m H vs ds
  | _, _, .nil => .nil
  | _, _, .cons h hs => .cons (RepV.re h) (RepVs.re hs)
theorem RepX.re : ∀ {d fs}, RepX ⟨K, ne, r⟩ m H d fs → RepX ⟨K, ne, r'⟩ m H d fs
  | _, _, .nil => .nil
  | _, _, .some h hf => .some h (RepF.re hf)
theorem RepF.re : ∀ {fv fs}, RepF ⟨K, ne, r⟩ m H fv fs → RepF ⟨K, ne, r'⟩ m H fv fs
  | _, _, .nil => .nil
  | _, _, .cons h hs => .cons (RepV.re h) (RepF.re hs)
end
theorem RepK.re : ∀ {kv ds}, RepK ⟨K, ne, r⟩ m H kv ds → RepK ⟨K, ne, r'⟩ m H kv ds
  | _, _, .nil => .nil
  | _, _, .cons k h hs => .cons k h.re (RepK.re hs)
theorem RepN.re : ∀ {kv ds}, RepN ⟨K, ne, r⟩ m H kv ds → RepN ⟨K, ne, r'⟩ m H kv ds
  | _, _, .nil => .nil
  | _, _, .cons k a h hs => .cons k a.re h.re (RepN.re hs)
theorem Ext.re (e : Ext ⟨K, ne, r⟩ m H m' H') : Ext ⟨K, ne, r'⟩ m H m' H' := ⟨e.pre, e.tup, e.xd, e.frz, e.tab⟩
theorem RepO.re {p o} (h : RepO ⟨K, ne, r⟩ m H p o) : RepO ⟨K, ne, r'⟩ m H p o := by
  cases h with
  | lst a b => exact .lst a b.re
  | rol a b => exact .rol a b.re
  | ins a b => exact .ins a b.re
  | dct a b => exact .dct a b.re
  | dtu a b => exact .dtu a b.re
  | fdt a b => exact .fdt a b.re
  | fdk a b => exact .fdk a b.re
theorem Sim.re {S : Store} (s : Sim ⟨K, ne, r⟩ m S H) : Sim ⟨K, ne, r'⟩ m S H := ⟨s.len, s.nd, fun n o h => let ⟨p, a, b⟩ := s.obj n o h; ⟨p, a, b.re⟩, s.tbs⟩
theorem noX_at {σ : Slots} (h : noX σ = true) {i : Nat} {d : D} (e : σ[i]? = some (some d)) : isX d = false := by
  unfold noX at h
  have := List.all_eq_true.mp h _ (List.mem_of_getElem? e)
  simpa using this
theorem SlotR.re {ls : Slots} {σ : L2.St} (n : noX ls = true) (h : SlotR ⟨K, ne, r⟩ m H ls σ) : SlotR ⟨K, ne, r'⟩ m H ls σ :=
  ⟨h.1, fun i d q => let ⟨v, a, b⟩ := h.2 i d q; ⟨v, a, .val (b.rep (noX_at n q)).re⟩⟩
end
abbrev W0 : WX := fun _ _ _ _ => False
abbrev Gs (G : Gx) (a : Addr) (cls : Value) (d : Option Addr) : Gx := ⟨G.K, G.ne, fun a' c' d' => a' = a ∧ .ref (G.ne.cls c') = cls ∧ d' = d⟩
inductive HndM (G : Gx) (X : Cx) (C : Cfg) (cs : List Nat) : List ExceptHandler → List Hd → Prop
  | nil : HndM G X C cs [] []
  | only {x : Str} {c : Value} {s : MS} {mt : Nat → Bool} {st : Stmt} {suite : List Stmt} {np pos' : Pos} {hds : List ExceptHandler} {l : List Hd} (hc : Names X x c) (hm : ∀ k ∈ cs, PySem.W.exmOne G.K (.ref (G.ne.cls k)) c = some (mt k))
      (hsu : ∀ (a : Addr) (oe : Obj) (cls : Value) (d : Option Addr) (pn : List (Addr × Obj)), Zc cls d oe → (∃ vs, oe.data = .fields vs) → PSs (X.suite a ((a, oe) :: pn)) (st :: suite) (tS (Gs G a cls d) W0 C s)) (r : HndM G X C cs hds l) :
      HndM G X C cs (.ExceptHandler (some (.Name x np)) none (st :: suite) pos' :: hds) (⟨mt, none, s⟩ :: l)
  | named {x n : Str} {i : Nat} {c : Value} {s : MS} {mt : Nat → Bool} {st : Stmt} {suite : List Stmt} {np pos' : Pos} {hds : List ExceptHandler} {l : List Hd} (hc : Names X x c) (hm : ∀ k ∈ cs, PySem.W.exmOne G.K (.ref (G.ne.cls k)) c = some (mt k)) (hN : X.N.Nodup) (hi : X.N[i]? = some n) (hln : X.env.kindOf n = some .local)
      (hsu : ∀ (a : Addr) (oe : Obj) (cls : Value) (d : Option Addr) (pn : List (Addr × Obj)), Zc cls d oe → (∃ vs, oe.data = .fields vs) → PSs (X.suite a ((a, oe) :: pn)) (st :: suite) (tS (Gs G a cls d) W0 C s)) (r : HndM G X C cs hds l) :
      HndM G X C cs (.ExceptHandler (some (.Name x np)) (some n) (st :: suite) pos' :: hds) (⟨mt, some i, s⟩ :: l)
section
variable {G : Gx} {X : Cx} {W : WX} {C : Cfg} {cs : List Nat}
theorem SlotR.exn {ρ : XR} {m : List Addr} {H : Hp} {ls : Slots} {σ : L2.St} {i : Nat} {a : Addr} {c : Nat} {d : Option Addr} {fs : Fs} (h : SlotR ⟨G.K, G.ne, ρ⟩ m H ls σ) (hr : ρ a c d) (hx : RepX ⟨G.K, G.ne, ρ⟩ m H d fs) :
    SlotR ⟨G.K, G.ne, ρ⟩ m H (ls.set i (some (.exn c fs))) (σ.set i (some (.ref a))) := by
  refine ⟨by rw [List.length_set, List.length_set, h.1], fun j x q => ?_⟩
  by_cases e : i = j
  · subst e
    by_cases hi : i < ls.length
    · rw [List.getElem?_set_self hi] at q
      cases q
      exact ⟨.ref a, List.getElem?_set_self (h.1 ▸ hi), .exn hr hx⟩
    · rw [List.getElem?_eq_none (by simpa using hi)] at q
      cases q
  · rw [List.getElem?_set_ne e] at q
    obtain ⟨w, a, b⟩ := h.2 j x q
    exact ⟨w, by rw [List.getElem?_set_ne e]; exact a, b⟩
end
end MP
namespace MPX2
open PySem PySem.Spec PySem.Calls PyProof.Rows PySem.W L2
section
variable {prog : Program} {w : World} {A : Around} {E : Value → Shared → Prop} {s : Shared} {K : Frag} {x D : Addr} {ox : Obj} {od : Option Obj}
end
end MPX2
namespace MP
open PySem PySem.Spec PyProof.Rows L2
section
variable {G : Gx} {X : Cx} {C : Cfg}
end
end MP
namespace MP
open PySem PySem.Spec PyProof.Rows L2
theorem Ctx0.toCtx0 {G : Gx} {X : Cx} (c : Ctx0 G X) : Ctx0 G X := c
section
variable {G : Gx} {P : Program} {w : World} {K : PySem.W.Frag} {mg : Str → Option Value} {base : Heap}
theorem FnG.mono {Cx0 : CXT} {k k' : Nat} {f : Addr} {fd : FuncData} {ps : List Str} {sp : Sp} (F : FnG P w K mg base Cx0 k f fd ps sp) (h : k ≤ k') : FnG P w K mg base Cx0 k' f fd ps sp :=
  ⟨F.len, fun A out s H ar us vs Q E hr => F.go A out s H ar us vs Q E (hr.mono h)⟩
abbrev rm (n : Nat) : Nat := 2 * n + 2
theorem room_h0 {n : Nat} {A : Around} (h : Room (rm n + 1) A) : Room (rm n) A := h.mono (Nat.le_succ _)
theorem room_h2 {n : Nat} {A : Around} (h : Room (rm n + 1) A) : Room 2 A := h.mono (by unfold rm; omega)
theorem fn_mp3 {x qual : Str} {params : Arguments} {body : List Stmt} {scope : Scope} {dvs : List V} {kws : List (Str × V)} {f : Addr} {fd : FuncData} {N ps : List Str} {n i : Nat} {tb : List Fn} {F : Fn}
    (D : FunD K x qual params body scope dvs kws f fd) (S : FnScope N ps scope) (hK : G.K = K) (hF : tb[i]? = some F) (hs : F.sl = N.length)
    (hbody : ∀ (cdv : Value) (A : Around) (outer : List Env) (s : Shared) (H : Hp) (E : XK), Room (rm n + 1) (A.deeper (envOfC qual scope s.heap.objs.size f cdv)) → CdOf K f cdv → Ctx G (cxOf (L2.CX P w) P w K mg base N qual scope f cdv A outer s H E) (fun c d _ H => E c d H) →
      PSs (cxOf (L2.CX P w) P w K mg base N qual scope f cdv A outer s H E) body (tS G (fun c d _ H => E c d H) ⟨callN tb n⟩ F.body)) (hW : G.ne.w = w := by rfl) :
    FnG P w K mg base (L2.CX P w) (rm (n + 1)) f fd ps (spM G (callN tb (n + 1) i) ps.length) :=
  FnG.def_ (k := rm n + 1) D S (fun vs H Q E h => h.1) fun cdv A outer s H vs Q E hr hgd hcd h => by
    obtain ⟨_, m, St, as, sim, r, p⟩ := h
    refine ⟨_, hbody cdv A outer s H E hr hcd (ctx_of hK S.nd hr hgd hW), body_fin hs sim r ?_⟩
    have e : callN tb (n + 1) i as = runFn F ⟨callN tb n⟩ as := by
      show (match tb[i]? with
        | some F => runFn F ⟨callN tb n⟩ as
        | none => M.bad) = _
      rw [hF]
    rw [e] at p
    exact p
theorem fn_mp2 {x qual : Str} {params : Arguments} {body : List Stmt} {scope : Scope} {dvs : List V} {kws : List (Str × V)} {f : Addr} {fd : FuncData} {N ps : List Str} {n i : Nat} {tb : List Fn} {F : Fn}
    (D : FunD K x qual params body scope dvs kws f fd) (S : FnScope N ps scope) (hK : G.K = K) (hF : tb[i]? = some F) (hs : F.sl = N.length)
    (hbody : ∀ (cdv : Value) (A : Around) (outer : List Env) (s : Shared) (H : Hp) (E : XK), Room (rm n + 1) (A.deeper (envOfC qual scope s.heap.objs.size f cdv)) → Ctx G (cxOf (L2.CX P w) P w K mg base N qual scope f cdv A outer s H E) (fun c d _ H => E c d H) →
      PSs (cxOf (L2.CX P w) P w K mg base N qual scope f cdv A outer s H E) body (tS G (fun c d _ H => E c d H) ⟨callN tb n⟩ F.body)) (hW : G.ne.w = w := by rfl) :
    FnG P w K mg base (L2.CX P w) (rm (n + 1)) f fd ps (spM G (callN tb (n + 1) i) ps.length) :=
  fn_mp3 D S hK hF hs (fun cdv A outer s H E hr _ c => hbody cdv A outer s H E hr c) hW
theorem fn_mp02 {k : Nat} {f : Addr} {fd : FuncData} {ps : List Str} {i : Nat} {tb : List Fn} : FnG P w K mg base (L2.CX P w) k f fd ps (spM G (callN tb 0 i) ps.length) :=
  ⟨fun vs H Q E h => h.1, fun A outer s H args us vs Q E hr _ e0 hb r h => by
    obtain ⟨_, m, S, as, _, _, p⟩ := h
    exact p.elim⟩
theorem cal_of2 {x qual : Str} {params : Arguments} {body : List Stmt} {scope : Scope} {dvs : List V} {kws : List (Str × V)} {f : Addr} {fd : FuncData} {ps : List Str} {n k i : Nat} {tb : List Fn}
    (D : FunD K x qual params body scope dvs kws f fd) (F : FnG P w K mg base (L2.CX P w) k f fd ps (spM G (callN tb n i) ps.length)) (hb : Binds K fd ps []) (hl : ∀ F, tb[i]? = some F → F.ar = ps.length) : Cal G P w K mg base ⟨callN tb n⟩ k f i [] :=
  ⟨fd, ps, [], [], F, hb, .nil, fun _ _ => .nil, D.kp, call_bad hl⟩
theorem walk_mp2 {l : PySem.W.OpenLaw} {nm k r i : Nat} {q : Program} {loose : List Str} {XP : (Str → Option Value) → Heap → Prop} {YP : World → Heap → Prop} {d : DefRec} {x : Str} {tb : List Fn}
    (hn : l.most = some nm) (hz : nm ≤ sizeLine) (hdf : d.params.defaults = []) (hr : Room r callerA)
    (F : ∀ (w : World) (mg : Str → Option Value) (fa : Addr) (h : Heap), YP w h → h.Ns mainGlobals mg → mg d.name = some (.ref fa) →
      ∃ (G : Gx) (fd : FuncData), G.K.In h ∧ G.ne.tabs = [] ∧ (∀ (s : Shared) (u : Value), BindsTo s fd ⟨[u], []⟩ [(x, u)]) ∧
        ∀ base : Heap, G.K.In base → base.Ns mainGlobals mg → FnG l.prog w G.K mg base (L2.CX l.prog w) r fa fd [x] (spM G (callN tb k i) 1))
    (hl : ∀ ns : List Int, ns.length ≤ nm → (∀ z ∈ ns, Builtin.Int.intBits z ≤ 1048576) → ∃ S', callN tb k i [.ref 0] (store0 ns) = .ok (.bl true) S') :
    PySem.W.WalkO q loose XP YP l.row.toRowW d [] (fun f vs => PySem.call f vs) := by
  refine Att.attach_callB hn hdf fun w s₀ s₁ mg mb fa o pm cd doc a us ns G Y ho hd hcd hmg hobj hints hlen hbits hg => ?_
  obtain ⟨Gm, fd, KX, ht, hb, hF⟩ := F w mg fa _ Y G.T.g hmg
  refine law_callG KX G.T.g G.T.b G.T.builtins G.T.nolimit hg hobj hints (Nat.le_trans hlen hz) hr hF hb (fun H hO hS => ⟨rfl, [a], store0 ns, [.ref 0], sim0 hO hS (fun P h => by rw [ht] at h; cases h), .cons (.ref rfl) .nil, ?_⟩) fun H e s' ⟨_, _, _, _, _, _, _, _, _, _, _, _, z⟩ => z
  obtain ⟨S', e⟩ := hl ns hlen hbits
  rw [e]
  exact fun m' H' b _ _ r => r.bl_
end
def fldOf (L : List Str) (i : Nat) : Str := match L[i]? with
  | some s => s
  | none => ⟨#[0, i]⟩
def fldsOk (L : List Str) : Bool := decide L.Nodup && L.all fun s => decide (s.cps[0]? ≠ some 0)
theorem fldOf_inj {L : List Str} (h : fldsOk L = true) (a b : Nat) (e : fldOf L a = fldOf L b) : a = b := by
  unfold fldsOk at h
  rw [Bool.and_eq_true] at h
  obtain ⟨h1, h2⟩ := h
  have h1 := of_decide_eq_true h1
  have hz : ∀ s ∈ L, ∀ i : Nat, s ≠ ⟨#[0, i]⟩ := fun s hs i z => by
    have := of_decide_eq_true (List.all_eq_true.mp h2 s hs)
    rw [z] at this
    exact this rfl
  unfold fldOf at e
  cases ea : L[a]? with
  | some s =>
    rw [ea] at e
    have ha := (List.getElem?_eq_some_iff.mp ea).1
    cases eb : L[b]? with
    | some t =>
      rw [eb] at e
      have e : s = t := e
      rw [← e, ← ea] at eb
      exact (List.getElem?_inj ha h1).mp eb.symm
    | none =>
      rw [eb] at e
      exact absurd e (hz s (List.mem_of_getElem? ea) b)
  | none =>
    rw [ea] at e
    cases eb : L[b]? with
    | some t =>
      rw [eb] at e
      exact absurd e.symm (hz t (List.mem_of_getElem? eb) a)
    | none =>
      rw [eb] at e
      have e := congrArg (fun s : Str => s.cps.toList) e
      simpa using e
theorem fldOf_no {L : List Str} {m : Str} (h : m ∉ L) (h0 : m.cps[0]? ≠ some 0) (i : Nat) : fldOf L i ≠ m := by
  unfold fldOf
  intro e
  cases ea : L[i]? with
  | some s =>
    rw [ea] at e
    exact h ((show s = m from e) ▸ List.mem_of_getElem? ea)
  | none =>
    rw [ea] at e
    have e : (⟨#[0, i]⟩ : Str) = m := e
    rw [← e] at h0
    exact h0 rfl
def neOf (w : World) (K : PySem.W.Frag) (cs fs : List Str) (h : fldsOk fs = true) : NE := ⟨w, fun i => He.ga K ((cs[i]?).getD Str.empty), fldOf fs, fldOf_inj h, [], fun _ => Str.empty⟩
abbrev AlX : Type := He.AlD × Bool
def obsX (fa : List He.Fa) (fn : List He.DefD) (fx : List (PySem.W.Frag → Bool)) (K : PySem.W.Frag) : AlX := (He.obsD fa fn K, fx.all fun f => f K)
def SaysX (fa : List He.Fa) (fn : List He.DefD) (fx : List (PySem.W.Frag → Bool)) (K : PySem.W.Frag) : Prop := obsX fa fn fx K = (He.valD fn, true)
def obsXG (n : Nat) (fa : List He.Fa) (fn : List He.DefD) (fx : List (PySem.W.Frag → Bool)) (g : Addr → Option Obj) : AlX := obsX fa fn fx (He.frG g (He.asD g n))
def hookX (n : Nat) (fa : List He.Fa) (fn : List He.DefD) (fx : List (PySem.W.Frag → Bool)) : PySem.W.Hook where
  α := AlX
  obs := fun s => obsXG n fa fn fx s.heap.get?
  val := fun _ => (He.valD fn, true)
  says := fun _ h => ∃ K : PySem.W.Frag, K.In h ∧ SaysX fa fn fx K
  of := fun _ _ e => ⟨_, He.frG_in, e⟩
  keeps := fun _ _ _ ⟨K, hK, c⟩ k => ⟨K, PySem.W.Frag.In.keeps hK k, c⟩
theorem obsXG_eq {n : Nat} {fa : List He.Fa} {fn : List He.DefD} {fx : List (PySem.W.Frag → Bool)} {g : Addr → Option Obj} {s : Shared} (h : ∀ a, g a = s.heap.get? a) : obsXG n fa fn fx g = (hookX n fa fn fx).obs s := by
  have e : g = s.heap.get? := funext h
  rw [e] <;> rfl
section
variable {fa : List He.Fa} {fn : List He.DefD} {fx : List (PySem.W.Frag → Bool)} {K : PySem.W.Frag}
theorem SaysX.d (c : SaysX fa fn fx K) : He.SaysD fa fn K := congrArg (fun z : AlX => z.1) c
theorem SaysX.x (c : SaysX fa fn fx K) (i : Nat) {f : PySem.W.Frag → Bool} (h : fx[i]? = some f := by rfl) : f K = true :=
  List.all_eq_true.mp (show (fx.all fun f => f K) = true from congrArg (fun z : AlX => z.2) c) f (List.mem_of_getElem? h)
end
def fxE (x : Str) (newId : String) (bm : List Value) (K : PySem.W.Frag) : Bool := ecB K (He.ga K x) newId bm && (decide (PySem.W.findIn K (.ref (He.ga K x)) "__init__" = some (some (.ref (He.ma K (He.ga K x) "__init__")))) &&
  decide (PySem.W.typeIn K (.ref (He.ma K (He.ga K x) "__init__")) = some (.type "function")))
theorem exc_of {G : Gx} {P : Program} {w : World} {K : PySem.W.Frag} {mg : Str → Option Value} {base : Heap} {k c : Nat} {fn : Option Nat} {x : Str} {B newId initId : String} {bm : List Value} {fd : FuncData} {ps : List Str}
    (eb : EBase B newId initId bm) (h : fxE x newId bm K = true) (hc : G.ne.cls c = He.ga K x) (F : FnOk P w K mg base (L2.CX P w) (k + 1) (He.ma K (He.ga K x) "__init__") fd ps (spX (G.ne.cls c) (fn.map G.ne.fld))) (hb : L2.Binds K fd ps []) : XcC G P w K mg base k c fn := by
  unfold fxE at h
  simp only [Bool.and_eq_true, decide_eq_true_eq] at h
  obtain ⟨h1, h2, h3⟩ := h
  refine ⟨B, newId, initId, bm, _, fd, ps, eb, ?_, ?_, h3, F, hb⟩
  · rw [hc]; exact ecB_ok h1
  · rw [hc]; exact h2
end MP
namespace MP
open PySem PySem.SeqAt PySem.Spec PyProof.Rows L2
def mRemove : D → List D → P D
  | .ref n, [y] => fun S => match S.get n with
    | some (.lst xs) => (match snap S deep y, snaps S deep xs with
      | some a, some bs => (match bs.findIdx? (fun b => PyData.eqv b a) with
        | some j => some (.non, S.set n (.lst (xs.eraseIdx j)))
        | none => none)
      | _, _ => none)
    | _ => none
  | _, _ => P.bad
section
variable {G : Gx} {X : Cx} (hK : G.K = X.K)
include hK
theorem items_map {pins : List (Addr × Obj)} {s : Shared} {σ : L2.St} {H : Hp} {m : List Addr} {S : Store} {A : Around} (I : Inv X pins σ H s) (sim : Sim G m S H) (hu : A.units + deep < cLine) {x : D} {v : V} {u : Value} {a : PyData} (rx : RepV G m H v x) (ex : snap S deep x = some a) (rv : RelV v u) :
    ∀ {xs : List D} {bs : List PyData} {vs : List V} {us : List Value}, snaps S deep xs = some bs → RepVs G m H vs xs → Vals vs us → us.map (eqTo s.heap a) = bs.map (fun b => PyData.eqv b a)
  | [], bs, vs, us, hb, rr, rw' => by
    unfold snaps optAll at hb
    cases hb
    rw [rr.nil_] at rw'
    cases rw'
    rfl
  | d :: xs, bs, vs, us, hb, rr, rw' => by
    unfold snaps optAll at hb
    obtain ⟨w, ws, rfl, r1, r2⟩ := rr.cons_
    cases rw' with
    | @cons _ y _ us' q1 q2 =>
      cases e1 : snap S deep d with
      | none => rw [e1] at hb; cases hb
      | some b =>
        cases e2 : optAll (snap S deep) xs with
        | none => rw [e1, e2] at hb; cases hb
        | some bs' =>
          rw [e1, e2] at hb
          cases hb
          have ih := items_map I sim hu rx ex rv (bs := bs') e2 r2 q2
          obtain ⟨as, rd, _⟩ := snap_reads hK I sim _ _ _ _ _ r1 e1 q1
          have ee := eqTo_eq (a := a) rd
          rw [List.map_cons, List.map_cons, ih, ee]
end
section
variable {G : Gx} {X : Cx}
theorem m_remove (c : Ctx0 G X) : MtR X "list.remove" (rMt G mRemove) := by
  intro pins s σ H x xs v us Q I rx rs h
  obtain ⟨m, S, d, as, sim, rd, ra, p⟩ := h
  have hu := c.hu
  unfold mRemove at p
  split at p
  · rename_i n y
    obtain ⟨q, rfl, hq⟩ := rd.ref_
    obtain ⟨w, rfl, rw'⟩ := ra.one_
    split at p
    · rename_i xs hg
      split at p
      · rename_i a bs e1 e2
        split at p
        · rename_i j hj
          obtain ⟨q', vs, e3, e4, rv⟩ := sim.lst hg
          rw [hq] at e3
          cases e3
          cases rx
          obtain ⟨u, rfl, ru⟩ := rs.one
          obtain ⟨z, its, n1, r, hl, e⟩ := I.lstM e4
          have hu1 : X.A.in1.units + deep < cLine := by
            show X.A.units + 1 + 40 < cLine
            omega
          obtain ⟨k1, _⟩ := items_eq c.hK (A := X.A.in1) I sim hu1 rw' e1 ru e2 rv r
          have k2 := items_map c.hK (A := X.A.in1) I sim hu1 rw' e1 ru e2 rv r
          have lenB : its.length = bs.length := by have := congrArg List.length k2; simpa using this
          obtain ⟨jlt, jhit, jno⟩ := List.findIdx?_eq_some_iff_getElem.mp hj
          have at_ : ∀ i (h : i < its.length), eqTo s.heap a its[i] = PyData.eqv (bs[i]'(by omega)) a := fun i h => by
            have := congrArg (fun l => l[i]?) k2
            simp only [List.getElem?_map, List.getElem?_eq_getElem h, List.getElem?_eq_getElem (show i < bs.length by omega), Option.map_some, Option.some.injEq] at this
            exact this
          have mu : Mut1 (H q) := by rw [e4]; trivial
          have ex : Ext G m H m (upd H q (.lst (vs.eraseIdx j))) := Ext.mut mu
          have lenV := r.length
          refine call_meets PySem.F.slot_list_remove ⟨_, e, rfl⟩ PySem.F.entry_list_remove (PySem.F.args_list_remove_2 _ _)
            (SeqAt.list_removeAt q its.toArray n1 none #[] u (eqTo s.heap a) j (by rw [List.size_toArray]; omega) ?_ ?_ (by rw [List.size_toArray]; omega)) ⟨e, fun y hy => k1 y (by simpa using hy), ?_⟩
          · have := at_ j (by omega)
            rw [List.getElem_toArray, this]
            exact jhit
          · intro m' hm hmj
            have hm' : m' < its.length := by rw [List.size_toArray] at hm; exact hm
            have := at_ m' hm'
            rw [List.getElem_toArray, this]
            simpa using jno m' hmj
          · refine ⟨.non, _, I.lset (its' := its.eraseIdx j) (t' := s.toks) e4 e ?_ (r.eraseIdx j) ?_, rfl, p m _ _ ex (sim_set sim hg rfl rfl hq mu (.lst upd_same ((rv.mono ex).erase j))) .non⟩
            · show its.toArray.eraseIdxIfInBounds j = (its.eraseIdx j).toArray
              rw [List.eraseIdxIfInBounds_toArray]
            · have := List.length_eraseIdx_le vs j
              omega
        · exact p.elim
      · exact p.elim
    · exact p.elim
  · exact p.elim
end
end MP
namespace MPS
open PySem PySem.Spec PyProof.Rows L2
abbrev newS (w : World) : Obj := { cls := .type "set", dict := none, data := .set #[] 0 (.fresh 0 0 (!w.params.followText "set-order")) }
section
variable {P : Program} {w : World} {A : Around} {E : Value → Shared → Prop} {z : Shared}
def Left (w : World) (z : Shared) (ms : List Int) (h' : Heap) (c : Nat) : Prop := SetR w h' z.heap.objs.size (fun j => decide (j ∈ ms)) c ∧ c ≤ ms.length ∧ ∀ b o, z.heap.get? b = some o → h'.get? b = some o
theorem set_of_list {p : Addr} {its : Array Value} (ms : List Int) {Q : Value → Shared → Prop} (free : A.handled = none) (hp : z.heap.IsList p its) (hi : IntsAre its.toList ms) (room : ms.length + 1 < scanBound)
    (fin : ∀ (h' : Heap) (tk c : Nat), Left w z ms h' c → Q (.ref z.heap.objs.size) { z with heap := h', toks := tk }) : wpAny (model P w) A (call (.type "set") [.ref p]) Q E z := by
  have size_eq : its.size = ms.length := by have q := IntsAre.length hi; rw [Array.length_toList] at q; exact q
  obtain ⟨c, tl, k0⟩ := F.called_set.mro
  have k1 := F.called_set.made
  have k2 := F.called_set.sub
  refine wpAny_call (codeAny_of_tree ?_)
  show wpAny _ _ (callAny (.type "set") _) _ _ _
  refine wpAny_pure ⟨Code.quiet_builtin _ (by decide +kernel), codeAny_builtin F.entry_type_call ?_⟩
  rw [Around.under_plain (weight_type_call_type "set" [.ref p] []) rfl]
  have k3 := F.called_set.notType
  have k4 := F.called_set.canCreate
  have k5 := F.typeCall_set_1 (.ref p)
  repeat any_goals first | assumption | wp_step
  refine codeAny_mono (code_set_led1 (.ref p) (E := E) (Q₁ := fun v z1 => v = .ref z.heap.objs.size ∧ z1 = { z with heap := z.heap.push (newS w) }) ⟨rfl, rfl⟩) fun r z1 hr => ?_
  cases r with
  | error e => exact hr
  | ok fl =>
    cases fl with
    | ret v =>
      obtain ⟨rfl, rfl⟩ := hr
      have at0 : (z.heap.push (newS w)).get? z.heap.objs.size = some (newS w) := Heap.get?_push_size _ rfl
      have ty0 : Shared.TypeIs { z with heap := z.heap.push (newS w) } (.ref z.heap.objs.size) "set" := ⟨_, at0, rfl⟩
      have k6 := F.called_set.init.lookup
      have k7 := F.called_set.init.bind (.ref z.heap.objs.size)
      repeat any_goals first | assumption | wp_step
      refine codeAny_mono (codeAny_call_builtin (R := wants (fun r z2 => r = .none ∧ ∃ h' tk c, z2 = { z with heap := h', toks := tk } ∧ Left w z ms h' c) E) F.called_set.init.plain F.entry_set_init (check_set_init_1 ty0 ?_)) fun r2 z2 q2 => ?_
      · obtain ⟨ob, at1, oc, n, od⟩ := hp
        obtain ⟨c1, d1, dt, sl⟩ := ob
        simp only at oc od
        subst oc
        subst od
        have at2 : (z.heap.push (newS w)).get? p = some { cls := .type "list", dict := d1, data := .seq its n, slots := sl } := Heap.get?_push_of_some _ at1
        have s1 := PySem.F.sub_list_set
        have s2 := PySem.F.sub_list_frozenset
        have s3 : (Value.type "list" == Value.type "dict") = false := by decide
        have isL : (z.heap.push (newS w)).IsList p its := ⟨_, at2, rfl, n, rfl⟩
        unfold Builtin.«set.__init__»
        unfold noKeywords
        unfold Builtin.Frozenset.updateFrom
        generalize eI : pyIter = theI
        wp_walk
        subst eI
        refine wpAny_pyIter_list isL (wpAny_bind (wpAny_runValue ?_))
        have lt : p < z.heap.objs.size := Heap.lt_size at1
        have free3 : A.in1.in1.in1.handled = none := by simp [free]
        have sz : (z.heap.push (newS w)).objs.size = z.heap.objs.size + 1 := Heap.size_push ..
        have ne1 : p ≠ (z.heap.push (newS w)).objs.size := by rw [sz]; exact Nat.ne_of_lt (Nat.lt_succ_of_lt lt)
        have apart : z.heap.objs.size ∉ [(z.heap.push (newS w)).objs.size, p] := by
          rw [sz]
          simp only [List.mem_cons, List.not_mem_nil, or_false, not_or]
          exact ⟨by omega, Nat.ne_of_gt lt⟩
        have items : ∀ (i : Nat) (v : Value), its[i]? = some v → ∃ k t, ms[i]? = some k ∧ v = .int k t := fun i v hv => by
          have il : i < ms.length := by rw [← size_eq]; exact (Array.getElem?_eq_some_iff.mp hv).1
          obtain ⟨t, e⟩ := PyProof.Rows.IntsAre.int_at hi i v (by rw [Array.getElem?_toList]; exact hv)
          exact ⟨ms[i], t, List.getElem?_eq_getElem il, by rw [e, List.getD_eq_getElem?_getD, List.getElem?_eq_getElem il]; rfl⟩
        refine set_update_ints ((Walks.list free3 _ p ne1 its).toS) z.heap.objs.size apart ms size_eq room items (its.size - 0) 0 _ (by omega) (Nat.zero_le _) ⟨⟨_, Heap.get?_push_size _ rfl, rfl, rfl⟩, (isL.push _)⟩ ?start ?done
        case start =>
          exact ⟨0, Nat.le_refl 0, setR_new_at (Heap.get?_push_of_some _ at0)⟩
        case done =>
          intro z3 c3 mv cl R3
          obtain ⟨h3, g3, d3, t3, o3⟩ := z3
          obtain rfl : g3 = z.gens := mv.gens
          obtain rfl : d3 = z.drawn := mv.drawn
          obtain rfl : o3 = z.os := mv.os
          show wpAny _ _ _ _ _ _
          refine wpAny_pure ?_
          show wpAny _ _ (ret Value.none) _ _ _
          rw [size_eq] at cl
          refine wpAny_pure ⟨rfl, h3, t3, c3, rfl, R3, cl, fun b o e => ?_⟩
          have b0 : b < z.heap.objs.size := Heap.lt_size e
          refine mv.heap b o ?_ (Heap.get?_push_of_some _ (Heap.get?_push_of_some _ e))
          simp only [List.mem_cons, List.not_mem_nil, or_false, not_or]
          rw [sz]
          exact ⟨Nat.ne_of_lt b0, Nat.ne_of_lt (Nat.lt_succ_of_lt b0)⟩
      · cases r2 with
        | error e => exact q2
        | ok fl2 =>
          cases fl2 with
          | ret v2 =>
            obtain ⟨rfl, h', tk, c, rfl, lf⟩ := q2
            repeat any_goals first | assumption | wp_step
            exact fin _ _ _ lf
          | next => exact q2.elim
          | brk => exact q2.elim
          | cont => exact q2.elim
    | next => exact hr.elim
    | brk => exact hr.elim
    | cont => exact hr.elim
end
end MPS
namespace MP
open PySem PySem.Spec PyProof.Rows L2
def insU (x : Int) : List Int → List Int
  | [] => [x]
  | y :: r => if x < y then x :: y :: r else if x = y then y :: r else y :: insU x r
def sortU : List Int → List Int
  | [] => []
  | x :: r => insU x (sortU r)
theorem mem_insU {x z : Int} : ∀ {l : List Int}, z ∈ insU x l ↔ z = x ∨ z ∈ l
  | [] => by simp [insU]
  | y :: r => by
    unfold insU
    split
    · simp
    · split
      · rename_i h
        subst h
        simp
      · rw [List.mem_cons, mem_insU, List.mem_cons]
        constructor
        · rintro (h | h | h)
          · exact .inr (.inl h)
          · exact .inl h
          · exact .inr (.inr h)
        · rintro (h | h | h)
          · exact .inr (.inl h)
          · exact .inl h
          · exact .inr (.inr h)
theorem asc_insU {x : Int} : ∀ {l : List Int}, l.Pairwise (· < ·) → (insU x l).Pairwise (· < ·)
  | [], _ => by simp [insU]
  | y :: r, h => by
    obtain ⟨h1, h2⟩ := List.pairwise_cons.mp h
    unfold insU
    split
    · rename_i hxy
      refine List.pairwise_cons.mpr ⟨fun z hz => ?_, h⟩
      rcases List.mem_cons.mp hz with rfl | hz
      · exact hxy
      · have := h1 z hz; omega
    · split
      · exact h
      · rename_i h3 h4
        refine List.pairwise_cons.mpr ⟨fun z hz => ?_, asc_insU h2⟩
        rcases mem_insU.mp hz with rfl | hz
        · omega
        · exact h1 z hz
theorem mem_sortU {z : Int} : ∀ {l : List Int}, z ∈ sortU l ↔ z ∈ l
  | [] => Iff.rfl
  | x :: r => by
    show z ∈ insU x (sortU r) ↔ _
    rw [mem_insU, mem_sortU, List.mem_cons]
theorem asc_sortU : ∀ l : List Int, (sortU l).Pairwise (· < ·)
  | [] => List.Pairwise.nil
  | x :: r => asc_insU (asc_sortU r)
theorem asc_unique : ∀ {l m : List Int}, l.Pairwise (· < ·) → m.Pairwise (· < ·) → (∀ x, x ∈ l ↔ x ∈ m) → l = m
  | [], [], _, _, _ => rfl
  | [], y :: m, _, _, h => absurd ((h y).mpr (List.mem_cons_self ..)) (by simp)
  | x :: l, [], _, _, h => absurd ((h x).mp (List.mem_cons_self ..)) (by simp)
  | x :: l, y :: m, h1, h2, h => by
    obtain ⟨a1, a2⟩ := List.pairwise_cons.mp h1
    obtain ⟨b1, b2⟩ := List.pairwise_cons.mp h2
    have e : x = y := by
      rcases List.mem_cons.mp ((h x).mp (List.mem_cons_self ..)) with e | e
      · exact e
      · rcases List.mem_cons.mp ((h y).mpr (List.mem_cons_self ..)) with f | f
        · exact f.symm
        · have := b1 x e
          have := a1 y f
          omega
    subst e
    rw [asc_unique a2 b2 fun z => ?_]
    constructor
    · intro hz
      rcases List.mem_cons.mp ((h z).mp (List.mem_cons_of_mem _ hz)) with e | e
      · have := a1 z hz; omega
      · exact e
    · intro hz
      rcases List.mem_cons.mp ((h z).mpr (List.mem_cons_of_mem _ hz)) with e | e
      · have := b1 z hz; omega
      · exact e
def opSortSet : D → P D
  | .ref n => fun S => match lstAt S n with
    | some xs => (match intsOf xs with
      | some ns => if ns.length < 64 then some (.ref S.size, S.push (.lst ((sortU ns).map .int))) else none
      | none => none)
    | none => none
  | _ => P.bad
theorem intsOf_map : ∀ {xs : List D} {ns : List Int}, intsOf xs = some ns → xs = ns.map .int
  | [], ns, h => by cases h; rfl
  | .int i :: r, ns, h => by
    obtain ⟨l, h1, rfl⟩ := Option.map_eq_some_iff.mp (show (intsOf r).map (i :: ·) = some ns from h)
    rw [intsOf_map h1]; rfl
  | .non :: r, ns, h => by cases h
  | .bl _ :: r, ns, h => by cases h
  | .str _ :: r, ns, h => by cases h
  | .tup _ :: r, ns, h => by cases h
  | .ref _ :: r, ns, h => by cases h
  | .exn _ _ :: r, ns, h => by cases h
  | .lam _ _ :: r, ns, h => by cases h
theorem reps_int {G : Gx} {m : List Addr} {H : Hp} : ∀ {ns : List Int} {vs : List V}, RepVs G m H vs (ns.map .int) → vs = ns.map V.int
  | [], vs, h => h.nil_
  | n :: ns, vs, h => by
    obtain ⟨w, ws, rfl, h1, h2⟩ := (show RepVs G m H vs (.int n :: ns.map .int) from h).cons_
    cases h1.int_
    rw [reps_int h2]; rfl
theorem reps_ofInts {G : Gx} {m : List Addr} {H : Hp} : ∀ ns : List Int, RepVs G m H (ns.map V.int) (ns.map .int)
  | [] => .nil
  | n :: ns => .cons (.int n) (reps_ofInts ns)
section
variable {G : Gx} {X : Cx} {W : WX} {C : Cfg}
theorem cr_setL (hc : X.calm = true) : CallR X (.type "set") (fun xs H Q => ∃ (l : Addr) (ns : List Int), xs = [.ref l] ∧ SqL X.K H l (ns.map V.int) ∧ ns.length ≤ 1000 ∧ ∀ p c, H p = none → c ≤ ns.length → Q (.ref p) (upd H p (SetO X.w p (fun j => decide (j ∈ ns)) c))) := by
  intro pins s σ H xs us Q I r h
  obtain ⟨l, ns, rfl, hq, hl, q⟩ := h
  rw [Vals.ref1 r]
  obtain ⟨its, rv, pl, hz⟩ := I.list hq
  refine MPS.set_of_list ns (I.ok.hd hc) pl.isList (by simpa using ints_of_vals rv) (by unfold scanBound; omega) fun h' tk c ⟨R, cl, kp⟩ => ?_
  exact ⟨.ref _, _, I.laid (t' := tk) kp (Nat.le_refl _) (setO_new R), rfl, q _ c (I.hok.fresh (Nat.le_refl _)) cl⟩
theorem r_sortset {e : Expr} {a : ME} {p p2 q pos : Pos} (c : Ctx G X W) (hg : Gl X "sorted") (hm : X.mg "sorted" = none) (hv : bootBuiltins "sorted" = some (.builtin "sorted")) (hg2 : Gl X "set") (hm2 : X.mg "set" = none) (hv2 : bootBuiltins "set" = some (.type "set")) (he : PE X e (tE G W C a))
    (h1 : starEach [e] X.env = (false, eval e X.env) :: starEach [] X.env := by rfl) (h2 : starEach [.Call (.Name "set" p2) [e] [] q] X.env = (false, eval (.Call (.Name "set" p2) [e] [] q) X.env) :: starEach [] X.env := by rfl) :
    PE X (.Call (.Name "sorted" p) [.Call (.Name "set" p2) [e] [] q] [] pos) (tE G W C (e1 opSortSet a)) :=
  PE.weak (pe_callB (cr_sortedSet c.calm) hg hm hv (pa_cons (pe_callTy (cr_setL c.calm) hg2 hm2 hv2 (pa_cons he pa_nil h1) (he := h1)) pa_nil h2) (he := h2)) fun σ H Q h => by
    refine tX.imp (w1 (Rp := RepV G) (f := opSortSet) h) fun v H1 z => ?_
    obtain ⟨m, S, d, sim, rd, p⟩ := z
    unfold opSortSet at p
    split at p
    · rename_i n
      split at p
      · rename_i xs hl
        split at p
        · rename_i ns hi
          split at p
          · rename_i hn
            obtain ⟨r, rfl, hr⟩ := rd.ref_
            obtain ⟨r', vs, e1, e2, rv⟩ := sim.seqL hl
            rw [hr] at e1
            cases e1
            rw [intsOf_map hi] at rv
            have ev := reps_int rv
            subst ev
            refine ⟨r, ns, rfl, c.hK ▸ e2, by omega, fun t k nt hk => ?_⟩
            refine ⟨t, fun j => decide (j ∈ ns), k, rfl, upd_same, by omega, fun ms u asc mm lm nu => ?_⟩
            have em : ms = sortU ns := asc_unique asc (asc_sortU ns) fun x => by rw [mm, mem_sortU]; simp
            subst em
            refine new_lst (sim_same sim nt) (reps_ofInts _) ?_ u nu
            exact p.ext (Ext.new nt)
          · exact p.elim
        · exact p.elim
      · exact p.elim
    · exact p.elim
theorem bo_sorted2 : bootBuiltins "sorted" = some (.builtin "sorted") := by decide +kernel
theorem bo_set : bootBuiltins "set" = some (.type "set") := by decide +kernel
end
end MP
namespace MP
open PySem PySem.Spec PyProof.Rows L2
section
variable {G : Gx} {X : Cx} {W : WX} {C : Cfg}
theorem o_eqC (c : Ctx0 G X) : OpR X (compareOp .Eq) (rP2 G opEq) := o_eq c.hK c.hu
theorem o_neC (c : Ctx0 G X) : OpR X (compareOp .NotEq) (rP2 G opNe) := o_ne c.hK c.hu
theorem emitD_post {k v : ME} {σ m H ls n D} {S : Store} {Nx : Hp → Prop} (s : Sim G m S H) (r : SlotR G m H ls σ) (hD : m[n]? = some D) (p : postL G m H Nx (emitD k v n C ls S)) :
    tE G WF C k σ H fun y H4 => tE G WF C v σ H4 fun z H5 => ∃ kvs key, y = kV key ∧ H5 D = some (.dK kvs) ∧ kvs.length < sizeLine ∧ Nx (upd H5 D (.dK (putK kvs key z))) := by
  refine ⟨m, S, ls, s, r, ?_⟩
  unfold emitD at p
  cases q : k C ls S with
  | bad => rw [q] at p; exact p
  | ex c fs S' => rw [q] at p; exact p.elim
  | ok dk S1 =>
    rw [q] at p
    intro m1 H1 y x1 s1 ry
    refine ⟨m1, S1, ls, s1, r.mono x1, ?_⟩
    simp only at p
    cases q2 : v C ls S1 with
    | bad => rw [q2] at p; exact p
    | ex c fs S' => rw [q2] at p; exact p.elim
    | ok dv S2 =>
      rw [q2] at p
      intro m2 H2 z x2 s2 rz
      simp only at p
      cases q3 : S2.get n with
      | none => rw [q3] at p; exact p.elim
      | some o =>
        rw [q3] at p
        cases o with
        | dct ds =>
          simp only at p
          split at p
          · rename_i hz
            rw [Bool.and_eq_true] at hz
            obtain ⟨key, hk⟩ := keyFits_some hz.1
            have hz := of_decide_eq_true hz.2
            obtain ⟨D', kv, e1, e2, rk⟩ := s2.dct q3
            rw [x2.pre _ _ (x1.pre _ _ hD)] at e1
            cases e1
            have ry2 := ry.mono x2
            cases dKey_rep ry2 hk
            refine ⟨kv, key, rfl, e2, by rw [rk.length, ← line_eq]; exact hz, ?_⟩
            have mu : Mut1 (H2 D) := by rw [e2]; trivial
            have ex : Ext G m2 H2 m2 (upd H2 D (.dK (putK kv key z))) := Ext.mut mu
            exact p m2 _ ((x1.trans x2).trans ex) (sim_set s2 q3 rfl rfl (x2.pre _ _ (x1.pre _ _ hD)) mu (.dct upd_same ((rk.mono ex).put hk (rz.mono ex))))
          · exact p.elim
        | lst xs => exact p.elim
        | rol xs => exact p.elim
        | ins c fs => exact p.elim
        | dtu kvs => exact p.elim
        | fdt kvs => exact p.elim
        | fdk kvs => exact p.elim
theorem dc_fin {k v : ME} {g : Tg} {t : MI} {tc : MT} {vs : List Nat} {σ H} {Q : VK} (sub : ∀ i ∈ g.slots, i ∈ vs) (h : tE G W C (eDc k v g t tc vs) σ H Q) : tDc (tI G W C t) (tG G g) (tT G WF C tc) (tE G WF C k) (tE G WF C v) vs σ H Q := by
  have h1 := tX.bind (Ra := ItR G) (k := fun C σ i S => match compN i g tc (emitD k v S.size C) C (MP.wipe σ vs) turns 0 (S.push (.dct [])) with
    | .ok _ S' => .ok (D.ref S.size) S'
    | _ => .bad) h
  refine tX.imp h1 fun J H1 z D hD => ?_
  obtain ⟨m, S, ls, it, s, r, ri, p⟩ := z
  have ex : Ext G m H1 (m ++ [D]) (upd H1 D (.dK [])) := ext_push hD
  have hl : (m ++ [D])[S.size]? = some D := by rw [← s.len]; exact List.getElem?_concat_length
  refine comp_loop (f := emitD k v S.size C) (Qd := fun H => Q (.ref D) H) (sim_new s hD (.dct upd_same .nil)) ((r.mono ex).wipe vs) (ri.mono ex) sub (F := fun σ2 H3 Nx => tE G WF C k σ2 H3 fun y H4 => tE G WF C v σ2 H4 fun z H5 => ∃ kvs key, y = kV key ∧ H5 D = some (.dK kvs) ∧ kvs.length < sizeLine ∧ Nx (upd H5 D (.dK (putK kvs key z))))
    (fun σ2 m2 H2 S2 ls2 Nx x2 s2 r2 p2 => emitD_post s2 r2 (x2.pre _ _ hl) p2) (?_ : postL G (m ++ [D]) (upd H1 D (.dK [])) (fun H => Q (.ref D) H) _)
  cases q : compN it g tc (emitD k v S.size C) C (MP.wipe ls vs) turns 0 (S.push (.dct [])) with
  | bad => simp only [q] at p; exact p
  | ex c fs S' => simp only [q] at p; exact p
  | ok u S' =>
    simp only [q] at p
    exact fun m' H' x s' => p m' H' (.ref D) (ex.trans x) s' ((ref_new (G := G) (H' := upd H1 D (.dK [])) s).mono x)
theorem swD_true {kx vx : Expr} {cl : List Comprehension} {scope : Scope} {pos py : Pos} {y : Str} {line : Nat} {env : Env} (fk : env.scope.kind = .function) (loc : env.scope.names.lookup y = some .local) (same : (py.line == pos.line) = true)
    (out : (scope.names.any fun (n, k) => n == y && (k == .local || k == .cell)) = false) : swapsWith (.DictComp kx vx cl scope pos) (some (.Name y py)) line env = pure true := by
  have k1 : env.kindOf y = some .local := loc
  have k2 : env.blockKind = .function := by unfold Env.blockKind; rw [fk]; rfl
  unfold swapsWith
  simp only [k2, k1, out, Expr.pos, same]
  rfl
section
variable {kx vx tg iter : Expr} {ifs : List Expr} {scope : Scope} {own : List (Str × Nat)} {pos : Pos} {g : Tg} {t : MI} {tc : MT} {k v : ME} {vs : List Nat}
theorem ps_setDc {i : Nat} {y : Str} {py spos : Pos} {wi : TI} {tg' : TG} {tt : TT} {tk tv : TE} (calm : X.calm = true) (nd : X.N.Nodup) (hy : X.N[i]? = some y) (hyl : X.env.scope.names.lookup y = some .local)
    (hsw : swapsWith (.DictComp kx vx [⟨tg, iter, ifs, 0⟩] scope pos) (some (.Name y py)) spos.line X.env = pure true) (hi : PI X tg iter wi) (ok : BlkOk X.N X.env.scope scope own)
    (hg : ∀ (s : Shared) (H : Hp) (L : Addr) (cl : List (Str × Addr)) (fp : List Addr), PG (X.blk s H scope (compEnvC scope cl L X.env) fp) tg tg')
    (ht : ∀ (s : Shared) (H : Hp) (L : Addr) (cl : List (Str × Addr)) (fp : List Addr), PTs (X.blk s H scope (compEnvC scope cl L X.env) fp) ifs tt)
    (hk : ∀ (s : Shared) (H : Hp) (L : Addr) (cl : List (Str × Addr)) (fp : List Addr), PE (X.blk s H scope (compEnvC scope cl L X.env) fp) kx tk)
    (he : ∀ (s : Shared) (H : Hp) (L : Addr) (cl : List (Str × Addr)) (fp : List Addr), PE (X.blk s H scope (compEnvC scope cl L X.env) fp) vx tv) (hs : ∀ x, foldedSetIterable iter X.env x = pure x) :
    PS X (.Assign [.Name y py] (.DictComp kx vx [⟨tg, iter, ifs, 0⟩] scope pos) spos) (tAsg (tDc wi tg' tt tk tv (own.map (·.2))) (gName i)) := by
  refine ⟨fun pins s σ H E I h => ?_⟩
  rw [exec_Assign_Name_used _ _ _ _ hsw]
  refine wpAny_bind (wpAny_standAt (wpAny_bind ?_))
  show wpAny _ X.A (do let _ ← comprehension (.DictComp kx vx [⟨tg, iter, ifs, 0⟩] scope pos) scope X.env (firstIterPos [⟨tg, iter, ifs, 0⟩] pos) newDict false (eval iter X.env) (some (assign (.Name y py) X.env))) _ _ s
  have h' : tDc wi tg' tt tk tv (own.map (·.2)) σ H (fun x H1 => gName i x σ H1 E.nx) := h
  refine wpAny_bind (thn (dc_core (Qf := fun _ t => SP X pins E .next t) calm nd I hi ok hg ht hk he hs h' fun L B s2 ns H2 I2 last hn fB => ?_) fun _ _ done => wpAny_pure (wpAny_pure done))
  show wpAny _ _ (assign (.Name y py) X.env (.ref L)) _ _ _
  refine wpAny_assign_Name (store_ok2 (v := V.ref L) I2 nd hy (.inl hyl) rfl (fun s3 I3 ⟨cell, same, hcell⟩ => ?_) (.inr hyl))
  obtain ⟨b0, b1, b2, b3, b4, b5⟩ := fB
  have apart : B ≠ cell := by
    rcases hcell with e | e
    · rw [e]; exact b1
    · exact fun w => b4 y cell e w.symm
  refine ⟨ns, hn.sameBut same apart, fun h4 same4 => ?_⟩
  exact ⟨_, H2, I3.turned (t' := s3.toks) (fun b o hb e => (same4.2 b hb).trans e) b0 b1 b3 b4 b5, last⟩
theorem s_setDc {i : Nat} {y : Str} {py spos : Pos} (c : Ctx G X W) (hy : X.N[i]? = some y) (hyl : X.env.scope.names.lookup y = some .local) (hsw : swapsWith (.DictComp kx vx [⟨tg, iter, ifs, 0⟩] scope pos) (some (.Name y py)) spos.line X.env = pure true)
    (hi : PI X tg iter (tI G W C t)) (ok : blkC X.N X.env.scope scope own = true) (hv : own.map (·.2) = vs) (sub : (g.slots.all fun i => vs.contains i) = true)
    (hg : ∀ (s : Shared) (H : Hp) (L : Addr) (cl : List (Str × Addr)) (fp : List Addr), PG (X.blk s H scope (compEnvC scope cl L X.env) fp) tg (tG G g))
    (ht : ∀ (s : Shared) (H : Hp) (L : Addr) (cl : List (Str × Addr)) (fp : List Addr), PTs (X.blk s H scope (compEnvC scope cl L X.env) fp) ifs (tT G WF C tc))
    (hk : ∀ (s : Shared) (H : Hp) (L : Addr) (cl : List (Str × Addr)) (fp : List Addr), PE (X.blk s H scope (compEnvC scope cl L X.env) fp) kx (tE G WF C k))
    (he : ∀ (s : Shared) (H : Hp) (L : Addr) (cl : List (Str × Addr)) (fp : List Addr), PE (X.blk s H scope (compEnvC scope cl L X.env) fp) vx (tE G WF C v)) (hs : ∀ x, foldedSetIterable iter X.env x = pure x := by intro _; rfl) :
    PS X (.Assign [.Name y py] (.DictComp kx vx [⟨tg, iter, ifs, 0⟩] scope pos) spos) (tS G W C (sSet (.nm i) (eDc k v g t tc vs))) := by
  subst hv
  refine PS.weak (ps_setDc c.calm c.hN hy hyl hsw hi (blkOk_by ok) hg ht hk he hs) fun E σ H ⟨m, S, ls, s, r, p⟩ => dc_fin (fun i hi => by simpa using List.all_eq_true.mp sub i hi) ⟨m, S, ls, s, r, post.imp (lift_post (Ra := RepV G) r p) fun x H1 ⟨m1, S1, a, _, s1, r1, ra, p1⟩ => ?_⟩
  unfold asg at p1
  split at p1
  · rename_i ls' e
    split at e
    · cases e
      exact p1 m1 H1 _ Ext.refl s1 (r1.set ra)
    · cases e
  · exact p1.elim
end
end
end MP
namespace MP
open PySem PySem.Spec PyProof.Rows L2
section
variable {G : Gx} {X : Cx} {W : WX} {C : Cfg}
theorem lift_put {σ : L2.St} {m : List Addr} {H : Hp} {ls : Slots} {E : Ends} {S : Store} {u k x : D} {vu vk vx : V} {kk : Unit → Store → SR} (sim : Sim G m S H) (r : SlotR G m H ls σ) (ru : RepV G m H vu u) (rk : RepV G m H vk k) (rx : RepV G m H vx x)
    (p : postS G W m H E (lift (M.of (putItem u k x)) ls S kk)) {Q : Hp → Prop} (h : ∀ H' S', Ext G m H m H' → Sim G m S' H' → SlotR G m H' ls σ → postS G W m H' E (kk () S') → Q H') : rSetL vu vk vx H Q ∨ rSetK vu vk vx H Q := by
  unfold lift M.of at p
  cases q : putItem u k x S with
  | none => simp only [q] at p; exact p.elim
  | some w =>
    simp only [q] at p
    exact put_lst (cs := .non) sim ru rk rx q fun H' ex s' => h H' w.2 ex s' (r.mono ex) (p.ext ex)
end
end MP
namespace MP
open PySem PySem.Spec PyProof.Rows L2
section
variable {G : Gx} {X : Cx} {W : WX} {C : Cfg}
end
end MP
namespace MP
open PySem PySem.Spec PyProof.Rows L2
theorem nk_tup {n : Nat} {xs : List D} {k : NestedKey} (h : nk n (.tup xs) = some k) : ∃ j ks, n = j + 1 ∧ nks j xs = some ks ∧ k = .tup ks := by
  cases n with
  | zero => unfold nk at h; cases h
  | succ j =>
    unfold nk at h
    obtain ⟨ks, h1, rfl⟩ := Option.map_eq_some_iff.mp h
    exact ⟨j, ks, rfl, h1, rfl⟩
theorem nks_cons {n : Nat} {x : D} {xs : List D} {ks : List NestedKey} (h : nks n (x :: xs) = some ks) : ∃ a b, nk n x = some a ∧ nks n xs = some b ∧ ks = a :: b := by
  unfold nks at h
  cases h1 : nk n x with
  | none => rw [h1] at h; cases h
  | some a =>
    cases h2 : nks n xs with
    | none => rw [h1, h2] at h; cases h
    | some b => rw [h1, h2] at h; cases h; exact ⟨a, b, rfl, rfl, rfl⟩
mutual
theorem nk_depth : ∀ (d : D) (n : Nat) (k : NestedKey), nk n d = some k → k.depth ≤ n
  | .non, n, k, h => by unfold nk at h; cases h; exact Nat.zero_le _
  | .int i, n, k, h => by unfold nk at h; cases h; exact Nat.zero_le _
  | .str s, n, k, h => by unfold nk at h; cases h; exact Nat.zero_le _
  | .tup xs, n, k, h => by
    obtain ⟨j, ks, rfl, h1, rfl⟩ := nk_tup h
    have := nks_depth xs j ks h1
    simp only [NestedKey.depth]
    omega
  | .bl b, n, k, h => by unfold nk at h; cases h
  | .ref r, n, k, h => by unfold nk at h; cases h
  | .exn _ _, n, k, h => by unfold nk at h; cases h
  | .lam _ _, n, k, h => by unfold nk at h; cases h
theorem nks_depth : ∀ (xs : List D) (n : Nat) (ks : List NestedKey), nks n xs = some ks → NestedKey.depthAll ks ≤ n
  | [], n, ks, h => by unfold nks at h; cases h; exact Nat.zero_le _
  | x :: xs, n, ks, h => by
    obtain ⟨a, b, h1, h2, rfl⟩ := nks_cons h
    have := nk_depth x n a h1
    have := nks_depth xs n b h2
    simp only [NestedKey.depthAll]
    omega
end
mutual
theorem nk_eq : ∀ (a b : D) (n : Nat) (k l : NestedKey), nk n a = some k → nk n b = some l → (D.beq a b = true ↔ k = l)
  | .non, b, n, k, l, h, h' => by
    unfold nk at h; cases h
    cases b <;> first | (obtain ⟨_, _, _, _, rfl⟩ := nk_tup h'; simp [D.beq]) | (unfold nk at h'; cases h' <;> simp [D.beq])
  | .int i, b, n, k, l, h, h' => by
    unfold nk at h; cases h
    cases b <;> first | (obtain ⟨_, _, _, _, rfl⟩ := nk_tup h'; simp [D.beq]) | (unfold nk at h'; cases h' <;> simp [D.beq])
  | .str s, b, n, k, l, h, h' => by
    unfold nk at h; cases h
    cases b <;> first | (obtain ⟨_, _, _, _, rfl⟩ := nk_tup h'; simp [D.beq]) | (unfold nk at h'; cases h' <;> simp [D.beq])
  | .tup xs, b, n, k, l, h, h' => by
    obtain ⟨j, ks, rfl, h1, rfl⟩ := nk_tup h
    cases b with
    | tup ys =>
      obtain ⟨j', ls, e, h2, rfl⟩ := nk_tup h'
      cases e
      have := nks_eq xs ys j ks ls h1 h2
      unfold D.beq
      rw [this]
      simp
    | non => unfold nk at h'; cases h'; simp [D.beq]
    | int i => unfold nk at h'; cases h'; simp [D.beq]
    | str s => unfold nk at h'; cases h'; simp [D.beq]
    | bl b => unfold nk at h'; cases h'
    | ref r => unfold nk at h'; cases h'
    | exn _ _ => unfold nk at h'; cases h'
    | lam _ _ => unfold nk at h'; cases h'
  | .bl b, _, n, k, l, h, h' => by unfold nk at h; cases h
  | .ref r, _, n, k, l, h, h' => by unfold nk at h; cases h
  | .exn _ _, _, n, k, l, h, h' => by unfold nk at h; cases h
  | .lam _ _, _, n, k, l, h, h' => by unfold nk at h; cases h
theorem nks_eq : ∀ (xs ys : List D) (n : Nat) (ks ls : List NestedKey), nks n xs = some ks → nks n ys = some ls → (D.beqAll xs ys = true ↔ ks = ls)
  | [], [], n, ks, ls, h, h' => by unfold nks at h h'; cases h; cases h'; simp [D.beqAll]
  | [], y :: ys, n, ks, ls, h, h' => by
    obtain ⟨a, b, h1, h2, rfl⟩ := nks_cons h'
    unfold nks at h; cases h
    simp [D.beqAll]
  | x :: xs, [], n, ks, ls, h, h' => by
    obtain ⟨a, b, h1, h2, rfl⟩ := nks_cons h
    unfold nks at h'; cases h'
    simp [D.beqAll]
  | x :: xs, y :: ys, n, ks, ls, h, h' => by
    obtain ⟨a, b, h1, h2, rfl⟩ := nks_cons h
    obtain ⟨a', b', h3, h4, rfl⟩ := nks_cons h'
    have e1 := nk_eq x y n a a' h1 h3
    have e2 := nks_eq xs ys n b b' h2 h4
    unfold D.beqAll
    rw [Bool.and_eq_true, e1, e2]
    simp
end
theorem tk_tup {d : D} {k : NestedKey} (h : tk d = some k) : nk 8 d = some k ∧ ∃ xs, d = .tup xs := by
  unfold tk at h
  split at h
  · exact ⟨h, _, rfl⟩
  · cases h
theorem tk_eq {a b : D} {k l : NestedKey} (h : tk a = some k) (h' : tk b = some l) : D.beq a b = true ↔ k = l := nk_eq a b 8 k l (tk_tup h).1 (tk_tup h').1
section
variable {G : Gx} {X : Cx} {pins : List (Addr × Obj)} {σ : L2.St} {m : List Addr} {H : Hp} {s : Shared}
mutual
theorem nk_is (hK : G.K = X.K) (I : Inv X pins σ H s) : ∀ (d : D) (n : Nat) (k : NestedKey) (v : V) (u : Value), nk n d = some k → RepV G m H v d → RelV v u → NestedIs s.heap k u
  | .non, n, k, v, u, h, r, q => by unfold nk at h; cases h; cases r; cases q; exact .none
  | .int i, n, k, v, u, h, r, q => by unfold nk at h; cases h; cases r; obtain ⟨t, rfl⟩ := q; exact .int _ _
  | .str x, n, k, v, u, h, r, q => by unfold nk at h; cases h; cases r; obtain ⟨t, rfl⟩ := q; exact .text _ _
  | .tup xs, n, k, v, u, h, r, q => by
    obtain ⟨j, ks, rfl, h1, rfl⟩ := nk_tup h
    obtain ⟨p, vs, rfl, hq, hv⟩ := r.tup_
    cases q
    obtain ⟨its, rv, ⟨o, e1, e2, n', e3⟩, _⟩ := I.tuple (hK ▸ hq)
    exact .tup e1 e2 e3 (by simpa using nks_is hK I xs j ks vs its h1 hv rv)
  | .bl b, n, k, v, u, h, r, q => by unfold nk at h; cases h
  | .ref b, n, k, v, u, h, r, q => by unfold nk at h; cases h
  | .exn _ _, n, k, v, u, h, r, q => by unfold nk at h; cases h
  | .lam _ _, n, k, v, u, h, r, q => by unfold nk at h; cases h
theorem nks_is (hK : G.K = X.K) (I : Inv X pins σ H s) : ∀ (xs : List D) (n : Nat) (ks : List NestedKey) (vs : List V) (us : List Value), nks n xs = some ks → RepVs G m H vs xs → Vals vs us → NestedAll s.heap ks us
  | [], n, ks, vs, us, h, r, q => by unfold nks at h; cases h; cases r; cases q; exact .nil
  | x :: xs, n, ks, vs, us, h, r, q => by
    obtain ⟨a, b, h1, h2, rfl⟩ := nks_cons h
    cases r with
    | cons r1 r2 =>
      cases q with
      | cons q1 q2 => exact .cons (nk_is hK I x n a _ _ h1 r1 q1) (nks_is hK I xs n b _ _ h2 r2 q2)
end
abbrev PN : NestedKey × Addr × V → NestedKey × Addr × Value → Prop := fun p q => p.1 = q.1 ∧ p.2.1 = q.2.1 ∧ RelV p.2.2 q.2.2
theorem PN.keys : ∀ {xs : List (NestedKey × Addr × V)} {ys : List (NestedKey × Addr × Value)}, Paired PN xs ys → xs.map (·.1) = ys.map (·.1)
  | _, _, .nil => rfl
  | _, _, .cons a b => by rw [List.map_cons, List.map_cons, a.1, PN.keys b]
def atN (xs : List (NestedKey × Addr × V)) (k : NestedKey) : Option V := (xs.find? fun x => decide (x.1 = k)).map (·.2.2)
theorem RepN.get {d : D} {k : NestedKey} (h : tk d = some k) : ∀ {kv ds}, RepN G m H kv ds → (∀ x, dget d ds = some x → ∃ v, atN kv k = some v ∧ RepV G m H v x) ∧ (dget d ds = none → atN kv k = none)
  | _, _, .nil => ⟨fun x e => by simp [dget] at e, fun _ => rfl⟩
  | _, _, .cons (a := a) hk ha hv hs => by
    obtain ⟨i1, i2⟩ := RepN.get h hs
    unfold dget atN
    rw [List.find?_cons]
    by_cases e : D.beq a d = true
    · have ek := (tk_eq hk h).mp e
      rw [if_pos e, decide_eq_true ek]
      refine ⟨fun x q => ?_, fun q => by cases q⟩
      cases q
      exact ⟨_, rfl, hv⟩
    · have ek : ¬ _ = _ := fun z => e ((tk_eq hk h).mpr z)
      rw [if_neg e, decide_eq_false ek]
      exact ⟨i1, i2⟩
def putN (xs : List (NestedKey × Addr × V)) (k : NestedKey) (q : Addr) (v : V) : List (NestedKey × Addr × V) :=
  if (atN xs k).isSome then xs.map fun x => if x.1 = k then (x.1, x.2.1, v) else x else xs ++ [(k, q, v)]
theorem RepN.append : ∀ {kv ds kv' ds'}, RepN G m H kv ds → RepN G m H kv' ds' → RepN G m H (kv ++ kv') (ds ++ ds')
  | _, _, _, _, .nil, h => h
  | _, _, _, _, .cons a b c d, h => .cons a b c (RepN.append d h)
theorem RepN.any {d : D} {k : NestedKey} (h : tk d = some k) {kv ds} (r : RepN G m H kv ds) : (atN kv k).isSome = ds.any fun p => D.beq p.1 d := by
  induction r with
  | nil => rfl
  | cons hk ha hv hs ih =>
    rename_i k' q v a x kv ds
    rw [List.any_cons, ← ih]
    unfold atN
    rw [List.find?_cons]
    have z := tk_eq hk h
    cases e : D.beq a d with
    | true => rw [decide_eq_true (z.mp e)]; rfl
    | false => rw [decide_eq_false fun y => by rw [z.mpr y] at e; cases e]; rfl
theorem RepN.put {d x : D} {k : NestedKey} {q : Addr} {v : V} (h : tk d = some k) (rq : RepV G m H (.ref q) d) (rx : RepV G m H v x) {kv ds} (r : RepN G m H kv ds) : RepN G m H (putN kv k q v) (dput d x ds) := by
  unfold putN dput
  rw [r.any h]
  split
  · have : ∀ {kv ds}, RepN G m H kv ds → RepN G m H (kv.map fun x => if x.1 = k then (x.1, x.2.1, v) else x) (ds.map fun p => if D.beq p.1 d = true then (p.1, x) else p) := by
      intro kv ds r
      induction r with
      | nil => exact .nil
      | cons hk ha hv hs ih =>
        rename_i k' q' v' a x' kv ds
        rw [List.map_cons, List.map_cons]
        have z := tk_eq hk h
        show RepN G m H ((if k' = k then (k', q', v) else _) :: _) ((if D.beq a d = true then (a, x) else _) :: _)
        by_cases e : k' = k
        · rw [if_pos e, if_pos (z.mpr e)]; exact .cons hk ha rx ih
        · rw [if_neg e, if_neg fun y => e (z.mp y)]; exact .cons hk ha hv ih
    exact this r
  · exact r.append (.cons h rq rx .nil)
end
section
variable {G : Gx} {X : Cx} {pins : List (Addr × Obj)} {σ : L2.St} {m : List Addr} {H : Hp} {s : Shared} {S : Store}
end
section
variable {G : Gx} {X : Cx} {W : WX} {C : Cfg} {pos : Pos}
def isDict (X : Cx) (x : V) (H : Hp) : Prop := ∀ (pins : List (Addr × Obj)) (σ : L2.St) (s : Shared) (v : Value), Inv X pins σ H s → RelV x v → ∃ p o, v = .ref p ∧ s.heap.get? p = some o ∧ o.ExactDict
theorem isDict.ty {x : V} {H : Hp} {pins : List (Addr × Obj)} {σ : L2.St} {s : Shared} {v : Value} (h : isDict X x H) (I : Inv X pins σ H s) (r : RelV x v) : s.TypeIs v "dict" ∧ ∀ a, v = .ref a → ∃ ob, s.heap.get? a = some ob ∧ ob.dict = none := by
  obtain ⟨p, o, rfl, h1, h2⟩ := h pins σ s v I r
  exact ⟨⟨o, h1, h2.1⟩, fun a e => by cases e; exact ⟨o, h1, h2.2.1⟩⟩
section
variable {o e : Expr} {es : List Expr} {name : Str} {apos cpos : Pos} {id : String} {f : D → List D → P D} {eo : ME} {a : MA}
end
end
end MP
namespace MP
open PySem PySem.Spec PyProof.Rows L2
section
variable {X : Cx} {pins : List (Addr × Obj)} {σ : L2.St} {H : Hp} {s : Shared} {d : Addr} {o : Obj}
end
section
variable {P : Program} {w : World} {K : PySem.W.Frag} {tg : Expr} {d : Addr} {o : Obj} {es : Array DictEntry} {ep : Nat} {xs : List (NestedKey × Addr × V)}
end
section
variable {G : Gx} {m : List Addr} {H : Hp}
theorem RepN.at : ∀ {kv ds}, RepN G m H kv ds → ∀ {i : Nat} {a x : D}, ds[i]? = some (a, x) → ∃ k q v, kv[i]? = some (k, q, v) ∧ RepV G m H (.ref q) a ∧ RepV G m H v x
  | _, _, .nil, i, a, x, e => by simp at e
  | _, _, .cons k q v hs, 0, a, x, e => by
    simp only [List.getElem?_cons_zero, Option.some.injEq, Prod.mk.injEq] at e
    obtain ⟨rfl, rfl⟩ := e
    exact ⟨_, _, _, rfl, q, v⟩
  | _, _, .cons k q v hs, i + 1, a, x, e => by
    obtain ⟨k', q', v', h1, h2⟩ := RepN.at hs (i := i) (by simpa using e)
    exact ⟨k', q', v', by simpa using h1, h2⟩
theorem RepK.at : ∀ {kv ds}, RepK G m H kv ds → ∀ {i : Nat} {a x : D}, ds[i]? = some (a, x) → ∃ k v, kv[i]? = some (k, v) ∧ RepV G m H (kV k) a ∧ RepV G m H v x
  | _, _, .nil, i, a, x, e => by simp at e
  | _, _, .cons k v hs, 0, a, x, e => by
    simp only [List.getElem?_cons_zero, Option.some.injEq, Prod.mk.injEq] at e
    obtain ⟨rfl, rfl⟩ := e
    exact ⟨_, _, rfl, dKey_repv k, v⟩
  | _, _, .cons k v hs, i + 1, a, x, e => by
    obtain ⟨k', v', h1, h2⟩ := RepK.at hs (i := i) (by simpa using e)
    exact ⟨k', v', by simpa using h1, h2⟩
end
section
variable {G : Gx} {X : Cx} {pins : List (Addr × Obj)} {σ : L2.St} {m : List Addr} {H : Hp} {s : Shared} {S S' : Store}
end
section
variable {G : Gx} {X : Cx} {W : WX} {C : Cfg} {e : Expr} {a : ME} {apos cpos : Pos}
end
end MP
namespace MP
open PySem PySem.Spec PyProof.Rows L2
abbrev DPut1 := Addr → V → V → Hp → (Hp → Prop) → Prop
section
variable {X : Cx} {pins : List (Addr × Obj)} {s : Shared} {σ : L2.St} {H : Hp} {Q : VK} {kx vx tg iter : Expr} {ifs : List Expr} {scope : Scope} {own : List (Str × Nat)} {pos pos' : Pos} {wi : TI} {g : TG} {tt : TT} {tk tv : TE} {put : DPut1}
end
end MP
namespace MP
open PySem PySem.Spec PyProof.Rows L2
section
variable {G : Gx} {X : Cx} {W : WX} {C : Cfg}
section
variable {kx vx tg iter : Expr} {ifs : List Expr} {scope : Scope} {own : List (Str × Nat)} {pos : Pos} {g : Tg} {t : MI} {tc : MT} {k v : ME} {vs : List Nat}
end
end
end MP
namespace MP
open PySem PySem.Spec PyProof.Rows L2
section
variable {G : Gx} {X : Cx} {W : WX} {C : Cfg}
section
variable {a n : Expr} {ea en : ME} {p rp pos : Pos}
end
end
end MP
namespace MP
abbrev XP := Nat → Fs → Store → Prop
abbrev X0 : XP := fun _ _ _ => False
def Ok {α : Type} (r : R α) (Q : α → Store → Prop) (E : XP) : Prop := match r with
  | .ok a S => Q a S
  | .ex c fs S => E c fs S
  | .bad => False
def OkP {α : Type} (r : Option (α × Store)) (Q : α → Store → Prop) : Prop := match r with
  | some (a, S) => Q a S
  | none => False
structure Pt where
  nx : Slots → Store → Prop
  rt : D → Store → Prop
  bk : Slots → Store → Prop := fun _ _ => False
  ct : Slots → Store → Prop := fun _ _ => False
  ex : Nat → Fs → Slots → Store → Prop := fun _ _ _ _ => False
def OkS (r : SR) (T : Pt) : Prop := match r with
  | .nx σ S => T.nx σ S
  | .rt d S => T.rt d S
  | .bk σ S => T.bk σ S
  | .ct σ S => T.ct σ S
  | .ex c fs σ S => T.ex c fs σ S
  | .bad => False
theorem Ok.mono {α : Type} {r : R α} {Q Q' : α → Store → Prop} {E E' : XP} (h : Ok r Q E) (q : ∀ a S, Q a S → Q' a S) (e : ∀ c fs S, E c fs S → E' c fs S) : Ok r Q' E' := by
  cases r with
  | ok a S => exact q _ _ h
  | ex c fs S => exact e _ _ _ h
  | bad => exact h
theorem Ok.imp {α : Type} {r : R α} {Q Q' : α → Store → Prop} {E : XP} (h : Ok r Q X0) (q : ∀ a S, Q a S → Q' a S) : Ok r Q' E := h.mono q fun _ _ _ z => z.elim
theorem Ok.ok {α : Type} {r : R α} {Q : α → Store → Prop} (h : Ok r Q X0) : ∃ a S, r = .ok a S ∧ Q a S := by
  cases r with
  | ok a S => exact ⟨a, S, rfl, h⟩
  | ex c fs S => exact h.elim
  | bad => exact h.elim
theorem OkS.mono {r : SR} {T T' : Pt} (h : OkS r T) (h1 : ∀ σ S, T.nx σ S → T'.nx σ S) (h2 : ∀ d S, T.rt d S → T'.rt d S) (h3 : ∀ σ S, T.bk σ S → T'.bk σ S) (h4 : ∀ σ S, T.ct σ S → T'.ct σ S) (h5 : ∀ c fs σ S, T.ex c fs σ S → T'.ex c fs σ S) : OkS r T' := by
  cases r with
  | nx σ S => exact h1 _ _ h
  | rt d S => exact h2 _ _ h
  | bk σ S => exact h3 _ _ h
  | ct σ S => exact h4 _ _ h
  | ex c fs σ S => exact h5 _ _ _ _ h
  | bad => exact h
section
variable {α β : Type} {C : Cfg} {σ : Slots} {S : Store} {E : XP} {T : Pt}
@[simp] theorem ok_ok {a : α} {Q} : Ok (.ok a S) Q E = Q a S := id rfl
@[simp] theorem ok_ret {a : α} {Q} : Ok (M.ret a S) Q E = Q a S := id rfl
@[simp] theorem ok_bind {m : M α} {f : α → M β} {Q} : Ok (M.bind m f S) Q E = Ok (m S) (fun a S' => Ok (f a S') Q E) E := by
  unfold M.bind
  cases m S <;> rfl
@[simp] theorem ok_of {p : P α} {Q} : Ok (M.of p S) Q E = OkP (p S) Q := by
  unfold M.of
  cases p S <;> rfl
@[simp] theorem okp_some {a : α} {Q : α → Store → Prop} : OkP (some (a, S)) Q = Q a S := id rfl
@[simp] theorem okp_none {Q : α → Store → Prop} : OkP (none : Option (α × Store)) Q = False := id rfl
@[simp] theorem okp_ret {a : α} {Q : α → Store → Prop} : OkP (P.ret a S) Q = Q a S := id rfl
@[simp] theorem okp_if {c : Prop} [Decidable c] {a : α} {S' : Store} {Q : α → Store → Prop} : OkP (if c then some (a, S') else none) Q = (c ∧ Q a S') := by
  by_cases h : c
  · rw [if_pos h]; simp [h, OkP]
  · rw [if_neg h]; simp [h, OkP]
@[simp] theorem ok_var {i : Nat} {Q} : Ok (eVar i C σ S) Q E = (match σ[i]? with
  | some (some d) => isX d = false ∧ Q d S
  | _ => False) := by
  unfold eVar
  cases σ[i]? with
  | none => rfl
  | some o =>
    cases o with
    | none => rfl
    | some d =>
      simp only
      by_cases h : isX d = true
      · rw [if_pos h]; simp [h, Ok]
      · rw [if_neg h]; simp [h, Ok]
@[simp] theorem isX_non : isX .non = false := id rfl
@[simp] theorem isX_bl {b : Bool} : isX (.bl b) = false := id rfl
@[simp] theorem isX_int {i : Int} : isX (.int i) = false := id rfl
@[simp] theorem isX_str {s : List Nat} : isX (.str s) = false := id rfl
@[simp] theorem isX_tup {xs : List D} : isX (.tup xs) = false := id rfl
@[simp] theorem isX_ref {n : Nat} : isX (.ref n) = false := id rfl
@[simp] theorem ok_c {d : D} {Q} : Ok (eC d C σ S) Q E = Q d S := id rfl
@[simp] theorem ok_nil {Q} : Ok (aNil C σ S) Q E = Q [] S := id rfl
@[simp] theorem ok_cons {a : ME} {r : MA} {Q} : Ok (aCons a r C σ S) Q E = Ok (a C σ S) (fun x S1 => Ok (r C σ S1) (fun xs S2 => Q (x :: xs) S2) E) E := by
  show Ok (M.bind _ _ S) Q E = _
  rw [ok_bind]
  congr 1; funext x S1
  rw [ok_bind]; rfl
@[simp] theorem ok_tup {a : MA} {Q} : Ok (eTup a C σ S) Q E = Ok (a C σ S) (fun xs S1 => xs.length ≤ line ∧ Q (.tup xs) S1) E := by
  show Ok (M.bind _ _ S) Q E = _
  rw [ok_bind]
  congr 1; funext xs S1
  rw [ok_of]; unfold mkT; rw [okp_if]
@[simp] theorem ok_lst {a : MA} {Q} : Ok (eLst a C σ S) Q E = Ok (a C σ S) (fun xs S1 => xs.length ≤ line ∧ Q (.ref S1.size) (S1.push (.lst xs))) E := by
  show Ok (M.bind _ _ S) Q E = _
  rw [ok_bind]
  congr 1; funext xs S1
  rw [ok_of]; unfold mkL; rw [okp_if]
@[simp] theorem ok_e2 {f : D → D → P D} {a b : ME} {Q} : Ok (e2 f a b C σ S) Q E = Ok (a C σ S) (fun x S1 => Ok (b C σ S1) (fun y S2 => OkP (f x y S2) Q) E) E := by
  show Ok (M.bind _ _ S) Q E = _
  rw [ok_bind]
  congr 1; funext x S1
  rw [ok_bind]
  congr 1; funext y S2
  rw [ok_of]
@[simp] theorem ok_e1 {f : D → P D} {a : ME} {Q} : Ok (e1 f a C σ S) Q E = Ok (a C σ S) (fun x S1 => OkP (f x S1) Q) E := by
  show Ok (M.bind _ _ S) Q E = _
  rw [ok_bind]
  congr 1; funext x S1
  rw [ok_of]
@[simp] theorem ok_B {f : List D → P D} {a : MA} {Q} : Ok (eB f a C σ S) Q E = Ok (a C σ S) (fun xs S1 => OkP (f xs S1) Q) E := by
  show Ok (M.bind _ _ S) Q E = _
  rw [ok_bind]
  congr 1; funext x S1
  rw [ok_of]
@[simp] theorem ok_BM {ty : D → Store → Bool} {f : D → List D → P D} {o : ME} {a : MA} {Q} : Ok (eBM ty f o a C σ S) Q E = Ok (o C σ S) (fun x S1 => ty x S1 = true ∧ Ok (a C σ S1) (fun xs S2 => OkP (f x xs S2) Q) E) E := by
  show Ok (M.bind _ _ S) Q E = _
  rw [ok_bind]
  congr 1; funext x S1
  by_cases h : ty x S1 = true
  · simp only [h, if_true, true_and]
    rw [ok_bind]
    congr 1; funext y S2
    rw [ok_of]
  · simp [h, Ok]
@[simp] theorem ok_call {f : Nat} {a : MA} {dd : List D} {Q} : Ok (eCall f a dd C σ S) Q E = Ok (a C σ S) (fun xs S1 => Ok (C.call f (xs ++ dd) S1) Q E) E := by
  show Ok (M.bind _ _ S) Q E = _
  rw [ok_bind]
@[simp] theorem okp_asB {x : D} {Q : Bool → Store → Prop} : OkP (asB x S) Q = ∃ b, x = .bl b ∧ Q b S := by
  cases x with
  | bl b =>
    refine propext ⟨fun h => ⟨b, rfl, h⟩, fun ⟨b', e, h⟩ => ?_⟩
    cases e; exact h
  | _ => refine propext ⟨fun h => h.elim, fun ⟨_, e, _⟩ => nomatch e⟩
@[simp] theorem ok_tB {a : ME} {Q} : Ok (tB a C σ S) Q E = Ok (a C σ S) (fun x S1 => ∃ b, x = .bl b ∧ Q b S1) E := by
  show Ok (M.bind _ _ S) Q E = _
  rw [ok_bind]
  congr 1; funext x S1
  rw [ok_of, okp_asB]
@[simp] theorem ok_tV {a : ME} {Q} : Ok (tV a C σ S) Q E = Ok (a C σ S) (fun x S1 => ∃ b, truth S1 x = some b ∧ Q b S1) E := by
  show Ok (M.bind _ _ S) Q E = _
  rw [ok_bind]
  congr 1; funext x S1
  rw [ok_of]; unfold truthP
  cases truth S1 x <;> simp [OkP]
@[simp] theorem ok_tNot {t : MT} {Q} : Ok (tNot t C σ S) Q E = Ok (t C σ S) (fun b S1 => Q (!b) S1) E := by
  show Ok (M.bind _ _ S) Q E = _
  rw [ok_bind]; rfl
@[simp] theorem ok_tAnd {t u : MT} {Q} : Ok (tAnd t u C σ S) Q E = Ok (t C σ S) (fun b S1 => if b = true then Ok (u C σ S1) Q E else Q false S1) E := by
  show Ok (M.bind _ _ S) Q E = _
  rw [ok_bind]
  congr 1; funext c S1
  cases c <;> rfl
@[simp] theorem ok_tOr {t u : MT} {Q} : Ok (tOr t u C σ S) Q E = Ok (t C σ S) (fun b S1 => if b = true then Q true S1 else Ok (u C σ S1) Q E) E := by
  show Ok (M.bind _ _ S) Q E = _
  rw [ok_bind]
  congr 1; funext c S1
  cases c <;> rfl
@[simp] theorem ok_yes {Q} : Ok (tYes C σ S) Q E = Q true S := id rfl
@[simp] theorem ok_pn {Q : Option Int → Store → Prop} : Ok (pNone C σ S) Q E = Q none S := id rfl
@[simp] theorem okp_asI {x : D} {Q : Option Int → Store → Prop} : OkP (asI x S) Q = ∃ i, x = .int i ∧ Q (some i) S := by
  cases x with
  | int b =>
    refine propext ⟨fun h => ⟨b, rfl, h⟩, fun ⟨b', e, h⟩ => ?_⟩
    cases e; exact h
  | _ => refine propext ⟨fun h => h.elim, fun ⟨_, e, _⟩ => nomatch e⟩
@[simp] theorem ok_ps {a : ME} {Q : Option Int → Store → Prop} : Ok (pSome a C σ S) Q E = Ok (a C σ S) (fun x S1 => ∃ i, x = .int i ∧ Q (some i) S1) E := by
  show Ok (M.bind _ _ S) Q E = _
  rw [ok_bind]
  congr 1; funext x S1
  rw [ok_of, okp_asI]
@[simp] theorem ok_cut {a : ME} {lo hi : Cfg → Slots → M (Option Int)} {Q} : Ok (eCut a lo hi C σ S) Q E = Ok (a C σ S) (fun x S1 => Ok (lo C σ S1) (fun l S2 => Ok (hi C σ S2) (fun h S3 => OkP (opCut x l h S3) Q) E) E) E := by
  show Ok (M.bind _ _ S) Q E = _
  rw [ok_bind]
  congr 1; funext x S1
  rw [ok_bind]
  congr 1; funext l S2
  rw [ok_bind]
  congr 1; funext h S3
  rw [ok_of]
@[simp] theorem ok_i1 {f : D → P It} {a : ME} {Q} : Ok (i1 f a C σ S) Q E = Ok (a C σ S) (fun x S1 => OkP (f x S1) Q) E := by
  show Ok (M.bind _ _ S) Q E = _
  rw [ok_bind]
  congr 1; funext x S1
  rw [ok_of]
@[simp] theorem ok_i2 {f : D → D → P It} {a b : ME} {Q} : Ok (i2 f a b C σ S) Q E = Ok (a C σ S) (fun x S1 => Ok (b C σ S1) (fun y S2 => OkP (f x y S2) Q) E) E := by
  show Ok (M.bind _ _ S) Q E = _
  rw [ok_bind]
  congr 1; funext x S1
  rw [ok_bind]
  congr 1; funext y S2
  rw [ok_of]
abbrev Pt.xe (T : Pt) (σ : Slots) : XP := fun c fs S => T.ex c fs σ S
theorem oks_lift {m : M α} {k : α → Store → SR} : OkS (lift m σ S k) T = Ok (m S) (fun a S' => OkS (k a S') T) (T.xe σ) := by
  unfold lift
  cases m S <;> rfl
theorem oks_pass : OkS (sPass C σ S) T = T.nx σ S := id rfl
theorem oks_seq {a b : MS} : OkS (sSeq a b C σ S) T = OkS (a C σ S) { T with nx := fun σ' S' => OkS (b C σ' S') T } := by
  unfold sSeq
  cases a C σ S <;> rfl
theorem oks_ret {a : ME} : OkS (sRet a C σ S) T = Ok (a C σ S) T.rt (T.xe σ) := by
  unfold sRet; rw [oks_lift]; rfl
theorem oks_expr {a : ME} : OkS (sExpr a C σ S) T = Ok (a C σ S) (fun _ S' => T.nx σ S') (T.xe σ) := by
  unfold sExpr; rw [oks_lift]; rfl
theorem oks_if {t : MT} {a b : MS} : OkS (sIf t a b C σ S) T = Ok (t C σ S) (fun c S' => if c = true then OkS (a C σ S') T else OkS (b C σ S') T) (T.xe σ) := by
  unfold sIf; rw [oks_lift]
  congr 1; funext c S1
  cases c <;> rfl
theorem oks_set {t : Tg} {a : ME} : OkS (sSet t a C σ S) T = Ok (a C σ S) (fun x S' => ∃ σ', asg S' t x σ = some σ' ∧ T.nx σ' S') (T.xe σ) := by
  unfold sSet; rw [oks_lift]
  congr 1; funext x S1
  cases asg S1 t x σ <;> simp [OkS]
theorem oks_item {o i v : ME} : OkS (sItem o i v C σ S) T = Ok (v C σ S) (fun y S1 => Ok (o C σ S1) (fun x S2 => Ok (i C σ S2) (fun k S3 => OkP (putItem x k y S3) fun _ S4 => T.nx σ S4) (T.xe σ)) (T.xe σ)) (T.xe σ) := by
  unfold sItem; rw [oks_lift]
  congr 1; funext y S1
  rw [oks_lift]
  congr 1; funext x S2
  rw [oks_lift]
  congr 1; funext k S3
  rw [oks_lift, ok_of]; rfl
theorem oks_par {i j : Nat} {a b : ME} : OkS (sPar i j a b C σ S) T = Ok (a C σ S) (fun x S1 => Ok (b C σ S1) (fun y S2 => (i < σ.length ∧ j < σ.length) ∧ T.nx ((σ.set i (some x)).set j (some y)) S2) (T.xe σ)) (T.xe σ) := by
  unfold sPar; rw [oks_lift]
  congr 1; funext y S1
  rw [oks_lift]
  congr 1; funext x S2
  by_cases h : i < σ.length ∧ j < σ.length
  · rw [if_pos h]; simp [h, OkS]
  · rw [if_neg h]; simp [h, OkS]
@[simp] theorem asg_nm {i : Nat} {d : D} : asg S (.nm i) d σ = if i < σ.length then some (σ.set i (some d)) else none := by
  unfold asg; rfl
theorem oks_for {g : Tg} {t : MI} {b : MS} : OkS (sFor g t b C σ S) T = Ok (t C σ S) (fun i S1 => OkS (forN i g b C turns 0 σ S1) T) (T.xe σ) := by
  unfold sFor; rw [oks_lift]
theorem for_inv {it : It} {g : Tg} {b : MS} (B : Nat) (I : Nat → Slots → Store → Prop)
    (step : ∀ i σ S, I i σ S → (i ≤ B ∧ it.next S i = some none ∧ T.nx σ S) ∨ ∃ d σ1, i < B ∧ it.next S i = some (some d) ∧ asg S g d σ = some σ1 ∧
      OkS (b C σ1 S) { nx := I (i + 1), rt := T.rt, bk := T.nx, ct := I (i + 1), ex := T.ex }) :
    ∀ n i σ S, I i σ S → B < i + n → OkS (forN it g b C n i σ S) T
  | 0, i, σ, S, hI, hn => by
    rcases step i σ S hI with ⟨hb, h1, h2⟩ | ⟨d, σ1, h1, _⟩
    · exfalso; omega
    · exfalso; omega
  | n + 1, i, σ, S, hI, hn => by
    unfold forN
    rcases step i σ S hI with ⟨hb, h1, h2⟩ | ⟨d, σ1, h1, h2, h3, h4⟩
    · rw [h1]; exact h2
    · rw [h2]
      simp only
      rw [h3]
      simp only
      cases e : b C σ1 S with
      | nx σ' S' => rw [e] at h4; exact for_inv B I step n (i + 1) σ' S' h4 (by omega)
      | ct σ' S' => rw [e] at h4; exact for_inv B I step n (i + 1) σ' S' h4 (by omega)
      | bk σ' S' => rw [e] at h4; exact h4
      | rt d S' => rw [e] at h4; exact h4
      | ex c fs σ' S' => rw [e] at h4; exact h4
      | bad => rw [e] at h4; exact h4
theorem for_seq {xs : List D} {g : Tg} {b : MS} (hl : xs.length < turns) (I : Nat → Slots → Store → Prop) (h0 : I 0 σ S)
    (step : ∀ i d σ S, xs[i]? = some d → I i σ S → ∃ σ1, asg S g d σ = some σ1 ∧ OkS (b C σ1 S) { nx := I (i + 1), rt := T.rt, bk := T.nx, ct := I (i + 1), ex := T.ex })
    (done : ∀ σ S, I xs.length σ S → T.nx σ S) : OkS (forN (.seq xs) g b C turns 0 σ S) T := by
  refine for_inv xs.length (fun i σ S => i ≤ xs.length ∧ I i σ S) (fun i σ S ⟨hi, h⟩ => ?_) turns 0 σ S ⟨Nat.zero_le _, h0⟩ (by omega)
  by_cases e : i < xs.length
  · obtain ⟨σ1, h1, h2⟩ := step i xs[i] σ S (List.getElem?_eq_getElem e) h
    refine .inr ⟨xs[i], σ1, e, ?_, h1, ?_⟩
    · unfold It.next; rw [List.getElem?_eq_getElem e]
    · exact h2.mono (fun σ S z => ⟨e, z⟩) (fun _ _ z => z) (fun _ _ z => z) (fun σ S z => ⟨e, z⟩) fun _ _ _ _ z => z
  · have e' : i = xs.length := by omega
    subst e'
    refine .inl ⟨Nat.le_refl _, ?_, done σ S h⟩
    unfold It.next; rw [List.getElem?_eq_none (Nat.le_refl _)]
theorem comp_inv {it : It} {g : Tg} {t : MT} {f : Slots → M Unit} {Q : Store → Prop} (B : Nat) (I : Nat → Store → Prop)
    (step : ∀ i S, I i S → (i ≤ B ∧ it.next S i = some none ∧ Q S) ∨ ∃ d σ1, i < B ∧ it.next S i = some (some d) ∧ asg S g d σ = some σ1 ∧
      Ok (t C σ1 S) (fun c S1 => if c = true then Ok (f σ1 S1) (fun _ S2 => I (i + 1) S2) X0 else I (i + 1) S1) X0) :
    ∀ n i S, I i S → B < i + n → Ok (compN it g t f C σ n i S) (fun _ S' => Q S') X0
  | 0, i, S, hI, hn => by
    rcases step i S hI with ⟨hb, h1, h2⟩ | ⟨d, σ1, h1, _⟩
    · exfalso; omega
    · exfalso; omega
  | n + 1, i, S, hI, hn => by
    unfold compN
    rcases step i S hI with ⟨hb, h1, h2⟩ | ⟨d, σ1, h1, h2, h3, h4⟩
    · rw [h1]; exact h2
    · rw [h2]
      simp only
      rw [h3]
      simp only
      cases e : t C σ1 S with
      | bad => rw [e] at h4; exact h4
      | ex c fs S' => rw [e] at h4; exact h4
      | ok c S1 =>
        rw [e] at h4
        cases c with
        | false => exact comp_inv B I step n (i + 1) S1 h4 (by omega)
        | true =>
          have h5 : Ok (f σ1 S1) (fun _ S2 => I (i + 1) S2) X0 := h4
          simp only
          cases e2 : f σ1 S1 with
          | bad => rw [e2] at h5; exact h5
          | ex c fs S' => rw [e2] at h5; exact h5
          | ok u S2 => rw [e2] at h5; exact comp_inv B I step n (i + 1) S2 h5 (by omega)
theorem ok_emit {e : ME} {n : Nat} {Q : Store → Prop} : Ok (emit e n C σ S) (fun _ S' => Q S') X0 = Ok (e C σ S) (fun d S1 => ∃ acc, S1.get n = some (.lst acc) ∧ acc.length < line ∧ Q (S1.set n (.lst (acc ++ [d])))) X0 := by
  unfold emit
  cases e C σ S with
  | bad => rfl
  | ex c fs S' => rfl
  | ok d S1 =>
    show Ok (match S1.get n with
      | some (.lst acc) => if acc.length < line then .ok () (S1.set n (.lst (acc ++ [d]))) else .bad
      | _ => .bad) _ _ = ∃ acc, S1.get n = some (.lst acc) ∧ acc.length < line ∧ Q (S1.set n (.lst (acc ++ [d])))
    cases S1.get n with
    | none => simp [Ok]
    | some o =>
      cases o with
      | lst acc =>
        by_cases h : acc.length < line
        · simp [h, Ok]
        · simp [h, Ok]
      | _ => simp [Ok]
theorem ok_lc {e : ME} {g : Tg} {t : MI} {c : MT} {own : List Nat} {Q} : Ok (eLc e g t c own C σ S) Q E =
    Ok (t C σ S) (fun i S1 => Ok (compN i g c (emit e S1.size C) C (wipe σ own) turns 0 (S1.push (.lst []))) (fun _ S2 => Q (.ref S1.size) S2) X0) E := by
  show Ok (M.bind _ _ S) Q E = _
  rw [ok_bind]
  congr 1; funext i S1
  cases compN i g c (emit e S1.size C) C (wipe σ own) turns 0 (S1.push (.lst [])) <;> rfl
theorem lc_seq {e : ME} {g : Tg} {c : MT} {xs : List D} {Q : Store → Prop} (hl : xs.length < turns) (I : Nat → List D → Store → Prop) (h0 : I 0 [] (S.push (.lst [])))
    (at_ : ∀ i acc S', I i acc S' → S'.get S.size = some (.lst acc))
    (step : ∀ i d acc S', xs[i]? = some d → acc.length ≤ i → I i acc S' → ∃ σ1, asg S' g d σ = some σ1 ∧ Ok (c C σ1 S') (fun b S1 => if b = true then
      Ok (e C σ1 S1) (fun y S2 => S2.get S.size = some (.lst acc) ∧ I (i + 1) (acc ++ [y]) (S2.set S.size (.lst (acc ++ [y])))) X0 else I (i + 1) acc S1) X0) (hz : xs.length ≤ line)
    (done : ∀ acc S', acc.length ≤ xs.length → I xs.length acc S' → Q S') :
    Ok (compN (.seq xs) g c (emit e S.size C) C σ turns 0 (S.push (.lst []))) (fun _ S2 => Q S2) X0 := by
  refine comp_inv xs.length (fun i S' => ∃ acc, i ≤ xs.length ∧ acc.length ≤ i ∧ I i acc S') (fun i S' ⟨acc, hi, ha, h⟩ => ?_) turns 0 _ ⟨[], Nat.zero_le _, Nat.le_refl _, h0⟩ (by omega)
  by_cases e1 : i < xs.length
  · obtain ⟨σ1, h1, h2⟩ := step i xs[i] acc S' (List.getElem?_eq_getElem e1) ha h
    refine .inr ⟨xs[i], σ1, e1, ?_, h1, ?_⟩
    · unfold It.next; rw [List.getElem?_eq_getElem e1]
    · refine h2.mono (fun b S1 z => ?_) fun _ _ _ z => z
      cases b with
      | false => exact ⟨acc, e1, by omega, z⟩
      | true =>
        simp only [if_true] at z ⊢
        rw [ok_emit]
        refine z.mono (fun y S2 ⟨z1, z2⟩ => ⟨acc, z1, by omega, acc ++ [y], e1, ?_, z2⟩) fun _ _ _ z => z
        rw [List.length_append, List.length_singleton]; omega
  · have e' : i = xs.length := by omega
    subst e'
    refine .inl ⟨Nat.le_refl _, ?_, done acc S' ha h⟩
    unfold It.next; rw [List.getElem?_eq_none (Nat.le_refl _)]
theorem oks_while {t : MT} {b : MS} : OkS (sWhile t b C σ S) T = OkS (whileN t b C turns σ S) T := id rfl
theorem while_inv {t : MT} {b : MS} (I : Nat → Slots → Store → Prop)
    (step : ∀ m σ S, I m σ S → Ok (t C σ S) (fun c S1 => if c = true then OkS (b C σ S1) { nx := fun σ' S' => ∃ m', m' < m ∧ I m' σ' S', rt := T.rt, bk := T.nx, ct := fun σ' S' => ∃ m', m' < m ∧ I m' σ' S', ex := T.ex } else T.nx σ S1) (T.xe σ)) :
    ∀ n m σ S, I m σ S → m < n → OkS (whileN t b C n σ S) T
  | 0, m, σ, S, hI, hn => absurd hn (Nat.not_lt_zero _)
  | n + 1, m, σ, S, hI, hn => by
    unfold whileN
    rw [oks_lift]
    refine (step m σ S hI).mono (fun c S1 z => ?_) fun _ _ _ z => z
    cases c with
    | false => exact z
    | true =>
      simp only [if_true] at z ⊢
      cases e : b C σ S1 with
      | nx σ' S' =>
        rw [e] at z
        obtain ⟨m', h1, h2⟩ := z
        exact while_inv I step n m' σ' S' h2 (by omega)
      | ct σ' S' =>
        rw [e] at z
        obtain ⟨m', h1, h2⟩ := z
        exact while_inv I step n m' σ' S' h2 (by omega)
      | bk σ' S' => rw [e] at z; exact z
      | rt d S' => rw [e] at z; exact z
      | ex c fs σ' S' => rw [e] at z; exact z
      | bad => rw [e] at z; exact z
theorem ok_run {F : Fn} {as : List D} {Q} : Ok (runFn F C as S) Q E = (as.length = F.ar ∧ OkS (F.body C (enter F as) S) { nx := fun _ S' => Q .non S', rt := Q, ex := fun c fs _ S' => E c fs S' }) := by
  unfold runFn
  by_cases h : as.length = F.ar
  · rw [if_pos h]
    cases F.body C (enter F as) S <;> simp [h, Ok, OkS]
  · rw [if_neg h]; simp [h, Ok]
theorem callN_succ {tb : List Fn} {n f : Nat} {as : List D} {F : Fn} (h : tb[f]? = some F) : callN tb (n + 1) f as = runFn F ⟨callN tb n⟩ as := by
  show (match tb[f]? with
    | some F => runFn F ⟨callN tb n⟩ as
    | none => M.bad) = _
  rw [h]
end
structure Keep (S S' : Store) (ex : List Nat) : Prop where
  le : S.size ≤ S'.size
  same : ∀ k, k < S.size → k ∉ ex → S'.get k = S.get k
theorem Keep.refl {S ex} : Keep S S ex := ⟨Nat.le_refl _, fun _ _ _ => rfl⟩
theorem Keep.trans {S S1 S2 ex} (a : Keep S S1 ex) (b : Keep S1 S2 ex) : Keep S S2 ex :=
  ⟨Nat.le_trans a.le b.le, fun k h n => (b.same k (Nat.lt_of_lt_of_le h a.le) n).trans (a.same k h n)⟩
theorem Keep.push {S ex} (o : Ob) : Keep S (S.push o) ex := ⟨by rw [Store.size_push]; omega, fun k h _ => Store.get_push_lt h⟩
theorem Keep.set {S ex n} (o : Ob) (hn : n < S.size) (h : n ∈ ex) : Keep S (S.set n o) ex :=
  ⟨by rw [Store.size_set]; omega, fun k _ z => Store.get_set_ne o hn fun e => z (e ▸ h)⟩
theorem Keep.set_new {S S' ex n} (k : Keep S S' ex) (o : Ob) (h : S.size ≤ n) (hn : n < S'.size) : Keep S (S'.set n o) ex :=
  ⟨by rw [Store.size_set]; exact k.le, fun j hj z => by rw [Store.get_set_ne o hn (by omega)]; exact k.same j hj z⟩
theorem Keep.get {S S' ex n o} (k : Keep S S' ex) (h : S.get n = some o) (z : n ∉ ex) : S'.get n = some o := by
  rw [k.same n (Store.get_lt h) z]; exact h
theorem Keep.weak {S S' ex ex'} (k : Keep S S' ex) (h : ∀ n ∈ ex, n ∈ ex') : Keep S S' ex' := ⟨k.le, fun j hj z => k.same j hj fun y => z (h j y)⟩
theorem Keep.drop {S S1 S2 ex n} (a : Keep S S1 ex) (b : Keep S1 S2 (n :: ex)) (h : S.size ≤ n) : Keep S S2 ex :=
  ⟨Nat.le_trans a.le b.le, fun k hk z => (b.same k (Nat.lt_of_lt_of_le hk a.le) (by simp only [List.mem_cons, not_or]; exact ⟨by omega, z⟩)).trans (a.same k hk z)⟩
section
variable {S : Store} {Q : D → Store → Prop} {i j : Int}
@[simp] theorem p_add : OkP (opAdd (.int i) (.int j) S) Q = Q (.int (i + j)) S := id rfl
@[simp] theorem p_sub : OkP (opSub (.int i) (.int j) S) Q = Q (.int (i - j)) S := id rfl
@[simp] theorem p_mul : OkP (opMul (.int i) (.int j) S) Q = ((small64 i || small64 j) = true ∧ Q (.int (i * j)) S) := okp_if
@[simp] theorem p_mod : OkP (opMod (.int i) (.int j) S) Q = (j ≠ 0 ∧ Q (.int (i.fmod j)) S) := okp_if
@[simp] theorem p_div : OkP (opDiv (.int i) (.int j) S) Q = ((j ≠ 0 ∧ j.natAbs < 1073741824) ∧ Q (.int (i.fdiv j)) S) := okp_if
@[simp] theorem p_pow : OkP (opPow (.int i) (.int j) S) Q = ((0 ≤ j ∧ j ≤ 1000000 ∧ i.natAbs < 18446744073709551616) ∧ Q (.int (i ^ j.toNat)) S) := okp_if
@[simp] theorem p_lt : OkP (opLt (.int i) (.int j) S) Q = Q (.bl (decide (i < j))) S := id rfl
@[simp] theorem p_le : OkP (opLe (.int i) (.int j) S) Q = Q (.bl (!decide (j < i))) S := id rfl
@[simp] theorem p_ge : OkP (opGe (.int i) (.int j) S) Q = Q (.bl (!decide (i < j))) S := id rfl
@[simp] theorem p_eqI : OkP (opEq (.int i) (.int j) S) Q = Q (.bl (i == j)) S := id rfl
@[simp] theorem p_neI : OkP (opNe (.int i) (.int j) S) Q = Q (.bl (!(i == j))) S := id rfl
@[simp] theorem p_adds {a b : List Nat} : OkP (opAdd (.str a) (.str b) S) Q = (a.length + b.length ≤ line ∧ Q (.str (a ++ b)) S) := okp_if
theorem str_beq (a b : List Nat) : ((⟨a.toArray⟩ : PySem.Str) == ⟨b.toArray⟩) = decide (a = b) := by
  rw [Bool.beq_eq_decide_eq]
  congr 1
  refine propext ⟨fun h => ?_, fun h => by rw [h]⟩
  injection h with h
  simpa using h
theorem eqv_str (a b : List Nat) : PySem.PyData.eqv (.str ⟨a.toArray⟩) (.str ⟨b.toArray⟩) = decide (a = b) := by
  show PySem.PyData.eqv _ _ = _
  rw [← str_beq]
  rfl
@[simp] theorem p_eqs {a b : List Nat} : OkP (opEq (.str a) (.str b) S) Q = Q (.bl (decide (a = b))) S := by
  show OkP (match (some (PySem.PyData.eqv (.str ⟨a.toArray⟩) (.str ⟨b.toArray⟩)) : Option Bool) with
    | some b => some (.bl b, S)
    | none => none) Q = _
  rw [eqv_str]; rfl
@[simp] theorem p_nes {a b : List Nat} : OkP (opNe (.str a) (.str b) S) Q = Q (.bl (!decide (a = b))) S := by
  show OkP (match (some (PySem.PyData.eqv (.str ⟨a.toArray⟩) (.str ⟨b.toArray⟩)) : Option Bool) with
    | some b => some (.bl (!b), S)
    | none => none) Q = _
  rw [eqv_str]; rfl
theorem eqv_bl (a b : Bool) : PySem.PyData.eqv (.bool a) (.bool b) = (a == b) := by cases a <;> cases b <;> rfl
@[simp] theorem p_eqb {a b : Bool} : OkP (opEq (.bl a) (.bl b) S) Q = Q (.bl (a == b)) S := by
  show OkP (match (some (PySem.PyData.eqv (.bool a) (.bool b)) : Option Bool) with
    | some b => some (.bl b, S)
    | none => none) Q = _
  rw [eqv_bl]; rfl
@[simp] theorem p_neb {a b : Bool} : OkP (opNe (.bl a) (.bl b) S) Q = Q (.bl (!(a == b))) S := by
  show OkP (match (some (PySem.PyData.eqv (.bool a) (.bool b)) : Option Bool) with
    | some b => some (.bl (!b), S)
    | none => none) Q = _
  rw [eqv_bl]; rfl
@[simp] theorem p_notN {d : D} : OkP (opIsNot d .non S) Q = Q (.bl (!isNonB d)) S := id rfl
@[simp] theorem p_item {n : Nat} {xs : List D} (h : S.get n = some (.lst xs)) : OkP (opItem (.ref n) (.int i) S) Q = ∃ d, atI xs i = some d ∧ Q d S := by
  unfold opItem getItem
  simp only [h]
  cases atI xs i <;> simp [OkP]
@[simp] theorem p_itemT {xs : List D} : OkP (opItem (.tup xs) (.int i) S) Q = ∃ d, atI xs i = some d ∧ Q d S := by
  unfold opItem getItem
  simp only
  cases atI xs i <;> simp [OkP]
@[simp] theorem p_itemS {l : List Nat} : OkP (opItem (.str l) (.int i) S) Q = ∃ c, (l.length ≤ line ∧ atI l i = some c) ∧ Q (.str [c]) S := by
  unfold opItem getItem
  simp only
  by_cases h : l.length ≤ line
  · rw [if_pos h]
    cases atI l i <;> simp [OkP, h]
  · rw [if_neg h]
    simp [OkP, h]
@[simp] theorem p_put {n : Nat} {xs : List D} {v : D} {Q : Unit → Store → Prop} (h : S.get n = some (.lst xs)) : OkP (putItem (.ref n) (.int i) v S) Q = ∃ j, ixN xs.length i = some j ∧ Q () (S.set n (.lst (xs.set j v))) := by
  unfold putItem
  simp only [h]
  cases ixN xs.length i <;> simp [OkP]
@[simp] theorem p_len {n : Nat} {xs : List D} (h : S.get n = some (.lst xs)) : OkP (bLen [.ref n] S) Q = Q (.int xs.length) S := by
  unfold bLen lenOf
  simp only [h]
  rfl
@[simp] theorem p_lens {l : List Nat} : OkP (bLen [.str l] S) Q = (l.length ≤ line ∧ Q (.int l.length) S) := by
  unfold bLen lenOf
  simp only
  by_cases h : l.length ≤ line
  · rw [if_pos h]; simp [OkP, h]
  · rw [if_neg h]; simp [OkP, h]
@[simp] theorem p_lenT {xs : List D} : OkP (bLen [.tup xs] S) Q = Q (.int xs.length) S := id rfl
@[simp] theorem p_tuple {n : Nat} {xs : List D} (h : S.get n = some (.lst xs)) : OkP (bTuple [.ref n] S) Q = Q (.tup xs) S := by
  unfold bTuple
  simp only [h]
  rfl
@[simp] theorem p_append {n : Nat} {xs : List D} {y : D} (h : S.get n = some (.lst xs)) : OkP (mAppend (.ref n) [y] S) Q = (xs.length < line ∧ Q .non (S.set n (.lst (xs ++ [y])))) := by
  unfold mAppend
  simp only [h]
  exact okp_if
@[simp] theorem p_rg1 {Q : It → Store → Prop} : OkP (rg1 (.int i) S) Q = (okR i = true ∧ Q (.seq (rangeL 0 1 i.toNat)) S) := okp_if
@[simp] theorem p_itS {l : List Nat} {Q : It → Store → Prop} : OkP (itP (.str l) S) Q = Q (.seq (l.map fun c => .str [c])) S := id rfl
@[simp] theorem p_itT {xs : List D} {Q : It → Store → Prop} : OkP (itP (.tup xs) S) Q = Q (.seq xs) S := id rfl
@[simp] theorem p_itL {n : Nat} {xs : List D} {Q : It → Store → Prop} (h : S.get n = some (.lst xs)) : OkP (itP (.ref n) S) Q = Q (.lst n) S := by
  unfold itP itOf
  simp only [h]
  rfl
@[simp] theorem p_cutS {l : List Nat} {lo hi : Option Int} : OkP (opCut (.str l) lo hi S) Q = (l.length ≤ line ∧ Q (.str (cut l lo hi)) S) := okp_if
theorem seq_mid {a b : MS} {C : Cfg} {σ : Slots} {T : Pt} (Mid : Slots → Store → Prop) (h1 : OkS (a C σ S) { T with nx := Mid }) (h2 : ∀ σ' S', Mid σ' S' → OkS (b C σ' S') T) : OkS (sSeq a b C σ S) T := by
  rw [oks_seq]
  exact h1.mono h2 (fun _ _ z => z) (fun _ _ z => z) (fun _ _ z => z) fun _ _ _ _ z => z
theorem rangeL_at (c : Int) : ∀ (n : Nat) (lo : Int) (i : Nat) (d : D), (rangeL lo c n)[i]? = some d → d = .int (lo + i * c) ∧ i < n
  | 0, _, _, _, h => by simp [rangeL] at h
  | n + 1, lo, 0, d, h => by
    simp [rangeL] at h
    subst h
    exact ⟨by simp, Nat.succ_pos n⟩
  | n + 1, lo, i + 1, d, h => by
    rw [rangeL, List.getElem?_cons_succ] at h
    obtain ⟨h1, h2⟩ := rangeL_at c n (lo + c) i d h
    refine ⟨?_, by omega⟩
    rw [h1, Int.natCast_add, Int.add_mul]
    congr 1
    omega
theorem rangeL_len (c : Int) : ∀ (n : Nat) (lo : Int), (rangeL lo c n).length = n
  | 0, _ => rfl
  | n + 1, lo => by rw [rangeL, List.length_cons, rangeL_len c n]
end
@[simp] theorem non1 : isNonB .non = true := id rfl
@[simp] theorem non2 {b : Bool} : isNonB (.bl b) = false := id rfl
@[simp] theorem non3 {i : Int} : isNonB (.int i) = false := id rfl
@[simp] theorem non4 {l : List Nat} : isNonB (.str l) = false := id rfl
@[simp] theorem non5 {l : List D} : isNonB (.tup l) = false := id rfl
@[simp] theorem non6 {n : Nat} : isNonB (.ref n) = false := id rfl
end MP
namespace MP
open PySem PySem.Spec PyProof.Rows L2
section
variable {prog : Program} {w : World} {A : Around} {s : Shared}
structure LamN (scope : Scope) (y : Str) : Prop where
  kind : scope.kind = .function
  co : scope.isCoroutine = false
  gen : scope.isGenerator = false
  cell : ∀ x ∈ scope.names, x.2 ≠ .cell
  par : scope.names.lookup y = some .local
  len : scope.names.lookup ("len" : Str) = some .globalImplicit
  free : ∀ x ∈ scope.names, x.2 ≠ .free
end
section
variable {G : Gx} {X : Cx} {W : WX} {C : Cfg} {m : List Addr} {H H' : Hp} {S : Store}
end
end MP
namespace MP
open PySem PySem.Spec PyProof.Rows L2
def eTab : Obj := { cls := .none, data := .fields #[] }
structure TabAt (K : PySem.W.Frag) (h : Heap) (c P : Addr) : Prop where
  at_ : h.get? P = some eTab
  out : K.lookup P = none
  hd : PySem.W.CodeHd h c P
section
variable {P : Program} {w : World} {K : PySem.W.Frag} {mg mb : Str → Option Value} {Cx0 : CXT} {k : Nat} {fa a : Addr} {fd : FuncData} {x : Str} {sp : Sp} {t : Shared} {vs : List Value} {ns : List Int}
end
structure LamC (K : PySem.W.Frag) (mg : Str → Option Value) (base : Heap) (G : Gx) (f : Addr) (q : Str) : Prop where
  ex : ∃ (c P : Addr), CdOf K f (.ref c) ∧ LamX.TabB base mg c P ∧ P ∈ G.ne.tabs ∧ G.ne.tq P = q
theorem LamC.of {K : PySem.W.Frag} {mg : Str → Option Value} {base : Heap} {G : Gx} {f : Addr} {q : Str} {cdv : Value} (h : LamC K mg base G f q) (hc : CdOf K f cdv) : ∃ c P, cdv = .ref c ∧ LamX.TabB base mg c P ∧ P ∈ G.ne.tabs ∧ G.ne.tq P = q := by
  obtain ⟨c, P, ⟨oo, fd, h1, h2, h3⟩, h4⟩ := h.ex
  obtain ⟨o2, fd2, e1, e2, e3⟩ := hc
  rw [h1] at e1
  cases e1
  rw [h2] at e2
  cases e2
  exact ⟨c, P, e3.symm.trans h3, h4⟩
end MP
namespace MP
open PySem PySem.Spec PyProof.Rows L2
abbrev ZipSt (h : Heap) (z TI TO : Addr) (f0 : Value) : Prop :=
  h.get? z = some { cls := .type "zip", dict := none, data := .fields #[f0, .bool false, .bool true, .ref TI, .ref TO], slots := #[] }
section
variable {prog : Program} {w : World} {A : Around} {E : Value → Shared → Prop} {s : Shared}
theorem noe_item {it : Value} {Q : Option Value → Shared → Prop} (h : ∀ E, wpAny (model prog w) A (Builtin.SmallTypes.nextOf it) (fun v s => Q (some v) s) E s) : wpAny (model prog w) A (Builtin.SmallTypes.nextOrEnd it) Q E s := by
  unfold Builtin.SmallTypes.nextOrEnd
  exact wpAny_bind (wpAny_attempt (wpAny_mono (h _) (fun v s q => wpAny_pure q) fun _ _ q => q))
theorem noe_end {it : Addr} {Q : Option Value → Shared → Prop}
    (h : ∀ (Q' : Value → Shared → Prop) (E' : Value → Shared → Prop), (∀ h' e, Heap.ExtBut it s.heap h' → (∃ o, h'.get? e = some o ∧ o.cls = .type "StopIteration") → E' (.ref e) { s with heap := h' }) → wpAny (model prog w) A (Builtin.SmallTypes.nextOf (.ref it)) Q' E' s)
    (q : ∀ h', Heap.ExtBut it s.heap h' → Q none { s with heap := h' }) : wpAny (model prog w) A (Builtin.SmallTypes.nextOrEnd (.ref it)) Q E s := by
  unfold Builtin.SmallTypes.nextOrEnd
  refine wpAny_bind (wpAny_attempt (h _ _ fun h' e hx he => ?_))
  obtain ⟨o, ho, hc⟩ := he
  exact wpAny_bind (wpAny_isInstance (T := "StopIteration") (b := true) ⟨o, ho, hc⟩ isSubtype_stop (wpAny_pure (q h' hx)))
theorem stop_it {α : Type} {Q : α → Shared → Prop} (hh : A.handled = none) (hE : ∀ h' e, (∀ b o, s.heap.get? b = some o → h'.get? b = some o) → (∃ o, h'.get? e = some o ∧ o.cls = .type "StopIteration") → E (.ref e) { s with heap := h' }) :
    wpAny (model prog w) A (Builtin.SmallTypes.stopIteration : Sem α) Q E s := by
  unfold Builtin.SmallTypes.stopIteration
  refine wpAny_bind ?_
  simp only [newExc, newTuple]
  refine wpAny_bind (wpAny_newObj_type ?_ (by size_fits))
  refine wpAny_bind (m := firstArgMember _ _) (wpAny_of_eq (a := Value.none) (by first | rfl | (simp only [firstArgMember]; rfl)) ?_)
  refine wpAny_newObj_type ?_ (by size_fits)
  simp only [raiseNew]
  refine wpAny_bind (wpAny_handled ?_)
  rw [hh]
  refine wpAny_bind (wpAny_pure (wpAny_throw ?_))
  exact hE _ _ (fun b o q => Heap.get?_push_of_some _ (Heap.get?_push_of_some _ q)) ⟨_, Heap.get?_push_size _ rfl, rfl⟩
variable {z TI TO i1 i2 : Addr} {fp1 fp2 : List Addr} {n1 n2 i : Nat} {P1 P2 : Nat → Value → Prop} {St1 St2 : Nat → Heap → Prop} {a1 a2 : Value}
theorem zst_self {f0 : Value} {Q : Value → Shared → Prop} (hz : ZipSt s.heap z TI TO f0) (h : Q (.ref z) s) : wpAny (model prog w) A (pyIter (.ref z)) Q E s := by
  have hT : s.TypeIs (.ref z) "zip" := ⟨_, hz, rfl⟩
  refine wpAny_pyIter_slot hT F.slot_zip_iter (wpAny_call_entry F.slot_zip_iter hT F.entry_zip_iter ?_ (F.args_zip_iter_1 _))
  show wpAny _ _ (ret (.ref z)) _ _ s
  exact wpAny_pure ⟨_, rfl, "zip", _, hT, F.slot_zip_next.lookup, h⟩
end
end MP
namespace MP
open PySem PySem.Spec PyProof.Rows L2
section
variable {prog : Program} {w : World} {A : Around} {E : Value → Shared → Prop} {s : Shared}
end
section
variable {G : Gx} {m : List Addr} {H : Hp}
end
end MP
namespace MP
open PySem PySem.Spec PyProof.Rows L2
theorem cw_tkw {M : Model} {A : Around} {E : Value → Shared → Prop} {s : Shared} {env : Env} {pos : Pos} {T : String} {e : Expr} {rest : List Expr} {kws : List Keyword} {Q : Value → Shared → Prop}
    (h : wpAny M A (spliced (backTo pos (starEach (e :: rest) env))) (fun vs s₁ => wpAny M A (evalAll ((backToKw pos (keywordEach kws env)).map (·.2)))
      (fun kvs s₂ => wpAny M A (call (.type T) vs (((backToKw pos (keywordEach kws env)).filterMap (·.1)).zip kvs)) Q E s₂) E s₁) E s)
    (he : backTo pos (starEach (e :: rest) env) = (false, eval e env) :: backTo pos (starEach rest env) := by rfl)
    (hplain : (backTo pos (starEach (e :: rest) env)).any (·.1) = false := by rfl)
    (hall : (backToKw pos (keywordEach kws env)).all (·.1.isSome) = true := by rfl)
    (hkw : (backToKw pos (keywordEach kws env)).any (·.1.isNone) = false := by rfl) :
    wpAny M A (callWith pos (.type T) [] (backTo pos (starEach (e :: rest) env)) (backToKw pos (keywordEach kws env))) Q E s := by
  unfold callWith
  refine wpAny_bind (wpAny_holding ?_)
  rw [he] at h ⊢
  refine evalArgs_kwB hall (wpAny_mono h (fun vs s1 h1 => wpAny_mono h1 (fun kvs s2 h2 => wpAny_bind (wpAny_standAt ?_)) fun _ _ x => x) fun _ _ x => x)
  rw [he] at hplain
  simp only [hplain, hkw, Bool.or_false]
  refine wpAny_bind (wpAny_pure ?_)
  exact wpAny_bind (wpAny_mono h2 (fun r s₂ hr => wpAny_bind (wpAny_holding (wpAny_point (wpAny_pure hr)))) fun _ _ x => x)
section
variable {G : Gx} {X : Cx} {W : WX} {C : Cfg}
end
end MP
namespace MP
open PySem PySem.Spec PyProof.Rows L2
section
variable {prog : Program} {w : World} {A : Around} {E : Value → Shared → Prop} {s : Shared}
structure LamG (scope : Scope) (y g : Str) : Prop where
  kind : scope.kind = .function
  co : scope.isCoroutine = false
  gen : scope.isGenerator = false
  cell : ∀ x ∈ scope.names, x.2 ≠ .cell
  par : scope.names.lookup y = some .local
  gl : scope.names.lookup g = some .globalImplicit
  free : ∀ x ∈ scope.names, x.2 ≠ .free
end
section
variable {G : Gx} {X : Cx} {W : WX} {C : Cfg} {m : List Addr} {H : Hp}
end
end MP
namespace MP
open PySem PySem.Spec PyProof.Rows L2
section
variable {G : Gx} {X : Cx} {W : WX} {C : Cfg}
end
section
variable {G : Gx} {X : Cx} {W : WX} {C : Cfg}
end
end MP
namespace MP
open PySem PySem.Spec PyProof.Rows L2
def TabF (K : PySem.W.Frag) (h : Heap) (p : He.Defn) : Prop := PySem.W.codeHdIn K (He.cT K p).1 (He.cT K p).2 = true ∧ K.lookup (He.cT K p).2 = none ∧ h.get? (He.cT K p).2 = some eTab
theorem TabF.at {K : PySem.W.Frag} {h : Heap} {p : He.Defn} (t : TabF K h p) (X : K.In h) {oc : Value} {od : Option Addr} {osl : Array (Option Value)} {fd : FuncData} {c : Addr} (lk : K.lookup (He.fAd K p) = some ⟨oc, od, .func fd, osl⟩) (e : fd.code = .ref c) : ∃ P, TabAt K h c P := by
  have e1 : (He.cT K p).1 = c := He.codeOf_eq lk e
  obtain ⟨h1, h2, h3⟩ := t
  rw [e1] at h1
  exact ⟨(He.cT K p).2, h3, h2, PySem.W.codeHd_of_K X h1⟩
end MP
namespace MP
open PySem PySem.Spec PyProof.Rows L2
def dv (l : List Nat) : Nat := l.foldl (fun acc c => acc * 10 + (c - 48)) 0
section
variable {G : Gx} {X : Cx} {W : WX} {C : Cfg}
end
end MP
namespace MP
open PySem PySem.Spec PyProof.Rows L2
end MP
namespace MP
open PySem PySem.Spec PyProof.Rows L2
section
variable {G : Gx} {X : Cx} {W : WX} {C : Cfg}
end
end MP
namespace MP
open PySem PySem.Spec PyProof.Rows L2
section
variable {G : Gx} {X : Cx}
end
end MP
namespace MP
open PySem PySem.Spec PyProof.Rows L2
section
variable {G : Gx} {X : Cx}
end
end MP
namespace MP
open PySem PySem.Spec PyProof.Rows L2
section
variable {prog : Program} {w : World} {A : Around} {E : Value → Shared → Prop} {s : Shared}
variable {z TI TO i1 i2 i3 : Addr} {fp1 fp2 fp3 : List Addr} {n1 n2 n3 i : Nat} {P1 P2 P3 : Nat → Value → Prop} {St1 St2 St3 : Nat → Heap → Prop} {a1 a2 a3 : Value}
theorem zt_next {Q : Value → Shared → Prop} (S : ZipSep3 z TI TO i1 i2 i3 fp1 fp2 fp3) (D1 : Draws prog w A i1 fp1 n1 P1 St1) (D2 : Draws prog w A i2 fp2 n2 P2 St2) (D3 : Draws prog w A i3 fp3 n3 P3 St3)
    (hz : ZipSt s.heap z TI TO .none) (hTI : IsTupOf3 s.heap TI (.ref i1) (.ref i2) (.ref i3)) (hTO : IsTupOf3 s.heap TO a1 a2 a3) (st1 : St1 i s.heap) (st2 : St2 i s.heap) (st3 : St3 i s.heap) (hlt1 : i < n1) (hlt2 : i < n2) (hlt3 : i < n3)
    (hQ : ∀ x1 x2 x3 h' tk, P1 i x1 → P2 i x2 → P3 i x3 → ZipSt h' z TI TO (rawInt s.heap.objs.size) → IsTupOf3 h' TO x1 x2 x3 → St1 (i + 1) h' → St2 (i + 1) h' → St3 (i + 1) h' → IsTupOf3 h' s.heap.objs.size x1 x2 x3 → h'.objs.size = s.heap.objs.size + 1 →
      (∀ c o, c ≠ z → c ≠ TO → c ≠ i1 → c ≠ i2 → c ≠ i3 → s.heap.get? c = some o → h'.get? c = some o) → Q (.ref s.heap.objs.size) { s with heap := h', toks := tk }) :
    wpAny (model prog w) A (Builtin.«zip.__next__» ⟨[.ref z], []⟩) (fun fin s' => ∃ v, fin = .done (.ret v) ∧ Q v s') E s := by
  obtain ⟨hp, g, d, tk0, os⟩ := s
  show wpAny _ _ (field (.ref z) 2 >>= _) _ _ _
  refine wpAny_bind (wpAny_field hz rfl (x := .bool true) rfl ?_)
  show wpAny _ _ (field (.ref z) 3 >>= _) _ _ _
  refine wpAny_bind (wpAny_field hz rfl (x := .ref TI) rfl (wpAny_bind (wpAny_seqItems hTI rfl ?_)))
  show wpAny _ _ (Builtin.SmallTypes.ownedTupleIsFree (.ref z) >>= _) _ _ _
  refine wpAny_bind ?_
  unfold Builtin.SmallTypes.ownedTupleIsFree
  refine wpAny_bind (wpAny_field hz rfl (x := .none) rfl (wpAny_pure ?_))
  simp only [if_true]
  refine wpAny_bind (wpAny_rule (wpAny_bind (wpAny_field hz rfl (x := .ref TO) rfl (wpAny_bind (wpAny_setField_rec hz (by simp) fun g0 hz0 hs0 => ?_)))))
  have hz0 : ZipSt g0 z TI TO .ellipsis := hz0
  have hs0 : Heap.SameBut z hp g0 := hs0
  refine wpAny_bind ?_
  simp only [List.zipIdx_cons, List.zipIdx_nil, List.forIn_cons, List.forIn_nil]
  refine wpAny_bind (wpAny_bind (wpAny_onRaise ?_))
  show wpAny _ _ (Builtin.SmallTypes.nextOrEnd (.ref i1)) _ _ ⟨g0, g, d, tk0, os⟩
  refine noe_item fun E1 => D1.item i _ _ _ hlt1 (D1.over st1 hs0 S.zf1) fun x1 p1 tk1 hx1 sn1 hp1 => ?_
  have hp1 : Heap.SameBut i1 g0 p1 := hp1
  have hU1 : IsTupOf3 p1 TO a1 a2 a3 := hp1.extBut _ _ S.Ti1 (hs0.extBut _ _ S.TOz hTO)
  refine wpAny_bind (wpAny_seqItems (s := ⟨p1, g, d, tk1, os⟩) hU1 rfl (wpAny_bind (updateSeq_IsTupOf3 (s := ⟨p1, g, d, tk1, os⟩) hU1 fun g1 hT1 hs1 => wpAny_bind (wpAny_letGo (wpAny_pure ?_)))))
  have hT1 : IsTupOf3 g1 TO x1 a2 a3 := hT1
  have hs1 : Heap.SameBut TO p1 g1 := hs1
  refine wpAny_bind (wpAny_bind (wpAny_onRaise ?_))
  show wpAny _ _ (Builtin.SmallTypes.nextOrEnd (.ref i2)) _ _ ⟨g1, g, d, tk1, os⟩
  refine noe_item fun E1 => D2.item i _ _ _ hlt2 (D2.over (D2.over (D2.over st2 hs0 S.zf2) hp1 S.sep1_2) hs1 S.Tf2) fun x2 p2 tk2 hx2 sn2 hp2 => ?_
  have hp2 : Heap.SameBut i2 g1 p2 := hp2
  have hU2 : IsTupOf3 p2 TO x1 a2 a3 := hp2.extBut _ _ S.Ti2 hT1
  refine wpAny_bind (wpAny_seqItems (s := ⟨p2, g, d, tk2, os⟩) hU2 rfl (wpAny_bind (updateSeq_IsTupOf3 (s := ⟨p2, g, d, tk2, os⟩) hU2 fun g2 hT2 hs2 => wpAny_bind (wpAny_letGo (wpAny_pure ?_)))))
  have hT2 : IsTupOf3 g2 TO x1 x2 a3 := hT2
  have hs2 : Heap.SameBut TO p2 g2 := hs2
  refine wpAny_bind (wpAny_bind (wpAny_onRaise ?_))
  show wpAny _ _ (Builtin.SmallTypes.nextOrEnd (.ref i3)) _ _ ⟨g2, g, d, tk2, os⟩
  refine noe_item fun E1 => D3.item i _ _ _ hlt3 (D3.over (D3.over (D3.over (D3.over (D3.over st3 hs0 S.zf3) hp1 S.sep1_3) hs1 S.Tf3) hp2 S.sep2_3) hs2 S.Tf3) fun x3 p3 tk3 hx3 sn3 hp3 => ?_
  have hp3 : Heap.SameBut i3 g2 p3 := hp3
  have hU3 : IsTupOf3 p3 TO x1 x2 a3 := hp3.extBut _ _ S.Ti3 hT2
  refine wpAny_bind (wpAny_seqItems (s := ⟨p3, g, d, tk3, os⟩) hU3 rfl (wpAny_bind (updateSeq_IsTupOf3 (s := ⟨p3, g, d, tk3, os⟩) hU3 fun g3 hT3 hs3 => wpAny_bind (wpAny_letGo (wpAny_pure (wpAny_pure ?_))))))
  have hT3 : IsTupOf3 g3 TO x1 x2 x3 := hT3
  have hs3' : Heap.SameBut TO p3 g3 := hs3
  have hsz : g3.objs.size = hp.objs.size := by rw [hs3'.1, hp3.1, hs2.1, hp2.1, hs1.1, hp1.1, hs0.1]
  have kp : ∀ c o, c ≠ TO → c ≠ i1 → c ≠ i2 → c ≠ i3 → g0.get? c = some o → g3.get? c = some o := fun c o cT c1 c2 c3 e => hs3'.extBut _ _ cT (hp3.extBut _ _ c3 (hs2.extBut _ _ cT (hp2.extBut _ _ c2 (hs1.extBut _ _ cT (hp1.extBut _ _ c1 e)))))
  have hzz : ZipSt g3 z TI TO .ellipsis := kp _ _ S.TOz.symm S.zi1 S.zi2 S.zi3 hz0
  have hj1 : St1 (i + 1) g3 := D1.over (D1.over (D1.over (D1.over (D1.over sn1 hs1 S.Tf1) hp2 S.sep2_1) hs2 S.Tf1) hp3 S.sep3_1) hs3' S.Tf1
  have hj2 : St2 (i + 1) g3 := D2.over (D2.over (D2.over sn2 hs2 S.Tf2) hp3 S.sep3_2) hs3' S.Tf2
  have hj3 : St3 (i + 1) g3 := D3.over sn3 hs3' S.Tf3
  have hzlt : z < g3.objs.size := Heap.lt_size hzz
  refine wpAny_bind (wpAny_seqItems (s := ⟨g3, g, d, tk3, os⟩) hT3 rfl (wpAny_bind (wpAny_newTuple ?_)))
  show wpAny _ _ (Builtin.SmallTypes.ownedTupleHandOut (.ref z) (.ref g3.objs.size) >>= _) _ _ ⟨g3.push { cls := .type "tuple", data := .seq #[x1, x2, x3] }, g, d, tk3, os⟩
  refine wpAny_bind ?_
  unfold Builtin.SmallTypes.ownedTupleHandOut
  have hz3 : ZipSt (g3.push { cls := .type "tuple", data := .seq #[x1, x2, x3] }) z TI TO .ellipsis := Heap.get?_push_of_some _ hzz
  refine wpAny_bind (wpAny_setField_rec hz3 (by simp) fun h3 hz4 hs3 => ?_)
  have hz4 : ZipSt h3 z TI TO (rawInt g3.objs.size) := hz4
  refine wpAny_setField_rec hz4 (by simp) fun h4 hz5 hs4 => ?_
  have hz5 : ZipSt h4 z TI TO (rawInt g3.objs.size) := hz5
  have hs3 : Heap.SameBut z (g3.push { cls := .type "tuple", data := .seq #[x1, x2, x3] }) h3 := hs3
  have hs4 : Heap.SameBut z h3 h4 := hs4
  have up : ∀ c o, c ≠ z → g3.get? c = some o → h4.get? c = some o := fun c o c1 e => hs4.extBut _ _ c1 (hs3.extBut _ _ c1 (Heap.get?_push_of_some _ e))
  have hTn : IsTupOf3 h4 g3.objs.size x1 x2 x3 := hs4.extBut _ _ (Nat.ne_of_gt hzlt) (hs3.extBut _ _ (Nat.ne_of_gt hzlt) (Heap.get?_push_size _ rfl))
  have hsn : h4.objs.size = g3.objs.size + 1 := by rw [hs4.1, hs3.1, Heap.size_push]
  rw [hsz] at hz5 hTn hsn
  refine wpAny_pure ⟨_, rfl, ?_⟩
  show Q (.ref g3.objs.size) ⟨h4, g, d, tk3, os⟩
  rw [hsz]
  exact hQ x1 x2 x3 h4 tk3 hx1 hx2 hx3 hz5 (up _ _ S.TOz hT3) (D1.frame _ _ _ hj1 fun b hb o e => up b o (fun q => S.zf1 (q ▸ hb)) e) (D2.frame _ _ _ hj2 fun b hb o e => up b o (fun q => S.zf2 (q ▸ hb)) e) (D3.frame _ _ _ hj3 fun b hb o e => up b o (fun q => S.zf3 (q ▸ hb)) e) hTn hsn
    fun c o cz cT c1 c2 c3 e => up c o cz (kp c o cT c1 c2 c3 (hs0.extBut _ _ cz e))
theorem zt_end {Q : Fin → Shared → Prop} (hh : A.handled = none) (S : ZipSep3 z TI TO i1 i2 i3 fp1 fp2 fp3) (D1 : Draws prog w A i1 fp1 i P1 St1) (D2 : Draws prog w A i2 fp2 i P2 St2) (D3 : Draws prog w A i3 fp3 i P3 St3)
    (hz : ZipSt s.heap z TI TO .none) (hTI : IsTupOf3 s.heap TI (.ref i1) (.ref i2) (.ref i3)) (st1 : St1 i s.heap) (st2 : St2 i s.heap) (st3 : St3 i s.heap)
    (hE : ∀ h' e, (∀ c o, c ≠ z → c ≠ TO → c ≠ i1 → c ≠ i2 → c ≠ i3 → s.heap.get? c = some o → h'.get? c = some o) → (∃ o, h'.get? e = some o ∧ o.cls = .type "StopIteration") → E (.ref e) { s with heap := h' }) :
    wpAny (model prog w) A (Builtin.«zip.__next__» ⟨[.ref z], []⟩) Q E s := by
  obtain ⟨hp, g, d, tk0, os⟩ := s
  show wpAny _ _ (field (.ref z) 2 >>= _) _ _ _
  refine wpAny_bind (wpAny_field hz rfl (x := .bool true) rfl ?_)
  show wpAny _ _ (field (.ref z) 3 >>= _) _ _ _
  refine wpAny_bind (wpAny_field hz rfl (x := .ref TI) rfl (wpAny_bind (wpAny_seqItems hTI rfl ?_)))
  show wpAny _ _ (Builtin.SmallTypes.ownedTupleIsFree (.ref z) >>= _) _ _ _
  refine wpAny_bind ?_
  unfold Builtin.SmallTypes.ownedTupleIsFree
  refine wpAny_bind (wpAny_field hz rfl (x := .none) rfl (wpAny_pure ?_))
  simp only [if_true]
  refine wpAny_bind (wpAny_rule (wpAny_bind (wpAny_field hz rfl (x := .ref TO) rfl (wpAny_bind (wpAny_setField_rec hz (by simp) fun g0 hz0 hs0 => ?_)))))
  have hz0 : ZipSt g0 z TI TO .ellipsis := hz0
  have hs0 : Heap.SameBut z hp g0 := hs0
  refine wpAny_bind ?_
  simp only [List.zipIdx_cons, List.zipIdx_nil, List.forIn_cons, List.forIn_nil]
  refine wpAny_bind (wpAny_bind (wpAny_onRaise ?_))
  show wpAny _ _ (Builtin.SmallTypes.nextOrEnd (.ref i1)) _ _ ⟨g0, g, d, tk0, os⟩
  refine noe_end (fun Q' E' k => D1.done ⟨g0, g, d, tk0, os⟩ _ _ (D1.over st1 hs0 S.zf1) k) fun h1 e1 => ?_
  have e1 : Heap.ExtBut i1 g0 h1 := e1
  have hz1 : ZipSt h1 z TI TO .ellipsis := e1 _ _ S.zi1 hz0
  refine wpAny_bind (wpAny_setField_rec (s := ⟨h1, g, d, tk0, os⟩) hz1 (by simp) fun h2 hz2 hs2 => ?_)
  have hs2 : Heap.SameBut z h1 h2 := hs2
  refine wpAny_bind ?_
  show wpAny _ _ (forIn [(Value.ref i2, 1), (Value.ref i3, 2)] PUnit.unit _ >>= _) _ _ _
  refine wpAny_bind ?_
  simp only [List.forIn_cons, List.forIn_nil]
  refine wpAny_bind (wpAny_bind ?_)
  show wpAny _ _ (Builtin.SmallTypes.nextOrEnd (.ref i2)) _ _ ⟨h2, g, d, tk0, os⟩
  have st2' : St2 i h2 := D2.over (D2.frame _ _ _ (D2.over st2 hs0 S.zf2) fun b hb o q => e1 b o (fun z => S.sep1_2 (z ▸ hb)) q) hs2 S.zf2
  refine noe_end (fun Q' E' k => D2.done ⟨h2, g, d, tk0, os⟩ _ _ st2' k) fun h3 e3 => ?_
  have e3 : Heap.ExtBut i2 h2 h3 := e3
  show wpAny _ _ (pure (ForInStep.yield PUnit.unit)) _ _ _
  refine wpAny_pure ?_
  refine wpAny_bind (wpAny_bind ?_)
  show wpAny _ _ (Builtin.SmallTypes.nextOrEnd (.ref i3)) _ _ ⟨h3, g, d, tk0, os⟩
  have st3' : St3 i h3 := D3.frame _ _ _ (D3.over (D3.frame _ _ _ (D3.over st3 hs0 S.zf3) fun b hb o q => e1 b o (fun z => S.sep1_3 (z ▸ hb)) q) hs2 S.zf3) fun b hb o q => e3 b o (fun z => S.sep2_3 (z ▸ hb)) q
  refine noe_end (fun Q' E' k => D3.done ⟨h3, g, d, tk0, os⟩ _ _ st3' k) fun h5 e5 => ?_
  have e5 : Heap.ExtBut i3 h3 h5 := e5
  show wpAny _ _ (pure (ForInStep.yield PUnit.unit)) _ _ _
  refine wpAny_pure ?_
  show wpAny _ _ (pure PUnit.unit) _ _ _
  refine wpAny_pure ?_
  refine wpAny_bind (wpAny_rule (stop_it hh fun h4 e k4 he => ?_))
  exact hE h4 e (fun c o cz cT c1 c2 c3 q => k4 _ _ (e5 _ _ c3 (e3 _ _ c2 (hs2.extBut _ _ cz (e1 _ _ c1 (hs0.extBut _ _ cz q)))))) he
theorem zt_pn {Q : Option Value → Shared → Prop} (S : ZipSep3 z TI TO i1 i2 i3 fp1 fp2 fp3) (D1 : Draws prog w A.in1 i1 fp1 n1 P1 St1) (D2 : Draws prog w A.in1 i2 fp2 n2 P2 St2) (D3 : Draws prog w A.in1 i3 fp3 n3 P3 St3)
    (hz : ZipSt s.heap z TI TO .none) (hTI : IsTupOf3 s.heap TI (.ref i1) (.ref i2) (.ref i3)) (hTO : IsTupOf3 s.heap TO a1 a2 a3) (st1 : St1 i s.heap) (st2 : St2 i s.heap) (st3 : St3 i s.heap) (hlt1 : i < n1) (hlt2 : i < n2) (hlt3 : i < n3)
    (hQ : ∀ x1 x2 x3 h' tk, P1 i x1 → P2 i x2 → P3 i x3 → ZipSt h' z TI TO (rawInt s.heap.objs.size) → IsTupOf3 h' TO x1 x2 x3 → St1 (i + 1) h' → St2 (i + 1) h' → St3 (i + 1) h' → IsTupOf3 h' s.heap.objs.size x1 x2 x3 → h'.objs.size = s.heap.objs.size + 1 →
      (∀ c o, c ≠ z → c ≠ TO → c ≠ i1 → c ≠ i2 → c ≠ i3 → s.heap.get? c = some o → h'.get? c = some o) → Q (some (.ref s.heap.objs.size)) { s with heap := h', toks := tk }) :
    wpAny (model prog w) A (pyNext (.ref z)) Q E s := by
  have hT : s.TypeIs (.ref z) "zip" := ⟨_, hz, rfl⟩
  unfold pyNext
  exact wpAny_bind (wpAny_attempt (wpAny_callSpecial?_slot (name := Str.ofString "__next__") hT F.slot_zip_next
    (wpAny_call_entry F.slot_zip_next hT F.entry_zip_next (zt_next S D1 D2 D3 hz hTI hTO st1 st2 st3 hlt1 hlt2 hlt3 fun x1 x2 x3 h' tk q1 q2 q3 q4 q5 q6 q7 q8 q9 q10 q11 => wpAny_pure (hQ x1 x2 x3 h' tk q1 q2 q3 q4 q5 q6 q7 q8 q9 q10 q11)) (F.args_zip_next_1 _))))
theorem zt_pe {Q : Option Value → Shared → Prop} (hh : A.in1.handled = none) (S : ZipSep3 z TI TO i1 i2 i3 fp1 fp2 fp3) (D1 : Draws prog w A.in1 i1 fp1 i P1 St1) (D2 : Draws prog w A.in1 i2 fp2 i P2 St2) (D3 : Draws prog w A.in1 i3 fp3 i P3 St3)
    (hz : ZipSt s.heap z TI TO .none) (hTI : IsTupOf3 s.heap TI (.ref i1) (.ref i2) (.ref i3)) (st1 : St1 i s.heap) (st2 : St2 i s.heap) (st3 : St3 i s.heap)
    (hQ : ∀ h', (∀ c o, c ≠ z → c ≠ TO → c ≠ i1 → c ≠ i2 → c ≠ i3 → s.heap.get? c = some o → h'.get? c = some o) → Q none { s with heap := h' }) : wpAny (model prog w) A (pyNext (.ref z)) Q E s := by
  have hT : s.TypeIs (.ref z) "zip" := ⟨_, hz, rfl⟩
  unfold pyNext
  refine wpAny_bind (wpAny_attempt (wpAny_callSpecial?_slot (name := Str.ofString "__next__") hT F.slot_zip_next
    (wpAny_call_entry F.slot_zip_next hT F.entry_zip_next (zt_end hh S D1 D2 D3 hz hTI st1 st2 st3 fun h' e hk he => ?_) (F.args_zip_next_1 _))))
  obtain ⟨o, ho, hc⟩ := he
  exact wpAny_bind (wpAny_isInstance (T := "StopIteration") (b := true) ⟨o, ho, hc⟩ isSubtype_stop (wpAny_pure (hQ _ hk)))
end
theorem sepN {N : Nat} {fp1 fp2 fp3 : List Addr} (m1 : N ∈ fp1) (m2 : N + 1 ∈ fp2) (m3 : N + 2 ∈ fp3) (l1 : ∀ b ∈ fp1, b = N ∨ b < N) (l2 : ∀ b ∈ fp2, b = N + 1 ∨ b < N) (l3 : ∀ b ∈ fp3, b = N + 2 ∨ b < N) : ZipSep3 (N + 5) (N + 3) (N + 4) N (N + 1) (N + 2) fp1 fp2 fp3 := by
  have q1 : ∀ c : Nat, N < c → c ∉ fp1 := fun c h z => by rcases l1 c z with e | e <;> (try (have e : c = N := e)) <;> (try (have e : c < N := e)) <;> omega
  have q2 : ∀ c : Nat, N ≤ c → c ≠ N + 1 → c ∉ fp2 := fun c h h' z => by rcases l2 c z with e | e <;> (try (have e : c = N + 1 := e)) <;> (try (have e : c < N := e)) <;> omega
  have q3 : ∀ c : Nat, N ≤ c → c ≠ N + 2 → c ∉ fp3 := fun c h h' z => by rcases l3 c z with e | e <;> (try (have e : c = N + 2 := e)) <;> (try (have e : c < N := e)) <;> omega
  exact
  { TIz := show (N + 3 : Nat) ≠ N + 5 by omega, TOz := show (N + 4 : Nat) ≠ N + 5 by omega, TITO := show (N + 3 : Nat) ≠ N + 4 by omega,
    TIi1 := show (N + 3 : Nat) ≠ N by omega, mem1 := m1, zf1 := q1 (N + 5) (by omega), Tf1 := q1 (N + 4) (by omega),
    TIi2 := show (N + 3 : Nat) ≠ N + 1 by omega, mem2 := m2, zf2 := q2 (N + 5) (by omega) (by omega), Tf2 := q2 (N + 4) (by omega) (by omega),
    TIi3 := show (N + 3 : Nat) ≠ N + 2 by omega, mem3 := m3, zf3 := q3 (N + 5) (by omega) (by omega), Tf3 := q3 (N + 4) (by omega) (by omega),
    sep1_2 := q2 N (by omega) (by omega), sep1_3 := q3 N (by omega) (by omega), sep2_1 := q1 (N + 1) (by omega),
    sep2_3 := q3 (N + 1) (by omega) (by omega), sep3_1 := q1 (N + 2) (by omega), sep3_2 := q2 (N + 2) (by omega) (by omega) }
end MP
namespace MP
open PySem PySem.Spec PyProof.Rows L2
theorem tc_zipt (a b e c : Value) : checkTypeCall "zip" ⟨[a, b, e], [(Str.ofString "strict", c)]⟩ = pure () := by kernel_rfl
theorem nc_zipt (a b e c : Value) : checkBuiltinCall "zip.__new__" ⟨[.type "zip", a, b, e], [(Str.ofString "strict", c)]⟩ = pure () := by kernel_rfl
theorem ai_zipt (obj a b e c : Value) : argsOk "object.__init__" ⟨[obj, a, b, e], [(Str.ofString "strict", c)]⟩ := by unfold argsOk; kernel_rfl
abbrev ztT (h : Heap) (o1 o2 o3 : Obj) : Heap := (((h.push o1).push o2).push o3).push { cls := .type "tuple", data := .seq #[.ref h.objs.size, .ref (h.push o1).objs.size, .ref ((h.push o1).push o2).objs.size] }
abbrev ztO (h : Heap) (o1 o2 o3 : Obj) : Heap := (ztT h o1 o2 o3).push { cls := .type "tuple", data := .seq #[.none, .none, .none] }
abbrev ztZ (h : Heap) (o1 o2 o3 : Obj) : Heap := (ztO h o1 o2 o3).push { cls := .type "zip", data := .fields #[.none, .bool false, .bool true, .ref (((h.push o1).push o2).push o3).objs.size, .ref (ztT h o1 o2 o3).objs.size] }
theorem meets_zt {v1 v2 v3 : Value} {o1 o2 o3 : Obj} {H1 H2 H3 : Heap → Prop} (B1 : Begins v1 o1 H1) (B2 : Begins v2 o2 H2) (B3 : Begins v3 o3 H3) :
    Meets (Builtin.«zip.__new__» ⟨[.type "zip", v1, v2, v3], [(Str.ofString "strict", .bool true)]⟩) (fun _ R s => (H1 s.heap ∧ H2 s.heap ∧ H3 s.heap) ∧
      R (.ok (.ret (.ref (ztO s.heap o1 o2 o3).objs.size))) { s with heap := ztZ s.heap o1 o2 o3 }) :=
  .of_wp fun prog w A R s h => by
    obtain ⟨hp, g, d, tk, os⟩ := s; obtain ⟨⟨h1, h2, h3⟩, h⟩ := h
    have hsub := sub_zip
    have q1 : ∀ {A' : Around} {E : Value → Shared → Prop} {Q : Value → Shared → Prop}, Q (.ref hp.objs.size) ⟨(hp.push o1), g, d, tk, os⟩ → wpAny (model prog w) A' (pyIter v1) Q E ⟨hp, g, d, tk, os⟩ :=
      fun q => B1.iter prog w _ _ ⟨hp, g, d, tk, os⟩ _ (B1.keeps _ _ h1 fun b o' e => e) q
    have q2 : ∀ {A' : Around} {E : Value → Shared → Prop} {Q : Value → Shared → Prop}, Q (.ref (hp.push o1).objs.size) ⟨((hp.push o1).push o2), g, d, tk, os⟩ → wpAny (model prog w) A' (pyIter v2) Q E ⟨(hp.push o1), g, d, tk, os⟩ :=
      fun q => B2.iter prog w _ _ ⟨(hp.push o1), g, d, tk, os⟩ _ (B2.keeps _ _ h2 fun b o' e => (Heap.get?_push_of_some _ e)) q
    have q3 : ∀ {A' : Around} {E : Value → Shared → Prop} {Q : Value → Shared → Prop}, Q (.ref ((hp.push o1).push o2).objs.size) ⟨(((hp.push o1).push o2).push o3), g, d, tk, os⟩ → wpAny (model prog w) A' (pyIter v3) Q E ⟨((hp.push o1).push o2), g, d, tk, os⟩ :=
      fun q => B3.iter prog w _ _ ⟨((hp.push o1).push o2), g, d, tk, os⟩ _ (B3.keeps _ _ h3 fun b o' e => (Heap.get?_push_of_some _ (Heap.get?_push_of_some _ e))) q
    have e1 : (Str.ofString "strict" == ("strict" : Str)) = true := by decide +kernel
    have e2 : (Str.ofString "strict" != ("strict" : Str)) = false := by decide +kernel
    wp_walk using q1, q2, q3
    exact ⟨_, rfl, h⟩
section
variable {prog : Program} {w : World} {A : Around} {E : Value → Shared → Prop} {s : Shared}
theorem zt_begins {v1 v2 v3 : Value} {o1 o2 o3 : Obj} {H1 H2 H3 : Heap → Prop} {Q : Value → Shared → Prop} (B1 : Begins v1 o1 H1) (B2 : Begins v2 o2 H2) (B3 : Begins v3 o3 H3) (h1 : H1 s.heap) (h2 : H2 s.heap) (h3 : H3 s.heap)
    (h : ∀ h', ZipSt h' (s.heap.objs.size + 5) (s.heap.objs.size + 3) (s.heap.objs.size + 4) .none → IsTupOf3 h' (s.heap.objs.size + 3) (.ref s.heap.objs.size) (.ref (s.heap.objs.size + 1)) (.ref (s.heap.objs.size + 2)) →
      IsTupOf3 h' (s.heap.objs.size + 4) .none .none .none → h'.get? s.heap.objs.size = some o1 → h'.get? (s.heap.objs.size + 1) = some o2 → h'.get? (s.heap.objs.size + 2) = some o3 → h'.objs.size = s.heap.objs.size + 6 →
      (∀ c o, s.heap.get? c = some o → h'.get? c = some o) → Q (.ref (s.heap.objs.size + 5)) { s with heap := h' }) :
    wpAny (model prog w) A (call (.type "zip") [v1, v2, v3] [(Str.ofString "strict", .bool true)]) Q E s := by
  refine callType_newKw F.called_zip (by decide) (tc_zipt _ _ _ _) (nc_zipt _ _ _ _) (fun obj => ai_zipt obj _ _ _ _) F.entry_zip_new
    (meets_zt B1 B2 B3) ⟨⟨h1, h2, h3⟩, ?_⟩
  have z1 : (s.heap.push o1).objs.size = s.heap.objs.size + 1 := by rw [Heap.size_push]
  have z2 : ((s.heap.push o1).push o2).objs.size = s.heap.objs.size + 2 := by rw [Heap.size_push, z1]
  have z3 : (((s.heap.push o1).push o2).push o3).objs.size = s.heap.objs.size + 3 := by rw [Heap.size_push, z2]
  have zT : (ztT s.heap o1 o2 o3).objs.size = s.heap.objs.size + 4 := by rw [Heap.size_push, z3]
  have zO : (ztO s.heap o1 o2 o3).objs.size = s.heap.objs.size + 5 := by rw [Heap.size_push, zT]
  have zZ : (ztZ s.heap o1 o2 o3).objs.size = s.heap.objs.size + 6 := by rw [Heap.size_push, zO]
  have gZ : (ztZ s.heap o1 o2 o3).get? (ztO s.heap o1 o2 o3).objs.size = some { cls := .type "zip", data := .fields #[.none, .bool false, .bool true, .ref (((s.heap.push o1).push o2).push o3).objs.size, .ref (ztT s.heap o1 o2 o3).objs.size] } := Heap.get?_push_size _ rfl
  have gO : (ztZ s.heap o1 o2 o3).get? (ztT s.heap o1 o2 o3).objs.size = some { cls := .type "tuple", data := .seq #[.none, .none, .none] } := Heap.get?_push_of_some _ (Heap.get?_push_size _ rfl)
  have gT : (ztZ s.heap o1 o2 o3).get? (((s.heap.push o1).push o2).push o3).objs.size = some { cls := .type "tuple", data := .seq #[.ref s.heap.objs.size, .ref (s.heap.push o1).objs.size, .ref ((s.heap.push o1).push o2).objs.size] } := Heap.get?_push_of_some _ (Heap.get?_push_of_some _ (Heap.get?_push_size _ rfl))
  have g1 : (ztZ s.heap o1 o2 o3).get? s.heap.objs.size = some o1 := Heap.get?_push_of_some _ (Heap.get?_push_of_some _ (Heap.get?_push_of_some _ (Heap.get?_push_of_some _ (Heap.get?_push_of_some _ (Heap.get?_push_size _ B1.free)))))
  have g2 : (ztZ s.heap o1 o2 o3).get? (s.heap.push o1).objs.size = some o2 := Heap.get?_push_of_some _ (Heap.get?_push_of_some _ (Heap.get?_push_of_some _ (Heap.get?_push_of_some _ (Heap.get?_push_size _ B2.free))))
  have g3 : (ztZ s.heap o1 o2 o3).get? ((s.heap.push o1).push o2).objs.size = some o3 := Heap.get?_push_of_some _ (Heap.get?_push_of_some _ (Heap.get?_push_of_some _ (Heap.get?_push_size _ B3.free)))
  rw [zO, zT, z3] at gZ
  rw [zT] at gO
  rw [z3, z2, z1] at gT
  rw [z1] at g2
  rw [z2] at g3
  show _ ∧ _
  rw [zO]
  exact ⟨⟨_, gZ, rfl⟩, h _ gZ gT gO g1 g2 g3 zZ fun c o e => Heap.get?_push_of_some _ (Heap.get?_push_of_some _ (Heap.get?_push_of_some _ (Heap.get?_push_of_some _ (Heap.get?_push_of_some _ (Heap.get?_push_of_some _ e)))))⟩
end
section
variable {G : Gx} {m : List Addr} {H : Hp}
end
section
variable {G : Gx} {X : Cx} {W : WX} {C : Cfg}
theorem valsT {x y z : V} {us : List Value} (r : Vals [x, y, z] us) : ∃ u v t, us = [u, v, t] ∧ RelV x u ∧ RelV y v ∧ RelV z t := by
  cases r with
  | cons a r => cases r with
    | cons b r => cases r with
      | cons c r => cases r; exact ⟨_, _, _, rfl, a, b, c⟩
end
end MP
namespace MP
open PySem PySem.Spec PyProof.Rows L2
abbrev ZipSt2 (h : Heap) (z TI TO : Addr) (f0 : Value) (b : Bool) : Prop := h.get? z = some { cls := .type "zip", dict := none, data := .fields #[f0, .bool b, .bool true, .ref TI, .ref TO], slots := #[] }
section
variable {prog : Program} {w : World} {A : Around} {E : Value → Shared → Prop} {s : Shared}
theorem wpAny_loadIf {a : Addr} {Q : Option Obj → Shared → Prop} (h : Q (s.heap.get? a) s) : wpAny (model prog w) A (loadIfAlive a) Q E s := fun Γ p hΓ => by
  unfold loadIfAlive
  rw [Sem.wp_loadIfAlive]
  exact h
variable {z TI TO i1 i2 i3 T : Addr} {fp1 fp2 fp3 : List Addr} {n1 n2 n3 i : Nat} {P1 P2 P3 : Nat → Value → Prop} {St1 St2 St3 : Nat → Heap → Prop} {a1 a2 a3 : Value} {b : Bool} {o : Obj}
theorem notFree {Q : Bool → Shared → Prop} (hz : ZipSt2 s.heap z TI TO (rawInt T) b) (hT : s.heap.get? T = some o)
    (hQ : ∀ h', ZipSt2 h' z TI TO (rawInt T) true → Heap.SameBut z s.heap h' → Q false { s with heap := h' }) : wpAny (model prog w) A (Builtin.SmallTypes.ownedTupleIsFree (.ref z)) Q E s := by
  unfold Builtin.SmallTypes.ownedTupleIsFree
  refine wpAny_bind (wpAny_field hz rfl (x := rawInt T) rfl ?_)
  have e : (Int.ofNat T).toNat = T := rfl
  show wpAny _ _ (loadIfAlive T >>= _) _ _ _
  refine wpAny_bind (wpAny_loadIf ?_)
  rw [hT]
  simp only [Option.isNone_some, Bool.false_eq_true, if_false]
  refine wpAny_bind (wpAny_field hz rfl (x := .bool b) rfl ?_)
  cases b with
  | true =>
    rw [if_neg (by decide)]
    exact wpAny_pure (hQ _ hz ⟨rfl, fun _ _ => rfl⟩)
  | false =>
    rw [if_pos (by decide)]
    refine wpAny_bind (wpAny_setField_rec hz (by simp) fun h' hz' hs' => wpAny_pure (hQ h' hz' hs'))
theorem zk_next {Q : Value → Shared → Prop} (S : ZipSep3 z TI TO i1 i2 i3 fp1 fp2 fp3) (D1 : Draws prog w A i1 fp1 n1 P1 St1) (D2 : Draws prog w A i2 fp2 n2 P2 St2) (D3 : Draws prog w A i3 fp3 n3 P3 St3)
    (hz : ZipSt2 s.heap z TI TO (rawInt T) b) (hT : s.heap.get? T = some o) (hTI : IsTupOf3 s.heap TI (.ref i1) (.ref i2) (.ref i3)) (st1 : St1 i s.heap) (st2 : St2 i s.heap) (st3 : St3 i s.heap) (hlt1 : i < n1) (hlt2 : i < n2) (hlt3 : i < n3)
    (hQ : ∀ x1 x2 x3 h' tk, P1 i x1 → P2 i x2 → P3 i x3 → ZipSt2 h' z TI TO (rawInt T) true → St1 (i + 1) h' → St2 (i + 1) h' → St3 (i + 1) h' → IsTupOf3 h' s.heap.objs.size x1 x2 x3 → h'.objs.size = s.heap.objs.size + 1 →
      (∀ c o, c ≠ z → c ≠ i1 → c ≠ i2 → c ≠ i3 → s.heap.get? c = some o → h'.get? c = some o) → Q (.ref s.heap.objs.size) { s with heap := h', toks := tk }) :
    wpAny (model prog w) A (Builtin.«zip.__next__» ⟨[.ref z], []⟩) (fun fin s' => ∃ v, fin = .done (.ret v) ∧ Q v s') E s := by
  obtain ⟨hp, g, d, tk0, os⟩ := s
  show wpAny _ _ (field (.ref z) 2 >>= _) _ _ _
  refine wpAny_bind (wpAny_field hz rfl (x := .bool true) rfl ?_)
  show wpAny _ _ (field (.ref z) 3 >>= _) _ _ _
  refine wpAny_bind (wpAny_field hz rfl (x := .ref TI) rfl (wpAny_bind (wpAny_seqItems hTI rfl ?_)))
  show wpAny _ _ (Builtin.SmallTypes.ownedTupleIsFree (.ref z) >>= _) _ _ _
  refine wpAny_bind (notFree hz hT fun g0 hz0 hs0 => ?_)
  have hs0 : Heap.SameBut z hp g0 := hs0
  simp only [Bool.false_eq_true, if_false]
  refine wpAny_bind ?_
  rw [← Array.forIn_toList]
  simp only [List.forIn_cons, List.forIn_nil]
  refine wpAny_bind (wpAny_bind (wpAny_holding ?_))
  show wpAny _ _ (Builtin.SmallTypes.nextOrEnd (.ref i1)) _ _ ⟨g0, g, d, tk0, os⟩
  refine noe_item fun E1 => D1.item i _ _ _ hlt1 (D1.over st1 hs0 S.zf1) fun x1 p1 tk1 hx1 sn1 hp1 => ?_
  have hp1 : Heap.SameBut i1 g0 p1 := hp1
  refine wpAny_pure ?_
  refine wpAny_bind (wpAny_bind (wpAny_holding ?_))
  show wpAny _ _ (Builtin.SmallTypes.nextOrEnd (.ref i2)) _ _ ⟨p1, g, d, tk1, os⟩
  refine noe_item fun E1 => D2.item i _ _ _ hlt2 (D2.over (D2.over st2 hs0 S.zf2) hp1 S.sep1_2) fun x2 p2 tk2 hx2 sn2 hp2 => ?_
  have hp2 : Heap.SameBut i2 p1 p2 := hp2
  refine wpAny_pure ?_
  refine wpAny_bind (wpAny_bind (wpAny_holding ?_))
  show wpAny _ _ (Builtin.SmallTypes.nextOrEnd (.ref i3)) _ _ ⟨p2, g, d, tk2, os⟩
  refine noe_item fun E1 => D3.item i _ _ _ hlt3 (D3.over (D3.over (D3.over st3 hs0 S.zf3) hp1 S.sep1_3) hp2 S.sep2_3) fun x3 p3 tk3 hx3 sn3 hp3 => ?_
  have hp3 : Heap.SameBut i3 p2 p3 := hp3
  refine wpAny_pure (wpAny_pure ?_)
  have hsz : p3.objs.size = hp.objs.size := by rw [hp3.1, hp2.1, hp1.1, hs0.1]
  have kp : ∀ c o, c ≠ i1 → c ≠ i2 → c ≠ i3 → g0.get? c = some o → p3.get? c = some o := fun c o c1 c2 c3 e => hp3.extBut _ _ c3 (hp2.extBut _ _ c2 (hp1.extBut _ _ c1 e))
  have hj1 : St1 (i + 1) p3 := D1.over (D1.over sn1 hp2 S.sep2_1) hp3 S.sep3_1
  have hj2 : St2 (i + 1) p3 := D2.over sn2 hp3 S.sep3_2
  show wpAny _ _ (newTuple [x1, x2, x3] >>= _) _ _ ⟨p3, g, d, tk3, os⟩
  refine wpAny_bind (wpAny_newTuple ?_)
  show wpAny _ _ (ret (Value.ref p3.objs.size)) _ _ ⟨p3.push { cls := .type "tuple", data := .seq #[x1, x2, x3] }, g, d, tk3, os⟩
  have up : ∀ c o, p3.get? c = some o → (p3.push { cls := .type "tuple", data := .seq #[x1, x2, x3] }).get? c = some o := fun c o e => Heap.get?_push_of_some _ e
  refine wpAny_pure ⟨_, rfl, ?_⟩
  show Q (.ref p3.objs.size) ⟨_, g, d, tk3, os⟩
  have hTn : IsTupOf3 (p3.push { cls := .type "tuple", data := .seq #[x1, x2, x3] }) p3.objs.size x1 x2 x3 := Heap.get?_push_size _ rfl
  rw [hsz] at hTn ⊢
  exact hQ x1 x2 x3 _ tk3 hx1 hx2 hx3 (up _ _ (kp _ _ S.zi1 S.zi2 S.zi3 hz0)) (D1.frame _ _ _ hj1 fun b hb o e => up b o e) (D2.frame _ _ _ hj2 fun b hb o e => up b o e) (D3.frame _ _ _ sn3 fun b hb o e => up b o e) hTn (by rw [Heap.size_push, hsz])
    fun c o cz c1 c2 c3 e => up c o (kp c o c1 c2 c3 (hs0.extBut _ _ cz e))
theorem zk_end {Q : Fin → Shared → Prop} (hh : A.handled = none) (S : ZipSep3 z TI TO i1 i2 i3 fp1 fp2 fp3) (D1 : Draws prog w A i1 fp1 i P1 St1) (D2 : Draws prog w A i2 fp2 i P2 St2) (D3 : Draws prog w A i3 fp3 i P3 St3)
    (hz : ZipSt2 s.heap z TI TO (rawInt T) b) (hT : s.heap.get? T = some o) (hTI : IsTupOf3 s.heap TI (.ref i1) (.ref i2) (.ref i3)) (st1 : St1 i s.heap) (st2 : St2 i s.heap) (st3 : St3 i s.heap)
    (hE : ∀ h' e, (∀ c o, c ≠ z → c ≠ i1 → c ≠ i2 → c ≠ i3 → s.heap.get? c = some o → h'.get? c = some o) → (∃ o, h'.get? e = some o ∧ o.cls = .type "StopIteration") → E (.ref e) { s with heap := h' }) :
    wpAny (model prog w) A (Builtin.«zip.__next__» ⟨[.ref z], []⟩) Q E s := by
  obtain ⟨hp, g, d, tk0, os⟩ := s
  show wpAny _ _ (field (.ref z) 2 >>= _) _ _ _
  refine wpAny_bind (wpAny_field hz rfl (x := .bool true) rfl ?_)
  show wpAny _ _ (field (.ref z) 3 >>= _) _ _ _
  refine wpAny_bind (wpAny_field hz rfl (x := .ref TI) rfl (wpAny_bind (wpAny_seqItems hTI rfl ?_)))
  show wpAny _ _ (Builtin.SmallTypes.ownedTupleIsFree (.ref z) >>= _) _ _ _
  refine wpAny_bind (notFree hz hT fun g0 hz0 hs0 => ?_)
  have hs0 : Heap.SameBut z hp g0 := hs0
  simp only [Bool.false_eq_true, if_false]
  refine wpAny_bind ?_
  rw [← Array.forIn_toList]
  simp only [List.forIn_cons, List.forIn_nil]
  refine wpAny_bind (wpAny_bind (wpAny_holding ?_))
  show wpAny _ _ (Builtin.SmallTypes.nextOrEnd (.ref i1)) _ _ ⟨g0, g, d, tk0, os⟩
  refine noe_end (fun Q' E' k => D1.done ⟨g0, g, d, tk0, os⟩ _ _ (D1.over st1 hs0 S.zf1) k) fun h1 e1 => ?_
  have e1 : Heap.ExtBut i1 g0 h1 := e1
  refine wpAny_bind ?_
  show wpAny _ _ (forIn [(Value.ref i2, 1), (Value.ref i3, 2)] PUnit.unit _ >>= _) _ _ ⟨h1, g, d, tk0, os⟩
  refine wpAny_bind ?_
  simp only [List.forIn_cons, List.forIn_nil]
  refine wpAny_bind (wpAny_bind ?_)
  show wpAny _ _ (Builtin.SmallTypes.nextOrEnd (.ref i2)) _ _ ⟨h1, g, d, tk0, os⟩
  have st2' : St2 i h1 := D2.frame _ _ _ (D2.over st2 hs0 S.zf2) fun b hb o q => e1 b o (fun z => S.sep1_2 (z ▸ hb)) q
  refine noe_end (fun Q' E' k => D2.done ⟨h1, g, d, tk0, os⟩ _ _ st2' k) fun h3 e3 => ?_
  have e3 : Heap.ExtBut i2 h1 h3 := e3
  show wpAny _ _ (pure (ForInStep.yield PUnit.unit)) _ _ _
  refine wpAny_pure ?_
  refine wpAny_bind (wpAny_bind ?_)
  show wpAny _ _ (Builtin.SmallTypes.nextOrEnd (.ref i3)) _ _ ⟨h3, g, d, tk0, os⟩
  have st3' : St3 i h3 := D3.frame _ _ _ (D3.frame _ _ _ (D3.over st3 hs0 S.zf3) fun b hb o q => e1 b o (fun z => S.sep1_3 (z ▸ hb)) q) fun b hb o q => e3 b o (fun z => S.sep2_3 (z ▸ hb)) q
  refine noe_end (fun Q' E' k => D3.done ⟨h3, g, d, tk0, os⟩ _ _ st3' k) fun h5 e5 => ?_
  have e5 : Heap.ExtBut i3 h3 h5 := e5
  show wpAny _ _ (pure (ForInStep.yield PUnit.unit)) _ _ _
  refine wpAny_pure ?_
  show wpAny _ _ (pure PUnit.unit) _ _ _
  refine wpAny_pure ?_
  refine wpAny_bind (wpAny_rule (stop_it hh fun h4 e k4 he => ?_))
  exact hE h4 e (fun c o cz c1 c2 c3 q => k4 _ _ (e5 _ _ c3 (e3 _ _ c2 (e1 _ _ c1 (hs0.extBut _ _ cz q))))) he
theorem zk_pn {Q : Option Value → Shared → Prop} (S : ZipSep3 z TI TO i1 i2 i3 fp1 fp2 fp3) (D1 : Draws prog w A.in1 i1 fp1 n1 P1 St1) (D2 : Draws prog w A.in1 i2 fp2 n2 P2 St2) (D3 : Draws prog w A.in1 i3 fp3 n3 P3 St3)
    (hz : ZipSt2 s.heap z TI TO (rawInt T) b) (hT : s.heap.get? T = some o) (hTI : IsTupOf3 s.heap TI (.ref i1) (.ref i2) (.ref i3)) (st1 : St1 i s.heap) (st2 : St2 i s.heap) (st3 : St3 i s.heap) (hlt1 : i < n1) (hlt2 : i < n2) (hlt3 : i < n3)
    (hQ : ∀ x1 x2 x3 h' tk, P1 i x1 → P2 i x2 → P3 i x3 → ZipSt2 h' z TI TO (rawInt T) true → St1 (i + 1) h' → St2 (i + 1) h' → St3 (i + 1) h' → IsTupOf3 h' s.heap.objs.size x1 x2 x3 → h'.objs.size = s.heap.objs.size + 1 →
      (∀ c o, c ≠ z → c ≠ i1 → c ≠ i2 → c ≠ i3 → s.heap.get? c = some o → h'.get? c = some o) → Q (some (.ref s.heap.objs.size)) { s with heap := h', toks := tk }) :
    wpAny (model prog w) A (pyNext (.ref z)) Q E s := by
  have hTy : s.TypeIs (.ref z) "zip" := ⟨_, hz, rfl⟩
  unfold pyNext
  exact wpAny_bind (wpAny_attempt (wpAny_callSpecial?_slot (name := Str.ofString "__next__") hTy F.slot_zip_next
    (wpAny_call_entry F.slot_zip_next hTy F.entry_zip_next (zk_next S D1 D2 D3 hz hT hTI st1 st2 st3 hlt1 hlt2 hlt3 fun x1 x2 x3 h' tk q1 q2 q3 q4 q6 q7 q8 q9 q10 q11 => wpAny_pure (hQ x1 x2 x3 h' tk q1 q2 q3 q4 q6 q7 q8 q9 q10 q11)) (F.args_zip_next_1 _))))
theorem zk_pe {Q : Option Value → Shared → Prop} (hh : A.in1.handled = none) (S : ZipSep3 z TI TO i1 i2 i3 fp1 fp2 fp3) (D1 : Draws prog w A.in1 i1 fp1 i P1 St1) (D2 : Draws prog w A.in1 i2 fp2 i P2 St2) (D3 : Draws prog w A.in1 i3 fp3 i P3 St3)
    (hz : ZipSt2 s.heap z TI TO (rawInt T) b) (hT : s.heap.get? T = some o) (hTI : IsTupOf3 s.heap TI (.ref i1) (.ref i2) (.ref i3)) (st1 : St1 i s.heap) (st2 : St2 i s.heap) (st3 : St3 i s.heap)
    (hQ : ∀ h', (∀ c o, c ≠ z → c ≠ i1 → c ≠ i2 → c ≠ i3 → s.heap.get? c = some o → h'.get? c = some o) → Q none { s with heap := h' }) : wpAny (model prog w) A (pyNext (.ref z)) Q E s := by
  have hTy : s.TypeIs (.ref z) "zip" := ⟨_, hz, rfl⟩
  unfold pyNext
  refine wpAny_bind (wpAny_attempt (wpAny_callSpecial?_slot (name := Str.ofString "__next__") hTy F.slot_zip_next
    (wpAny_call_entry F.slot_zip_next hTy F.entry_zip_next (zk_end hh S D1 D2 D3 hz hT hTI st1 st2 st3 fun h' e hk he => ?_) (F.args_zip_next_1 _))))
  obtain ⟨o, ho, hc⟩ := he
  exact wpAny_bind (wpAny_isInstance (T := "StopIteration") (b := true) ⟨o, ho, hc⟩ isSubtype_stop (wpAny_pure (hQ _ hk)))
def LzSt (z TI TO i1 i2 i3 : Addr) (St1 St2 St3 : Nat → Heap → Prop) (i : Nat) (h : Heap) : Prop :=
  (∃ f0 b, ZipSt2 h z TI TO f0 b ∧ (f0 = .none ∧ b = false ∨ ∃ (T : Addr) (o : Obj), f0 = rawInt T ∧ h.get? T = some o ∧ T ≠ z ∧ T ≠ TO ∧ T ≠ i1 ∧ T ≠ i2 ∧ T ≠ i3)) ∧ IsTupOf3 h TI (.ref i1) (.ref i2) (.ref i3) ∧ (∃ a1 a2 a3, IsTupOf3 h TO a1 a2 a3) ∧ St1 i h ∧ St2 i h ∧ St3 i h
theorem lz_next {Q : Option Value → Shared → Prop} (S : ZipSep3 z TI TO i1 i2 i3 fp1 fp2 fp3) (D1 : Draws prog w A.in1 i1 fp1 n1 P1 St1) (D2 : Draws prog w A.in1 i2 fp2 n2 P2 St2) (D3 : Draws prog w A.in1 i3 fp3 n3 P3 St3)
    (st : LzSt z TI TO i1 i2 i3 St1 St2 St3 i s.heap) (hlt1 : i < n1) (hlt2 : i < n2) (hlt3 : i < n3)
    (hQ : ∀ x1 x2 x3 h' tk, P1 i x1 → P2 i x2 → P3 i x3 → LzSt z TI TO i1 i2 i3 St1 St2 St3 (i + 1) h' → IsTupOf3 h' s.heap.objs.size x1 x2 x3 → h'.objs.size = s.heap.objs.size + 1 →
      (∀ c o, c ≠ z → c ≠ TO → c ≠ i1 → c ≠ i2 → c ≠ i3 → s.heap.get? c = some o → h'.get? c = some o) → Q (some (.ref s.heap.objs.size)) { s with heap := h', toks := tk }) :
    wpAny (model prog w) A (pyNext (.ref z)) Q E s := by
  obtain ⟨⟨f0, b, hz, hf⟩, hTI, ⟨a1, a2, a3, hTO⟩, st1, st2, st3⟩ := st
  have lz : z < s.heap.objs.size := Heap.lt_size hz
  have lTO : TO < s.heap.objs.size := Heap.lt_size hTO
  have li1 : i1 < s.heap.objs.size := by obtain ⟨o, ho⟩ := D1.live _ _ st1; exact Heap.lt_size ho
  have li2 : i2 < s.heap.objs.size := by obtain ⟨o, ho⟩ := D2.live _ _ st2; exact Heap.lt_size ho
  have li3 : i3 < s.heap.objs.size := by obtain ⟨o, ho⟩ := D3.live _ _ st3; exact Heap.lt_size ho
  rcases hf with ⟨rfl, rfl⟩ | ⟨T, o, rfl, hT, t1, t2, t3, t4, t5⟩
  · refine zt_pn S D1 D2 D3 hz hTI hTO st1 st2 st3 hlt1 hlt2 hlt3 fun x1 x2 x3 h' tk p1 p2 p3 z1 to1 s1 s2 s3 tn hsz hk => ?_
    exact hQ x1 x2 x3 h' tk p1 p2 p3 ⟨⟨_, _, z1, .inr ⟨_, _, rfl, tn, Nat.ne_of_gt lz, Nat.ne_of_gt lTO, Nat.ne_of_gt li1, Nat.ne_of_gt li2, Nat.ne_of_gt li3⟩⟩, hk _ _ S.TIz S.TITO S.TIi1 S.TIi2 S.TIi3 hTI, ⟨_, _, _, to1⟩, s1, s2, s3⟩ tn hsz hk
  · refine zk_pn S D1 D2 D3 hz hT hTI st1 st2 st3 hlt1 hlt2 hlt3 fun x1 x2 x3 h' tk p1 p2 p3 z1 s1 s2 s3 tn hsz hk => ?_
    have hTO' : IsTupOf3 h' TO a1 a2 a3 := hk _ _ S.TOz (fun e => S.Tf1 (e ▸ S.mem1)) (fun e => S.Tf2 (e ▸ S.mem2)) (fun e => S.Tf3 (e ▸ S.mem3)) hTO
    exact hQ x1 x2 x3 h' tk p1 p2 p3 ⟨⟨_, _, z1, .inr ⟨_, _, rfl, hk _ _ t1 t3 t4 t5 hT, t1, t2, t3, t4, t5⟩⟩, hk _ _ S.TIz S.TIi1 S.TIi2 S.TIi3 hTI, ⟨_, _, _, hTO'⟩, s1, s2, s3⟩ tn hsz (fun c o c1 _ c3 c4 c5 e => hk c o c1 c3 c4 c5 e)
theorem lz_done {Q : Option Value → Shared → Prop} (hh : A.in1.handled = none) (S : ZipSep3 z TI TO i1 i2 i3 fp1 fp2 fp3) (D1 : Draws prog w A.in1 i1 fp1 i P1 St1) (D2 : Draws prog w A.in1 i2 fp2 i P2 St2) (D3 : Draws prog w A.in1 i3 fp3 i P3 St3)
    (st : LzSt z TI TO i1 i2 i3 St1 St2 St3 i s.heap)
    (hQ : ∀ h', (∀ c o, c ≠ z → c ≠ TO → c ≠ i1 → c ≠ i2 → c ≠ i3 → s.heap.get? c = some o → h'.get? c = some o) → Q none { s with heap := h' }) : wpAny (model prog w) A (pyNext (.ref z)) Q E s := by
  obtain ⟨⟨f0, b, hz, hf⟩, hTI, ⟨a1, a2, a3, hTO⟩, st1, st2, st3⟩ := st
  rcases hf with ⟨rfl, rfl⟩ | ⟨T, o, rfl, hT, t1, t2, t3, t4, t5⟩
  · exact zt_pe hh S D1 D2 D3 hz hTI st1 st2 st3 hQ
  · exact zk_pe hh S D1 D2 D3 hz hT hTI st1 st2 st3 fun h' hk => hQ h' fun c o c1 _ c3 c4 c5 e => hk c o c1 c3 c4 c5 e
end
section
variable {prog : Program} {w : World} {A : Around} {R : Result → Shared → Prop}
variable {z TI TO i1 i2 i3 : Addr} {fp1 fp2 fp3 : List Addr} {n : Nat} {P1 P2 P3 : Nat → Value → Prop} {St1 St2 St3 : Nat → Heap → Prop}
def LzAcc (N0 : Addr) (P1 P2 P3 : Nat → Value → Prop) (acc : Array Value) (i : Nat) (h : Heap) : Prop := acc.size = i ∧ ∀ (j : Nat) v, acc[j]? = some v → v = .ref (N0 + j) ∧ ∃ x y u, IsTupOf3 h (N0 + j) x y u ∧ P1 j x ∧ P2 j y ∧ P3 j u
theorem LzAcc.kept {N0 : Addr} {acc : Array Value} {i : Nat} {h h' : Heap} (a : LzAcc N0 P1 P2 P3 acc i h) (k : ∀ c o, N0 ≤ c → h.get? c = some o → h'.get? c = some o) : LzAcc N0 P1 P2 P3 acc i h' :=
  ⟨a.1, fun j v e => by obtain ⟨e1, x, y, u, e3, e4⟩ := a.2 j v e; exact ⟨e1, x, y, u, k _ _ (Nat.le_add_right _ _) e3, e4⟩⟩
theorem LzAcc.push {N0 T : Addr} {acc : Array Value} {i : Nat} {h : Heap} {x y u : Value} (a : LzAcc N0 P1 P2 P3 acc i h) (hT : T = N0 + i) (t : IsTupOf3 h T x y u) (p1 : P1 i x) (p2 : P2 i y) (p3 : P3 i u) : LzAcc N0 P1 P2 P3 (acc.push (.ref T)) (i + 1) h := by
  refine ⟨by rw [Array.size_push, a.1], fun j v hj => ?_⟩
  rw [Array.getElem?_push] at hj
  split at hj
  · rename_i e; rw [a.1] at e; cases hj; rw [e]; exact ⟨by rw [hT], x, y, u, hT ▸ t, p1, p2, p3⟩
  · exact a.2 j v hj
theorem LzSt.over {i : Nat} {h h' : Heap} {c : Addr} (S : ZipSep3 z TI TO i1 i2 i3 fp1 fp2 fp3) (D1 : Draws prog w A i1 fp1 n P1 St1) (D2 : Draws prog w A i2 fp2 n P2 St2) (D3 : Draws prog w A i3 fp3 n P3 St3) (st : LzSt z TI TO i1 i2 i3 St1 St2 St3 i h)
    (k : ∀ b o, b ≠ c → h.get? b = some o → h'.get? b = some o) (kc : ∀ o, h.get? c = some o → ∃ o', h'.get? c = some o') (c1 : c ≠ z) (c2 : c ≠ TI) (c3 : c ≠ TO) (f1 : c ∉ fp1) (f2 : c ∉ fp2) (f3 : c ∉ fp3) : LzSt z TI TO i1 i2 i3 St1 St2 St3 i h' := by
  obtain ⟨⟨f0, b, hz, hf⟩, hTI, ⟨a1, a2, a3, hTO⟩, st1, st2, st3⟩ := st
  refine ⟨⟨f0, b, k _ _ (Ne.symm c1) hz, ?_⟩, k _ _ (Ne.symm c2) hTI, ⟨a1, a2, a3, k _ _ (Ne.symm c3) hTO⟩, D1.frame _ _ _ st1 fun b hb o e => k _ _ (fun z => f1 (z ▸ hb)) e, D2.frame _ _ _ st2 fun b hb o e => k _ _ (fun z => f2 (z ▸ hb)) e, D3.frame _ _ _ st3 fun b hb o e => k _ _ (fun z => f3 (z ▸ hb)) e⟩
  rcases hf with e | ⟨T, o, e, hT, t⟩
  · exact .inl e
  · by_cases hc : T = c
    · obtain ⟨o', ho'⟩ := kc o (by rw [← hc]; exact hT)
      exact .inr ⟨T, o', e, by rw [hc]; exact ho', t⟩
    · exact .inr ⟨T, o, e, k _ _ hc hT, t⟩
theorem lz_loop (hh : A.in1.handled = none) (S : ZipSep3 z TI TO i1 i2 i3 fp1 fp2 fp3) (D1 : Draws prog w A.in1.in1 i1 fp1 n P1 St1) (D2 : Draws prog w A.in1.in1 i2 fp2 n P2 St2) (D3 : Draws prog w A.in1.in1 i3 fp3 n P3 St3) (hn : n ≤ sizeLine) (L : Addr) (N0 : Addr)
    (hLz : L ≠ z) (hLI : L ≠ TI) (hLO : L ≠ TO) (f1 : L ∉ fp1) (f2 : L ∉ fp2) (f3 : L ∉ fp3) (hLN : L < N0) (hzN : z < N0) (hON : TO < N0) (h1N : i1 < N0) (h2N : i2 < N0) (h3N : i3 < N0) (res : Value) :
    ∀ (k i : Nat) (s : Shared) (acc : Array Value) (c : Nat), n - i = k → i ≤ n → LzSt z TI TO i1 i2 i3 St1 St2 St3 i s.heap → s.heap.get? L = some { cls := .type "list", dict := none, data := .seq acc c, slots := #[] } → LzAcc N0 P1 P2 P3 acc i s.heap → s.heap.objs.size = N0 + i →
    (∀ h' tk acc' c', h'.get? L = some { cls := .type "list", dict := none, data := .seq acc' c', slots := #[] } → LzAcc N0 P1 P2 P3 acc' n h' → (∀ c o, c ≠ L → c ≠ z → c ≠ TO → c ≠ i1 → c ≠ i2 → c ≠ i3 → s.heap.get? c = some o → h'.get? c = some o) → R (.ok (.ret res)) { s with heap := h', toks := tk }) →
    codeAny (model prog w) A (.builtin "list.extend.loop" ⟨[.ref L, .ref z, res], []⟩) R s := by
  intro k
  have d1 : i1 ∈ fp1 := S.mem1
  have d2 : i2 ∈ fp2 := S.mem2
  have d3 : i3 ∈ fp3 := S.mem3
  have L1 : L ≠ i1 := fun e => f1 (e ▸ d1)
  have L2 : L ≠ i2 := fun e => f2 (e ▸ d2)
  have L3 : L ≠ i3 := fun e => f3 (e ▸ d3)
  have ne : ∀ {a : Addr}, a < N0 → ∀ {c : Addr}, N0 ≤ c → c ≠ a := fun h _ h' e => Nat.lt_irrefl _ (Nat.lt_of_lt_of_le (e ▸ h) h')
  induction k with
  | zero =>
    intro i s acc c hk hi hst hL hacc hN hR
    have hin : i = n := by omega
    subst hin
    refine codeAny_builtin F.entry_extend_loop ?_
    rw [Around.under_plainId F.plain_extend_loop _]
    show wpAny _ A.in1 (pyNext (.ref z) >>= _) _ _ s
    refine wpAny_bind (lz_done hh S D1 D2 D3 hst fun h' hk => ?_)
    exact wpAny_pure (hR h' s.toks acc c (hk _ _ hLz hLO L1 L2 L3 hL) (hacc.kept fun c o hc e => hk c o (ne hzN hc) (ne hON hc) (ne h1N hc) (ne h2N hc) (ne h3N hc) e) fun c o _ c2 c3 c4 c5 c6 e => hk c o c2 c3 c4 c5 c6 e)
  | succ k ih =>
    intro i s acc c hk hi hst hL hacc hN hR
    have hlt : i < n := by omega
    refine codeAny_builtin F.entry_extend_loop ?_
    rw [Around.under_plainId F.plain_extend_loop _]
    show wpAny _ A.in1 (pyNext (.ref z) >>= _) _ _ s
    refine wpAny_bind (lz_next S D1 D2 D3 hst hlt hlt hlt fun x1 x2 x3 h' tk p1 p2 p3 hst' tn hsz hk => ?_)
    have hL' := hk _ _ hLz hLO L1 L2 L3 hL
    show wpAny _ A.in1 (updateSeq L (·.push (.ref s.heap.objs.size)) >>= _) _ _ _
    refine wpAny_bind ?_
    have up : ∀ b o, b ≠ L → h'.get? b = some o → (h'.update L (Obj.mapSeq (·.push (.ref s.heap.objs.size)))).get? b = some o := fun b o hb e => (Heap.get?_update_other _ _ (Ne.symm hb)).trans e
    have hLL := Heap.get?_update_self (Obj.mapSeq (·.push (.ref s.heap.objs.size))) hL' rfl
    refine wpAny_updateSeq hL' rfl (wpAny_pure ⟨plainId_quiet F.plain_extend_loop _, ih (i + 1) _ (acc.push (.ref s.heap.objs.size)) _ (by omega) hlt ?_ hLL ?_ ?_ fun h'' tk' acc' c' hL'' hacc' hk'' => ?_⟩)
      (by rw [hacc.1]; omega) (by show (acc.push _).size ≤ sizeLine + 1; rw [Array.size_push, hacc.1]; omega)
    · exact hst'.over S D1 D2 D3 up (fun o _ => ⟨_, hLL⟩) hLz hLI hLO f1 f2 f3
    · refine LzAcc.push (hacc.kept fun c o hc e => up _ _ (ne hLN hc) (hk c o (ne hzN hc) (ne hON hc) (ne h1N hc) (ne h2N hc) (ne h3N hc) e)) hN (up _ _ (ne hLN (by rw [hN]; exact Nat.le_add_right _ _)) tn) p1 p2 p3
    · show (h'.update L _).objs.size = N0 + (i + 1)
      have e : (h'.update L (Obj.mapSeq (·.push (.ref s.heap.objs.size)))).objs.size = h'.objs.size := by first | exact Heap.size_update .. | simp [Heap.update]
      rw [e, hsz, hN]; rfl
    · exact hR h'' tk' acc' c' hL'' hacc' fun c o c1 c2 c3 c4 c5 c6 e => hk'' c o c1 c2 c3 c4 c5 c6 (up _ _ c1 (hk c o c2 c3 c4 c5 c6 e))
theorem nolen_zip : typeLookup (.type "zip") "__len__" = pure none := by rw [typeLookup_type, builtinLookup_eq_fast]; kernel_rfl
theorem nohint_zip : typeLookup (.type "zip") "__length_hint__" = pure none := by rw [typeLookup_type, builtinLookup_eq_fast]; kernel_rfl
theorem size_upd2 {h : Heap} {L : Addr} {f g : Array Value → Array Value} : ((h.update L (Obj.mapSeq f)).update L (Obj.mapSeq g)).objs.size = h.objs.size := by
  first | (rw [Heap.size_update, Heap.size_update]) | simp [Heap.update]
variable {s : Shared}
theorem lz_extend (hh : A.in1.handled = none) (S : ZipSep3 z TI TO i1 i2 i3 fp1 fp2 fp3) (D1 : Draws prog w A.in1.in1 i1 fp1 n P1 St1) (D2 : Draws prog w A.in1.in1 i2 fp2 n P2 St2) (D3 : Draws prog w A.in1.in1 i3 fp3 n P3 St3) (hn : n ≤ sizeLine) (L : Addr)
    (hLz : L ≠ z) (hLI : L ≠ TI) (hLO : L ≠ TO) (f1 : L ∉ fp1) (f2 : L ∉ fp2) (f3 : L ∉ fp3) (res : Value) (c₀ : Nat)
    (hz : ZipSt s.heap z TI TO .none) (hTI : IsTupOf3 s.heap TI (.ref i1) (.ref i2) (.ref i3)) {a1 a2 a3 : Value} (hTO : IsTupOf3 s.heap TO a1 a2 a3) (st1 : St1 0 s.heap) (st2 : St2 0 s.heap) (st3 : St3 0 s.heap)
    (hL : s.heap.get? L = some { cls := .type "list", data := .seq #[] c₀ })
    (hR : ∀ h' tk acc' c', h'.get? L = some { cls := .type "list", dict := none, data := .seq acc' c', slots := #[] } → LzAcc s.heap.objs.size P1 P2 P3 acc' n h' → (∀ c o, c ≠ L → c ≠ z → c ≠ TO → c ≠ i1 → c ≠ i2 → c ≠ i3 → s.heap.get? c = some o → h'.get? c = some o) → R (.ok (.ret res)) { s with heap := h', toks := tk }) :
    wpAny (model prog w) A.in1 (Builtin.List.listExtendWith (.ref L) (.ref z) res)
      (fun fin s' => match fin with | .done f => R (.ok f) s' | .again c' => c'.quiet = true ∧ codeAny (model prog w) A c' R s') (fun e s' => R (.error e) s') s := by
  have hT : s.TypeIs (.ref z) "zip" := ⟨_, hz, rfl⟩
  unfold Builtin.List.listExtendWith
  refine wpAny_bind (wpAny_typeOf hT ?_)
  have h1 : Builtin.List.listSameRef (.ref L) (.ref z) = false := by simp [Builtin.List.listSameRef, hLz]
  have h2 : (Value.type "zip" == Value.type "list") = false := by decide
  have h3 : (Value.type "zip" == Value.type "tuple") = false := by decide
  simp only [h1, h2, h3, Bool.or_false, Bool.false_eq_true, if_false]
  refine wpAny_bind (zst_self hz ?_)
  refine wpAny_bind (wpAny_holding ?_)
  unfold Builtin.List.listLengthHint
  refine wpAny_bind (wpAny_specialOf hT nolen_zip ?_)
  show wpAny _ A.in1 (specialOf (Value.ref z) (Str.ofString "__length_hint__") >>= _) _ _ _
  refine wpAny_bind (wpAny_specialOf hT nohint_zip ?_)
  refine wpAny_pure ?_
  show wpAny _ A.in1 (rule "list.extend.makes-room" >>= fun _ => Builtin.List.listTouch (.ref L) >>= fun _ =>
    again (.builtin "list.extend.loop" ⟨[.ref L, .ref z, res], []⟩)) _ _ _
  refine wpAny_bind (wpAny_rule ?_)
  refine wpAny_bind ?_
  show wpAny _ A.in1 (updateSeq L (·.push .none) >>= fun _ => updateSeq L (·.pop)) _ _ _
  refine wpAny_bind (wpAny_updateSeq hL rfl ?_)
  have hS₂ := Heap.get?_update_self (Obj.mapSeq (·.push Value.none)) hL rfl
  refine wpAny_updateSeq (hz := by seq_fits) hS₂ rfl ?_
  have hS₃ := Heap.get?_update_self (Obj.mapSeq (·.pop)) hS₂ rfl
  have oth : ∀ b o, b ≠ L → s.heap.get? b = some o → ((s.heap.update L (Obj.mapSeq (·.push Value.none))).update L (Obj.mapSeq (·.pop))).get? b = some o :=
    fun b o hb e => (Heap.get?_update_other _ _ (Ne.symm hb)).trans ((Heap.get?_update_other _ _ (Ne.symm hb)).trans e)
  have sz := size_upd2 (h := s.heap) (L := L) (f := (·.push Value.none)) (g := (·.pop))
  have st : LzSt z TI TO i1 i2 i3 St1 St2 St3 0 ((s.heap.update L (Obj.mapSeq (·.push Value.none))).update L (Obj.mapSeq (·.pop))) :=
    LzSt.over (h := s.heap) S D1 D2 D3 ⟨⟨_, _, hz, .inl ⟨rfl, rfl⟩⟩, hTI, ⟨_, _, _, hTO⟩, st1, st2, st3⟩ oth (fun o _ => ⟨_, hS₃⟩) hLz hLI hLO f1 f2 f3
  refine wpAny_pure ⟨plainId_quiet F.plain_extend_loop _, lz_loop hh S D1 D2 D3 hn L s.heap.objs.size hLz hLI hLO f1 f2 f3 (Heap.lt_size hL) (Heap.lt_size hz) (Heap.lt_size hTO) ?_ ?_ ?_ res n 0 _ _ _ rfl (Nat.zero_le _) st hS₃ ⟨rfl, fun j v h => by simp at h⟩ ?_ fun h' tk acc' c' hL' hacc hk => ?_⟩
  · obtain ⟨o, ho⟩ := D1.live _ _ st1; exact Heap.lt_size ho
  · obtain ⟨o, ho⟩ := D2.live _ _ st2; exact Heap.lt_size ho
  · obtain ⟨o, ho⟩ := D3.live _ _ st3; exact Heap.lt_size ho
  · show ((s.heap.update L _).update L _).objs.size = s.heap.objs.size + 0
    rw [sz]; rfl
  · exact hR h' tk acc' c' hL' hacc fun c o c1 c2 c3 c4 c5 c6 e => hk c o c1 c2 c3 c4 c5 c6 (oth _ _ c1 e)
theorem lz_init (hh : A.in1.handled = none) (S : ZipSep3 z TI TO i1 i2 i3 fp1 fp2 fp3) (D1 : Draws prog w A.in1.in1 i1 fp1 n P1 St1) (D2 : Draws prog w A.in1.in1 i2 fp2 n P2 St2) (D3 : Draws prog w A.in1.in1 i3 fp3 n P3 St3) (hn : n ≤ sizeLine) (L : Addr)
    (hLz : L ≠ z) (hLI : L ≠ TI) (hLO : L ≠ TO) (f1 : L ∉ fp1) (f2 : L ∉ fp2) (f3 : L ∉ fp3)
    (hz : ZipSt s.heap z TI TO .none) (hTI : IsTupOf3 s.heap TI (.ref i1) (.ref i2) (.ref i3)) {a1 a2 a3 : Value} (hTO : IsTupOf3 s.heap TO a1 a2 a3) (st1 : St1 0 s.heap) (st2 : St2 0 s.heap) (st3 : St3 0 s.heap)
    (hL : s.heap.get? L = some { cls := .type "list", data := .seq #[] })
    (hR : ∀ h' tk acc' c', h'.get? L = some { cls := .type "list", dict := none, data := .seq acc' c', slots := #[] } → LzAcc s.heap.objs.size P1 P2 P3 acc' n h' → (∀ c o, c ≠ L → c ≠ z → c ≠ TO → c ≠ i1 → c ≠ i2 → c ≠ i3 → s.heap.get? c = some o → h'.get? c = some o) → R (.ok (.ret .none)) { s with heap := h', toks := tk }) :
    wpAny (model prog w) A.in1 (Builtin.«list.__init__» ⟨[.ref L, .ref z], []⟩)
      (fun fin s' => match fin with | .done f => R (.ok f) s' | .again c' => c'.quiet = true ∧ codeAny (model prog w) A c' R s') (fun e s' => R (.error e) s') s := by
  show wpAny _ A.in1 (do let old ← Builtin.List.listItems (.ref L); Builtin.List.listUpdate (.ref L) (fun _ => #[]); letGo old.toList.reverse; Builtin.List.listExtendWith (.ref L) (.ref z) .none) _ _ s
  refine wpAny_bind ?_
  unfold Builtin.List.listItems
  refine wpAny_bind (wpAny_seqItems hL rfl (wpAny_pure ?_))
  show wpAny _ A.in1 (updateSeq L (fun _ => #[]) >>= fun _ => letGo (#[] : Array Value).toList.reverse >>= fun _ => Builtin.List.listExtendWith (.ref L) (.ref z) .none) _ _ s
  refine wpAny_bind (wpAny_updateSeq hL rfl ?_)
  have hS₂ := Heap.get?_update_self (Obj.mapSeq (fun _ => (#[] : Array Value))) hL rfl
  have oth : ∀ b o, b ≠ L → s.heap.get? b = some o → (s.heap.update L (Obj.mapSeq (fun _ => (#[] : Array Value)))).get? b = some o :=
    fun b o hb e => (Heap.get?_update_other _ _ (Ne.symm hb)).trans e
  have sz : (s.heap.update L (Obj.mapSeq (fun _ => (#[] : Array Value)))).objs.size = s.heap.objs.size := by first | (rw [Heap.size_update]) | simp [Heap.update]
  refine wpAny_bind (wpAny_letGo ?_)
  refine lz_extend hh S D1 D2 D3 hn L hLz hLI hLO f1 f2 f3 .none _ (oth _ _ (Ne.symm hLz) hz) (oth _ _ (Ne.symm hLI) hTI) (oth _ _ (Ne.symm hLO) hTO) (D1.frame _ _ _ st1 fun b hb o e => oth _ _ (fun z => f1 (z ▸ hb)) e) (D2.frame _ _ _ st2 fun b hb o e => oth _ _ (fun z => f2 (z ▸ hb)) e)
    (D3.frame _ _ _ st3 fun b hb o e => oth _ _ (fun z => f3 (z ▸ hb)) e) hS₂ fun h' tk acc' c' hL' hacc hk => ?_
  rw [sz] at hacc
  exact hR h' tk acc' c' hL' hacc fun c o c1 c2 c3 c4 c5 c6 e => hk c o c1 c2 c3 c4 c5 c6 (oth _ _ c1 e)
end
section
variable {prog : Program} {w : World} {A : Around} {E : Value → Shared → Prop} {s : Shared}
variable {z TI TO i1 i2 i3 : Addr} {fp1 fp2 fp3 : List Addr} {n : Nat} {P1 P2 P3 : Nat → Value → Prop} {St1 St2 St3 : Nat → Heap → Prop}
theorem lz_call {Q : Value → Shared → Prop} (hh : A.in1.in1.handled = none) (S : ZipSep3 z TI TO i1 i2 i3 fp1 fp2 fp3) (D1 : Draws prog w A.in1.in1.in1 i1 fp1 n P1 St1) (D2 : Draws prog w A.in1.in1.in1 i2 fp2 n P2 St2) (D3 : Draws prog w A.in1.in1.in1 i3 fp3 n P3 St3) (hn : n ≤ sizeLine)
    (l1 : ∀ b ∈ fp1, b < s.heap.objs.size) (l2 : ∀ b ∈ fp2, b < s.heap.objs.size) (l3 : ∀ b ∈ fp3, b < s.heap.objs.size)
    (hz : ZipSt s.heap z TI TO .none) (hTI : IsTupOf3 s.heap TI (.ref i1) (.ref i2) (.ref i3)) {a1 a2 a3 : Value} (hTO : IsTupOf3 s.heap TO a1 a2 a3) (st1 : St1 0 s.heap) (st2 : St2 0 s.heap) (st3 : St3 0 s.heap)
    (hQ : ∀ h' tk acc' c', h'.get? s.heap.objs.size = some { cls := .type "list", dict := none, data := .seq acc' c', slots := #[] } → LzAcc (s.heap.objs.size + 1) P1 P2 P3 acc' n h' → (∀ c o, c ≠ z → c ≠ TO → c ≠ i1 → c ≠ i2 → c ≠ i3 → s.heap.get? c = some o → h'.get? c = some o) → Q (.ref s.heap.objs.size) { s with heap := h', toks := tk }) :
    wpAny (model prog w) A (call (.type "list") [.ref z]) Q E s := by
  have ne : ∀ {a : Addr}, a < s.heap.objs.size → s.heap.objs.size ≠ a := fun h e => Nat.lt_irrefl _ (e ▸ h)
  have q1 : s.heap.objs.size ∉ fp1 := fun hm => Nat.lt_irrefl _ (l1 _ hm)
  have q2 : s.heap.objs.size ∉ fp2 := fun hm => Nat.lt_irrefl _ (l2 _ hm)
  have q3 : s.heap.objs.size ∉ fp3 := fun hm => Nat.lt_irrefl _ (l3 _ hm)
  refine callType_codes (Q₁ := fun obj s₁ => obj = .ref s.heap.objs.size ∧ s₁ = { s with heap := s.heap.push { cls := .type "list", data := .seq #[] } }) F.called_list (F.typeCall_list_1 _) F.entry_list_init
    (code_list_new _ ⟨rfl, rfl⟩) fun obj s₁ h₁ => ?_
  obtain ⟨rfl, rfl⟩ := h₁
  have hS : (s.heap.push { cls := .type "list", data := .seq #[] }).get? s.heap.objs.size = some { cls := .type "list", data := .seq #[] } := Heap.get?_push_size _ rfl
  have up : ∀ b o, s.heap.get? b = some o → (s.heap.push { cls := .type "list", data := .seq #[] }).get? b = some o := fun b o e => Heap.get?_push_of_some _ e
  refine ⟨⟨_, hS, rfl⟩, F.args_list_init_2 _ _, lz_init hh S D1 D2 D3 hn s.heap.objs.size (ne (Heap.lt_size hz)) (ne (Heap.lt_size hTI)) (ne (Heap.lt_size hTO)) q1 q2 q3 (up _ _ hz) (up _ _ hTI) (up _ _ hTO) (D1.frame _ _ _ st1 fun b _ o e => up b o e) (D2.frame _ _ _ st2 fun b _ o e => up b o e)
    (D3.frame _ _ _ st3 fun b _ o e => up b o e) hS fun h' tk acc' c' hL' hacc hk => ?_⟩
  have sz : (s.heap.push { cls := .type "list", data := .seq #[] }).objs.size = s.heap.objs.size + 1 := Heap.size_push ..
  rw [sz] at hacc
  exact ⟨rfl, hQ h' tk acc' c' hL' hacc fun c o c2 c3 c4 c5 c6 e => hk c o (fun q => Nat.lt_irrefl _ (q ▸ Heap.lt_size e)) c2 c3 c4 c5 c6 (up _ _ e)⟩
end
section
variable {X : Cx} {pins : List (Addr × Obj)} {σ : L2.St}
def updAll (H : Hp) : List (Addr × HO) → Hp
  | [] => H
  | (a, o) :: r => updAll (upd H a o) r
theorem laidAll {h' : Heap} {t' : Nat} : ∀ (news : List (Addr × HO)) {H : Hp} {s : Shared}, Inv X pins σ H s → (∀ b u, s.heap.get? b = some u → h'.get? b = some u) → (∀ p ∈ news, s.heap.get? p.1 = none ∧ H p.1 = none) → (news.map (·.1)).Nodup →
    (∀ p ∈ news, ∀ (H2 : Hp) (G : Heap), G.get? p.1 = h'.get? p.1 → ObjOk X.prog X.w H2 G p.1 p.2) → Inv X pins σ (updAll H news) { s with heap := h', toks := t' }
  | [], H, s, I, k, _, _, _ => I.kept k
  | (a, o) :: r, H, s, I, k, fr, nd, ok => by
    obtain ⟨G, g1, g2⟩ := restrict h' fun b => decide (b ∉ r.map (·.1))
    rw [List.map_cons, List.nodup_cons] at nd
    have k1 : ∀ b u, s.heap.get? b = some u → G.get? b = some u := fun b u e => by
      rw [g1 b (decide_eq_true fun hb => ?_)]
      · exact k b u e
      · obtain ⟨p, hp, rfl⟩ := List.mem_map.mp hb
        have z := (fr p (List.mem_cons_of_mem _ hp)).1
        rw [e] at z
        cases z
    have k2 : ∀ b u, G.get? b = some u → h'.get? b = some u := fun b u e => by
      by_cases hb : b ∉ r.map (·.1)
      · rw [← g1 b (decide_eq_true hb)]; exact e
      · rw [g2 b (decide_eq_false hb)] at e
        cases e
    have fa := fr (a, o) List.mem_cons_self
    have I1 : Inv X pins σ (upd H a o) { s with heap := G, toks := t' } := I.laidN k1 fa.1 fa.2 (ok (a, o) List.mem_cons_self _ G (g1 a (decide_eq_true nd.1)))
    exact laidAll (s := { s with heap := G, toks := t' }) r I1 k2 (fun p hp => by
      have hb : p.1 ∈ r.map (·.1) := List.mem_map_of_mem hp
      refine ⟨g2 _ (decide_eq_false fun z => z hb), ?_⟩
      rw [upd_ne (fun e => nd.1 (by rw [← show p.1 = a from e]; exact hb))]
      exact (fr p (List.mem_cons_of_mem _ hp)).2) nd.2 fun p hp H2 G2 e => ok p (List.mem_cons_of_mem _ hp) H2 G2 e
end
def srcL (S : Store) : D → Option (List D)
  | .str s => some (s.map fun c => .str [c])
  | .tup xs => some xs
  | .ref n => lstAt S n
  | _ => none
def zip3L : List D → List D → List D → List D
  | x :: xs, y :: ys, z :: zs => .tup [x, y, z] :: zip3L xs ys zs
  | _, _, _ => []
def opLz : List D → P D
  | [x, y, z] => fun S => match srcL S x, srcL S y, srcL S z with
    | some xs, some ys, some zs => if xs.length = ys.length ∧ xs.length = zs.length ∧ xs.length ≤ line then some (.ref S.size, S.push (.lst (zip3L xs ys zs))) else none
    | _, _, _ => none
  | _ => P.bad
def eLz (a : MA) : ME := fun C σ => (a C σ).bind fun xs => M.of (opLz xs)
section
variable {G : Gx} {X : Cx} {pins : List (Addr × Obj)} {σ : L2.St} {H : Hp} {s : Shared} {m : List Addr} {S : Store}
theorem repVs_len : ∀ {vs : List V} {xs : List D}, RepVs G m H vs xs → vs.length = xs.length
  | _, _, .nil => rfl
  | _, _, .cons _ r => by rw [List.length_cons, List.length_cons, repVs_len r]
theorem src_all (hK : G.K = X.K) (I : Inv X pins σ H s) (sim : Sim G m S H) {d : D} {v : V} {u : Value} {xs : List D} (rd : RepV G m H v d) (rx : RelV v u) (e : srcL S d = some xs) :
    ∃ (o : Obj) (B0 : Heap → Prop) (vs : List V), Begins u o B0 ∧ B0 s.heap ∧ RepVs G m H vs xs ∧ ∀ (A : Around), A.handled = none → ∀ it : Addr, s.heap.objs.size ≤ it → ∃ fp P St, Draws X.prog X.w A it fp xs.length P St ∧ it ∈ fp ∧ (∀ b ∈ fp, b = it ∨ b < s.heap.objs.size) ∧
      (∀ h' : Heap, (∀ c o, s.heap.get? c = some o → h'.get? c = some o) → h'.get? it = some o → St 0 h') ∧ ∀ (j : Nat) y v, vs[j]? = some y → P j v → RelV y v := by
  unfold srcL at e
  split at e
  · rename_i l
    cases rd.str_
    obtain ⟨tk, rfl⟩ := rx
    cases e
    refine ⟨_, _, _, begins_text _ tk, trivial, reps_signs l, ?_⟩
    intro A hh it hit
    have d := Draws.text (prog := X.prog) (w := X.w) hh it ⟨l.toArray⟩ tk
    rw [show (⟨l.toArray⟩ : Str).cps.size = (l.map fun c => D.str [c]).length by simp] at d
    refine ⟨_, _, _, d, by simp, fun b hb => .inl (List.mem_singleton.mp hb), fun h' _ g => ⟨_, g, rfl, rfl⟩, fun j y v hy hv => ?_⟩
    rw [List.getElem?_map] at hy
    obtain ⟨c, hc, rfl⟩ := Option.map_eq_some_iff.mp hy
    obtain ⟨c', u, h1, rfl⟩ := hv
    have hc' : (⟨l.toArray⟩ : Str).cps[j]? = some c := by simpa using hc
    rw [hc'] at h1
    cases h1
    exact ⟨u, rfl⟩
  · rename_i ys
    obtain ⟨q, vs, rfl, hq, hv⟩ := rd.tup_
    cases rx
    cases e
    obtain ⟨its, rv, pt, hz⟩ := I.tuple (hK ▸ hq)
    have pt' : s.heap.IsTuple q its.toArray := pt
    obtain ⟨o1, ho1, _⟩ := id pt'
    have hql : q < s.heap.objs.size := Heap.lt_size ho1
    refine ⟨_, _, vs, begins_tuple q its.toArray, pt', hv, ?_⟩
    intro A hh it hit
    have d := Draws.tuple (prog := X.prog) (w := X.w) hh it q (Nat.ne_of_lt (Nat.lt_of_lt_of_le hql hit)) its.toArray
    rw [show its.toArray.size = xs.length by rw [← repVs_len hv, rv.length]; simp] at d
    refine ⟨_, _, _, d, ?_, ?_, fun h' k g => ⟨⟨_, g, rfl, rfl⟩, pt'.at fun o e => k _ o e⟩, fun j y v hy hv' => ?_⟩
    · simp
    · intro b hb
      rcases List.mem_cons.mp hb with z | z
      · exact .inl z
      · rw [List.mem_singleton.mp z]; exact .inr hql
    · obtain ⟨u, h1, h2⟩ := rv.get hy
      have hv2 : its[j]? = some v := by simpa using hv'
      rw [h1] at hv2
      cases hv2
      exact h2
  · rename_i n
    obtain ⟨q, rfl, hq⟩ := rd.ref_
    cases rx
    obtain ⟨q', vs, e1, sq, rw_⟩ := sim.seqL e
    rw [hq] at e1
    cases e1
    obtain ⟨its, rv, pl, hz⟩ := I.list (hK ▸ sq)
    have hql : q < s.heap.objs.size := pl.lt
    refine ⟨_, _, vs, begins_list q its.toArray, pl.isList, rw_, ?_⟩
    intro A hh it hit
    have d := Draws.list (prog := X.prog) (w := X.w) hh it q (Nat.ne_of_lt (Nat.lt_of_lt_of_le hql hit)) its.toArray
    rw [show its.toArray.size = xs.length by rw [← repVs_len rw_, rv.length]; simp] at d
    refine ⟨_, _, _, d, ?_, ?_, fun h' k g => ⟨⟨_, g, rfl, rfl⟩, pl.isList.at fun o e => k _ o e⟩, fun j y v hy hv' => ?_⟩
    · simp
    · intro b hb
      rcases List.mem_cons.mp hb with z | z
      · exact .inl z
      · rw [List.mem_singleton.mp z]; exact .inr hql
    · obtain ⟨u, h1, h2⟩ := rv.get hy
      have hv2 : its[j]? = some v := by simpa using hv'
      rw [h1] at hv2
      cases hv2
      exact h2
  · cases e
end
def nw3 (a : Addr) : List V → List V → List V → List (Addr × HO)
  | x :: xs, y :: ys, z :: zs => (a, .tup [x, y, z]) :: nw3 (a + 1) xs ys zs
  | _, _, _ => []
def rf3 (a : Addr) : List V → List V → List V → List V
  | _ :: xs, _ :: ys, _ :: zs => .ref a :: rf3 (a + 1) xs ys zs
  | _, _, _ => []
theorem updAll_append {H : Hp} : ∀ {l : List (Addr × HO)} {a : Addr} {o : HO}, updAll H (l ++ [(a, o)]) = upd (updAll H l) a o := by
  intro l
  induction l generalizing H with
  | nil => intros; rfl
  | cons p r ih => intro a o; obtain ⟨b, q⟩ := p; exact ih
theorem updAll_none {H : Hp} {b : Addr} : ∀ {l : List (Addr × HO)}, H b = none → (∀ p ∈ l, p.1 ≠ b) → updAll H l b = none := by
  intro l
  induction l generalizing H with
  | nil => intro h _; exact h
  | cons p r ih =>
    intro h hn
    obtain ⟨a, o⟩ := p
    refine ih ?_ fun q hq => hn q (List.mem_cons_of_mem _ hq)
    rw [upd_ne (Ne.symm (hn (a, o) List.mem_cons_self))]
    exact h
theorem nw3_ge : ∀ {xs ys zs : List V} {a : Addr}, ∀ p ∈ nw3 a xs ys zs, a ≤ p.1
  | [], _, _, _, _, h => by cases h
  | _ :: _, [], _, _, _, h => by cases h
  | _ :: _, _ :: _, [], _, _, h => by cases h
  | x :: xs, y :: ys, z :: zs, a, p, h => by
    rcases List.mem_cons.mp h with e | e
    · rw [e]; exact Nat.le_refl _
    · exact Nat.le_trans (Nat.le_succ a) (nw3_ge (a := a + 1) p e)
theorem nw3_nd : ∀ {xs ys zs : List V} {a : Addr}, ((nw3 a xs ys zs).map (·.1)).Nodup
  | [], _, _, _ => List.nodup_nil
  | _ :: _, [], _, _ => List.nodup_nil
  | _ :: _, _ :: _, [], _ => List.nodup_nil
  | x :: xs, y :: ys, z :: zs, a => by
    show (a :: (nw3 (a + 1) xs ys zs).map (·.1)).Nodup
    rw [List.nodup_cons]
    refine ⟨fun h => ?_, nw3_nd⟩
    obtain ⟨p, hp, e⟩ := List.mem_map.mp h
    have := nw3_ge p hp
    rw [e] at this
    exact Nat.lt_irrefl _ (Nat.lt_of_lt_of_le (Nat.lt_succ_self _) this)
theorem nw3_at : ∀ {xs ys zs : List V} {a : Addr}, ∀ p ∈ nw3 a xs ys zs, ∃ (j : Nat) (x y z : V), p = (a + j, .tup [x, y, z]) ∧ xs[j]? = some x ∧ ys[j]? = some y ∧ zs[j]? = some z
  | [], _, _, _, _, h => by cases h
  | _ :: _, [], _, _, _, h => by cases h
  | _ :: _, _ :: _, [], _, _, h => by cases h
  | x :: xs, y :: ys, z :: zs, a, p, h => by
    rcases List.mem_cons.mp h with e | e
    · exact ⟨0, x, y, z, e, rfl, rfl, rfl⟩
    · obtain ⟨j, x', y', z', e1, e2, e3, e4⟩ := nw3_at (a := a + 1) p e
      refine ⟨j + 1, x', y', z', ?_, by simpa using e2, by simpa using e3, by simpa using e4⟩
      rw [e1, Nat.add_assoc a 1 j, Nat.add_comm 1 j]
theorem rf3_vals : ∀ {xs ys zs : List V} {a : Addr} {its : List Value}, its.length = xs.length → ys.length = xs.length → zs.length = xs.length → (∀ (j : Nat) v, its[j]? = some v → v = .ref (a + j)) → Vals (rf3 a xs ys zs) its
  | [], _, _, _, [], _, _, _, _ => .nil
  | [], _, _, _, _ :: _, h, _, _, _ => by simp at h
  | _ :: _, _, _, _, [], h, _, _, _ => by simp at h
  | _ :: _, [], _, _, _ :: _, _, h, _, _ => by simp at h
  | _ :: _, _ :: _, [], _, _ :: _, _, _, h, _ => by simp at h
  | x :: xs, y :: ys, z :: zs, a, v :: its, h1, h2, h3, h => by
    have e := h 0 v rfl
    refine .cons (show RelV (.ref a) v from e) (rf3_vals (a := a + 1) (by simpa using h1) (by simpa using h2) (by simpa using h3) fun j u hu => ?_)
    rw [h (j + 1) u (by simpa using hu), Nat.add_assoc a 1 j, Nat.add_comm 1 j]
theorem rf3_len : ∀ {xs ys zs : List V} {a : Addr}, ys.length = xs.length → zs.length = xs.length → (rf3 a xs ys zs).length = xs.length
  | [], _, _, _, _, _ => rfl
  | _ :: _, [], _, _, h, _ => by simp at h
  | _ :: _, _ :: _, [], _, _, h => by simp at h
  | x :: xs, y :: ys, z :: zs, a, h2, h3 => by
    show (rf3 (a + 1) xs ys zs).length + 1 = xs.length + 1
    rw [rf3_len (by simpa using h2) (by simpa using h3)]
section
variable {G : Gx} {m : List Addr} {S : Store}
theorem sim_ext_all : ∀ {l : List (Addr × HO)} {H : Hp}, Sim G m S H → (∀ p ∈ l, H p.1 = none) → (l.map (·.1)).Nodup → Sim G m S (updAll H l) ∧ Ext G m H m (updAll H l)
  | [], H, s, _, _ => ⟨s, Ext.refl⟩
  | (a, o) :: r, H, s, fr, nd => by
    rw [List.map_cons, List.nodup_cons] at nd
    have ha : H a = none := fr (a, o) List.mem_cons_self
    obtain ⟨s1, e1⟩ := sim_ext_all (l := r) (H := upd H a o) (sim_same s ha) (fun p hp => by
      rw [upd_ne (fun e => nd.1 (List.mem_map.mpr ⟨p, hp, e⟩))]
      exact fr p (List.mem_cons_of_mem _ hp)) nd.2
    exact ⟨s1, (Ext.new ha).trans e1⟩
theorem rf3_reps : ∀ {xs ys zs : List V} {ds es fs : List D} {a : Addr} {H H' : Hp}, RepVs G m H xs ds → RepVs G m H ys es → RepVs G m H zs fs → Ext G m H m H' → (∀ p ∈ nw3 a xs ys zs, H' p.1 = some p.2) → RepVs G m H' (rf3 a xs ys zs) (zip3L ds es fs)
  | _, _, _, _, _, _, _, _, _, .nil, _, _, _, _ => .nil
  | _, _, _, _, _, _, _, _, _, .cons _ _, .nil, _, _, _ => .nil
  | _, _, _, _, _, _, _, _, _, .cons _ _, .cons _ _, .nil, _, _ => .nil
  | _, _, _, _, _, _, a, H, H', .cons r1 s1, .cons r2 s2, .cons r3 s3, e, h =>
    .cons (.tup (SqT.of (h _ List.mem_cons_self)) (.cons (r1.mono e) (.cons (r2.mono e) (.cons (r3.mono e) .nil)))) (rf3_reps (a := a + 1) s1 s2 s3 e fun p hp => h p (List.mem_cons_of_mem _ hp))
theorem updAll_mem : ∀ {l : List (Addr × HO)} {H : Hp}, (l.map (·.1)).Nodup → ∀ p ∈ l, updAll H l p.1 = some p.2
  | [], _, _, _, h => by cases h
  | (a, o) :: r, H, nd, p, h => by
    rw [List.map_cons, List.nodup_cons] at nd
    rcases List.mem_cons.mp h with e | e
    · subst e
      have : ∀ {l : List (Addr × HO)} {H : Hp}, (∀ p ∈ l, p.1 ≠ a) → updAll H l a = H a := by
        intro l
        induction l with
        | nil => intros; rfl
        | cons q l ih =>
          intro H hq
          obtain ⟨b, u⟩ := q
          show updAll (upd H b u) l a = H a
          rw [ih fun p hp => hq p (List.mem_cons_of_mem _ hp), upd_ne (Ne.symm (hq (b, u) List.mem_cons_self))]
      show updAll (upd H a o) r a = some o
      rw [this fun p hp e => nd.1 (List.mem_map.mpr ⟨p, hp, e⟩), upd_same]
    · exact updAll_mem nd.2 p e
end
section
variable {G : Gx} {X : Cx} {W : WX} {C : Cfg}
theorem r_lz {e e2 e3 : Expr} {a : MA} {p p0 pos pos1 cpos kpos : Pos} {ck : Nat} (c : Ctx G X W) (hg0 : Gl X "list") (hm0 : X.mg "list" = none) (hg : Gl X "zip") (hm : X.mg "zip" = none) (ha : PA X [e, e2, e3] (tA G W C a))
    (hs : starEach [e, e2, e3] X.env = (false, eval e X.env) :: starEach [e2, e3] X.env := by rfl) (h2 : starEach [e2, e3] X.env = (false, eval e2 X.env) :: starEach [e3] X.env := by rfl) (h3 : starEach [e3] X.env = (false, eval e3 X.env) :: starEach [] X.env := by rfl)
    (hs0 : starEach [.Call (.Name "zip" p) [e, e2, e3] [⟨some "strict", .Constant (.bool true) ck cpos, kpos⟩] pos1] X.env = [(false, eval (.Call (.Name "zip" p) [e, e2, e3] [⟨some "strict", .Constant (.bool true) ck cpos, kpos⟩] pos1) X.env)] := by rfl) :
    PE X (.Call (.Name "list" p0) [.Call (.Name "zip" p) [e, e2, e3] [⟨some "strict", .Constant (.bool true) ck cpos, kpos⟩] pos1] [] pos) (tE G W C (eLz a)) := by
  refine ⟨fun pins s σ H Q I h => ?_⟩
  refine wpAny_Call_Name_kw (ld_blt I hg0 hm0 bo_list ?_)
  refine PyProof.Rows.callWith_type1 ?_ hs0 rfl
  rw [hs0]
  refine Calls.spliced_cons ?_
  rw [if_neg (by decide)]
  refine wpAny_Call_Name_kw (ld_blt I hg hm PyProof.Rows.boot_zip ?_)
  refine cw_tkw (thn (ha.run pos1 pins s σ H _ I (wA (f := opLz) h)) fun us s1 ⟨vs, H1, I1, r1, q1⟩ => ?_) (by rw [hs]; rfl) (by rw [hs, h2, h3]; rfl) rfl rfl
  obtain ⟨m, S, ds, sim, rds, q⟩ := q1
  unfold opLz at q
  split at q
  · rename_i d1 d2 d3
    obtain ⟨x, y, z, rfl, rd, rd2, rd3⟩ : ∃ x y z, vs = [x, y, z] ∧ RepV G m H1 x d1 ∧ RepV G m H1 y d2 ∧ RepV G m H1 z d3 := by
      cases rds with
      | cons ra rs => cases rs with
        | cons rb rs => cases rs with
          | cons rc rs => cases rs; exact ⟨_, _, _, rfl, ra, rb, rc⟩
    obtain ⟨u1, u2, u3, rfl, rx, rx2, rx3⟩ := valsT r1
    show wpAny _ _ (evalAll ((do let v ← eval (.Constant (.bool true) ck cpos) X.env; standAt pos1; pure v) :: [])) _ _ s1
    refine wpAny_evalAll_cons (wpAny_bind (wpAny_Constant_bool (wpAny_bind (wpAny_standAt (wpAny_pure (wpAny_evalAll_nil ?_))))))
    show wpAny _ _ (call (.type "zip") [u1, u2, u3] [(Str.ofString "strict", .bool true)]) _ _ s1
    split at q
    · rename_i xs ys zs e1 e2 e3
      split at q
      · rename_i hlen
        obtain ⟨hl1, hl2, hl3⟩ := hlen
        obtain ⟨o1, B1, vs1, B, b1, rv1, k1⟩ := src_all c.hK I1 sim rd rx e1
        obtain ⟨o2, B2, vs2, B', b2, rv2, k2⟩ := src_all c.hK I1 sim rd2 rx2 e2
        obtain ⟨o3, B3, vs3, B'', b3, rv3, k3⟩ := src_all c.hK I1 sim rd3 rx3 e3
        refine zt_begins B B' B'' b1 b2 b3 fun h' hz hTI hTO ho1 ho2 ho3 hsz hk => ?_
        have hh : X.A.in1.in1.in1.handled = none := I1.ok.hd c.calm
        obtain ⟨fp1, P1, St1, D1, m1, low1, st1, val1⟩ := k1 X.A.in1.in1.in1 hh s1.heap.objs.size (Nat.le_refl _)
        obtain ⟨fp2, P2, St2, D2, m2, low2, st2, val2⟩ := k2 X.A.in1.in1.in1 hh (s1.heap.objs.size + 1) (Nat.le_succ _)
        obtain ⟨fp3, P3, St3, D3, m3, low3, st3, val3⟩ := k3 X.A.in1.in1.in1 hh (s1.heap.objs.size + 2) (Nat.le_add_right _ 2)
        rw [← hl1] at D2
        rw [← hl2] at D3
        have S3 := sepN m1 m2 m3 low1 low2 low3
        have lw : ∀ {fp : List Addr} {it : Addr}, it < s1.heap.objs.size + 6 → (∀ b ∈ fp, b = it ∨ b < s1.heap.objs.size) → ∀ b ∈ fp, b < h'.objs.size := fun hi lo b hb => by
          rw [hsz]
          rcases lo b hb with e | e
          · rw [e]; exact hi
          · exact Nat.lt_of_lt_of_le e (Nat.le_add_right _ _)
        show wpAny _ _ (spliced []) _ _ { s1 with heap := h' }
        refine Calls.spliced_nil ?_
        have hn : xs.length ≤ sizeLine := by rw [sizeLine_eq]; exact hl3
        refine lz_call (s := { s1 with heap := h' }) (show X.A.in1.in1.handled = none from hh) S3 D1 D2 D3 hn (lw (Nat.lt_add_of_pos_right (by omega)) low1) (lw (Nat.add_lt_add_left (by omega) _) low2) (lw (Nat.add_lt_add_left (by omega) _) low3) hz hTI hTO
          (st1 h' hk ho1) (st2 h' hk ho2) (st3 h' hk ho3) fun h2 tk acc cc hL hacc hk2 => ?_
        have kp : ∀ b u, s1.heap.get? b = some u → h2.get? b = some u := fun b u e => by
          have hb : b < s1.heap.objs.size := Heap.lt_size e
          have ne : ∀ k : Nat, b ≠ s1.heap.objs.size + k := fun k z => Nat.lt_irrefl _ (Nat.lt_of_lt_of_le (z ▸ hb) (Nat.le_add_right _ _))
          exact hk2 b u (ne 5) (ne 4) (ne 0) (ne 1) (ne 2) (hk b u e)
        have n1 : vs1.length = xs.length := repVs_len rv1
        have n2 : vs2.length = vs1.length := by rw [n1, repVs_len rv2, hl1]
        have n3 : vs3.length = vs1.length := by rw [n1, repVs_len rv3, hl2]
        have hge : ∀ b, h'.objs.size ≤ b → s1.heap.get? b = none ∧ H1 b = none := fun b hb => by
          have hb' : s1.heap.objs.size ≤ b := Nat.le_trans (by rw [hsz]; exact Nat.le_add_right _ _) hb
          refine ⟨?_, I1.hok.fresh hb'⟩
          cases e : s1.heap.get? b with
          | none => rfl
          | some o => exact absurd (Nat.lt_of_lt_of_le (Heap.lt_size e) hb') (Nat.lt_irrefl _)
        have nlt : ∀ p ∈ nw3 (h'.objs.size + 1) vs1 vs2 vs3, p.1 ≠ h'.objs.size := fun p hp e => by
          have := nw3_ge p hp
          rw [e] at this
          exact Nat.lt_irrefl _ this
        have frT : ∀ p ∈ nw3 (h'.objs.size + 1) vs1 vs2 vs3, s1.heap.get? p.1 = none ∧ H1 p.1 = none := fun p hp => hge _ (Nat.le_trans (Nat.le_succ _) (nw3_ge p hp))
        have I2 := laidAll (X := X) (h' := h2) (t' := tk) (nw3 (h'.objs.size + 1) vs1 vs2 vs3 ++ [(h'.objs.size, .lst (rf3 (h'.objs.size + 1) vs1 vs2 vs3))]) I1 kp
          (fun p hp => by
            rcases List.mem_append.mp hp with e | e
            · exact frT p e
            · rw [List.mem_singleton.mp e]; exact hge _ (Nat.le_refl _))
          (by
            rw [List.map_append, List.nodup_append]
            refine ⟨nw3_nd, by simp, fun a ha b hb e => ?_⟩
            obtain ⟨p, hp, rfl⟩ := List.mem_map.mp ha
            have hb' : b = h'.objs.size := by simpa using hb
            exact nlt p hp (e.trans hb'))
          (fun p hp H2 G2 e => by
            rcases List.mem_append.mp hp with e' | e'
            · obtain ⟨j, x', y', z', rfl, g1, g2, g3⟩ := nw3_at p e'
              have hj : j < acc.size := by rw [hacc.1, ← n1]; exact (List.getElem?_eq_some_iff.mp g1).1
              obtain ⟨_, a1, a2, a3, t, p1, p2, p3⟩ := hacc.2 j acc[j] (Array.getElem?_eq_getElem hj)
              exact ⟨by show 3 ≤ sizeLine; decide, [a1, a2, a3], .cons (val1 j _ _ g1 p1) (.cons (val2 j _ _ g2 p2) (.cons (val3 j _ _ g3 p3) .nil)), ⟨_, e.trans t, rfl, _, rfl⟩⟩
            · rw [List.mem_singleton.mp e'] at e ⊢
              refine ⟨by rw [rf3_len n2 n3, n1]; exact hn, acc.toList, cc, rf3_vals (by simp [hacc.1, n1]) n2 n3 fun j v hv => (hacc.2 j v (by simpa using hv)).1, ?_⟩
              rw [Array.toArray_toList]
              exact e.trans hL)
        rw [updAll_append] at I2
        obtain ⟨sim', ext'⟩ := sim_ext_all (l := nw3 (h'.objs.size + 1) vs1 vs2 vs3) sim (fun p hp => (frT p hp).2) nw3_nd
        refine ⟨.ref h'.objs.size, _, I2, rfl, ?_⟩
        exact new_lst sim' (rf3_reps rv1 rv2 rv3 ext' fun p hp => updAll_mem nw3_nd p hp) (postP.ext ext' q) _ (updAll_none (hge _ (Nat.le_refl _)).2 nlt)
      · exact q.elim
    · exact q.elim
  · exact q.elim
end
end MP
namespace MP
open PySem PySem.Spec PyProof.Rows L2
def sItNm (o1 i1 : ME) (j : Nat) (a b : ME) : MS := fun C σ S => lift (a C σ) σ S fun x S1 => lift (b C σ) σ S1 fun y S2 => lift (o1 C σ) σ S2 fun u S3 => lift (i1 C σ) σ S3 fun k S4 => lift (M.of (putItem u k x)) σ S4 fun _ S5 =>
  if j < σ.length then .nx (σ.set j (some y)) S5 else .bad
section
variable {G : Gx} {X : Cx} {W : WX} {C : Cfg}
theorem s_itnm {x : Str} {o1 i1 a b : Expr} {eo1 ei1 ea eb : ME} {k1 k2 : Nat} {q1 q2 pt pv pos : Pos} (j : Nat) (c : Ctx G X W) (hj : X.N[j]? = some x) (hxl : Loc X.env.scope x) (hf : X.fn x = true ∨ X.env.scope.names.lookup x = some .local) (h1 : PE X o1 (tE G W C eo1)) (h2 : PE X i1 (tE G W C ei1)) (ha : PE X a (tE G W C ea)) (hb : PE X b (tE G W C eb))
    (s1 : starEach [a, b] X.env = (false, eval a X.env) :: starEach [b] X.env := by rfl) (s2 : starEach [b] X.env = (false, eval b X.env) :: starEach [] X.env := by rfl)
    (a1 : ∀ v, assign (.Subscript o1 i1 q1) X.env v = (do
      let ov ← holding [v] (eval o1 X.env)
      let iv ← holding [v, ov] (eval i1 X.env)
      standAt q1
      holding [v, ov, iv] (setItem ov iv v)
      release [v, ov, iv] []) := by intro _; rfl)
    (g1 : (assignEach [.Subscript o1 i1 q1, .Name x q2] X.env).map (·.2) = assign (.Subscript o1 i1 q1) X.env :: (assignEach [.Name x q2] X.env).map (·.2) := by rfl)
    (g2 : (assignEach [.Name x q2] X.env).map (·.2) = assign (.Name x q2) X.env :: (assignEach [] X.env).map (·.2) := by rfl)
    (n1 : (assignEach [.Subscript o1 i1 q1, .Name x q2] X.env).length = 2 := by rfl) (n2 : (assignEach [.Subscript o1 i1 q1, .Name x q2] X.env).findIdx? (·.1) = none := by rfl)
    (hs : swapsWithSole [.Tuple [.Subscript o1 i1 q1, .Name x q2] k1 pt] (.Tuple [a, b] k2 pv) pos.line X.env = pure false := by rfl) (hw : swappedStores [.Tuple [.Subscript o1 i1 q1, .Name x q2] k1 pt] (.Tuple [a, b] k2 pv) X.env = pure none := by rfl)
    (hx : (assignEach [.Tuple [.Subscript o1 i1 q1, .Name x q2] k1 pt] X.env).map (·.2) = [assign (.Tuple [.Subscript o1 i1 q1, .Name x q2] k1 pt) X.env] := by rfl) :
    PS X (.Assign [.Tuple [.Subscript o1 i1 q1, .Name x q2] k1 pt] (.Tuple [a, b] k2 pv) pos) (tS G W C (sItNm eo1 ei1 j ea eb)) :=
  PS.weak (ps_asg (pe_tup (pa_cons ha (pa_cons hb pa_nil s2) s1)) (pg_tup (n := 2) c.calm (pgs_cons (pg_sub h1 h2 set_lk a1) (pgs_cons (pg_name c.hN hj hxl hf) pgs_nil g2) g1) n1 n2) hs hw hx) fun E σ H ⟨m, S, ls, s, r, p⟩ => by
    refine ⟨m, S, ls, s, r, post.imp (lift_post (Ra := RepV G) r p) fun x H1 ⟨m1, S1, dx, x1, s1, r1, rx, p1⟩ => ?_⟩
    refine ⟨m1, S1, ls, s1, r1, post.imp (lift_post (Ra := RepV G) r1 p1) fun y H2 ⟨m2, S2, dy, x2, s2, r2, ry, p2⟩ => ?_⟩
    refine ⟨by show 2 ≤ sizeLine; rw [sizeLine_eq]; decide, fun t ht => ?_⟩
    have ex : Ext G m2 H2 m2 (upd H2 t (.tup [x, y])) := Ext.new ht
    have s3 := sim_same (u := .tup [x, y]) s2 ht
    refine ⟨t, [x, y], rfl, SqT.of upd_same, rfl, x, [y], rfl, ?_⟩
    refine ⟨m2, S2, ls, s3, r2.mono ex, post.imp (lift_post (Ra := RepV G) (r2.mono ex) (p2.ext ex)) fun u H3 ⟨m3, S3, du, x3, s4, r3, ru, p3⟩ => ?_⟩
    refine ⟨m3, S3, ls, s4, r3, post.imp (lift_post (Ra := RepV G) r3 p3) fun k H4 ⟨m4, S4, dk, x4, s5, r4, rk, p4⟩ => ?_⟩
    have ext2 := (ex.trans x3).trans x4
    refine lift_put s5 r4 (ru.mono x4) rk ((rx.mono x2).mono ext2) p4 fun H5 S5 x5 s6 r5 p5 => ?_
    refine ⟨y, [], rfl, ?_⟩
    split at p5
    · exact ⟨rfl, p5 m4 H5 _ Ext.refl s6 (r5.set (ry.mono (ext2.trans x5)))⟩
    · exact p5.elim
end
end MP
namespace MP
open PySem PySem.Spec PyProof.Rows L2
section
variable {G : Gx} {X : Cx} {W : WX} {C : Cfg}
end
end MP
namespace MP
open PySem PySem.Spec PyProof.Rows L2
section
variable {G : Gx} {X : Cx} {W : WX} {C : Cfg}
end
end MP
namespace MPX
open PySem PySem.Spec PyProof.Rows L2 PySem.Froz
def TxR (P : Program) (w : World) (h : Heap) (a : Addr) (l : List Str) : Prop :=
  ∃ D : SD, h.get? a = some (sObj "set" D) ∧ TxOk P w D l ∧ l.Nodup ∧ Ris D.2.2.place.toList ∧ (w.params.followText "set-order" = true ∨ D.2.2.led = true)
section
variable {P : Program} {w : World} {A : Around} {E : Value → Shared → Prop} {s : Shared} {a : Addr}
theorem TxR.over {h h' : Heap} {l : List Str} (R : TxR P w h a l) (k : ∀ o, h.get? a = some o → h'.get? a = some o) : TxR P w h' a l := by
  obtain ⟨D, g, q⟩ := R
  exact ⟨D, k _ g, q⟩
def signs (x : Str) : List Str := x.cps.toList.map fun c => ⟨#[c]⟩
end
end MPX
namespace MPX
open PySem PySem.Spec PyProof.Rows L2 PySem.Froz
section
variable {P : Program} {w : World} {A : Around} {E : Value → Shared → Prop} {s : Shared} {a : Addr}
end
end MPX
namespace MPX
open PySem PySem.Spec PyProof.Rows L2
section
variable {P : Program} {w : World} {A : Around} {E : Value → Shared → Prop} {s : Shared} {a : Addr}
end
end MPX
namespace MP
open PySem PySem.Spec PyProof.Rows L2
section
variable {α β : Type} [DecidableEq α] {lt : α → α → Bool}
end
end MP
namespace MP
open PySem PySem.Spec PyProof.Rows L2
section
variable {X : Cx}
end
end MP
namespace MP
open PySem PySem.Spec PyProof.Rows L2
section
variable {G : Gx} {X : Cx} {W : WX} {C : Cfg}
end
end MP
namespace K65
open PySem PySem.Spec PyProof.Rows L2 MP
def top (i : Nat) : Stmt := PySem.Challenge.pw_gaprules_k65_kinds_followed.main.body.getD i (.Pass ⟨0, 0, 0, 0⟩)
def cm (i j : Nat) : Stmt := match top i with
  | .ClassDef _ _ _ body _ _ _ _ _ _ _ => body.getD j (.Pass ⟨0, 0, 0, 0⟩)
  | s => s
abbrev s_is_integer : Stmt := top 10
abbrev s_is_log : Stmt := top 11
abbrev s_Machine_DinitD : Stmt := cm 16 0
abbrev s_Machine_require_state : Stmt := cm 16 1
abbrev s_Machine_add_edge : Stmt := cm 16 2
abbrev s_Machine_remove_edge : Stmt := cm 16 3
abbrev s_Machine_add_start : Stmt := cm 16 4
abbrev s_Machine_add_end : Stmt := cm 16 5
abbrev s_Machine_remove_start : Stmt := cm 16 6
abbrev s_Machine_remove_end : Stmt := cm 16 7
abbrev s_Machine_edges : Stmt := cm 16 8
abbrev s_Machine_starts : Stmt := cm 16 9
abbrev s_Machine_twin : Stmt := cm 16 11
abbrev s_Machine_step : Stmt := cm 16 12
abbrev s_Machine_has_end : Stmt := cm 16 14
abbrev s_require_pair : Stmt := top 17
abbrev s_require_sign : Stmt := top 19
abbrev s_KindFollower_DinitD : Stmt := cm 20 0
abbrev s_KindFollower_read : Stmt := cm 20 1
abbrev s_KindFollower_is_now : Stmt := cm 20 2
abbrev s_KindFollower_rows : Stmt := cm 20 3
abbrev s_KindFollower_can_become : Stmt := cm 20 4
abbrev s_KindFollower_is_settled : Stmt := cm 20 5
abbrev s_reaches_end : Stmt := top 21
abbrev s__law_pen : Stmt := top 23
abbrev s__law_fresh : Stmt := top 24
abbrev s__law_draw : Stmt := top 25
abbrev s__law_plan : Stmt := top 26
abbrev s__law_machine_of : Stmt := top 27
abbrev s__law_stepped : Stmt := top 28
abbrev s__law_states : Stmt := top 29
abbrev s__law_has : Stmt := top 30
abbrev s__law_can : Stmt := top 31
abbrev s__law_moved : Stmt := top 32
abbrev s_law : Stmt := top 33
abbrev s_NotALog_Dinit : Stmt := cm 2 0
abbrev s_Unpaired_Dinit : Stmt := cm 3 0
abbrev s_UnknownState_Dinit : Stmt := cm 4 0
abbrev s_UnknownEdge_Dinit : Stmt := cm 5 0
abbrev s_EdgeExists_Dinit : Stmt := cm 6 0
abbrev s_LimitExceeded_Dinit : Stmt := cm 7 0
def N_is_integer : List Str := [PySem.Str.ofString "value", PySem.Str.ofString "low", PySem.Str.ofString "high"]
def N_is_log : List Str := [PySem.Str.ofString "value", PySem.Str.ofString "signs", PySem.Str.ofString "sign"]
def N_Machine_DinitD : List Str := [PySem.Str.ofString "self", PySem.Str.ofString "signs", PySem.Str.ofString "states"]
def N_Machine_require_state : List Str := [PySem.Str.ofString "self", PySem.Str.ofString "state"]
def N_Machine_add_edge : List Str := [PySem.Str.ofString "self", PySem.Str.ofString "origin", PySem.Str.ofString "sign", PySem.Str.ofString "target", PySem.Str.ofString "edge"]
def N_Machine_remove_edge : List Str := [PySem.Str.ofString "self", PySem.Str.ofString "origin", PySem.Str.ofString "sign", PySem.Str.ofString "target", PySem.Str.ofString "edge"]
def N_Machine_add_start : List Str := [PySem.Str.ofString "self", PySem.Str.ofString "state"]
def N_Machine_add_end : List Str := [PySem.Str.ofString "self", PySem.Str.ofString "state"]
def N_Machine_remove_start : List Str := [PySem.Str.ofString "self", PySem.Str.ofString "state"]
def N_Machine_remove_end : List Str := [PySem.Str.ofString "self", PySem.Str.ofString "state"]
def N_Machine_edges : List Str := [PySem.Str.ofString "self"]
def N_Machine_starts : List Str := [PySem.Str.ofString "self"]
def N_Machine_twin : List Str := [PySem.Str.ofString "self", PySem.Str.ofString "found"]
def N_Machine_step : List Str := [PySem.Str.ofString "self", PySem.Str.ofString "states", PySem.Str.ofString "sign", PySem.Str.ofString "found", PySem.Str.ofString "origin", PySem.Str.ofString "letter", PySem.Str.ofString "target"]
def N_Machine_has_end : List Str := [PySem.Str.ofString "self", PySem.Str.ofString "states", PySem.Str.ofString "state"]
def N_require_pair : List Str := [PySem.Str.ofString "pair"]
def N_require_sign : List Str := [PySem.Str.ofString "sign", PySem.Str.ofString "signs"]
def N_KindFollower_DinitD : List Str := [PySem.Str.ofString "self", PySem.Str.ofString "pair", PySem.Str.ofString "machine"]
def N_KindFollower_read : List Str := [PySem.Str.ofString "self", PySem.Str.ofString "sign", PySem.Str.ofString "kind", PySem.Str.ofString "machine", PySem.Str.ofString "states"]
def N_KindFollower_is_now : List Str := [PySem.Str.ofString "self", PySem.Str.ofString "kind", PySem.Str.ofString "machine", PySem.Str.ofString "states"]
def N_KindFollower_rows : List Str := [PySem.Str.ofString "self"]
def N_KindFollower_can_become : List Str := [PySem.Str.ofString "self", PySem.Str.ofString "kind", PySem.Str.ofString "machine", PySem.Str.ofString "states"]
def N_KindFollower_is_settled : List Str := [PySem.Str.ofString "self"]
def N_reaches_end : List Str := [PySem.Str.ofString "machine", PySem.Str.ofString "states", PySem.Str.ofString "reached", PySem.Str.ofString "waiting", PySem.Str.ofString "state", PySem.Str.ofString "origin", PySem.Str.ofString "sign", PySem.Str.ofString "target"]
def N__law_pen : List Str := [PySem.Str.ofString "script"]
def N__law_fresh : List Str := [PySem.Str.ofString "pen", PySem.Str.ofString "at", PySem.Str.ofString "cell", PySem.Str.ofString "p", PySem.Str.ofString "state", PySem.Str.ofString "found", PySem.Str.ofString "turn"]
def N__law_draw : List Str := [PySem.Str.ofString "pen", PySem.Str.ofString "many", PySem.Str.ofString "digit"]
def N__law_plan : List Str := [PySem.Str.ofString "pen", PySem.Str.ofString "signs", PySem.Str.ofString "states", PySem.Str.ofString "edges", PySem.Str.ofString "many", PySem.Str.ofString "starts", PySem.Str.ofString "ends", PySem.Str.ofString "found", PySem.Str.ofString "step", PySem.Str.ofString "edge", PySem.Str.ofString "state"]
def N__law_machine_of : List Str := [PySem.Str.ofString "signs", PySem.Str.ofString "plan", PySem.Str.ofString "found", PySem.Str.ofString "state", PySem.Str.ofString "origin", PySem.Str.ofString "sign", PySem.Str.ofString "target"]
def N__law_stepped : List Str := [PySem.Str.ofString "plan", PySem.Str.ofString "states", PySem.Str.ofString "sign", PySem.Str.ofString "origin", PySem.Str.ofString "letter", PySem.Str.ofString "target"]
def N__law_states : List Str := [PySem.Str.ofString "plan", PySem.Str.ofString "log", PySem.Str.ofString "states", PySem.Str.ofString "sign"]
def N__law_has : List Str := [PySem.Str.ofString "plan", PySem.Str.ofString "log", PySem.Str.ofString "state"]
def N__law_can : List Str := [PySem.Str.ofString "plan", PySem.Str.ofString "states", PySem.Str.ofString "k", PySem.Str.ofString "found", PySem.Str.ofString "step", PySem.Str.ofString "sign", PySem.Str.ofString "state"]
def N__law_moved : List Str := [PySem.Str.ofString "pen", PySem.Str.ofString "machine", PySem.Str.ofString "k", PySem.Str.ofString "rows", PySem.Str.ofString "n", PySem.Str.ofString "gone", PySem.Str.ofString "edge", PySem.Str.ofString "state", PySem.Str.ofString "option"]
def N_law : List Str := [PySem.Str.ofString "script", PySem.Str.ofString "pen", PySem.Str.ofString "turn", PySem.Str.ofString "k", PySem.Str.ofString "plans", PySem.Str.ofString "pair", PySem.Str.ofString "tool", PySem.Str.ofString "log", PySem.Str.ofString "step", PySem.Str.ofString "now", PySem.Str.ofString "can", PySem.Str.ofString "sign", PySem.Str.ofString "kind", PySem.Str.ofString "plan"]
def cNs : List Str := ["NotALog", "InvalidRules", "InvalidClaim", "Unpaired", "ParseError", "UnknownState", "UnknownEdge", "UnknownCheckpoint", "UnknownRecord", "EdgeExists", "Endless", "LimitExceeded", "Machine", "Automaton", "Downset", "Steps", "Levels", "Meetings", "RuleFollower", "KindFollower", "Session", "Lines"]
def fNs : List Str := ["value", "place", "line", "state", "edge", "number", "limit", "signs", "states", "kept", "first", "last", "machines", "present"]
theorem fNs_ok : fldsOk fNs = true := by decide +kernel
def b_is_integer : MS := sRet (eAnd (e1 (opIsA .int) (eVar 0)) (eAnd (eNot (e1 (opIsA .bl) (eVar 0))) (eChain opLe opLe (eVar 1) (eVar 0) (eVar 2))))
def b_is_log : MS := sRet (eAnd (e1 (opIsA .str) (eVar 0)) (eB bAll (aCons (eLc (e2 opIn (eVar 2) (eCut (eC (.str [97, 98, 99])) (pNone) (pSome (eVar 1)))) (.nm 2) (iSeq (eVar 0)) (MP.tYes) [2]) (aNil))))
def b_Machine_DinitD : MS := sSeq (sIf (MP.tNot (tV (eCall 0 (aCons (eVar 1) (aCons (eC (.int 1)) (aCons (eC (.int 3)) (aNil)))) []))) (sRaise 11 [6] (aCons (eC (.int 3)) aNil)) (sPass)) (sSeq (sIf (MP.tNot (tV (eCall 0 (aCons (eVar 2) (aCons (eC (.int 1)) (aCons (eC (.int 6)) (aNil)))) []))) (sRaise 11 [6] (aCons (eC (.int 6)) aNil)) (sPass)) (sSeq (sFld [12] 7 (eVar 0) (eVar 1)) (sSeq (sFld [12] 8 (eVar 0) (eVar 2)) (sSeq (sFld [12] 9 (eVar 0) (eLst (aNil))) (sSeq (sFld [12] 10 (eVar 0) (eLst (aNil))) (sFld [12] 11 (eVar 0) (eLst (aNil))))))))
def b_Machine_require_state : MS := sIf (MP.tNot (tV (eCall 0 (aCons (eVar 1) (aCons (eC (.int 0)) (aCons (e2 opSub (eFld [12] 8 (eVar 0)) (eC (.int 1))) (aNil)))) []))) (sRaise 5 [3] (aCons (eVar 1) aNil)) (sPass)
def b_Machine_add_edge : MS := sSeq (sExpr (eMeth [(12, 3)] (eVar 0) (aCons (eVar 1) (aNil)) [])) (sSeq (sExpr (eMeth [(12, 3)] (eVar 0) (aCons (eVar 3) (aNil)) [])) (sSeq (sIf (MP.tOr (MP.tNot (tV (eCall 1 (aCons (eVar 2) (aCons (eFld [12] 7 (eVar 0)) (aNil))) []))) (MP.tB (e2 opNe (eB bLen (aCons (eVar 2) (aNil))) (eC (.int 1))))) (sRaise 0 [0] (aCons (eVar 2) aNil)) (sPass)) (sSeq (sSet (.nm 4) (eTup (aCons (eVar 1) (aCons (eVar 2) (aCons (eVar 3) (aNil)))))) (sSeq (sIf (MP.tB (e2 opIn (eVar 4) (eFld [12] 9 (eVar 0)))) (sRaise 9 [4] (aCons (eVar 4) aNil)) (sPass)) (sSeq (sIf (MP.tB (e2 opEq (eB bLen (aCons (eFld [12] 9 (eVar 0)) (aNil))) (eC (.int 14)))) (sRaise 11 [6] (aCons (eC (.int 14)) aNil)) (sPass)) (sExpr (eBM tyLst mAppend (eFld [12] 9 (eVar 0)) (aCons (eVar 4) (aNil)))))))))
def b_Machine_remove_edge : MS := sSeq (sSet (.nm 4) (eTup (aCons (eVar 1) (aCons (eVar 2) (aCons (eVar 3) (aNil)))))) (sSeq (sIf (MP.tB (e2 opNotIn (eVar 4) (eFld [12] 9 (eVar 0)))) (sRaise 6 [4] (aCons (eVar 4) aNil)) (sPass)) (sExpr (eBM tyLst mRemove (eFld [12] 9 (eVar 0)) (aCons (eVar 4) (aNil)))))
def b_Machine_add_start : MS := sSeq (sExpr (eMeth [(12, 3)] (eVar 0) (aCons (eVar 1) (aNil)) [])) (sSeq (sIf (MP.tB (e2 opIn (eVar 1) (eFld [12] 10 (eVar 0)))) (sRet (eC (.bl false))) (sPass)) (sSeq (sExpr (eBM tyLst mAppend (eFld [12] 10 (eVar 0)) (aCons (eVar 1) (aNil)))) (sRet (eC (.bl true)))))
def b_Machine_add_end : MS := sSeq (sExpr (eMeth [(12, 3)] (eVar 0) (aCons (eVar 1) (aNil)) [])) (sSeq (sIf (MP.tB (e2 opIn (eVar 1) (eFld [12] 11 (eVar 0)))) (sRet (eC (.bl false))) (sPass)) (sSeq (sExpr (eBM tyLst mAppend (eFld [12] 11 (eVar 0)) (aCons (eVar 1) (aNil)))) (sRet (eC (.bl true)))))
def b_Machine_remove_start : MS := sSeq (sExpr (eMeth [(12, 3)] (eVar 0) (aCons (eVar 1) (aNil)) [])) (sSeq (sIf (MP.tB (e2 opNotIn (eVar 1) (eFld [12] 10 (eVar 0)))) (sRet (eC (.bl false))) (sPass)) (sSeq (sExpr (eBM tyLst mRemove (eFld [12] 10 (eVar 0)) (aCons (eVar 1) (aNil)))) (sRet (eC (.bl true)))))
def b_Machine_remove_end : MS := sSeq (sExpr (eMeth [(12, 3)] (eVar 0) (aCons (eVar 1) (aNil)) [])) (sSeq (sIf (MP.tB (e2 opNotIn (eVar 1) (eFld [12] 11 (eVar 0)))) (sRet (eC (.bl false))) (sPass)) (sSeq (sExpr (eBM tyLst mRemove (eFld [12] 11 (eVar 0)) (aCons (eVar 1) (aNil)))) (sRet (eC (.bl true)))))
def b_Machine_edges : MS := sRet (eB bTuple (aCons (eB bSorted (aCons (eFld [12] 9 (eVar 0)) (aNil))) (aNil)))
def b_Machine_starts : MS := sRet (eB bTuple (aCons (eB bSorted (aCons (eFld [12] 10 (eVar 0)) (aNil))) (aNil)))
def b_Machine_twin : MS := sSeq (sSet (.nm 1) (eNew 12 2 (aCons (eFld [12] 7 (eVar 0)) (aCons (eFld [12] 8 (eVar 0)) (aNil))) [])) (sSeq (sFld [12] 9 (eVar 1) (eB bListX (aCons (eFld [12] 9 (eVar 0)) (aNil)))) (sSeq (sFld [12] 10 (eVar 1) (eB bListX (aCons (eFld [12] 10 (eVar 0)) (aNil)))) (sSeq (sFld [12] 11 (eVar 1) (eB bListX (aCons (eFld [12] 11 (eVar 0)) (aNil)))) (sRet (eVar 1)))))
def b_Machine_step : MS := sSeq (sSet (.nm 3) (eDc (eVar 6) (eC (.bl true)) (.tp [(.nm 4), (.nm 5), (.nm 6)]) (iSeq (eFld [12] 9 (eVar 0))) (MP.tAnd (MP.tB (e2 opEq (eVar 5) (eVar 2))) (MP.tB (e2 opIn (eVar 4) (eVar 1)))) [4, 5, 6])) (sRet (eB bTuple (aCons (eB bSorted (aCons (eB bListX (aCons (eVar 3) (aNil))) (aNil))) (aNil))))
def b_Machine_has_end : MS := sRet (eB bAny (aCons (eLc (e2 opIn (eVar 2) (eFld [12] 11 (eVar 0))) (.nm 2) (iSeq (eVar 1)) (MP.tYes) [2]) (aNil)))
def b_require_pair : MS := sIf (MP.tB (e2 opNe (eFld [12] 7 (e2 opItem (eVar 0) (eC (.int 0)))) (eFld [12] 7 (e2 opItem (eVar 0) (eC (.int 1)))))) (sRaise 3 [] aNil) (sPass)
def b_require_sign : MS := sIf (MP.tOr (MP.tNot (tV (eCall 1 (aCons (eVar 0) (aCons (eVar 1) (aNil))) []))) (MP.tB (e2 opNe (eB bLen (aCons (eVar 0) (aNil))) (eC (.int 1))))) (sRaise 0 [0] (aCons (eVar 0) aNil)) (sPass)
def b_KindFollower_DinitD : MS := sSeq (sExpr (eCall 15 (aCons (eVar 1) (aNil)) [])) (sSeq (sFld [19] 12 (eVar 0) (eTup (aCons (eMeth [(12, 12)] (e2 opItem (eVar 1) (eC (.int 0))) aNil []) (aCons (eMeth [(12, 12)] (e2 opItem (eVar 1) (eC (.int 1))) aNil []) (aNil))))) (sFld [19] 13 (eVar 0) (eB bTuple (aCons (eLc (eMeth [(12, 11)] (eVar 2) aNil []) (.nm 2) (iSeq (eFld [19] 12 (eVar 0))) (MP.tYes) [2]) (aNil)))))
def b_KindFollower_read : MS := sSeq (sExpr (eCall 16 (aCons (eVar 1) (aCons (eFld [12] 7 (e2 opItem (eFld [19] 12 (eVar 0)) (eC (.int 0)))) (aNil))) [])) (sFld [19] 13 (eVar 0) (eB bTuple (aCons (eLc (eMeth [(12, 13)] (eVar 3) (aCons (eVar 4) (aCons (eVar 1) (aNil))) []) (.tp [(.nm 2), (.nm 3), (.nm 4)]) (iSeq (eMeth [(19, 20)] (eVar 0) aNil [])) (MP.tYes) [2, 3, 4]) (aNil))))
def b_KindFollower_is_now : MS := sRet (eB bTuple (aCons (eLc (eVar 1) (.tp [(.nm 1), (.nm 2), (.nm 3)]) (iSeq (eMeth [(19, 20)] (eVar 0) aNil [])) (tV (eMeth [(12, 14)] (eVar 2) (aCons (eVar 3) (aNil)) [])) [1, 2, 3]) (aNil)))
def b_KindFollower_rows : MS := sRet (eLz (aCons (eC (.str [65, 66])) (aCons (eFld [19] 12 (eVar 0)) (aCons (eFld [19] 13 (eVar 0)) (aNil)))))
def b_KindFollower_can_become : MS := sRet (eB bTuple (aCons (eLc (eVar 1) (.tp [(.nm 1), (.nm 2), (.nm 3)]) (iSeq (eMeth [(19, 20)] (eVar 0) aNil [])) (tV (eCall 23 (aCons (eVar 2) (aCons (eVar 3) (aNil))) [])) [1, 2, 3]) (aNil)))
def b_KindFollower_is_settled : MS := sRet (e2 opLe (eB bLen (aCons (eMeth [(19, 21)] (eVar 0) aNil []) (aNil))) (eC (.int 1)))
def b_reaches_end : MS := sSeq (sPar 2 3 (eB bListX (aCons (eVar 1) (aNil))) (eB bListX (aCons (eVar 1) (aNil)))) (sSeq (sWhile (MP.tB (e2 opNe (eVar 3) (eLst (aNil)))) (sSeq (sSet (.nm 4) (eBM tyLst mPop0 (eVar 3) aNil)) (sFor (.tp [(.nm 5), (.nm 6), (.nm 7)]) (iSeq (eMeth [(12, 10)] (eVar 0) aNil [])) (sIf (MP.tAnd (MP.tB (e2 opEq (eVar 5) (eVar 4))) (MP.tB (e2 opNotIn (eVar 7) (eVar 2)))) (sSeq (sExpr (eBM tyLst mAppend (eVar 2) (aCons (eVar 7) (aNil)))) (sExpr (eBM tyLst mAppend (eVar 3) (aCons (eVar 7) (aNil))))) (sPass))))) (sRet (eMeth [(12, 14)] (eVar 0) (aCons (eVar 2) (aNil)) [])))
def b__law_pen : MS := sRet (eLst (aCons (eB bListX (aCons (eCut (eVar 0) (pNone) (pSome (eC (.int 63)))) (aNil))) (aCons (eC (.int 0)) (aCons (eC (.int 0)) (aNil)))))
def b__law_fresh : MS := sSeq (sSet (.nm 1) (e2 opItem (eVar 0) (eC (.int 1)))) (sSeq (sItem (eVar 0) (eC (.int 1)) (e2 opAdd (eVar 1) (eC (.int 1)))) (sSeq (sSet (.nm 2) (eC (.int 0))) (sSeq (sIf (MP.tB (e2 opNe (e2 opItem (eVar 0) (eC (.int 0))) (eLst (aNil)))) (sSet (.nm 2) (e2 opItem (e2 opItem (eVar 0) (eC (.int 0))) (e2 opMod (eVar 1) (eB bLen (aCons (e2 opItem (eVar 0) (eC (.int 0))) (aNil)))))) (sPass)) (sSeq (sIf (MP.tAnd (MP.tB (e2 opLt (eVar 1) (eB bLen (aCons (e2 opItem (eVar 0) (eC (.int 0))) (aNil))))) (MP.tB (e2 opGe (eVar 2) (e2 opPow (eC (.int 10)) (eC (.int 18)))))) (sRet (e2 opSub (eVar 2) (e2 opPow (eC (.int 10)) (eC (.int 18))))) (sPass)) (sSeq (sSet (.nm 3) (eC (.int 2305843009213693951))) (sSeq (sSet (.nm 4) (e2 opMod (e2 opAdd (e2 opAdd (e2 opMul (eVar 2) (eC (.int 48271))) (e2 opMul (eC (.int 40692)) (eVar 1))) (eC (.int 31))) (eVar 3))) (sSeq (sSet (.nm 5) (eVar 4)) (sSeq (sFor (.nm 6) (iRange1 (eC (.int 6))) (sSeq (sSet (.nm 4) (e2 opMod (e2 opAdd (e2 opAdd (e2 opMul (eVar 4) (eVar 4)) (e2 opMul (e2 opMul (eC (.int 69621)) (e2 opAdd (eVar 6) (eC (.int 1)))) (e2 opAdd (eVar 1) (eC (.int 1))))) (eVar 2)) (eVar 3))) (sSet (.nm 5) (e2 opAdd (e2 opMul (eVar 5) (eVar 3)) (eVar 4))))) (sRet (eVar 5))))))))))
def b__law_draw : MS := sSeq (sIf (MP.tB (e2 opLt (e2 opItem (eVar 0) (eC (.int 2))) (eVar 1))) (sItem (eVar 0) (eC (.int 2)) (eCall 25 (aCons (eVar 0) (aNil)) [])) (sPass)) (sSeq (sSet (.nm 2) (e2 opMod (e2 opItem (eVar 0) (eC (.int 2))) (eVar 1))) (sSeq (sItem (eVar 0) (eC (.int 2)) (e2 opDiv (e2 opItem (eVar 0) (eC (.int 2))) (eVar 1))) (sRet (eVar 2))))
def b__law_plan : MS := sSeq (sSet (.nm 4) (e2 opAdd (eC (.int 1)) (eCall 26 (aCons (eVar 0) (aCons (eVar 2) (aNil))) []))) (sSeq (sSet (.nm 5) (eLc (eVar 10) (.nm 10) (iRange1 (eVar 4)) (MP.tOr (MP.tB (e2 opEq (eVar 10) (eC (.int 0)))) (MP.tB (e2 opEq (eCall 26 (aCons (eVar 0) (aCons (eC (.int 4)) (aNil))) []) (eC (.int 0))))) [10])) (sSeq (sSet (.nm 6) (eLc (eVar 10) (.nm 10) (iRange1 (eVar 4)) (MP.tB (e2 opEq (eCall 26 (aCons (eVar 0) (aCons (eC (.int 2)) (aNil))) []) (eC (.int 0)))) [10])) (sSeq (sSet (.nm 7) (eLst (aNil))) (sSeq (sFor (.nm 8) (iRange1 (eCall 26 (aCons (eVar 0) (aCons (e2 opAdd (eVar 3) (eC (.int 1))) (aNil))) [])) (sSeq (sSet (.nm 9) (eTup (aCons (eCall 26 (aCons (eVar 0) (aCons (eVar 4) (aNil))) []) (aCons (e2 opItem (eC (.str [97, 98, 99])) (eCall 26 (aCons (eVar 0) (aCons (eVar 1) (aNil))) [])) (aCons (eCall 26 (aCons (eVar 0) (aCons (eVar 4) (aNil))) []) (aNil)))))) (sIf (MP.tB (e2 opNotIn (eVar 9) (eVar 7))) (sExpr (eBM tyLst mAppend (eVar 7) (aCons (eVar 9) (aNil)))) (sPass)))) (sRet (eLst (aCons (eVar 4) (aCons (eVar 5) (aCons (eVar 6) (aCons (eVar 7) (aNil)))))))))))
def b__law_machine_of : MS := sSeq (sSet (.nm 2) (eNew 12 2 (aCons (eVar 0) (aCons (e2 opItem (eVar 1) (eC (.int 0))) (aNil))) [])) (sSeq (sFor (.nm 3) (iSeq (e2 opItem (eVar 1) (eC (.int 1)))) (sExpr (eMeth [(12, 6)] (eVar 2) (aCons (eVar 3) (aNil)) []))) (sSeq (sFor (.nm 3) (iSeq (e2 opItem (eVar 1) (eC (.int 2)))) (sExpr (eMeth [(12, 7)] (eVar 2) (aCons (eVar 3) (aNil)) []))) (sSeq (sFor (.tp [(.nm 4), (.nm 5), (.nm 6)]) (iSeq (e2 opItem (eVar 1) (eC (.int 3)))) (sExpr (eMeth [(12, 4)] (eVar 2) (aCons (eVar 4) (aCons (eVar 5) (aCons (eVar 6) (aNil)))) []))) (sRet (eVar 2)))))
def b__law_stepped : MS := sRet (e1 opSortSet (eLc (eVar 5) (.tp [(.nm 3), (.nm 4), (.nm 5)]) (iSeq (e2 opItem (eVar 0) (eC (.int 3)))) (MP.tAnd (MP.tB (e2 opEq (eVar 4) (eVar 2))) (MP.tB (e2 opIn (eVar 3) (eVar 1)))) [3, 4, 5]))
def b__law_states : MS := sSeq (sSet (.nm 2) (e1 opSortSet (e2 opItem (eVar 0) (eC (.int 1))))) (sSeq (sFor (.nm 3) (iSeq (eVar 1)) (sSet (.nm 2) (eCall 29 (aCons (eVar 0) (aCons (eVar 2) (aCons (eVar 3) (aNil)))) []))) (sRet (eVar 2)))
def b__law_has : MS := sRet (e2 opNe (eLc (eVar 2) (.nm 2) (iSeq (eCall 30 (aCons (eVar 0) (aCons (eVar 1) (aNil))) [])) (MP.tB (e2 opIn (eVar 2) (e2 opItem (eVar 0) (eC (.int 2))))) [2]) (eLst (aNil)))
def b__law_can : MS := sSeq (sSet (.nm 3) (eB bListX (aCons (eVar 1) (aNil)))) (sSeq (sFor (.nm 4) (iRange1 (e2 opItem (eVar 0) (eC (.int 0)))) (sFor (.nm 5) (iSeq (eCut (eC (.str [97, 98, 99])) (pNone) (pSome (eVar 2)))) (sSet (.nm 3) (e1 opSortSet (e2 opAdd (eVar 3) (eCall 29 (aCons (eVar 0) (aCons (eVar 3) (aCons (eVar 5) (aNil)))) [])))))) (sRet (e2 opNe (eLc (eVar 6) (.nm 6) (iSeq (eVar 3)) (MP.tB (e2 opIn (eVar 6) (e2 opItem (eVar 0) (eC (.int 2))))) [6]) (eLst (aNil)))))
def b__law_moved : MS := sSeq (sPar 3 4 (eMeth [(12, 10)] (eVar 1) aNil []) (eFld [12] 8 (eVar 1))) (sSeq (sIf (MP.tAnd (MP.tB (e2 opNe (eVar 3) (eTup (aNil)))) (MP.tB (e2 opEq (eCall 26 (aCons (eVar 0) (aCons (eC (.int 2)) (aNil))) []) (eC (.int 0))))) (sSeq (sSet (.nm 5) (e2 opItem (eVar 3) (eCall 26 (aCons (eVar 0) (aCons (eB bLen (aCons (eVar 3) (aNil))) (aNil))) []))) (sExpr (eMeth [(12, 5)] (eVar 1) (aCons (e2 opItem (eVar 5) (eC (.int 0))) (aCons (e2 opItem (eVar 5) (eC (.int 1))) (aCons (e2 opItem (eVar 5) (eC (.int 2))) (aNil)))) []))) (sSeq (sSet (.nm 6) (eTup (aCons (eCall 26 (aCons (eVar 0) (aCons (eVar 4) (aNil))) []) (aCons (e2 opItem (eC (.str [97, 98, 99])) (eCall 26 (aCons (eVar 0) (aCons (eVar 2) (aNil))) [])) (aCons (eCall 26 (aCons (eVar 0) (aCons (eVar 4) (aNil))) []) (aNil)))))) (sIf (MP.tAnd (MP.tB (e2 opNotIn (eVar 6) (eVar 3))) (MP.tB (e2 opLt (eB bLen (aCons (eVar 3) (aNil))) (eC (.int 14))))) (sExpr (eMeth [(12, 4)] (eVar 1) (aCons (e2 opItem (eVar 6) (eC (.int 0))) (aCons (e2 opItem (eVar 6) (eC (.int 1))) (aCons (e2 opItem (eVar 6) (eC (.int 2))) (aNil)))) [])) (sPass)))) (sSeq (sPar 7 8 (eCall 26 (aCons (eVar 0) (aCons (eVar 4) (aNil))) []) (eCall 26 (aCons (eVar 0) (aCons (eC (.int 4)) (aNil))) [])) (sIf (MP.tB (e2 opEq (eVar 8) (eC (.int 0)))) (sExpr (eMeth [(12, 7)] (eVar 1) (aCons (eVar 7) (aNil)) [])) (sIf (MP.tB (e2 opEq (eVar 8) (eC (.int 1)))) (sExpr (eMeth [(12, 9)] (eVar 1) (aCons (eVar 7) (aNil)) [])) (sIf (MP.tB (e2 opEq (eVar 8) (eC (.int 2)))) (sExpr (eMeth [(12, 6)] (eVar 1) (aCons (eVar 7) (aNil)) [])) (sExpr (eMeth [(12, 8)] (eVar 1) (aCons (eVar 7) (aNil)) [])))))))
def b_law : MS := sSeq (sSet (.nm 1) (eCall 24 (aCons (eVar 0) (aNil)) [])) (sSeq (sFor (.nm 2) (iRange1 (eC (.int 2))) (sSeq (sSet (.nm 3) (e2 opAdd (eC (.int 1)) (eCall 26 (aCons (eVar 1) (aCons (eC (.int 3)) (aNil))) []))) (sSeq (sSet (.nm 4) (eLst (aCons (eCall 27 (aCons (eVar 1) (aCons (eVar 3) (aCons (eC (.int 4)) (aCons (eC (.int 7)) (aNil))))) []) (aCons (eCall 27 (aCons (eVar 1) (aCons (eVar 3) (aCons (eC (.int 4)) (aCons (eC (.int 7)) (aNil))))) []) (aNil))))) (sSeq (sIf (MP.tB (e2 opEq (eCall 26 (aCons (eVar 1) (aCons (eC (.int 6)) (aNil))) []) (eC (.int 0)))) (sItem (e2 opItem (eVar 4) (eCall 26 (aCons (eVar 1) (aCons (eC (.int 2)) (aNil))) [])) (e2 opAdd (eC (.int 1)) (eCall 26 (aCons (eVar 1) (aCons (eC (.int 2)) (aNil))) [])) (eLst (aNil))) (sPass)) (sSeq (sSet (.nm 5) (eTup (aCons (eCall 28 (aCons (eVar 3) (aCons (e2 opItem (eVar 4) (eC (.int 0))) (aNil))) []) (aCons (eCall 28 (aCons (eVar 3) (aCons (e2 opItem (eVar 4) (eC (.int 1))) (aNil))) []) (aNil))))) (sSeq (sIf (MP.tB (e2 opEq (eCall 26 (aCons (eVar 1) (aCons (eC (.int 5)) (aNil))) []) (eC (.int 0)))) (sItNm (eVar 4) (eC (.int 1)) 5 (e2 opItem (eVar 4) (eC (.int 0))) (eTup (aCons (e2 opItem (eVar 5) (eC (.int 0))) (aCons (e2 opItem (eVar 5) (eC (.int 0))) (aNil))))) (sPass)) (sSeq (sSet (.tp [(.nm 6), (.nm 7)]) (eTup (aCons (eNew 19 17 (aCons (eVar 5) (aNil)) []) (aCons (eC (.str [])) (aNil))))) (sSeq (sExpr (eCall 33 (aCons (eVar 1) (aCons (e2 opItem (eVar 5) (eCall 26 (aCons (eVar 1) (aCons (eC (.int 2)) (aNil))) [])) (aCons (eVar 3) (aNil)))) [])) (sFor (.nm 8) (iRange1 (e2 opAdd (eC (.int 1)) (eCall 26 (aCons (eVar 1) (aCons (eC (.int 7)) (aNil))) []))) (sSeq (sSet (.nm 9) (eB bTuple (aCons (eLc (eVar 12) (.tp [(.nm 12), (.nm 13)]) (iZipE (eC (.str [65, 66])) (eVar 4)) (tV (eCall 31 (aCons (eVar 13) (aCons (eVar 7) (aNil))) [])) [12, 13]) (aNil)))) (sSeq (sSet (.nm 10) (eB bTuple (aCons (eLc (eVar 12) (.tp [(.nm 12), (.nm 13)]) (iZipE (eC (.str [65, 66])) (eVar 4)) (tV (eCall 32 (aCons (eVar 13) (aCons (eCall 30 (aCons (eVar 13) (aCons (eVar 7) (aNil))) []) (aCons (eVar 3) (aNil)))) [])) [12, 13]) (aNil)))) (sSeq (sIf (MP.tOr (MP.tB (e2 opNe (eMeth [(19, 19)] (eVar 6) aNil []) (eVar 9))) (MP.tOr (MP.tB (e2 opNe (eMeth [(19, 21)] (eVar 6) aNil []) (eVar 10))) (MP.tB (e2 opNe (eB bRepr (aCons (eMeth [(19, 22)] (eVar 6) aNil []) (aNil))) (eB bRepr (aCons (e2 opLe (eB bLen (aCons (eVar 10) (aNil))) (eC (.int 1))) (aNil))))))) (sRet (eC (.bl false))) (sPass)) (sSeq (sExpr (eCall 33 (aCons (eVar 1) (aCons (e2 opItem (eVar 5) (eCall 26 (aCons (eVar 1) (aCons (eC (.int 2)) (aNil))) [])) (aCons (eVar 3) (aNil)))) [])) (sSeq (sSet (.nm 11) (e2 opItem (eC (.str [97, 98, 99])) (eCall 26 (aCons (eVar 1) (aCons (eVar 3) (aNil))) []))) (sSeq (sIf (MP.tB (e2 opIsNot (eMeth [(19, 18)] (eVar 6) (aCons (eVar 11) (aNil)) []) (eC .non))) (sRet (eC (.bl false))) (sPass)) (sSet (.nm 7) (e2 opAdd (eVar 7) (eVar 11)))))))))))))))))) (sRet (eC (.bl true))))
def tb : List Fn := [⟨3, 3, b_is_integer⟩, ⟨2, 3, b_is_log⟩, ⟨3, 3, b_Machine_DinitD⟩, ⟨2, 2, b_Machine_require_state⟩, ⟨4, 5, b_Machine_add_edge⟩, ⟨4, 5, b_Machine_remove_edge⟩, ⟨2, 2, b_Machine_add_start⟩, ⟨2, 2, b_Machine_add_end⟩, ⟨2, 2, b_Machine_remove_start⟩, ⟨2, 2, b_Machine_remove_end⟩, ⟨1, 1, b_Machine_edges⟩, ⟨1, 1, b_Machine_starts⟩, ⟨1, 2, b_Machine_twin⟩, ⟨3, 7, b_Machine_step⟩, ⟨2, 3, b_Machine_has_end⟩, ⟨1, 1, b_require_pair⟩, ⟨2, 2, b_require_sign⟩, ⟨2, 3, b_KindFollower_DinitD⟩, ⟨2, 5, b_KindFollower_read⟩, ⟨1, 4, b_KindFollower_is_now⟩, ⟨1, 1, b_KindFollower_rows⟩, ⟨1, 4, b_KindFollower_can_become⟩, ⟨1, 1, b_KindFollower_is_settled⟩, ⟨2, 8, b_reaches_end⟩, ⟨1, 1, b__law_pen⟩, ⟨1, 7, b__law_fresh⟩, ⟨2, 3, b__law_draw⟩, ⟨4, 11, b__law_plan⟩, ⟨2, 7, b__law_machine_of⟩, ⟨3, 6, b__law_stepped⟩, ⟨2, 4, b__law_states⟩, ⟨2, 3, b__law_has⟩, ⟨3, 7, b__law_can⟩, ⟨3, 9, b__law_moved⟩, ⟨1, 14, b_law⟩]
theorem rs_ALPHABET {G : Gx} {m : List Addr} {H : Hp} : RepV G m H (.str (PySem.Str.ofString "abc")) (.str [97, 98, 99]) := by
  have e : PySem.Str.ofString "abc" = ⟨([97, 98, 99] : List Nat).toArray⟩ := by decide +kernel
  rw [e]; exact .str _
structure Fs (P : Program) (w : World) (K : PySem.W.Frag) (mg : Str → Option Value) (base : Heap) (G : Gx) (n : Nat) : Prop where
  hK : G.K = K
  g_is_integer : mg "is_integer" = some (.ref (He.ga K "is_integer"))
  c_is_integer : Cal G P w K mg base ⟨callN tb n⟩ (rm n) (He.ga K "is_integer") 0 []
  g_is_log : mg "is_log" = some (.ref (He.ga K "is_log"))
  c_is_log : Cal G P w K mg base ⟨callN tb n⟩ (rm n) (He.ga K "is_log") 1 []
  g_require_pair : mg "require_pair" = some (.ref (He.ga K "require_pair"))
  c_require_pair : Cal G P w K mg base ⟨callN tb n⟩ (rm n) (He.ga K "require_pair") 15 []
  g_require_sign : mg "require_sign" = some (.ref (He.ga K "require_sign"))
  c_require_sign : Cal G P w K mg base ⟨callN tb n⟩ (rm n) (He.ga K "require_sign") 16 []
  g_reaches_end : mg "reaches_end" = some (.ref (He.ga K "reaches_end"))
  c_reaches_end : Cal G P w K mg base ⟨callN tb n⟩ (rm n) (He.ga K "reaches_end") 23 []
  g__law_pen : mg "_law_pen" = some (.ref (He.ga K "_law_pen"))
  c__law_pen : Cal G P w K mg base ⟨callN tb n⟩ (rm n) (He.ga K "_law_pen") 24 []
  g__law_fresh : mg "_law_fresh" = some (.ref (He.ga K "_law_fresh"))
  c__law_fresh : Cal G P w K mg base ⟨callN tb n⟩ (rm n) (He.ga K "_law_fresh") 25 []
  g__law_draw : mg "_law_draw" = some (.ref (He.ga K "_law_draw"))
  c__law_draw : Cal G P w K mg base ⟨callN tb n⟩ (rm n) (He.ga K "_law_draw") 26 []
  g__law_plan : mg "_law_plan" = some (.ref (He.ga K "_law_plan"))
  c__law_plan : Cal G P w K mg base ⟨callN tb n⟩ (rm n) (He.ga K "_law_plan") 27 []
  g__law_machine_of : mg "_law_machine_of" = some (.ref (He.ga K "_law_machine_of"))
  c__law_machine_of : Cal G P w K mg base ⟨callN tb n⟩ (rm n) (He.ga K "_law_machine_of") 28 []
  g__law_stepped : mg "_law_stepped" = some (.ref (He.ga K "_law_stepped"))
  c__law_stepped : Cal G P w K mg base ⟨callN tb n⟩ (rm n) (He.ga K "_law_stepped") 29 []
  g__law_states : mg "_law_states" = some (.ref (He.ga K "_law_states"))
  c__law_states : Cal G P w K mg base ⟨callN tb n⟩ (rm n) (He.ga K "_law_states") 30 []
  g__law_has : mg "_law_has" = some (.ref (He.ga K "_law_has"))
  c__law_has : Cal G P w K mg base ⟨callN tb n⟩ (rm n) (He.ga K "_law_has") 31 []
  g__law_can : mg "_law_can" = some (.ref (He.ga K "_law_can"))
  c__law_can : Cal G P w K mg base ⟨callN tb n⟩ (rm n) (He.ga K "_law_can") 32 []
  g__law_moved : mg "_law_moved" = some (.ref (He.ga K "_law_moved"))
  c__law_moved : Cal G P w K mg base ⟨callN tb n⟩ (rm n) (He.ga K "_law_moved") 33 []
  g_law : mg "law" = some (.ref (He.ga K "law"))
  c_law : Cal G P w K mg base ⟨callN tb n⟩ (rm n) (He.ga K "law") 34 []
  l_0 : G.ne.fld 0 = "value"
  l_1 : G.ne.fld 1 = "place"
  l_2 : G.ne.fld 2 = "line"
  l_3 : G.ne.fld 3 = "state"
  l_4 : G.ne.fld 4 = "edge"
  l_5 : G.ne.fld 5 = "number"
  l_6 : G.ne.fld 6 = "limit"
  l_7 : G.ne.fld 7 = "signs"
  l_8 : G.ne.fld 8 = "states"
  l_9 : G.ne.fld 9 = "kept"
  l_10 : G.ne.fld 10 = "first"
  l_11 : G.ne.fld 11 = "last"
  l_12 : G.ne.fld 12 = "machines"
  l_13 : G.ne.fld 13 = "present"
  m_NotALog : mg "NotALog" = some (.ref (G.ne.cls 0))
  m_Unpaired : mg "Unpaired" = some (.ref (G.ne.cls 3))
  m_UnknownState : mg "UnknownState" = some (.ref (G.ne.cls 5))
  m_UnknownEdge : mg "UnknownEdge" = some (.ref (G.ne.cls 6))
  m_EdgeExists : mg "EdgeExists" = some (.ref (G.ne.cls 9))
  m_LimitExceeded : mg "LimitExceeded" = some (.ref (G.ne.cls 11))
  m_Machine : mg "Machine" = some (.ref (G.ne.cls 12))
  m_KindFollower : mg "KindFollower" = some (.ref (G.ne.cls 19))
  x_NotALog : XcC G P w K mg base 0 0 (some 0)
  n_NotALog_value : PySem.W.findIn K (.ref (G.ne.cls 0)) "value" = some none
  x_Unpaired : XcC G P w K mg base 0 3 none
  x_UnknownState : XcC G P w K mg base 0 5 (some 3)
  n_UnknownState_state : PySem.W.findIn K (.ref (G.ne.cls 5)) "state" = some none
  x_UnknownEdge : XcC G P w K mg base 0 6 (some 4)
  n_UnknownEdge_edge : PySem.W.findIn K (.ref (G.ne.cls 6)) "edge" = some none
  x_EdgeExists : XcC G P w K mg base 0 9 (some 4)
  n_EdgeExists_edge : PySem.W.findIn K (.ref (G.ne.cls 9)) "edge" = some none
  x_LimitExceeded : XcC G P w K mg base 0 11 (some 6)
  n_LimitExceeded_limit : PySem.W.findIn K (.ref (G.ne.cls 11)) "limit" = some none
  t_KindFollower_can_become : MtC G P w K mg base ⟨callN tb n⟩ (rm n) "can_become" 19 21 []
  t_KindFollower_is_now : MtC G P w K mg base ⟨callN tb n⟩ (rm n) "is_now" 19 19 []
  t_KindFollower_is_settled : MtC G P w K mg base ⟨callN tb n⟩ (rm n) "is_settled" 19 22 []
  t_KindFollower_read : MtC G P w K mg base ⟨callN tb n⟩ (rm n) "read" 19 18 []
  t_KindFollower_rows : MtC G P w K mg base ⟨callN tb n⟩ (rm n) "rows" 19 20 []
  t_Machine_add_edge : MtC G P w K mg base ⟨callN tb n⟩ (rm n) "add_edge" 12 4 []
  t_Machine_add_end : MtC G P w K mg base ⟨callN tb n⟩ (rm n) "add_end" 12 7 []
  t_Machine_add_start : MtC G P w K mg base ⟨callN tb n⟩ (rm n) "add_start" 12 6 []
  t_Machine_edges : MtC G P w K mg base ⟨callN tb n⟩ (rm n) "edges" 12 10 []
  t_Machine_has_end : MtC G P w K mg base ⟨callN tb n⟩ (rm n) "has_end" 12 14 []
  t_Machine_remove_edge : MtC G P w K mg base ⟨callN tb n⟩ (rm n) "remove_edge" 12 5 []
  t_Machine_remove_end : MtC G P w K mg base ⟨callN tb n⟩ (rm n) "remove_end" 12 9 []
  t_Machine_remove_start : MtC G P w K mg base ⟨callN tb n⟩ (rm n) "remove_start" 12 8 []
  t_Machine_require_state : MtC G P w K mg base ⟨callN tb n⟩ (rm n) "require_state" 12 3 []
  t_Machine_starts : MtC G P w K mg base ⟨callN tb n⟩ (rm n) "starts" 12 11 []
  t_Machine_step : MtC G P w K mg base ⟨callN tb n⟩ (rm n) "step" 12 13 []
  t_Machine_twin : MtC G P w K mg base ⟨callN tb n⟩ (rm n) "twin" 12 12 []
  no_add_edge : ∀ f, G.ne.fld f ≠ "add_edge"
  no_add_end : ∀ f, G.ne.fld f ≠ "add_end"
  no_add_start : ∀ f, G.ne.fld f ≠ "add_start"
  no_can_become : ∀ f, G.ne.fld f ≠ "can_become"
  no_edges : ∀ f, G.ne.fld f ≠ "edges"
  no_has_end : ∀ f, G.ne.fld f ≠ "has_end"
  no_is_now : ∀ f, G.ne.fld f ≠ "is_now"
  no_is_settled : ∀ f, G.ne.fld f ≠ "is_settled"
  no_read : ∀ f, G.ne.fld f ≠ "read"
  no_remove_edge : ∀ f, G.ne.fld f ≠ "remove_edge"
  no_remove_end : ∀ f, G.ne.fld f ≠ "remove_end"
  no_remove_start : ∀ f, G.ne.fld f ≠ "remove_start"
  no_require_state : ∀ f, G.ne.fld f ≠ "require_state"
  no_rows : ∀ f, G.ne.fld f ≠ "rows"
  no_starts : ∀ f, G.ne.fld f ≠ "starts"
  no_step : ∀ f, G.ne.fld f ≠ "step"
  no_twin : ∀ f, G.ne.fld f ≠ "twin"
  k_KindFollower : MkC G P w K mg base ⟨callN tb n⟩ (rm n) 19 17 []
  k_Machine : MkC G P w K mg base ⟨callN tb n⟩ (rm n) 12 2 []
  q_KindFollower_machines : FldC G K 19 12
  q_KindFollower_present : FldC G K 19 13
  q_Machine_first : FldC G K 12 10
  q_Machine_kept : FldC G K 12 9
  q_Machine_last : FldC G K 12 11
  q_Machine_signs : FldC G K 12 7
  q_Machine_states : FldC G K 12 8
  f_LookupError : mg "LookupError" = none
  f_OverflowError : mg "OverflowError" = none
  f_RuntimeError : mg "RuntimeError" = none
  f_ValueError : mg "ValueError" = none
  f_all : mg "all" = none
  f_any : mg "any" = none
  f_bool : mg "bool" = none
  f_int : mg "int" = none
  f_isinstance : mg "isinstance" = none
  f_len : mg "len" = none
  f_list : mg "list" = none
  f_range : mg "range" = none
  f_repr : mg "repr" = none
  f_set : mg "set" = none
  f_sorted : mg "sorted" = none
  f_str : mg "str" = none
  f_tuple : mg "tuple" = none
  f_zip : mg "zip" = none
  s_ALPHABET : ∃ t, mg "ALPHABET" = some (.str "abc" t)
  i_MAX_EDGES : ∃ t, mg "MAX_EDGES" = some (.int 14 t)
  i_MAX_SIGNS : ∃ t, mg "MAX_SIGNS" = some (.int 3 t)
  i_MAX_STATES : ∃ t, mg "MAX_STATES" = some (.int 6 t)
theorem sc_is_integer : FnScope N_is_integer ["value", "low", "high"] (defScope s_is_integer) := ⟨rfl, rfl, rfl, by decide +kernel, rfl, by decide +kernel, by decide +kernel⟩
theorem sc_is_log : FnScope N_is_log ["value", "signs"] (defScope s_is_log) := ⟨rfl, rfl, rfl, by decide +kernel, rfl, by decide +kernel, by decide +kernel⟩
theorem sc_Machine_DinitD : FnScope N_Machine_DinitD ["self", "signs", "states"] (defScope s_Machine_DinitD) := ⟨rfl, rfl, rfl, by decide +kernel, rfl, by decide +kernel, by decide +kernel⟩
theorem sc_Machine_require_state : FnScope N_Machine_require_state ["self", "state"] (defScope s_Machine_require_state) := ⟨rfl, rfl, rfl, by decide +kernel, rfl, by decide +kernel, by decide +kernel⟩
theorem sc_Machine_add_edge : FnScope N_Machine_add_edge ["self", "origin", "sign", "target"] (defScope s_Machine_add_edge) := ⟨rfl, rfl, rfl, by decide +kernel, rfl, by decide +kernel, by decide +kernel⟩
theorem sc_Machine_remove_edge : FnScope N_Machine_remove_edge ["self", "origin", "sign", "target"] (defScope s_Machine_remove_edge) := ⟨rfl, rfl, rfl, by decide +kernel, rfl, by decide +kernel, by decide +kernel⟩
theorem sc_Machine_add_start : FnScope N_Machine_add_start ["self", "state"] (defScope s_Machine_add_start) := ⟨rfl, rfl, rfl, by decide +kernel, rfl, by decide +kernel, by decide +kernel⟩
theorem sc_Machine_add_end : FnScope N_Machine_add_end ["self", "state"] (defScope s_Machine_add_end) := ⟨rfl, rfl, rfl, by decide +kernel, rfl, by decide +kernel, by decide +kernel⟩
theorem sc_Machine_remove_start : FnScope N_Machine_remove_start ["self", "state"] (defScope s_Machine_remove_start) := ⟨rfl, rfl, rfl, by decide +kernel, rfl, by decide +kernel, by decide +kernel⟩
theorem sc_Machine_remove_end : FnScope N_Machine_remove_end ["self", "state"] (defScope s_Machine_remove_end) := ⟨rfl, rfl, rfl, by decide +kernel, rfl, by decide +kernel, by decide +kernel⟩
theorem sc_Machine_edges : FnScope N_Machine_edges ["self"] (defScope s_Machine_edges) := ⟨rfl, rfl, rfl, by decide +kernel, rfl, by decide +kernel, by decide +kernel⟩
theorem sc_Machine_starts : FnScope N_Machine_starts ["self"] (defScope s_Machine_starts) := ⟨rfl, rfl, rfl, by decide +kernel, rfl, by decide +kernel, by decide +kernel⟩
theorem sc_Machine_twin : FnScope N_Machine_twin ["self"] (defScope s_Machine_twin) := ⟨rfl, rfl, rfl, by decide +kernel, rfl, by decide +kernel, by decide +kernel⟩
theorem sc_Machine_step : FnScope N_Machine_step ["self", "states", "sign"] (defScope s_Machine_step) := ⟨rfl, rfl, rfl, by decide +kernel, rfl, by decide +kernel, by decide +kernel⟩
theorem sc_Machine_has_end : FnScope N_Machine_has_end ["self", "states"] (defScope s_Machine_has_end) := ⟨rfl, rfl, rfl, by decide +kernel, rfl, by decide +kernel, by decide +kernel⟩
theorem sc_require_pair : FnScope N_require_pair ["pair"] (defScope s_require_pair) := ⟨rfl, rfl, rfl, by decide +kernel, rfl, by decide +kernel, by decide +kernel⟩
theorem sc_require_sign : FnScope N_require_sign ["sign", "signs"] (defScope s_require_sign) := ⟨rfl, rfl, rfl, by decide +kernel, rfl, by decide +kernel, by decide +kernel⟩
theorem sc_KindFollower_DinitD : FnScope N_KindFollower_DinitD ["self", "pair"] (defScope s_KindFollower_DinitD) := ⟨rfl, rfl, rfl, by decide +kernel, rfl, by decide +kernel, by decide +kernel⟩
theorem sc_KindFollower_read : FnScope N_KindFollower_read ["self", "sign"] (defScope s_KindFollower_read) := ⟨rfl, rfl, rfl, by decide +kernel, rfl, by decide +kernel, by decide +kernel⟩
theorem sc_KindFollower_is_now : FnScope N_KindFollower_is_now ["self"] (defScope s_KindFollower_is_now) := ⟨rfl, rfl, rfl, by decide +kernel, rfl, by decide +kernel, by decide +kernel⟩
theorem sc_KindFollower_rows : FnScope N_KindFollower_rows ["self"] (defScope s_KindFollower_rows) := ⟨rfl, rfl, rfl, by decide +kernel, rfl, by decide +kernel, by decide +kernel⟩
theorem sc_KindFollower_can_become : FnScope N_KindFollower_can_become ["self"] (defScope s_KindFollower_can_become) := ⟨rfl, rfl, rfl, by decide +kernel, rfl, by decide +kernel, by decide +kernel⟩
theorem sc_KindFollower_is_settled : FnScope N_KindFollower_is_settled ["self"] (defScope s_KindFollower_is_settled) := ⟨rfl, rfl, rfl, by decide +kernel, rfl, by decide +kernel, by decide +kernel⟩
theorem sc_reaches_end : FnScope N_reaches_end ["machine", "states"] (defScope s_reaches_end) := ⟨rfl, rfl, rfl, by decide +kernel, rfl, by decide +kernel, by decide +kernel⟩
theorem sc__law_pen : FnScope N__law_pen ["script"] (defScope s__law_pen) := ⟨rfl, rfl, rfl, by decide +kernel, rfl, by decide +kernel, by decide +kernel⟩
theorem sc__law_fresh : FnScope N__law_fresh ["pen"] (defScope s__law_fresh) := ⟨rfl, rfl, rfl, by decide +kernel, rfl, by decide +kernel, by decide +kernel⟩
theorem sc__law_draw : FnScope N__law_draw ["pen", "many"] (defScope s__law_draw) := ⟨rfl, rfl, rfl, by decide +kernel, rfl, by decide +kernel, by decide +kernel⟩
theorem sc__law_plan : FnScope N__law_plan ["pen", "signs", "states", "edges"] (defScope s__law_plan) := ⟨rfl, rfl, rfl, by decide +kernel, rfl, by decide +kernel, by decide +kernel⟩
theorem sc__law_machine_of : FnScope N__law_machine_of ["signs", "plan"] (defScope s__law_machine_of) := ⟨rfl, rfl, rfl, by decide +kernel, rfl, by decide +kernel, by decide +kernel⟩
theorem sc__law_stepped : FnScope N__law_stepped ["plan", "states", "sign"] (defScope s__law_stepped) := ⟨rfl, rfl, rfl, by decide +kernel, rfl, by decide +kernel, by decide +kernel⟩
theorem sc__law_states : FnScope N__law_states ["plan", "log"] (defScope s__law_states) := ⟨rfl, rfl, rfl, by decide +kernel, rfl, by decide +kernel, by decide +kernel⟩
theorem sc__law_has : FnScope N__law_has ["plan", "log"] (defScope s__law_has) := ⟨rfl, rfl, rfl, by decide +kernel, rfl, by decide +kernel, by decide +kernel⟩
theorem sc__law_can : FnScope N__law_can ["plan", "states", "k"] (defScope s__law_can) := ⟨rfl, rfl, rfl, by decide +kernel, rfl, by decide +kernel, by decide +kernel⟩
theorem sc__law_moved : FnScope N__law_moved ["pen", "machine", "k"] (defScope s__law_moved) := ⟨rfl, rfl, rfl, by decide +kernel, rfl, by decide +kernel, by decide +kernel⟩
theorem sc_law : FnScope N_law ["script"] (defScope s_law) := ⟨rfl, rfl, rfl, by decide +kernel, rfl, by decide +kernel, by decide +kernel⟩
theorem sc_NotALog_Dinit : FnScope ["self", "value"] ["self", "value"] (defScope s_NotALog_Dinit) := ⟨rfl, rfl, rfl, by decide +kernel, rfl, by decide +kernel, by decide +kernel⟩
theorem sc_Unpaired_Dinit : FnScope ["self"] ["self"] (defScope s_Unpaired_Dinit) := ⟨rfl, rfl, rfl, by decide +kernel, rfl, by decide +kernel, by decide +kernel⟩
theorem sc_UnknownState_Dinit : FnScope ["self", "state"] ["self", "state"] (defScope s_UnknownState_Dinit) := ⟨rfl, rfl, rfl, by decide +kernel, rfl, by decide +kernel, by decide +kernel⟩
theorem sc_UnknownEdge_Dinit : FnScope ["self", "edge"] ["self", "edge"] (defScope s_UnknownEdge_Dinit) := ⟨rfl, rfl, rfl, by decide +kernel, rfl, by decide +kernel, by decide +kernel⟩
theorem sc_EdgeExists_Dinit : FnScope ["self", "edge"] ["self", "edge"] (defScope s_EdgeExists_Dinit) := ⟨rfl, rfl, rfl, by decide +kernel, rfl, by decide +kernel, by decide +kernel⟩
theorem sc_LimitExceeded_Dinit : FnScope ["self", "limit"] ["self", "limit"] (defScope s_LimitExceeded_Dinit) := ⟨rfl, rfl, rfl, by decide +kernel, rfl, by decide +kernel, by decide +kernel⟩
section
variable {P : Program} {w : World} {K : PySem.W.Frag} {mg : Str → Option Value} {base : Heap} {G : Gx} {n : Nat} {f : Addr} {cdv : Value} {A : Around} {outer : List Env} {s : Shared} {H : Hp} {E : XK}
theorem d_is_integer (h : Fs P w K mg base G n) (hr : Room (rm n + 1) (A.deeper (envOfC "is_integer" (defScope s_is_integer) s.heap.objs.size f cdv))) (h0 : Room (rm n) (A.deeper (envOfC "is_integer" (defScope s_is_integer) s.heap.objs.size f cdv))) (h2 : Room 2 (A.deeper (envOfC "is_integer" (defScope s_is_integer) s.heap.objs.size f cdv))) (c : Ctx G (cxOf (L2.CX P w) P w K mg base N_is_integer "is_integer" (defScope s_is_integer) f cdv A outer s H E) (fun c d _ H => E c d H)) : PSs (cxOf (L2.CX P w) P w K mg base N_is_integer "is_integer" (defScope s_is_integer) f cdv A outer s H E) (defBody s_is_integer) (tS G (fun c d _ H => E c d H) ⟨callN tb n⟩ b_is_integer) :=
  s_one (s_ret (r_eand (r_isi (T := .int) c.toCtx0 rfl h.f_isinstance bo_isinstance (rv 0) rfl h.f_int bo_int) (r_eand (r_enot (r_isi (T := .bl) c.toCtx0 rfl h.f_isinstance bo_isinstance (rv 0) rfl h.f_bool bo_bool)) (pe_one (r_chain (o_le) (o_le) (rv 1) (rv 0) (rv 2))))))
theorem d_is_log (h : Fs P w K mg base G n) (hr : Room (rm n + 1) (A.deeper (envOfC "is_log" (defScope s_is_log) s.heap.objs.size f cdv))) (h0 : Room (rm n) (A.deeper (envOfC "is_log" (defScope s_is_log) s.heap.objs.size f cdv))) (h2 : Room 2 (A.deeper (envOfC "is_log" (defScope s_is_log) s.heap.objs.size f cdv))) (c : Ctx G (cxOf (L2.CX P w) P w K mg base N_is_log "is_log" (defScope s_is_log) f cdv A outer s H E) (fun c d _ H => E c d H)) : PSs (cxOf (L2.CX P w) P w K mg base N_is_log "is_log" (defScope s_is_log) f cdv A outer s H E) (defBody s_is_log) (tS G (fun c d _ H => E c d H) ⟨callN tb n⟩ b_is_log) :=
  s_one (s_ret (r_eand (r_isi (T := .str) c.toCtx0 rfl h.f_isinstance bo_isinstance (rv 0) rfl h.f_str bo_str) (pe_one (r_cb (b_all c) rfl h.f_all bo_all (r_cons (r_lc c (i_seq c.toCtx0 (rv 0)) (own := [(PySem.Str.ofString "sign", 2)]) (by kernel_rfl) rfl (by decide) (fun _ _ _ _ _ => gn (Ctx.blk c).toCtx0 2) (fun _ _ _ _ _ => r_pts0) (fun _ _ _ _ _ => r_cmp (o_in (Ctx.blk c).toCtx0) (rv 2) (r_cut (Ctx.blk c).toCtx0 (r_glob (v := .str (PySem.Str.ofString "abc")) rfl h.s_ALPHABET.choose_spec ⟨_, rfl⟩ (fun _ _ => rs_ALPHABET)) (r_pn) (r_ps (rv 1))) (by with_unfolding_all rfl))) (r_nil))))))
theorem d_Machine_DinitD (h : Fs P w K mg base G n) (hr : Room (rm n + 1) (A.deeper (envOfC "Machine.__init__" (defScope s_Machine_DinitD) s.heap.objs.size f cdv))) (h0 : Room (rm n) (A.deeper (envOfC "Machine.__init__" (defScope s_Machine_DinitD) s.heap.objs.size f cdv))) (h2 : Room 2 (A.deeper (envOfC "Machine.__init__" (defScope s_Machine_DinitD) s.heap.objs.size f cdv))) (c : Ctx G (cxOf (L2.CX P w) P w K mg base N_Machine_DinitD "Machine.__init__" (defScope s_Machine_DinitD) f cdv A outer s H E) (fun c d _ H => E c d H)) : PSs (cxOf (L2.CX P w) P w K mg base N_Machine_DinitD "Machine.__init__" (defScope s_Machine_DinitD) f cdv A outer s H E) (defBody s_Machine_DinitD) (tS G (fun c d _ H => E c d H) ⟨callN tb n⟩ b_Machine_DinitD) :=
  s_cons (s_if (r_not (r_tv c.toCtx0 (r_call c h.c_is_integer h0 rfl h.g_is_integer (r_cons (rv 1) (r_cons (r_int) (r_cons (r_glob (v := .int 3) rfl h.i_MAX_SIGNS.choose_spec ⟨_, rfl⟩ (fun _ _ => .int _)) (r_nil))))))) (s_one (s_raise1 c h.x_LimitExceeded h2 rfl h.m_LimitExceeded (r_glob (v := .int 3) rfl h.i_MAX_SIGNS.choose_spec ⟨_, rfl⟩ (fun _ _ => .int _)))) (s_nil)) (s_cons (s_if (r_not (r_tv c.toCtx0 (r_call c h.c_is_integer h0 rfl h.g_is_integer (r_cons (rv 2) (r_cons (r_int) (r_cons (r_glob (v := .int 6) rfl h.i_MAX_STATES.choose_spec ⟨_, rfl⟩ (fun _ _ => .int _)) (r_nil))))))) (s_one (s_raise1 c h.x_LimitExceeded h2 rfl h.m_LimitExceeded (r_glob (v := .int 6) rfl h.i_MAX_STATES.choose_spec ⟨_, rfl⟩ (fun _ _ => .int _)))) (s_nil)) (s_cons (s_fld (List.forall_mem_cons.mpr ⟨h.q_Machine_signs, (fun _ z => nomatch z)⟩) h.l_7 (rv 0) (rv 1)) (s_cons (s_fld (List.forall_mem_cons.mpr ⟨h.q_Machine_states, (fun _ z => nomatch z)⟩) h.l_8 (rv 0) (rv 2)) (s_cons (s_fld (List.forall_mem_cons.mpr ⟨h.q_Machine_kept, (fun _ z => nomatch z)⟩) h.l_9 (rv 0) (r_lst (r_nil))) (s_cons (s_fld (List.forall_mem_cons.mpr ⟨h.q_Machine_first, (fun _ z => nomatch z)⟩) h.l_10 (rv 0) (r_lst (r_nil))) (s_one (s_fld (List.forall_mem_cons.mpr ⟨h.q_Machine_last, (fun _ z => nomatch z)⟩) h.l_11 (rv 0) (r_lst (r_nil)))))))))
theorem d_Machine_require_state (h : Fs P w K mg base G n) (hr : Room (rm n + 1) (A.deeper (envOfC "Machine.require_state" (defScope s_Machine_require_state) s.heap.objs.size f cdv))) (h0 : Room (rm n) (A.deeper (envOfC "Machine.require_state" (defScope s_Machine_require_state) s.heap.objs.size f cdv))) (h2 : Room 2 (A.deeper (envOfC "Machine.require_state" (defScope s_Machine_require_state) s.heap.objs.size f cdv))) (c : Ctx G (cxOf (L2.CX P w) P w K mg base N_Machine_require_state "Machine.require_state" (defScope s_Machine_require_state) f cdv A outer s H E) (fun c d _ H => E c d H)) : PSs (cxOf (L2.CX P w) P w K mg base N_Machine_require_state "Machine.require_state" (defScope s_Machine_require_state) f cdv A outer s H E) (defBody s_Machine_require_state) (tS G (fun c d _ H => E c d H) ⟨callN tb n⟩ b_Machine_require_state) :=
  s_one (s_if (r_not (r_tv c.toCtx0 (r_call c h.c_is_integer h0 rfl h.g_is_integer (r_cons (rv 1) (r_cons (r_int) (r_cons (r_op o_sub (r_fld (List.forall_mem_cons.mpr ⟨h.q_Machine_states, (fun _ z => nomatch z)⟩) h.l_8 (rv 0)) (r_int)) (r_nil))))))) (s_one (s_raise1 c h.x_UnknownState h2 rfl h.m_UnknownState (rv 1))) (s_nil))
theorem d_Machine_add_edge (h : Fs P w K mg base G n) (hr : Room (rm n + 1) (A.deeper (envOfC "Machine.add_edge" (defScope s_Machine_add_edge) s.heap.objs.size f cdv))) (h0 : Room (rm n) (A.deeper (envOfC "Machine.add_edge" (defScope s_Machine_add_edge) s.heap.objs.size f cdv))) (h2 : Room 2 (A.deeper (envOfC "Machine.add_edge" (defScope s_Machine_add_edge) s.heap.objs.size f cdv))) (c : Ctx G (cxOf (L2.CX P w) P w K mg base N_Machine_add_edge "Machine.add_edge" (defScope s_Machine_add_edge) f cdv A outer s H E) (fun c d _ H => E c d H)) : PSs (cxOf (L2.CX P w) P w K mg base N_Machine_add_edge "Machine.add_edge" (defScope s_Machine_add_edge) f cdv A outer s H E) (defBody s_Machine_add_edge) (tS G (fun c d _ H => E c d H) ⟨callN tb n⟩ b_Machine_add_edge) :=
  s_cons (s_expr (r_meth (tbl := [(12, 3)]) c h.no_require_state (List.forall_mem_cons.mpr ⟨h.t_Machine_require_state, (fun _ z => nomatch z)⟩) h0 (rv 0) (r_cons (rv 1) (r_nil)))) (s_cons (s_expr (r_meth (tbl := [(12, 3)]) c h.no_require_state (List.forall_mem_cons.mpr ⟨h.t_Machine_require_state, (fun _ z => nomatch z)⟩) h0 (rv 0) (r_cons (rv 3) (r_nil)))) (s_cons (s_if (PW.pt (r_or (r_not (r_tv c.toCtx0 (r_call c h.c_is_log h0 rfl h.g_is_log (r_cons (rv 2) (r_cons (r_fld (List.forall_mem_cons.mpr ⟨h.q_Machine_signs, (fun _ z => nomatch z)⟩) h.l_7 (rv 0)) (r_nil)))))) (r_or1 (r_tb (o_neC c.toCtx0) (r_cb (b_len c.hK) rfl h.f_len bo_len (r_cons (rv 2) (r_nil))) (r_int) (nomark _))))) (s_one (s_raise1 c h.x_NotALog h2 rfl h.m_NotALog (rv 2))) (s_nil)) (s_cons (s_set (r_tup (r_cons (rv 1) (r_cons (rv 2) (r_cons (rv 3) (r_nil))))) (gn c.toCtx0 4)) (s_cons (s_if (r_tb (o_in c.toCtx0) (rv 4) (r_fld (List.forall_mem_cons.mpr ⟨h.q_Machine_kept, (fun _ z => nomatch z)⟩) h.l_9 (rv 0)) (by with_unfolding_all rfl)) (s_one (s_raise1 c h.x_EdgeExists h2 rfl h.m_EdgeExists (rv 4))) (s_nil)) (s_cons (s_if (r_tb (o_eqC c.toCtx0) (r_cb (b_len c.hK) rfl h.f_len bo_len (r_cons (r_fld (List.forall_mem_cons.mpr ⟨h.q_Machine_kept, (fun _ z => nomatch z)⟩) h.l_9 (rv 0)) (r_nil))) (r_glob (v := .int 14) rfl h.i_MAX_EDGES.choose_spec ⟨_, rfl⟩ (fun _ _ => .int _)) (nomark _)) (s_one (s_raise1 c h.x_LimitExceeded h2 rfl h.m_LimitExceeded (r_glob (v := .int 14) rfl h.i_MAX_EDGES.choose_spec ⟨_, rfl⟩ (fun _ _ => .int _)))) (s_nil)) (s_one (s_expr (r_bm PySem.F.plainAttrs_list PySem.F.slot_list_append PySem.F.type_list_append m_append (fun _ _ _ _ _ => ty_lst c.hK) (r_fld (List.forall_mem_cons.mpr ⟨h.q_Machine_kept, (fun _ z => nomatch z)⟩) h.l_9 (rv 0)) (r_cons (rv 4) (r_nil))))))))))
theorem d_Machine_remove_edge (h : Fs P w K mg base G n) (hr : Room (rm n + 1) (A.deeper (envOfC "Machine.remove_edge" (defScope s_Machine_remove_edge) s.heap.objs.size f cdv))) (h0 : Room (rm n) (A.deeper (envOfC "Machine.remove_edge" (defScope s_Machine_remove_edge) s.heap.objs.size f cdv))) (h2 : Room 2 (A.deeper (envOfC "Machine.remove_edge" (defScope s_Machine_remove_edge) s.heap.objs.size f cdv))) (c : Ctx G (cxOf (L2.CX P w) P w K mg base N_Machine_remove_edge "Machine.remove_edge" (defScope s_Machine_remove_edge) f cdv A outer s H E) (fun c d _ H => E c d H)) : PSs (cxOf (L2.CX P w) P w K mg base N_Machine_remove_edge "Machine.remove_edge" (defScope s_Machine_remove_edge) f cdv A outer s H E) (defBody s_Machine_remove_edge) (tS G (fun c d _ H => E c d H) ⟨callN tb n⟩ b_Machine_remove_edge) :=
  s_cons (s_set (r_tup (r_cons (rv 1) (r_cons (rv 2) (r_cons (rv 3) (r_nil))))) (gn c.toCtx0 4)) (s_cons (s_if (r_tb (o_notin c.toCtx0) (rv 4) (r_fld (List.forall_mem_cons.mpr ⟨h.q_Machine_kept, (fun _ z => nomatch z)⟩) h.l_9 (rv 0)) (by with_unfolding_all rfl)) (s_one (s_raise1 c h.x_UnknownEdge h2 rfl h.m_UnknownEdge (rv 4))) (s_nil)) (s_one (s_expr (r_bm PySem.F.plainAttrs_list PySem.F.slot_list_remove PySem.F.type_list_remove (m_remove c.toCtx0) (fun _ _ _ _ _ => ty_lst c.hK) (r_fld (List.forall_mem_cons.mpr ⟨h.q_Machine_kept, (fun _ z => nomatch z)⟩) h.l_9 (rv 0)) (r_cons (rv 4) (r_nil))))))
theorem d_Machine_add_start (h : Fs P w K mg base G n) (hr : Room (rm n + 1) (A.deeper (envOfC "Machine.add_start" (defScope s_Machine_add_start) s.heap.objs.size f cdv))) (h0 : Room (rm n) (A.deeper (envOfC "Machine.add_start" (defScope s_Machine_add_start) s.heap.objs.size f cdv))) (h2 : Room 2 (A.deeper (envOfC "Machine.add_start" (defScope s_Machine_add_start) s.heap.objs.size f cdv))) (c : Ctx G (cxOf (L2.CX P w) P w K mg base N_Machine_add_start "Machine.add_start" (defScope s_Machine_add_start) f cdv A outer s H E) (fun c d _ H => E c d H)) : PSs (cxOf (L2.CX P w) P w K mg base N_Machine_add_start "Machine.add_start" (defScope s_Machine_add_start) f cdv A outer s H E) (defBody s_Machine_add_start) (tS G (fun c d _ H => E c d H) ⟨callN tb n⟩ b_Machine_add_start) :=
  s_cons (s_expr (r_meth (tbl := [(12, 3)]) c h.no_require_state (List.forall_mem_cons.mpr ⟨h.t_Machine_require_state, (fun _ z => nomatch z)⟩) h0 (rv 0) (r_cons (rv 1) (r_nil)))) (s_cons (s_if (r_tb (o_in c.toCtx0) (rv 1) (r_fld (List.forall_mem_cons.mpr ⟨h.q_Machine_first, (fun _ z => nomatch z)⟩) h.l_10 (rv 0)) (by with_unfolding_all rfl)) (s_one (s_ret (r_bl))) (s_nil)) (s_cons (s_expr (r_bm PySem.F.plainAttrs_list PySem.F.slot_list_append PySem.F.type_list_append m_append (fun _ _ _ _ _ => ty_lst c.hK) (r_fld (List.forall_mem_cons.mpr ⟨h.q_Machine_first, (fun _ z => nomatch z)⟩) h.l_10 (rv 0)) (r_cons (rv 1) (r_nil)))) (s_one (s_ret (r_bl)))))
theorem d_Machine_add_end (h : Fs P w K mg base G n) (hr : Room (rm n + 1) (A.deeper (envOfC "Machine.add_end" (defScope s_Machine_add_end) s.heap.objs.size f cdv))) (h0 : Room (rm n) (A.deeper (envOfC "Machine.add_end" (defScope s_Machine_add_end) s.heap.objs.size f cdv))) (h2 : Room 2 (A.deeper (envOfC "Machine.add_end" (defScope s_Machine_add_end) s.heap.objs.size f cdv))) (c : Ctx G (cxOf (L2.CX P w) P w K mg base N_Machine_add_end "Machine.add_end" (defScope s_Machine_add_end) f cdv A outer s H E) (fun c d _ H => E c d H)) : PSs (cxOf (L2.CX P w) P w K mg base N_Machine_add_end "Machine.add_end" (defScope s_Machine_add_end) f cdv A outer s H E) (defBody s_Machine_add_end) (tS G (fun c d _ H => E c d H) ⟨callN tb n⟩ b_Machine_add_end) :=
  s_cons (s_expr (r_meth (tbl := [(12, 3)]) c h.no_require_state (List.forall_mem_cons.mpr ⟨h.t_Machine_require_state, (fun _ z => nomatch z)⟩) h0 (rv 0) (r_cons (rv 1) (r_nil)))) (s_cons (s_if (r_tb (o_in c.toCtx0) (rv 1) (r_fld (List.forall_mem_cons.mpr ⟨h.q_Machine_last, (fun _ z => nomatch z)⟩) h.l_11 (rv 0)) (by with_unfolding_all rfl)) (s_one (s_ret (r_bl))) (s_nil)) (s_cons (s_expr (r_bm PySem.F.plainAttrs_list PySem.F.slot_list_append PySem.F.type_list_append m_append (fun _ _ _ _ _ => ty_lst c.hK) (r_fld (List.forall_mem_cons.mpr ⟨h.q_Machine_last, (fun _ z => nomatch z)⟩) h.l_11 (rv 0)) (r_cons (rv 1) (r_nil)))) (s_one (s_ret (r_bl)))))
theorem d_Machine_remove_start (h : Fs P w K mg base G n) (hr : Room (rm n + 1) (A.deeper (envOfC "Machine.remove_start" (defScope s_Machine_remove_start) s.heap.objs.size f cdv))) (h0 : Room (rm n) (A.deeper (envOfC "Machine.remove_start" (defScope s_Machine_remove_start) s.heap.objs.size f cdv))) (h2 : Room 2 (A.deeper (envOfC "Machine.remove_start" (defScope s_Machine_remove_start) s.heap.objs.size f cdv))) (c : Ctx G (cxOf (L2.CX P w) P w K mg base N_Machine_remove_start "Machine.remove_start" (defScope s_Machine_remove_start) f cdv A outer s H E) (fun c d _ H => E c d H)) : PSs (cxOf (L2.CX P w) P w K mg base N_Machine_remove_start "Machine.remove_start" (defScope s_Machine_remove_start) f cdv A outer s H E) (defBody s_Machine_remove_start) (tS G (fun c d _ H => E c d H) ⟨callN tb n⟩ b_Machine_remove_start) :=
  s_cons (s_expr (r_meth (tbl := [(12, 3)]) c h.no_require_state (List.forall_mem_cons.mpr ⟨h.t_Machine_require_state, (fun _ z => nomatch z)⟩) h0 (rv 0) (r_cons (rv 1) (r_nil)))) (s_cons (s_if (r_tb (o_notin c.toCtx0) (rv 1) (r_fld (List.forall_mem_cons.mpr ⟨h.q_Machine_first, (fun _ z => nomatch z)⟩) h.l_10 (rv 0)) (by with_unfolding_all rfl)) (s_one (s_ret (r_bl))) (s_nil)) (s_cons (s_expr (r_bm PySem.F.plainAttrs_list PySem.F.slot_list_remove PySem.F.type_list_remove (m_remove c.toCtx0) (fun _ _ _ _ _ => ty_lst c.hK) (r_fld (List.forall_mem_cons.mpr ⟨h.q_Machine_first, (fun _ z => nomatch z)⟩) h.l_10 (rv 0)) (r_cons (rv 1) (r_nil)))) (s_one (s_ret (r_bl)))))
theorem d_Machine_remove_end (h : Fs P w K mg base G n) (hr : Room (rm n + 1) (A.deeper (envOfC "Machine.remove_end" (defScope s_Machine_remove_end) s.heap.objs.size f cdv))) (h0 : Room (rm n) (A.deeper (envOfC "Machine.remove_end" (defScope s_Machine_remove_end) s.heap.objs.size f cdv))) (h2 : Room 2 (A.deeper (envOfC "Machine.remove_end" (defScope s_Machine_remove_end) s.heap.objs.size f cdv))) (c : Ctx G (cxOf (L2.CX P w) P w K mg base N_Machine_remove_end "Machine.remove_end" (defScope s_Machine_remove_end) f cdv A outer s H E) (fun c d _ H => E c d H)) : PSs (cxOf (L2.CX P w) P w K mg base N_Machine_remove_end "Machine.remove_end" (defScope s_Machine_remove_end) f cdv A outer s H E) (defBody s_Machine_remove_end) (tS G (fun c d _ H => E c d H) ⟨callN tb n⟩ b_Machine_remove_end) :=
  s_cons (s_expr (r_meth (tbl := [(12, 3)]) c h.no_require_state (List.forall_mem_cons.mpr ⟨h.t_Machine_require_state, (fun _ z => nomatch z)⟩) h0 (rv 0) (r_cons (rv 1) (r_nil)))) (s_cons (s_if (r_tb (o_notin c.toCtx0) (rv 1) (r_fld (List.forall_mem_cons.mpr ⟨h.q_Machine_last, (fun _ z => nomatch z)⟩) h.l_11 (rv 0)) (by with_unfolding_all rfl)) (s_one (s_ret (r_bl))) (s_nil)) (s_cons (s_expr (r_bm PySem.F.plainAttrs_list PySem.F.slot_list_remove PySem.F.type_list_remove (m_remove c.toCtx0) (fun _ _ _ _ _ => ty_lst c.hK) (r_fld (List.forall_mem_cons.mpr ⟨h.q_Machine_last, (fun _ z => nomatch z)⟩) h.l_11 (rv 0)) (r_cons (rv 1) (r_nil)))) (s_one (s_ret (r_bl)))))
theorem d_Machine_edges (h : Fs P w K mg base G n) (hr : Room (rm n + 1) (A.deeper (envOfC "Machine.edges" (defScope s_Machine_edges) s.heap.objs.size f cdv))) (h0 : Room (rm n) (A.deeper (envOfC "Machine.edges" (defScope s_Machine_edges) s.heap.objs.size f cdv))) (h2 : Room 2 (A.deeper (envOfC "Machine.edges" (defScope s_Machine_edges) s.heap.objs.size f cdv))) (c : Ctx G (cxOf (L2.CX P w) P w K mg base N_Machine_edges "Machine.edges" (defScope s_Machine_edges) f cdv A outer s H E) (fun c d _ H => E c d H)) : PSs (cxOf (L2.CX P w) P w K mg base N_Machine_edges "Machine.edges" (defScope s_Machine_edges) f cdv A outer s H E) (defBody s_Machine_edges) (tS G (fun c d _ H => E c d H) ⟨callN tb n⟩ b_Machine_edges) :=
  s_one (s_ret (r_ct (b_tuple c.hK) rfl h.f_tuple bo_tuple (r_cons (r_cb (b_sorted c.toCtx0) rfl h.f_sorted bo_sorted (r_cons (r_fld (List.forall_mem_cons.mpr ⟨h.q_Machine_kept, (fun _ z => nomatch z)⟩) h.l_9 (rv 0)) (r_nil))) (r_nil))))
theorem d_Machine_starts (h : Fs P w K mg base G n) (hr : Room (rm n + 1) (A.deeper (envOfC "Machine.starts" (defScope s_Machine_starts) s.heap.objs.size f cdv))) (h0 : Room (rm n) (A.deeper (envOfC "Machine.starts" (defScope s_Machine_starts) s.heap.objs.size f cdv))) (h2 : Room 2 (A.deeper (envOfC "Machine.starts" (defScope s_Machine_starts) s.heap.objs.size f cdv))) (c : Ctx G (cxOf (L2.CX P w) P w K mg base N_Machine_starts "Machine.starts" (defScope s_Machine_starts) f cdv A outer s H E) (fun c d _ H => E c d H)) : PSs (cxOf (L2.CX P w) P w K mg base N_Machine_starts "Machine.starts" (defScope s_Machine_starts) f cdv A outer s H E) (defBody s_Machine_starts) (tS G (fun c d _ H => E c d H) ⟨callN tb n⟩ b_Machine_starts) :=
  s_one (s_ret (r_ct (b_tuple c.hK) rfl h.f_tuple bo_tuple (r_cons (r_cb (b_sorted c.toCtx0) rfl h.f_sorted bo_sorted (r_cons (r_fld (List.forall_mem_cons.mpr ⟨h.q_Machine_first, (fun _ z => nomatch z)⟩) h.l_10 (rv 0)) (r_nil))) (r_nil))))
theorem d_Machine_twin (h : Fs P w K mg base G n) (hr : Room (rm n + 1) (A.deeper (envOfC "Machine.twin" (defScope s_Machine_twin) s.heap.objs.size f cdv))) (h0 : Room (rm n) (A.deeper (envOfC "Machine.twin" (defScope s_Machine_twin) s.heap.objs.size f cdv))) (h2 : Room 2 (A.deeper (envOfC "Machine.twin" (defScope s_Machine_twin) s.heap.objs.size f cdv))) (c : Ctx G (cxOf (L2.CX P w) P w K mg base N_Machine_twin "Machine.twin" (defScope s_Machine_twin) f cdv A outer s H E) (fun c d _ H => E c d H)) : PSs (cxOf (L2.CX P w) P w K mg base N_Machine_twin "Machine.twin" (defScope s_Machine_twin) f cdv A outer s H E) (defBody s_Machine_twin) (tS G (fun c d _ H => E c d H) ⟨callN tb n⟩ b_Machine_twin) :=
  s_cons (s_set (r_new c h.k_Machine hr rfl h.m_Machine (r_cons (r_fld (List.forall_mem_cons.mpr ⟨h.q_Machine_signs, (fun _ z => nomatch z)⟩) h.l_7 (rv 0)) (r_cons (r_fld (List.forall_mem_cons.mpr ⟨h.q_Machine_states, (fun _ z => nomatch z)⟩) h.l_8 (rv 0)) (r_nil)))) (gn c.toCtx0 1)) (s_cons (s_fld (List.forall_mem_cons.mpr ⟨h.q_Machine_kept, (fun _ z => nomatch z)⟩) h.l_9 (rv 1) (r_ct (b_listX c) rfl h.f_list bo_list (r_cons (r_fld (List.forall_mem_cons.mpr ⟨h.q_Machine_kept, (fun _ z => nomatch z)⟩) h.l_9 (rv 0)) (r_nil)))) (s_cons (s_fld (List.forall_mem_cons.mpr ⟨h.q_Machine_first, (fun _ z => nomatch z)⟩) h.l_10 (rv 1) (r_ct (b_listX c) rfl h.f_list bo_list (r_cons (r_fld (List.forall_mem_cons.mpr ⟨h.q_Machine_first, (fun _ z => nomatch z)⟩) h.l_10 (rv 0)) (r_nil)))) (s_cons (s_fld (List.forall_mem_cons.mpr ⟨h.q_Machine_last, (fun _ z => nomatch z)⟩) h.l_11 (rv 1) (r_ct (b_listX c) rfl h.f_list bo_list (r_cons (r_fld (List.forall_mem_cons.mpr ⟨h.q_Machine_last, (fun _ z => nomatch z)⟩) h.l_11 (rv 0)) (r_nil)))) (s_one (s_ret (rv 1))))))
theorem d_Machine_step (h : Fs P w K mg base G n) (hr : Room (rm n + 1) (A.deeper (envOfC "Machine.step" (defScope s_Machine_step) s.heap.objs.size f cdv))) (h0 : Room (rm n) (A.deeper (envOfC "Machine.step" (defScope s_Machine_step) s.heap.objs.size f cdv))) (h2 : Room 2 (A.deeper (envOfC "Machine.step" (defScope s_Machine_step) s.heap.objs.size f cdv))) (c : Ctx G (cxOf (L2.CX P w) P w K mg base N_Machine_step "Machine.step" (defScope s_Machine_step) f cdv A outer s H E) (fun c d _ H => E c d H)) : PSs (cxOf (L2.CX P w) P w K mg base N_Machine_step "Machine.step" (defScope s_Machine_step) f cdv A outer s H E) (defBody s_Machine_step) (tS G (fun c d _ H => E c d H) ⟨callN tb n⟩ b_Machine_step) :=
  s_cons (s_setDc (i := 3) c rfl rfl (swD_true rfl rfl rfl (by decide +kernel)) (i_seq c.toCtx0 (r_fld (List.forall_mem_cons.mpr ⟨h.q_Machine_kept, (fun _ z => nomatch z)⟩) h.l_9 (rv 0))) (own := [(PySem.Str.ofString "origin", 4), (PySem.Str.ofString "letter", 5), (PySem.Str.ofString "target", 6)]) (by kernel_rfl) rfl (by decide) (fun _ _ _ _ _ => g_tup (Ctx.blk c) (g_cons (gn (Ctx.blk c).toCtx0 4) (g_cons (gn (Ctx.blk c).toCtx0 5) (g_cons (gn (Ctx.blk c).toCtx0 6) (g_nil))))) (fun _ _ _ _ _ => r_pts1 (PW.pt (r_and (r_tb (o_eqC (Ctx.blk c).toCtx0) (rv 5) (rv 2) (nomark _)) (r_and1 (r_tb (o_in (Ctx.blk c).toCtx0) (rv 4) (rv 1) (by with_unfolding_all rfl)))))) (fun _ _ _ _ _ => rv 6) (fun _ _ _ _ _ => r_bl)) (s_one (s_ret (r_ct (b_tuple c.hK) rfl h.f_tuple bo_tuple (r_cons (r_cb (b_sorted c.toCtx0) rfl h.f_sorted bo_sorted (r_cons (r_ct (b_listX c) rfl h.f_list bo_list (r_cons (rv 3) (r_nil))) (r_nil))) (r_nil)))))
theorem d_Machine_has_end (h : Fs P w K mg base G n) (hr : Room (rm n + 1) (A.deeper (envOfC "Machine.has_end" (defScope s_Machine_has_end) s.heap.objs.size f cdv))) (h0 : Room (rm n) (A.deeper (envOfC "Machine.has_end" (defScope s_Machine_has_end) s.heap.objs.size f cdv))) (h2 : Room 2 (A.deeper (envOfC "Machine.has_end" (defScope s_Machine_has_end) s.heap.objs.size f cdv))) (c : Ctx G (cxOf (L2.CX P w) P w K mg base N_Machine_has_end "Machine.has_end" (defScope s_Machine_has_end) f cdv A outer s H E) (fun c d _ H => E c d H)) : PSs (cxOf (L2.CX P w) P w K mg base N_Machine_has_end "Machine.has_end" (defScope s_Machine_has_end) f cdv A outer s H E) (defBody s_Machine_has_end) (tS G (fun c d _ H => E c d H) ⟨callN tb n⟩ b_Machine_has_end) :=
  s_one (s_ret (r_cb (b_any c) rfl h.f_any bo_any (r_cons (r_lc c (i_seq c.toCtx0 (rv 1)) (own := [(PySem.Str.ofString "state", 2)]) (by kernel_rfl) rfl (by decide) (fun _ _ _ _ _ => gn (Ctx.blk c).toCtx0 2) (fun _ _ _ _ _ => r_pts0) (fun _ _ _ _ _ => r_cmp (o_in (Ctx.blk c).toCtx0) (rv 2) (r_fld (List.forall_mem_cons.mpr ⟨h.q_Machine_last, (fun _ z => nomatch z)⟩) h.l_11 (rv 0)) (by with_unfolding_all rfl))) (r_nil))))
theorem d_require_pair (h : Fs P w K mg base G n) (hr : Room (rm n + 1) (A.deeper (envOfC "require_pair" (defScope s_require_pair) s.heap.objs.size f cdv))) (h0 : Room (rm n) (A.deeper (envOfC "require_pair" (defScope s_require_pair) s.heap.objs.size f cdv))) (h2 : Room 2 (A.deeper (envOfC "require_pair" (defScope s_require_pair) s.heap.objs.size f cdv))) (c : Ctx G (cxOf (L2.CX P w) P w K mg base N_require_pair "require_pair" (defScope s_require_pair) f cdv A outer s H E) (fun c d _ H => E c d H)) : PSs (cxOf (L2.CX P w) P w K mg base N_require_pair "require_pair" (defScope s_require_pair) f cdv A outer s H E) (defBody s_require_pair) (tS G (fun c d _ H => E c d H) ⟨callN tb n⟩ b_require_pair) :=
  s_one (s_if (r_tb (o_neC c.toCtx0) (r_fld (List.forall_mem_cons.mpr ⟨h.q_Machine_signs, (fun _ z => nomatch z)⟩) h.l_7 (r_ix c.toCtx0 (rv 0) (r_int))) (r_fld (List.forall_mem_cons.mpr ⟨h.q_Machine_signs, (fun _ z => nomatch z)⟩) h.l_7 (r_ix c.toCtx0 (rv 0) (r_int))) (nomark _)) (s_one (s_raise0 c h.x_Unpaired h2 rfl h.m_Unpaired)) (s_nil))
theorem d_require_sign (h : Fs P w K mg base G n) (hr : Room (rm n + 1) (A.deeper (envOfC "require_sign" (defScope s_require_sign) s.heap.objs.size f cdv))) (h0 : Room (rm n) (A.deeper (envOfC "require_sign" (defScope s_require_sign) s.heap.objs.size f cdv))) (h2 : Room 2 (A.deeper (envOfC "require_sign" (defScope s_require_sign) s.heap.objs.size f cdv))) (c : Ctx G (cxOf (L2.CX P w) P w K mg base N_require_sign "require_sign" (defScope s_require_sign) f cdv A outer s H E) (fun c d _ H => E c d H)) : PSs (cxOf (L2.CX P w) P w K mg base N_require_sign "require_sign" (defScope s_require_sign) f cdv A outer s H E) (defBody s_require_sign) (tS G (fun c d _ H => E c d H) ⟨callN tb n⟩ b_require_sign) :=
  s_one (s_if (PW.pt (r_or (r_not (r_tv c.toCtx0 (r_call c h.c_is_log h0 rfl h.g_is_log (r_cons (rv 0) (r_cons (rv 1) (r_nil)))))) (r_or1 (r_tb (o_neC c.toCtx0) (r_cb (b_len c.hK) rfl h.f_len bo_len (r_cons (rv 0) (r_nil))) (r_int) (nomark _))))) (s_one (s_raise1 c h.x_NotALog h2 rfl h.m_NotALog (rv 0))) (s_nil))
theorem d_KindFollower_DinitD (h : Fs P w K mg base G n) (hr : Room (rm n + 1) (A.deeper (envOfC "KindFollower.__init__" (defScope s_KindFollower_DinitD) s.heap.objs.size f cdv))) (h0 : Room (rm n) (A.deeper (envOfC "KindFollower.__init__" (defScope s_KindFollower_DinitD) s.heap.objs.size f cdv))) (h2 : Room 2 (A.deeper (envOfC "KindFollower.__init__" (defScope s_KindFollower_DinitD) s.heap.objs.size f cdv))) (c : Ctx G (cxOf (L2.CX P w) P w K mg base N_KindFollower_DinitD "KindFollower.__init__" (defScope s_KindFollower_DinitD) f cdv A outer s H E) (fun c d _ H => E c d H)) : PSs (cxOf (L2.CX P w) P w K mg base N_KindFollower_DinitD "KindFollower.__init__" (defScope s_KindFollower_DinitD) f cdv A outer s H E) (defBody s_KindFollower_DinitD) (tS G (fun c d _ H => E c d H) ⟨callN tb n⟩ b_KindFollower_DinitD) :=
  s_cons (s_expr (r_call c h.c_require_pair h0 rfl h.g_require_pair (r_cons (rv 1) (r_nil)))) (s_cons (s_fld (List.forall_mem_cons.mpr ⟨h.q_KindFollower_machines, (fun _ z => nomatch z)⟩) h.l_12 (rv 0) (r_tup (r_cons (r_meth0 (tbl := [(12, 12)]) c h.no_twin (List.forall_mem_cons.mpr ⟨h.t_Machine_twin, (fun _ z => nomatch z)⟩) h0 (r_ix c.toCtx0 (rv 1) (r_int))) (r_cons (r_meth0 (tbl := [(12, 12)]) c h.no_twin (List.forall_mem_cons.mpr ⟨h.t_Machine_twin, (fun _ z => nomatch z)⟩) h0 (r_ix c.toCtx0 (rv 1) (r_int))) (r_nil))))) (s_one (s_fld (List.forall_mem_cons.mpr ⟨h.q_KindFollower_present, (fun _ z => nomatch z)⟩) h.l_13 (rv 0) (r_ct (b_tuple c.hK) rfl h.f_tuple bo_tuple (r_cons (r_lc c (i_seq c.toCtx0 (r_fld (List.forall_mem_cons.mpr ⟨h.q_KindFollower_machines, (fun _ z => nomatch z)⟩) h.l_12 (rv 0))) (own := [(PySem.Str.ofString "machine", 2)]) (by kernel_rfl) rfl (by decide) (fun _ _ _ _ _ => gn (Ctx.blk c).toCtx0 2) (fun _ _ _ _ _ => r_pts0) (fun _ _ _ _ _ => r_meth0 (tbl := [(12, 11)]) (Ctx.blk c) h.no_starts (List.forall_mem_cons.mpr ⟨h.t_Machine_starts, (fun _ z => nomatch z)⟩) h0 (rv 2))) (r_nil))))))
theorem d_KindFollower_read (h : Fs P w K mg base G n) (hr : Room (rm n + 1) (A.deeper (envOfC "KindFollower.read" (defScope s_KindFollower_read) s.heap.objs.size f cdv))) (h0 : Room (rm n) (A.deeper (envOfC "KindFollower.read" (defScope s_KindFollower_read) s.heap.objs.size f cdv))) (h2 : Room 2 (A.deeper (envOfC "KindFollower.read" (defScope s_KindFollower_read) s.heap.objs.size f cdv))) (c : Ctx G (cxOf (L2.CX P w) P w K mg base N_KindFollower_read "KindFollower.read" (defScope s_KindFollower_read) f cdv A outer s H E) (fun c d _ H => E c d H)) : PSs (cxOf (L2.CX P w) P w K mg base N_KindFollower_read "KindFollower.read" (defScope s_KindFollower_read) f cdv A outer s H E) (defBody s_KindFollower_read) (tS G (fun c d _ H => E c d H) ⟨callN tb n⟩ b_KindFollower_read) :=
  s_cons (s_expr (r_call c h.c_require_sign h0 rfl h.g_require_sign (r_cons (rv 1) (r_cons (r_fld (List.forall_mem_cons.mpr ⟨h.q_Machine_signs, (fun _ z => nomatch z)⟩) h.l_7 (r_ix c.toCtx0 (r_fld (List.forall_mem_cons.mpr ⟨h.q_KindFollower_machines, (fun _ z => nomatch z)⟩) h.l_12 (rv 0)) (r_int))) (r_nil))))) (s_one (s_fld (List.forall_mem_cons.mpr ⟨h.q_KindFollower_present, (fun _ z => nomatch z)⟩) h.l_13 (rv 0) (r_ct (b_tuple c.hK) rfl h.f_tuple bo_tuple (r_cons (r_lc c (i_seq c.toCtx0 (r_meth0 (tbl := [(19, 20)]) c h.no_rows (List.forall_mem_cons.mpr ⟨h.t_KindFollower_rows, (fun _ z => nomatch z)⟩) h0 (rv 0))) (own := [(PySem.Str.ofString "kind", 2), (PySem.Str.ofString "machine", 3), (PySem.Str.ofString "states", 4)]) (by kernel_rfl) rfl (by decide) (fun _ _ _ _ _ => g_tup (Ctx.blk c) (g_cons (gn (Ctx.blk c).toCtx0 2) (g_cons (gn (Ctx.blk c).toCtx0 3) (g_cons (gn (Ctx.blk c).toCtx0 4) (g_nil))))) (fun _ _ _ _ _ => r_pts0) (fun _ _ _ _ _ => r_meth (tbl := [(12, 13)]) (Ctx.blk c) h.no_step (List.forall_mem_cons.mpr ⟨h.t_Machine_step, (fun _ z => nomatch z)⟩) h0 (rv 3) (r_cons (rv 4) (r_cons (rv 1) (r_nil))))) (r_nil)))))
theorem d_KindFollower_is_now (h : Fs P w K mg base G n) (hr : Room (rm n + 1) (A.deeper (envOfC "KindFollower.is_now" (defScope s_KindFollower_is_now) s.heap.objs.size f cdv))) (h0 : Room (rm n) (A.deeper (envOfC "KindFollower.is_now" (defScope s_KindFollower_is_now) s.heap.objs.size f cdv))) (h2 : Room 2 (A.deeper (envOfC "KindFollower.is_now" (defScope s_KindFollower_is_now) s.heap.objs.size f cdv))) (c : Ctx G (cxOf (L2.CX P w) P w K mg base N_KindFollower_is_now "KindFollower.is_now" (defScope s_KindFollower_is_now) f cdv A outer s H E) (fun c d _ H => E c d H)) : PSs (cxOf (L2.CX P w) P w K mg base N_KindFollower_is_now "KindFollower.is_now" (defScope s_KindFollower_is_now) f cdv A outer s H E) (defBody s_KindFollower_is_now) (tS G (fun c d _ H => E c d H) ⟨callN tb n⟩ b_KindFollower_is_now) :=
  s_one (s_ret (r_ct (b_tuple c.hK) rfl h.f_tuple bo_tuple (r_cons (r_lc c (i_seq c.toCtx0 (r_meth0 (tbl := [(19, 20)]) c h.no_rows (List.forall_mem_cons.mpr ⟨h.t_KindFollower_rows, (fun _ z => nomatch z)⟩) h0 (rv 0))) (own := [(PySem.Str.ofString "kind", 1), (PySem.Str.ofString "machine", 2), (PySem.Str.ofString "states", 3)]) (by kernel_rfl) rfl (by decide) (fun _ _ _ _ _ => g_tup (Ctx.blk c) (g_cons (gn (Ctx.blk c).toCtx0 1) (g_cons (gn (Ctx.blk c).toCtx0 2) (g_cons (gn (Ctx.blk c).toCtx0 3) (g_nil))))) (fun _ _ _ _ _ => r_pts1 (r_tv (Ctx.blk c).toCtx0 (r_meth (tbl := [(12, 14)]) (Ctx.blk c) h.no_has_end (List.forall_mem_cons.mpr ⟨h.t_Machine_has_end, (fun _ z => nomatch z)⟩) h0 (rv 2) (r_cons (rv 3) (r_nil))))) (fun _ _ _ _ _ => rv 1)) (r_nil))))
theorem d_KindFollower_rows (h : Fs P w K mg base G n) (hr : Room (rm n + 1) (A.deeper (envOfC "KindFollower.rows" (defScope s_KindFollower_rows) s.heap.objs.size f cdv))) (h0 : Room (rm n) (A.deeper (envOfC "KindFollower.rows" (defScope s_KindFollower_rows) s.heap.objs.size f cdv))) (h2 : Room 2 (A.deeper (envOfC "KindFollower.rows" (defScope s_KindFollower_rows) s.heap.objs.size f cdv))) (c : Ctx G (cxOf (L2.CX P w) P w K mg base N_KindFollower_rows "KindFollower.rows" (defScope s_KindFollower_rows) f cdv A outer s H E) (fun c d _ H => E c d H)) : PSs (cxOf (L2.CX P w) P w K mg base N_KindFollower_rows "KindFollower.rows" (defScope s_KindFollower_rows) f cdv A outer s H E) (defBody s_KindFollower_rows) (tS G (fun c d _ H => E c d H) ⟨callN tb n⟩ b_KindFollower_rows) :=
  s_one (s_ret (r_lz c rfl h.f_list rfl h.f_zip (r_cons (r_str (by decide +kernel)) (r_cons (r_fld (List.forall_mem_cons.mpr ⟨h.q_KindFollower_machines, (fun _ z => nomatch z)⟩) h.l_12 (rv 0)) (r_cons (r_fld (List.forall_mem_cons.mpr ⟨h.q_KindFollower_present, (fun _ z => nomatch z)⟩) h.l_13 (rv 0)) (r_nil))))))
theorem d_KindFollower_can_become (h : Fs P w K mg base G n) (hr : Room (rm n + 1) (A.deeper (envOfC "KindFollower.can_become" (defScope s_KindFollower_can_become) s.heap.objs.size f cdv))) (h0 : Room (rm n) (A.deeper (envOfC "KindFollower.can_become" (defScope s_KindFollower_can_become) s.heap.objs.size f cdv))) (h2 : Room 2 (A.deeper (envOfC "KindFollower.can_become" (defScope s_KindFollower_can_become) s.heap.objs.size f cdv))) (c : Ctx G (cxOf (L2.CX P w) P w K mg base N_KindFollower_can_become "KindFollower.can_become" (defScope s_KindFollower_can_become) f cdv A outer s H E) (fun c d _ H => E c d H)) : PSs (cxOf (L2.CX P w) P w K mg base N_KindFollower_can_become "KindFollower.can_become" (defScope s_KindFollower_can_become) f cdv A outer s H E) (defBody s_KindFollower_can_become) (tS G (fun c d _ H => E c d H) ⟨callN tb n⟩ b_KindFollower_can_become) :=
  s_one (s_ret (r_ct (b_tuple c.hK) rfl h.f_tuple bo_tuple (r_cons (r_lc c (i_seq c.toCtx0 (r_meth0 (tbl := [(19, 20)]) c h.no_rows (List.forall_mem_cons.mpr ⟨h.t_KindFollower_rows, (fun _ z => nomatch z)⟩) h0 (rv 0))) (own := [(PySem.Str.ofString "kind", 1), (PySem.Str.ofString "machine", 2), (PySem.Str.ofString "states", 3)]) (by kernel_rfl) rfl (by decide) (fun _ _ _ _ _ => g_tup (Ctx.blk c) (g_cons (gn (Ctx.blk c).toCtx0 1) (g_cons (gn (Ctx.blk c).toCtx0 2) (g_cons (gn (Ctx.blk c).toCtx0 3) (g_nil))))) (fun _ _ _ _ _ => r_pts1 (r_tv (Ctx.blk c).toCtx0 (r_call (Ctx.blk c) h.c_reaches_end h0 rfl h.g_reaches_end (r_cons (rv 2) (r_cons (rv 3) (r_nil)))))) (fun _ _ _ _ _ => rv 1)) (r_nil))))
theorem d_KindFollower_is_settled (h : Fs P w K mg base G n) (hr : Room (rm n + 1) (A.deeper (envOfC "KindFollower.is_settled" (defScope s_KindFollower_is_settled) s.heap.objs.size f cdv))) (h0 : Room (rm n) (A.deeper (envOfC "KindFollower.is_settled" (defScope s_KindFollower_is_settled) s.heap.objs.size f cdv))) (h2 : Room 2 (A.deeper (envOfC "KindFollower.is_settled" (defScope s_KindFollower_is_settled) s.heap.objs.size f cdv))) (c : Ctx G (cxOf (L2.CX P w) P w K mg base N_KindFollower_is_settled "KindFollower.is_settled" (defScope s_KindFollower_is_settled) f cdv A outer s H E) (fun c d _ H => E c d H)) : PSs (cxOf (L2.CX P w) P w K mg base N_KindFollower_is_settled "KindFollower.is_settled" (defScope s_KindFollower_is_settled) f cdv A outer s H E) (defBody s_KindFollower_is_settled) (tS G (fun c d _ H => E c d H) ⟨callN tb n⟩ b_KindFollower_is_settled) :=
  s_one (s_ret (r_cmp (o_le) (r_cb (b_len c.hK) rfl h.f_len bo_len (r_cons (r_meth0 (tbl := [(19, 21)]) c h.no_can_become (List.forall_mem_cons.mpr ⟨h.t_KindFollower_can_become, (fun _ z => nomatch z)⟩) h0 (rv 0)) (r_nil))) (r_int) (nomark _)))
theorem d_reaches_end (h : Fs P w K mg base G n) (hr : Room (rm n + 1) (A.deeper (envOfC "reaches_end" (defScope s_reaches_end) s.heap.objs.size f cdv))) (h0 : Room (rm n) (A.deeper (envOfC "reaches_end" (defScope s_reaches_end) s.heap.objs.size f cdv))) (h2 : Room 2 (A.deeper (envOfC "reaches_end" (defScope s_reaches_end) s.heap.objs.size f cdv))) (c : Ctx G (cxOf (L2.CX P w) P w K mg base N_reaches_end "reaches_end" (defScope s_reaches_end) f cdv A outer s H E) (fun c d _ H => E c d H)) : PSs (cxOf (L2.CX P w) P w K mg base N_reaches_end "reaches_end" (defScope s_reaches_end) f cdv A outer s H E) (defBody s_reaches_end) (tS G (fun c d _ H => E c d H) ⟨callN tb n⟩ b_reaches_end) :=
  s_cons (s_par (i := 2) (j := 3) c rfl rfl (by decide) rfl rfl (r_ct (b_listX c) rfl h.f_list bo_list (r_cons (rv 1) (r_nil))) (r_ct (b_listX c) rfl h.f_list bo_list (r_cons (rv 1) (r_nil))) (by rfl)) (s_cons (s_while c (r_tb (o_neC c.toCtx0) (rv 3) (r_lst (r_nil)) (nomark _)) (s_cons (s_set (r_bm0 PySem.F.plainAttrs_list PySem.F.slot_list_pop PySem.F.type_list_pop m_pop0 (fun _ _ _ _ _ => ty_lst c.hK) (rv 3)) (gn c.toCtx0 4)) (s_one (s_for c (i_seq c.toCtx0 (r_meth0 (tbl := [(12, 10)]) c h.no_edges (List.forall_mem_cons.mpr ⟨h.t_Machine_edges, (fun _ z => nomatch z)⟩) h0 (rv 0))) (g_tup c (g_cons (gn c.toCtx0 5) (g_cons (gn c.toCtx0 6) (g_cons (gn c.toCtx0 7) (g_nil))))) (s_one (s_if (PW.pt (r_and (r_tb (o_eqC c.toCtx0) (rv 5) (rv 4) (nomark _)) (r_and1 (r_tb (o_notin c.toCtx0) (rv 7) (rv 2) (by with_unfolding_all rfl))))) (s_cons (s_expr (r_bm PySem.F.plainAttrs_list PySem.F.slot_list_append PySem.F.type_list_append m_append (fun _ _ _ _ _ => ty_lst c.hK) (rv 2) (r_cons (rv 7) (r_nil)))) (s_one (s_expr (r_bm PySem.F.plainAttrs_list PySem.F.slot_list_append PySem.F.type_list_append m_append (fun _ _ _ _ _ => ty_lst c.hK) (rv 3) (r_cons (rv 7) (r_nil)))))) (s_nil))))))) (s_one (s_ret (r_meth (tbl := [(12, 14)]) c h.no_has_end (List.forall_mem_cons.mpr ⟨h.t_Machine_has_end, (fun _ z => nomatch z)⟩) h0 (rv 0) (r_cons (rv 2) (r_nil))))))
theorem d__law_pen (h : Fs P w K mg base G n) (hr : Room (rm n + 1) (A.deeper (envOfC "_law_pen" (defScope s__law_pen) s.heap.objs.size f cdv))) (h0 : Room (rm n) (A.deeper (envOfC "_law_pen" (defScope s__law_pen) s.heap.objs.size f cdv))) (h2 : Room 2 (A.deeper (envOfC "_law_pen" (defScope s__law_pen) s.heap.objs.size f cdv))) (c : Ctx G (cxOf (L2.CX P w) P w K mg base N__law_pen "_law_pen" (defScope s__law_pen) f cdv A outer s H E) (fun c d _ H => E c d H)) : PSs (cxOf (L2.CX P w) P w K mg base N__law_pen "_law_pen" (defScope s__law_pen) f cdv A outer s H E) (defBody s__law_pen) (tS G (fun c d _ H => E c d H) ⟨callN tb n⟩ b__law_pen) :=
  s_one (s_ret (r_lst (r_cons (r_ct (b_listX c) rfl h.f_list bo_list (r_cons (r_cut c.toCtx0 (rv 0) (r_pn) (r_ps (r_int))) (r_nil))) (r_cons (r_int) (r_cons (r_int) (r_nil))))))
theorem d__law_fresh (h : Fs P w K mg base G n) (hr : Room (rm n + 1) (A.deeper (envOfC "_law_fresh" (defScope s__law_fresh) s.heap.objs.size f cdv))) (h0 : Room (rm n) (A.deeper (envOfC "_law_fresh" (defScope s__law_fresh) s.heap.objs.size f cdv))) (h2 : Room 2 (A.deeper (envOfC "_law_fresh" (defScope s__law_fresh) s.heap.objs.size f cdv))) (c : Ctx G (cxOf (L2.CX P w) P w K mg base N__law_fresh "_law_fresh" (defScope s__law_fresh) f cdv A outer s H E) (fun c d _ H => E c d H)) : PSs (cxOf (L2.CX P w) P w K mg base N__law_fresh "_law_fresh" (defScope s__law_fresh) f cdv A outer s H E) (defBody s__law_fresh) (tS G (fun c d _ H => E c d H) ⟨callN tb n⟩ b__law_fresh) :=
  s_cons (s_set (r_ix c.toCtx0 (rv 0) (r_int)) (gn c.toCtx0 1)) (s_cons (s_item (rv 0) (r_int) (r_op (o_add c.hK) (rv 1) (r_int))) (s_cons (s_set (r_int) (gn c.toCtx0 2)) (s_cons (s_if (r_tb (o_neC c.toCtx0) (r_ix c.toCtx0 (rv 0) (r_int)) (r_lst (r_nil)) (nomark _)) (s_one (s_set (r_ix c.toCtx0 (r_ix c.toCtx0 (rv 0) (r_int)) (r_op o_mod (rv 1) (r_cb (b_len c.hK) rfl h.f_len bo_len (r_cons (r_ix c.toCtx0 (rv 0) (r_int)) (r_nil))))) (gn c.toCtx0 2))) (s_nil)) (s_cons (s_if (PW.pt (r_and (r_tb (o_lt) (rv 1) (r_cb (b_len c.hK) rfl h.f_len bo_len (r_cons (r_ix c.toCtx0 (rv 0) (r_int)) (r_nil))) (nomark _)) (r_and1 (r_tb (o_ge) (rv 2) (r_op o_pow (r_int) (r_int)) (nomark _))))) (s_one (s_ret (r_op o_sub (rv 2) (r_op o_pow (r_int) (r_int))))) (s_nil)) (s_cons (s_set (r_int) (gn c.toCtx0 3)) (s_cons (s_set (r_op o_mod (r_op (o_add c.hK) (r_op (o_add c.hK) (r_op o_mul (rv 2) (r_int)) (r_op o_mul (r_int) (rv 1))) (r_int)) (rv 3)) (gn c.toCtx0 4)) (s_cons (s_set (rv 4) (gn c.toCtx0 5)) (s_cons (s_for c (i_range1 rfl h.f_range (r_int)) (gn c.toCtx0 6) (s_cons (s_set (r_op o_mod (r_op (o_add c.hK) (r_op (o_add c.hK) (r_op o_mul (rv 4) (rv 4)) (r_op o_mul (r_op o_mul (r_int) (r_op (o_add c.hK) (rv 6) (r_int))) (r_op (o_add c.hK) (rv 1) (r_int)))) (rv 2)) (rv 3)) (gn c.toCtx0 4)) (s_one (s_set (r_op (o_add c.hK) (r_op o_mul (rv 5) (rv 3)) (rv 4)) (gn c.toCtx0 5))))) (s_one (s_ret (rv 5)))))))))))
theorem d__law_draw (h : Fs P w K mg base G n) (hr : Room (rm n + 1) (A.deeper (envOfC "_law_draw" (defScope s__law_draw) s.heap.objs.size f cdv))) (h0 : Room (rm n) (A.deeper (envOfC "_law_draw" (defScope s__law_draw) s.heap.objs.size f cdv))) (h2 : Room 2 (A.deeper (envOfC "_law_draw" (defScope s__law_draw) s.heap.objs.size f cdv))) (c : Ctx G (cxOf (L2.CX P w) P w K mg base N__law_draw "_law_draw" (defScope s__law_draw) f cdv A outer s H E) (fun c d _ H => E c d H)) : PSs (cxOf (L2.CX P w) P w K mg base N__law_draw "_law_draw" (defScope s__law_draw) f cdv A outer s H E) (defBody s__law_draw) (tS G (fun c d _ H => E c d H) ⟨callN tb n⟩ b__law_draw) :=
  s_cons (s_if (r_tb (o_lt) (r_ix c.toCtx0 (rv 0) (r_int)) (rv 1) (nomark _)) (s_one (s_item (rv 0) (r_int) (r_call c h.c__law_fresh h0 rfl h.g__law_fresh (r_cons (rv 0) (r_nil))))) (s_nil)) (s_cons (s_set (r_op o_mod (r_ix c.toCtx0 (rv 0) (r_int)) (rv 1)) (gn c.toCtx0 2)) (s_cons (s_item (rv 0) (r_int) (r_op o_div (r_ix c.toCtx0 (rv 0) (r_int)) (rv 1))) (s_one (s_ret (rv 2)))))
theorem d__law_plan (h : Fs P w K mg base G n) (hr : Room (rm n + 1) (A.deeper (envOfC "_law_plan" (defScope s__law_plan) s.heap.objs.size f cdv))) (h0 : Room (rm n) (A.deeper (envOfC "_law_plan" (defScope s__law_plan) s.heap.objs.size f cdv))) (h2 : Room 2 (A.deeper (envOfC "_law_plan" (defScope s__law_plan) s.heap.objs.size f cdv))) (c : Ctx G (cxOf (L2.CX P w) P w K mg base N__law_plan "_law_plan" (defScope s__law_plan) f cdv A outer s H E) (fun c d _ H => E c d H)) : PSs (cxOf (L2.CX P w) P w K mg base N__law_plan "_law_plan" (defScope s__law_plan) f cdv A outer s H E) (defBody s__law_plan) (tS G (fun c d _ H => E c d H) ⟨callN tb n⟩ b__law_plan) :=
  s_cons (s_set (r_op (o_add c.hK) (r_int) (r_call c h.c__law_draw h0 rfl h.g__law_draw (r_cons (rv 0) (r_cons (rv 2) (r_nil))))) (gn c.toCtx0 4)) (s_cons (s_setLc (i := 5) c rfl rfl (sw_true rfl rfl rfl (by decide +kernel)) (i_range1 rfl h.f_range (rv 4)) (own := [(PySem.Str.ofString "state", 10)]) (by kernel_rfl) rfl (by decide) (fun _ _ _ _ _ => gn (Ctx.blk c).toCtx0 10) (fun _ _ _ _ _ => r_pts1 (PW.pt (r_or (r_tb (o_eqC (Ctx.blk c).toCtx0) (rv 10) (r_int) (nomark _)) (r_or1 (r_tb (o_eqC (Ctx.blk c).toCtx0) (r_call (Ctx.blk c) h.c__law_draw h0 rfl h.g__law_draw (r_cons (rv 0) (r_cons (r_int) (r_nil)))) (r_int) (nomark _)))))) (fun _ _ _ _ _ => rv 10)) (s_cons (s_setLc (i := 6) c rfl rfl (sw_true rfl rfl rfl (by decide +kernel)) (i_range1 rfl h.f_range (rv 4)) (own := [(PySem.Str.ofString "state", 10)]) (by kernel_rfl) rfl (by decide) (fun _ _ _ _ _ => gn (Ctx.blk c).toCtx0 10) (fun _ _ _ _ _ => r_pts1 (r_tb (o_eqC (Ctx.blk c).toCtx0) (r_call (Ctx.blk c) h.c__law_draw h0 rfl h.g__law_draw (r_cons (rv 0) (r_cons (r_int) (r_nil)))) (r_int) (nomark _))) (fun _ _ _ _ _ => rv 10)) (s_cons (s_set (r_lst (r_nil)) (gn c.toCtx0 7)) (s_cons (s_for c (i_range1 rfl h.f_range (r_call c h.c__law_draw h0 rfl h.g__law_draw (r_cons (rv 0) (r_cons (r_op (o_add c.hK) (rv 3) (r_int)) (r_nil))))) (gn c.toCtx0 8) (s_cons (s_set (r_tup (r_cons (r_call c h.c__law_draw h0 rfl h.g__law_draw (r_cons (rv 0) (r_cons (rv 4) (r_nil)))) (r_cons (r_ix c.toCtx0 (r_str (by decide +kernel)) (r_call c h.c__law_draw h0 rfl h.g__law_draw (r_cons (rv 0) (r_cons (rv 1) (r_nil))))) (r_cons (r_call c h.c__law_draw h0 rfl h.g__law_draw (r_cons (rv 0) (r_cons (rv 4) (r_nil)))) (r_nil))))) (gn c.toCtx0 9)) (s_one (s_if (r_tb (o_notin c.toCtx0) (rv 9) (rv 7) (by with_unfolding_all rfl)) (s_one (s_expr (r_bm PySem.F.plainAttrs_list PySem.F.slot_list_append PySem.F.type_list_append m_append (fun _ _ _ _ _ => ty_lst c.hK) (rv 7) (r_cons (rv 9) (r_nil))))) (s_nil))))) (s_one (s_ret (r_lst (r_cons (rv 4) (r_cons (rv 5) (r_cons (rv 6) (r_cons (rv 7) (r_nil))))))))))))
theorem d__law_machine_of (h : Fs P w K mg base G n) (hr : Room (rm n + 1) (A.deeper (envOfC "_law_machine_of" (defScope s__law_machine_of) s.heap.objs.size f cdv))) (h0 : Room (rm n) (A.deeper (envOfC "_law_machine_of" (defScope s__law_machine_of) s.heap.objs.size f cdv))) (h2 : Room 2 (A.deeper (envOfC "_law_machine_of" (defScope s__law_machine_of) s.heap.objs.size f cdv))) (c : Ctx G (cxOf (L2.CX P w) P w K mg base N__law_machine_of "_law_machine_of" (defScope s__law_machine_of) f cdv A outer s H E) (fun c d _ H => E c d H)) : PSs (cxOf (L2.CX P w) P w K mg base N__law_machine_of "_law_machine_of" (defScope s__law_machine_of) f cdv A outer s H E) (defBody s__law_machine_of) (tS G (fun c d _ H => E c d H) ⟨callN tb n⟩ b__law_machine_of) :=
  s_cons (s_set (r_new c h.k_Machine hr rfl h.m_Machine (r_cons (rv 0) (r_cons (r_ix c.toCtx0 (rv 1) (r_int)) (r_nil)))) (gn c.toCtx0 2)) (s_cons (s_for c (i_seq c.toCtx0 (r_ix c.toCtx0 (rv 1) (r_int))) (gn c.toCtx0 3) (s_one (s_expr (r_meth (tbl := [(12, 6)]) c h.no_add_start (List.forall_mem_cons.mpr ⟨h.t_Machine_add_start, (fun _ z => nomatch z)⟩) h0 (rv 2) (r_cons (rv 3) (r_nil)))))) (s_cons (s_for c (i_seq c.toCtx0 (r_ix c.toCtx0 (rv 1) (r_int))) (gn c.toCtx0 3) (s_one (s_expr (r_meth (tbl := [(12, 7)]) c h.no_add_end (List.forall_mem_cons.mpr ⟨h.t_Machine_add_end, (fun _ z => nomatch z)⟩) h0 (rv 2) (r_cons (rv 3) (r_nil)))))) (s_cons (s_for c (i_seq c.toCtx0 (r_ix c.toCtx0 (rv 1) (r_int))) (g_tup c (g_cons (gn c.toCtx0 4) (g_cons (gn c.toCtx0 5) (g_cons (gn c.toCtx0 6) (g_nil))))) (s_one (s_expr (r_meth (tbl := [(12, 4)]) c h.no_add_edge (List.forall_mem_cons.mpr ⟨h.t_Machine_add_edge, (fun _ z => nomatch z)⟩) h0 (rv 2) (r_cons (rv 4) (r_cons (rv 5) (r_cons (rv 6) (r_nil)))))))) (s_one (s_ret (rv 2))))))
theorem d__law_stepped (h : Fs P w K mg base G n) (hr : Room (rm n + 1) (A.deeper (envOfC "_law_stepped" (defScope s__law_stepped) s.heap.objs.size f cdv))) (h0 : Room (rm n) (A.deeper (envOfC "_law_stepped" (defScope s__law_stepped) s.heap.objs.size f cdv))) (h2 : Room 2 (A.deeper (envOfC "_law_stepped" (defScope s__law_stepped) s.heap.objs.size f cdv))) (c : Ctx G (cxOf (L2.CX P w) P w K mg base N__law_stepped "_law_stepped" (defScope s__law_stepped) f cdv A outer s H E) (fun c d _ H => E c d H)) : PSs (cxOf (L2.CX P w) P w K mg base N__law_stepped "_law_stepped" (defScope s__law_stepped) f cdv A outer s H E) (defBody s__law_stepped) (tS G (fun c d _ H => E c d H) ⟨callN tb n⟩ b__law_stepped) :=
  s_one (s_ret (r_sortset c rfl h.f_sorted bo_sorted2 rfl h.f_set bo_set (r_lc c (i_seq c.toCtx0 (r_ix c.toCtx0 (rv 0) (r_int))) (own := [(PySem.Str.ofString "origin", 3), (PySem.Str.ofString "letter", 4), (PySem.Str.ofString "target", 5)]) (by kernel_rfl) rfl (by decide) (fun _ _ _ _ _ => g_tup (Ctx.blk c) (g_cons (gn (Ctx.blk c).toCtx0 3) (g_cons (gn (Ctx.blk c).toCtx0 4) (g_cons (gn (Ctx.blk c).toCtx0 5) (g_nil))))) (fun _ _ _ _ _ => r_pts1 (PW.pt (r_and (r_tb (o_eqC (Ctx.blk c).toCtx0) (rv 4) (rv 2) (nomark _)) (r_and1 (r_tb (o_in (Ctx.blk c).toCtx0) (rv 3) (rv 1) (by with_unfolding_all rfl)))))) (fun _ _ _ _ _ => rv 5))))
theorem d__law_states (h : Fs P w K mg base G n) (hr : Room (rm n + 1) (A.deeper (envOfC "_law_states" (defScope s__law_states) s.heap.objs.size f cdv))) (h0 : Room (rm n) (A.deeper (envOfC "_law_states" (defScope s__law_states) s.heap.objs.size f cdv))) (h2 : Room 2 (A.deeper (envOfC "_law_states" (defScope s__law_states) s.heap.objs.size f cdv))) (c : Ctx G (cxOf (L2.CX P w) P w K mg base N__law_states "_law_states" (defScope s__law_states) f cdv A outer s H E) (fun c d _ H => E c d H)) : PSs (cxOf (L2.CX P w) P w K mg base N__law_states "_law_states" (defScope s__law_states) f cdv A outer s H E) (defBody s__law_states) (tS G (fun c d _ H => E c d H) ⟨callN tb n⟩ b__law_states) :=
  s_cons (s_set (r_sortset c rfl h.f_sorted bo_sorted2 rfl h.f_set bo_set (r_ix c.toCtx0 (rv 0) (r_int))) (gn c.toCtx0 2)) (s_cons (s_for c (i_seq c.toCtx0 (rv 1)) (gn c.toCtx0 3) (s_one (s_set (r_call c h.c__law_stepped h0 rfl h.g__law_stepped (r_cons (rv 0) (r_cons (rv 2) (r_cons (rv 3) (r_nil))))) (gn c.toCtx0 2)))) (s_one (s_ret (rv 2))))
theorem d__law_has (h : Fs P w K mg base G n) (hr : Room (rm n + 1) (A.deeper (envOfC "_law_has" (defScope s__law_has) s.heap.objs.size f cdv))) (h0 : Room (rm n) (A.deeper (envOfC "_law_has" (defScope s__law_has) s.heap.objs.size f cdv))) (h2 : Room 2 (A.deeper (envOfC "_law_has" (defScope s__law_has) s.heap.objs.size f cdv))) (c : Ctx G (cxOf (L2.CX P w) P w K mg base N__law_has "_law_has" (defScope s__law_has) f cdv A outer s H E) (fun c d _ H => E c d H)) : PSs (cxOf (L2.CX P w) P w K mg base N__law_has "_law_has" (defScope s__law_has) f cdv A outer s H E) (defBody s__law_has) (tS G (fun c d _ H => E c d H) ⟨callN tb n⟩ b__law_has) :=
  s_one (s_ret (r_cmp (o_neC c.toCtx0) (r_lc c (i_seq c.toCtx0 (r_call c h.c__law_states h0 rfl h.g__law_states (r_cons (rv 0) (r_cons (rv 1) (r_nil))))) (own := [(PySem.Str.ofString "state", 2)]) (by kernel_rfl) rfl (by decide) (fun _ _ _ _ _ => gn (Ctx.blk c).toCtx0 2) (fun _ _ _ _ _ => r_pts1 (r_tb (o_in (Ctx.blk c).toCtx0) (rv 2) (r_ix (Ctx.blk c).toCtx0 (rv 0) (r_int)) (by with_unfolding_all rfl))) (fun _ _ _ _ _ => rv 2)) (r_lst (r_nil)) (nomark _)))
theorem d__law_can (h : Fs P w K mg base G n) (hr : Room (rm n + 1) (A.deeper (envOfC "_law_can" (defScope s__law_can) s.heap.objs.size f cdv))) (h0 : Room (rm n) (A.deeper (envOfC "_law_can" (defScope s__law_can) s.heap.objs.size f cdv))) (h2 : Room 2 (A.deeper (envOfC "_law_can" (defScope s__law_can) s.heap.objs.size f cdv))) (c : Ctx G (cxOf (L2.CX P w) P w K mg base N__law_can "_law_can" (defScope s__law_can) f cdv A outer s H E) (fun c d _ H => E c d H)) : PSs (cxOf (L2.CX P w) P w K mg base N__law_can "_law_can" (defScope s__law_can) f cdv A outer s H E) (defBody s__law_can) (tS G (fun c d _ H => E c d H) ⟨callN tb n⟩ b__law_can) :=
  s_cons (s_set (r_ct (b_listX c) rfl h.f_list bo_list (r_cons (rv 1) (r_nil))) (gn c.toCtx0 3)) (s_cons (s_for c (i_range1 rfl h.f_range (r_ix c.toCtx0 (rv 0) (r_int))) (gn c.toCtx0 4) (s_one (s_for c (i_seq c.toCtx0 (r_cut c.toCtx0 (r_str (by decide +kernel)) (r_pn) (r_ps (rv 2)))) (gn c.toCtx0 5) (s_one (s_set (r_sortset c rfl h.f_sorted bo_sorted2 rfl h.f_set bo_set (r_op (o_add c.hK) (rv 3) (r_call c h.c__law_stepped h0 rfl h.g__law_stepped (r_cons (rv 0) (r_cons (rv 3) (r_cons (rv 5) (r_nil))))))) (gn c.toCtx0 3)))))) (s_one (s_ret (r_cmp (o_neC c.toCtx0) (r_lc c (i_seq c.toCtx0 (rv 3)) (own := [(PySem.Str.ofString "state", 6)]) (by kernel_rfl) rfl (by decide) (fun _ _ _ _ _ => gn (Ctx.blk c).toCtx0 6) (fun _ _ _ _ _ => r_pts1 (r_tb (o_in (Ctx.blk c).toCtx0) (rv 6) (r_ix (Ctx.blk c).toCtx0 (rv 0) (r_int)) (by with_unfolding_all rfl))) (fun _ _ _ _ _ => rv 6)) (r_lst (r_nil)) (nomark _)))))
theorem d__law_moved (h : Fs P w K mg base G n) (hr : Room (rm n + 1) (A.deeper (envOfC "_law_moved" (defScope s__law_moved) s.heap.objs.size f cdv))) (h0 : Room (rm n) (A.deeper (envOfC "_law_moved" (defScope s__law_moved) s.heap.objs.size f cdv))) (h2 : Room 2 (A.deeper (envOfC "_law_moved" (defScope s__law_moved) s.heap.objs.size f cdv))) (c : Ctx G (cxOf (L2.CX P w) P w K mg base N__law_moved "_law_moved" (defScope s__law_moved) f cdv A outer s H E) (fun c d _ H => E c d H)) : PSs (cxOf (L2.CX P w) P w K mg base N__law_moved "_law_moved" (defScope s__law_moved) f cdv A outer s H E) (defBody s__law_moved) (tS G (fun c d _ H => E c d H) ⟨callN tb n⟩ b__law_moved) :=
  s_cons (s_par (i := 3) (j := 4) c rfl rfl (by decide) rfl rfl (r_meth0 (tbl := [(12, 10)]) c h.no_edges (List.forall_mem_cons.mpr ⟨h.t_Machine_edges, (fun _ z => nomatch z)⟩) h0 (rv 1)) (r_fld (List.forall_mem_cons.mpr ⟨h.q_Machine_states, (fun _ z => nomatch z)⟩) h.l_8 (rv 1)) (by rfl)) (s_cons (s_if (PW.pt (r_and (r_tb (o_neC c.toCtx0) (rv 3) (r_tup (r_nil)) (nomark _)) (r_and1 (r_tb (o_eqC c.toCtx0) (r_call c h.c__law_draw h0 rfl h.g__law_draw (r_cons (rv 0) (r_cons (r_int) (r_nil)))) (r_int) (nomark _))))) (s_cons (s_set (r_ix c.toCtx0 (rv 3) (r_call c h.c__law_draw h0 rfl h.g__law_draw (r_cons (rv 0) (r_cons (r_cb (b_len c.hK) rfl h.f_len bo_len (r_cons (rv 3) (r_nil))) (r_nil))))) (gn c.toCtx0 5)) (s_one (s_expr (r_meth (tbl := [(12, 5)]) c h.no_remove_edge (List.forall_mem_cons.mpr ⟨h.t_Machine_remove_edge, (fun _ z => nomatch z)⟩) h0 (rv 1) (r_cons (r_ix c.toCtx0 (rv 5) (r_int)) (r_cons (r_ix c.toCtx0 (rv 5) (r_int)) (r_cons (r_ix c.toCtx0 (rv 5) (r_int)) (r_nil)))))))) (s_cons (s_set (r_tup (r_cons (r_call c h.c__law_draw h0 rfl h.g__law_draw (r_cons (rv 0) (r_cons (rv 4) (r_nil)))) (r_cons (r_ix c.toCtx0 (r_str (by decide +kernel)) (r_call c h.c__law_draw h0 rfl h.g__law_draw (r_cons (rv 0) (r_cons (rv 2) (r_nil))))) (r_cons (r_call c h.c__law_draw h0 rfl h.g__law_draw (r_cons (rv 0) (r_cons (rv 4) (r_nil)))) (r_nil))))) (gn c.toCtx0 6)) (s_one (s_if (PW.pt (r_and (r_tb (o_notin c.toCtx0) (rv 6) (rv 3) (by with_unfolding_all rfl)) (r_and1 (r_tb (o_lt) (r_cb (b_len c.hK) rfl h.f_len bo_len (r_cons (rv 3) (r_nil))) (r_int) (nomark _))))) (s_one (s_expr (r_meth (tbl := [(12, 4)]) c h.no_add_edge (List.forall_mem_cons.mpr ⟨h.t_Machine_add_edge, (fun _ z => nomatch z)⟩) h0 (rv 1) (r_cons (r_ix c.toCtx0 (rv 6) (r_int)) (r_cons (r_ix c.toCtx0 (rv 6) (r_int)) (r_cons (r_ix c.toCtx0 (rv 6) (r_int)) (r_nil))))))) (s_nil))))) (s_cons (s_par (i := 7) (j := 8) c rfl rfl (by decide) rfl rfl (r_call c h.c__law_draw h0 rfl h.g__law_draw (r_cons (rv 0) (r_cons (rv 4) (r_nil)))) (r_call c h.c__law_draw h0 rfl h.g__law_draw (r_cons (rv 0) (r_cons (r_int) (r_nil)))) (by rfl)) (s_one (s_if (r_tb (o_eqC c.toCtx0) (rv 8) (r_int) (nomark _)) (s_one (s_expr (r_meth (tbl := [(12, 7)]) c h.no_add_end (List.forall_mem_cons.mpr ⟨h.t_Machine_add_end, (fun _ z => nomatch z)⟩) h0 (rv 1) (r_cons (rv 7) (r_nil))))) (s_one (s_if (r_tb (o_eqC c.toCtx0) (rv 8) (r_int) (nomark _)) (s_one (s_expr (r_meth (tbl := [(12, 9)]) c h.no_remove_end (List.forall_mem_cons.mpr ⟨h.t_Machine_remove_end, (fun _ z => nomatch z)⟩) h0 (rv 1) (r_cons (rv 7) (r_nil))))) (s_one (s_if (r_tb (o_eqC c.toCtx0) (rv 8) (r_int) (nomark _)) (s_one (s_expr (r_meth (tbl := [(12, 6)]) c h.no_add_start (List.forall_mem_cons.mpr ⟨h.t_Machine_add_start, (fun _ z => nomatch z)⟩) h0 (rv 1) (r_cons (rv 7) (r_nil))))) (s_one (s_expr (r_meth (tbl := [(12, 8)]) c h.no_remove_start (List.forall_mem_cons.mpr ⟨h.t_Machine_remove_start, (fun _ z => nomatch z)⟩) h0 (rv 1) (r_cons (rv 7) (r_nil)))))))))))))
theorem d_law (h : Fs P w K mg base G n) (hr : Room (rm n + 1) (A.deeper (envOfC "law" (defScope s_law) s.heap.objs.size f cdv))) (h0 : Room (rm n) (A.deeper (envOfC "law" (defScope s_law) s.heap.objs.size f cdv))) (h2 : Room 2 (A.deeper (envOfC "law" (defScope s_law) s.heap.objs.size f cdv))) (c : Ctx G (cxOf (L2.CX P w) P w K mg base N_law "law" (defScope s_law) f cdv A outer s H E) (fun c d _ H => E c d H)) : PSs (cxOf (L2.CX P w) P w K mg base N_law "law" (defScope s_law) f cdv A outer s H E) (defBody s_law) (tS G (fun c d _ H => E c d H) ⟨callN tb n⟩ b_law) :=
  s_cons (s_set (r_call c h.c__law_pen h0 rfl h.g__law_pen (r_cons (rv 0) (r_nil))) (gn c.toCtx0 1)) (s_cons (s_for c (i_range1 rfl h.f_range (r_int)) (gn c.toCtx0 2) (s_cons (s_set (r_op (o_add c.hK) (r_int) (r_call c h.c__law_draw h0 rfl h.g__law_draw (r_cons (rv 1) (r_cons (r_int) (r_nil))))) (gn c.toCtx0 3)) (s_cons (s_set (r_lst (r_cons (r_call c h.c__law_plan h0 rfl h.g__law_plan (r_cons (rv 1) (r_cons (rv 3) (r_cons (r_int) (r_cons (r_int) (r_nil)))))) (r_cons (r_call c h.c__law_plan h0 rfl h.g__law_plan (r_cons (rv 1) (r_cons (rv 3) (r_cons (r_int) (r_cons (r_int) (r_nil)))))) (r_nil)))) (gn c.toCtx0 4)) (s_cons (s_if (r_tb (o_eqC c.toCtx0) (r_call c h.c__law_draw h0 rfl h.g__law_draw (r_cons (rv 1) (r_cons (r_int) (r_nil)))) (r_int) (nomark _)) (s_one (s_item (r_ix c.toCtx0 (rv 4) (r_call c h.c__law_draw h0 rfl h.g__law_draw (r_cons (rv 1) (r_cons (r_int) (r_nil))))) (r_op (o_add c.hK) (r_int) (r_call c h.c__law_draw h0 rfl h.g__law_draw (r_cons (rv 1) (r_cons (r_int) (r_nil))))) (r_lst (r_nil)))) (s_nil)) (s_cons (s_set (r_tup (r_cons (r_call c h.c__law_machine_of h0 rfl h.g__law_machine_of (r_cons (rv 3) (r_cons (r_ix c.toCtx0 (rv 4) (r_int)) (r_nil)))) (r_cons (r_call c h.c__law_machine_of h0 rfl h.g__law_machine_of (r_cons (rv 3) (r_cons (r_ix c.toCtx0 (rv 4) (r_int)) (r_nil)))) (r_nil)))) (gn c.toCtx0 5)) (s_cons (s_if (r_tb (o_eqC c.toCtx0) (r_call c h.c__law_draw h0 rfl h.g__law_draw (r_cons (rv 1) (r_cons (r_int) (r_nil)))) (r_int) (nomark _)) (s_one (s_itnm 5 c rfl (by first | exact .inl rfl | exact .inr rfl) (by first | exact .inl rfl | exact .inr rfl) (rv 4) (r_int) (r_ix c.toCtx0 (rv 4) (r_int)) (r_tup (r_cons (r_ix c.toCtx0 (rv 5) (r_int)) (r_cons (r_ix c.toCtx0 (rv 5) (r_int)) (r_nil)))))) (s_nil)) (s_cons (s_set (r_tup (r_cons (r_new c h.k_KindFollower hr rfl h.m_KindFollower (r_cons (rv 5) (r_nil))) (r_cons (r_str (by decide +kernel)) (r_nil)))) (g_tup c (g_cons (gn c.toCtx0 6) (g_cons (gn c.toCtx0 7) (g_nil))))) (s_cons (s_expr (r_call c h.c__law_moved h0 rfl h.g__law_moved (r_cons (rv 1) (r_cons (r_ix c.toCtx0 (rv 5) (r_call c h.c__law_draw h0 rfl h.g__law_draw (r_cons (rv 1) (r_cons (r_int) (r_nil))))) (r_cons (rv 3) (r_nil)))))) (s_one (s_for c (i_range1 rfl h.f_range (r_op (o_add c.hK) (r_int) (r_call c h.c__law_draw h0 rfl h.g__law_draw (r_cons (rv 1) (r_cons (r_int) (r_nil)))))) (gn c.toCtx0 8) (s_cons (s_set (r_ct (b_tuple c.hK) rfl h.f_tuple bo_tuple (r_cons (r_lc c (i_zip c.toCtx0 rfl h.f_zip (r_str (by decide +kernel)) (rv 4)) (own := [(PySem.Str.ofString "kind", 12), (PySem.Str.ofString "plan", 13)]) (by kernel_rfl) rfl (by decide) (fun _ _ _ _ _ => g_tup (Ctx.blk c) (g_cons (gn (Ctx.blk c).toCtx0 12) (g_cons (gn (Ctx.blk c).toCtx0 13) (g_nil)))) (fun _ _ _ _ _ => r_pts1 (r_tv (Ctx.blk c).toCtx0 (r_call (Ctx.blk c) h.c__law_has h0 rfl h.g__law_has (r_cons (rv 13) (r_cons (rv 7) (r_nil)))))) (fun _ _ _ _ _ => rv 12)) (r_nil))) (gn c.toCtx0 9)) (s_cons (s_set (r_ct (b_tuple c.hK) rfl h.f_tuple bo_tuple (r_cons (r_lc c (i_zip c.toCtx0 rfl h.f_zip (r_str (by decide +kernel)) (rv 4)) (own := [(PySem.Str.ofString "kind", 12), (PySem.Str.ofString "plan", 13)]) (by kernel_rfl) rfl (by decide) (fun _ _ _ _ _ => g_tup (Ctx.blk c) (g_cons (gn (Ctx.blk c).toCtx0 12) (g_cons (gn (Ctx.blk c).toCtx0 13) (g_nil)))) (fun _ _ _ _ _ => r_pts1 (r_tv (Ctx.blk c).toCtx0 (r_call (Ctx.blk c) h.c__law_can h0 rfl h.g__law_can (r_cons (rv 13) (r_cons (r_call (Ctx.blk c) h.c__law_states h0 rfl h.g__law_states (r_cons (rv 13) (r_cons (rv 7) (r_nil)))) (r_cons (rv 3) (r_nil))))))) (fun _ _ _ _ _ => rv 12)) (r_nil))) (gn c.toCtx0 10)) (s_cons (s_if (PW.pt (r_or (r_tb (o_neC c.toCtx0) (r_meth0 (tbl := [(19, 19)]) c h.no_is_now (List.forall_mem_cons.mpr ⟨h.t_KindFollower_is_now, (fun _ z => nomatch z)⟩) h0 (rv 6)) (rv 9) (nomark _)) (r_or (r_tb (o_neC c.toCtx0) (r_meth0 (tbl := [(19, 21)]) c h.no_can_become (List.forall_mem_cons.mpr ⟨h.t_KindFollower_can_become, (fun _ z => nomatch z)⟩) h0 (rv 6)) (rv 10) (nomark _)) (r_or1 (r_tb (o_neC c.toCtx0) (r_cb (b_repr c.toCtx0) rfl h.f_repr bo_repr (r_cons (r_meth0 (tbl := [(19, 22)]) c h.no_is_settled (List.forall_mem_cons.mpr ⟨h.t_KindFollower_is_settled, (fun _ z => nomatch z)⟩) h0 (rv 6)) (r_nil))) (r_cb (b_repr c.toCtx0) rfl h.f_repr bo_repr (r_cons (r_cmp (o_le) (r_cb (b_len c.hK) rfl h.f_len bo_len (r_cons (rv 10) (r_nil))) (r_int) (nomark _)) (r_nil))) (nomark _)))))) (s_one (s_ret (r_bl))) (s_nil)) (s_cons (s_expr (r_call c h.c__law_moved h0 rfl h.g__law_moved (r_cons (rv 1) (r_cons (r_ix c.toCtx0 (rv 5) (r_call c h.c__law_draw h0 rfl h.g__law_draw (r_cons (rv 1) (r_cons (r_int) (r_nil))))) (r_cons (rv 3) (r_nil)))))) (s_cons (s_set (r_ix c.toCtx0 (r_str (by decide +kernel)) (r_call c h.c__law_draw h0 rfl h.g__law_draw (r_cons (rv 1) (r_cons (rv 3) (r_nil))))) (gn c.toCtx0 11)) (s_cons (s_if (r_tb (o_isnot) (r_meth (tbl := [(19, 18)]) c h.no_read (List.forall_mem_cons.mpr ⟨h.t_KindFollower_read, (fun _ z => nomatch z)⟩) h0 (rv 6) (r_cons (rv 11) (r_nil))) (r_non) (nomark _)) (s_one (s_ret (r_bl))) (s_nil)) (s_one (s_set (r_op (o_add c.hK) (rv 7) (rv 11)) (gn c.toCtx0 7))))))))))))))))))) (s_one (s_ret (r_bl))))
theorem i_NotALog {fd : FuncData} (hx : fxE "NotALog" "ValueError.__new__" [.type "ValueError", .type "Exception", .type "BaseException", .type "object"] K = true) (hf : mg (Str.ofString "ValueError") = none) (hn : PySem.W.findIn K (.ref (He.ga K "NotALog")) "value" = some none) (D : FunD K "__init__" "NotALog.__init__" (defArgs s_NotALog_Dinit) (defBody s_NotALog_Dinit) (defScope s_NotALog_Dinit) [] [] (He.fAd K ("NotALog", some "__init__")) fd) : FnOk P w K mg base (L2.CX P w) 1 (He.ma K (He.ga K "NotALog") "__init__") fd ["self", "value"] (spX (He.ga K "NotALog") (some "value")) :=
  ini1_ok (C := He.ga K "NotALog") (m := "the value is not a string of the signs") D sc_NotALog_Dinit fun cdv A outer s H E => pss_cons (ps_expr (e_init ebase_VE (ecB_ok (Bool.and_eq_true_iff.mp hx).1) rfl hf (by decide) (by decide) (pa_cons (pe_var (i := 0) rfl (.inl rfl)) (pa_cons pe_str pa_nil)))) (pss_one (e_set ebase_VE (ecB_ok (Bool.and_eq_true_iff.mp hx).1) hn (pe_var (i := 0) rfl (.inl rfl)) (pe_var (i := 1) rfl (.inl rfl))))
theorem i_Unpaired {fd : FuncData} (hx : fxE "Unpaired" "ValueError.__new__" [.type "ValueError", .type "Exception", .type "BaseException", .type "object"] K = true) (hf : mg (Str.ofString "ValueError") = none) (D : FunD K "__init__" "Unpaired.__init__" (defArgs s_Unpaired_Dinit) (defBody s_Unpaired_Dinit) (defScope s_Unpaired_Dinit) [] [] (He.fAd K ("Unpaired", some "__init__")) fd) : FnOk P w K mg base (L2.CX P w) 1 (He.ma K (He.ga K "Unpaired") "__init__") fd ["self"] (spX (He.ga K "Unpaired") none) :=
  ini0_ok (C := He.ga K "Unpaired") (m := "the machines have different numbers of signs") D sc_Unpaired_Dinit fun cdv A outer s H E => pss_one (ps_expr (e_init ebase_VE (ecB_ok (Bool.and_eq_true_iff.mp hx).1) rfl hf (by decide) (by decide) (pa_cons (pe_var (i := 0) rfl (.inl rfl)) (pa_cons pe_str pa_nil))))
theorem i_UnknownState {fd : FuncData} (hx : fxE "UnknownState" "LookupError.__new__" [.type "LookupError", .type "Exception", .type "BaseException", .type "object"] K = true) (hf : mg (Str.ofString "LookupError") = none) (hn : PySem.W.findIn K (.ref (He.ga K "UnknownState")) "state" = some none) (D : FunD K "__init__" "UnknownState.__init__" (defArgs s_UnknownState_Dinit) (defBody s_UnknownState_Dinit) (defScope s_UnknownState_Dinit) [] [] (He.fAd K ("UnknownState", some "__init__")) fd) : FnOk P w K mg base (L2.CX P w) 1 (He.ma K (He.ga K "UnknownState") "__init__") fd ["self", "state"] (spX (He.ga K "UnknownState") (some "state")) :=
  ini1_ok (C := He.ga K "UnknownState") (m := "there is no such state") D sc_UnknownState_Dinit fun cdv A outer s H E => pss_cons (ps_expr (e_init ebase_LE (ecB_ok (Bool.and_eq_true_iff.mp hx).1) rfl hf (by decide) (by decide) (pa_cons (pe_var (i := 0) rfl (.inl rfl)) (pa_cons pe_str pa_nil)))) (pss_one (e_set ebase_LE (ecB_ok (Bool.and_eq_true_iff.mp hx).1) hn (pe_var (i := 0) rfl (.inl rfl)) (pe_var (i := 1) rfl (.inl rfl))))
theorem i_UnknownEdge {fd : FuncData} (hx : fxE "UnknownEdge" "LookupError.__new__" [.type "LookupError", .type "Exception", .type "BaseException", .type "object"] K = true) (hf : mg (Str.ofString "LookupError") = none) (hn : PySem.W.findIn K (.ref (He.ga K "UnknownEdge")) "edge" = some none) (D : FunD K "__init__" "UnknownEdge.__init__" (defArgs s_UnknownEdge_Dinit) (defBody s_UnknownEdge_Dinit) (defScope s_UnknownEdge_Dinit) [] [] (He.fAd K ("UnknownEdge", some "__init__")) fd) : FnOk P w K mg base (L2.CX P w) 1 (He.ma K (He.ga K "UnknownEdge") "__init__") fd ["self", "edge"] (spX (He.ga K "UnknownEdge") (some "edge")) :=
  ini1_ok (C := He.ga K "UnknownEdge") (m := "there is no such edge") D sc_UnknownEdge_Dinit fun cdv A outer s H E => pss_cons (ps_expr (e_init ebase_LE (ecB_ok (Bool.and_eq_true_iff.mp hx).1) rfl hf (by decide) (by decide) (pa_cons (pe_var (i := 0) rfl (.inl rfl)) (pa_cons pe_str pa_nil)))) (pss_one (e_set ebase_LE (ecB_ok (Bool.and_eq_true_iff.mp hx).1) hn (pe_var (i := 0) rfl (.inl rfl)) (pe_var (i := 1) rfl (.inl rfl))))
theorem i_EdgeExists {fd : FuncData} (hx : fxE "EdgeExists" "RuntimeError.__new__" [.type "RuntimeError", .type "Exception", .type "BaseException", .type "object"] K = true) (hf : mg (Str.ofString "RuntimeError") = none) (hn : PySem.W.findIn K (.ref (He.ga K "EdgeExists")) "edge" = some none) (D : FunD K "__init__" "EdgeExists.__init__" (defArgs s_EdgeExists_Dinit) (defBody s_EdgeExists_Dinit) (defScope s_EdgeExists_Dinit) [] [] (He.fAd K ("EdgeExists", some "__init__")) fd) : FnOk P w K mg base (L2.CX P w) 1 (He.ma K (He.ga K "EdgeExists") "__init__") fd ["self", "edge"] (spX (He.ga K "EdgeExists") (some "edge")) :=
  ini1_ok (C := He.ga K "EdgeExists") (m := "the machine has this edge already") D sc_EdgeExists_Dinit fun cdv A outer s H E => pss_cons (ps_expr (e_init ebase_RE (ecB_ok (Bool.and_eq_true_iff.mp hx).1) rfl hf (by decide) (by decide) (pa_cons (pe_var (i := 0) rfl (.inl rfl)) (pa_cons pe_str pa_nil)))) (pss_one (e_set ebase_RE (ecB_ok (Bool.and_eq_true_iff.mp hx).1) hn (pe_var (i := 0) rfl (.inl rfl)) (pe_var (i := 1) rfl (.inl rfl))))
theorem i_LimitExceeded {fd : FuncData} (hx : fxE "LimitExceeded" "OverflowError.__new__" [.type "OverflowError", .type "ArithmeticError", .type "Exception", .type "BaseException", .type "object"] K = true) (hf : mg (Str.ofString "OverflowError") = none) (hn : PySem.W.findIn K (.ref (He.ga K "LimitExceeded")) "limit" = some none) (D : FunD K "__init__" "LimitExceeded.__init__" (defArgs s_LimitExceeded_Dinit) (defBody s_LimitExceeded_Dinit) (defScope s_LimitExceeded_Dinit) [] [] (He.fAd K ("LimitExceeded", some "__init__")) fd) : FnOk P w K mg base (L2.CX P w) 1 (He.ma K (He.ga K "LimitExceeded") "__init__") fd ["self", "limit"] (spX (He.ga K "LimitExceeded") (some "limit")) :=
  ini1_ok (C := He.ga K "LimitExceeded") (m := "a limit is exceeded") D sc_LimitExceeded_Dinit fun cdv A outer s H E => pss_cons (ps_expr (e_init ebase_OE (ecB_ok (Bool.and_eq_true_iff.mp hx).1) rfl hf (by decide) (by decide) (pa_cons (pe_var (i := 0) rfl (.inl rfl)) (pa_cons pe_str pa_nil)))) (pss_one (e_set ebase_OE (ecB_ok (Bool.and_eq_true_iff.mp hx).1) hn (pe_var (i := 0) rfl (.inl rfl)) (pe_var (i := 1) rfl (.inl rfl))))
end
def e_is_integer : He.DefD := ⟨("is_integer", none), "is_integer", "is_integer", defArgs s_is_integer, defBody s_is_integer, defScope s_is_integer, [], []⟩
def e_is_log : He.DefD := ⟨("is_log", none), "is_log", "is_log", defArgs s_is_log, defBody s_is_log, defScope s_is_log, [], []⟩
def e_Machine_DinitD : He.DefD := ⟨("Machine", some "__init__"), "__init__", "Machine.__init__", defArgs s_Machine_DinitD, defBody s_Machine_DinitD, defScope s_Machine_DinitD, [], []⟩
def e_Machine_require_state : He.DefD := ⟨("Machine", some "require_state"), "require_state", "Machine.require_state", defArgs s_Machine_require_state, defBody s_Machine_require_state, defScope s_Machine_require_state, [], []⟩
def e_Machine_add_edge : He.DefD := ⟨("Machine", some "add_edge"), "add_edge", "Machine.add_edge", defArgs s_Machine_add_edge, defBody s_Machine_add_edge, defScope s_Machine_add_edge, [], []⟩
def e_Machine_remove_edge : He.DefD := ⟨("Machine", some "remove_edge"), "remove_edge", "Machine.remove_edge", defArgs s_Machine_remove_edge, defBody s_Machine_remove_edge, defScope s_Machine_remove_edge, [], []⟩
def e_Machine_add_start : He.DefD := ⟨("Machine", some "add_start"), "add_start", "Machine.add_start", defArgs s_Machine_add_start, defBody s_Machine_add_start, defScope s_Machine_add_start, [], []⟩
def e_Machine_add_end : He.DefD := ⟨("Machine", some "add_end"), "add_end", "Machine.add_end", defArgs s_Machine_add_end, defBody s_Machine_add_end, defScope s_Machine_add_end, [], []⟩
def e_Machine_remove_start : He.DefD := ⟨("Machine", some "remove_start"), "remove_start", "Machine.remove_start", defArgs s_Machine_remove_start, defBody s_Machine_remove_start, defScope s_Machine_remove_start, [], []⟩
def e_Machine_remove_end : He.DefD := ⟨("Machine", some "remove_end"), "remove_end", "Machine.remove_end", defArgs s_Machine_remove_end, defBody s_Machine_remove_end, defScope s_Machine_remove_end, [], []⟩
def e_Machine_edges : He.DefD := ⟨("Machine", some "edges"), "edges", "Machine.edges", defArgs s_Machine_edges, defBody s_Machine_edges, defScope s_Machine_edges, [], []⟩
def e_Machine_starts : He.DefD := ⟨("Machine", some "starts"), "starts", "Machine.starts", defArgs s_Machine_starts, defBody s_Machine_starts, defScope s_Machine_starts, [], []⟩
def e_Machine_twin : He.DefD := ⟨("Machine", some "twin"), "twin", "Machine.twin", defArgs s_Machine_twin, defBody s_Machine_twin, defScope s_Machine_twin, [], []⟩
def e_Machine_step : He.DefD := ⟨("Machine", some "step"), "step", "Machine.step", defArgs s_Machine_step, defBody s_Machine_step, defScope s_Machine_step, [], []⟩
def e_Machine_has_end : He.DefD := ⟨("Machine", some "has_end"), "has_end", "Machine.has_end", defArgs s_Machine_has_end, defBody s_Machine_has_end, defScope s_Machine_has_end, [], []⟩
def e_require_pair : He.DefD := ⟨("require_pair", none), "require_pair", "require_pair", defArgs s_require_pair, defBody s_require_pair, defScope s_require_pair, [], []⟩
def e_require_sign : He.DefD := ⟨("require_sign", none), "require_sign", "require_sign", defArgs s_require_sign, defBody s_require_sign, defScope s_require_sign, [], []⟩
def e_KindFollower_DinitD : He.DefD := ⟨("KindFollower", some "__init__"), "__init__", "KindFollower.__init__", defArgs s_KindFollower_DinitD, defBody s_KindFollower_DinitD, defScope s_KindFollower_DinitD, [], []⟩
def e_KindFollower_read : He.DefD := ⟨("KindFollower", some "read"), "read", "KindFollower.read", defArgs s_KindFollower_read, defBody s_KindFollower_read, defScope s_KindFollower_read, [], []⟩
def e_KindFollower_is_now : He.DefD := ⟨("KindFollower", some "is_now"), "is_now", "KindFollower.is_now", defArgs s_KindFollower_is_now, defBody s_KindFollower_is_now, defScope s_KindFollower_is_now, [], []⟩
def e_KindFollower_rows : He.DefD := ⟨("KindFollower", some "rows"), "rows", "KindFollower.rows", defArgs s_KindFollower_rows, defBody s_KindFollower_rows, defScope s_KindFollower_rows, [], []⟩
def e_KindFollower_can_become : He.DefD := ⟨("KindFollower", some "can_become"), "can_become", "KindFollower.can_become", defArgs s_KindFollower_can_become, defBody s_KindFollower_can_become, defScope s_KindFollower_can_become, [], []⟩
def e_KindFollower_is_settled : He.DefD := ⟨("KindFollower", some "is_settled"), "is_settled", "KindFollower.is_settled", defArgs s_KindFollower_is_settled, defBody s_KindFollower_is_settled, defScope s_KindFollower_is_settled, [], []⟩
def e_reaches_end : He.DefD := ⟨("reaches_end", none), "reaches_end", "reaches_end", defArgs s_reaches_end, defBody s_reaches_end, defScope s_reaches_end, [], []⟩
def e__law_pen : He.DefD := ⟨("_law_pen", none), "_law_pen", "_law_pen", defArgs s__law_pen, defBody s__law_pen, defScope s__law_pen, [], []⟩
def e__law_fresh : He.DefD := ⟨("_law_fresh", none), "_law_fresh", "_law_fresh", defArgs s__law_fresh, defBody s__law_fresh, defScope s__law_fresh, [], []⟩
def e__law_draw : He.DefD := ⟨("_law_draw", none), "_law_draw", "_law_draw", defArgs s__law_draw, defBody s__law_draw, defScope s__law_draw, [], []⟩
def e__law_plan : He.DefD := ⟨("_law_plan", none), "_law_plan", "_law_plan", defArgs s__law_plan, defBody s__law_plan, defScope s__law_plan, [], []⟩
def e__law_machine_of : He.DefD := ⟨("_law_machine_of", none), "_law_machine_of", "_law_machine_of", defArgs s__law_machine_of, defBody s__law_machine_of, defScope s__law_machine_of, [], []⟩
def e__law_stepped : He.DefD := ⟨("_law_stepped", none), "_law_stepped", "_law_stepped", defArgs s__law_stepped, defBody s__law_stepped, defScope s__law_stepped, [], []⟩
def e__law_states : He.DefD := ⟨("_law_states", none), "_law_states", "_law_states", defArgs s__law_states, defBody s__law_states, defScope s__law_states, [], []⟩
def e__law_has : He.DefD := ⟨("_law_has", none), "_law_has", "_law_has", defArgs s__law_has, defBody s__law_has, defScope s__law_has, [], []⟩
def e__law_can : He.DefD := ⟨("_law_can", none), "_law_can", "_law_can", defArgs s__law_can, defBody s__law_can, defScope s__law_can, [], []⟩
def e__law_moved : He.DefD := ⟨("_law_moved", none), "_law_moved", "_law_moved", defArgs s__law_moved, defBody s__law_moved, defScope s__law_moved, [], []⟩
def e_law : He.DefD := ⟨("law", none), "law", "law", defArgs s_law, defBody s_law, defScope s_law, [], []⟩
def e_NotALog_Dinit : He.DefD := ⟨("NotALog", some "__init__"), "__init__", "NotALog.__init__", defArgs s_NotALog_Dinit, defBody s_NotALog_Dinit, defScope s_NotALog_Dinit, [], []⟩
def e_Unpaired_Dinit : He.DefD := ⟨("Unpaired", some "__init__"), "__init__", "Unpaired.__init__", defArgs s_Unpaired_Dinit, defBody s_Unpaired_Dinit, defScope s_Unpaired_Dinit, [], []⟩
def e_UnknownState_Dinit : He.DefD := ⟨("UnknownState", some "__init__"), "__init__", "UnknownState.__init__", defArgs s_UnknownState_Dinit, defBody s_UnknownState_Dinit, defScope s_UnknownState_Dinit, [], []⟩
def e_UnknownEdge_Dinit : He.DefD := ⟨("UnknownEdge", some "__init__"), "__init__", "UnknownEdge.__init__", defArgs s_UnknownEdge_Dinit, defBody s_UnknownEdge_Dinit, defScope s_UnknownEdge_Dinit, [], []⟩
def e_EdgeExists_Dinit : He.DefD := ⟨("EdgeExists", some "__init__"), "__init__", "EdgeExists.__init__", defArgs s_EdgeExists_Dinit, defBody s_EdgeExists_Dinit, defScope s_EdgeExists_Dinit, [], []⟩
def e_LimitExceeded_Dinit : He.DefD := ⟨("LimitExceeded", some "__init__"), "__init__", "LimitExceeded.__init__", defArgs s_LimitExceeded_Dinit, defBody s_LimitExceeded_Dinit, defScope s_LimitExceeded_Dinit, [], []⟩
def fn : List He.DefD := [e_is_integer, e_is_log, e_Machine_DinitD, e_Machine_require_state, e_Machine_add_edge, e_Machine_remove_edge, e_Machine_add_start, e_Machine_add_end, e_Machine_remove_start, e_Machine_remove_end, e_Machine_edges, e_Machine_starts, e_Machine_twin, e_Machine_step, e_Machine_has_end, e_require_pair, e_require_sign, e_KindFollower_DinitD, e_KindFollower_read, e_KindFollower_is_now, e_KindFollower_rows, e_KindFollower_can_become, e_KindFollower_is_settled, e_reaches_end, e__law_pen, e__law_fresh, e__law_draw, e__law_plan, e__law_machine_of, e__law_stepped, e__law_states, e__law_has, e__law_can, e__law_moved, e_law, e_NotALog_Dinit, e_Unpaired_Dinit, e_UnknownState_Dinit, e_UnknownEdge_Dinit, e_EdgeExists_Dinit, e_LimitExceeded_Dinit]
def fa : List He.Fa := [.glo "is_integer", .glo "is_log", .glo "require_pair", .glo "require_sign", .glo "reaches_end", .glo "_law_pen", .glo "_law_fresh", .glo "_law_draw", .glo "_law_plan", .glo "_law_machine_of", .glo "_law_stepped", .glo "_law_states", .glo "_law_has", .glo "_law_can", .glo "_law_moved", .glo "law", .glo "NotALog", .glo "Unpaired", .glo "UnknownState", .glo "UnknownEdge", .glo "EdgeExists", .glo "LimitExceeded", .glo "Machine", .glo "KindFollower", .noat "NotALog" "value", .noat "UnknownState" "state", .noat "UnknownEdge" "edge", .noat "EdgeExists" "edge", .noat "LimitExceeded" "limit", .cls "KindFollower", .meth "KindFollower" "can_become", .meth "KindFollower" "is_now", .meth "KindFollower" "is_settled", .meth "KindFollower" "read", .meth "KindFollower" "rows", .cls "Machine", .meth "Machine" "add_edge", .meth "Machine" "add_end", .meth "Machine" "add_start", .meth "Machine" "edges", .meth "Machine" "has_end", .meth "Machine" "remove_edge", .meth "Machine" "remove_end", .meth "Machine" "remove_start", .meth "Machine" "require_state", .meth "Machine" "starts", .meth "Machine" "step", .meth "Machine" "twin", .mkr "KindFollower", .mkr "Machine", .noat "KindFollower" "machines", .noat "KindFollower" "present", .noat "Machine" "first", .noat "Machine" "kept", .noat "Machine" "last", .noat "Machine" "signs", .noat "Machine" "states", .free "LookupError", .free "OverflowError", .free "RuntimeError", .free "ValueError", .free "all", .free "any", .free "bool", .free "int", .free "isinstance", .free "len", .free "list", .free "range", .free "repr", .free "set", .free "sorted", .free "str", .free "tuple", .free "zip", .str "ALPHABET" "abc", .int "MAX_EDGES" 14, .int "MAX_SIGNS" 3, .int "MAX_STATES" 6]
def fx : List (PySem.W.Frag → Bool) := [fxE "NotALog" "ValueError.__new__" [.type "ValueError", .type "Exception", .type "BaseException", .type "object"], fxE "Unpaired" "ValueError.__new__" [.type "ValueError", .type "Exception", .type "BaseException", .type "object"], fxE "UnknownState" "LookupError.__new__" [.type "LookupError", .type "Exception", .type "BaseException", .type "object"], fxE "UnknownEdge" "LookupError.__new__" [.type "LookupError", .type "Exception", .type "BaseException", .type "object"], fxE "EdgeExists" "RuntimeError.__new__" [.type "RuntimeError", .type "Exception", .type "BaseException", .type "object"], fxE "LimitExceeded" "OverflowError.__new__" [.type "OverflowError", .type "ArithmeticError", .type "Exception", .type "BaseException", .type "object"]]
abbrev R : PySem.W.OpenRow := PySem.W.OpenLaw.row PySem.Challenge.rw_gaprules_k65_kinds_followed
abbrev hk : PySem.W.Hook := hookX 4 fa fn fx
def ob (s : PySem.W.SharedT) : AlX := obsXG 4 fa fn fx (HandSHeadRun.getT s)
theorem ob_eq (s : PySem.W.SharedT) : ob s = hk.obs s.abs := obsXG_eq (HandSHeadRun.getT_eq s)
def loose : List String := (["_wall", "NotALog", "Unpaired", "UnknownState", "UnknownEdge", "EdgeExists", "LimitExceeded", "ALPHABET", "is_integer", "is_log", "MAX_SIGNS", "MAX_STATES", "MAX_EDGES", "Machine", "require_pair", "require_sign", "KindFollower", "reaches_end", "_law_pen", "_law_fresh", "_law_draw", "_law_plan", "_law_machine_of", "_law_stepped", "_law_states", "_law_has", "_law_can", "_law_moved"] : List String)
def looseS : List PySem.Str := (["_wall", "NotALog", "Unpaired", "UnknownState", "UnknownEdge", "EdgeExists", "LimitExceeded", "ALPHABET", "is_integer", "is_log", "MAX_SIGNS", "MAX_STATES", "MAX_EDGES", "Machine", "require_pair", "require_sign", "KindFollower", "reaches_end", "_law_pen", "_law_fresh", "_law_draw", "_law_plan", "_law_machine_of", "_law_stepped", "_law_states", "_law_has", "_law_can", "_law_moved"] : List PySem.Str)
theorem run (w : World) : HandSHeadRun.RunEq R (PySem.W.view R.prog [33]) hk ob 4000 looseS w := by
  intro os
  kernel_rfl
abbrev Gk (w : World) (K : PySem.W.Frag) : Gx := ⟨K, neOf w K cNs fNs fNs_ok, fun _ _ _ => False⟩
section
variable {P : Program} {w : World} {K : PySem.W.Frag} {mg : Str → Option Value} {base h : Heap}
theorem fs_of (X : K.In h) (N : h.Ns mainGlobals mg) (c : SaysX fa fn fx K) : ∀ n, Fs P w K mg base (Gk w K) n := by
  obtain ⟨fd_is_integer, D_is_integer⟩ := c.d.def_ 0 (d := e_is_integer) rfl
  obtain ⟨fd_is_log, D_is_log⟩ := c.d.def_ 1 (d := e_is_log) rfl
  obtain ⟨fd_Machine_DinitD, D_Machine_DinitD⟩ := c.d.def_ 2 (d := e_Machine_DinitD) rfl
  obtain ⟨fd_Machine_require_state, D_Machine_require_state⟩ := c.d.def_ 3 (d := e_Machine_require_state) rfl
  obtain ⟨fd_Machine_add_edge, D_Machine_add_edge⟩ := c.d.def_ 4 (d := e_Machine_add_edge) rfl
  obtain ⟨fd_Machine_remove_edge, D_Machine_remove_edge⟩ := c.d.def_ 5 (d := e_Machine_remove_edge) rfl
  obtain ⟨fd_Machine_add_start, D_Machine_add_start⟩ := c.d.def_ 6 (d := e_Machine_add_start) rfl
  obtain ⟨fd_Machine_add_end, D_Machine_add_end⟩ := c.d.def_ 7 (d := e_Machine_add_end) rfl
  obtain ⟨fd_Machine_remove_start, D_Machine_remove_start⟩ := c.d.def_ 8 (d := e_Machine_remove_start) rfl
  obtain ⟨fd_Machine_remove_end, D_Machine_remove_end⟩ := c.d.def_ 9 (d := e_Machine_remove_end) rfl
  obtain ⟨fd_Machine_edges, D_Machine_edges⟩ := c.d.def_ 10 (d := e_Machine_edges) rfl
  obtain ⟨fd_Machine_starts, D_Machine_starts⟩ := c.d.def_ 11 (d := e_Machine_starts) rfl
  obtain ⟨fd_Machine_twin, D_Machine_twin⟩ := c.d.def_ 12 (d := e_Machine_twin) rfl
  obtain ⟨fd_Machine_step, D_Machine_step⟩ := c.d.def_ 13 (d := e_Machine_step) rfl
  obtain ⟨fd_Machine_has_end, D_Machine_has_end⟩ := c.d.def_ 14 (d := e_Machine_has_end) rfl
  obtain ⟨fd_require_pair, D_require_pair⟩ := c.d.def_ 15 (d := e_require_pair) rfl
  obtain ⟨fd_require_sign, D_require_sign⟩ := c.d.def_ 16 (d := e_require_sign) rfl
  obtain ⟨fd_KindFollower_DinitD, D_KindFollower_DinitD⟩ := c.d.def_ 17 (d := e_KindFollower_DinitD) rfl
  obtain ⟨fd_KindFollower_read, D_KindFollower_read⟩ := c.d.def_ 18 (d := e_KindFollower_read) rfl
  obtain ⟨fd_KindFollower_is_now, D_KindFollower_is_now⟩ := c.d.def_ 19 (d := e_KindFollower_is_now) rfl
  obtain ⟨fd_KindFollower_rows, D_KindFollower_rows⟩ := c.d.def_ 20 (d := e_KindFollower_rows) rfl
  obtain ⟨fd_KindFollower_can_become, D_KindFollower_can_become⟩ := c.d.def_ 21 (d := e_KindFollower_can_become) rfl
  obtain ⟨fd_KindFollower_is_settled, D_KindFollower_is_settled⟩ := c.d.def_ 22 (d := e_KindFollower_is_settled) rfl
  obtain ⟨fd_reaches_end, D_reaches_end⟩ := c.d.def_ 23 (d := e_reaches_end) rfl
  obtain ⟨fd__law_pen, D__law_pen⟩ := c.d.def_ 24 (d := e__law_pen) rfl
  obtain ⟨fd__law_fresh, D__law_fresh⟩ := c.d.def_ 25 (d := e__law_fresh) rfl
  obtain ⟨fd__law_draw, D__law_draw⟩ := c.d.def_ 26 (d := e__law_draw) rfl
  obtain ⟨fd__law_plan, D__law_plan⟩ := c.d.def_ 27 (d := e__law_plan) rfl
  obtain ⟨fd__law_machine_of, D__law_machine_of⟩ := c.d.def_ 28 (d := e__law_machine_of) rfl
  obtain ⟨fd__law_stepped, D__law_stepped⟩ := c.d.def_ 29 (d := e__law_stepped) rfl
  obtain ⟨fd__law_states, D__law_states⟩ := c.d.def_ 30 (d := e__law_states) rfl
  obtain ⟨fd__law_has, D__law_has⟩ := c.d.def_ 31 (d := e__law_has) rfl
  obtain ⟨fd__law_can, D__law_can⟩ := c.d.def_ 32 (d := e__law_can) rfl
  obtain ⟨fd__law_moved, D__law_moved⟩ := c.d.def_ 33 (d := e__law_moved) rfl
  obtain ⟨fd_law, D_law⟩ := c.d.def_ 34 (d := e_law) rfl
  obtain ⟨fd_NotALog_Dinit, D_NotALog_Dinit⟩ := c.d.def_ 35 (d := e_NotALog_Dinit) rfl
  obtain ⟨fd_Unpaired_Dinit, D_Unpaired_Dinit⟩ := c.d.def_ 36 (d := e_Unpaired_Dinit) rfl
  obtain ⟨fd_UnknownState_Dinit, D_UnknownState_Dinit⟩ := c.d.def_ 37 (d := e_UnknownState_Dinit) rfl
  obtain ⟨fd_UnknownEdge_Dinit, D_UnknownEdge_Dinit⟩ := c.d.def_ 38 (d := e_UnknownEdge_Dinit) rfl
  obtain ⟨fd_EdgeExists_Dinit, D_EdgeExists_Dinit⟩ := c.d.def_ 39 (d := e_EdgeExists_Dinit) rfl
  obtain ⟨fd_LimitExceeded_Dinit, D_LimitExceeded_Dinit⟩ := c.d.def_ 40 (d := e_LimitExceeded_Dinit) rfl
  have B_is_integer : Binds K fd_is_integer ["value", "low", "high"] [] := D_is_integer.bindsN fun _ _ _ _ _ _ us hl => match us, hl with | [_, _, _], _ => rfl
  have B_is_log : Binds K fd_is_log ["value", "signs"] [] := D_is_log.bindsN fun _ _ _ _ _ _ us hl => match us, hl with | [_, _], _ => rfl
  have B_Machine_DinitD : Binds K fd_Machine_DinitD ["self", "signs", "states"] [] := D_Machine_DinitD.bindsN fun _ _ _ _ _ _ us hl => match us, hl with | [_, _, _], _ => rfl
  have B_Machine_require_state : Binds K fd_Machine_require_state ["self", "state"] [] := D_Machine_require_state.bindsN fun _ _ _ _ _ _ us hl => match us, hl with | [_, _], _ => rfl
  have B_Machine_add_edge : Binds K fd_Machine_add_edge ["self", "origin", "sign", "target"] [] := D_Machine_add_edge.bindsN fun _ _ _ _ _ _ us hl => match us, hl with | [_, _, _, _], _ => rfl
  have B_Machine_remove_edge : Binds K fd_Machine_remove_edge ["self", "origin", "sign", "target"] [] := D_Machine_remove_edge.bindsN fun _ _ _ _ _ _ us hl => match us, hl with | [_, _, _, _], _ => rfl
  have B_Machine_add_start : Binds K fd_Machine_add_start ["self", "state"] [] := D_Machine_add_start.bindsN fun _ _ _ _ _ _ us hl => match us, hl with | [_, _], _ => rfl
  have B_Machine_add_end : Binds K fd_Machine_add_end ["self", "state"] [] := D_Machine_add_end.bindsN fun _ _ _ _ _ _ us hl => match us, hl with | [_, _], _ => rfl
  have B_Machine_remove_start : Binds K fd_Machine_remove_start ["self", "state"] [] := D_Machine_remove_start.bindsN fun _ _ _ _ _ _ us hl => match us, hl with | [_, _], _ => rfl
  have B_Machine_remove_end : Binds K fd_Machine_remove_end ["self", "state"] [] := D_Machine_remove_end.bindsN fun _ _ _ _ _ _ us hl => match us, hl with | [_, _], _ => rfl
  have B_Machine_edges : Binds K fd_Machine_edges ["self"] [] := D_Machine_edges.bindsN fun _ _ _ _ _ _ us hl => match us, hl with | [_], _ => rfl
  have B_Machine_starts : Binds K fd_Machine_starts ["self"] [] := D_Machine_starts.bindsN fun _ _ _ _ _ _ us hl => match us, hl with | [_], _ => rfl
  have B_Machine_twin : Binds K fd_Machine_twin ["self"] [] := D_Machine_twin.bindsN fun _ _ _ _ _ _ us hl => match us, hl with | [_], _ => rfl
  have B_Machine_step : Binds K fd_Machine_step ["self", "states", "sign"] [] := D_Machine_step.bindsN fun _ _ _ _ _ _ us hl => match us, hl with | [_, _, _], _ => rfl
  have B_Machine_has_end : Binds K fd_Machine_has_end ["self", "states"] [] := D_Machine_has_end.bindsN fun _ _ _ _ _ _ us hl => match us, hl with | [_, _], _ => rfl
  have B_require_pair : Binds K fd_require_pair ["pair"] [] := D_require_pair.bindsN fun _ _ _ _ _ _ us hl => match us, hl with | [_], _ => rfl
  have B_require_sign : Binds K fd_require_sign ["sign", "signs"] [] := D_require_sign.bindsN fun _ _ _ _ _ _ us hl => match us, hl with | [_, _], _ => rfl
  have B_KindFollower_DinitD : Binds K fd_KindFollower_DinitD ["self", "pair"] [] := D_KindFollower_DinitD.bindsN fun _ _ _ _ _ _ us hl => match us, hl with | [_, _], _ => rfl
  have B_KindFollower_read : Binds K fd_KindFollower_read ["self", "sign"] [] := D_KindFollower_read.bindsN fun _ _ _ _ _ _ us hl => match us, hl with | [_, _], _ => rfl
  have B_KindFollower_is_now : Binds K fd_KindFollower_is_now ["self"] [] := D_KindFollower_is_now.bindsN fun _ _ _ _ _ _ us hl => match us, hl with | [_], _ => rfl
  have B_KindFollower_rows : Binds K fd_KindFollower_rows ["self"] [] := D_KindFollower_rows.bindsN fun _ _ _ _ _ _ us hl => match us, hl with | [_], _ => rfl
  have B_KindFollower_can_become : Binds K fd_KindFollower_can_become ["self"] [] := D_KindFollower_can_become.bindsN fun _ _ _ _ _ _ us hl => match us, hl with | [_], _ => rfl
  have B_KindFollower_is_settled : Binds K fd_KindFollower_is_settled ["self"] [] := D_KindFollower_is_settled.bindsN fun _ _ _ _ _ _ us hl => match us, hl with | [_], _ => rfl
  have B_reaches_end : Binds K fd_reaches_end ["machine", "states"] [] := D_reaches_end.bindsN fun _ _ _ _ _ _ us hl => match us, hl with | [_, _], _ => rfl
  have B__law_pen : Binds K fd__law_pen ["script"] [] := D__law_pen.bindsN fun _ _ _ _ _ _ us hl => match us, hl with | [_], _ => rfl
  have B__law_fresh : Binds K fd__law_fresh ["pen"] [] := D__law_fresh.bindsN fun _ _ _ _ _ _ us hl => match us, hl with | [_], _ => rfl
  have B__law_draw : Binds K fd__law_draw ["pen", "many"] [] := D__law_draw.bindsN fun _ _ _ _ _ _ us hl => match us, hl with | [_, _], _ => rfl
  have B__law_plan : Binds K fd__law_plan ["pen", "signs", "states", "edges"] [] := D__law_plan.bindsN fun _ _ _ _ _ _ us hl => match us, hl with | [_, _, _, _], _ => rfl
  have B__law_machine_of : Binds K fd__law_machine_of ["signs", "plan"] [] := D__law_machine_of.bindsN fun _ _ _ _ _ _ us hl => match us, hl with | [_, _], _ => rfl
  have B__law_stepped : Binds K fd__law_stepped ["plan", "states", "sign"] [] := D__law_stepped.bindsN fun _ _ _ _ _ _ us hl => match us, hl with | [_, _, _], _ => rfl
  have B__law_states : Binds K fd__law_states ["plan", "log"] [] := D__law_states.bindsN fun _ _ _ _ _ _ us hl => match us, hl with | [_, _], _ => rfl
  have B__law_has : Binds K fd__law_has ["plan", "log"] [] := D__law_has.bindsN fun _ _ _ _ _ _ us hl => match us, hl with | [_, _], _ => rfl
  have B__law_can : Binds K fd__law_can ["plan", "states", "k"] [] := D__law_can.bindsN fun _ _ _ _ _ _ us hl => match us, hl with | [_, _, _], _ => rfl
  have B__law_moved : Binds K fd__law_moved ["pen", "machine", "k"] [] := D__law_moved.bindsN fun _ _ _ _ _ _ us hl => match us, hl with | [_, _, _], _ => rfl
  have B_law : Binds K fd_law ["script"] [] := D_law.bindsN fun _ _ _ _ _ _ us hl => match us, hl with | [_], _ => rfl
  have B_NotALog_Dinit : Binds K fd_NotALog_Dinit ["self", "value"] [] := D_NotALog_Dinit.bindsN fun _ _ _ _ _ _ us hl => match us, hl with | [_, _], _ => rfl
  have B_Unpaired_Dinit : Binds K fd_Unpaired_Dinit ["self"] [] := D_Unpaired_Dinit.bindsN fun _ _ _ _ _ _ us hl => match us, hl with | [_], _ => rfl
  have B_UnknownState_Dinit : Binds K fd_UnknownState_Dinit ["self", "state"] [] := D_UnknownState_Dinit.bindsN fun _ _ _ _ _ _ us hl => match us, hl with | [_, _], _ => rfl
  have B_UnknownEdge_Dinit : Binds K fd_UnknownEdge_Dinit ["self", "edge"] [] := D_UnknownEdge_Dinit.bindsN fun _ _ _ _ _ _ us hl => match us, hl with | [_, _], _ => rfl
  have B_EdgeExists_Dinit : Binds K fd_EdgeExists_Dinit ["self", "edge"] [] := D_EdgeExists_Dinit.bindsN fun _ _ _ _ _ _ us hl => match us, hl with | [_, _], _ => rfl
  have B_LimitExceeded_Dinit : Binds K fd_LimitExceeded_Dinit ["self", "limit"] [] := D_LimitExceeded_Dinit.bindsN fun _ _ _ _ _ _ us hl => match us, hl with | [_, _], _ => rfl
  intro n
  induction n with
  | zero => exact ⟨rfl,
      He.glo_ok X N (c.d.fact 0 (f := .glo "is_integer") rfl),
      (cal_of2 D_is_integer (fn_mp02 (ps := ["value", "low", "high"])) B_is_integer (fun F e => by cases e; rfl)),
      He.glo_ok X N (c.d.fact 1 (f := .glo "is_log") rfl),
      (cal_of2 D_is_log (fn_mp02 (ps := ["value", "signs"])) B_is_log (fun F e => by cases e; rfl)),
      He.glo_ok X N (c.d.fact 2 (f := .glo "require_pair") rfl),
      (cal_of2 D_require_pair (fn_mp02 (ps := ["pair"])) B_require_pair (fun F e => by cases e; rfl)),
      He.glo_ok X N (c.d.fact 3 (f := .glo "require_sign") rfl),
      (cal_of2 D_require_sign (fn_mp02 (ps := ["sign", "signs"])) B_require_sign (fun F e => by cases e; rfl)),
      He.glo_ok X N (c.d.fact 4 (f := .glo "reaches_end") rfl),
      (cal_of2 D_reaches_end (fn_mp02 (ps := ["machine", "states"])) B_reaches_end (fun F e => by cases e; rfl)),
      He.glo_ok X N (c.d.fact 5 (f := .glo "_law_pen") rfl),
      (cal_of2 D__law_pen (fn_mp02 (ps := ["script"])) B__law_pen (fun F e => by cases e; rfl)),
      He.glo_ok X N (c.d.fact 6 (f := .glo "_law_fresh") rfl),
      (cal_of2 D__law_fresh (fn_mp02 (ps := ["pen"])) B__law_fresh (fun F e => by cases e; rfl)),
      He.glo_ok X N (c.d.fact 7 (f := .glo "_law_draw") rfl),
      (cal_of2 D__law_draw (fn_mp02 (ps := ["pen", "many"])) B__law_draw (fun F e => by cases e; rfl)),
      He.glo_ok X N (c.d.fact 8 (f := .glo "_law_plan") rfl),
      (cal_of2 D__law_plan (fn_mp02 (ps := ["pen", "signs", "states", "edges"])) B__law_plan (fun F e => by cases e; rfl)),
      He.glo_ok X N (c.d.fact 9 (f := .glo "_law_machine_of") rfl),
      (cal_of2 D__law_machine_of (fn_mp02 (ps := ["signs", "plan"])) B__law_machine_of (fun F e => by cases e; rfl)),
      He.glo_ok X N (c.d.fact 10 (f := .glo "_law_stepped") rfl),
      (cal_of2 D__law_stepped (fn_mp02 (ps := ["plan", "states", "sign"])) B__law_stepped (fun F e => by cases e; rfl)),
      He.glo_ok X N (c.d.fact 11 (f := .glo "_law_states") rfl),
      (cal_of2 D__law_states (fn_mp02 (ps := ["plan", "log"])) B__law_states (fun F e => by cases e; rfl)),
      He.glo_ok X N (c.d.fact 12 (f := .glo "_law_has") rfl),
      (cal_of2 D__law_has (fn_mp02 (ps := ["plan", "log"])) B__law_has (fun F e => by cases e; rfl)),
      He.glo_ok X N (c.d.fact 13 (f := .glo "_law_can") rfl),
      (cal_of2 D__law_can (fn_mp02 (ps := ["plan", "states", "k"])) B__law_can (fun F e => by cases e; rfl)),
      He.glo_ok X N (c.d.fact 14 (f := .glo "_law_moved") rfl),
      (cal_of2 D__law_moved (fn_mp02 (ps := ["pen", "machine", "k"])) B__law_moved (fun F e => by cases e; rfl)),
      He.glo_ok X N (c.d.fact 15 (f := .glo "law") rfl),
      (cal_of2 D_law (fn_mp02 (ps := ["script"])) B_law (fun F e => by cases e; rfl)),
      rfl,
      rfl,
      rfl,
      rfl,
      rfl,
      rfl,
      rfl,
      rfl,
      rfl,
      rfl,
      rfl,
      rfl,
      rfl,
      rfl,
      He.glo_ok X N (c.d.fact 16 (f := .glo "NotALog") rfl),
      He.glo_ok X N (c.d.fact 17 (f := .glo "Unpaired") rfl),
      He.glo_ok X N (c.d.fact 18 (f := .glo "UnknownState") rfl),
      He.glo_ok X N (c.d.fact 19 (f := .glo "UnknownEdge") rfl),
      He.glo_ok X N (c.d.fact 20 (f := .glo "EdgeExists") rfl),
      He.glo_ok X N (c.d.fact 21 (f := .glo "LimitExceeded") rfl),
      He.glo_ok X N (c.d.fact 22 (f := .glo "Machine") rfl),
      He.glo_ok X N (c.d.fact 23 (f := .glo "KindFollower") rfl),
      exc_of ebase_VE (c.x 0 (f := fxE "NotALog" "ValueError.__new__" [.type "ValueError", .type "Exception", .type "BaseException", .type "object"]) rfl) rfl (i_NotALog (c.x 0 (f := fxE "NotALog" "ValueError.__new__" [.type "ValueError", .type "Exception", .type "BaseException", .type "object"]) rfl) (He.free_ok X N (c.d.fact 60 (f := .free "ValueError") rfl)) (He.noat_ok (c.d.fact 24 (f := .noat "NotALog" "value") rfl)) D_NotALog_Dinit) B_NotALog_Dinit,
      He.noat_ok (c.d.fact 24 (f := .noat "NotALog" "value") rfl),
      exc_of ebase_VE (c.x 1 (f := fxE "Unpaired" "ValueError.__new__" [.type "ValueError", .type "Exception", .type "BaseException", .type "object"]) rfl) rfl (i_Unpaired (c.x 1 (f := fxE "Unpaired" "ValueError.__new__" [.type "ValueError", .type "Exception", .type "BaseException", .type "object"]) rfl) (He.free_ok X N (c.d.fact 60 (f := .free "ValueError") rfl)) D_Unpaired_Dinit) B_Unpaired_Dinit,
      exc_of ebase_LE (c.x 2 (f := fxE "UnknownState" "LookupError.__new__" [.type "LookupError", .type "Exception", .type "BaseException", .type "object"]) rfl) rfl (i_UnknownState (c.x 2 (f := fxE "UnknownState" "LookupError.__new__" [.type "LookupError", .type "Exception", .type "BaseException", .type "object"]) rfl) (He.free_ok X N (c.d.fact 57 (f := .free "LookupError") rfl)) (He.noat_ok (c.d.fact 25 (f := .noat "UnknownState" "state") rfl)) D_UnknownState_Dinit) B_UnknownState_Dinit,
      He.noat_ok (c.d.fact 25 (f := .noat "UnknownState" "state") rfl),
      exc_of ebase_LE (c.x 3 (f := fxE "UnknownEdge" "LookupError.__new__" [.type "LookupError", .type "Exception", .type "BaseException", .type "object"]) rfl) rfl (i_UnknownEdge (c.x 3 (f := fxE "UnknownEdge" "LookupError.__new__" [.type "LookupError", .type "Exception", .type "BaseException", .type "object"]) rfl) (He.free_ok X N (c.d.fact 57 (f := .free "LookupError") rfl)) (He.noat_ok (c.d.fact 26 (f := .noat "UnknownEdge" "edge") rfl)) D_UnknownEdge_Dinit) B_UnknownEdge_Dinit,
      He.noat_ok (c.d.fact 26 (f := .noat "UnknownEdge" "edge") rfl),
      exc_of ebase_RE (c.x 4 (f := fxE "EdgeExists" "RuntimeError.__new__" [.type "RuntimeError", .type "Exception", .type "BaseException", .type "object"]) rfl) rfl (i_EdgeExists (c.x 4 (f := fxE "EdgeExists" "RuntimeError.__new__" [.type "RuntimeError", .type "Exception", .type "BaseException", .type "object"]) rfl) (He.free_ok X N (c.d.fact 59 (f := .free "RuntimeError") rfl)) (He.noat_ok (c.d.fact 27 (f := .noat "EdgeExists" "edge") rfl)) D_EdgeExists_Dinit) B_EdgeExists_Dinit,
      He.noat_ok (c.d.fact 27 (f := .noat "EdgeExists" "edge") rfl),
      exc_of ebase_OE (c.x 5 (f := fxE "LimitExceeded" "OverflowError.__new__" [.type "OverflowError", .type "ArithmeticError", .type "Exception", .type "BaseException", .type "object"]) rfl) rfl (i_LimitExceeded (c.x 5 (f := fxE "LimitExceeded" "OverflowError.__new__" [.type "OverflowError", .type "ArithmeticError", .type "Exception", .type "BaseException", .type "object"]) rfl) (He.free_ok X N (c.d.fact 58 (f := .free "OverflowError") rfl)) (He.noat_ok (c.d.fact 28 (f := .noat "LimitExceeded" "limit") rfl)) D_LimitExceeded_Dinit) B_LimitExceeded_Dinit,
      He.noat_ok (c.d.fact 28 (f := .noat "LimitExceeded" "limit") rfl),
      ⟨He.cls_ok (c.d.fact 29 (f := .cls "KindFollower") rfl), _, He.meth_ok (c.d.fact 30 (f := .meth "KindFollower" "can_become") rfl), (cal_of2 D_KindFollower_can_become (fn_mp02 (ps := ["self"])) B_KindFollower_can_become (fun F e => by cases e; rfl))⟩,
      ⟨He.cls_ok (c.d.fact 29 (f := .cls "KindFollower") rfl), _, He.meth_ok (c.d.fact 31 (f := .meth "KindFollower" "is_now") rfl), (cal_of2 D_KindFollower_is_now (fn_mp02 (ps := ["self"])) B_KindFollower_is_now (fun F e => by cases e; rfl))⟩,
      ⟨He.cls_ok (c.d.fact 29 (f := .cls "KindFollower") rfl), _, He.meth_ok (c.d.fact 32 (f := .meth "KindFollower" "is_settled") rfl), (cal_of2 D_KindFollower_is_settled (fn_mp02 (ps := ["self"])) B_KindFollower_is_settled (fun F e => by cases e; rfl))⟩,
      ⟨He.cls_ok (c.d.fact 29 (f := .cls "KindFollower") rfl), _, He.meth_ok (c.d.fact 33 (f := .meth "KindFollower" "read") rfl), (cal_of2 D_KindFollower_read (fn_mp02 (ps := ["self", "sign"])) B_KindFollower_read (fun F e => by cases e; rfl))⟩,
      ⟨He.cls_ok (c.d.fact 29 (f := .cls "KindFollower") rfl), _, He.meth_ok (c.d.fact 34 (f := .meth "KindFollower" "rows") rfl), (cal_of2 D_KindFollower_rows (fn_mp02 (ps := ["self"])) B_KindFollower_rows (fun F e => by cases e; rfl))⟩,
      ⟨He.cls_ok (c.d.fact 35 (f := .cls "Machine") rfl), _, He.meth_ok (c.d.fact 36 (f := .meth "Machine" "add_edge") rfl), (cal_of2 D_Machine_add_edge (fn_mp02 (ps := ["self", "origin", "sign", "target"])) B_Machine_add_edge (fun F e => by cases e; rfl))⟩,
      ⟨He.cls_ok (c.d.fact 35 (f := .cls "Machine") rfl), _, He.meth_ok (c.d.fact 37 (f := .meth "Machine" "add_end") rfl), (cal_of2 D_Machine_add_end (fn_mp02 (ps := ["self", "state"])) B_Machine_add_end (fun F e => by cases e; rfl))⟩,
      ⟨He.cls_ok (c.d.fact 35 (f := .cls "Machine") rfl), _, He.meth_ok (c.d.fact 38 (f := .meth "Machine" "add_start") rfl), (cal_of2 D_Machine_add_start (fn_mp02 (ps := ["self", "state"])) B_Machine_add_start (fun F e => by cases e; rfl))⟩,
      ⟨He.cls_ok (c.d.fact 35 (f := .cls "Machine") rfl), _, He.meth_ok (c.d.fact 39 (f := .meth "Machine" "edges") rfl), (cal_of2 D_Machine_edges (fn_mp02 (ps := ["self"])) B_Machine_edges (fun F e => by cases e; rfl))⟩,
      ⟨He.cls_ok (c.d.fact 35 (f := .cls "Machine") rfl), _, He.meth_ok (c.d.fact 40 (f := .meth "Machine" "has_end") rfl), (cal_of2 D_Machine_has_end (fn_mp02 (ps := ["self", "states"])) B_Machine_has_end (fun F e => by cases e; rfl))⟩,
      ⟨He.cls_ok (c.d.fact 35 (f := .cls "Machine") rfl), _, He.meth_ok (c.d.fact 41 (f := .meth "Machine" "remove_edge") rfl), (cal_of2 D_Machine_remove_edge (fn_mp02 (ps := ["self", "origin", "sign", "target"])) B_Machine_remove_edge (fun F e => by cases e; rfl))⟩,
      ⟨He.cls_ok (c.d.fact 35 (f := .cls "Machine") rfl), _, He.meth_ok (c.d.fact 42 (f := .meth "Machine" "remove_end") rfl), (cal_of2 D_Machine_remove_end (fn_mp02 (ps := ["self", "state"])) B_Machine_remove_end (fun F e => by cases e; rfl))⟩,
      ⟨He.cls_ok (c.d.fact 35 (f := .cls "Machine") rfl), _, He.meth_ok (c.d.fact 43 (f := .meth "Machine" "remove_start") rfl), (cal_of2 D_Machine_remove_start (fn_mp02 (ps := ["self", "state"])) B_Machine_remove_start (fun F e => by cases e; rfl))⟩,
      ⟨He.cls_ok (c.d.fact 35 (f := .cls "Machine") rfl), _, He.meth_ok (c.d.fact 44 (f := .meth "Machine" "require_state") rfl), (cal_of2 D_Machine_require_state (fn_mp02 (ps := ["self", "state"])) B_Machine_require_state (fun F e => by cases e; rfl))⟩,
      ⟨He.cls_ok (c.d.fact 35 (f := .cls "Machine") rfl), _, He.meth_ok (c.d.fact 45 (f := .meth "Machine" "starts") rfl), (cal_of2 D_Machine_starts (fn_mp02 (ps := ["self"])) B_Machine_starts (fun F e => by cases e; rfl))⟩,
      ⟨He.cls_ok (c.d.fact 35 (f := .cls "Machine") rfl), _, He.meth_ok (c.d.fact 46 (f := .meth "Machine" "step") rfl), (cal_of2 D_Machine_step (fn_mp02 (ps := ["self", "states", "sign"])) B_Machine_step (fun F e => by cases e; rfl))⟩,
      ⟨He.cls_ok (c.d.fact 35 (f := .cls "Machine") rfl), _, He.meth_ok (c.d.fact 47 (f := .meth "Machine" "twin") rfl), (cal_of2 D_Machine_twin (fn_mp02 (ps := ["self"])) B_Machine_twin (fun F e => by cases e; rfl))⟩,
      fldOf_no (L := fNs) (by decide +kernel) (by decide +kernel),
      fldOf_no (L := fNs) (by decide +kernel) (by decide +kernel),
      fldOf_no (L := fNs) (by decide +kernel) (by decide +kernel),
      fldOf_no (L := fNs) (by decide +kernel) (by decide +kernel),
      fldOf_no (L := fNs) (by decide +kernel) (by decide +kernel),
      fldOf_no (L := fNs) (by decide +kernel) (by decide +kernel),
      fldOf_no (L := fNs) (by decide +kernel) (by decide +kernel),
      fldOf_no (L := fNs) (by decide +kernel) (by decide +kernel),
      fldOf_no (L := fNs) (by decide +kernel) (by decide +kernel),
      fldOf_no (L := fNs) (by decide +kernel) (by decide +kernel),
      fldOf_no (L := fNs) (by decide +kernel) (by decide +kernel),
      fldOf_no (L := fNs) (by decide +kernel) (by decide +kernel),
      fldOf_no (L := fNs) (by decide +kernel) (by decide +kernel),
      fldOf_no (L := fNs) (by decide +kernel) (by decide +kernel),
      fldOf_no (L := fNs) (by decide +kernel) (by decide +kernel),
      fldOf_no (L := fNs) (by decide +kernel) (by decide +kernel),
      fldOf_no (L := fNs) (by decide +kernel) (by decide +kernel),
      ⟨_, He.mkr_ok (c.d.fact 48 (f := .mkr "KindFollower") rfl), (cal_of2 D_KindFollower_DinitD (fn_mp02 (ps := ["self", "pair"])) B_KindFollower_DinitD (fun F e => by cases e; rfl))⟩,
      ⟨_, He.mkr_ok (c.d.fact 49 (f := .mkr "Machine") rfl), (cal_of2 D_Machine_DinitD (fn_mp02 (ps := ["self", "signs", "states"])) B_Machine_DinitD (fun F e => by cases e; rfl))⟩,
      ⟨He.cls_ok (c.d.fact 29 (f := .cls "KindFollower") rfl), He.noat_ok (c.d.fact 50 (f := .noat "KindFollower" "machines") rfl)⟩,
      ⟨He.cls_ok (c.d.fact 29 (f := .cls "KindFollower") rfl), He.noat_ok (c.d.fact 51 (f := .noat "KindFollower" "present") rfl)⟩,
      ⟨He.cls_ok (c.d.fact 35 (f := .cls "Machine") rfl), He.noat_ok (c.d.fact 52 (f := .noat "Machine" "first") rfl)⟩,
      ⟨He.cls_ok (c.d.fact 35 (f := .cls "Machine") rfl), He.noat_ok (c.d.fact 53 (f := .noat "Machine" "kept") rfl)⟩,
      ⟨He.cls_ok (c.d.fact 35 (f := .cls "Machine") rfl), He.noat_ok (c.d.fact 54 (f := .noat "Machine" "last") rfl)⟩,
      ⟨He.cls_ok (c.d.fact 35 (f := .cls "Machine") rfl), He.noat_ok (c.d.fact 55 (f := .noat "Machine" "signs") rfl)⟩,
      ⟨He.cls_ok (c.d.fact 35 (f := .cls "Machine") rfl), He.noat_ok (c.d.fact 56 (f := .noat "Machine" "states") rfl)⟩,
      He.free_ok X N (c.d.fact 57 (f := .free "LookupError") rfl),
      He.free_ok X N (c.d.fact 58 (f := .free "OverflowError") rfl),
      He.free_ok X N (c.d.fact 59 (f := .free "RuntimeError") rfl),
      He.free_ok X N (c.d.fact 60 (f := .free "ValueError") rfl),
      He.free_ok X N (c.d.fact 61 (f := .free "all") rfl),
      He.free_ok X N (c.d.fact 62 (f := .free "any") rfl),
      He.free_ok X N (c.d.fact 63 (f := .free "bool") rfl),
      He.free_ok X N (c.d.fact 64 (f := .free "int") rfl),
      He.free_ok X N (c.d.fact 65 (f := .free "isinstance") rfl),
      He.free_ok X N (c.d.fact 66 (f := .free "len") rfl),
      He.free_ok X N (c.d.fact 67 (f := .free "list") rfl),
      He.free_ok X N (c.d.fact 68 (f := .free "range") rfl),
      He.free_ok X N (c.d.fact 69 (f := .free "repr") rfl),
      He.free_ok X N (c.d.fact 70 (f := .free "set") rfl),
      He.free_ok X N (c.d.fact 71 (f := .free "sorted") rfl),
      He.free_ok X N (c.d.fact 72 (f := .free "str") rfl),
      He.free_ok X N (c.d.fact 73 (f := .free "tuple") rfl),
      He.free_ok X N (c.d.fact 74 (f := .free "zip") rfl),
      He.str_ok X N (c.d.fact 75 (f := .str "ALPHABET" "abc") rfl),
      He.int_ok X N (c.d.fact 76 (f := .int "MAX_EDGES" 14) rfl),
      He.int_ok X N (c.d.fact 77 (f := .int "MAX_SIGNS" 3) rfl),
      He.int_ok X N (c.d.fact 78 (f := .int "MAX_STATES" 6) rfl)⟩
  | succ n ih => exact ⟨rfl,
      He.glo_ok X N (c.d.fact 0 (f := .glo "is_integer") rfl),
      (cal_of2 D_is_integer (fn_mp2 (i := 0) (F := ⟨3, 3, b_is_integer⟩) D_is_integer sc_is_integer rfl rfl rfl (fun cdv A outer s H E hr cx => d_is_integer ih hr (room_h0 hr) (room_h2 hr) cx)) B_is_integer (fun F e => by cases e; rfl)),
      He.glo_ok X N (c.d.fact 1 (f := .glo "is_log") rfl),
      (cal_of2 D_is_log (fn_mp2 (i := 1) (F := ⟨2, 3, b_is_log⟩) D_is_log sc_is_log rfl rfl rfl (fun cdv A outer s H E hr cx => d_is_log ih hr (room_h0 hr) (room_h2 hr) cx)) B_is_log (fun F e => by cases e; rfl)),
      He.glo_ok X N (c.d.fact 2 (f := .glo "require_pair") rfl),
      (cal_of2 D_require_pair (fn_mp2 (i := 15) (F := ⟨1, 1, b_require_pair⟩) D_require_pair sc_require_pair rfl rfl rfl (fun cdv A outer s H E hr cx => d_require_pair ih hr (room_h0 hr) (room_h2 hr) cx)) B_require_pair (fun F e => by cases e; rfl)),
      He.glo_ok X N (c.d.fact 3 (f := .glo "require_sign") rfl),
      (cal_of2 D_require_sign (fn_mp2 (i := 16) (F := ⟨2, 2, b_require_sign⟩) D_require_sign sc_require_sign rfl rfl rfl (fun cdv A outer s H E hr cx => d_require_sign ih hr (room_h0 hr) (room_h2 hr) cx)) B_require_sign (fun F e => by cases e; rfl)),
      He.glo_ok X N (c.d.fact 4 (f := .glo "reaches_end") rfl),
      (cal_of2 D_reaches_end (fn_mp2 (i := 23) (F := ⟨2, 8, b_reaches_end⟩) D_reaches_end sc_reaches_end rfl rfl rfl (fun cdv A outer s H E hr cx => d_reaches_end ih hr (room_h0 hr) (room_h2 hr) cx)) B_reaches_end (fun F e => by cases e; rfl)),
      He.glo_ok X N (c.d.fact 5 (f := .glo "_law_pen") rfl),
      (cal_of2 D__law_pen (fn_mp2 (i := 24) (F := ⟨1, 1, b__law_pen⟩) D__law_pen sc__law_pen rfl rfl rfl (fun cdv A outer s H E hr cx => d__law_pen ih hr (room_h0 hr) (room_h2 hr) cx)) B__law_pen (fun F e => by cases e; rfl)),
      He.glo_ok X N (c.d.fact 6 (f := .glo "_law_fresh") rfl),
      (cal_of2 D__law_fresh (fn_mp2 (i := 25) (F := ⟨1, 7, b__law_fresh⟩) D__law_fresh sc__law_fresh rfl rfl rfl (fun cdv A outer s H E hr cx => d__law_fresh ih hr (room_h0 hr) (room_h2 hr) cx)) B__law_fresh (fun F e => by cases e; rfl)),
      He.glo_ok X N (c.d.fact 7 (f := .glo "_law_draw") rfl),
      (cal_of2 D__law_draw (fn_mp2 (i := 26) (F := ⟨2, 3, b__law_draw⟩) D__law_draw sc__law_draw rfl rfl rfl (fun cdv A outer s H E hr cx => d__law_draw ih hr (room_h0 hr) (room_h2 hr) cx)) B__law_draw (fun F e => by cases e; rfl)),
      He.glo_ok X N (c.d.fact 8 (f := .glo "_law_plan") rfl),
      (cal_of2 D__law_plan (fn_mp2 (i := 27) (F := ⟨4, 11, b__law_plan⟩) D__law_plan sc__law_plan rfl rfl rfl (fun cdv A outer s H E hr cx => d__law_plan ih hr (room_h0 hr) (room_h2 hr) cx)) B__law_plan (fun F e => by cases e; rfl)),
      He.glo_ok X N (c.d.fact 9 (f := .glo "_law_machine_of") rfl),
      (cal_of2 D__law_machine_of (fn_mp2 (i := 28) (F := ⟨2, 7, b__law_machine_of⟩) D__law_machine_of sc__law_machine_of rfl rfl rfl (fun cdv A outer s H E hr cx => d__law_machine_of ih hr (room_h0 hr) (room_h2 hr) cx)) B__law_machine_of (fun F e => by cases e; rfl)),
      He.glo_ok X N (c.d.fact 10 (f := .glo "_law_stepped") rfl),
      (cal_of2 D__law_stepped (fn_mp2 (i := 29) (F := ⟨3, 6, b__law_stepped⟩) D__law_stepped sc__law_stepped rfl rfl rfl (fun cdv A outer s H E hr cx => d__law_stepped ih hr (room_h0 hr) (room_h2 hr) cx)) B__law_stepped (fun F e => by cases e; rfl)),
      He.glo_ok X N (c.d.fact 11 (f := .glo "_law_states") rfl),
      (cal_of2 D__law_states (fn_mp2 (i := 30) (F := ⟨2, 4, b__law_states⟩) D__law_states sc__law_states rfl rfl rfl (fun cdv A outer s H E hr cx => d__law_states ih hr (room_h0 hr) (room_h2 hr) cx)) B__law_states (fun F e => by cases e; rfl)),
      He.glo_ok X N (c.d.fact 12 (f := .glo "_law_has") rfl),
      (cal_of2 D__law_has (fn_mp2 (i := 31) (F := ⟨2, 3, b__law_has⟩) D__law_has sc__law_has rfl rfl rfl (fun cdv A outer s H E hr cx => d__law_has ih hr (room_h0 hr) (room_h2 hr) cx)) B__law_has (fun F e => by cases e; rfl)),
      He.glo_ok X N (c.d.fact 13 (f := .glo "_law_can") rfl),
      (cal_of2 D__law_can (fn_mp2 (i := 32) (F := ⟨3, 7, b__law_can⟩) D__law_can sc__law_can rfl rfl rfl (fun cdv A outer s H E hr cx => d__law_can ih hr (room_h0 hr) (room_h2 hr) cx)) B__law_can (fun F e => by cases e; rfl)),
      He.glo_ok X N (c.d.fact 14 (f := .glo "_law_moved") rfl),
      (cal_of2 D__law_moved (fn_mp2 (i := 33) (F := ⟨3, 9, b__law_moved⟩) D__law_moved sc__law_moved rfl rfl rfl (fun cdv A outer s H E hr cx => d__law_moved ih hr (room_h0 hr) (room_h2 hr) cx)) B__law_moved (fun F e => by cases e; rfl)),
      He.glo_ok X N (c.d.fact 15 (f := .glo "law") rfl),
      (cal_of2 D_law (fn_mp2 (i := 34) (F := ⟨1, 14, b_law⟩) D_law sc_law rfl rfl rfl (fun cdv A outer s H E hr cx => d_law ih hr (room_h0 hr) (room_h2 hr) cx)) B_law (fun F e => by cases e; rfl)),
      rfl,
      rfl,
      rfl,
      rfl,
      rfl,
      rfl,
      rfl,
      rfl,
      rfl,
      rfl,
      rfl,
      rfl,
      rfl,
      rfl,
      He.glo_ok X N (c.d.fact 16 (f := .glo "NotALog") rfl),
      He.glo_ok X N (c.d.fact 17 (f := .glo "Unpaired") rfl),
      He.glo_ok X N (c.d.fact 18 (f := .glo "UnknownState") rfl),
      He.glo_ok X N (c.d.fact 19 (f := .glo "UnknownEdge") rfl),
      He.glo_ok X N (c.d.fact 20 (f := .glo "EdgeExists") rfl),
      He.glo_ok X N (c.d.fact 21 (f := .glo "LimitExceeded") rfl),
      He.glo_ok X N (c.d.fact 22 (f := .glo "Machine") rfl),
      He.glo_ok X N (c.d.fact 23 (f := .glo "KindFollower") rfl),
      exc_of ebase_VE (c.x 0 (f := fxE "NotALog" "ValueError.__new__" [.type "ValueError", .type "Exception", .type "BaseException", .type "object"]) rfl) rfl (i_NotALog (c.x 0 (f := fxE "NotALog" "ValueError.__new__" [.type "ValueError", .type "Exception", .type "BaseException", .type "object"]) rfl) (He.free_ok X N (c.d.fact 60 (f := .free "ValueError") rfl)) (He.noat_ok (c.d.fact 24 (f := .noat "NotALog" "value") rfl)) D_NotALog_Dinit) B_NotALog_Dinit,
      He.noat_ok (c.d.fact 24 (f := .noat "NotALog" "value") rfl),
      exc_of ebase_VE (c.x 1 (f := fxE "Unpaired" "ValueError.__new__" [.type "ValueError", .type "Exception", .type "BaseException", .type "object"]) rfl) rfl (i_Unpaired (c.x 1 (f := fxE "Unpaired" "ValueError.__new__" [.type "ValueError", .type "Exception", .type "BaseException", .type "object"]) rfl) (He.free_ok X N (c.d.fact 60 (f := .free "ValueError") rfl)) D_Unpaired_Dinit) B_Unpaired_Dinit,
      exc_of ebase_LE (c.x 2 (f := fxE "UnknownState" "LookupError.__new__" [.type "LookupError", .type "Exception", .type "BaseException", .type "object"]) rfl) rfl (i_UnknownState (c.x 2 (f := fxE "UnknownState" "LookupError.__new__" [.type "LookupError", .type "Exception", .type "BaseException", .type "object"]) rfl) (He.free_ok X N (c.d.fact 57 (f := .free "LookupError") rfl)) (He.noat_ok (c.d.fact 25 (f := .noat "UnknownState" "state") rfl)) D_UnknownState_Dinit) B_UnknownState_Dinit,
      He.noat_ok (c.d.fact 25 (f := .noat "UnknownState" "state") rfl),
      exc_of ebase_LE (c.x 3 (f := fxE "UnknownEdge" "LookupError.__new__" [.type "LookupError", .type "Exception", .type "BaseException", .type "object"]) rfl) rfl (i_UnknownEdge (c.x 3 (f := fxE "UnknownEdge" "LookupError.__new__" [.type "LookupError", .type "Exception", .type "BaseException", .type "object"]) rfl) (He.free_ok X N (c.d.fact 57 (f := .free "LookupError") rfl)) (He.noat_ok (c.d.fact 26 (f := .noat "UnknownEdge" "edge") rfl)) D_UnknownEdge_Dinit) B_UnknownEdge_Dinit,
      He.noat_ok (c.d.fact 26 (f := .noat "UnknownEdge" "edge") rfl),
      exc_of ebase_RE (c.x 4 (f := fxE "EdgeExists" "RuntimeError.__new__" [.type "RuntimeError", .type "Exception", .type "BaseException", .type "object"]) rfl) rfl (i_EdgeExists (c.x 4 (f := fxE "EdgeExists" "RuntimeError.__new__" [.type "RuntimeError", .type "Exception", .type "BaseException", .type "object"]) rfl) (He.free_ok X N (c.d.fact 59 (f := .free "RuntimeError") rfl)) (He.noat_ok (c.d.fact 27 (f := .noat "EdgeExists" "edge") rfl)) D_EdgeExists_Dinit) B_EdgeExists_Dinit,
      He.noat_ok (c.d.fact 27 (f := .noat "EdgeExists" "edge") rfl),
      exc_of ebase_OE (c.x 5 (f := fxE "LimitExceeded" "OverflowError.__new__" [.type "OverflowError", .type "ArithmeticError", .type "Exception", .type "BaseException", .type "object"]) rfl) rfl (i_LimitExceeded (c.x 5 (f := fxE "LimitExceeded" "OverflowError.__new__" [.type "OverflowError", .type "ArithmeticError", .type "Exception", .type "BaseException", .type "object"]) rfl) (He.free_ok X N (c.d.fact 58 (f := .free "OverflowError") rfl)) (He.noat_ok (c.d.fact 28 (f := .noat "LimitExceeded" "limit") rfl)) D_LimitExceeded_Dinit) B_LimitExceeded_Dinit,
      He.noat_ok (c.d.fact 28 (f := .noat "LimitExceeded" "limit") rfl),
      ⟨He.cls_ok (c.d.fact 29 (f := .cls "KindFollower") rfl), _, He.meth_ok (c.d.fact 30 (f := .meth "KindFollower" "can_become") rfl), (cal_of2 D_KindFollower_can_become (fn_mp2 (i := 21) (F := ⟨1, 4, b_KindFollower_can_become⟩) D_KindFollower_can_become sc_KindFollower_can_become rfl rfl rfl (fun cdv A outer s H E hr cx => d_KindFollower_can_become ih hr (room_h0 hr) (room_h2 hr) cx)) B_KindFollower_can_become (fun F e => by cases e; rfl))⟩,
      ⟨He.cls_ok (c.d.fact 29 (f := .cls "KindFollower") rfl), _, He.meth_ok (c.d.fact 31 (f := .meth "KindFollower" "is_now") rfl), (cal_of2 D_KindFollower_is_now (fn_mp2 (i := 19) (F := ⟨1, 4, b_KindFollower_is_now⟩) D_KindFollower_is_now sc_KindFollower_is_now rfl rfl rfl (fun cdv A outer s H E hr cx => d_KindFollower_is_now ih hr (room_h0 hr) (room_h2 hr) cx)) B_KindFollower_is_now (fun F e => by cases e; rfl))⟩,
      ⟨He.cls_ok (c.d.fact 29 (f := .cls "KindFollower") rfl), _, He.meth_ok (c.d.fact 32 (f := .meth "KindFollower" "is_settled") rfl), (cal_of2 D_KindFollower_is_settled (fn_mp2 (i := 22) (F := ⟨1, 1, b_KindFollower_is_settled⟩) D_KindFollower_is_settled sc_KindFollower_is_settled rfl rfl rfl (fun cdv A outer s H E hr cx => d_KindFollower_is_settled ih hr (room_h0 hr) (room_h2 hr) cx)) B_KindFollower_is_settled (fun F e => by cases e; rfl))⟩,
      ⟨He.cls_ok (c.d.fact 29 (f := .cls "KindFollower") rfl), _, He.meth_ok (c.d.fact 33 (f := .meth "KindFollower" "read") rfl), (cal_of2 D_KindFollower_read (fn_mp2 (i := 18) (F := ⟨2, 5, b_KindFollower_read⟩) D_KindFollower_read sc_KindFollower_read rfl rfl rfl (fun cdv A outer s H E hr cx => d_KindFollower_read ih hr (room_h0 hr) (room_h2 hr) cx)) B_KindFollower_read (fun F e => by cases e; rfl))⟩,
      ⟨He.cls_ok (c.d.fact 29 (f := .cls "KindFollower") rfl), _, He.meth_ok (c.d.fact 34 (f := .meth "KindFollower" "rows") rfl), (cal_of2 D_KindFollower_rows (fn_mp2 (i := 20) (F := ⟨1, 1, b_KindFollower_rows⟩) D_KindFollower_rows sc_KindFollower_rows rfl rfl rfl (fun cdv A outer s H E hr cx => d_KindFollower_rows ih hr (room_h0 hr) (room_h2 hr) cx)) B_KindFollower_rows (fun F e => by cases e; rfl))⟩,
      ⟨He.cls_ok (c.d.fact 35 (f := .cls "Machine") rfl), _, He.meth_ok (c.d.fact 36 (f := .meth "Machine" "add_edge") rfl), (cal_of2 D_Machine_add_edge (fn_mp2 (i := 4) (F := ⟨4, 5, b_Machine_add_edge⟩) D_Machine_add_edge sc_Machine_add_edge rfl rfl rfl (fun cdv A outer s H E hr cx => d_Machine_add_edge ih hr (room_h0 hr) (room_h2 hr) cx)) B_Machine_add_edge (fun F e => by cases e; rfl))⟩,
      ⟨He.cls_ok (c.d.fact 35 (f := .cls "Machine") rfl), _, He.meth_ok (c.d.fact 37 (f := .meth "Machine" "add_end") rfl), (cal_of2 D_Machine_add_end (fn_mp2 (i := 7) (F := ⟨2, 2, b_Machine_add_end⟩) D_Machine_add_end sc_Machine_add_end rfl rfl rfl (fun cdv A outer s H E hr cx => d_Machine_add_end ih hr (room_h0 hr) (room_h2 hr) cx)) B_Machine_add_end (fun F e => by cases e; rfl))⟩,
      ⟨He.cls_ok (c.d.fact 35 (f := .cls "Machine") rfl), _, He.meth_ok (c.d.fact 38 (f := .meth "Machine" "add_start") rfl), (cal_of2 D_Machine_add_start (fn_mp2 (i := 6) (F := ⟨2, 2, b_Machine_add_start⟩) D_Machine_add_start sc_Machine_add_start rfl rfl rfl (fun cdv A outer s H E hr cx => d_Machine_add_start ih hr (room_h0 hr) (room_h2 hr) cx)) B_Machine_add_start (fun F e => by cases e; rfl))⟩,
      ⟨He.cls_ok (c.d.fact 35 (f := .cls "Machine") rfl), _, He.meth_ok (c.d.fact 39 (f := .meth "Machine" "edges") rfl), (cal_of2 D_Machine_edges (fn_mp2 (i := 10) (F := ⟨1, 1, b_Machine_edges⟩) D_Machine_edges sc_Machine_edges rfl rfl rfl (fun cdv A outer s H E hr cx => d_Machine_edges ih hr (room_h0 hr) (room_h2 hr) cx)) B_Machine_edges (fun F e => by cases e; rfl))⟩,
      ⟨He.cls_ok (c.d.fact 35 (f := .cls "Machine") rfl), _, He.meth_ok (c.d.fact 40 (f := .meth "Machine" "has_end") rfl), (cal_of2 D_Machine_has_end (fn_mp2 (i := 14) (F := ⟨2, 3, b_Machine_has_end⟩) D_Machine_has_end sc_Machine_has_end rfl rfl rfl (fun cdv A outer s H E hr cx => d_Machine_has_end ih hr (room_h0 hr) (room_h2 hr) cx)) B_Machine_has_end (fun F e => by cases e; rfl))⟩,
      ⟨He.cls_ok (c.d.fact 35 (f := .cls "Machine") rfl), _, He.meth_ok (c.d.fact 41 (f := .meth "Machine" "remove_edge") rfl), (cal_of2 D_Machine_remove_edge (fn_mp2 (i := 5) (F := ⟨4, 5, b_Machine_remove_edge⟩) D_Machine_remove_edge sc_Machine_remove_edge rfl rfl rfl (fun cdv A outer s H E hr cx => d_Machine_remove_edge ih hr (room_h0 hr) (room_h2 hr) cx)) B_Machine_remove_edge (fun F e => by cases e; rfl))⟩,
      ⟨He.cls_ok (c.d.fact 35 (f := .cls "Machine") rfl), _, He.meth_ok (c.d.fact 42 (f := .meth "Machine" "remove_end") rfl), (cal_of2 D_Machine_remove_end (fn_mp2 (i := 9) (F := ⟨2, 2, b_Machine_remove_end⟩) D_Machine_remove_end sc_Machine_remove_end rfl rfl rfl (fun cdv A outer s H E hr cx => d_Machine_remove_end ih hr (room_h0 hr) (room_h2 hr) cx)) B_Machine_remove_end (fun F e => by cases e; rfl))⟩,
      ⟨He.cls_ok (c.d.fact 35 (f := .cls "Machine") rfl), _, He.meth_ok (c.d.fact 43 (f := .meth "Machine" "remove_start") rfl), (cal_of2 D_Machine_remove_start (fn_mp2 (i := 8) (F := ⟨2, 2, b_Machine_remove_start⟩) D_Machine_remove_start sc_Machine_remove_start rfl rfl rfl (fun cdv A outer s H E hr cx => d_Machine_remove_start ih hr (room_h0 hr) (room_h2 hr) cx)) B_Machine_remove_start (fun F e => by cases e; rfl))⟩,
      ⟨He.cls_ok (c.d.fact 35 (f := .cls "Machine") rfl), _, He.meth_ok (c.d.fact 44 (f := .meth "Machine" "require_state") rfl), (cal_of2 D_Machine_require_state (fn_mp2 (i := 3) (F := ⟨2, 2, b_Machine_require_state⟩) D_Machine_require_state sc_Machine_require_state rfl rfl rfl (fun cdv A outer s H E hr cx => d_Machine_require_state ih hr (room_h0 hr) (room_h2 hr) cx)) B_Machine_require_state (fun F e => by cases e; rfl))⟩,
      ⟨He.cls_ok (c.d.fact 35 (f := .cls "Machine") rfl), _, He.meth_ok (c.d.fact 45 (f := .meth "Machine" "starts") rfl), (cal_of2 D_Machine_starts (fn_mp2 (i := 11) (F := ⟨1, 1, b_Machine_starts⟩) D_Machine_starts sc_Machine_starts rfl rfl rfl (fun cdv A outer s H E hr cx => d_Machine_starts ih hr (room_h0 hr) (room_h2 hr) cx)) B_Machine_starts (fun F e => by cases e; rfl))⟩,
      ⟨He.cls_ok (c.d.fact 35 (f := .cls "Machine") rfl), _, He.meth_ok (c.d.fact 46 (f := .meth "Machine" "step") rfl), (cal_of2 D_Machine_step (fn_mp2 (i := 13) (F := ⟨3, 7, b_Machine_step⟩) D_Machine_step sc_Machine_step rfl rfl rfl (fun cdv A outer s H E hr cx => d_Machine_step ih hr (room_h0 hr) (room_h2 hr) cx)) B_Machine_step (fun F e => by cases e; rfl))⟩,
      ⟨He.cls_ok (c.d.fact 35 (f := .cls "Machine") rfl), _, He.meth_ok (c.d.fact 47 (f := .meth "Machine" "twin") rfl), (cal_of2 D_Machine_twin (fn_mp2 (i := 12) (F := ⟨1, 2, b_Machine_twin⟩) D_Machine_twin sc_Machine_twin rfl rfl rfl (fun cdv A outer s H E hr cx => d_Machine_twin ih hr (room_h0 hr) (room_h2 hr) cx)) B_Machine_twin (fun F e => by cases e; rfl))⟩,
      fldOf_no (L := fNs) (by decide +kernel) (by decide +kernel),
      fldOf_no (L := fNs) (by decide +kernel) (by decide +kernel),
      fldOf_no (L := fNs) (by decide +kernel) (by decide +kernel),
      fldOf_no (L := fNs) (by decide +kernel) (by decide +kernel),
      fldOf_no (L := fNs) (by decide +kernel) (by decide +kernel),
      fldOf_no (L := fNs) (by decide +kernel) (by decide +kernel),
      fldOf_no (L := fNs) (by decide +kernel) (by decide +kernel),
      fldOf_no (L := fNs) (by decide +kernel) (by decide +kernel),
      fldOf_no (L := fNs) (by decide +kernel) (by decide +kernel),
      fldOf_no (L := fNs) (by decide +kernel) (by decide +kernel),
      fldOf_no (L := fNs) (by decide +kernel) (by decide +kernel),
      fldOf_no (L := fNs) (by decide +kernel) (by decide +kernel),
      fldOf_no (L := fNs) (by decide +kernel) (by decide +kernel),
      fldOf_no (L := fNs) (by decide +kernel) (by decide +kernel),
      fldOf_no (L := fNs) (by decide +kernel) (by decide +kernel),
      fldOf_no (L := fNs) (by decide +kernel) (by decide +kernel),
      fldOf_no (L := fNs) (by decide +kernel) (by decide +kernel),
      ⟨_, He.mkr_ok (c.d.fact 48 (f := .mkr "KindFollower") rfl), (cal_of2 D_KindFollower_DinitD (fn_mp2 (i := 17) (F := ⟨2, 3, b_KindFollower_DinitD⟩) D_KindFollower_DinitD sc_KindFollower_DinitD rfl rfl rfl (fun cdv A outer s H E hr cx => d_KindFollower_DinitD ih hr (room_h0 hr) (room_h2 hr) cx)) B_KindFollower_DinitD (fun F e => by cases e; rfl))⟩,
      ⟨_, He.mkr_ok (c.d.fact 49 (f := .mkr "Machine") rfl), (cal_of2 D_Machine_DinitD (fn_mp2 (i := 2) (F := ⟨3, 3, b_Machine_DinitD⟩) D_Machine_DinitD sc_Machine_DinitD rfl rfl rfl (fun cdv A outer s H E hr cx => d_Machine_DinitD ih hr (room_h0 hr) (room_h2 hr) cx)) B_Machine_DinitD (fun F e => by cases e; rfl))⟩,
      ⟨He.cls_ok (c.d.fact 29 (f := .cls "KindFollower") rfl), He.noat_ok (c.d.fact 50 (f := .noat "KindFollower" "machines") rfl)⟩,
      ⟨He.cls_ok (c.d.fact 29 (f := .cls "KindFollower") rfl), He.noat_ok (c.d.fact 51 (f := .noat "KindFollower" "present") rfl)⟩,
      ⟨He.cls_ok (c.d.fact 35 (f := .cls "Machine") rfl), He.noat_ok (c.d.fact 52 (f := .noat "Machine" "first") rfl)⟩,
      ⟨He.cls_ok (c.d.fact 35 (f := .cls "Machine") rfl), He.noat_ok (c.d.fact 53 (f := .noat "Machine" "kept") rfl)⟩,
      ⟨He.cls_ok (c.d.fact 35 (f := .cls "Machine") rfl), He.noat_ok (c.d.fact 54 (f := .noat "Machine" "last") rfl)⟩,
      ⟨He.cls_ok (c.d.fact 35 (f := .cls "Machine") rfl), He.noat_ok (c.d.fact 55 (f := .noat "Machine" "signs") rfl)⟩,
      ⟨He.cls_ok (c.d.fact 35 (f := .cls "Machine") rfl), He.noat_ok (c.d.fact 56 (f := .noat "Machine" "states") rfl)⟩,
      He.free_ok X N (c.d.fact 57 (f := .free "LookupError") rfl),
      He.free_ok X N (c.d.fact 58 (f := .free "OverflowError") rfl),
      He.free_ok X N (c.d.fact 59 (f := .free "RuntimeError") rfl),
      He.free_ok X N (c.d.fact 60 (f := .free "ValueError") rfl),
      He.free_ok X N (c.d.fact 61 (f := .free "all") rfl),
      He.free_ok X N (c.d.fact 62 (f := .free "any") rfl),
      He.free_ok X N (c.d.fact 63 (f := .free "bool") rfl),
      He.free_ok X N (c.d.fact 64 (f := .free "int") rfl),
      He.free_ok X N (c.d.fact 65 (f := .free "isinstance") rfl),
      He.free_ok X N (c.d.fact 66 (f := .free "len") rfl),
      He.free_ok X N (c.d.fact 67 (f := .free "list") rfl),
      He.free_ok X N (c.d.fact 68 (f := .free "range") rfl),
      He.free_ok X N (c.d.fact 69 (f := .free "repr") rfl),
      He.free_ok X N (c.d.fact 70 (f := .free "set") rfl),
      He.free_ok X N (c.d.fact 71 (f := .free "sorted") rfl),
      He.free_ok X N (c.d.fact 72 (f := .free "str") rfl),
      He.free_ok X N (c.d.fact 73 (f := .free "tuple") rfl),
      He.free_ok X N (c.d.fact 74 (f := .free "zip") rfl),
      He.str_ok X N (c.d.fact 75 (f := .str "ALPHABET" "abc") rfl),
      He.int_ok X N (c.d.fact 76 (f := .int "MAX_EDGES" 14) rfl),
      He.int_ok X N (c.d.fact 77 (f := .int "MAX_SIGNS" 3) rfl),
      He.int_ok X N (c.d.fact 78 (f := .int "MAX_STATES" 6) rfl)⟩
end
theorem holds_of (hl : ∀ ns : List Int, ns.length ≤ 63 → (∀ z ∈ ns, Builtin.Int.intBits z ≤ 1048576) → ∃ S', callN tb 5 34 [.ref 0] (store0 ns) = .ok (.bl true) S') : PySem.Challenge.rw_gaprules_k65_kinds_followed.Holds := by
  w_on; o_law
  refine HandSHeadRun.head_any (r := PySem.W.OpenLaw.row PySem.Challenge.rw_gaprules_k65_kinds_followed) (q := PySem.W.view R.prog [33]) (H := hk) (ob := ob) (M := 4000) (loose := looseS) (d := HandSHeadRun.topDef R.prog 33) (kwd := []) ob_eq
    (by kernel_rfl) (fun s => by kernel_rfl) run (by kernel_rfl) (by kernel_rfl) (by kernel_rfl) (by rfl) (by first | assumption | decide +kernel) (by decide +kernel) ⟨rfl, rfl, rfl, rfl, rfl, by decide +kernel⟩ ?hw ?hc
  case hw => w_witness2
  case hc =>
    refine walk_mp2 (l := PySem.Challenge.rw_gaprules_k65_kinds_followed) (nm := 63) (k := 5) (r := rm 5) (i := 34) (x := "script") (tb := tb) rfl (by decide) (by kernel_rfl) ⟨rfl, by decide, by decide⟩ ?F hl
    intro w mg fa h Y N hmg0
    obtain ⟨K, KX, c⟩ := Y
    have hmg : mg ("law" : PySem.Str) = some (.ref fa) := by
      have e : (HandSHeadRun.topDef R.prog 33).name = ("law" : PySem.Str) := by kernel_rfl
      rw [← e]
      exact hmg0
    obtain ⟨fd, D⟩ := c.d.def_ 34 (d := e_law) rfl
    have e := hmg.symm.trans (He.glo_ok KX N (c.d.fact 15 (f := .glo "law") rfl))
    cases e
    have b := FunD.bindsA (ps := ["script"]) D fun _ _ _ _ _ _ us hl => match us, hl with | [_], _ => rfl
    exact ⟨Gk w K, fd, KX, rfl, fun s u => b s [u] rfl, fun base _ _ => fn_mp2 (n := 4) (i := 34) (F := ⟨1, 14, b_law⟩) D sc_law rfl rfl rfl fun cdv A outer s H E hr cx => d_law (fs_of KX N c _) hr (room_h0 hr) (room_h2 hr) cx⟩
end K65
namespace MP
def bPen : MS := sRet (eLst (aCons (eB bListX (aCons (eCut (eVar 0) (pNone) (pSome (eC (.int 63)))) (aNil))) (aCons (eC (.int 0)) (aCons (eC (.int 0)) (aNil)))))
def bFresh : MS := sSeq (sSet (.nm 1) (e2 opItem (eVar 0) (eC (.int 1)))) (sSeq (sItem (eVar 0) (eC (.int 1)) (e2 opAdd (eVar 1) (eC (.int 1)))) (sSeq (sSet (.nm 2) (eC (.int 0))) (sSeq (sIf (MP.tB (e2 opNe (e2 opItem (eVar 0) (eC (.int 0))) (eLst (aNil)))) (sSet (.nm 2) (e2 opItem (e2 opItem (eVar 0) (eC (.int 0))) (e2 opMod (eVar 1) (eB bLen (aCons (e2 opItem (eVar 0) (eC (.int 0))) (aNil)))))) (sPass)) (sSeq (sIf (MP.tAnd (MP.tB (e2 opLt (eVar 1) (eB bLen (aCons (e2 opItem (eVar 0) (eC (.int 0))) (aNil))))) (MP.tB (e2 opGe (eVar 2) (e2 opPow (eC (.int 10)) (eC (.int 18)))))) (sRet (e2 opSub (eVar 2) (e2 opPow (eC (.int 10)) (eC (.int 18))))) (sPass)) (sSeq (sSet (.nm 3) (eC (.int 2305843009213693951))) (sSeq (sSet (.nm 4) (e2 opMod (e2 opAdd (e2 opAdd (e2 opMul (eVar 2) (eC (.int 48271))) (e2 opMul (eC (.int 40692)) (eVar 1))) (eC (.int 31))) (eVar 3))) (sSeq (sSet (.nm 5) (eVar 4)) (sSeq (sFor (.nm 6) (iRange1 (eC (.int 6))) (sSeq (sSet (.nm 4) (e2 opMod (e2 opAdd (e2 opAdd (e2 opMul (eVar 4) (eVar 4)) (e2 opMul (e2 opMul (eC (.int 69621)) (e2 opAdd (eVar 6) (eC (.int 1)))) (e2 opAdd (eVar 1) (eC (.int 1))))) (eVar 2)) (eVar 3))) (sSet (.nm 5) (e2 opAdd (e2 opMul (eVar 5) (eVar 3)) (eVar 4))))) (sRet (eVar 5))))))))))
def bDraw (fr : Nat) : MS := sSeq (sIf (MP.tB (e2 opLt (e2 opItem (eVar 0) (eC (.int 2))) (eVar 1))) (sItem (eVar 0) (eC (.int 2)) (eCall fr (aCons (eVar 0) (aNil)) [])) (sPass)) (sSeq (sSet (.nm 2) (e2 opMod (e2 opItem (eVar 0) (eC (.int 2))) (eVar 1))) (sSeq (sItem (eVar 0) (eC (.int 2)) (e2 opDiv (e2 opItem (eVar 0) (eC (.int 2))) (eVar 1))) (sRet (eVar 2))))
structure Pen (S : Store) (n q : Nat) : Prop where
  ex : ∃ a z : Int, S.get n = some (.lst [.ref q, .int a, .int z])
  cs : ∃ cs : List Int, S.get q = some (.lst (cs.map .int)) ∧ cs.length ≤ 63
theorem snap_int (S : Store) (k : Nat) : ∀ cs : List Int, optAll (snap S (k + 1)) (cs.map D.int) = some (cs.map PySem.PyData.int)
  | [] => rfl
  | c :: cs => by
    rw [List.map_cons, optAll, snap_int S k cs]
    rfl
theorem ne_nil {S : Store} {q l : Nat} {cs : List Int} {xs : List D} (h1 : S.get q = some (.lst (cs.map .int))) (h2 : S.get l = some (.lst [])) : opNe (.ref q) (.ref l) S = some (.bl (!cs.isEmpty), S) := by
  have e1 : snap S deep (.ref q) = some (.list (cs.map .int)) := by
    show (match lstAt S q with
      | some xs => (optAll (snap S 39) xs).map PySem.PyData.list
      | none => none) = _
    unfold lstAt; rw [h1]
    show (optAll (snap S 39) (cs.map D.int)).map PySem.PyData.list = _
    rw [snap_int]; rfl
  have e2 : snap S deep (.ref l) = some (.list []) := by
    show (match lstAt S l with
      | some xs => (optAll (snap S 39) xs).map PySem.PyData.list
      | none => none) = _
    unfold lstAt; rw [h2]; rfl
  unfold opNe eqD
  rw [e1, e2]
  cases cs <;> rfl
theorem fmod_lt (a : Int) {p : Int} (h : 0 < p) : 0 ≤ a.fmod p ∧ a.fmod p < p := ⟨Int.fmod_nonneg_of_pos a h, Int.fmod_lt_of_pos a h⟩
theorem ixN_at {n : Nat} {i : Int} (h0 : 0 ≤ i) (h1 : i < n) : ixN n i = some i.toNat := by
  unfold ixN; rw [if_pos h0, if_pos h1]
theorem small_of {i : Int} (h1 : -18446744073709551616 < i) (h2 : i < 18446744073709551616) : small64 i = true := by
  unfold small64
  rw [decide_eq_true h1, decide_eq_true h2]; rfl
theorem fresh_ok {C : Cfg} {S : Store} {n q : Nat} {a z : Int} {cs : List Int} (hp : S.get n = some (.lst [.ref q, .int a, .int z])) (hq : S.get q = some (.lst (cs.map .int))) :
    Ok (runFn ⟨1, 7, bFresh⟩ C [.ref n] S) (fun v S' => ∃ x, v = .int x ∧ Keep S S' [n] ∧ S'.get n = some (.lst [.ref q, .int (a + 1), .int z])) X0 := by
  have hn := Store.get_lt hp
  have hqs := Store.get_lt hq
  have nq : q ≠ n := fun e => by
    subst e
    rw [hp] at hq
    have := Option.some.inj hq
    injection this with h
    cases cs with
    | nil => cases h
    | cons c cs => cases h
  have hS1 : (S.set n (.lst [.ref q, .int (a + 1), .int z])).get n = some (.lst [.ref q, .int (a + 1), .int z]) := Store.get_set_same _ hn
  have hS2 : (S.set n (.lst [.ref q, .int (a + 1), .int z])).get q = some (.lst (cs.map .int)) := by rw [Store.get_set_ne _ hn nq]; exact hq
  have k1 : Keep S (S.set n (.lst [.ref q, .int (a + 1), .int z])) [n] := Keep.set _ hn (List.mem_singleton.mpr rfl)
  rw [ok_run]
  refine ⟨rfl, ?_⟩
  show OkS (bFresh C [some (.ref n), none, none, none, none, none, none] S) _
  unfold bFresh
  rw [oks_seq, oks_set]
  simp [hp, atI, ixN]
  rw [oks_seq, oks_item]
  simp [hp, ixN]
  rw [oks_seq, oks_set]
  simp
  generalize S.set n (.lst [.ref q, .int (a + 1), .int z]) = S1 at hS1 hS2 k1
  have hq1 := Store.get_lt hS2
  -- the cell
  refine seq_mid (fun σ S2 => ∃ cell : Int, σ = [some (.ref n), some (.int a), some (.int cell), none, none, none, none] ∧ S2.get n = some (.lst [.ref q, .int (a + 1), .int z]) ∧ S2.get q = some (.lst (cs.map .int)) ∧ Keep S S2 [n]) ?_ ?_
  · rw [oks_if]
    have g0 : (S1.push (.lst [])).get S1.size = some (.lst []) := Store.get_push_same _ _
    have g1 : (S1.push (.lst [])).get q = some (.lst (cs.map .int)) := Store.get_push_of hS2
    have g2 : (S1.push (.lst [])).get n = some (.lst [.ref q, .int (a + 1), .int z]) := Store.get_push_of hS1
    simp [hS1, atI, ixN]
    rw [ne_nil (xs := []) g1 g0]
    simp
    by_cases hc : cs = []
    · refine .inl ⟨hc, ?_⟩
      rw [oks_pass]
      exact ⟨⟨0, rfl⟩, g2, g1, k1.trans (Keep.push _)⟩
    · refine .inr ⟨hc, ?_⟩
      have hpos : (0 : Int) < cs.length := by have := List.length_pos_iff.mpr hc; omega
      obtain ⟨f0, f1⟩ := fmod_lt a hpos
      have hx : ∃ c, cs[(a.fmod cs.length).toNat]? = some c := ⟨_, List.getElem?_eq_getElem (by omega)⟩
      obtain ⟨c, hx⟩ := hx
      rw [oks_set]
      simp [g2, g1, atI, ixN]
      refine ⟨hc, .int c, ?_, ⟨c, rfl⟩, k1.trans (Keep.push _)⟩
      rw [if_pos f0, if_pos f1]
      simp [hx]
  · rintro σ S2 ⟨cell, rfl, g1, g2, k2⟩
    refine seq_mid (fun σ S' => σ = [some (.ref n), some (.int a), some (.int cell), none, none, none, none] ∧ S' = S2) ?_ ?_
    · rw [oks_if]
      simp [g1, g2, atI, ixN]
      by_cases h1 : (cs.length : Int) ≤ a
      · exact .inl ⟨h1, by rw [oks_pass]; exact ⟨rfl, rfl⟩⟩
      · refine .inr ⟨by omega, ?_⟩
        by_cases h2 : cell < 1000000000000000000
        · exact .inl ⟨h2, by rw [oks_pass]; exact ⟨rfl, rfl⟩⟩
        · refine .inr ⟨by omega, ?_⟩
          rw [oks_ret]
          simp [g1, k2]
    · rintro σ S' ⟨rfl, rfl⟩
      rw [oks_seq, oks_set]
      simp
      rw [oks_seq, oks_set]
      simp [small64]
      rw [oks_seq, oks_set]
      simp
      rw [oks_seq, oks_for]
      simp [okR]
      generalize e : (cell * 48271 + 40692 * a + 31).fmod 2305843009213693951 = st
      have hst := fmod_lt (cell * 48271 + 40692 * a + 31) (p := 2305843009213693951) (by decide)
      rw [e] at hst
      refine for_seq (by rw [rangeL_len]; decide) (fun i σ S'' => S'' = S' ∧ ∃ (st fo : Int) (tn : Option D), (0 ≤ st ∧ st < 2305843009213693951) ∧ σ = [some (.ref n), some (.int a), some (.int cell), some (.int 2305843009213693951), some (.int st), some (.int fo), tn]) ⟨rfl, st, st, none, hst, rfl⟩ ?_ ?_
      · rintro i d σ S'' hd ⟨rfl, st, fo, tn, hst, rfl⟩
        obtain ⟨rfl, hi⟩ := rangeL_at _ _ _ _ _ hd
        refine ⟨_, by simp; rfl, ?_⟩
        rw [oks_seq, oks_set]
        have s1 : small64 st = true := small_of (by omega) (by omega)
        have s2 : small64 69621 = true := by decide
        have s3 : small64 (69621 * ((i : Int) + 1)) = true := small_of (by omega) (by omega)
        have s4 : small64 2305843009213693951 = true := by decide
        simp [s1, s2, s3]
        rw [oks_set]
        simp [s4]
        exact fmod_lt _ (by decide)
      · rintro σ S'' ⟨rfl, st, fo, tn, hst, rfl⟩
        dsimp only
        rw [oks_ret]
        simp [g1, k2]
def FreshSpec (call : List D → M D) : Prop := ∀ {S : Store} {n q : Nat} {a z : Int} {cs : List Int}, S.get n = some (.lst [.ref q, .int a, .int z]) → S.get q = some (.lst (cs.map .int)) →
  Ok (call [.ref n] S) (fun v S' => ∃ x, v = .int x ∧ Keep S S' [n] ∧ S'.get n = some (.lst [.ref q, .int (a + 1), .int z])) X0
def DrawSpec (call : List D → M D) : Prop := ∀ {S : Store} {n q : Nat} {m : Int}, Pen S n q → 0 < m → m < 1073741824 →
  Ok (call [.ref n, .int m] S) (fun v S' => ∃ x, v = .int x ∧ (0 ≤ x ∧ x < m) ∧ Keep S S' [n] ∧ Pen S' n q) X0
def PenSpec (call : List D → M D) : Prop := ∀ {S : Store} {n : Nat} {cs : List Int}, S.get n = some (.rol (cs.map .int)) → cs.length ≤ 63 →
  Ok (call [.ref n] S) (fun v S' => ∃ k q, v = .ref k ∧ S.size ≤ k ∧ S.size ≤ q ∧ Keep S S' [] ∧ Pen S' k q) X0
theorem Pen.lt {S n q} (h : Pen S n q) : n < S.size ∧ q < S.size := by
  obtain ⟨a, z, h1⟩ := h.ex
  obtain ⟨cs, h2, _⟩ := h.cs
  exact ⟨Store.get_lt h1, Store.get_lt h2⟩
theorem Pen.ne {S n q} (h : Pen S n q) : q ≠ n := fun e => by
  obtain ⟨a, z, h1⟩ := h.ex
  obtain ⟨cs, h2, _⟩ := h.cs
  subst e
  rw [h1] at h2
  have h3 := Option.some.inj h2
  injection h3 with h3
  cases cs with
  | nil => cases h3
  | cons c cs => cases h3
theorem Pen.keep {S S' n q ex} (h : Pen S n q) (k : Keep S S' ex) (h1 : n ∉ ex) (h2 : q ∉ ex) : Pen S' n q := by
  obtain ⟨a, z, g1⟩ := h.ex
  obtain ⟨cs, g2, g3⟩ := h.cs
  exact ⟨⟨a, z, k.get g1 h1⟩, ⟨cs, k.get g2 h2, g3⟩⟩
theorem draw_ok {C : Cfg} {fr : Nat} (hf : FreshSpec (C.call fr)) : DrawSpec (runFn ⟨2, 3, bDraw fr⟩ C) := by
  intro S n q m hP hm hm2
  obtain ⟨a, z, hp⟩ := hP.ex
  obtain ⟨cs, hq, hl⟩ := hP.cs
  have nq := hP.ne
  rw [ok_run]
  refine ⟨rfl, ?_⟩
  show OkS (bDraw fr C [some (.ref n), some (.int m), none] S) _
  unfold bDraw
  refine seq_mid (fun σ S2 => ∃ a2 z2 : Int, σ = [some (.ref n), some (.int m), none] ∧ S2.get n = some (.lst [.ref q, .int a2, .int z2]) ∧ S2.get q = some (.lst (cs.map .int)) ∧ Keep S S2 [n]) ?_ ?_
  · rw [oks_if]
    simp [hp, atI, ixN]
    by_cases h1 : m ≤ z
    · refine .inl ⟨h1, ?_⟩
      rw [oks_pass]
      exact ⟨rfl, ⟨a, z, hp⟩, hq, Keep.refl⟩
    · refine .inr ⟨by omega, ?_⟩
      rw [oks_item]
      simp
      refine (hf hp hq).imp fun v S' ⟨x, e, k, g⟩ => ?_
      subst e
      have hn := Store.get_lt g
      have g2 : S'.get q = some (.lst (cs.map .int)) := k.get hq (by simp [nq])
      simp [g, ixN]
      refine ⟨⟨a + 1, x, Store.get_set_same _ hn⟩, ?_, k.trans (Keep.set _ hn (List.mem_singleton.mpr rfl))⟩
      rw [Store.get_set_ne _ hn nq]
      exact g2
  · rintro σ S2 ⟨a2, z2, rfl, g1, g2, k2⟩
    have hn := Store.get_lt g1
    have m0 : m ≠ 0 := by omega
    have mb : m.natAbs < 1073741824 := by omega
    rw [oks_seq, oks_set]
    simp [g1, atI, ixN, m0]
    rw [oks_seq, oks_item]
    simp [g1, atI, ixN, m0, mb]
    rw [oks_ret]
    simp
    refine ⟨fmod_lt _ hm, k2.trans (Keep.set _ hn (List.mem_singleton.mpr rfl)), ⟨⟨a2, _, Store.get_set_same _ hn⟩, ⟨cs, ?_, hl⟩⟩⟩
    rw [Store.get_set_ne _ hn nq]
    exact g2
theorem pen_ok {C : Cfg} : PenSpec (runFn ⟨1, 1, bPen⟩ C) := by
  intro S n cs hg hl
  rw [ok_run]
  refine ⟨rfl, ?_⟩
  show OkS (bPen C [some (.ref n)] S) _
  unfold bPen
  rw [oks_ret]
  have e1 : lstAt S n = some (cs.map .int) := by unfold lstAt; rw [hg]
  have hc : cut (cs.map D.int) none (some 63) = cs.map .int := by
    show ((cs.map D.int).drop 0).take (min 63 (cs.map D.int).length - 0) = _
    rw [List.drop_zero, Nat.sub_zero, List.take_of_length_le (by rw [List.length_map]; omega)]
  have z1 : ∀ Q : D → Store → Prop, OkP (opCut (.ref n) none (some 63) S) Q = Q (.ref S.size) (S.push (.lst (cs.map .int))) := fun Q => by
    unfold opCut
    simp only [e1, hc, List.length_map]
    rw [if_pos (by unfold line; omega)]; rfl
  have z2 : ∀ Q : D → Store → Prop, OkP (bListX [.ref S.size] (S.push (.lst (cs.map .int)))) Q = Q (.ref (S.size + 1)) ((S.push (.lst (cs.map .int))).push (.lst (cs.map .int))) := fun Q => by
    unfold bListX bListS lstAt
    simp only [Store.get_push_same]; rfl
  simp [z1, z2]
  refine ⟨by unfold line; omega, ?_⟩
  refine ⟨by simp [Store.size_push]; omega, S.size + 1, by omega, ((Keep.push _).trans (Keep.push _)).trans (Keep.push _), ⟨⟨0, 0, Store.get_push_same _ _⟩, ⟨cs, ?_, hl⟩⟩⟩
  rw [Store.get_push_lt (by simp [Store.size_push])]
  exact Store.get_push_same _ _
def sgn (l : List Nat) : List D := l.map fun c => .str [c]
theorem okR_nat {i : Int} (h0 : 0 ≤ i) (h1 : i < 4611686018427387904) : okR i = true := by
  unfold okR
  rw [decide_eq_true (by omega : -4611686018427387904 ≤ i), decide_eq_true h1]; rfl
end MP
namespace MP
def posL (l : List Nat) : Nat → List Nat → Option (List Nat)
  | _, [] => some []
  | st, c :: p => match findC c (l.drop st) st with
    | some j => (posL l (j + 1) p).map (j :: ·)
    | none => none
def has (l p : List Nat) : Bool := (posL l 0 p).isSome
def prog (p : List Nat) : List Nat → Nat → Nat
  | [], n => n
  | c :: l, n => prog p l (if p[n]? = some c then n + 1 else n)
theorem sgn_at {l : List Nat} {i : Nat} {d : D} (h : (sgn l)[i]? = some d) : ∃ c, l[i]? = some c ∧ d = .str [c] := by
  unfold sgn at h
  rw [List.getElem?_map] at h
  obtain ⟨c, h1, h2⟩ := Option.map_eq_some_iff.mp h
  exact ⟨c, h1, h2.symm⟩
theorem sgn_len (l : List Nat) : (sgn l).length = l.length := by unfold sgn; rw [List.length_map]
theorem tyLst_of {S : Store} {n : Nat} {xs : List D} (h : S.get n = some (.lst xs)) : tyLst (.ref n) S = true := by
  unfold tyLst; simp only [h]
theorem cut_take {l : List Nat} {i : Int} (h : 0 ≤ i) : cut l none (some i) = l.take i.toNat := by
  show ((l.drop 0).take ((if i < 0 then (max (i + l.length) 0).toNat else min i.toNat l.length) - 0)) = _
  rw [if_neg (by omega), List.drop_zero, Nat.sub_zero]
  by_cases hl : i.toNat ≤ l.length
  · rw [Nat.min_eq_left hl]
  · rw [Nat.min_eq_right (by omega), List.take_length, List.take_of_length_le (by omega)]
end MP
namespace MP
section
variable {S : Store} {Q : D → Store → Prop} {C : Cfg} {σ : Slots} {T : Pt}
@[simp] theorem p_muls {a : List Nat} {k : Int} : OkP (opMul (.str a) (.int k) S) Q = ((0 ≤ k ∧ k < 1000000 ∧ a.length * k.toNat ≤ line) ∧ Q (.str (repeatL k.toNat a)) S) := okp_if
@[simp] theorem p_isNotB {a b : Bool} : OkP (opIsNot (.bl a) (.bl b) S) Q = Q (.bl (!decide (a = b))) S := id rfl
@[simp] theorem p_isaT {t : Ty} {xs : List D} : OkP (opIsA t (.tup xs) S) Q = Q (.bl (Ty.le .tup t)) S := id rfl
@[simp] theorem p_isaS {t : Ty} {l : List Nat} : OkP (opIsA t (.str l) S) Q = Q (.bl (Ty.le .str t)) S := id rfl
@[simp] theorem p_isaI {t : Ty} {i : Int} : OkP (opIsA t (.int i) S) Q = Q (.bl (Ty.le .int t)) S := id rfl
@[simp] theorem p_isaB {t : Ty} {b : Bool} : OkP (opIsA t (.bl b) S) Q = Q (.bl (Ty.le .bl t)) S := id rfl
@[simp] theorem p_isaN {t : Ty} : OkP (opIsA t .non S) Q = Q (.bl (Ty.le .non t)) S := id rfl
def rB (b : Bool) : List Nat := (if b then PySem.Str.ofString "True" else PySem.Str.ofString "False").cps.toList
theorem p_repr {x : D} {d : PySem.PyData} (hs : snap S deep x = some d) (h1 : d.showable = true) (h2 : d.shown.length ≤ line) : OkP (bRepr [x] S) Q = Q (.str d.shown.cps.toList) S := by
  unfold bRepr
  simp only [hs]
  rw [if_pos ⟨h1, h2⟩]
  rfl
@[simp] theorem p_reprB {b : Bool} : OkP (bRepr [.bl b] S) Q = Q (.str (rB b)) S := p_repr (d := .bool b) rfl rfl (by cases b <;> decide +kernel)
@[simp] theorem p_listS {l : List Nat} : OkP (bListX [.str l] S) Q = (l.length ≤ line ∧ Q (.ref S.size) (S.push (.lst (sgn l)))) := okp_if
theorem within_one {c : Nat} : ∀ l : List Nat, within [c] l = decide (c ∈ l)
  | [] => by simp [within]
  | d :: r => by
    unfold within
    rw [within_one r]
    simp [List.isPrefixOf]
    by_cases h : c = d <;> simp [h]
@[simp] theorem p_in1 {c : Nat} {l : List Nat} : OkP (opIn (.str [c]) (.str l) S) Q = Q (.bl (decide (c ∈ l))) S := by
  show OkP (some (D.bl (within [c] l), S)) Q = _
  rw [within_one]; rfl
@[simp] theorem p_zipTS {xs : List D} {l : List Nat} {Q : It → Store → Prop} : OkP (zpP (.tup xs) (.str l) S) Q = Q (.zip false [.seq xs, .seq (sgn l)]) S := id rfl
def prs (xs ys : List D) : List D := List.zipWith (fun a b => .tup [a, b]) xs ys
theorem next_zip {xs ys : List D} (i : Nat) : It.next S (.zip false [.seq xs, .seq ys]) i = It.next S (.seq (prs xs ys)) i := by
  unfold It.next It.nexts It.nexts It.nexts It.next
  unfold prs
  rw [List.getElem?_zipWith]
  cases xs[i]? <;> cases ys[i]? <;> rfl
@[simp] theorem asg_pair {i j : Nat} {a b : D} : asg S (.tp [.nm i, .nm j]) (.tup [a, b]) σ = (if i < σ.length then if j < (σ.set i (some a)).length then some ((σ.set i (some a)).set j (some b)) else none else none) := by
  show (match asg S (.nm i) a σ with
    | some σ' => asgs S [.nm j] [b] σ'
    | none => none) = _
  rw [asg_nm]
  by_cases h : i < σ.length
  · rw [if_pos h, if_pos h]
    show (match asg S (.nm j) b (σ.set i (some a)) with
      | some σ' => asgs S [] [] σ'
      | none => none) = _
    rw [asg_nm]
    by_cases h2 : j < (σ.set i (some a)).length
    · rw [if_pos h2]; rfl
    · rw [if_neg h2]
  · rw [if_neg h, if_neg h]
end
end MP
namespace MP
section
variable {S : Store} {C : Cfg} {σ : Slots} {T : Pt} {Q : D → Store → Prop}
theorem allB_map : ∀ bs : List Bool, allB (bs.map D.bl) = some bs
  | [] => rfl
  | b :: bs => by
    rw [List.map_cons, allB, allB_map bs]
    rfl
theorem p_any {n : Nat} {bs : List Bool} (h : S.get n = some (.lst (bs.map D.bl))) : OkP (bAny [.ref n] S) Q = Q (.bl (bs.any id)) S := by
  unfold bAny lstAt
  simp only [h, allB_map]
  rfl
end
end MP
namespace MP
open PySem (PyData Str)
mutual
/-- a bound of the text's length -/
def wt : PyData → Nat
  | .none => 4
  | .bool _ => 5
  | .int _ => 2000
  | .str s => 10 * s.length + 2
  | .list xs => wts xs + 4
  | .tuple xs => wts xs + 4
  | .dict _ => 0
def wts : List PyData → Nat
  | [] => 0
  | x :: xs => wt x + 2 + wts xs
end
mutual
/-- no dicts, signs of the right size, ints that are shown -/
def fineD : PyData → Bool
  | .none => true
  | .bool _ => true
  | .int i => decide (i.natAbs.log2 < 1920)
  | .str s => s.cps.toList.all fun c => decide (c < 16 ^ 8)
  | .list xs => fineDs xs
  | .tuple xs => fineDs xs
  | .dict _ => false
def fineDs : List PyData → Bool
  | [] => true
  | x :: xs => fineD x && fineDs xs
end
theorem piled_text (ts : List Str) : (PySem.tupleText ts).length ≤ PySem.piled ts + 4 ∧ (PySem.listText ts).length ≤ PySem.piled ts + 4 := by
  constructor
  · unfold PySem.tupleText
    rw [PySem.strLen_append, PySem.strLen_append]
    have e1 : ((("(" : String) : Str)).length = 1 := rfl
    have e3 : (((if ts.length == 1 then ",)" else ")" : String) : Str)).length ≤ 2 := by split <;> decide
    rw [e1]
    by_cases h : ts = []
    · subst h
      have e4 : (Str.join ", " ([] : List Str)).length = 0 := rfl
      rw [e4]; omega
    · have := PySem.join_length_add ts h
      omega
  · cases ts with
    | nil => rw [PySem.listText_nil]; decide
    | cons t r =>
      have h := PySem.textFrom_length_pos r 1 (("[" : Str) ++ (if (0 : Nat) > 0 then ", " else "" : String) ++ t) (Nat.succ_pos 0)
      have e : ((("[" : Str) ++ (if (0 : Nat) > 0 then ", " else "" : String) ++ t)).length = 1 + t.length := by
        rw [PySem.strLen_append, PySem.strLen_append]; rfl
      have hX : (PySem.listText (t :: r)).length = (PySem.textFrom 1 (("[" : Str) ++ (if (0 : Nat) > 0 then ", " else "" : String) ++ t) r).length + 1 := by
        show (PySem.textFrom 0 "[" (t :: r) ++ "]").length = _
        rw [PySem.strLen_append]; rfl
      rw [hX, h, e, PySem.piled_cons]
      omega
mutual
theorem shown_le : ∀ d : PyData, fineD d = true → d.shown.length ≤ wt d ∧ d.showable = true
  | .none, _ => ⟨by show (PyData.shown .none).length ≤ 4; decide, rfl⟩
  | .bool b, _ => ⟨by show (PyData.shown (.bool b)).length ≤ 5; cases b <;> decide, rfl⟩
  | .int i, h => by
    have h1 : i.natAbs.log2 < 1920 := by simpa [fineD] using h
    refine ⟨?_, by simp only [PyData.showable]; exact decide_eq_true h1⟩
    have e := PySem.int_text_length_le (k := 1920) (by decide) h1
    have e2 : (PyData.shown (.int i)).length = (toString i).length := by
      simp only [PyData.shown]
      show (Str.ofString (toString i)).length = _
      rw [PySem.ofString_length]
    rw [e2]
    show _ ≤ 2000
    omega
  | .str s, h => by
    have h1 : ∀ c ∈ s.cps.toList, c < 16 ^ 8 := fun c hc => of_decide_eq_true (List.all_eq_true.mp (by simpa only [fineD] using h) c hc)
    exact ⟨by simp only [PyData.shown, wt]; exact PySem.StrLaws.reprText_len s h1, by simp only [PyData.showable]⟩
  | .list xs, h => by
    have h1 := shown_les xs (by simpa [fineD] using h)
    refine ⟨?_, by simp only [PyData.showable]; exact h1.2⟩
    simp only [PyData.shown, wt]
    have := (piled_text (PyData.shownAll xs)).2
    omega
  | .tuple xs, h => by
    have h1 := shown_les xs (by simpa [fineD] using h)
    refine ⟨?_, by simp only [PyData.showable]; exact h1.2⟩
    simp only [PyData.shown, wt]
    have := (piled_text (PyData.shownAll xs)).1
    omega
  | .dict _, h => by simp [fineD] at h
theorem shown_les : ∀ xs : List PyData, fineDs xs = true → PySem.piled (PyData.shownAll xs) ≤ wts xs ∧ PyData.showableAll xs = true
  | [], _ => ⟨by simp only [PyData.shownAll, wts]; exact Nat.le_refl _, by simp only [PyData.showableAll]⟩
  | x :: xs, h => by
    have h1 : fineD x = true ∧ fineDs xs = true := by simpa [fineDs] using h
    have a := shown_le x h1.1
    have b := shown_les xs h1.2
    refine ⟨?_, by simp only [PyData.showableAll, a.2, b.2, Bool.and_self]⟩
    simp only [PyData.shownAll, wts]
    rw [PySem.piled_cons]
    omega
end
end MP
namespace MP
section
variable {S : Store} {Q : D → Store → Prop} {C : Cfg} {σ : Slots} {T : Pt}
theorem lc_fm {e : ME} {g : Tg} {c : MT} {xs : List D} (p : D → Bool) (f : D → D) (hl : xs.length ≤ 1000000)
    (step : ∀ (i : Nat) (d : D) (S' : Store), xs[i]? = some d → Keep S S' [] → ∃ σ1, asg S' g d σ = some σ1 ∧ Ok (c C σ1 S') (fun b S1 => b = p d ∧ Keep S' S1 [] ∧ (b = true → Ok (e C σ1 S1) (fun y S2 => y = f d ∧ Keep S1 S2 []) X0)) X0) :
    Ok (compN (.seq xs) g c (emit e S.size C) C σ turns 0 (S.push (.lst []))) (fun _ S2 => S2.get S.size = some (.lst ((xs.filter p).map f)) ∧ Keep S S2 []) X0 := by
  refine lc_seq (Q := fun S2 => S2.get S.size = some (.lst ((xs.filter p).map f)) ∧ Keep S S2 []) (by unfold turns; omega)
    (fun j acc S' => acc = ((xs.take j).filter p).map f ∧ S'.get S.size = some (.lst acc) ∧ Keep S S' []) ?_ (fun _ _ _ h => h.2.1) ?_ (by unfold line; omega) ?_
  · exact ⟨rfl, Store.get_push_same _ _, Keep.push _⟩
  · rintro j d acc S' hd ha ⟨rfl, g, k⟩
    obtain ⟨σ1, h1, h2⟩ := step j d S' hd k
    refine ⟨σ1, h1, h2.imp fun b S1 ⟨e1, k1, h3⟩ => ?_⟩
    have ht : xs.take (j + 1) = xs.take j ++ [d] := by rw [List.take_succ, hd]; rfl
    have g1 := k1.get g (by simp)
    rw [ht, List.filter_append, List.map_append]
    cases b with
    | false =>
      have e2 : [d].filter p = [] := by simp [← e1]
      rw [e2, List.map_nil, List.append_nil]
      exact ⟨rfl, g1, k.trans k1⟩
    | true =>
      have e2 : [d].filter p = [d] := by simp [← e1]
      rw [if_pos rfl, e2]
      refine (h3 rfl).imp fun y S2 ⟨e3, k2⟩ => ?_
      subst e3
      have g2 := k2.get g1 (by simp)
      exact ⟨g2, rfl, Store.get_set_same _ (Store.get_lt g2), ((k.trans k1).trans k2).set_new _ (Nat.le_refl _) (Store.get_lt g2)⟩
  · rintro acc S' ha ⟨rfl, g, k⟩
    rw [List.take_length] at g
    exact ⟨g, k⟩
theorem lc_map {e : ME} {g : Tg} {xs : List D} (f : D → D) (hl : xs.length ≤ 1000000)
    (step : ∀ (i : Nat) (d : D) (S' : Store), xs[i]? = some d → Keep S S' [] → ∃ σ1, asg S' g d σ = some σ1 ∧ Ok (e C σ1 S') (fun y S2 => y = f d ∧ Keep S' S2 []) X0) :
    Ok (compN (.seq xs) g tYes (emit e S.size C) C σ turns 0 (S.push (.lst []))) (fun _ S2 => S2.get S.size = some (.lst (xs.map f)) ∧ Keep S S2 []) X0 := by
  have e0 : xs.filter (fun _ => true) = xs := List.filter_eq_self.mpr fun _ _ => rfl
  refine (lc_fm (p := fun _ => true) (f := f) hl fun i d S' hd k => ?_).imp fun _ S2 h => by rw [e0] at h; exact h
  obtain ⟨σ1, h1, h2⟩ := step i d S' hd k
  refine ⟨σ1, h1, ?_⟩
  rw [ok_yes]
  exact ⟨rfl, Keep.refl, fun _ => h2⟩
def intD (ns : List Int) : List D := ns.map .int
theorem snapL {n : Nat} {xs : List D} {ds : List PySem.PyData} (h : S.get n = some (.lst xs)) (hs : optAll (snap S 39) xs = some ds) : snap S deep (.ref n) = some (.list ds) := by
  show (match lstAt S n with
    | some xs => (optAll (snap S 39) xs).map PySem.PyData.list
    | none => none) = _
  unfold lstAt; rw [h]
  show (optAll (snap S 39) xs).map PySem.PyData.list = _
  rw [hs]; rfl
theorem eqv_ints : ∀ xs ys : List Int, PySem.PyData.eqv (.list (xs.map .int)) (.list (ys.map .int)) = decide (xs = ys)
  | [], [] => rfl
  | [], _ :: _ => rfl
  | _ :: _, [] => rfl
  | x :: xs, y :: ys => by
    have ih := eqv_ints xs ys
    have e : PySem.PyData.eqv (.list ((x :: xs).map .int)) (.list ((y :: ys).map .int)) = (PySem.PyData.eqv (.int x) (.int y) && PySem.PyData.eqv (.list (xs.map .int)) (.list (ys.map .int))) := by
      simp [PySem.PyData.eqv, PySem.PyData.eqvAll]
    have e2 : PySem.PyData.eqv (.int x) (.int y) = decide (x = y) := by
      show (x == y) = _
      rw [Bool.beq_eq_decide_eq]
    rw [e, ih, e2, Bool.eq_iff_iff]
    simp
theorem p_neInts {n k : Nat} {xs ys : List Int} (h1 : S.get n = some (.lst (intD xs))) (h2 : S.get k = some (.lst (intD ys))) : OkP (opNe (.ref n) (.ref k) S) Q = Q (.bl (!decide (xs = ys))) S := by
  unfold opNe eqD
  rw [snapL h1 (snap_int S 38 xs), snapL h2 (snap_int S 38 ys)]
  show OkP (some (D.bl (!PySem.PyData.eqv _ _), S)) Q = _
  rw [eqv_ints]; rfl
def leI (a b : Int) : Bool := decide (a ≤ b)
theorem sortD_int (ns : List Int) : sortD (intD ns) (ns.map .int) = intD (ns.mergeSort leI) := by
  have e : (intD ns).zip (ns.map PySem.PyData.int) = ns.map fun n => (D.int n, PySem.PyData.int n) := by
    unfold intD
    rw [List.zip_map]
    induction ns with
    | nil => rfl
    | cons a r ih => simp [List.zip, ih]
  unfold sortD
  rw [e, ← PySem.W.sort_maps (r := leI) (fun n => (D.int n, PySem.PyData.int n)) fun a _ b _ => ?_]
  · unfold intD
    rw [List.map_map]
    rfl
  · unfold leI leP
    rw [PySem.W.dataLt_int]
    rw [Bool.eq_iff_iff]
    simp
theorem okSort_int (ns : List Int) : okSort (ns.map .int) = true := by
  unfold okSort
  rw [Bool.and_eq_true, Bool.or_eq_true]
  refine ⟨List.all_eq_true.mpr fun d hd => List.all_eq_true.mpr fun e he => ?_, .inr (List.all_eq_true.mpr fun d hd => ?_)⟩
  · obtain ⟨a, _, rfl⟩ := List.mem_map.mp hd
    obtain ⟨b, _, rfl⟩ := List.mem_map.mp he
    simp [PySem.W.alike]
  · obtain ⟨a, _, rfl⟩ := List.mem_map.mp hd
    rfl
theorem p_sortI {n : Nat} {ns : List Int} (h : S.get n = some (.lst (intD ns))) : OkP (bSorted [.ref n] S) Q = Q (.ref S.size) (S.push (.lst (intD (ns.mergeSort leI)))) := by
  have e : snaps S deep (intD ns) = some (ns.map .int) := snap_int S 39 ns
  unfold bSorted lstAt
  simp only [h, e]
  rw [if_pos (okSort_int ns), sortD_int]
  rfl
end
end MP
namespace MP
open PySem (PyData)
def snapK (S : Store) (k : Nat) : Nat → D → Option PyData
  | 0, _ => none
  | _ + 1, .non => some .none
  | _ + 1, .bl b => some (.bool b)
  | _ + 1, .int i => some (.int i)
  | _ + 1, .str s => some (.str ⟨s.toArray⟩)
  | n + 1, .tup xs => (optAll (snapK S k n) xs).map .tuple
  | n + 1, .ref j => if j = k then none else (match S.get j with
    | some (.lst xs) => (optAll (snapK S k n) xs).map .list
    | _ => none)
  | _ + 1, .exn _ _ => none
  | _ + 1, .lam _ _ => none
theorem optAll_imp {α β : Type} {f g : α → Option β} : ∀ {xs : List α} {ps : List β}, (∀ x ∈ xs, ∀ p, f x = some p → g x = some p) → optAll f xs = some ps → optAll g xs = some ps
  | [], ps, _, e => e
  | x :: xs, ps, h, e => by
    unfold optAll at e ⊢
    cases e1 : f x with
    | none => rw [e1] at e; cases e
    | some a =>
      rw [e1] at e
      cases e2 : optAll f xs with
      | none => rw [e2] at e; cases e
      | some b =>
        rw [e2] at e
        rw [h x (List.mem_cons_self ..) a e1, optAll_imp (fun y hy => h y (List.mem_cons_of_mem _ hy)) e2]
        exact e
theorem snapK_keep {S S' : Store} {k : Nat} (kp : Keep S S' [k]) : ∀ {n : Nat} {d : D} {p : PyData}, snapK S k n d = some p → snapK S' k n d = some p
  | 0, _, _, e => by cases e
  | n + 1, .non, _, e => e
  | n + 1, .bl _, _, e => e
  | n + 1, .int _, _, e => e
  | n + 1, .str _, _, e => e
  | n + 1, .tup xs, p, e => by
    obtain ⟨ps, h1, h2⟩ := Option.map_eq_some_iff.mp (show (optAll (snapK S k n) xs).map PyData.tuple = some p from e)
    show (optAll (snapK S' k n) xs).map PyData.tuple = some p
    rw [optAll_imp (fun x _ p h => snapK_keep kp h) h1, ← h2]; rfl
  | n + 1, .ref j, p, e => by
    have e : (if j = k then none else (match S.get j with
      | some (.lst xs) => (optAll (snapK S k n) xs).map PyData.list
      | _ => none)) = some p := e
    show (if j = k then none else (match S'.get j with
      | some (.lst xs) => (optAll (snapK S' k n) xs).map PyData.list
      | _ => none)) = some p
    split at e
    · cases e
    · rename_i hjk
      rw [if_neg hjk]
      split at e
      · rename_i xs hg
        obtain ⟨ps, h1, h2⟩ := Option.map_eq_some_iff.mp e
        rw [kp.get hg (by simp [hjk])]
        show (optAll (snapK S' k n) xs).map PyData.list = some p
        rw [optAll_imp (fun x _ p h => snapK_keep kp h) h1, ← h2]; rfl
      · cases e
  | n + 1, .exn _ _, _, e => by cases e
  | n + 1, .lam _ _, _, e => by cases e
theorem snapK_up {S : Store} {k : Nat} : ∀ {n : Nat} {d : D} {p : PyData}, snapK S k n d = some p → snapK S k (n + 1) d = some p
  | 0, _, _, e => by cases e
  | n + 1, .non, _, e => e
  | n + 1, .bl _, _, e => e
  | n + 1, .int _, _, e => e
  | n + 1, .str _, _, e => e
  | n + 1, .tup xs, p, e => by
    obtain ⟨ps, h1, h2⟩ := Option.map_eq_some_iff.mp (show (optAll (snapK S k n) xs).map PyData.tuple = some p from e)
    show (optAll (snapK S k (n + 1)) xs).map PyData.tuple = some p
    rw [optAll_imp (fun x _ p h => snapK_up h) h1, ← h2]; rfl
  | n + 1, .ref j, p, e => by
    have e : (if j = k then none else (match S.get j with
      | some (.lst xs) => (optAll (snapK S k n) xs).map PyData.list
      | _ => none)) = some p := e
    show (if j = k then none else (match S.get j with
      | some (.lst xs) => (optAll (snapK S k (n + 1)) xs).map PyData.list
      | _ => none)) = some p
    split at e
    · cases e
    · rename_i hjk
      rw [if_neg hjk]
      split at e
      · rename_i xs hg
        obtain ⟨ps, h1, h2⟩ := Option.map_eq_some_iff.mp e
        show (optAll (snapK S k (n + 1)) xs).map PyData.list = some p
        rw [optAll_imp (fun x _ p h => snapK_up h) h1, ← h2]; rfl
      · cases e
  | n + 1, .exn _ _, _, e => by cases e
  | n + 1, .lam _ _, _, e => by cases e
theorem snapK_le {S : Store} {k n m : Nat} {d : D} {p : PyData} (h : n ≤ m) (e : snapK S k n d = some p) : snapK S k m d = some p := by
  obtain ⟨j, rfl⟩ := Nat.le.dest h
  induction j with
  | zero => exact e
  | succ j ih => exact snapK_up (ih (by omega))
def Da (S : Store) (k n : Nat) (d : D) (b : Nat) : Prop := ∃ p, snapK S k n d = some p ∧ fineD p = true ∧ wt p ≤ b
def DaL (S : Store) (k n : Nat) (xs : List D) (b : Nat) : Prop := ∃ ps, optAll (snapK S k n) xs = some ps ∧ fineDs ps = true ∧ wts ps ≤ b
section
variable {S S' : Store} {k n m b b' B : Nat} {d : D} {xs ys : List D}
theorem Da.le (h : Da S k n d b) (h1 : n ≤ m) (h2 : b ≤ b') : Da S k m d b' := let ⟨p, a, c, e⟩ := h; ⟨p, snapK_le h1 a, c, Nat.le_trans e h2⟩
theorem Da.keep (h : Da S k n d b) (kp : Keep S S' [k]) : Da S' k n d b := let ⟨p, a, c, e⟩ := h; ⟨p, snapK_keep kp a, c, e⟩
theorem Da.keep0 (h : Da S k n d b) (kp : Keep S S' []) : Da S' k n d b := h.keep (kp.weak (by simp))
theorem DaL.le (h : DaL S k n xs b) (h1 : n ≤ m) (h2 : b ≤ b') : DaL S k m xs b' := let ⟨p, a, c, e⟩ := h; ⟨p, optAll_imp (fun _ _ _ z => snapK_le h1 z) a, c, Nat.le_trans e h2⟩
theorem DaL.keep (h : DaL S k n xs b) (kp : Keep S S' [k]) : DaL S' k n xs b := let ⟨p, a, c, e⟩ := h; ⟨p, optAll_imp (fun _ _ _ z => snapK_keep kp z) a, c, e⟩
theorem Da.non : Da S k (n + 1) .non 4 := ⟨.none, rfl, rfl, Nat.le_refl _⟩
theorem Da.bl {v : Bool} : Da S k (n + 1) (.bl v) 5 := ⟨.bool v, rfl, rfl, Nat.le_refl _⟩
theorem Da.int {i : Int} (h : i.natAbs < 1000000) : Da S k (n + 1) (.int i) 2000 := ⟨.int i, rfl, by
  simp only [fineD, decide_eq_true_eq]
  by_cases z : i.natAbs = 0
  · rw [z]; decide
  · exact (Nat.log2_lt z).mpr (Nat.lt_of_lt_of_le (by omega : i.natAbs < 2 ^ 20) (Nat.pow_le_pow_right (by decide) (by decide))), Nat.le_refl _⟩
theorem Da.str {s : List Nat} (h : ∀ c ∈ s, c < 1000) : Da S k (n + 1) (.str s) (10 * s.length + 2) := ⟨.str ⟨s.toArray⟩, rfl, by
  simp only [fineD]
  rw [List.all_eq_true]
  intro c hc
  have := h c (by simpa using hc)
  simp
  omega, by
  simp only [wt]
  exact Nat.le_refl _⟩
theorem DaL.nil : DaL S k n [] 0 := ⟨[], rfl, rfl, Nat.le_refl _⟩
theorem DaL.cons (h : Da S k n d b) (hs : DaL S k n xs B) : DaL S k n (d :: xs) (b + 2 + B) := by
  obtain ⟨p, a, c, e⟩ := h
  obtain ⟨ps, a', c', e'⟩ := hs
  refine ⟨p :: ps, by rw [optAll, a, a'], by simp [fineDs, c, c'], ?_⟩
  rw [wts]; omega
theorem DaL.uncons (h : DaL S k n (d :: xs) B) : ∃ b1 b2, Da S k n d b1 ∧ DaL S k n xs b2 ∧ b1 + 2 + b2 ≤ B := by
  obtain ⟨ps, a, c, e⟩ := h
  unfold optAll at a
  cases e1 : snapK S k n d with
  | none => rw [e1] at a; cases a
  | some p =>
    rw [e1] at a
    cases e2 : optAll (snapK S k n) xs with
    | none => rw [e2] at a; cases a
    | some qs =>
      rw [e2] at a
      cases a
      rw [fineDs, Bool.and_eq_true] at c
      rw [wts] at e
      exact ⟨wt p, wts qs, ⟨p, e1, c.1, Nat.le_refl _⟩, ⟨qs, e2, c.2, Nat.le_refl _⟩, e⟩
theorem DaL.append : ∀ {xs : List D} {b : Nat}, DaL S k n xs b → DaL S k n ys b' → DaL S k n (xs ++ ys) (b + b')
  | [], b, _, h' => h'.le (Nat.le_refl _) (by omega)
  | x :: xs, b, h, h' => by
    obtain ⟨b1, b2, h1, h2, h3⟩ := h.uncons
    exact (DaL.cons h1 (DaL.append h2 h')).le (Nat.le_refl _) (by omega)
theorem DaL.drop : ∀ {xs : List D} {b : Nat} (j : Nat), DaL S k n xs b → DaL S k n (xs.drop j) b
  | xs, _, 0, h => h
  | [], _, j + 1, h => h
  | x :: xs, b, j + 1, h => by
    obtain ⟨b1, b2, h1, h2, h3⟩ := h.uncons
    exact (DaL.drop j h2).le (Nat.le_refl _) (by omega)
theorem DaL.take : ∀ {xs : List D} {b : Nat} (j : Nat), DaL S k n xs b → DaL S k n (xs.take j) b
  | xs, _, 0, h => DaL.nil.le (Nat.le_refl _) (by omega)
  | [], _, j + 1, h => h
  | x :: xs, b, j + 1, h => by
    obtain ⟨b1, b2, h1, h2, h3⟩ := h.uncons
    exact (DaL.cons h1 (DaL.take j h2)).le (Nat.le_refl _) (by omega)
theorem DaL.mem : ∀ {xs : List D} {b : Nat}, DaL S k n xs b → ∀ x ∈ xs, Da S k n x b
  | [], _, _, _, hx => nomatch hx
  | y :: xs, b, h, x, hx => by
    obtain ⟨b1, b2, h1, h2, h3⟩ := h.uncons
    rcases List.mem_cons.mp hx with rfl | hx
    · exact h1.le (Nat.le_refl _) (by omega)
    · exact (DaL.mem h2 x hx).le (Nat.le_refl _) (by omega)
theorem DaL.len : ∀ {xs : List D} {b : Nat}, DaL S k n xs b → 2 * xs.length ≤ b
  | [], _, _ => Nat.zero_le _
  | y :: xs, b, h => by
    obtain ⟨b1, b2, h1, h2, h3⟩ := h.uncons
    have := DaL.len h2
    rw [List.length_cons]; omega
theorem DaL.map {α : Type} {f : α → D} {c : Nat} : ∀ {xs : List α}, (∀ x ∈ xs, Da S k n (f x) c) → DaL S k n (xs.map f) (xs.length * (c + 2))
  | [], _ => DaL.nil.le (Nat.le_refl _) (by omega)
  | x :: xs, h => by
    have h1 := h x (List.mem_cons_self ..)
    have h2 := DaL.map (xs := xs) fun y hy => h y (List.mem_cons_of_mem _ hy)
    exact (DaL.cons h1 h2).le (Nat.le_refl _) (by rw [List.length_cons, Nat.succ_mul]; omega)
theorem Da.tup (h : DaL S k n xs b) : Da S k (n + 1) (.tup xs) (b + 4) := by
  obtain ⟨ps, a, c, e⟩ := h
  refine ⟨.tuple ps, ?_, by simp only [fineD]; exact c, by simp only [wt]; omega⟩
  show (optAll (snapK S k n) xs).map PyData.tuple = _
  rw [a]; rfl
theorem Da.lst {j : Nat} (hj : j ≠ k) (hg : S.get j = some (.lst xs)) (h : DaL S k n xs b) : Da S k (n + 1) (.ref j) (b + 4) := by
  obtain ⟨ps, a, c, e⟩ := h
  refine ⟨.list ps, ?_, by simp only [fineD]; exact c, by simp only [wt]; omega⟩
  show (if j = k then none else (match S.get j with
    | some (.lst xs) => (optAll (snapK S k n) xs).map PyData.list
    | _ => none)) = _
  rw [if_neg hj, hg]
  show (optAll (snapK S k n) xs).map PyData.list = _
  rw [a]; rfl
theorem Da.pos (h : Da S k n d b) : ∃ m, n = m + 1 := by
  cases n with
  | zero => obtain ⟨p, a, _⟩ := h; cases a
  | succ m => exact ⟨m, rfl⟩
def tyD : D → Ty
  | .non => .non
  | .bl _ => .bl
  | .int _ => .int
  | .str _ => .str
  | .tup _ => .tup
  | _ => .lst
theorem Da.ty (h : Da S k n d b) : tyOf S d = some (tyD d) ∧ isX d = false := by
  obtain ⟨m, rfl⟩ := h.pos
  obtain ⟨p, a, c, e⟩ := h
  cases d with
  | ref j =>
    have a : (if j = k then none else (match S.get j with
      | some (.lst xs) => (optAll (snapK S k m) xs).map PyData.list
      | _ => none)) = some p := a
    split at a
    · cases a
    · split at a
      · rename_i xs hg
        refine ⟨?_, rfl⟩
        simp only [tyOf, lstAt, hg]; rfl
      · cases a
  | exn _ _ => cases a
  | lam _ _ => cases a
  | _ => exact ⟨rfl, rfl⟩
mutual
theorem eqv_self : ∀ p : PyData, fineD p = true → PyData.eqv p p = true
  | .none, _ => rfl
  | .bool b, _ => by cases b <;> rfl
  | .int i, _ => by show (i == i) = true; simp
  | .str s, _ => by show (s == s) = true; simp
  | .list xs, h => by
    have := eqv_selfs xs (by simpa [fineD] using h)
    simpa [PyData.eqv] using this
  | .tuple xs, h => by
    have := eqv_selfs xs (by simpa [fineD] using h)
    simpa [PyData.eqv] using this
  | .dict _, h => by simp [fineD] at h
theorem eqv_selfs : ∀ xs : List PyData, fineDs xs = true → PyData.eqvAll xs xs = true
  | [], _ => rfl
  | x :: xs, h => by
    rw [fineDs, Bool.and_eq_true] at h
    rw [PyData.eqvAll, eqv_self x h.1, eqv_selfs xs h.2]; rfl
end
end
section
variable {C : Cfg} {σ : Slots} {S : Store} {T : Pt} {E : XP}
theorem oks_raise {c : Nat} {fn : List Nat} {a : MA} : OkS (sRaise c fn a C σ S) T = Ok (a C σ S) (fun xs S' => xs.length = fn.length ∧ T.ex c (fn.zip xs) σ S') (T.xe σ) := by
  unfold sRaise
  cases a C σ S with
  | ok xs S' =>
    simp only [Ok]
    by_cases h : xs.length = fn.length
    · rw [if_pos h]; simp [h, OkS]
    · rw [if_neg h]; simp [h, OkS]
  | ex c fs S' => rfl
  | bad => rfl
@[simp] theorem ok_eand {a b : ME} {Q} : Ok (eAnd a b C σ S) Q E = Ok (a C σ S) (fun x S1 => ∃ c, x = .bl c ∧ if c = true then Ok (b C σ S1) Q E else Q (.bl false) S1) E := by
  show Ok (M.bind _ _ S) Q E = _
  rw [ok_bind, ok_tB]
  congr 1; funext x S1
  refine propext ⟨fun ⟨c, h, z⟩ => ⟨c, h, ?_⟩, fun ⟨c, h, z⟩ => ⟨c, h, ?_⟩⟩ <;> cases c <;> simpa using z
@[simp] theorem ok_enot {a : ME} {Q} : Ok (eNot a C σ S) Q E = Ok (a C σ S) (fun x S1 => ∃ c, x = .bl c ∧ Q (.bl (!c)) S1) E := by
  show Ok (M.bind _ _ S) Q E = _
  rw [ok_bind, ok_tB]
  rfl
@[simp] theorem ok_chain {f g : D → D → P D} {a b c : ME} {Q} : Ok (eChain f g a b c C σ S) Q E = Ok (a C σ S) (fun x S1 => Ok (b C σ S1) (fun y S2 => OkP (f x y S2) fun r S3 => ∃ k, r = .bl k ∧ if k = true then Ok (c C σ S3) (fun z S4 => OkP (g y z S4) Q) E else Q (.bl false) S3) E) E := by
  show Ok (M.bind _ _ S) Q E = _
  rw [ok_bind]
  congr 1; funext x S1
  rw [ok_bind]
  congr 1; funext y S2
  rw [ok_bind, ok_of]
  congr 1; funext r S3
  rw [ok_bind, ok_of, okp_asB]
  refine propext ⟨fun ⟨k, h, z⟩ => ⟨k, h, ?_⟩, fun ⟨k, h, z⟩ => ⟨k, h, ?_⟩⟩ <;> cases k <;> simpa using z
theorem p_all {n : Nat} {bs : List Bool} {Q : D → Store → Prop} (h : S.get n = some (.lst (bs.map D.bl))) : OkP (bAll [.ref n] S) Q = Q (.bl (bs.all id)) S := by
  unfold bAll lstAt
  simp only [h, allB_map]
  rfl
@[simp] theorem p_cutT {xs : List D} {lo hi : Option Int} {Q : D → Store → Prop} : OkP (opCut (.tup xs) lo hi S) Q = Q (.tup (cut xs lo hi)) S := id rfl
@[simp] theorem p_addT {xs ys : List D} {Q : D → Store → Prop} : OkP (opAdd (.tup xs) (.tup ys) S) Q = (xs.length + ys.length ≤ line ∧ Q (.tup (xs ++ ys)) S) := okp_if
theorem p_addL {n k : Nat} {xs ys : List D} {Q : D → Store → Prop} (h1 : S.get n = some (.lst xs)) (h2 : S.get k = some (.lst ys)) : OkP (opAdd (.ref n) (.ref k) S) Q = (xs.length + ys.length ≤ line ∧ Q (.ref S.size) (S.push (.lst (xs ++ ys)))) := by
  unfold opAdd
  simp only [h1, h2]
  exact okp_if
theorem DaL.cut {S : Store} {k n b : Nat} {xs : List D} {lo hi : Option Int} (h : DaL S k n xs b) : DaL S k n (cut xs lo hi) b := (h.drop _).take _
theorem p_listT {xs : List D} {Q : D → Store → Prop} : OkP (bListX [.tup xs] S) Q = Q (.ref S.size) (S.push (.lst xs)) := id rfl
@[simp] theorem p_eqsN {s : List Nat} {Q : D → Store → Prop} : OkP (opEq (.str s) .non S) Q = Q (.bl false) S := id rfl
@[simp] theorem p_eqNs {s : List Nat} {Q : D → Store → Prop} : OkP (opEq .non (.str s) S) Q = Q (.bl false) S := id rfl
end
end MP
namespace MP
open PySem (PyData)
section
variable {C : Cfg} {σ : Slots} {S : Store} {T : Pt} {E : XP} {Q : D → Store → Prop}
theorem oks_fld {cs : List Nat} {f : Nat} {o v : ME} : OkS (sFld cs f o v C σ S) T = Ok (v C σ S) (fun y S1 => Ok (o C σ S1) (fun x S2 => OkP (putFld cs f x y S2) fun _ S3 => T.nx σ S3) (T.xe σ)) (T.xe σ) := by
  unfold sFld; rw [oks_lift]
  congr 1; funext y S1
  rw [oks_lift]
  congr 1; funext x S2
  rw [oks_lift, ok_of]; rfl
@[simp] theorem ok_fld {cs : List Nat} {f : Nat} {o : ME} : Ok (eFld cs f o C σ S) Q E = Ok (o C σ S) (fun x S1 => OkP (opFld cs f x S1) Q) E := ok_e1
theorem p_fld {cs : List Nat} {f n c : Nat} {fs : Fs} {d : D} (h : S.get n = some (.ins c fs)) (hc : cs.contains c = true) (hf : fget f fs = some d) : OkP (opFld cs f (.ref n) S) Q = Q d S := by
  unfold opFld
  simp only [h, hc, hf]
  rfl
theorem p_putFld {cs : List Nat} {f n c : Nat} {fs : Fs} {v : D} {Q : Unit → Store → Prop} (h : S.get n = some (.ins c fs)) (hc : cs.contains c = true) (hl : fs.length < 900) : OkP (putFld cs f (.ref n) v S) Q = Q () (S.set n (.ins c (fput f v fs))) := by
  unfold putFld
  simp only [h, hc, decide_eq_true hl]
  rfl
@[simp] theorem ok_meth {tbl : List (Nat × Nat)} {o : ME} {a : MA} {dd : List D} : Ok (eMeth tbl o a dd C σ S) Q E = Ok (o C σ S) (fun x S1 => ∃ j, methOf S1 tbl x = some j ∧ Ok (a C σ S1) (fun xs S2 => Ok (C.call j (x :: (xs ++ dd)) S2) Q E) E) E := by
  show Ok (M.bind _ _ S) Q E = _
  rw [ok_bind]
  congr 1; funext x S1
  cases h : methOf S1 tbl x with
  | none => simp [Ok]
  | some j =>
    simp only [Option.some.injEq, exists_eq_left']
    rw [ok_bind]
theorem meth_at {tbl : List (Nat × Nat)} {n c : Nat} {fs : Fs} (h : S.get n = some (.ins c fs)) : methOf S tbl (.ref n) = (tbl.find? fun p => p.1 == c).map (·.2) := by
  unfold methOf
  simp only [h]
@[simp] theorem ok_new {c f : Nat} {a : MA} {dd : List D} : Ok (eNew c f a dd C σ S) Q E = Ok (a C σ S) (fun xs S1 => Ok (C.call f (.ref S1.size :: (xs ++ dd)) (S1.push (.ins c []))) (fun v S2 => v = .non ∧ Q (.ref S1.size) S2) E) E := by
  show Ok (M.bind _ _ S) Q E = _
  rw [ok_bind]
  congr 1; funext xs S1
  cases C.call f (.ref S1.size :: (xs ++ dd)) (S1.push (.ins c [])) with
  | ok v S2 => cases v <;> simp [Ok]
  | ex c fs S2 => rfl
  | bad => rfl
end
abbrev Ed := Int × List Nat × Int
def eD (e : Ed) : D := .tup [.int e.1, .str e.2.1, .int e.2.2]
def eP (e : Ed) : PyData := .tuple [.int e.1, .str ⟨e.2.1.toArray⟩, .int e.2.2]
theorem eqv_edge (a b : Ed) : PyData.eqv (eP a) (eP b) = decide (a = b) := by
  have h1 : ∀ x y : Int, PyData.eqv (.int x) (.int y) = decide (x = y) := fun x y => by
    show (x == y) = _
    rw [Bool.beq_eq_decide_eq]
  have e : PyData.eqv (eP a) (eP b) = (PyData.eqv (.int a.1) (.int b.1) && (PyData.eqv (.str ⟨a.2.1.toArray⟩) (.str ⟨b.2.1.toArray⟩) && PyData.eqv (.int a.2.2) (.int b.2.2))) := by
    simp [eP, PyData.eqv, PyData.eqvAll]
  rw [e, h1, h1, eqv_str, Bool.eq_iff_iff]
  obtain ⟨a1, a2, a3⟩ := a
  obtain ⟨b1, b2, b3⟩ := b
  simp
section
variable {S : Store} {Q : D → Store → Prop} {n : Nat} {es : List Ed} {e : Ed}
theorem snap_eds (k : Nat) : ∀ es : List Ed, optAll (snap S (k + 2)) (es.map eD) = some (es.map eP)
  | [] => rfl
  | e :: es => by
    rw [List.map_cons, optAll, snap_eds k es]
    rfl
theorem memD_eds : ∀ es : List Ed, memD (eP e) (es.map eP) = decide (e ∈ es)
  | [] => rfl
  | x :: es => by
    rw [List.map_cons, memD, eqv_edge, memD_eds es]
    by_cases h : x = e
    · subst h; simp
    · have h' : ¬ e = x := fun z => h z.symm
      simp [h, h']
theorem inD_eds (h : S.get n = some (.lst (es.map eD))) : inD S (eD e) (.ref n) = some (decide (e ∈ es)) := by
  show (match S.get n with
    | some (.dct kvs) => if keyFits (eD e) kvs = true then some (dget (eD e) kvs).isSome else none
    | _ => (match lstAt S n with
      | some xs => (match snap S deep (eD e), snaps S deep xs with
        | some a, some bs => some (memD a bs)
        | _, _ => none)
      | none => none)) = _
  have e1 : lstAt S n = some (es.map eD) := by unfold lstAt; rw [h]
  have e2 : snaps S deep (es.map eD) = some (es.map eP) := snap_eds 38 es
  have e3 : snap S deep (eD e) = some (eP e) := rfl
  rw [h, e1]
  simp only [e2, e3]
  rw [memD_eds]
theorem p_inE (h : S.get n = some (.lst (es.map eD))) : OkP (opIn (eD e) (.ref n) S) Q = Q (.bl (decide (e ∈ es))) S := by
  unfold opIn
  rw [inD_eds h]; rfl
theorem p_notinE (h : S.get n = some (.lst (es.map eD))) : OkP (opNotIn (eD e) (.ref n) S) Q = Q (.bl (!decide (e ∈ es))) S := by
  unfold opNotIn
  rw [inD_eds h]; rfl
theorem find_eds : ∀ es : List Ed, (es.map eP).findIdx? (fun b => PyData.eqv b (eP e)) = es.findIdx? (fun x => e == x)
  | [] => rfl
  | x :: es => by
    rw [List.map_cons, List.findIdx?_cons, List.findIdx?_cons, eqv_edge, find_eds es]
    have z : decide (x = e) = (e == x) := by
      rw [Bool.eq_iff_iff, decide_eq_true_eq, beq_iff_eq]
      exact ⟨fun h => h.symm, fun h => h.symm⟩
    rw [z]
theorem map_erase {α β : Type} (f : α → β) : ∀ (l : List α) (j : Nat), (l.map f).eraseIdx j = (l.eraseIdx j).map f
  | [], _ => rfl
  | _ :: _, 0 => rfl
  | a :: l, j + 1 => by
    show f a :: (l.map f).eraseIdx j = _
    rw [map_erase f l j]; rfl
theorem p_removeE (h : S.get n = some (.lst (es.map eD))) (hm : e ∈ es) : OkP (mRemove (.ref n) [eD e] S) Q = Q .non (S.set n (.lst ((es.erase e).map eD))) := by
  have e2 : snaps S deep (es.map eD) = some (es.map eP) := snap_eds 38 es
  have e3 : snap S deep (eD e) = some (eP e) := rfl
  unfold mRemove
  simp only [h, e2, e3, find_eds]
  rw [List.erase_eq_eraseP, List.eraseP_eq_eraseIdx]
  cases hf : es.findIdx? (fun x => e == x) with
  | none =>
    exfalso
    have := List.findIdx?_eq_none_iff.mp hf e hm
    simp at this
  | some j =>
    simp only [okp_some]
    rw [map_erase]
def leE (a b : Ed) : Bool := !PySem.W.dataLt (eP b) (eP a)
def sortE (es : List Ed) : List Ed := es.mergeSort leE
theorem okSort_eds (es : List Ed) : okSort (es.map eP) = true := by
  unfold okSort
  rw [Bool.and_eq_true, Bool.or_eq_true]
  refine ⟨List.all_eq_true.mpr fun d hd => List.all_eq_true.mpr fun f hf => ?_, .inl (List.all_eq_true.mpr fun d hd => ?_)⟩
  · obtain ⟨a, _, rfl⟩ := List.mem_map.mp hd
    obtain ⟨b, _, rfl⟩ := List.mem_map.mp hf
    simp [eP, PySem.W.alike, PySem.W.alikeAll]
  · obtain ⟨a, _, rfl⟩ := List.mem_map.mp hd
    rfl
theorem sortD_eds (es : List Ed) : sortD (es.map eD) (es.map eP) = (sortE es).map eD := by
  have e : (es.map eD).zip (es.map eP) = es.map fun x => (eD x, eP x) := by
    rw [List.zip_map]
    induction es with
    | nil => rfl
    | cons a r ih => simp [List.zip, ih]
  unfold sortD
  rw [e, ← PySem.W.sort_maps (r := leE) (fun x => (eD x, eP x)) fun a _ b _ => rfl]
  unfold sortE
  rw [List.map_map]
  rfl
theorem p_sortE (h : S.get n = some (.lst (es.map eD))) : OkP (bSorted [.ref n] S) Q = Q (.ref S.size) (S.push (.lst ((sortE es).map eD))) := by
  have e2 : snaps S deep (es.map eD) = some (es.map eP) := snap_eds 38 es
  unfold bSorted lstAt
  simp only [h, e2]
  rw [if_pos (okSort_eds es), sortD_eds]
  rfl
end
structure Mach (S : Store) (n a b c sg st : Nat) (kept : List Ed) (first last : List Int) : Prop where
  hn : S.get n = some (.ins 12 [(7, .int sg), (8, .int st), (9, .ref a), (10, .ref b), (11, .ref c)])
  ha : S.get a = some (.lst (kept.map eD))
  hb : S.get b = some (.lst (intD first))
  hc : S.get c = some (.lst (intD last))
  ne : a ≠ b ∧ a ≠ c ∧ b ≠ c
section
variable {S S' : Store} {n a b c sg st : Nat} {kept : List Ed} {first last : List Int}
theorem Mach.keep {ex : List Nat} (m : Mach S n a b c sg st kept first last) (k : Keep S S' ex) (h1 : n ∉ ex) (h2 : a ∉ ex) (h3 : b ∉ ex) (h4 : c ∉ ex) : Mach S' n a b c sg st kept first last :=
  ⟨k.get m.hn h1, k.get m.ha h2, k.get m.hb h3, k.get m.hc h4, m.ne⟩
theorem Mach.lt (m : Mach S n a b c sg st kept first last) : n < S.size ∧ a < S.size ∧ b < S.size ∧ c < S.size := ⟨Store.get_lt m.hn, Store.get_lt m.ha, Store.get_lt m.hb, Store.get_lt m.hc⟩
theorem Mach.ne2 (m : Mach S n a b c sg st kept first last) : n ≠ a ∧ n ≠ b ∧ n ≠ c := by
  refine ⟨fun e => ?_, fun e => ?_, fun e => ?_⟩
  · have := m.ha; rw [← e, m.hn] at this; cases this
  · have := m.hb; rw [← e, m.hn] at this; cases this
  · have := m.hc; rw [← e, m.hn] at this; cases this
end
def isIntD (lo hi : Int) : D → Bool
  | .int i => decide (lo ≤ i ∧ i ≤ hi)
  | _ => false
def abcN (sg : Nat) : List Nat := [97, 98, 99].take sg
def logS (sg : Nat) : D → Bool
  | .str s => s.all fun c => decide (c ∈ abcN sg)
  | _ => false
def bIsInt : MS := sRet (eAnd (e1 (opIsA .int) (eVar 0)) (eAnd (eNot (e1 (opIsA .bl) (eVar 0))) (eChain opLe opLe (eVar 1) (eVar 0) (eVar 2))))
def bIsLog : MS := sRet (eAnd (e1 (opIsA .str) (eVar 0)) (eB bAll (aCons (eLc (e2 opIn (eVar 2) (eCut (eC (.str [97, 98, 99])) (pNone) (pSome (eVar 1)))) (.nm 2) (iSeq (eVar 0)) (MP.tYes) [2]) (aNil))))
def bMachInit (ii : Nat) : MS := sSeq (sIf (MP.tNot (tV (eCall ii (aCons (eVar 1) (aCons (eC (.int 1)) (aCons (eC (.int 3)) (aNil)))) []))) (sRaise 11 [6] (aCons (eC (.int 3)) aNil)) (sPass)) (sSeq (sIf (MP.tNot (tV (eCall ii (aCons (eVar 2) (aCons (eC (.int 1)) (aCons (eC (.int 6)) (aNil)))) []))) (sRaise 11 [6] (aCons (eC (.int 6)) aNil)) (sPass)) (sSeq (sFld [12] 7 (eVar 0) (eVar 1)) (sSeq (sFld [12] 8 (eVar 0) (eVar 2)) (sSeq (sFld [12] 9 (eVar 0) (eLst (aNil))) (sSeq (sFld [12] 10 (eVar 0) (eLst (aNil))) (sFld [12] 11 (eVar 0) (eLst (aNil))))))))
def bReqState (ii : Nat) : MS := sIf (MP.tNot (tV (eCall ii (aCons (eVar 1) (aCons (eC (.int 0)) (aCons (e2 opSub (eFld [12] 8 (eVar 0)) (eC (.int 1))) (aNil)))) []))) (sRaise 5 [3] (aCons (eVar 1) aNil)) (sPass)
def bAddEdge (rq il : Nat) : MS := sSeq (sExpr (eMeth [(12, rq)] (eVar 0) (aCons (eVar 1) (aNil)) [])) (sSeq (sExpr (eMeth [(12, rq)] (eVar 0) (aCons (eVar 3) (aNil)) [])) (sSeq (sIf (MP.tOr (MP.tNot (tV (eCall il (aCons (eVar 2) (aCons (eFld [12] 7 (eVar 0)) (aNil))) []))) (MP.tB (e2 opNe (eB bLen (aCons (eVar 2) (aNil))) (eC (.int 1))))) (sRaise 0 [0] (aCons (eVar 2) aNil)) (sPass)) (sSeq (sSet (.nm 4) (eTup (aCons (eVar 1) (aCons (eVar 2) (aCons (eVar 3) (aNil)))))) (sSeq (sIf (MP.tB (e2 opIn (eVar 4) (eFld [12] 9 (eVar 0)))) (sRaise 9 [4] (aCons (eVar 4) aNil)) (sPass)) (sSeq (sIf (MP.tB (e2 opEq (eB bLen (aCons (eFld [12] 9 (eVar 0)) (aNil))) (eC (.int 14)))) (sRaise 11 [6] (aCons (eC (.int 14)) aNil)) (sPass)) (sExpr (eBM tyLst mAppend (eFld [12] 9 (eVar 0)) (aCons (eVar 4) (aNil)))))))))
def bRemEdge : MS := sSeq (sSet (.nm 4) (eTup (aCons (eVar 1) (aCons (eVar 2) (aCons (eVar 3) (aNil)))))) (sSeq (sIf (MP.tB (e2 opNotIn (eVar 4) (eFld [12] 9 (eVar 0)))) (sRaise 6 [4] (aCons (eVar 4) aNil)) (sPass)) (sExpr (eBM tyLst mRemove (eFld [12] 9 (eVar 0)) (aCons (eVar 4) (aNil)))))
def bEdges : MS := sRet (eB bTuple (aCons (eB bSorted (aCons (eFld [12] 9 (eVar 0)) (aNil))) (aNil)))
def IsIntSpec (call : List D → M D) : Prop := ∀ {S : Store} {d : D} {lo hi : Int}, tyOf S d = some (tyD d) → isX d = false → Ok (call [d, .int lo, .int hi] S) (fun v S' => v = .bl (isIntD lo hi d) ∧ S' = S) X0
def IsLogSpec (call : List D → M D) : Prop := ∀ {S : Store} {d : D} {sg : Nat}, tyOf S d = some (tyD d) → isX d = false → (∀ s, d = .str s → s.length ≤ 100000) → sg ≤ 3 → Ok (call [d, .int sg] S) (fun v S' => v = .bl (logS sg d) ∧ Keep S S' []) X0
theorem isint_ok {C : Cfg} : IsIntSpec (runFn ⟨3, 3, bIsInt⟩ C) := by
  intro S d lo hi h1 h2
  rw [ok_run]
  refine ⟨rfl, ?_⟩
  show OkS (bIsInt C [some d, some (.int lo), some (.int hi)] S) _
  unfold bIsInt
  rw [oks_ret]
  have hi' : ∀ (t : Ty) (Q : D → Store → Prop), OkP (opIsA t d S) Q = Q (.bl ((tyD d).le t)) S := fun t Q => by
    unfold opIsA; rw [h1]; rfl
  cases d with
  | int i =>
    simp [hi', tyD, Ty.le, isIntD]
    by_cases z1 : i < lo
    · have : ¬ lo ≤ i := by omega
      simp [z1, this]
    · have : lo ≤ i := by omega
      by_cases z2 : hi < i
      · have z3 : ¬ i ≤ hi := by omega
        simp [z1, this, z2, z3]
      · have z3 : i ≤ hi := by omega
        simp [z1, this, z2, z3]
  | _ => simp [h2, hi', tyD, Ty.le, isIntD]
theorem cut_abcN {sg : Nat} (h : sg ≤ 3) : cut [97, 98, 99] none (some (sg : Int)) = abcN sg := by
  rw [cut_take (by omega)]
  simp [abcN]
def inDN (sg : Nat) : D → D
  | .str [c] => .bl (decide (c ∈ abcN sg))
  | _ => .non
theorem inDN_map (sg : Nat) (s : List Nat) : (sgn s).map (inDN sg) = (s.map fun c => decide (c ∈ abcN sg)).map D.bl := by
  unfold sgn
  rw [List.map_map, List.map_map]; rfl
theorem islog_ok {C : Cfg} : IsLogSpec (runFn ⟨2, 3, bIsLog⟩ C) := by
  intro S d sg h1 h2 hl h3
  rw [ok_run]
  refine ⟨rfl, ?_⟩
  show OkS (bIsLog C [some d, some (.int sg), none] S) _
  unfold bIsLog
  rw [oks_ret]
  have hi' : ∀ (t : Ty) (Q : D → Store → Prop), OkP (opIsA t d S) Q = Q (.bl ((tyD d).le t)) S := fun t Q => by
    unfold opIsA; rw [h1]; rfl
  cases d with
  | str s =>
    have hs := hl s rfl
    simp [hi', tyD, Ty.le, ok_lc, wipe]
    refine Ok.imp (lc_map (inDN sg) (xs := sgn s) (by rw [sgn_len]; omega) fun j d S2 hd2 k2 => ?_) ?_
    · obtain ⟨c, hc, rfl⟩ := sgn_at hd2
      refine ⟨_, by simp; rfl, ?_⟩
      simp [cut_abcN h3]
      exact ⟨by decide, rfl, Keep.refl⟩
    · rintro _ S2 ⟨g, kp⟩
      rw [inDN_map] at g
      rw [p_all g]
      refine ⟨?_, kp⟩
      rw [List.all_map]
      rfl
  | _ =>
    simp [h2, hi', tyD, Ty.le, logS]
    exact Keep.refl
def inR (st : Nat) (s : Int) : Prop := 0 ≤ s ∧ s < st
instance {st : Nat} {s : Int} : Decidable (inR st s) := by unfold inR; exact inferInstance
theorem isInt_inR {st : Nat} {s : Int} : isIntD 0 ((st : Int) - 1) (.int s) = decide (inR st s) := by
  show decide (0 ≤ s ∧ s ≤ (st : Int) - 1) = decide (inR st s)
  exact decide_eq_decide.mpr ⟨fun h => ⟨h.1, by have := h.2; omega⟩, fun h => ⟨h.1, by have := h.2; omega⟩⟩
def ReqSpec (call : List D → M D) : Prop := ∀ {S : Store} {n a b c sg st : Nat} {kept : List Ed} {first last : List Int} {s : Int}, Mach S n a b c sg st kept first last →
  Ok (call [.ref n, .int s] S) (fun v S' => v = .non ∧ inR st s ∧ S' = S) (fun k fs S' => ¬ inR st s ∧ k = 5 ∧ fs = [(3, .int s)] ∧ S' = S)
theorem req_ok {C : Cfg} {ii : Nat} (hi : IsIntSpec (C.call ii)) : ReqSpec (runFn ⟨2, 2, bReqState ii⟩ C) := by
  intro S n a b c sg st kept first last s m
  rw [ok_run]
  refine ⟨rfl, ?_⟩
  show OkS (bReqState ii C [some (.ref n), some (.int s)] S) _
  unfold bReqState
  rw [oks_if]
  simp
  rw [p_fld m.hn rfl (d := .int st) rfl]
  simp
  refine (hi (d := .int s) (S := S) rfl rfl).imp fun v S1 ⟨e, e2⟩ => ?_
  subst e; subst e2
  rw [isInt_inR]
  simp [truth]
  by_cases h : inR st s
  · first | refine .inl ⟨h, ?_⟩ | refine .inr ⟨h, ?_⟩
    rw [oks_pass]
    exact ⟨h, rfl⟩
  · first | refine .inl ⟨h, ?_⟩ | refine .inr ⟨h, ?_⟩
    rw [oks_raise]
    simp
    exact h
def addR (sg st : Nat) (kept : List Ed) (e : Ed) : Option (Nat × Nat × D) :=
  if ¬ inR st e.1 then some (5, 3, .int e.1) else if ¬ inR st e.2.2 then some (5, 3, .int e.2.2) else if ¬ (logS sg (.str e.2.1) = true ∧ e.2.1.length = 1) then some (0, 0, .str e.2.1)
  else if e ∈ kept then some (9, 4, eD e) else if kept.length = 14 then some (11, 6, .int 14) else none
def AddSpec (call : List D → M D) : Prop := ∀ {S : Store} {n a b c sg st : Nat} {kept : List Ed} {first last : List Int} {e : Ed}, Mach S n a b c sg st kept first last → sg ≤ 3 → kept.length ≤ 1000 → e.2.1.length ≤ 1000 →
  Ok (call [.ref n, .int e.1, .str e.2.1, .int e.2.2] S) (fun v S' => v = .non ∧ addR sg st kept e = none ∧ Keep S S' [a] ∧ Mach S' n a b c sg st (kept ++ [e]) first last)
    (fun k fs S' => ∃ f d, addR sg st kept e = some (k, f, d) ∧ fs = [(f, d)] ∧ Keep S S' [])
theorem add_ok {C : Cfg} {rq il : Nat} (hr : ReqSpec (C.call rq)) (hl : IsLogSpec (C.call il)) : AddSpec (runFn ⟨4, 5, bAddEdge rq il⟩ C) := by
  intro S n a b c sg st kept first last e m h3 hk hs
  obtain ⟨o, s, t⟩ := e
  simp only at hs
  rw [ok_run]
  refine ⟨rfl, ?_⟩
  show OkS (bAddEdge rq il C [some (.ref n), some (.int o), some (.str s), some (.int t), none] S) _
  unfold bAddEdge
  have lt := m.lt
  have ne2 := m.ne2
  have ne1 := m.ne
  rw [oks_seq, oks_expr]
  simp [meth_at m.hn]
  refine (hr m).mono (fun v S1 ⟨e, h1, e2⟩ => ?_) (fun k fs S1 ⟨h1, e1, e2, e3⟩ => ?_)
  · subst e; subst e2
    rw [oks_seq, oks_expr]
    simp [meth_at m.hn]
    refine (hr m).mono (fun v S1 ⟨e, h2, e2⟩ => ?_) (fun k fs S1 ⟨h2, e1, e2, e3⟩ => ?_)
    · subst e; subst e2
      rw [oks_seq, oks_if]
      simp
      rw [p_fld m.hn rfl (d := .int sg) rfl]
      refine (hl (S := S1) (d := .str s) rfl rfl (fun s' e => by cases e; omega) h3).imp fun v S2 ⟨e, k2⟩ => ?_
      subst e
      have m2 := m.keep k2 (by simp) (by simp) (by simp) (by simp)
      have zl : s.length ≤ line := by unfold line; omega
      simp [truth, zl]
      by_cases h4 : logS sg (.str s) = true ∧ s.length = 1
      · have e0 : addR sg st kept (o, s, t) = if (o, s, t) ∈ kept then some (9, 4, eD (o, s, t)) else if kept.length = 14 then some (11, 6, .int 14) else none := by
          unfold addR
          rw [if_neg (by simpa using h1), if_neg (by simpa using h2), if_neg (by simpa using h4)]
        have hlen : ((s.length : Int) = 1) := by omega
        first | refine .inl ⟨h4.1, .inl ⟨hlen, ?_⟩⟩ | refine .inl ⟨h4.1, .inr ⟨hlen, ?_⟩⟩ | refine .inr ⟨h4.1, .inl ⟨hlen, ?_⟩⟩ | refine .inr ⟨h4.1, .inr ⟨hlen, ?_⟩⟩
        rw [oks_pass]
        dsimp only
        rw [oks_seq, oks_set]
        simp
        refine ⟨by decide, ?_⟩
        have eE : D.tup [.int o, .str s, .int t] = eD (o, s, t) := rfl
        rw [oks_seq, oks_if]
        simp
        rw [p_fld m2.hn rfl (d := .ref a) rfl, eE, p_inE m2.ha]
        simp
        by_cases h5 : (o, s, t) ∈ kept
        · first | refine .inl ⟨h5, ?_⟩ | refine .inr ⟨h5, ?_⟩
          rw [oks_raise]
          simp
          rw [e0, if_pos h5]
          exact ⟨rfl, 4, eD (o, s, t), rfl, ⟨rfl, rfl⟩, k2⟩
        · first | refine .inl ⟨h5, ?_⟩ | refine .inr ⟨h5, ?_⟩
          rw [oks_pass]
          dsimp only
          rw [oks_seq, oks_if]
          simp
          rw [p_fld m2.hn rfl (d := .ref a) rfl, p_len m2.ha]
          simp
          by_cases h6 : kept.length = 14
          · have h6' : (kept.length : Int) = 14 := by omega
            first | refine .inl ⟨h6', ?_⟩ | refine .inr ⟨h6', ?_⟩
            rw [oks_raise]
            simp
            rw [e0, if_neg h5, if_pos h6]
            exact ⟨6, .int 14, rfl, ⟨rfl, rfl⟩, k2⟩
          · have h6' : ¬ (kept.length : Int) = 14 := by omega
            first | refine .inl ⟨h6', ?_⟩ | refine .inr ⟨h6', ?_⟩
            rw [oks_pass]
            dsimp only
            rw [oks_expr]
            simp
            rw [p_fld m2.hn rfl (d := .ref a) rfl]
            have ht := tyLst_of m2.ha
            have lt2 := m2.lt
            refine ⟨ht, ?_⟩
            rw [p_append m2.ha]
            refine ⟨rfl, by rw [List.length_map]; unfold line; omega, by rw [e0, if_neg h5, if_neg h6], (k2.weak (by simp)).trans (Keep.set _ lt2.2.1 (by simp)), ?_⟩
            refine ⟨?_, ?_, ?_, ?_, ne1⟩
            · rw [Store.get_set_ne _ lt2.2.1 (by omega)]; exact m2.hn
            · rw [Store.get_set_same _ lt2.2.1]
              simp [eE]
            · rw [Store.get_set_ne _ lt2.2.1 (by omega)]; exact m2.hb
            · rw [Store.get_set_ne _ lt2.2.1 (by omega)]; exact m2.hc
      · have e0 : addR sg st kept (o, s, t) = some (0, 0, .str s) := by
          unfold addR
          rw [if_neg (by simpa using h1), if_neg (by simpa using h2), if_pos (by simpa using h4)]
        have go : OkS (sRaise 0 [0] (aCons (eVar 2) aNil) C [some (.ref n), some (.int o), some (.str s), some (.int t), none] S2)
            { nx := fun _ _ => False, rt := fun _ _ => False, ex := fun k fs x S' => ∃ f d, addR sg st kept (o, s, t) = some (k, f, d) ∧ fs = [(f, d)] ∧ Keep S1 S' [] } := by
          rw [oks_raise]
          simp
          rw [e0]
          exact ⟨0, .str s, rfl, ⟨rfl, rfl⟩, k2⟩
        have go' := fun T' => go.mono (T' := T') (fun _ _ z => z.elim) (fun _ _ z => z.elim) (fun _ _ z => z.elim) (fun _ _ z => z.elim)
        by_cases h5 : logS sg (.str s) = true
        · have h6 : ¬ ((s.length : Int) = 1) := fun z => h4 ⟨h5, by omega⟩
          first | refine .inl ⟨h5, .inl ⟨h6, go' _ fun _ _ _ _ z => z⟩⟩ | refine .inl ⟨h5, .inr ⟨h6, go' _ fun _ _ _ _ z => z⟩⟩ | refine .inr ⟨h5, .inl ⟨h6, go' _ fun _ _ _ _ z => z⟩⟩ | refine .inr ⟨h5, .inr ⟨h6, go' _ fun _ _ _ _ z => z⟩⟩
        · have h5' : logS sg (.str s) = false := by simpa using h5
          first | refine .inl ⟨h5', go' _ fun _ _ _ _ z => z⟩ | refine .inr ⟨h5', go' _ fun _ _ _ _ z => z⟩
    · subst e1; subst e2; subst e3
      refine ⟨3, .int t, ?_, rfl, Keep.refl⟩
      unfold addR
      rw [if_neg (by simpa using h1), if_pos (by simpa using h2)]
  · subst e1; subst e2; subst e3
    refine ⟨3, .int o, ?_, rfl, Keep.refl⟩
    unfold addR
    rw [if_pos (by simpa using h1)]
def RemSpec (call : List D → M D) : Prop := ∀ {S : Store} {n a b c sg st : Nat} {kept : List Ed} {first last : List Int} {e : Ed}, Mach S n a b c sg st kept first last →
  Ok (call [.ref n, .int e.1, .str e.2.1, .int e.2.2] S) (fun v S' => v = .non ∧ e ∈ kept ∧ Keep S S' [a] ∧ Mach S' n a b c sg st (kept.erase e) first last)
    (fun k fs S' => e ∉ kept ∧ k = 6 ∧ fs = [(4, eD e)] ∧ S' = S)
theorem rem_ok {C : Cfg} : RemSpec (runFn ⟨4, 5, bRemEdge⟩ C) := by
  intro S n a b c sg st kept first last e m
  obtain ⟨o, s, t⟩ := e
  rw [ok_run]
  refine ⟨rfl, ?_⟩
  show OkS (bRemEdge C [some (.ref n), some (.int o), some (.str s), some (.int t), none] S) _
  unfold bRemEdge
  have lt := m.lt
  have ne2 := m.ne2
  have ne1 := m.ne
  rw [oks_seq, oks_set]
  simp
  refine ⟨by decide, ?_⟩
  have eE : D.tup [.int o, .str s, .int t] = eD (o, s, t) := rfl
  rw [oks_seq, oks_if]
  simp
  rw [p_fld m.hn rfl (d := .ref a) rfl, eE, p_notinE m.ha]
  simp
  by_cases h5 : (o, s, t) ∈ kept
  · first | refine .inl ⟨h5, ?_⟩ | refine .inr ⟨h5, ?_⟩
    rw [oks_pass]
    dsimp only
    rw [oks_expr]
    simp
    rw [p_fld m.hn rfl (d := .ref a) rfl]
    have ht := tyLst_of m.ha
    refine ⟨ht, ?_⟩
    rw [p_removeE m.ha h5]
    refine ⟨rfl, h5, Keep.set _ lt.2.1 (by simp), ?_, ?_, ?_, ?_, ne1⟩
    · rw [Store.get_set_ne _ lt.2.1 (by omega)]; exact m.hn
    · rw [Store.get_set_same _ lt.2.1]
    · rw [Store.get_set_ne _ lt.2.1 (by omega)]; exact m.hb
    · rw [Store.get_set_ne _ lt.2.1 (by omega)]; exact m.hc
  · first | refine .inl ⟨h5, ?_⟩ | refine .inr ⟨h5, ?_⟩
    rw [oks_raise]
    simp
    exact ⟨rfl, h5⟩
def EdgesSpec (call : List D → M D) : Prop := ∀ {S : Store} {n a b c sg st : Nat} {kept : List Ed} {first last : List Int}, Mach S n a b c sg st kept first last →
  Ok (call [.ref n] S) (fun v S' => v = .tup ((sortE kept).map eD) ∧ Keep S S' []) X0
theorem edges_ok {C : Cfg} : EdgesSpec (runFn ⟨1, 1, bEdges⟩ C) := by
  intro S n a b c sg st kept first last m
  rw [ok_run]
  refine ⟨rfl, ?_⟩
  show OkS (bEdges C [some (.ref n)] S) _
  unfold bEdges
  rw [oks_ret]
  simp
  rw [p_fld m.hn rfl (d := .ref a) rfl, p_sortE m.ha]
  have g : (S.push (.lst ((sortE kept).map eD))).get S.size = some (.lst ((sortE kept).map eD)) := Store.get_push_same _ _
  rw [p_tuple g]
  exact ⟨rfl, Keep.push _⟩
def InitSpec (call : List D → M D) : Prop := ∀ {S : Store} {n : Nat} {dk dn : D}, S.get n = some (.ins 12 []) → tyOf S dk = some (tyD dk) → isX dk = false → tyOf S dn = some (tyD dn) → isX dn = false →
  Ok (call [.ref n, dk, dn] S) (fun v S' => v = .non ∧ isIntD 1 3 dk = true ∧ isIntD 1 6 dn = true ∧ ∃ sg st a b c : Nat, dk = .int sg ∧ dn = .int st ∧ (S.size ≤ a ∧ S.size ≤ b ∧ S.size ≤ c) ∧ Mach S' n a b c sg st [] [] [] ∧ Keep S S' [n])
    (fun k fs S' => k = 11 ∧ ((isIntD 1 3 dk = false ∧ fs = [(6, .int 3)]) ∨ (isIntD 1 3 dk = true ∧ isIntD 1 6 dn = false ∧ fs = [(6, .int 6)])) ∧ S' = S)
theorem int_of {lo hi : Int} {d : D} (h : isIntD lo hi d = true) (h0 : 0 ≤ lo) : ∃ m : Nat, d = .int m ∧ lo ≤ m ∧ m ≤ hi := by
  unfold isIntD at h
  split at h
  · rename_i i
    have h := of_decide_eq_true h
    exact ⟨i.toNat, by congr 1; omega, by omega, by omega⟩
  · cases h
theorem init_ok {C : Cfg} {ii : Nat} (hi : IsIntSpec (C.call ii)) : InitSpec (runFn ⟨3, 3, bMachInit ii⟩ C) := by
  intro S n dk dn hg tk xk tn xn
  rw [ok_run]
  refine ⟨rfl, ?_⟩
  show OkS (bMachInit ii C [some (.ref n), some dk, some dn] S) _
  unfold bMachInit
  rw [oks_seq, oks_if]
  simp [xk]
  refine (hi tk xk).imp fun v S1 ⟨e, e2⟩ => ?_
  subst e; subst e2
  simp [truth]
  cases h1 : isIntD 1 3 dk with
  | false =>
    first | refine .inl ⟨rfl, ?_⟩ | refine .inr ⟨rfl, ?_⟩
    rw [oks_raise]
    simp
  | true =>
    first | refine .inl ⟨rfl, ?_⟩ | refine .inr ⟨rfl, ?_⟩
    rw [oks_pass]
    dsimp only
    rw [oks_seq, oks_if]
    simp [xn]
    refine (hi tn xn).imp fun v S2 ⟨e, e2⟩ => ?_
    subst e; subst e2
    simp [truth]
    cases h2 : isIntD 1 6 dn with
    | false =>
      first | refine .inl ⟨rfl, ?_⟩ | refine .inr ⟨rfl, ?_⟩
      rw [oks_raise]
      simp
    | true =>
      first | refine .inl ⟨rfl, ?_⟩ | refine .inr ⟨rfl, ?_⟩
      rw [oks_pass]
      dsimp only
      obtain ⟨sg, rfl, _, _⟩ := int_of h1 (by decide)
      obtain ⟨st, rfl, _, _⟩ := int_of h2 (by decide)
      have hn := Store.get_lt hg
      rw [oks_seq, oks_fld]
      simp
      rw [p_putFld hg rfl (by decide)]
      have g1 : (S2.set n (.ins 12 [(7, .int sg)])).get n = some (.ins 12 [(7, .int sg)]) := Store.get_set_same _ hn
      have k1 : Keep S2 (S2.set n (.ins 12 [(7, .int sg)])) [n] := Keep.set _ hn (by simp)
      have s1 : (S2.set n (.ins 12 [(7, .int sg)])).size = S2.size := rfl
      show OkS _ _
      rw [show fput 7 (D.int sg) [] = [(7, .int sg)] from rfl]
      generalize S2.set n (.ins 12 [(7, .int sg)]) = A1 at g1 k1 s1
      rw [oks_seq, oks_fld]
      simp
      rw [p_putFld g1 rfl (by simp)]
      rw [show fput 8 (D.int st) [(7, .int sg)] = [(7, .int sg), (8, .int st)] from rfl]
      have g2 : (A1.set n (.ins 12 [(7, .int sg), (8, .int st)])).get n = some (.ins 12 [(7, .int sg), (8, .int st)]) := Store.get_set_same _ (by omega)
      have k2 : Keep A1 (A1.set n (.ins 12 [(7, .int sg), (8, .int st)])) [n] := Keep.set _ (by omega) (by simp)
      have s2 : (A1.set n (.ins 12 [(7, .int sg), (8, .int st)])).size = S2.size := s1
      generalize A1.set n (.ins 12 [(7, .int sg), (8, .int st)]) = A2 at g2 k2 s2
      rw [oks_seq, oks_fld]
      simp
      have g3 : (A2.push (.lst [])).get n = some (.ins 12 [(7, .int sg), (8, .int st)]) := Store.get_push_of g2
      have ga3 : (A2.push (.lst [])).get A2.size = some (.lst []) := Store.get_push_same _ _
      have k3 : Keep A2 (A2.push (.lst [])) [n] := Keep.push _
      have s3 : (A2.push (.lst [])).size = S2.size + 1 := by show A2.size + 1 = _; omega
      generalize A2.push (.lst []) = A3 at g3 ga3 k3 s3
      rw [p_putFld g3 rfl (by simp), s2]
      rw [s2] at ga3
      rw [show fput 9 (D.ref S2.size) [(7, .int sg), (8, .int st)] = [(7, .int sg), (8, .int st), (9, .ref S2.size)] from rfl]
      have g4 : (A3.set n (.ins 12 [(7, .int sg), (8, .int st), (9, .ref S2.size)])).get n = some (.ins 12 [(7, .int sg), (8, .int st), (9, .ref S2.size)]) := Store.get_set_same _ (by omega)
      have ga4 : (A3.set n (.ins 12 [(7, .int sg), (8, .int st), (9, .ref S2.size)])).get S2.size = some (.lst []) := by rw [Store.get_set_ne _ (by omega) (by omega)]; exact ga3
      have k4 : Keep A3 (A3.set n (.ins 12 [(7, .int sg), (8, .int st), (9, .ref S2.size)])) [n] := Keep.set _ (by omega) (by simp)
      have s4 : (A3.set n (.ins 12 [(7, .int sg), (8, .int st), (9, .ref S2.size)])).size = S2.size + 1 := s3
      generalize A3.set n (.ins 12 [(7, .int sg), (8, .int st), (9, .ref S2.size)]) = A4 at g4 ga4 k4 s4
      rw [oks_seq, oks_fld]
      simp
      have g5 : (A4.push (.lst [])).get n = some (.ins 12 [(7, .int sg), (8, .int st), (9, .ref S2.size)]) := Store.get_push_of g4
      have ga5 : (A4.push (.lst [])).get S2.size = some (.lst []) := Store.get_push_of ga4
      have gb5 : (A4.push (.lst [])).get A4.size = some (.lst []) := Store.get_push_same _ _
      have k5 : Keep A4 (A4.push (.lst [])) [n] := Keep.push _
      have s5 : (A4.push (.lst [])).size = S2.size + 2 := by show A4.size + 1 = _; omega
      generalize A4.push (.lst []) = A5 at g5 ga5 gb5 k5 s5
      rw [p_putFld g5 rfl (by simp), s4]
      rw [s4] at gb5
      rw [show fput 10 (D.ref (S2.size + 1)) [(7, .int sg), (8, .int st), (9, .ref S2.size)] = [(7, .int sg), (8, .int st), (9, .ref S2.size), (10, .ref (S2.size + 1))] from rfl]
      have g6 : (A5.set n (.ins 12 [(7, .int sg), (8, .int st), (9, .ref S2.size), (10, .ref (S2.size + 1))])).get n = some (.ins 12 [(7, .int sg), (8, .int st), (9, .ref S2.size), (10, .ref (S2.size + 1))]) := Store.get_set_same _ (by omega)
      have ga6 : (A5.set n (.ins 12 [(7, .int sg), (8, .int st), (9, .ref S2.size), (10, .ref (S2.size + 1))])).get S2.size = some (.lst []) := by rw [Store.get_set_ne _ (by omega) (by omega)]; exact ga5
      have gb6 : (A5.set n (.ins 12 [(7, .int sg), (8, .int st), (9, .ref S2.size), (10, .ref (S2.size + 1))])).get (S2.size + 1) = some (.lst []) := by rw [Store.get_set_ne _ (by omega) (by omega)]; exact gb5
      have k6 : Keep A5 (A5.set n (.ins 12 [(7, .int sg), (8, .int st), (9, .ref S2.size), (10, .ref (S2.size + 1))])) [n] := Keep.set _ (by omega) (by simp)
      have s6 : (A5.set n (.ins 12 [(7, .int sg), (8, .int st), (9, .ref S2.size), (10, .ref (S2.size + 1))])).size = S2.size + 2 := s5
      generalize A5.set n (.ins 12 [(7, .int sg), (8, .int st), (9, .ref S2.size), (10, .ref (S2.size + 1))]) = A6 at g6 ga6 gb6 k6 s6
      rw [oks_fld]
      simp
      have g7 : (A6.push (.lst [])).get n = some (.ins 12 [(7, .int sg), (8, .int st), (9, .ref S2.size), (10, .ref (S2.size + 1))]) := Store.get_push_of g6
      have ga7 : (A6.push (.lst [])).get S2.size = some (.lst []) := Store.get_push_of ga6
      have gb7 : (A6.push (.lst [])).get (S2.size + 1) = some (.lst []) := Store.get_push_of gb6
      have gc7 : (A6.push (.lst [])).get A6.size = some (.lst []) := Store.get_push_same _ _
      have k7 : Keep A6 (A6.push (.lst [])) [n] := Keep.push _
      have s7 : (A6.push (.lst [])).size = S2.size + 3 := by show A6.size + 1 = _; omega
      generalize A6.push (.lst []) = A7 at g7 ga7 gb7 gc7 k7 s7
      rw [p_putFld g7 rfl (by simp), s6]
      rw [s6] at gc7
      rw [show fput 11 (D.ref (S2.size + 2)) [(7, .int sg), (8, .int st), (9, .ref S2.size), (10, .ref (S2.size + 1))] = [(7, .int sg), (8, .int st), (9, .ref S2.size), (10, .ref (S2.size + 1)), (11, .ref (S2.size + 2))] from rfl]
      refine ⟨sg, rfl, st, rfl, S2.size, S2.size + 1, S2.size + 2, ⟨by omega, by omega, by omega⟩, ⟨?_, ?_, ?_, ?_, by omega, by omega, by omega⟩, ?_⟩
      · exact Store.get_set_same _ (by omega)
      · rw [Store.get_set_ne _ (by omega) (by omega)]; exact ga7
      · rw [Store.get_set_ne _ (by omega) (by omega)]; exact gb7
      · rw [Store.get_set_ne _ (by omega) (by omega)]; exact gc7
      · exact ((((((k1.trans k2).trans k3).trans k4).trans k5).trans k6).trans k7).trans (Keep.set _ (by omega) (by simp))
section
variable {S : Store} {C : Cfg} {σ : Slots} {T : Pt}
theorem lst_next {n : Nat} {xs : List D} {i : Nat} (h : S.get n = some (.lst xs)) : It.next S (.lst n) i = some xs[i]? := by
  unfold It.next lstAt
  simp only [h]
theorem for_lst {n : Nat} {xs : List D} {g : Tg} {b : MS} (hl : xs.length < turns) (I : Nat → Slots → Store → Prop) (at_ : ∀ i σ S, I i σ S → S.get n = some (.lst xs)) (h0 : I 0 σ S)
    (step : ∀ (i : Nat) (d : D) (σ : Slots) (S : Store), xs[i]? = some d → I i σ S → ∃ σ1, asg S g d σ = some σ1 ∧ OkS (b C σ1 S) { nx := I (i + 1), rt := T.rt, bk := T.nx, ct := I (i + 1), ex := T.ex })
    (done : ∀ σ S, I xs.length σ S → T.nx σ S) : OkS (forN (.lst n) g b C turns 0 σ S) T := by
  refine for_inv xs.length (fun i σ S => i ≤ xs.length ∧ I i σ S) (fun i σ S ⟨hi, h⟩ => ?_) turns 0 σ S ⟨Nat.zero_le _, h0⟩ (by omega)
  have hn := lst_next (i := i) (at_ i σ S h)
  by_cases e : i < xs.length
  · obtain ⟨σ1, h1, h2⟩ := step i xs[i] σ S (List.getElem?_eq_getElem e) h
    refine .inr ⟨xs[i], σ1, e, by rw [hn, List.getElem?_eq_getElem e], h1, ?_⟩
    exact h2.mono (fun σ S z => ⟨e, z⟩) (fun _ _ z => z) (fun _ _ z => z) (fun σ S z => ⟨e, z⟩) fun _ _ _ _ z => z
  · have e' : i = xs.length := by omega
    subst e'
    exact .inl ⟨Nat.le_refl _, by rw [hn, List.getElem?_eq_none (Nat.le_refl _)], done σ S h⟩
theorem lc_fml {n : Nat} {e : ME} {g : Tg} {c : MT} {xs : List D} (p : D → Bool) (f : D → D) (hg : S.get n = some (.lst xs)) (hl : xs.length ≤ 1000000)
    (step : ∀ (i : Nat) (d : D) (S' : Store), xs[i]? = some d → Keep S S' [] → ∃ σ1, asg S' g d σ = some σ1 ∧ Ok (c C σ1 S') (fun b S1 => b = p d ∧ Keep S' S1 [] ∧ (b = true → Ok (e C σ1 S1) (fun y S2 => y = f d ∧ Keep S1 S2 []) X0)) X0) :
    Ok (compN (.lst n) g c (emit e S.size C) C σ turns 0 (S.push (.lst []))) (fun _ S2 => S2.get S.size = some (.lst ((xs.filter p).map f)) ∧ Keep S S2 []) X0 := by
  have hn := Store.get_lt hg
  refine comp_inv (Q := fun S2 => S2.get S.size = some (.lst ((xs.filter p).map f)) ∧ Keep S S2 []) xs.length (fun i S' => i ≤ xs.length ∧ S'.get S.size = some (.lst (((xs.take i).filter p).map f)) ∧ Keep S S' []) (fun i S' ⟨hi, g, k⟩ => ?_) turns 0 _ ⟨Nat.zero_le _, Store.get_push_same _ _, Keep.push _⟩ (by unfold turns; omega)
  have hx := lst_next (i := i) (k.get hg (by simp))
  by_cases e1 : i < xs.length
  · have hd : xs[i]? = some xs[i] := List.getElem?_eq_getElem e1
    obtain ⟨σ1, h1, h2⟩ := step i xs[i] S' hd k
    refine .inr ⟨xs[i], σ1, e1, by rw [hx, hd], h1, h2.imp fun b S1 ⟨eb, k1, h3⟩ => ?_⟩
    have ht : xs.take (i + 1) = xs.take i ++ [xs[i]] := by rw [List.take_succ, hd]; rfl
    have g1 := k1.get g (by simp)
    rw [ht, List.filter_append, List.map_append]
    have hz : (((xs.take i).filter p).map f).length ≤ i := by
      rw [List.length_map]
      exact Nat.le_trans (List.length_filter_le _ _) (by rw [List.length_take]; omega)
    cases b with
    | false =>
      have e2 : [xs[i]].filter p = [] := by simp [← eb]
      rw [e2, List.map_nil, List.append_nil]
      exact ⟨e1, g1, k.trans k1⟩
    | true =>
      have e2 : [xs[i]].filter p = [xs[i]] := by simp [← eb]
      rw [if_pos rfl, e2, ok_emit]
      refine (h3 rfl).imp fun y S2 ⟨e3, k2⟩ => ?_
      subst e3
      have g2 := k2.get g1 (by simp)
      exact ⟨_, g2, by unfold line; omega, e1, Store.get_set_same _ (Store.get_lt g2), ((k.trans k1).trans k2).set_new _ (Nat.le_refl _) (Store.get_lt g2)⟩
  · have e' : i = xs.length := by omega
    subst e'
    refine .inl ⟨Nat.le_refl _, by rw [hx, List.getElem?_eq_none (Nat.le_refl _)], ?_, k⟩
    rw [List.take_length] at g
    exact g
end
end MP
namespace MP
open PySem (PyData)
section
variable {S : Store} {Q : D → Store → Prop} {C : Cfg} {σ : Slots} {T : Pt} {E : Nat → Fs → Store → Prop}
theorem ok_emitD {k v : ME} {n : Nat} {Q : Store → Prop} : Ok (emitD k v n C σ S) (fun _ S' => Q S') X0 = Ok (k C σ S) (fun x S1 => Ok (v C σ S1) (fun y S2 => ∃ kvs, S2.get n = some (.dct kvs) ∧ (keyFits x kvs && decide (kvs.length < line)) = true ∧ Q (S2.set n (.dct (dput x y kvs)))) X0) X0 := by
  unfold emitD
  cases k C σ S with
  | bad => rfl
  | ex c fs S' => rfl
  | ok x S1 =>
    show Ok (match v C σ S1 with
      | .ok y S2 => (match S2.get n with
        | some (.dct kvs) => if (keyFits x kvs && decide (kvs.length < line)) = true then .ok () (S2.set n (.dct (dput x y kvs))) else .bad
        | _ => .bad)
      | _ => .bad) _ _ = Ok (v C σ S1) _ _
    cases v C σ S1 with
    | bad => rfl
    | ex c fs S' => rfl
    | ok y S2 =>
      show Ok (match S2.get n with
        | some (.dct kvs) => if (keyFits x kvs && decide (kvs.length < line)) = true then .ok () (S2.set n (.dct (dput x y kvs))) else .bad
        | _ => .bad) _ _ = ∃ kvs, S2.get n = some (.dct kvs) ∧ (keyFits x kvs && decide (kvs.length < line)) = true ∧ Q (S2.set n (.dct (dput x y kvs)))
      cases S2.get n with
      | none => simp [Ok]
      | some o =>
        cases o with
        | dct kvs =>
          by_cases h : (keyFits x kvs && decide (kvs.length < line)) = true
          · simp only [h, if_true, Option.some.injEq, Ob.dct.injEq, exists_eq_left', true_and]; rfl
          · have e : ∀ kvs', some (Ob.dct kvs) = some (Ob.dct kvs') → kvs' = kvs := fun _ z => by cases z; rfl
            rw [Bool.not_eq_true] at h
            simp only [h, Bool.false_eq_true, if_false]
            show False = _
            refine (propext ⟨fun z => z.elim, fun ⟨kvs', z, z2, _⟩ => ?_⟩)
            rw [e kvs' z, h] at z2
            cases z2
        | _ => simp [Ok]
theorem ok_dc {k v : ME} {g : Tg} {t : MI} {c : MT} {own : List Nat} {Q} : Ok (eDc k v g t c own C σ S) Q E =
    Ok (t C σ S) (fun i S1 => Ok (compN i g c (emitD k v S1.size C) C (wipe σ own) turns 0 (S1.push (.dct []))) (fun _ S2 => Q (.ref S1.size) S2) X0) E := by
  show Ok (M.bind _ _ S) Q E = _
  rw [ok_bind]
  congr 1; funext i S1
  cases compN i g c (emitD k v S1.size C) C (wipe σ own) turns 0 (S1.push (.dct [])) <;> rfl
section
variable {α : Type} [DecidableEq α]
def addK (l : List α) (x : α) : List α := if x ∈ l then l else l ++ [x]
def uk (l : List α) : List α := l.foldl addK []
theorem uk_snoc (l : List α) (x : α) : uk (l ++ [x]) = addK (uk l) x := by unfold uk; rw [List.foldl_append]; rfl
theorem mem_addK {l : List α} {x y : α} : y ∈ addK l x ↔ y ∈ l ∨ y = x := by
  unfold addK
  split
  · rename_i h
    exact ⟨.inl, fun z => z.elim id fun e => e ▸ h⟩
  · rw [List.mem_append, List.mem_singleton]
theorem nodup_addK {l : List α} (x : α) (h : l.Nodup) : (addK l x).Nodup := by
  unfold addK
  split
  · exact h
  · rename_i hn
    rw [List.nodup_append]
    exact ⟨h, by simp, fun a ha b hb => by
      rw [List.mem_singleton] at hb
      subst hb
      exact fun e => hn (e ▸ ha)⟩
theorem foldl_addK (l : List α) : ∀ acc : List α, (∀ y, y ∈ l.foldl addK acc ↔ y ∈ acc ∨ y ∈ l) ∧ (acc.Nodup → (l.foldl addK acc).Nodup) := by
  induction l with
  | nil => exact fun acc => ⟨fun y => by simp, fun h => h⟩
  | cons x r ih =>
    intro acc
    obtain ⟨h1, h2⟩ := ih (addK acc x)
    refine ⟨fun y => ?_, fun h => h2 (nodup_addK x h)⟩
    show y ∈ r.foldl addK (addK acc x) ↔ _
    rw [h1, mem_addK, List.mem_cons, or_assoc]
theorem mem_uk {l : List α} {y : α} : y ∈ uk l ↔ y ∈ l := by
  unfold uk
  rw [(foldl_addK l []).1]; simp
theorem nodup_uk (l : List α) : (uk l).Nodup := (foldl_addK l []).2 List.nodup_nil
theorem len_addK {l : List α} {x : α} : (addK l x).length ≤ l.length + 1 := by
  unfold addK
  split
  · omega
  · rw [List.length_append, List.length_singleton]; omega
theorem len_uk (l : List α) : (uk l).length ≤ l.length := by
  have h : ∀ (l acc : List α), (l.foldl addK acc).length ≤ acc.length + l.length := by
    intro l
    induction l with
    | nil => intro acc; simp
    | cons x r ih =>
      intro acc
      have := ih (addK acc x)
      have := len_addK (l := acc) (x := x)
      rw [List.length_cons]
      show (r.foldl addK (addK acc x)).length ≤ _
      omega
  have := h l []
  simpa [uk] using this
structure KeyD (kd : α → D) : Prop where
  eq : ∀ a b, D.beq (kd a) (kd b) = decide (a = b)
  fit : ∀ a l, keyFits (kd a) l = true
theorem keyI : KeyD D.int := ⟨fun a b => by unfold D.beq; rw [Bool.eq_iff_iff]; simp, fun _ _ => rfl⟩
def kt (kd : α → D) (ks : List α) : List (D × D) := ks.map fun a => (kd a, .bl true)
theorem kt_put {kd : α → D} (hk : KeyD kd) (ks : List α) (x : α) : dput (kd x) (.bl true) (kt kd ks) = kt kd (addK ks x) := by
  unfold dput kt addK
  have h : ((ks.map fun a => (kd a, D.bl true)).any fun p => D.beq p.1 (kd x)) = decide (x ∈ ks) := by
    rw [List.any_map, Bool.eq_iff_iff, List.any_eq_true, decide_eq_true_iff]
    exact ⟨fun ⟨y, h1, h2⟩ => by
      have h2 : D.beq (kd y) (kd x) = true := h2
      rw [hk.eq, decide_eq_true_iff] at h2
      exact h2 ▸ h1, fun h => ⟨x, h, by show D.beq (kd x) (kd x) = true; rw [hk.eq]; simp⟩⟩
  rw [h]
  by_cases hx : x ∈ ks
  · rw [if_pos (by simpa using hx), if_pos hx, List.map_map]
    refine List.map_congr_left fun a _ => ?_
    show (if D.beq (kd a) (kd x) = true then (kd a, D.bl true) else (kd a, D.bl true)) = _
    split <;> rfl
  · rw [if_neg (by simpa using hx), if_neg hx, List.map_append]; rfl
theorem kt_keys (kd : α → D) (ks : List α) : (kt kd ks).map (·.1) = ks.map kd := by unfold kt; rw [List.map_map]; rfl
theorem kt_len (kd : α → D) (ks : List α) : (kt kd ks).length = ks.length := by unfold kt; rw [List.length_map]
theorem dc_fm {it : It} {k : ME} {g : Tg} {c : MT} {xs : List D} {kd : α → D} (hk : KeyD kd) (p : D → Bool) (f : D → α) (hl : xs.length ≤ 1000000) (nx : ∀ S' i, Keep S S' [] → It.next S' it i = some xs[i]?)
    (step : ∀ (i : Nat) (d : D) (S' : Store), xs[i]? = some d → Keep S S' [] → ∃ σ1, asg S' g d σ = some σ1 ∧ Ok (c C σ1 S') (fun b S1 => b = p d ∧ Keep S' S1 [] ∧ (b = true → Ok (k C σ1 S1) (fun y S2 => y = kd (f d) ∧ Keep S1 S2 []) X0)) X0) :
    Ok (compN it g c (emitD k (eC (.bl true)) S.size C) C σ turns 0 (S.push (.dct []))) (fun _ S2 => S2.get S.size = some (.dct (kt kd (uk ((xs.filter p).map f)))) ∧ Keep S S2 []) X0 := by
  refine comp_inv (Q := fun S2 => S2.get S.size = some (.dct (kt kd (uk ((xs.filter p).map f)))) ∧ Keep S S2 []) xs.length (fun i S' => i ≤ xs.length ∧ S'.get S.size = some (.dct (kt kd (uk (((xs.take i).filter p).map f)))) ∧ Keep S S' []) (fun i S' ⟨hi, g, kp⟩ => ?_) turns 0 _ ⟨Nat.zero_le _, Store.get_push_same _ _, Keep.push _⟩ (by unfold turns; omega)
  have hx := nx S' i kp
  by_cases e1 : i < xs.length
  · have hd : xs[i]? = some xs[i] := List.getElem?_eq_getElem e1
    obtain ⟨σ1, h1, h2⟩ := step i xs[i] S' hd kp
    refine .inr ⟨xs[i], σ1, e1, by rw [hx, hd], h1, h2.imp fun b S1 ⟨e2, k1, h3⟩ => ?_⟩
    have ht : xs.take (i + 1) = xs.take i ++ [xs[i]] := by rw [List.take_succ, hd]; rfl
    have g1 := k1.get g (by simp)
    cases b with
    | false =>
      have e3 : [xs[i]].filter p = [] := by simp [← e2]
      rw [if_neg Bool.false_ne_true, ht, List.filter_append, List.map_append, e3, List.map_nil, List.append_nil]
      exact ⟨e1, g1, kp.trans k1⟩
    | true =>
      have e3 : [xs[i]].filter p = [xs[i]] := by simp [← e2]
      rw [if_pos rfl, ok_emitD]
      refine (h3 rfl).imp fun y S2 ⟨e4, k2⟩ => ?_
      subst e4
      simp only [ok_c]
      have g2 := k2.get g1 (by simp)
      refine ⟨_, g2, ?_, ?_⟩
      · rw [hk.fit, Bool.true_and, decide_eq_true_iff, kt_len]
        have h5 := len_uk (((xs.take i).filter p).map f)
        have h6 := List.length_filter_le p (xs.take i)
        rw [List.length_map] at h5
        rw [List.length_take] at h6
        unfold line
        omega
      · refine ⟨e1, ?_, ((kp.trans k1).trans k2).set_new _ (Nat.le_refl _) (Store.get_lt g2)⟩
        rw [Store.get_set_same _ (Store.get_lt g2), kt_put hk, ht, List.filter_append, List.map_append, e3]
        show _ = some (Ob.dct (kt kd (uk (List.map f (List.filter p (List.take i xs)) ++ [f xs[i]]))))
        rw [uk_snoc]
  · have e2 : i = xs.length := by omega
    refine .inl ⟨hi, by rw [hx, List.getElem?_eq_none (by omega)], ?_⟩
    rw [e2, List.take_length] at g
    exact ⟨g, kp⟩
end
theorem p_listK {α : Type} [DecidableEq α] {n : Nat} {kd : α → D} {ks : List α} {Q : D → Store → Prop} (h : S.get n = some (.dct (kt kd ks))) : OkP (bListX [.ref n] S) Q = Q (.ref S.size) (S.push (.lst (ks.map kd))) := by
  unfold bListX
  simp only [h]
  rw [kt_keys]; rfl
theorem snap_ints (S : Store) (k : Nat) (ns : List Int) : optAll (snap S (k + 1)) (intD ns) = some (ns.map PyData.int) := snap_int S k ns
theorem memD_ints (i : Int) : ∀ ns : List Int, memD (.int i) (ns.map PyData.int) = decide (i ∈ ns)
  | [] => by simp [memD]
  | n :: r => by
    rw [List.map_cons, memD, memD_ints i r]
    have : PyData.eqv (.int n) (.int i) = (n == i) := rfl
    rw [this, Bool.eq_iff_iff]
    simp
    exact ⟨fun h => h.elim (fun e => .inl e.symm) .inr, fun h => h.elim (fun e => .inl e.symm) .inr⟩
theorem p_inIT {i : Int} {ns : List Int} : OkP (opIn (.int i) (.tup (intD ns)) S) Q = Q (.bl (decide (i ∈ ns))) S := by
  have e : inD S (.int i) (.tup (intD ns)) = some (decide (i ∈ ns)) := by
    show (match snap S deep (.int i), snaps S deep (intD ns) with
      | some a, some bs => some (memD a bs)
      | _, _ => none) = _
    have e1 : snaps S deep (intD ns) = some (ns.map PyData.int) := snap_ints S 39 ns
    rw [e1]
    show some (memD (.int i) (ns.map PyData.int)) = _
    rw [memD_ints]
  unfold opIn
  rw [e]; rfl
theorem inD_IL {i : Int} {n : Nat} {ns : List Int} (h : S.get n = some (.lst (intD ns))) : inD S (.int i) (.ref n) = some (decide (i ∈ ns)) := by
  have e1 : snaps S deep (intD ns) = some (ns.map PyData.int) := snap_ints S 39 ns
  have e2 : snap S deep (.int i) = some (.int i) := rfl
  simp only [inD, lstAt, h, e1, e2, memD_ints]
theorem p_inIL {i : Int} {n : Nat} {ns : List Int} (h : S.get n = some (.lst (intD ns))) : OkP (opIn (.int i) (.ref n) S) Q = Q (.bl (decide (i ∈ ns))) S := by
  unfold opIn
  rw [inD_IL h]; rfl
theorem p_notinIL {i : Int} {n : Nat} {ns : List Int} (h : S.get n = some (.lst (intD ns))) : OkP (opNotIn (.int i) (.ref n) S) Q = Q (.bl (!decide (i ∈ ns))) S := by
  unfold opNotIn
  rw [inD_IL h]; rfl
theorem asc_sort {l : List Int} (h : l.Nodup) : l.mergeSort leI = sortU l := by
  have s1 : (l.mergeSort leI).Pairwise fun a b => leI a b = true := List.pairwise_mergeSort (fun a b c h1 h2 => by
    unfold leI at *
    simp only [decide_eq_true_eq] at *
    omega) (fun a b => by
    unfold leI
    simp only [Bool.or_eq_true, decide_eq_true_eq]
    omega) l
  have pm := List.mergeSort_perm l leI
  have nd : (l.mergeSort leI).Nodup := pm.nodup_iff.mpr h
  refine asc_unique ?_ (asc_sortU l) fun x => by rw [pm.mem_iff, mem_sortU]
  have nd' : (l.mergeSort leI).Pairwise fun a b => a ≠ b := nd
  refine (s1.and nd').imp fun {a b} ⟨h1, h2⟩ => ?_
  unfold leI at h1
  have := of_decide_eq_true h1
  omega
theorem sortU_ext {l m : List Int} (h : ∀ x, x ∈ l ↔ x ∈ m) : sortU l = sortU m := asc_unique (asc_sortU l) (asc_sortU m) fun x => by rw [mem_sortU, mem_sortU, h]
theorem sort_uk (l : List Int) : (uk l).mergeSort leI = sortU l := by
  rw [asc_sort (nodup_uk l)]
  exact sortU_ext fun x => mem_uk
theorem p_sortset {n : Nat} {ns : List Int} (h : S.get n = some (.lst (intD ns))) (hl : ns.length < 64) : OkP (opSortSet (.ref n) S) Q = Q (.ref S.size) (S.push (.lst (intD (sortU ns)))) := by
  have e : ∀ ns : List Int, intsOf (intD ns) = some ns := fun ns => by
    induction ns with
    | nil => rfl
    | cons a r ih =>
      show (intsOf (intD r)).map (a :: ·) = _
      rw [ih]; rfl
  unfold opSortSet lstAt
  simp only [h, e, if_pos hl]
  rfl
def bAddStart (rq : Nat) : MS := sSeq (sExpr (eMeth [(12, rq)] (eVar 0) (aCons (eVar 1) (aNil)) [])) (sSeq (sIf (MP.tB (e2 opIn (eVar 1) (eFld [12] 10 (eVar 0)))) (sRet (eC (.bl false))) (sPass)) (sSeq (sExpr (eBM tyLst mAppend (eFld [12] 10 (eVar 0)) (aCons (eVar 1) (aNil)))) (sRet (eC (.bl true)))))
def bAddEnd (rq : Nat) : MS := sSeq (sExpr (eMeth [(12, rq)] (eVar 0) (aCons (eVar 1) (aNil)) [])) (sSeq (sIf (MP.tB (e2 opIn (eVar 1) (eFld [12] 11 (eVar 0)))) (sRet (eC (.bl false))) (sPass)) (sSeq (sExpr (eBM tyLst mAppend (eFld [12] 11 (eVar 0)) (aCons (eVar 1) (aNil)))) (sRet (eC (.bl true)))))
def bStarts : MS := sRet (eB bTuple (aCons (eB bSorted (aCons (eFld [12] 10 (eVar 0)) (aNil))) (aNil)))
def bStep : MS := sSeq (sSet (.nm 3) (eDc (eVar 6) (eC (.bl true)) (.tp [(.nm 4), (.nm 5), (.nm 6)]) (iSeq (eFld [12] 9 (eVar 0))) (MP.tAnd (MP.tB (e2 opEq (eVar 5) (eVar 2))) (MP.tB (e2 opIn (eVar 4) (eVar 1)))) [4, 5, 6])) (sRet (eB bTuple (aCons (eB bSorted (aCons (eB bListX (aCons (eVar 3) (aNil))) (aNil))) (aNil))))
def bHasEnd : MS := sRet (eB bAny (aCons (eLc (e2 opIn (eVar 2) (eFld [12] 11 (eVar 0))) (.nm 2) (iSeq (eVar 1)) (MP.tYes) [2]) (aNil)))
def tgts (es : List Ed) (states : List Int) (s : List Nat) : List Int := (es.filter fun e => decide (e.2.1 = s) && decide (e.1 ∈ states)).map (·.2.2)
def stepS (es : List Ed) (states : List Int) (s : List Nat) : List Int := sortU (tgts es states s)
def aft (es : List Ed) (st : List Int) (log : List Nat) : List Int := log.foldl (fun z c => stepS es z [c]) st
def StartsSpec (call : List D → M D) : Prop := ∀ {S : Store} {n a b c sg st : Nat} {kept : List Ed} {first last : List Int}, Mach S n a b c sg st kept first last → first.Nodup →
  Ok (call [.ref n] S) (fun v S' => v = .tup (intD (sortU first)) ∧ Keep S S' []) X0
theorem starts_ok {C : Cfg} : StartsSpec (runFn ⟨1, 1, bStarts⟩ C) := by
  intro S n a b c sg st kept first last m nd
  rw [ok_run]
  refine ⟨rfl, ?_⟩
  show OkS (bStarts C [some (.ref n)] S) _
  unfold bStarts
  rw [oks_ret]
  simp
  rw [p_fld m.hn rfl (d := .ref b) rfl, p_sortI m.hb, asc_sort nd, p_tuple (Store.get_push_same _ _)]
  exact ⟨rfl, Keep.push _⟩
def StepSpec (call : List D → M D) : Prop := ∀ {S : Store} {n a b c sg st : Nat} {kept : List Ed} {first last states : List Int} {s : List Nat}, Mach S n a b c sg st kept first last → kept.length ≤ 1000 →
  Ok (call [.ref n, .tup (intD states), .str s] S) (fun v S' => v = .tup (intD (stepS kept states s)) ∧ Keep S S' []) X0
def okE (states : List Int) (s : List Nat) : D → Bool
  | .tup [.int o, .str l, .int _] => decide (l = s) && decide (o ∈ states)
  | _ => false
def toE : D → Int
  | .tup [_, _, .int t] => t
  | _ => 0
theorem tgts_eq (es : List Ed) (states : List Int) (s : List Nat) : ((es.map eD).filter (okE states s)).map toE = tgts es states s := by
  unfold tgts
  rw [List.filter_map, List.map_map]
  rfl
theorem step_ok {C : Cfg} : StepSpec (runFn ⟨3, 7, bStep⟩ C) := by
  intro S n a b c sg st kept first last states s m hk
  rw [ok_run]
  refine ⟨rfl, ?_⟩
  show OkS (bStep C [some (.ref n), some (.tup (intD states)), some (.str s), none, none, none, none] S) _
  unfold bStep
  rw [oks_seq, oks_set]
  simp [ok_dc, wipe]
  rw [p_fld m.hn rfl (d := .ref a) rfl, p_itL m.ha]
  refine Ok.imp (dc_fm keyI (xs := kept.map eD) (okE states s) toE (by rw [List.length_map]; omega) (fun S' i k => lst_next (k.get m.ha (by simp))) fun i d S' hd k1 => ?_) ?_
  · rw [List.getElem?_map] at hd
    obtain ⟨e, he, rfl⟩ := Option.map_eq_some_iff.mp hd
    obtain ⟨o, l, t⟩ := e
    refine ⟨_, rfl, ?_⟩
    simp
    by_cases h1 : l = s
    · first | refine .inl ⟨h1, ?_⟩ | refine .inr ⟨h1, ?_⟩
      rw [p_inIT]
      by_cases h2 : o ∈ states
      · simp [h2, okE, eD, h1, toE, Keep.refl]
      · simp [h2, okE, eD, h1, toE, Keep.refl]
    · first | refine .inl ⟨h1, ?_⟩ | refine .inr ⟨h1, ?_⟩
      simp [okE, eD, h1, Keep.refl]
  · rintro _ S1 ⟨g, k1⟩
    rw [tgts_eq] at g
    rw [oks_ret]
    simp
    rw [p_listK g]
    have g2 : (S1.push (.lst ((uk (tgts kept states s)).map D.int))).get S1.size = some (.lst (intD (uk (tgts kept states s)))) := Store.get_push_same _ _
    rw [p_sortI g2, sort_uk, p_tuple (Store.get_push_same _ _)]
    exact ⟨rfl, (k1.trans (Keep.push _)).trans (Keep.push _)⟩
def HasEndSpec (call : List D → M D) : Prop := ∀ {S : Store} {n a b c sg st : Nat} {kept : List Ed} {first last states : List Int}, Mach S n a b c sg st kept first last → states.length ≤ 1000000 →
  Ok (call [.ref n, .tup (intD states)] S) (fun v S' => v = .bl (states.any fun x => decide (x ∈ last)) ∧ Keep S S' []) X0
def inL (last : List Int) : D → D
  | .int i => .bl (decide (i ∈ last))
  | _ => .non
theorem hasend_ok {C : Cfg} : HasEndSpec (runFn ⟨2, 3, bHasEnd⟩ C) := by
  intro S n a b c sg st kept first last states m hl
  rw [ok_run]
  refine ⟨rfl, ?_⟩
  show OkS (bHasEnd C [some (.ref n), some (.tup (intD states)), none] S) _
  unfold bHasEnd
  rw [oks_ret]
  simp [ok_lc, wipe]
  refine Ok.imp (lc_map (inL last) (xs := intD states) (by unfold intD; rw [List.length_map]; exact hl) fun j d S2 hd k2 => ?_) ?_
  · unfold intD at hd
    rw [List.getElem?_map] at hd
    obtain ⟨i, hi, rfl⟩ := Option.map_eq_some_iff.mp hd
    refine ⟨_, by simp; rfl, ?_⟩
    have m2 := m.keep k2 (by simp) (by simp) (by simp) (by simp)
    simp
    rw [p_fld m2.hn rfl (d := .ref c) rfl, p_inIL m2.hc]
    exact ⟨rfl, Keep.refl⟩
  · rintro _ S2 ⟨g, k2⟩
    have e : (intD states).map (inL last) = (states.map fun x => decide (x ∈ last)).map D.bl := by
      unfold intD
      rw [List.map_map, List.map_map]; rfl
    rw [e] at g
    rw [p_any g]
    refine ⟨?_, k2⟩
    rw [List.any_map]; rfl
theorem nodup_lt {l : List Int} (h : l.Pairwise (· < ·)) : l.Nodup := h.imp fun h => by omega
theorem len_sortU (l : List Int) : (sortU l).length ≤ l.length := by
  exact (nodup_lt (asc_sortU l)).length_le_of_subset fun x hx => mem_sortU.mp hx
theorem len_step (es : List Ed) (states : List Int) (s : List Nat) : (stepS es states s).length ≤ es.length := by
  have h1 := len_sortU (tgts es states s)
  have h2 : (tgts es states s).length ≤ es.length := by
    unfold tgts
    rw [List.length_map]
    exact List.length_filter_le _ _
  exact Nat.le_trans h1 h2
theorem len_aft (es : List Ed) (log : List Nat) : ∀ st : List Int, (aft es st log).length ≤ max st.length es.length := by
  induction log with
  | nil => intro st; exact Nat.le_max_left ..
  | cons c r ih =>
    intro st
    have h1 := ih (stepS es st [c])
    have h2 := len_step es st [c]
    show (aft es (stepS es st [c]) r).length ≤ _
    omega
end
end MP
namespace MP
open PySem (PyData)
section
variable {S : Store} {Q : D → Store → Prop} {C : Cfg} {σ : Slots} {T : Pt} {E : Nat → Fs → Store → Prop}
def AddStartSpec (call : List D → M D) : Prop := ∀ {S : Store} {n a b c sg st : Nat} {kept : List Ed} {first last : List Int} {s : Int}, Mach S n a b c sg st kept first last → first.length ≤ 1000 →
  Ok (call [.ref n, .int s] S) (fun v S' => inR st s ∧ v = .bl (!decide (s ∈ first)) ∧ Keep S S' [b] ∧ Mach S' n a b c sg st kept (if s ∈ first then first else first ++ [s]) last) (fun k fs S' => ¬ inR st s ∧ k = 5 ∧ fs = [(3, .int s)] ∧ S' = S)
theorem addstart_ok {C : Cfg} {rq : Nat} (hr : ReqSpec (C.call rq)) : AddStartSpec (runFn ⟨2, 2, bAddStart rq⟩ C) := by
  intro S n a b c sg st kept first last s m hl
  rw [ok_run]
  refine ⟨rfl, ?_⟩
  show OkS (bAddStart rq C [some (.ref n), some (.int s)] S) _
  unfold bAddStart
  have lt := m.lt
  have ne2 := m.ne2
  have ne1 := m.ne
  rw [oks_seq, oks_expr]
  simp [meth_at m.hn]
  refine (hr m).mono (fun v S1 ⟨e, h1, e2⟩ => ?_) (fun k fs S1 ⟨h1, e1, e2, e3⟩ => ⟨h1, e1, e2, e3⟩)
  subst e; subst e2
  rw [oks_seq, oks_if]
  simp
  rw [p_fld m.hn rfl (d := .ref b) rfl, p_inIL m.hb]
  by_cases hm : s ∈ first
  · simp [hm]
    rw [oks_ret]
    simp
    exact ⟨h1, Keep.refl, m⟩
  · simp [hm]
    rw [oks_pass]
    dsimp only
    rw [oks_seq, oks_expr]
    simp
    rw [p_fld m.hn rfl (d := .ref b) rfl]
    have hz : (intD first).length < line := by unfold intD line; rw [List.length_map]; omega
    refine ⟨by simp [tyLst, m.hb], ?_⟩
    rw [p_append m.hb]
    refine ⟨hz, ?_⟩
    rw [oks_ret]
    simp
    have e : intD first ++ [.int s] = intD (first ++ [s]) := by unfold intD; rw [List.map_append]; rfl
    rw [e]
    have kk : Keep S1 (S1.set b (.lst (intD (first ++ [s])))) [b] := Keep.set _ lt.2.2.1 (by simp)
    exact ⟨h1, kk, ⟨kk.get m.hn (by simp; omega), kk.get m.ha (by simp; omega), Store.get_set_same _ lt.2.2.1, kk.get m.hc (by simp; omega), m.ne⟩⟩
def AddEndSpec (call : List D → M D) : Prop := ∀ {S : Store} {n a b c sg st : Nat} {kept : List Ed} {first last : List Int} {s : Int}, Mach S n a b c sg st kept first last → last.length ≤ 1000 →
  Ok (call [.ref n, .int s] S) (fun v S' => inR st s ∧ v = .bl (!decide (s ∈ last)) ∧ Keep S S' [c] ∧ Mach S' n a b c sg st kept first (if s ∈ last then last else last ++ [s])) (fun k fs S' => ¬ inR st s ∧ k = 5 ∧ fs = [(3, .int s)] ∧ S' = S)
theorem addend_ok {C : Cfg} {rq : Nat} (hr : ReqSpec (C.call rq)) : AddEndSpec (runFn ⟨2, 2, bAddEnd rq⟩ C) := by
  intro S n a b c sg st kept first last s m hl
  rw [ok_run]
  refine ⟨rfl, ?_⟩
  show OkS (bAddEnd rq C [some (.ref n), some (.int s)] S) _
  unfold bAddEnd
  have lt := m.lt
  have ne2 := m.ne2
  have ne1 := m.ne
  rw [oks_seq, oks_expr]
  simp [meth_at m.hn]
  refine (hr m).mono (fun v S1 ⟨e, h1, e2⟩ => ?_) (fun k fs S1 ⟨h1, e1, e2, e3⟩ => ⟨h1, e1, e2, e3⟩)
  subst e; subst e2
  rw [oks_seq, oks_if]
  simp
  rw [p_fld m.hn rfl (d := .ref c) rfl, p_inIL m.hc]
  by_cases hm : s ∈ last
  · simp [hm]
    rw [oks_ret]
    simp
    exact ⟨h1, Keep.refl, m⟩
  · simp [hm]
    rw [oks_pass]
    dsimp only
    rw [oks_seq, oks_expr]
    simp
    rw [p_fld m.hn rfl (d := .ref c) rfl]
    have hz : (intD last).length < line := by unfold intD line; rw [List.length_map]; omega
    refine ⟨by simp [tyLst, m.hc], ?_⟩
    rw [p_append m.hc]
    refine ⟨hz, ?_⟩
    rw [oks_ret]
    simp
    have e : intD last ++ [.int s] = intD (last ++ [s]) := by unfold intD; rw [List.map_append]; rfl
    rw [e]
    have kk : Keep S1 (S1.set c (.lst (intD (last ++ [s])))) [c] := Keep.set _ lt.2.2.2 (by simp)
    exact ⟨h1, kk, ⟨kk.get m.hn (by simp; omega), kk.get m.ha (by simp; omega), kk.get m.hb (by simp; omega), Store.get_set_same _ lt.2.2.2, m.ne⟩⟩
def bPlan (dr : Nat) : MS := sSeq (sSet (.nm 4) (e2 opAdd (eC (.int 1)) (eCall dr (aCons (eVar 0) (aCons (eVar 2) (aNil))) []))) (sSeq (sSet (.nm 5) (eLc (eVar 10) (.nm 10) (iRange1 (eVar 4)) (MP.tOr (MP.tB (e2 opEq (eVar 10) (eC (.int 0)))) (MP.tB (e2 opEq (eCall dr (aCons (eVar 0) (aCons (eC (.int 4)) (aNil))) []) (eC (.int 0))))) [10])) (sSeq (sSet (.nm 6) (eLc (eVar 10) (.nm 10) (iRange1 (eVar 4)) (MP.tB (e2 opEq (eCall dr (aCons (eVar 0) (aCons (eC (.int 2)) (aNil))) []) (eC (.int 0)))) [10])) (sSeq (sSet (.nm 7) (eLst (aNil))) (sSeq (sFor (.nm 8) (iRange1 (eCall dr (aCons (eVar 0) (aCons (e2 opAdd (eVar 3) (eC (.int 1))) (aNil))) [])) (sSeq (sSet (.nm 9) (eTup (aCons (eCall dr (aCons (eVar 0) (aCons (eVar 4) (aNil))) []) (aCons (e2 opItem (eC (.str [97, 98, 99])) (eCall dr (aCons (eVar 0) (aCons (eVar 1) (aNil))) [])) (aCons (eCall dr (aCons (eVar 0) (aCons (eVar 4) (aNil))) []) (aNil)))))) (sIf (MP.tB (e2 opNotIn (eVar 9) (eVar 7))) (sExpr (eBM tyLst mAppend (eVar 7) (aCons (eVar 9) (aNil)))) (sPass)))) (sRet (eLst (aCons (eVar 4) (aCons (eVar 5) (aCons (eVar 6) (aCons (eVar 7) (aNil)))))))))))
def bMachOf (ini ad asr aen : Nat) : MS := sSeq (sSet (.nm 2) (eNew 12 ini (aCons (eVar 0) (aCons (e2 opItem (eVar 1) (eC (.int 0))) (aNil))) [])) (sSeq (sFor (.nm 3) (iSeq (e2 opItem (eVar 1) (eC (.int 1)))) (sExpr (eMeth [(12, asr)] (eVar 2) (aCons (eVar 3) (aNil)) []))) (sSeq (sFor (.nm 3) (iSeq (e2 opItem (eVar 1) (eC (.int 2)))) (sExpr (eMeth [(12, aen)] (eVar 2) (aCons (eVar 3) (aNil)) []))) (sSeq (sFor (.tp [(.nm 4), (.nm 5), (.nm 6)]) (iSeq (e2 opItem (eVar 1) (eC (.int 3)))) (sExpr (eMeth [(12, ad)] (eVar 2) (aCons (eVar 4) (aCons (eVar 5) (aCons (eVar 6) (aNil)))) []))) (sRet (eVar 2)))))
def bStepped : MS := sRet (e1 opSortSet (eLc (eVar 5) (.tp [(.nm 3), (.nm 4), (.nm 5)]) (iSeq (e2 opItem (eVar 0) (eC (.int 3)))) (MP.tAnd (MP.tB (e2 opEq (eVar 4) (eVar 2))) (MP.tB (e2 opIn (eVar 3) (eVar 1)))) [3, 4, 5]))
def bStates (sp : Nat) : MS := sSeq (sSet (.nm 2) (e1 opSortSet (e2 opItem (eVar 0) (eC (.int 1))))) (sSeq (sFor (.nm 3) (iSeq (eVar 1)) (sSet (.nm 2) (eCall sp (aCons (eVar 0) (aCons (eVar 2) (aCons (eVar 3) (aNil)))) []))) (sRet (eVar 2)))
def bHas (sts : Nat) : MS := sRet (e2 opNe (eLc (eVar 2) (.nm 2) (iSeq (eCall sts (aCons (eVar 0) (aCons (eVar 1) (aNil))) [])) (MP.tB (e2 opIn (eVar 2) (e2 opItem (eVar 0) (eC (.int 2))))) [2]) (eLst (aNil)))
structure Plan (S : Store) (j p1 p2 p3 many : Nat) (starts ends : List Int) (es : List Ed) : Prop where
  hj : S.get j = some (.lst [.int many, .ref p1, .ref p2, .ref p3])
  h1 : S.get p1 = some (.lst (intD starts))
  h2 : S.get p2 = some (.lst (intD ends))
  h3 : S.get p3 = some (.lst (es.map eD))
theorem Plan.keep {S S' : Store} {j p1 p2 p3 many : Nat} {starts ends : List Int} {es : List Ed} {ex : List Nat} (p : Plan S j p1 p2 p3 many starts ends es) (k : Keep S S' ex) (z : j ∉ ex) (z1 : p1 ∉ ex) (z2 : p2 ∉ ex) (z3 : p3 ∉ ex) : Plan S' j p1 p2 p3 many starts ends es :=
  ⟨k.get p.hj z, k.get p.h1 z1, k.get p.h2 z2, k.get p.h3 z3⟩
def Sts (many : Nat) (l : List Int) : Prop := l.Pairwise (· < ·) ∧ ∀ x ∈ l, inR many x
structure FineP (sg st ed many : Nat) (starts ends : List Int) (es : List Ed) : Prop where
  lo : 1 ≤ many
  hi : many ≤ st
  s1 : Sts many starts
  s2 : Sts many ends
  nd : es.Nodup
  len : es.length ≤ ed
  ok : ∀ e ∈ es, inR many e.1 ∧ inR many e.2.2 ∧ ∃ c, e.2.1 = [c] ∧ c ∈ abcN sg
theorem Sts.nil {many : Nat} : Sts many [] := ⟨.nil, fun x h => nomatch h⟩
theorem Sts.len {many : Nat} {l : List Int} (h : Sts many l) : l.length ≤ many := by
  have h1 : (l.map Int.toNat).Nodup := by
    rw [List.nodup_iff_pairwise_ne, List.pairwise_map]
    have h2 : l.Pairwise fun a b => a < b ∧ 0 ≤ a := by
      have := h.2
      refine List.Pairwise.imp_of_mem ?_ h.1
      intro a b ha _ hab
      exact ⟨hab, (this a ha).1⟩
    exact h2.imp fun {a b} ⟨h3, h4⟩ => by omega
  have h2 : l.map Int.toNat ⊆ List.range many := fun x hx => by
    obtain ⟨y, hy, rfl⟩ := List.mem_map.mp hx
    have := h.2 y hy
    rw [List.mem_range]
    unfold inR at this
    omega
  have h3 := h1.length_le_of_subset h2
  rw [List.length_map, List.length_range] at h3
  exact h3
theorem lc_pick {e : ME} {g : Tg} {c : MT} {n k q : Nat} (hn : n ≤ 1000) (P : Pen S k q)
    (step : ∀ (i : Nat) (S' : Store), i < n → Keep S S' [k] → Pen S' k q → ∃ σ1, asg S' g (.int i) σ = some σ1 ∧ Ok (c C σ1 S') (fun b S1 => Keep S' S1 [k] ∧ Pen S1 k q ∧ (b = true → Ok (e C σ1 S1) (fun y S2 => y = .int i ∧ S2 = S1) X0)) X0) :
    Ok (compN (.seq (rangeL 0 1 n)) g c (emit e S.size C) C σ turns 0 (S.push (.lst []))) (fun _ S2 => ∃ ns, S2.get S.size = some (.lst (intD ns)) ∧ Sts n ns ∧ Keep S S2 [k] ∧ Pen S2 k q) X0 := by
  have lt := P.lt
  refine lc_seq (Q := fun S2 => ∃ ns, S2.get S.size = some (.lst (intD ns)) ∧ Sts n ns ∧ Keep S S2 [k] ∧ Pen S2 k q) (by rw [rangeL_len]; unfold turns; omega)
    (fun i acc S' => (∃ ns, acc = intD ns ∧ Sts i ns) ∧ S'.get S.size = some (.lst acc) ∧ Keep S S' [k] ∧ Pen S' k q) ?_ (fun _ _ _ h => h.2.1) ?_ (by rw [rangeL_len]; unfold line; omega) ?_
  · exact ⟨⟨[], rfl, Sts.nil⟩, Store.get_push_same _ _, Keep.push _, P.keep (ex := []) (Keep.push _) (by simp) (by simp)⟩
  · rintro i d acc S' hd ha ⟨⟨ns, rfl, hs⟩, hg, kp, P'⟩
    obtain ⟨rfl, hi⟩ := rangeL_at _ _ _ _ _ hd
    have e0 : (0 : Int) + (i : Int) * 1 = i := by omega
    rw [e0]
    have up : Sts (i + 1) ns := ⟨hs.1, fun x hx => by have := hs.2 x hx; unfold inR at *; omega⟩
    obtain ⟨σ1, h1, h2⟩ := step i S' hi kp P'
    refine ⟨σ1, h1, h2.imp fun b S1 ⟨k1, P1, h3⟩ => ?_⟩
    have g1 := k1.get hg (by simp; omega)
    cases b with
    | false => exact ⟨⟨ns, rfl, up⟩, g1, kp.trans k1, P1⟩
    | true =>
      rw [if_pos rfl]
      refine (h3 rfl).imp fun y S2 ⟨e1, e2⟩ => ?_
      subst e1; subst e2
      have hl := Store.get_lt g1
      refine ⟨g1, ⟨ns ++ [(i : Int)], by unfold intD; rw [List.map_append]; rfl, ?_, ?_⟩, Store.get_set_same _ hl, (kp.trans k1).set_new _ (Nat.le_refl _) hl, P1.keep (ex := [S.size]) (Keep.set _ hl (by simp)) (by simp; omega) (by simp; omega)⟩
      · rw [List.pairwise_append]
        refine ⟨hs.1, List.pairwise_singleton _ _, fun a ha b hb => ?_⟩
        rw [List.mem_singleton] at hb
        have := hs.2 a ha
        unfold inR at this
        omega
      · intro x hx
        rcases List.mem_append.mp hx with hx | hx
        · exact up.2 x hx
        · rw [List.mem_singleton.mp hx]
          unfold inR
          omega
  · rintro acc S' ha ⟨⟨ns, rfl, hs⟩, hg, kp, P'⟩
    rw [rangeL_len] at hs
    exact ⟨ns, hg, hs, kp, P'⟩
def PlanSpec (call : List D → M D) : Prop := ∀ {S : Store} {k q sg st ed : Nat}, Pen S k q → 1 ≤ sg → sg ≤ 3 → 1 ≤ st → st ≤ 1000 → ed ≤ 1000 →
  Ok (call [.ref k, .int sg, .int st, .int ed] S) (fun v S' => ∃ j p1 p2 p3 many starts ends es, v = .ref j ∧ Plan S' j p1 p2 p3 many starts ends es ∧ FineP sg st ed many starts ends es ∧ (S.size ≤ j ∧ S.size ≤ p1 ∧ S.size ≤ p2 ∧ S.size ≤ p3) ∧ (p1 < p2 ∧ p2 < p3 ∧ p3 < j) ∧ Keep S S' [k] ∧ Pen S' k q) X0
theorem plan_ok {C : Cfg} {dr : Nat} (hd : DrawSpec (C.call dr)) : PlanSpec (runFn ⟨4, 11, bPlan dr⟩ C) := by
  intro S k q sg st ed P g1 g3 t1 t2 e1
  rw [ok_run]
  refine ⟨rfl, ?_⟩
  show OkS (bPlan dr C [some (.ref k), some (.int sg), some (.int st), some (.int ed), none, none, none, none, none, none, none] S) _
  unfold bPlan
  rw [oks_seq, oks_set]
  simp
  refine (hd P (by omega) (by omega)).imp fun v S1 ⟨x, e, hx, k1, P1⟩ => ?_
  subst e
  have hxn : ((x.toNat : Nat) : Int) = x := by omega
  generalize x.toNat = y at hxn
  subst hxn
  have es : (1 + (y : Int)) = ((1 + y : Nat) : Int) := by omega
  simp only [okp_some, p_add]
  rw [es]
  clear es
  generalize hmany : 1 + y = many
  have m1 : 1 ≤ many := by omega
  have m2 : many ≤ st := by omega
  have okm : okR (many : Int) = true := okR_nat (by omega) (by omega)
  rw [oks_seq, oks_set]
  simp [ok_lc, okm, wipe]
  refine Ok.imp (lc_pick (by omega) P1 fun i S' hi kp P' => ⟨_, by simp; rfl, ?_⟩) ?_
  · simp
    by_cases h0 : (i : Int) = 0
    · have h0' : i = 0 := by omega
      subst h0'
      simp [Keep.refl, P']
    · have h0' : ¬ i = 0 := by omega
      simp [h0']
      refine (hd P' (by omega) (by omega)).imp fun v S2 ⟨y, e, hy, k2, P2⟩ => ?_
      subst e
      simp
      by_cases hy0 : y = 0
      · simp [hy0, k2, P2]
      · simp [hy0, k2, P2]
  intro _ S2 hh
  have hh := hh.choose_spec
  generalize Exists.choose _ = starts at hh
  have gs := hh.1
  have s1 := hh.2.1
  have k2 := hh.2.2.1
  have P2 := hh.2.2.2
  clear hh
  rw [oks_seq, oks_set]
  simp [ok_lc, okm, wipe]
  refine Ok.imp (lc_pick (by omega) P2 fun i S' hi kp P' => ⟨_, by simp; rfl, ?_⟩) ?_
  · simp
    refine (hd P' (by omega) (by omega)).imp fun v S3 ⟨y, e, hy, k3, P3⟩ => ?_
    subst e
    simp
    by_cases hy0 : y = 0
    · simp [hy0, k3, P3]
    · simp [hy0, k3, P3]
  rintro _ S3 ⟨ends, ge, s2, k3, P3⟩
  rw [oks_seq, oks_set]
  simp
  have lt1 := P1.lt
  have lt2 := P2.lt
  have lt3 := P3.lt
  have le1 := k1.le
  have le2 := k2.le
  have le3 := k3.le
  have gs3 := k3.get gs (by simp; omega)
  have hl2 := Store.get_lt gs
  have hl3 := Store.get_lt ge
  have gl : (S3.push (.lst [])).get S3.size = some (.lst []) := Store.get_push_same _ _
  have kl : Keep S3 (S3.push (.lst [])) [] := Keep.push _
  have zl : (S3.push (.lst [])).size = S3.size + 1 := Store.size_push _ _
  have P4 := P3.keep kl (by simp) (by simp)
  generalize S3.push (.lst []) = S4 at gl kl zl P4
  rw [oks_seq, oks_for]
  simp
  refine (hd P4 (by omega) (by omega)).imp fun v S5 ⟨y, e, hy, k5, P5⟩ => ?_
  subst e
  obtain ⟨y, rfl⟩ : ∃ z : Nat, y = z := ⟨y.toNat, by omega⟩
  have oky : okR (y : Int) = true := okR_nat (by omega) (by omega)
  simp [oky]
  have k35 : Keep S3 S5 [k] := (kl.weak (by simp)).trans k5
  refine for_seq (xs := rangeL 0 1 y) (by rw [rangeL_len]; unfold turns; omega)
    (fun i σ S' => (∃ x8 x9, σ = [some (.ref k), some (.int sg), some (.int st), some (.int ed), some (.int many), some (.ref S1.size), some (.ref S2.size), some (.ref S3.size), x8, x9, none]) ∧
      (∃ es : List Ed, S'.get S3.size = some (.lst (es.map eD)) ∧ es.Nodup ∧ es.length ≤ i ∧ ∀ e ∈ es, inR many e.1 ∧ inR many e.2.2 ∧ ∃ c, e.2.1 = [c] ∧ c ∈ abcN sg) ∧ Keep S3 S' [k] ∧ Pen S' k q)
    ⟨⟨none, none, rfl⟩, ⟨[], k5.get gl (by simp; omega), List.nodup_nil, Nat.zero_le _, fun e h => nomatch h⟩, k35, P5⟩ ?_ ?_
  · rintro i d σ S' hd' ⟨⟨x8, x9, rfl⟩, ⟨es, ges, nd, hl, hok⟩, kp, P'⟩
    obtain ⟨rfl, hi⟩ := rangeL_at _ _ _ _ _ hd'
    refine ⟨_, by simp; rfl, ?_⟩
    rw [oks_seq, oks_set]
    simp
    refine (hd P' (by omega) (by omega)).imp fun v S6 ⟨o, e, ho, k6, P6⟩ => ?_
    subst e
    refine (hd P6 (by omega) (by omega)).imp fun v S7 ⟨z, e, hz, k7, P7⟩ => ?_
    subst e
    obtain ⟨c, hc, hcm⟩ : ∃ c, atI [97, 98, 99] z = some c ∧ c ∈ abcN sg := by
      have hlt : z.toNat < ([97, 98, 99] : List Nat).length := by simp; omega
      refine ⟨([97, 98, 99] : List Nat)[z.toNat], ?_, ?_⟩
      · unfold atI
        rw [ixN_at hz.1 (by simp; omega)]
        exact List.getElem?_eq_getElem hlt
      · unfold abcN
        rw [List.mem_take_iff_getElem]
        exact ⟨z.toNat, by simp; omega, rfl⟩
    rw [p_itemS]
    refine ⟨c, ⟨by decide, hc⟩, ?_⟩
    refine (hd P7 (by omega) (by omega)).imp fun v S8 ⟨t, e, ht, k8, P8⟩ => ?_
    subst e
    have ges8 := ((k6.trans k7).trans k8).get ges (by simp; omega)
    have k38 := kp.trans ((k6.trans k7).trans k8)
    have eE : D.tup [.int o, .str [c], .int t] = eD (o, [c], t) := rfl
    rw [oks_if]
    simp
    refine ⟨by decide, ?_⟩
    rw [eE, p_notinE ges8]
    have hh := Store.get_lt ges8
    by_cases hm : (o, [c], t) ∈ es
    · simp [hm]
      rw [oks_pass]
      exact ⟨⟨_, _, rfl⟩, ⟨es, ges8, nd, by omega, fun o l t h => hok (o, l, t) h⟩, k38, P8⟩
    · simp [hm]
      rw [oks_expr]
      simp
      refine ⟨by simp [tyLst, ges8], rfl, ?_⟩
      rw [p_append ges8]
      refine ⟨by rw [List.length_map]; unfold line; omega, ?_⟩
      have ea : es.map eD ++ [eD (o, [c], t)] = (es ++ [(o, [c], t)]).map eD := by rw [List.map_append]; rfl
      rw [ea]
      refine ⟨⟨es ++ [(o, [c], t)], Store.get_set_same _ hh, ?_, by rw [List.length_append, List.length_singleton]; omega, ?_⟩, k38.set_new _ (Nat.le_refl _) hh, P8.keep (ex := [S3.size]) (Keep.set _ hh (by simp)) (by simp; omega) (by simp; omega)⟩
      · rw [List.nodup_append]
        exact ⟨nd, by simp, fun a ha b hb => by
          rw [List.mem_singleton] at hb
          subst hb
          exact fun e => hm (e ▸ ha)⟩
      · intro o' l' t' he
        rcases List.mem_append.mp he with he | he
        · exact hok (o', l', t') he
        · cases List.mem_singleton.mp he
          exact ⟨⟨ho.1, ho.2⟩, ⟨ht.1, ht.2⟩, c, rfl, hcm⟩
  · rintro σ S' ⟨⟨x8, x9, rfl⟩, ⟨es, ges, nd, hl, hok⟩, kp, P'⟩
    rw [rangeL_len] at hl
    dsimp only
    rw [oks_ret]
    simp
    have kk : Keep S' (S'.push (.lst [.int many, .ref S1.size, .ref S2.size, .ref S3.size])) [] := Keep.push _
    have z := Store.get_lt ges
    have gs' := kp.get gs3 (by simp; omega)
    have ge' := kp.get ge (by simp; omega)
    refine ⟨by unfold line; omega, _, _, _, many, starts, ends, es, ⟨Store.get_push_same _ _, kk.get gs' (by simp), kk.get ge' (by simp), kk.get ges (by simp)⟩, ⟨m1, m2, s1, s2, nd, by omega, hok⟩, ⟨by omega, by omega, by omega, by omega⟩, ⟨by omega, by omega, z⟩, ?_, P'.keep kk (by simp) (by simp)⟩
    exact (((k1.trans k2).trans k3).trans kp).trans (kk.weak (by simp))
structure FineQ (sg many : Nat) (starts ends : List Int) (es : List Ed) : Prop where
  lo : 1 ≤ many
  hi : many ≤ 6
  s1 : starts.Nodup
  r1 : ∀ x ∈ starts, inR many x
  s2 : ends.Nodup
  r2 : ∀ x ∈ ends, inR many x
  nd : es.Nodup
  ok : ∀ e ∈ es, inR many e.1 ∧ inR many e.2.2 ∧ ∃ c, e.2.1 = [c] ∧ c ∈ abcN sg
theorem FineP.q {sg st ed many : Nat} {starts ends : List Int} {es : List Ed} (f : FineP sg st ed many starts ends es) (h : st ≤ 6) : FineQ sg many starts ends es :=
  ⟨f.lo, by have := f.hi; omega, nodup_lt f.s1.1, f.s1.2, nodup_lt f.s2.1, f.s2.2, f.nd, f.ok⟩
theorem inR_len {many : Nat} {l : List Int} (nd : l.Nodup) (h : ∀ x ∈ l, inR many x) : l.length ≤ many := by
  have h1 : (l.map Int.toNat).Nodup := by
    rw [List.nodup_iff_pairwise_ne, List.pairwise_map]
    refine List.Pairwise.imp_of_mem ?_ nd
    intro a b ha hb hab
    have h1 := h a ha
    have h2 := h b hb
    unfold inR at h1 h2
    omega
  have h2 : l.map Int.toNat ⊆ List.range many := fun x hx => by
    obtain ⟨y, hy, rfl⟩ := List.mem_map.mp hx
    have := h y hy
    rw [List.mem_range]
    unfold inR at this
    omega
  have h3 := h1.length_le_of_subset h2
  rw [List.length_map, List.length_range] at h3
  exact h3
def MachOfSpec (call : List D → M D) : Prop := ∀ {S : Store} {sg j p1 p2 p3 many : Nat} {starts ends : List Int} {es : List Ed}, Plan S j p1 p2 p3 many starts ends es → FineQ sg many starts ends es → es.length ≤ 14 → 1 ≤ sg → sg ≤ 3 →
  Ok (call [.int sg, .ref j] S) (fun v S' => ∃ n a b c, v = .ref n ∧ Mach S' n a b c sg many es starts ends ∧ (S.size ≤ n ∧ S.size ≤ a ∧ S.size ≤ b ∧ S.size ≤ c) ∧ Keep S S' []) X0
theorem addR_none {sg st : Nat} {kept : List Ed} {e : Ed} (h1 : inR st e.1) (h2 : inR st e.2.2) (h3 : ∃ c, e.2.1 = [c] ∧ c ∈ abcN sg) (h4 : e ∉ kept) (h5 : kept.length ≠ 14) : addR sg st kept e = none := by
  obtain ⟨c, h3, h6⟩ := h3
  unfold addR
  rw [if_neg (by simpa using h1), if_neg (by simpa using h2), if_neg (by rw [h3]; simp [logS, h6]), if_neg h4, if_neg h5]
theorem machof_ok {C : Cfg} {ini ad asr aen : Nat} (hi : InitSpec (C.call ini)) (ha : AddSpec (C.call ad)) (hs : AddStartSpec (C.call asr)) (he : AddEndSpec (C.call aen)) : MachOfSpec (runFn ⟨2, 7, bMachOf ini ad asr aen⟩ C) := by
  intro S sg j p1 p2 p3 many starts ends es pl fp hes g1 g3
  rw [ok_run]
  refine ⟨rfl, ?_⟩
  show OkS (bMachOf ini ad asr aen C [some (.int sg), some (.ref j), none, none, none, none, none] S) _
  unfold bMachOf
  have q0 : atI [D.int many, .ref p1, .ref p2, .ref p3] 0 = some (.int many) := rfl
  have q1 : atI [D.int many, .ref p1, .ref p2, .ref p3] 1 = some (.ref p1) := rfl
  have q2 : atI [D.int many, .ref p1, .ref p2, .ref p3] 2 = some (.ref p2) := rfl
  have q3 : atI [D.int many, .ref p1, .ref p2, .ref p3] 3 = some (.ref p3) := rfl
  have l1 := Store.get_lt pl.hj
  have l2 := Store.get_lt pl.h1
  have l3 := Store.get_lt pl.h2
  have l4 := Store.get_lt pl.h3
  have lo := fp.lo
  have hi6 := fp.hi
  rw [oks_seq, oks_set]
  simp
  rw [p_item pl.hj]
  refine ⟨_, q0, ?_⟩
  have kI : Keep S (S.push (.ins 12 [])) [] := Keep.push _
  have gI : (S.push (.ins 12 [])).get S.size = some (.ins 12 []) := Store.get_push_same _ _
  have zI : (S.push (.ins 12 [])).size = S.size + 1 := Store.size_push _ _
  generalize S.push (.ins 12 []) = S1 at kI gI zI
  refine (hi gI (dk := .int sg) (dn := .int many) rfl rfl rfl rfl).mono (fun v S2 ⟨e, _, _, sg', st', a, b, c, e1, e2, hl, m, k2⟩ => ?_) (fun k fs S2 ⟨e1, h, e3⟩ => ?_)
  · have e1 : sg = sg' := by cases e1; rfl
    have e2 : many = st' := by cases e2; rfl
    subst e1; subst e2
    refine ⟨e, ?_⟩
    have k0 : Keep S S2 [] := kI.drop k2 (Nat.le_refl _)
    -- the starts
    refine seq_mid (fun σ S' => (∃ x3, σ = [some (.int sg), some (.ref j), some (.ref S.size), x3, none, none, none]) ∧ Mach S' S.size a b c sg many [] starts [] ∧ Keep S S' []) ?_ ?_
    · rw [oks_for]
      simp
      rw [p_item (k0.get pl.hj (by simp))]
      refine ⟨_, q1, ?_⟩
      rw [p_itL (k0.get pl.h1 (by simp))]
      have hl1 := inR_len fp.s1 fp.r1
      refine for_lst (xs := intD starts) (by unfold intD turns; rw [List.length_map]; omega) (fun i σ S' => (∃ x3, σ = [some (.int sg), some (.ref j), some (.ref S.size), x3, none, none, none]) ∧ Mach S' S.size a b c sg many [] (starts.take i) [] ∧ Keep S S' [])
        (fun i σ S' h => h.2.2.get pl.h1 (by simp)) ⟨⟨none, rfl⟩, m, k0⟩ ?_ ?_
      · rintro i d σ S' hd ⟨⟨x3, rfl⟩, m', kp⟩
        unfold intD at hd
        rw [List.getElem?_map] at hd
        obtain ⟨s, hs1, rfl⟩ := Option.map_eq_some_iff.mp hd
        refine ⟨_, rfl, ?_⟩
        rw [oks_expr]
        simp [meth_at m'.hn]
        have hn : s ∉ starts.take i := fun hm => by
          have := fp.s1
          obtain ⟨hlt, hget⟩ := List.getElem?_eq_some_iff.mp hs1
          have ht : starts.take (i + 1) = starts.take i ++ [s] := by rw [List.take_succ, hs1]; rfl
          have nd2 : (starts.take (i + 1)).Nodup := this.sublist (List.take_sublist _ _)
          rw [ht, List.nodup_append] at nd2
          exact nd2.2.2 s hm s (by simp) rfl
        refine (hs m' (by rw [List.length_take]; omega)).mono (fun v S3 ⟨_, _, k3, m3⟩ => ?_) (fun k fs S3 ⟨h, _⟩ => absurd (fp.r1 s (List.mem_of_getElem? hs1)) h)
        rw [if_neg hn] at m3
        have ht : starts.take (i + 1) = starts.take i ++ [s] := by rw [List.take_succ, hs1]; rfl
        rw [ht]
        exact ⟨m3, kp.drop k3 (by omega)⟩
      · rintro σ S' ⟨⟨x3, rfl⟩, m', kp⟩
        unfold intD at m'
        rw [List.length_map, List.take_length] at m'
        exact ⟨⟨x3, rfl⟩, m', kp⟩
    rintro σ S3 ⟨⟨x3, rfl⟩, m3, k3⟩
    -- the ends
    refine seq_mid (fun σ S' => (∃ x3, σ = [some (.int sg), some (.ref j), some (.ref S.size), x3, none, none, none]) ∧ Mach S' S.size a b c sg many [] starts ends ∧ Keep S S' []) ?_ ?_
    · rw [oks_for]
      simp
      rw [p_item (k3.get pl.hj (by simp))]
      refine ⟨_, q2, ?_⟩
      rw [p_itL (k3.get pl.h2 (by simp))]
      have hl1 := inR_len fp.s2 fp.r2
      refine for_lst (xs := intD ends) (by unfold intD turns; rw [List.length_map]; omega) (fun i σ S' => (∃ x3, σ = [some (.int sg), some (.ref j), some (.ref S.size), x3, none, none, none]) ∧ Mach S' S.size a b c sg many [] starts (ends.take i) ∧ Keep S S' [])
        (fun i σ S' h => h.2.2.get pl.h2 (by simp)) ⟨⟨x3, rfl⟩, m3, k3⟩ ?_ ?_
      · rintro i d σ S' hd ⟨⟨x3, rfl⟩, m', kp⟩
        unfold intD at hd
        rw [List.getElem?_map] at hd
        obtain ⟨s, hs1, rfl⟩ := Option.map_eq_some_iff.mp hd
        refine ⟨_, rfl, ?_⟩
        rw [oks_expr]
        simp [meth_at m'.hn]
        have hn : s ∉ ends.take i := fun hm => by
          have := fp.s2
          have ht : ends.take (i + 1) = ends.take i ++ [s] := by rw [List.take_succ, hs1]; rfl
          have nd2 : (ends.take (i + 1)).Nodup := this.sublist (List.take_sublist _ _)
          rw [ht, List.nodup_append] at nd2
          exact nd2.2.2 s hm s (by simp) rfl
        refine (he m' (by rw [List.length_take]; omega)).mono (fun v S3 ⟨_, _, k3, m3⟩ => ?_) (fun k fs S3 ⟨h, _⟩ => absurd (fp.r2 s (List.mem_of_getElem? hs1)) h)
        rw [if_neg hn] at m3
        have ht : ends.take (i + 1) = ends.take i ++ [s] := by rw [List.take_succ, hs1]; rfl
        rw [ht]
        exact ⟨m3, kp.drop k3 (by omega)⟩
      · rintro σ S' ⟨⟨x3, rfl⟩, m', kp⟩
        unfold intD at m'
        rw [List.length_map, List.take_length] at m'
        exact ⟨⟨x3, rfl⟩, m', kp⟩
    rintro σ S4 ⟨⟨x3, rfl⟩, m4, k4⟩
    -- the edges
    refine seq_mid (fun σ S' => (∃ x3 x4 x5 x6, σ = [some (.int sg), some (.ref j), some (.ref S.size), x3, x4, x5, x6]) ∧ Mach S' S.size a b c sg many es starts ends ∧ Keep S S' []) ?_ ?_
    · rw [oks_for]
      simp
      rw [p_item (k4.get pl.hj (by simp))]
      refine ⟨_, q3, ?_⟩
      rw [p_itL (k4.get pl.h3 (by simp))]
      have hl1 := hes
      refine for_lst (xs := es.map eD) (by unfold turns; rw [List.length_map]; omega) (fun i σ S' => (∃ x3 x4 x5 x6, σ = [some (.int sg), some (.ref j), some (.ref S.size), x3, x4, x5, x6]) ∧ Mach S' S.size a b c sg many (es.take i) starts ends ∧ Keep S S' [])
        (fun i σ S' h => h.2.2.get pl.h3 (by simp)) ⟨⟨x3, none, none, none, rfl⟩, m4, k4⟩ ?_ ?_
      · rintro i d σ S' hd ⟨⟨x3, x4, x5, x6, rfl⟩, m', kp⟩
        rw [List.getElem?_map] at hd
        obtain ⟨e, hs1, rfl⟩ := Option.map_eq_some_iff.mp hd
        have hlt := (List.getElem?_eq_some_iff.mp hs1).1
        have hem := List.mem_of_getElem? hs1
        obtain ⟨f1, f2, f3⟩ := fp.ok e hem
        have f4 : e.2.1.length ≤ 1000 := by
          obtain ⟨c, h, _⟩ := f3
          rw [h]; simp
        obtain ⟨o, l, t⟩ := e
        refine ⟨_, rfl, ?_⟩
        rw [oks_expr]
        simp [meth_at m'.hn]
        have ht : es.take (i + 1) = es.take i ++ [(o, l, t)] := by rw [List.take_succ, hs1]; rfl
        have hn : (o, l, t) ∉ es.take i := fun hm => by
          have nd2 : (es.take (i + 1)).Nodup := fp.nd.sublist (List.take_sublist _ _)
          rw [ht, List.nodup_append] at nd2
          exact nd2.2.2 _ hm _ (by simp) rfl
        have no : addR sg many (es.take i) (o, l, t) = none := addR_none f1 f2 f3 hn (by rw [List.length_take]; omega)
        refine (ha (e := (o, l, t)) m' g3 (by rw [List.length_take]; omega) f4).mono (fun v S5 ⟨_, _, k5, m5⟩ => ?_) (fun k fs S5 ⟨f, d, h, _⟩ => by rw [no] at h; cases h)
        rw [ht]
        exact ⟨m5, kp.drop k5 (by omega)⟩
      · rintro σ S' ⟨⟨x3, x4, x5, x6, rfl⟩, m', kp⟩
        rw [List.length_map, List.take_length] at m'
        exact ⟨⟨x3, x4, x5, x6, rfl⟩, m', kp⟩
    rintro σ S5 ⟨⟨x3, x4, x5, x6, rfl⟩, m5, k5⟩
    rw [oks_ret]
    simp
    exact ⟨a, b, c, m5, ⟨by omega, by omega, by omega⟩, k5⟩
  · exfalso
    rcases h with ⟨h, _⟩ | ⟨_, h, _⟩
    · have : isIntD 1 3 (.int sg) = true := by simp [isIntD]; omega
      rw [this] at h; cases h
    · have : isIntD 1 6 (.int many) = true := by simp [isIntD]; omega
      rw [this] at h; cases h
def SteppedSpec (call : List D → M D) : Prop := ∀ {S : Store} {j p1 p2 p3 many z : Nat} {starts ends : List Int} {es : List Ed} {states : List Int} {s : List Nat}, Plan S j p1 p2 p3 many starts ends es → es.length < 64 → S.get z = some (.lst (intD states)) →
  Ok (call [.ref j, .ref z, .str s] S) (fun v S' => ∃ r, v = .ref r ∧ S.size ≤ r ∧ S'.get r = some (.lst (intD (stepS es states s))) ∧ Keep S S' []) X0
theorem fm_int {xs : List D} {p : D → Bool} {f : D → D} {g : D → Int} (h : ∀ d ∈ xs, f d = .int (g d)) : (xs.filter p).map f = intD ((xs.filter p).map g) := by
  unfold intD
  rw [List.map_map]
  exact List.map_congr_left fun d hd => h d (List.mem_filter.mp hd).1
theorem stepped_ok {C : Cfg} : SteppedSpec (runFn ⟨3, 6, bStepped⟩ C) := by
  intro S j p1 p2 p3 many z starts ends es states s pl hl hz
  rw [ok_run]
  refine ⟨rfl, ?_⟩
  show OkS (bStepped C [some (.ref j), some (.ref z), some (.str s), none, none, none] S) _
  unfold bStepped
  have q3 : atI [D.int many, .ref p1, .ref p2, .ref p3] 3 = some (.ref p3) := rfl
  rw [oks_ret]
  simp [ok_lc, wipe]
  rw [p_item pl.hj]
  refine ⟨_, q3, ?_⟩
  rw [p_itL pl.h3]
  refine Ok.imp (lc_fml (okE states s) (fun d => .int (toE d)) pl.h3 (by rw [List.length_map]; omega) fun i d S' hd k1 => ?_) ?_
  · rw [List.getElem?_map] at hd
    obtain ⟨e, he, rfl⟩ := Option.map_eq_some_iff.mp hd
    obtain ⟨o, l, t⟩ := e
    refine ⟨_, rfl, ?_⟩
    simp
    by_cases h1 : l = s
    · first | refine .inl ⟨h1, ?_⟩ | refine .inr ⟨h1, ?_⟩
      rw [p_inIL (k1.get hz (by simp))]
      by_cases h2 : o ∈ states
      · simp [h2, okE, eD, h1, toE, Keep.refl]
      · simp [h2, okE, eD, h1, toE, Keep.refl]
    · first | refine .inl ⟨h1, ?_⟩ | refine .inr ⟨h1, ?_⟩
      simp [okE, eD, h1, Keep.refl]
  · rintro _ S1 ⟨g, k1⟩
    rw [fm_int (g := toE) fun d _ => rfl, tgts_eq] at g
    have hl2 : (tgts es states s).length < 64 := by
      unfold tgts
      rw [List.length_map]
      have := List.length_filter_le (fun e : Ed => decide (e.2.1 = s) && decide (e.1 ∈ states)) es
      omega
    rw [p_sortset g hl2]
    exact ⟨_, rfl, k1.le, Store.get_push_same _ _, k1.trans (Keep.push _)⟩
def StatesSpec (call : List D → M D) : Prop := ∀ {S : Store} {j p1 p2 p3 many : Nat} {starts ends : List Int} {es : List Ed} {log : List Nat}, Plan S j p1 p2 p3 many starts ends es → es.length < 64 → starts.length < 64 → log.length ≤ 1000000 →
  Ok (call [.ref j, .str log] S) (fun v S' => ∃ r, v = .ref r ∧ S.size ≤ r ∧ S'.get r = some (.lst (intD (aft es (sortU starts) log))) ∧ Keep S S' []) X0
theorem states_ok {C : Cfg} {sp : Nat} (hs : SteppedSpec (C.call sp)) : StatesSpec (runFn ⟨2, 4, bStates sp⟩ C) := by
  intro S j p1 p2 p3 many starts ends es log pl hl hl2 hlog
  rw [ok_run]
  refine ⟨rfl, ?_⟩
  show OkS (bStates sp C [some (.ref j), some (.str log), none, none] S) _
  unfold bStates
  have q1 : atI [D.int many, .ref p1, .ref p2, .ref p3] 1 = some (.ref p1) := rfl
  rw [oks_seq, oks_set]
  simp
  rw [p_item pl.hj]
  refine ⟨_, q1, ?_⟩
  rw [p_sortset pl.h1 hl2]
  have kI : Keep S (S.push (.lst (intD (sortU starts)))) [] := Keep.push _
  have gI : (S.push (.lst (intD (sortU starts)))).get S.size = some (.lst (intD (sortU starts))) := Store.get_push_same _ _
  generalize S.push (.lst (intD (sortU starts))) = S1 at kI gI
  rw [oks_seq, oks_for]
  simp
  refine for_seq (xs := sgn log) (by rw [sgn_len]; unfold turns; omega) (fun i σ S' => (∃ r x3, σ = [some (.ref j), some (.str log), some (.ref r), x3] ∧ S.size ≤ r ∧ S'.get r = some (.lst (intD (aft es (sortU starts) (log.take i))))) ∧ Keep S S' []) ⟨⟨_, none, rfl, Nat.le_refl _, gI⟩, kI⟩ ?_ ?_
  · rintro i d σ S' hd ⟨⟨r, x3, rfl, hr, gr⟩, kp⟩
    obtain ⟨ch, hc, rfl⟩ := sgn_at hd
    refine ⟨_, by simp; rfl, ?_⟩
    rw [oks_set]
    simp
    refine (hs (pl.keep kp (by simp) (by simp) (by simp) (by simp)) hl gr).imp fun v S2 ⟨r2, e, hr2, g2, k2⟩ => ?_
    subst e
    have ht : log.take (i + 1) = log.take i ++ [ch] := by rw [List.take_succ, hc]; rfl
    have ea : aft es (sortU starts) (log.take (i + 1)) = stepS es (aft es (sortU starts) (log.take i)) [ch] := by
      rw [ht]
      unfold aft
      rw [List.foldl_append]
      rfl
    rw [ea]
    have := kp.le
    exact ⟨⟨r2, rfl, by omega, g2⟩, kp.trans k2⟩
  · rintro σ S' ⟨⟨r, x3, rfl, hr, gr⟩, kp⟩
    rw [sgn_len, List.take_length] at gr
    dsimp only
    rw [oks_ret]
    simp
    exact ⟨hr, gr, kp⟩
def HasLSpec (call : List D → M D) : Prop := ∀ {S : Store} {j p1 p2 p3 many : Nat} {starts ends : List Int} {es : List Ed} {log : List Nat}, Plan S j p1 p2 p3 many starts ends es → es.length < 64 → starts.length < 64 → log.length ≤ 1000000 →
  Ok (call [.ref j, .str log] S) (fun v S' => v = .bl ((aft es (sortU starts) log).any fun x => decide (x ∈ ends)) ∧ Keep S S' []) X0
theorem filter_any {α : Type} (p : α → Bool) (l : List α) : (!decide (l.filter p = [])) = l.any p := by
  induction l with
  | nil => rfl
  | cons a r ih =>
    rw [List.filter_cons, List.any_cons]
    cases h : p a with
    | true => simp
    | false => simpa using ih
def inI (ends : List Int) : D → Bool
  | .int i => decide (i ∈ ends)
  | _ => false
theorem intD_filter (ends ns : List Int) : (intD ns).filter (inI ends) = intD (ns.filter fun x => decide (x ∈ ends)) := by
  unfold intD
  rw [List.filter_map]
  rfl
theorem has_ok {C : Cfg} {sts : Nat} (hs : StatesSpec (C.call sts)) : HasLSpec (runFn ⟨2, 3, bHas sts⟩ C) := by
  intro S j p1 p2 p3 many starts ends es log pl hl hl2 hlog
  rw [ok_run]
  refine ⟨rfl, ?_⟩
  show OkS (bHas sts C [some (.ref j), some (.str log), none] S) _
  unfold bHas
  have q2 : atI [D.int many, .ref p1, .ref p2, .ref p3] 2 = some (.ref p2) := rfl
  rw [oks_ret]
  simp [ok_lc, wipe]
  refine (hs pl hl hl2 hlog).imp fun v S1 ⟨r, e, hr, gr, k1⟩ => ?_
  subst e
  rw [p_itL gr]
  have h1 := len_aft es log (sortU starts)
  have h2 := len_sortU starts
  refine Ok.imp (lc_fml (inI ends) (fun d => d) gr (by unfold intD; rw [List.length_map]; omega) fun i d S' hd k2 => ?_) ?_
  · unfold intD at hd
    rw [List.getElem?_map] at hd
    obtain ⟨z, hz, rfl⟩ := Option.map_eq_some_iff.mp hd
    have pl' := pl.keep (k1.trans k2) (by simp) (by simp) (by simp) (by simp)
    refine ⟨_, rfl, ?_⟩
    simp
    rw [p_item pl'.hj]
    refine ⟨_, q2, ?_⟩
    rw [p_inIL pl'.h2]
    by_cases h3 : z ∈ ends
    · simp [h3, inI, Keep.refl]
    · simp [h3, inI, Keep.refl]
  · rintro _ S2 ⟨g, k2⟩
    rw [List.map_id', intD_filter] at g
    have kL : Keep S2 (S2.push (.lst [])) [] := Keep.push _
    have gL : (S2.push (.lst [])).get S2.size = some (.lst (intD [])) := Store.get_push_same _ _
    rw [p_neInts (kL.get g (by simp)) gL, filter_any]
    exact ⟨rfl, (k1.trans k2).trans kL⟩
theorem ok_body {ar sl : Nat} {b : MS} {as : List D} {σ0 : Slots} {Q : D → Store → Prop} (h : as.length = ar) (he : as.map some ++ List.replicate (sl - as.length) none = σ0)
    (hb : OkS (b C σ0 S) { nx := fun _ S' => Q .non S', rt := Q, ex := fun c fs _ S' => E c fs S' }) : Ok (runFn ⟨ar, sl, b⟩ C as S) Q E := by
  rw [ok_run]
  subst he
  exact ⟨h, hb⟩
theorem abc_len {sg : Nat} : (abcN sg).length ≤ 3 := by unfold abcN; rw [List.length_take]; simp; omega
theorem tgts_in {es : List Ed} {many : Nat} (h : ∀ e ∈ es, inR many e.2.2) (states : List Int) (s : List Nat) : ∀ x ∈ stepS es states s, inR many x := by
  intro x hx
  obtain ⟨e, he, rfl⟩ := List.mem_map.mp (mem_sortU.mp hx)
  exact h e (List.mem_filter.mp he).1
theorem aft_in {es : List Ed} {many : Nat} (h : ∀ e ∈ es, inR many e.2.2) : ∀ (log : List Nat) (st : List Int), (∀ x ∈ st, inR many x) → ∀ x ∈ aft es st log, inR many x
  | [], st, hs => hs
  | c :: r, st, hs => aft_in h r (stepS es st [c]) (tgts_in h st [c])
theorem sortU_in {many : Nat} {l : List Int} (h : ∀ x ∈ l, inR many x) : ∀ x ∈ sortU l, inR many x := fun x hx => h x (mem_sortU.mp hx)
end
end MP
namespace MP
open PySem (PyData)
section
variable {S : Store} {Q : D → Store → Prop} {C : Cfg} {σ : Slots} {T : Pt} {E : Nat → Fs → Store → Prop}
def bRemStart (rq : Nat) : MS := sSeq (sExpr (eMeth [(12, rq)] (eVar 0) (aCons (eVar 1) (aNil)) [])) (sSeq (sIf (MP.tB (e2 opNotIn (eVar 1) (eFld [12] 10 (eVar 0)))) (sRet (eC (.bl false))) (sPass)) (sSeq (sExpr (eBM tyLst mRemove (eFld [12] 10 (eVar 0)) (aCons (eVar 1) (aNil)))) (sRet (eC (.bl true)))))
def bRemEnd (rq : Nat) : MS := sSeq (sExpr (eMeth [(12, rq)] (eVar 0) (aCons (eVar 1) (aNil)) [])) (sSeq (sIf (MP.tB (e2 opNotIn (eVar 1) (eFld [12] 11 (eVar 0)))) (sRet (eC (.bl false))) (sPass)) (sSeq (sExpr (eBM tyLst mRemove (eFld [12] 11 (eVar 0)) (aCons (eVar 1) (aNil)))) (sRet (eC (.bl true)))))
def bTwin (ini : Nat) : MS := sSeq (sSet (.nm 1) (eNew 12 ini (aCons (eFld [12] 7 (eVar 0)) (aCons (eFld [12] 8 (eVar 0)) (aNil))) [])) (sSeq (sFld [12] 9 (eVar 1) (eB bListX (aCons (eFld [12] 9 (eVar 0)) (aNil)))) (sSeq (sFld [12] 10 (eVar 1) (eB bListX (aCons (eFld [12] 10 (eVar 0)) (aNil)))) (sSeq (sFld [12] 11 (eVar 1) (eB bListX (aCons (eFld [12] 11 (eVar 0)) (aNil)))) (sRet (eVar 1)))))
def bPair : MS := sIf (MP.tB (e2 opNe (eFld [12] 7 (e2 opItem (eVar 0) (eC (.int 0)))) (eFld [12] 7 (e2 opItem (eVar 0) (eC (.int 1)))))) (sRaise 3 [] aNil) (sPass)
theorem find_ints (i : Int) : ∀ ns : List Int, (ns.map PyData.int).findIdx? (fun b => PyData.eqv b (.int i)) = ns.findIdx? (fun x => i == x)
  | [] => rfl
  | x :: ns => by
    have z : PyData.eqv (.int x) (.int i) = (i == x) := by
      show (x == i) = (i == x)
      rw [Bool.eq_iff_iff, beq_iff_eq, beq_iff_eq]
      exact ⟨fun h => h.symm, fun h => h.symm⟩
    rw [List.map_cons, List.findIdx?_cons, List.findIdx?_cons, z, find_ints i ns]
theorem p_removeI {n : Nat} {ns : List Int} {i : Int} (h : S.get n = some (.lst (intD ns))) (hm : i ∈ ns) : OkP (mRemove (.ref n) [.int i] S) Q = Q .non (S.set n (.lst (intD (ns.erase i)))) := by
  have e2 : snaps S deep (intD ns) = some (ns.map PyData.int) := snap_ints S 39 ns
  have e3 : snap S deep (.int i) = some (.int i) := rfl
  unfold mRemove
  simp only [h, e2, e3, find_ints]
  rw [List.erase_eq_eraseP, List.eraseP_eq_eraseIdx]
  cases hf : ns.findIdx? (fun x => i == x) with
  | none =>
    exfalso
    have := List.findIdx?_eq_none_iff.mp hf i hm
    simp at this
  | some j =>
    simp only [okp_some]
    unfold intD
    rw [map_erase]
theorem p_listR {n : Nat} {xs : List D} (h : S.get n = some (.lst xs)) : OkP (bListX [.ref n] S) Q = Q (.ref S.size) (S.push (.lst xs)) := by
  unfold bListX bListS lstAt
  simp only [h]
  rfl
def RemStartSpec (call : List D → M D) : Prop := ∀ {S : Store} {n a b c sg st : Nat} {kept : List Ed} {first last : List Int} {s : Int}, Mach S n a b c sg st kept first last →
  Ok (call [.ref n, .int s] S) (fun v S' => inR st s ∧ v = .bl (decide (s ∈ first)) ∧ Keep S S' [b] ∧ Mach S' n a b c sg st kept (first.erase s) last) (fun k fs S' => ¬ inR st s ∧ k = 5 ∧ fs = [(3, .int s)] ∧ S' = S)
theorem remstart_ok {C : Cfg} {rq : Nat} (hr : ReqSpec (C.call rq)) : RemStartSpec (runFn ⟨2, 2, bRemStart rq⟩ C) := by
  intro S n a b c sg st kept first last s m
  rw [ok_run]
  refine ⟨rfl, ?_⟩
  show OkS (bRemStart rq C [some (.ref n), some (.int s)] S) _
  unfold bRemStart
  have lt := m.lt
  have ne2 := m.ne2
  have ne1 := m.ne
  rw [oks_seq, oks_expr]
  simp [meth_at m.hn]
  refine (hr m).mono (fun v S1 ⟨e, h1, e2⟩ => ?_) (fun k fs S1 ⟨h1, e1, e2, e3⟩ => ⟨h1, e1, e2, e3⟩)
  subst e; subst e2
  rw [oks_seq, oks_if]
  simp
  rw [p_fld m.hn rfl (d := .ref b) rfl, p_notinIL m.hb]
  by_cases hm : s ∈ first
  · simp [hm]
    rw [oks_pass]
    dsimp only
    rw [oks_seq, oks_expr]
    simp
    rw [p_fld m.hn rfl (d := .ref b) rfl]
    refine ⟨by simp [tyLst, m.hb], ?_⟩
    rw [p_removeI m.hb hm]
    rw [oks_ret]
    simp
    have kk : Keep S1 (S1.set b (.lst (intD (first.erase s)))) [b] := Keep.set _ lt.2.2.1 (by simp)
    exact ⟨h1, kk, ⟨kk.get m.hn (by simp; omega), kk.get m.ha (by simp; omega), Store.get_set_same _ lt.2.2.1, kk.get m.hc (by simp; omega), m.ne⟩⟩
  · simp [hm]
    rw [oks_ret]
    simp
    refine ⟨h1, Keep.refl, ?_⟩
    rw [List.erase_of_not_mem hm]
    exact m
def RemEndSpec (call : List D → M D) : Prop := ∀ {S : Store} {n a b c sg st : Nat} {kept : List Ed} {first last : List Int} {s : Int}, Mach S n a b c sg st kept first last →
  Ok (call [.ref n, .int s] S) (fun v S' => inR st s ∧ v = .bl (decide (s ∈ last)) ∧ Keep S S' [c] ∧ Mach S' n a b c sg st kept first (last.erase s)) (fun k fs S' => ¬ inR st s ∧ k = 5 ∧ fs = [(3, .int s)] ∧ S' = S)
theorem remend_ok {C : Cfg} {rq : Nat} (hr : ReqSpec (C.call rq)) : RemEndSpec (runFn ⟨2, 2, bRemEnd rq⟩ C) := by
  intro S n a b c sg st kept first last s m
  rw [ok_run]
  refine ⟨rfl, ?_⟩
  show OkS (bRemEnd rq C [some (.ref n), some (.int s)] S) _
  unfold bRemEnd
  have lt := m.lt
  have ne2 := m.ne2
  have ne1 := m.ne
  rw [oks_seq, oks_expr]
  simp [meth_at m.hn]
  refine (hr m).mono (fun v S1 ⟨e, h1, e2⟩ => ?_) (fun k fs S1 ⟨h1, e1, e2, e3⟩ => ⟨h1, e1, e2, e3⟩)
  subst e; subst e2
  rw [oks_seq, oks_if]
  simp
  rw [p_fld m.hn rfl (d := .ref c) rfl, p_notinIL m.hc]
  by_cases hm : s ∈ last
  · simp [hm]
    rw [oks_pass]
    dsimp only
    rw [oks_seq, oks_expr]
    simp
    rw [p_fld m.hn rfl (d := .ref c) rfl]
    refine ⟨by simp [tyLst, m.hc], ?_⟩
    rw [p_removeI m.hc hm]
    rw [oks_ret]
    simp
    have kk : Keep S1 (S1.set c (.lst (intD (last.erase s)))) [c] := Keep.set _ lt.2.2.2 (by simp)
    exact ⟨h1, kk, ⟨kk.get m.hn (by simp; omega), kk.get m.ha (by simp; omega), kk.get m.hb (by simp; omega), Store.get_set_same _ lt.2.2.2, m.ne⟩⟩
  · simp [hm]
    rw [oks_ret]
    simp
    refine ⟨h1, Keep.refl, ?_⟩
    rw [List.erase_of_not_mem hm]
    exact m
def TwinSpec (call : List D → M D) : Prop := ∀ {S : Store} {n a b c sg st : Nat} {kept : List Ed} {first last : List Int}, Mach S n a b c sg st kept first last → 1 ≤ sg → sg ≤ 3 → 1 ≤ st → st ≤ 6 →
  Ok (call [.ref n] S) (fun v S' => ∃ n' a' b' c', v = .ref n' ∧ Mach S' n' a' b' c' sg st kept first last ∧ (S.size ≤ n' ∧ n' < a' ∧ a' < b' ∧ b' < c') ∧ Keep S S' []) X0
theorem twin_ok {C : Cfg} {ini : Nat} (hi : InitSpec (C.call ini)) : TwinSpec (runFn ⟨1, 2, bTwin ini⟩ C) := by
  intro S n a b c sg st kept first last m g1 g3 t1 t6
  rw [ok_run]
  refine ⟨rfl, ?_⟩
  show OkS (bTwin ini C [some (.ref n), none] S) _
  unfold bTwin
  rw [oks_seq, oks_set]
  simp
  rw [p_fld m.hn rfl (d := .int sg) rfl, p_fld m.hn rfl (d := .int st) rfl]
  have kI : Keep S (S.push (.ins 12 [])) [] := Keep.push _
  have gI : (S.push (.ins 12 [])).get S.size = some (.ins 12 []) := Store.get_push_same _ _
  have zI : (S.push (.ins 12 [])).size = S.size + 1 := Store.size_push _ _
  generalize S.push (.ins 12 []) = S1 at kI gI zI
  refine (hi gI (dk := .int sg) (dn := .int st) rfl rfl rfl rfl).mono (fun v S2 ⟨e, _, _, sg', st', a', b', c', e1, e2, hl, m1, k2⟩ => ?_) (fun k fs S2 ⟨e1, h, e3⟩ => ?_)
  · have e1 : sg = sg' := by cases e1; rfl
    have e2 : st = st' := by cases e2; rfl
    subst e1; subst e2
    refine ⟨e, ?_⟩
    have k0 : Keep S S2 [] := kI.drop k2 (Nat.le_refl _)
    have m2 := m.keep k0 (by simp) (by simp) (by simp) (by simp)
    have lt := m.lt
    have hn1 := m1.hn
    have l1 := Store.get_lt hn1
    have le2 := k2.le
    -- the edges
    rw [oks_seq, oks_fld]
    simp
    rw [p_fld m2.hn rfl (d := .ref a) rfl, p_listR m2.ha]
    have kA : Keep S2 (S2.push (.lst (kept.map eD))) [] := Keep.push _
    have gA : (S2.push (.lst (kept.map eD))).get S2.size = some (.lst (kept.map eD)) := Store.get_push_same _ _
    have zA : (S2.push (.lst (kept.map eD))).size = S2.size + 1 := Store.size_push _ _
    have m3 := m2.keep kA (by simp) (by simp) (by simp) (by simp)
    have hn3 := kA.get hn1 (by simp)
    generalize S2.push (.lst (kept.map eD)) = S3 at kA gA zA m3 hn3 ⊢
    rw [p_putFld hn3 rfl (by simp)]
    have l3 := Store.get_lt hn3
    have kB : Keep S3 (S3.set S.size (.ins 12 (fput 9 (.ref S2.size) [(7, .int sg), (8, .int st), (9, .ref a'), (10, .ref b'), (11, .ref c')]))) [S.size] := Keep.set _ l3 (by simp)
    have hn4 : (S3.set S.size (.ins 12 (fput 9 (.ref S2.size) [(7, .int sg), (8, .int st), (9, .ref a'), (10, .ref b'), (11, .ref c')]))).get S.size = some (.ins 12 [(7, .int sg), (8, .int st), (9, .ref S2.size), (10, .ref b'), (11, .ref c')]) := Store.get_set_same _ l3
    have m4 := m3.keep kB (by simp; omega) (by simp; omega) (by simp; omega) (by simp; omega)
    have gA4 := kB.get gA (by simp; omega)
    have z4 : (S3.set S.size (.ins 12 (fput 9 (.ref S2.size) [(7, .int sg), (8, .int st), (9, .ref a'), (10, .ref b'), (11, .ref c')]))).size = S3.size := Store.size_set _ _ _
    generalize S3.set S.size (.ins 12 (fput 9 (.ref S2.size) [(7, .int sg), (8, .int st), (9, .ref a'), (10, .ref b'), (11, .ref c')])) = S4 at kB hn4 m4 gA4 z4 ⊢
    -- the starts
    rw [oks_seq, oks_fld]
    simp
    rw [p_fld m4.hn rfl (d := .ref b) rfl, p_listR m4.hb]
    have kC : Keep S4 (S4.push (.lst (intD first))) [] := Keep.push _
    have gC : (S4.push (.lst (intD first))).get S4.size = some (.lst (intD first)) := Store.get_push_same _ _
    have zC : (S4.push (.lst (intD first))).size = S4.size + 1 := Store.size_push _ _
    have m5 := m4.keep kC (by simp) (by simp) (by simp) (by simp)
    have hn5 := kC.get hn4 (by simp)
    have gA5 := kC.get gA4 (by simp)
    generalize S4.push (.lst (intD first)) = S5 at kC gC zC m5 hn5 gA5 ⊢
    rw [p_putFld hn5 rfl (by simp)]
    have l5 := Store.get_lt hn5
    have kD : Keep S5 (S5.set S.size (.ins 12 (fput 10 (.ref S4.size) [(7, .int sg), (8, .int st), (9, .ref S2.size), (10, .ref b'), (11, .ref c')]))) [S.size] := Keep.set _ l5 (by simp)
    have hn6 : (S5.set S.size (.ins 12 (fput 10 (.ref S4.size) [(7, .int sg), (8, .int st), (9, .ref S2.size), (10, .ref b'), (11, .ref c')]))).get S.size = some (.ins 12 [(7, .int sg), (8, .int st), (9, .ref S2.size), (10, .ref S4.size), (11, .ref c')]) := Store.get_set_same _ l5
    have m6 := m5.keep kD (by simp; omega) (by simp; omega) (by simp; omega) (by simp; omega)
    have gA6 := kD.get gA5 (by simp; omega)
    have gC6 := kD.get gC (by simp; omega)
    have z6 : (S5.set S.size (.ins 12 (fput 10 (.ref S4.size) [(7, .int sg), (8, .int st), (9, .ref S2.size), (10, .ref b'), (11, .ref c')]))).size = S5.size := Store.size_set _ _ _
    generalize S5.set S.size (.ins 12 (fput 10 (.ref S4.size) [(7, .int sg), (8, .int st), (9, .ref S2.size), (10, .ref b'), (11, .ref c')])) = S6 at kD hn6 m6 gA6 gC6 z6 ⊢
    -- the ends
    rw [oks_seq, oks_fld]
    simp
    rw [p_fld m6.hn rfl (d := .ref c) rfl, p_listR m6.hc]
    have kE : Keep S6 (S6.push (.lst (intD last))) [] := Keep.push _
    have gE : (S6.push (.lst (intD last))).get S6.size = some (.lst (intD last)) := Store.get_push_same _ _
    have hn7 := kE.get hn6 (by simp)
    have gA7 := kE.get gA6 (by simp)
    have gC7 := kE.get gC6 (by simp)
    generalize S6.push (.lst (intD last)) = S7 at kE gE hn7 gA7 gC7 ⊢
    rw [p_putFld hn7 rfl (by simp)]
    have l7 := Store.get_lt hn7
    have l8 := Store.get_lt gE
    have kF : Keep S7 (S7.set S.size (.ins 12 (fput 11 (.ref S6.size) [(7, .int sg), (8, .int st), (9, .ref S2.size), (10, .ref S4.size), (11, .ref c')]))) [S.size] := Keep.set _ l7 (by simp)
    rw [oks_ret]
    simp
    refine ⟨_, _, _, ⟨Store.get_set_same _ l7, kF.get gA7 (by simp; omega), kF.get gC7 (by simp; omega), kF.get gE (by simp; omega), by omega, by omega, by omega⟩, ⟨by omega, by omega, by omega⟩, ?_⟩
    exact ((((((k0.trans kA).drop kB (by omega)).trans kC).drop kD (by omega)).trans kE).drop kF (by omega))
  · exfalso
    rcases h with ⟨h, _⟩ | ⟨_, h, _⟩
    · have : isIntD 1 3 (.int sg) = true := by simp [isIntD]; omega
      rw [this] at h; cases h
    · have : isIntD 1 6 (.int st) = true := by simp [isIntD]; omega
      rw [this] at h; cases h
def PairSpec (call : List D → M D) : Prop := ∀ {S : Store} {n1 a1 b1 c1 s1 t1 n2 a2 b2 c2 s2 t2 : Nat} {k1 k2 : List Ed} {f1 l1 f2 l2 : List Int}, Mach S n1 a1 b1 c1 s1 t1 k1 f1 l1 → Mach S n2 a2 b2 c2 s2 t2 k2 f2 l2 →
  Ok (call [.tup [.ref n1, .ref n2]] S) (fun v S' => v = .non ∧ s1 = s2 ∧ S' = S) (fun k fs S' => k = 3 ∧ s1 ≠ s2 ∧ fs = [] ∧ S' = S)
theorem pair_ok {C : Cfg} : PairSpec (runFn ⟨1, 1, bPair⟩ C) := by
  intro S n1 a1 b1 c1 s1 t1 n2 a2 b2 c2 s2 t2 k1 k2 f1 l1 f2 l2 m1 m2
  rw [ok_run]
  refine ⟨rfl, ?_⟩
  show OkS (bPair C [some (.tup [.ref n1, .ref n2])] S) _
  unfold bPair
  have q0 : atI [D.ref n1, .ref n2] 0 = some (.ref n1) := rfl
  have q1 : atI [D.ref n1, .ref n2] 1 = some (.ref n2) := rfl
  rw [oks_if]
  simp [q0, q1]
  rw [p_fld m1.hn rfl (d := .int s1) rfl]
  rw [p_fld m2.hn rfl (d := .int s2) rfl]
  simp
  by_cases h : s1 = s2
  · have h' : (s1 : Int) = s2 := by omega
    simp [h', h]
    rw [oks_pass]
  · have h' : ¬ (s1 : Int) = s2 := by omega
    simp [h', h]
    rw [oks_raise]
    simp [h]
structure Ad where
  n : Nat
  a : Nat
  b : Nat
  c : Nat
  j : Nat
  p1 : Nat
  p2 : Nat
  p3 : Nat
def Ad.all (d : Ad) : List Nat := [d.n, d.a, d.b, d.c, d.j, d.p1, d.p2, d.p3]
structure Duo (S : Store) (d : Ad) (sg many : Nat) (starts ends : List Int) (es : List Ed) : Prop where
  m : Mach S d.n d.a d.b d.c sg many es starts ends
  pl : Plan S d.j d.p1 d.p2 d.p3 many starts ends es
  nd : d.all.Nodup
theorem Duo.keep {S S' : Store} {d : Ad} {sg many : Nat} {starts ends : List Int} {es : List Ed} {ex : List Nat} (h : Duo S d sg many starts ends es) (k : Keep S S' ex) (z : ∀ x ∈ d.all, x ∉ ex) : Duo S' d sg many starts ends es :=
  ⟨h.m.keep k (z _ (by simp [Ad.all])) (z _ (by simp [Ad.all])) (z _ (by simp [Ad.all])) (z _ (by simp [Ad.all])), h.pl.keep k (z _ (by simp [Ad.all])) (z _ (by simp [Ad.all])) (z _ (by simp [Ad.all])) (z _ (by simp [Ad.all])), h.nd⟩
theorem Duo.keep0 {S S' : Store} {d : Ad} {sg many : Nat} {starts ends : List Int} {es : List Ed} (h : Duo S d sg many starts ends es) (k : Keep S S' []) : Duo S' d sg many starts ends es := h.keep k fun _ _ z => nomatch z
theorem Duo.lt {S : Store} {d : Ad} {sg many : Nat} {starts ends : List Int} {es : List Ed} (h : Duo S d sg many starts ends es) : ∀ x ∈ d.all, x < S.size := by
  intro x hx
  obtain ⟨l1, l2, l3, l4⟩ := h.m.lt
  have l5 := Store.get_lt h.pl.hj
  have l6 := Store.get_lt h.pl.h1
  have l7 := Store.get_lt h.pl.h2
  have l8 := Store.get_lt h.pl.h3
  simp [Ad.all] at hx
  rcases hx with rfl | rfl | rfl | rfl | rfl | rfl | rfl | rfl <;> assumption
theorem nodup_ix {α : Type} {l : List α} (h : l.Nodup) {i j : Nat} {x y : α} (hx : l[i]? = some x) (hy : l[j]? = some y) (ne : i ≠ j) : x ≠ y := by
  obtain ⟨h1, e1⟩ := List.getElem?_eq_some_iff.mp hx
  obtain ⟨h2, e2⟩ := List.getElem?_eq_some_iff.mp hy
  have key : ∀ {i j : Nat} (hi : i < l.length) (hj : j < l.length), i < j → l[i] ≠ l[j] := fun hi hj hij => List.pairwise_iff_getElem.mp h _ _ hi hj hij
  intro e
  rcases Nat.lt_or_gt_of_ne ne with z | z
  · exact key h1 h2 z (by rw [e1, e2, e])
  · exact key h2 h1 z (by rw [e1, e2, e])
theorem Ad.j_a {d : Ad} (h : d.all.Nodup) : d.j ≠ d.a := nodup_ix h (i := 4) (j := 1) rfl rfl (by decide)
theorem Ad.p1_a {d : Ad} (h : d.all.Nodup) : d.p1 ≠ d.a := nodup_ix h (i := 5) (j := 1) rfl rfl (by decide)
theorem Ad.p2_a {d : Ad} (h : d.all.Nodup) : d.p2 ≠ d.a := nodup_ix h (i := 6) (j := 1) rfl rfl (by decide)
theorem Ad.p3_a {d : Ad} (h : d.all.Nodup) : d.p3 ≠ d.a := nodup_ix h (i := 7) (j := 1) rfl rfl (by decide)
theorem Plan.outA {S S' : Store} {d : Ad} {many : Nat} {starts ends : List Int} {es : List Ed} (h : Plan S d.j d.p1 d.p2 d.p3 many starts ends es) (nd : d.all.Nodup) (k : Keep S S' [d.a]) : Plan S' d.j d.p1 d.p2 d.p3 many starts ends es :=
  h.keep k (by simp [Ad.j_a nd]) (by simp [Ad.p1_a nd]) (by simp [Ad.p2_a nd]) (by simp [Ad.p3_a nd])
theorem Pen.out {S S' : Store} {k q x : Nat} {d : Ad} (P : Pen S k q) (kp : Keep S S' [x]) (hx : x ∈ d.all) (hk : k ∉ d.all) (hq : q ∉ d.all) : Pen S' k q :=
  P.keep kp (by rw [List.mem_singleton]; exact fun e => hk (e ▸ hx)) (by rw [List.mem_singleton]; exact fun e => hq (e ▸ hx))
theorem Keep.to {S S' : Store} {k x : Nat} {d : Ad} (kp : Keep S S' [x]) (hx : x ∈ d.all) : Keep S S' (k :: d.all) := kp.weak fun y hy => by
  rw [List.mem_singleton] at hy
  rw [hy]
  exact List.mem_cons_of_mem _ hx
theorem Ad.mem {d : Ad} : d.a ∈ d.all ∧ d.b ∈ d.all ∧ d.c ∈ d.all ∧ d.p1 ∈ d.all ∧ d.p2 ∈ d.all ∧ d.p3 ∈ d.all := by simp [Ad.all]
section
variable {k q : Nat} {d : Ad} {sg many : Nat} {starts ends : List Int} {es : List Ed} {o st : Int} {x6 x7 : Option D}
theorem FineQ.addS {s : Int} (f : FineQ sg many starts ends es) (h : inR many s) (hn : s ∉ starts) : FineQ sg many (starts ++ [s]) ends es :=
  ⟨f.lo, f.hi, by
    rw [List.nodup_append]
    exact ⟨f.s1, by simp, fun a ha b hb => by
      rw [List.mem_singleton] at hb
      subst hb
      exact fun e => hn (e ▸ ha)⟩, fun x hx => by
    rcases List.mem_append.mp hx with hx | hx
    · exact f.r1 x hx
    · rw [List.mem_singleton.mp hx]; exact h, f.s2, f.r2, f.nd, f.ok⟩
theorem FineQ.addE {s : Int} (f : FineQ sg many starts ends es) (h : inR many s) (hn : s ∉ ends) : FineQ sg many starts (ends ++ [s]) es :=
  ⟨f.lo, f.hi, f.s1, f.r1, by
    rw [List.nodup_append]
    exact ⟨f.s2, by simp, fun a ha b hb => by
      rw [List.mem_singleton] at hb
      subst hb
      exact fun e => hn (e ▸ ha)⟩, fun x hx => by
    rcases List.mem_append.mp hx with hx | hx
    · exact f.r2 x hx
    · rw [List.mem_singleton.mp hx]; exact h, f.nd, f.ok⟩
theorem FineQ.remS {s : Int} (f : FineQ sg many starts ends es) : FineQ sg many (starts.erase s) ends es :=
  ⟨f.lo, f.hi, f.s1.sublist (List.erase_sublist ..), fun x hx => f.r1 x (List.mem_of_mem_erase hx), f.s2, f.r2, f.nd, f.ok⟩
theorem FineQ.remE {s : Int} (f : FineQ sg many starts ends es) : FineQ sg many starts (ends.erase s) es :=
  ⟨f.lo, f.hi, f.s1, f.r1, f.s2.sublist (List.erase_sublist ..), fun x hx => f.r2 x (List.mem_of_mem_erase hx), f.nd, f.ok⟩
end
end
end MP
namespace MP
open PySem (PyData)
section
variable {S : Store} {Q : D → Store → Prop} {C : Cfg} {σ : Slots} {T : Pt} {E : Nat → Fs → Store → Prop}
theorem next_two {x y : D} {S' : Store} : It.next S' (.seq [x, y]) 0 = some (some x) ∧ It.next S' (.seq [x, y]) 1 = some (some y) ∧ It.next S' (.seq [x, y]) 2 = some none := by
  unfold It.next
  exact ⟨rfl, rfl, rfl⟩
theorem next_twoL {x y : D} {S' : Store} {n : Nat} (h : S'.get n = some (.lst [x, y])) : It.next S' (.lst n) 0 = some (some x) ∧ It.next S' (.lst n) 1 = some (some y) ∧ It.next S' (.lst n) 2 = some none := by
  rw [lst_next h, lst_next h, lst_next h]
  exact ⟨rfl, rfl, rfl⟩
end
structure Mc where
  sg : Nat
  many : Nat
  es : List Ed
  ss : List Int
  ls : List Int
structure Am where
  n : Nat
  a : Nat
  b : Nat
  c : Nat
def Am.all (d : Am) : List Nat := [d.n, d.a, d.b, d.c]
structure Ap where
  j : Nat
  p1 : Nat
  p2 : Nat
  p3 : Nat
def Ap.all (d : Ap) : List Nat := [d.j, d.p1, d.p2, d.p3]
abbrev MK (S : Store) (d : Am) (x : Mc) : Prop := Mach S d.n d.a d.b d.c x.sg x.many x.es x.ss x.ls
abbrev PL (S : Store) (d : Ap) (x : Mc) : Prop := Plan S d.j d.p1 d.p2 d.p3 x.many x.ss x.ls x.es
structure FineM (x : Mc) : Prop where
  q : FineQ x.sg x.many x.ss x.ls x.es
  g1 : 1 ≤ x.sg
  g3 : x.sg ≤ 3
  len : x.es.length ≤ 14
theorem MK.keepA {S S' : Store} {d : Am} {x : Mc} {ex : List Nat} (h : MK S d x) (k : Keep S S' ex) (z : ∀ w ∈ d.all, w ∉ ex) : MK S' d x :=
  Mach.keep h k (z _ (by simp [Am.all])) (z _ (by simp [Am.all])) (z _ (by simp [Am.all])) (z _ (by simp [Am.all]))
theorem MK.keep0 {S S' : Store} {d : Am} {x : Mc} (h : MK S d x) (k : Keep S S' []) : MK S' d x := MK.keepA h k fun _ _ z => nomatch z
theorem MK.ltA {S : Store} {d : Am} {x : Mc} (h : MK S d x) : ∀ w ∈ d.all, w < S.size := by
  have := Mach.lt h
  intro w hw
  simp [Am.all] at hw
  omega
theorem PL.keepA {S S' : Store} {d : Ap} {x : Mc} {ex : List Nat} (h : PL S d x) (k : Keep S S' ex) (z : ∀ w ∈ d.all, w ∉ ex) : PL S' d x :=
  Plan.keep h k (z _ (by simp [Ap.all])) (z _ (by simp [Ap.all])) (z _ (by simp [Ap.all])) (z _ (by simp [Ap.all]))
theorem PL.keep0 {S S' : Store} {d : Ap} {x : Mc} (h : PL S d x) (k : Keep S S' []) : PL S' d x := PL.keepA h k fun _ _ z => nomatch z
theorem PL.ltA {S : Store} {d : Ap} {x : Mc} (h : PL S d x) : ∀ w ∈ d.all, w < S.size := by
  have h1 := Store.get_lt h.hj
  have h2 := Store.get_lt h.h1
  have h3 := Store.get_lt h.h2
  have h4 := Store.get_lt h.h3
  intro w hw
  simp [Ap.all] at hw
  rcases hw with rfl | rfl | rfl | rfl <;> assumption
def Am.up (lo : Nat) (d : Am) : Prop := lo ≤ d.n ∧ d.n < d.a ∧ d.a < d.b ∧ d.b < d.c
def Ap.up (lo : Nat) (d : Ap) : Prop := lo ≤ d.p1 ∧ d.p1 < d.p2 ∧ d.p2 < d.p3 ∧ d.p3 < d.j
end MP
namespace MP
open PySem (PyData)
inductive Rce (es : List Ed) (X : List Int) : Int → Prop
  | base {x : Int} (h : x ∈ X) : Rce es X x
  | step {x y : Int} {s : List Nat} (h : Rce es X x) (e : (x, s, y) ∈ es) : Rce es X y
theorem Rce.in {es : List Ed} {X ks : List Int} {y : Int} (h : Rce es X y) (b : ∀ x ∈ X, x ∈ ks) (c : ∀ x ∈ ks, ∀ s z, (x, s, z) ∈ es → z ∈ ks) : y ∈ ks := by
  induction h with
  | base h => exact b _ h
  | step _ e ih => exact c _ ih _ _ e
theorem rce_in {sg many : Nat} {starts ends : List Int} {es : List Ed} (f : FineQ sg many starts ends es) {X : List Int} (hX : ∀ x ∈ X, inR many x) {y : Int} (h : Rce es X y) : inR many y := by
  induction h with
  | base h => exact hX _ h
  | step _ e _ => exact (f.ok _ e).2.1
noncomputable def canB (es : List Ed) (ends X : List Int) : Bool := @decide (∃ y, Rce es X y ∧ y ∈ ends) (Classical.propDecidable _)
theorem canB_iff {es : List Ed} {ends X : List Int} : canB es ends X = true ↔ ∃ y, Rce es X y ∧ y ∈ ends := by
  unfold canB
  exact @decide_eq_true_iff _ (Classical.propDecidable _)
structure Rse (es : List Ed) (X ks ws : List Int) (N : Int → Prop) (P : Int → Int → Prop) : Prop where
  st : ∀ a ∈ X, a ∈ ks
  nd : ks.Nodup
  rc : ∀ y ∈ ks, Rce es X y
  wk : ∀ y ∈ ws, y ∈ ks
  cl : ∀ y ∈ ks, y ∈ ws ∨ N y ∨ ∀ s z, (y, s, z) ∈ es → z ∈ ks
  pr : ∀ y z, P y z → z ∈ ks
section
variable {es : List Ed} {X ks ws : List Int} {N : Int → Prop} {P P' : Int → Int → Prop} {y z : Int}
theorem Rse.imp (h : Rse es X ks ws N P) (q : ∀ y z, P' y z → P y z) : Rse es X ks ws N P' := { h with pr := fun y z p => h.pr y z (q y z p) }
theorem Rse.pop (h : Rse es X ks (ws ++ [y]) (fun _ => False) P) : Rse es X ks ws (· = y) (fun _ _ => False) ∧ y ∈ ks :=
  ⟨⟨h.st, h.nd, h.rc, fun a ha => h.wk a (List.mem_append_left _ ha), fun a ha => by
    rcases h.cl a ha with q | q | q
    · rcases List.mem_append.mp q with q | q
      · exact .inl q
      · exact .inr (.inl (List.mem_singleton.mp q))
    · exact q.elim
    · exact .inr (.inr q), fun _ _ z => z.elim⟩, h.wk y (List.mem_append_right _ (List.mem_singleton.mpr rfl))⟩
theorem Rse.new (h : Rse es X ks ws N P) (hy : y ∈ ks) (hz : z ∉ ks) {s : List Nat} (e : (y, s, z) ∈ es) : Rse es X (ks ++ [z]) (ws ++ [z]) N fun a b => P a b ∨ (a = y ∧ b = z) where
  st := fun a q => List.mem_append_left _ (h.st a q)
  nd := by
    rw [List.nodup_append]
    exact ⟨h.nd, by simp, fun u hu v hv q => by
      rw [List.mem_singleton] at hv
      subst hv
      exact hz (q ▸ hu)⟩
  rc := fun a ha => by
    rcases List.mem_append.mp ha with ha | ha
    · exact h.rc a ha
    · rw [List.mem_singleton.mp ha]; exact .step (h.rc y hy) e
  wk := fun a ha => by
    rcases List.mem_append.mp ha with ha | ha
    · exact List.mem_append_left _ (h.wk a ha)
    · exact List.mem_append_right _ ha
  cl := fun a ha => by
    rcases List.mem_append.mp ha with ha | ha
    · rcases h.cl a ha with q | q | q
      · exact .inl (List.mem_append_left _ q)
      · exact .inr (.inl q)
      · exact .inr (.inr fun s b eb => List.mem_append_left _ (q s b eb))
    · exact .inl (List.mem_append_right _ ha)
  pr := fun a b p => by
    rcases p with p | ⟨_, p⟩
    · exact List.mem_append_left _ (h.pr a b p)
    · exact List.mem_append_right _ (List.mem_singleton.mpr p)
theorem Rse.shut (h : Rse es X ks ws (· = y) P) (q : ∀ s z, (y, s, z) ∈ es → P y z) : Rse es X ks ws (fun _ => False) (fun _ _ => False) :=
  ⟨h.st, h.nd, h.rc, h.wk, fun a ha => (h.cl a ha).elim .inl fun w => .inr (.inr (w.elim (fun e => e ▸ fun s b eb => h.pr y b (q s b eb)) id)), fun _ _ z => z.elim⟩
theorem Rse.done (h : Rse es X ks [] (fun _ => False) P) : ∀ y, y ∈ ks ↔ Rce es X y := fun y => ⟨h.rc y, fun r => r.in h.st fun a ha => (h.cl a ha).elim (fun z => nomatch z) fun w => w.elim (fun z => z.elim) id⟩
end
theorem canB_any {es : List Ed} {ends X ks : List Int} (h : ∀ y, y ∈ ks ↔ Rce es X y) : (ks.any fun x => decide (x ∈ ends)) = canB es ends X := by
  rw [Bool.eq_iff_iff, canB_iff, List.any_eq_true]
  constructor
  · rintro ⟨y, hy, q⟩
    exact ⟨y, (h y).mp hy, of_decide_eq_true q⟩
  · rintro ⟨y, hy, q⟩
    exact ⟨y, (h y).mpr hy, decide_eq_true q⟩
def bKSign (il : Nat) : MS := sIf (MP.tOr (MP.tNot (tV (eCall il (aCons (eVar 0) (aCons (eVar 1) (aNil))) []))) (MP.tB (e2 opNe (eB bLen (aCons (eVar 0) (aNil))) (eC (.int 1))))) (sRaise 0 [0] (aCons (eVar 0) aNil)) (sPass)
def bKInit (fm fp rp tw st : Nat) : MS := sSeq (sExpr (eCall rp (aCons (eVar 1) (aNil)) [])) (sSeq (sFld [19] fm (eVar 0) (eTup (aCons (eMeth [(12, tw)] (e2 opItem (eVar 1) (eC (.int 0))) aNil []) (aCons (eMeth [(12, tw)] (e2 opItem (eVar 1) (eC (.int 1))) aNil []) (aNil))))) (sFld [19] fp (eVar 0) (eB bTuple (aCons (eLc (eMeth [(12, st)] (eVar 2) aNil []) (.nm 2) (iSeq (eFld [19] fm (eVar 0))) (MP.tYes) [2]) (aNil)))))
def bKRows (fm fp : Nat) : MS := sRet (eLz (aCons (eC (.str [65, 66])) (aCons (eFld [19] fm (eVar 0)) (aCons (eFld [19] fp (eVar 0)) (aNil)))))
def bKNow (ro he : Nat) : MS := sRet (eB bTuple (aCons (eLc (eVar 1) (.tp [(.nm 1), (.nm 2), (.nm 3)]) (iSeq (eMeth [(19, ro)] (eVar 0) aNil [])) (tV (eMeth [(12, he)] (eVar 2) (aCons (eVar 3) (aNil)) [])) [1, 2, 3]) (aNil)))
def bKCan (ro re : Nat) : MS := sRet (eB bTuple (aCons (eLc (eVar 1) (.tp [(.nm 1), (.nm 2), (.nm 3)]) (iSeq (eMeth [(19, ro)] (eVar 0) aNil [])) (tV (eCall re (aCons (eVar 2) (aCons (eVar 3) (aNil))) [])) [1, 2, 3]) (aNil)))
def bKRe (ed he : Nat) : MS := sSeq (sPar 2 3 (eB bListX (aCons (eVar 1) (aNil))) (eB bListX (aCons (eVar 1) (aNil)))) (sSeq (sWhile (MP.tB (e2 opNe (eVar 3) (eLst (aNil)))) (sSeq (sSet (.nm 4) (eBM tyLst mPop0 (eVar 3) aNil)) (sFor (.tp [(.nm 5), (.nm 6), (.nm 7)]) (iSeq (eMeth [(12, ed)] (eVar 0) aNil [])) (sIf (MP.tAnd (MP.tB (e2 opEq (eVar 5) (eVar 4))) (MP.tB (e2 opNotIn (eVar 7) (eVar 2)))) (sSeq (sExpr (eBM tyLst mAppend (eVar 2) (aCons (eVar 7) (aNil)))) (sExpr (eBM tyLst mAppend (eVar 3) (aCons (eVar 7) (aNil))))) (sPass))))) (sRet (eMeth [(12, he)] (eVar 0) (aCons (eVar 2) (aNil)) [])))
section
variable {S0 S : Store} {Q : D → Store → Prop} {C : Cfg} {σ : Slots} {T : Pt} {E : Nat → Fs → Store → Prop}
def HasEndLSpec (call : List D → M D) : Prop := ∀ {S : Store} {n a b c sg st z : Nat} {kept : List Ed} {first last states : List Int}, Mach S n a b c sg st kept first last → S.get z = some (.lst (intD states)) → states.length ≤ 1000000 →
  Ok (call [.ref n, .ref z] S) (fun v S' => v = .bl (states.any fun x => decide (x ∈ last)) ∧ Keep S S' []) X0
theorem hasendL_ok : HasEndLSpec (runFn ⟨2, 3, bHasEnd⟩ C) := by
  intro S n a b c sg st z kept first last states m hz hl
  rw [ok_run]
  refine ⟨rfl, ?_⟩
  show OkS (bHasEnd C [some (.ref n), some (.ref z), none] S) _
  unfold bHasEnd
  rw [oks_ret]
  simp [ok_lc, wipe]
  rw [p_itL hz]
  refine Ok.imp (lc_fml (fun _ => true) (inL last) (xs := intD states) hz (by unfold intD; rw [List.length_map]; exact hl) fun j d S2 hd k2 => ?_) ?_
  · unfold intD at hd
    rw [List.getElem?_map] at hd
    obtain ⟨i, hi, rfl⟩ := Option.map_eq_some_iff.mp hd
    refine ⟨_, by simp; rfl, ?_⟩
    have m2 := m.keep k2 (by simp) (by simp) (by simp) (by simp)
    simp
    refine ⟨Keep.refl, ?_⟩
    rw [p_fld m2.hn rfl (d := .ref c) rfl, p_inIL m2.hc]
    exact ⟨rfl, Keep.refl⟩
  · rintro _ S2 ⟨g, k2⟩
    have e : ((intD states).filter fun _ => true).map (inL last) = (states.map fun x => decide (x ∈ last)).map D.bl := by
      rw [List.filter_eq_self.mpr fun _ _ => rfl]
      unfold intD
      rw [List.map_map, List.map_map]; rfl
    rw [e] at g
    rw [p_any g]
    refine ⟨?_, k2⟩
    rw [List.any_map]; rfl
structure RsI (S0 S : Store) (F W : Nat) (es : List Ed) (X ks ws : List Int) (N : Int → Prop) (P : Int → Int → Prop) : Prop where
  f : S.get F = some (.lst (intD ks))
  w : S.get W = some (.lst (intD ws))
  l : Rse es X ks ws N P
  k : Keep S0 S []
  fr : S0.size ≤ F ∧ S0.size ≤ W ∧ F ≠ W
def bKReV : MS := sIf (MP.tAnd (MP.tB (e2 opEq (eVar 5) (eVar 4))) (MP.tB (e2 opNotIn (eVar 7) (eVar 2)))) (sSeq (sExpr (eBM tyLst mAppend (eVar 2) (aCons (eVar 7) (aNil)))) (sExpr (eBM tyLst mAppend (eVar 3) (aCons (eVar 7) (aNil))))) (sPass)
theorem krev_ok {sg many F W : Nat} {starts ends : List Int} {es : List Ed} {X : List Int} {o0 : D} {d1 : D} {y t o : Int} {s : D} {ks ws : List Int} {N : Int → Prop} {P : Int → Int → Prop}
    (h : RsI S0 S F W es X ks ws N P) (f : FineQ sg many starts ends es) (hx : ∀ x ∈ X, inR many x) (hy : y ∈ ks) {l : List Nat} (he : (o, l, t) ∈ es) (hw : ws.length ≤ 100)
    (nx : ∀ S1 ks1 ws1, RsI S0 S1 F W es X ks1 ws1 N (fun a b => P a b ∨ (a = y ∧ o = y ∧ b = t)) → y ∈ ks1 → (∃ i : Nat, ks1.length = ks.length + i ∧ ws1.length = ws.length + i) → T.nx [some o0, some d1, some (.ref F), some (.ref W), some (.int y), some (.int o), some s, some (.int t)] S1) :
    OkS (bKReV C [some o0, some d1, some (.ref F), some (.ref W), some (.int y), some (.int o), some s, some (.int t)] S) T := by
  unfold bKReV
  have hl : ks.length ≤ many := inR_len h.l.nd fun q hq => rce_in f hx (h.l.rc q hq)
  have hm := f.hi
  have skip : ¬ (o = y ∧ t ∉ ks) → T.nx [some o0, some d1, some (.ref F), some (.ref W), some (.int y), some (.int o), some s, some (.int t)] S := fun no => by
    refine nx S ks ws { h with l := { h.l with pr := fun a b q => ?_ } } hy ⟨0, rfl, rfl⟩
    rcases q with q | ⟨q1, q2, q5⟩
    · exact h.l.pr a b q
    · rw [q5]
      exact Classical.byContradiction fun z => no ⟨q2, z⟩
  rw [oks_if]
  simp
  by_cases h1 : o = y
  · refine .inr ⟨h1, ?_⟩
    rw [p_notinIL h.f]
    by_cases h3 : t ∈ ks
    · refine .inl ⟨by simp [h3], ?_⟩
      rw [oks_pass]
      exact skip fun z => z.2 h3
    · refine .inr ⟨by simp [h3], ?_⟩
      rw [oks_seq, oks_expr]
      simp
      refine ⟨tyLst_of h.f, ?_⟩
      rw [p_append h.f]
      have lF := Store.get_lt h.f
      have e1 : intD ks ++ [.int t] = intD (ks ++ [t]) := by unfold intD; rw [List.map_append]; rfl
      rw [e1]
      have k1 : Keep S (S.set F (.lst (intD (ks ++ [t])))) [F] := Keep.set _ lF (by simp)
      have g1 : (S.set F (.lst (intD (ks ++ [t])))).get F = some (.lst (intD (ks ++ [t]))) := Store.get_set_same _ lF
      have w1 := k1.get h.w (by simpa using h.fr.2.2.symm)
      have kk : Keep S0 (S.set F (.lst (intD (ks ++ [t])))) [] := h.k.set_new _ h.fr.1 lF
      refine ⟨by unfold intD; rw [List.length_map]; unfold line; omega, ?_⟩
      generalize S.set F (.lst (intD (ks ++ [t]))) = S1 at k1 g1 w1 kk ⊢
      rw [oks_expr]
      simp
      refine ⟨tyLst_of w1, ?_⟩
      rw [p_append w1]
      have lW := Store.get_lt w1
      have e2 : intD ws ++ [.int t] = intD (ws ++ [t]) := by unfold intD; rw [List.map_append]; rfl
      rw [e2]
      refine ⟨by unfold intD; rw [List.length_map]; unfold line; omega, ?_⟩
      have k2 : Keep S1 (S1.set W (.lst (intD (ws ++ [t])))) [W] := Keep.set _ lW (by simp)
      refine nx _ (ks ++ [t]) (ws ++ [t]) ⟨k2.get g1 (by simpa using h.fr.2.2), Store.get_set_same _ lW, (h.l.new hy h3 (h1 ▸ he)).imp fun a b q => ?_, kk.set_new _ h.fr.2.1 lW, h.fr⟩ (List.mem_append_left _ hy) ⟨1, by simp, by simp⟩
      exact q.imp id fun ⟨q1, _, q2⟩ => ⟨q1, q2⟩
  · refine .inl ⟨h1, ?_⟩
    rw [oks_pass]
    exact skip fun z => h1 z.1
def KReSpec (call : List D → M D) : Prop := ∀ {S : Store} {d : Am} {x : Mc} {X : List Int}, MK S d x → FineM x → X.Nodup → (∀ y ∈ X, inR x.many y) →
  Ok (call [.ref d.n, .tup (intD X)] S) (fun v S' => v = .bl (canB x.es x.ls X) ∧ Keep S S' []) X0
theorem kre_ok {ed he : Nat} (hed : EdgesSpec (C.call ed)) (hhe : HasEndLSpec (C.call he)) : KReSpec (runFn ⟨2, 8, bKRe ed he⟩ C) := by
  intro S d x X m fm nd hX
  refine ok_body rfl (σ0 := [some (.ref d.n), some (.tup (intD X)), none, none, none, none, none, none]) rfl ?_
  unfold bKRe
  have f := fm.q
  have hm := f.hi
  have hlX : X.length ≤ x.many := inR_len nd hX
  rw [oks_seq, oks_par]
  simp
  rw [p_listT]
  have kA : Keep S (S.push (.lst (intD X))) [] := Keep.push _
  have gA : (S.push (.lst (intD X))).get S.size = some (.lst (intD X)) := Store.get_push_same _ _
  have zA : (S.push (.lst (intD X))).size = S.size + 1 := Store.size_push _ _
  generalize hF : S.size = F at gA zA ⊢
  generalize S.push (.lst (intD X)) = S1 at kA gA zA ⊢
  rw [p_listT]
  have kB : Keep S1 (S1.push (.lst (intD X))) [] := Keep.push _
  have gB : (S1.push (.lst (intD X))).get S1.size = some (.lst (intD X)) := Store.get_push_same _ _
  have gA2 := kB.get gA (by simp)
  generalize hW : S1.size = W at gB zA ⊢
  generalize S1.push (.lst (intD X)) = S2 at kB gB gA2 ⊢
  rw [oks_seq, oks_while]
  obtain ⟨J, hJ⟩ : ∃ J : Nat → Slots → Store → Prop, ∀ m σ S', J m σ S' ↔ (∃ x4 x5 x6 x7 ks ws, σ = [some (.ref d.n), some (.tup (intD X)), some (.ref F), some (.ref W), x4, x5, x6, x7] ∧ RsI S S' F W x.es X ks ws (fun _ => False) (fun _ _ => False) ∧ ws.length ≤ ks.length ∧ m = 2 * (6 - ks.length) + ws.length) := ⟨_, fun _ _ _ => Iff.rfl⟩
  have j0 : J (2 * (6 - X.length) + X.length) [some (.ref d.n), some (.tup (intD X)), some (.ref F), some (.ref W), none, none, none, none] S2 :=
    (hJ _ _ _).mpr ⟨_, _, _, _, X, X, rfl, ⟨gA2, gB, ⟨fun a q => q, nd, fun y hy => .base hy, fun y hy => hy, fun y hy => .inl hy, fun y z p => p.elim⟩, kA.trans kB, by omega, by omega, by omega⟩, Nat.le_refl _, rfl⟩
  refine while_inv J (fun m2 σ S4 hI => ?_) turns _ _ _ j0 (by unfold turns; omega)
  obtain ⟨x4, x5, x6, x7, ks, ws, rfl, h, hlen, hm'⟩ := (hJ _ _ _).mp hI
  have hks : ks.length ≤ x.many := inR_len h.l.nd fun q hq => rce_in f hX (h.l.rc q hq)
  simp
  have kC : Keep S4 (S4.push (.lst [])) [] := Keep.push _
  have gC : (S4.push (.lst [])).get S4.size = some (.lst (intD [])) := Store.get_push_same _ _
  have h5 : RsI S (S4.push (.lst [])) F W x.es X ks ws (fun _ => False) (fun _ _ => False) := { h with f := kC.get h.f (by simp), w := kC.get h.w (by simp), k := h.k.trans kC }
  rw [p_neInts h5.w gC]
  generalize S4.push (.lst []) = S5 at kC h5 ⊢
  by_cases hz : ws = []
  · subst hz
    refine .inl ⟨by simp, ?_⟩
    rw [oks_ret]
    have m5 := MK.keep0 m h5.k
    simp [meth_at m5.hn]
    refine (hhe m5 h5.f (by omega)).imp fun v S6 ⟨e, k6⟩ => ?_
    exact ⟨by rw [e, canB_any h5.l.done], h5.k.trans k6⟩
  · refine .inr ⟨by simp [hz], ?_⟩
    obtain ⟨ws, y, rfl⟩ : ∃ w x, ws = w ++ [x] := ⟨ws.dropLast, ws.getLast hz, (List.dropLast_concat_getLast hz).symm⟩
    obtain ⟨f1, f2, f3⟩ := h5.fr
    rw [oks_seq, oks_set]
    simp
    have ew : intD (ws ++ [y]) = intD ws ++ [.int y] := by unfold intD; rw [List.map_append]; rfl
    have gw := h5.w
    rw [ew] at gw
    refine ⟨tyLst_of gw, ?_⟩
    have pop : ∀ Q : D → Store → Prop, OkP (mPop0 (.ref W) [] S5) Q = Q (.int y) (S5.set W (.lst (intD ws))) := by
      intro Q
      have e1 : (intD ws ++ [D.int y])[(intD ws ++ [D.int y]).length - 1]? = some (D.int y) := by
        rw [List.length_append, List.length_singleton, Nat.add_sub_cancel, List.getElem?_append_right (Nat.le_refl _), Nat.sub_self]; rfl
      unfold mPop0
      simp only [gw, e1, List.dropLast_concat]
      rfl
    rw [pop]
    have lW := Store.get_lt gw
    have k6 : Keep S5 (S5.set W (.lst (intD ws))) [W] := Keep.set _ lW (by simp)
    have g6 : (S5.set W (.lst (intD ws))).get W = some (.lst (intD ws)) := Store.get_set_same _ lW
    have kk : Keep S (S5.set W (.lst (intD ws))) [] := h5.k.set_new _ f2 lW
    have gf := k6.get h5.f (by simpa using f3)
    have hpop := h5.l.pop
    generalize S5.set W (.lst (intD ws)) = S6 at k6 g6 kk gf ⊢
    have h6 : RsI S S6 F W x.es X ks ws (· = y) (fun _ _ => False) := ⟨gf, g6, hpop.1, kk, f1, f2, f3⟩
    rw [oks_for]
    have m6 := MK.keep0 m kk
    simp [meth_at m6.hn]
    refine (hed m6).imp fun v S7 ⟨e7, k7⟩ => ?_
    subst e7
    rw [p_itT]
    have h7 : RsI S S7 F W x.es X ks ws (· = y) (fun _ _ => False) := { h6 with f := k7.get h6.f (by simp), w := k7.get h6.w (by simp), k := h6.k.trans k7 }
    rw [List.length_append] at hlen hm'
    have hlen : ws.length + 1 ≤ ks.length := hlen
    have hm' : m2 = 2 * (6 - ks.length) + (ws.length + 1) := hm'
    have hlE : (sortE x.es).length ≤ 1000 := by
      unfold sortE
      rw [List.length_mergeSort]
      have := fm.len
      omega
    obtain ⟨J2, hJ2⟩ : ∃ J : Nat → Slots → Store → Prop, ∀ i σ S', J i σ S' ↔ (∃ x5 x6 x7 ks1 ws1, σ = [some (.ref d.n), some (.tup (intD X)), some (.ref F), some (.ref W), some (.int y), x5, x6, x7] ∧ RsI S S' F W x.es X ks1 ws1 (· = y) (fun a b => a = y ∧ ∃ s, (y, s, b) ∈ (sortE x.es).take i) ∧ y ∈ ks1 ∧ ∃ i : Nat, ks1.length = ks.length + i ∧ ws1.length = ws.length + i) := ⟨_, fun _ _ _ => Iff.rfl⟩
    refine for_seq (xs := (sortE x.es).map eD) (by unfold turns; rw [List.length_map]; omega) J2 ((hJ2 _ _ _).mpr ⟨_, _, _, ks, ws, rfl, { h7 with l := h7.l.imp fun a b q => by simp at q }, hpop.2, 0, rfl, rfl⟩) ?_ ?_
    · intro i dd σ S' hd hI
      obtain ⟨x5, x6, x7, ks1, ws1, rfl, h8, hy, j, hj1, hj2⟩ := (hJ2 _ _ _).mp hI
      rw [List.getElem?_map] at hd
      obtain ⟨⟨o, l, t⟩, he, rfl⟩ := Option.map_eq_some_iff.mp hd
      have hmem : (o, l, t) ∈ x.es := List.mem_mergeSort.mp (List.mem_of_getElem? he)
      have hk1 : ks1.length ≤ x.many := inR_len h8.l.nd fun q hq => rce_in f hX (h8.l.rc q hq)
      refine ⟨_, rfl, ?_⟩
      refine krev_ok h8 f hX hy hmem (by omega) fun S9 ks2 ws2 h9 hy2 ⟨j2, hj3, hj4⟩ => ?_
      refine (hJ2 _ _ _).mpr ⟨_, _, _, ks2, ws2, rfl, { h9 with l := h9.l.imp fun a b ⟨q1, s, q2⟩ => ?_ }, hy2, j + j2, by omega, by omega⟩
      rw [List.take_succ, he] at q2
      rcases List.mem_append.mp q2 with q2 | q2
      · exact .inl ⟨q1, s, q2⟩
      · have q3 : (y, s, b) = (o, l, t) := by simpa using q2
        cases q3
        exact .inr ⟨q1, rfl, rfl⟩
    · intro σ S' hI
      obtain ⟨x5, x6, x7, ks1, ws1, rfl, h8, hy, j, hj1, hj2⟩ := (hJ2 _ _ _).mp hI
      have hk1 : ks1.length ≤ x.many := inR_len h8.l.nd fun q hq => rce_in f hX (h8.l.rc q hq)
      refine ⟨_, ?_, (hJ _ _ _).mpr ⟨_, _, _, _, ks1, ws1, rfl, { h8 with l := h8.l.shut fun s z e => ?_ }, by omega, rfl⟩⟩
      · omega
      · refine ⟨rfl, s, ?_⟩
        rw [List.length_map, List.take_length]
        exact List.mem_mergeSort.mpr e
theorem lc2k {it : It} {c : MT} {g : Tg} {k : Nat} {x y kx ky : D} {σ1 σ2 : Slots} {b0 b1 : Bool} (nx : ∀ S', Keep S S' [] → It.next S' it 0 = some (some x) ∧ It.next S' it 1 = some (some y) ∧ It.next S' it 2 = some none)
    (ax : ∀ S', asg S' g x σ = some σ1) (ay : ∀ S', asg S' g y σ = some σ2) (vx : σ1[k]? = some (some kx)) (vy : σ2[k]? = some (some ky)) (ex : isX kx = false) (ey : isX ky = false)
    (h0 : ∀ S', Keep S S' [] → Ok (c C σ1 S') (fun b S1 => b = b0 ∧ Keep S' S1 []) X0) (h1 : ∀ S', Keep S S' [] → Ok (c C σ2 S') (fun b S1 => b = b1 ∧ Keep S' S1 []) X0) :
    Ok (compN it g c (emit (eVar k) S.size C) C σ turns 0 (S.push (.lst []))) (fun _ S' => S'.get S.size = some (.lst ((if b0 = true then [kx] else []) ++ (if b1 = true then [ky] else []))) ∧ Keep S S' []) X0 := by
  have kp : Keep S (S.push (.lst [])) [] := Keep.push _
  have ev : ∀ {σ' : Slots} {v : D} {S' : Store} {P : D → Store → Prop}, σ'[k]? = some (some v) → isX v = false → P v S' → Ok (eVar k C σ' S') P X0 := fun h1 h2 h3 => by
    unfold eVar
    rw [h1]
    simp only [h2]
    exact h3
  refine comp_inv (Q := fun S' => S'.get S.size = some (.lst ((if b0 = true then [kx] else []) ++ (if b1 = true then [ky] else []))) ∧ Keep S S' []) 2
    (fun i S' => Keep S S' [] ∧ ((i = 0 ∧ S'.get S.size = some (.lst [])) ∨ (i = 1 ∧ S'.get S.size = some (.lst (if b0 = true then [kx] else []))) ∨ (i = 2 ∧ S'.get S.size = some (.lst ((if b0 = true then [kx] else []) ++ (if b1 = true then [ky] else []))))))
    (fun i S' ⟨k', h⟩ => ?_) turns 0 _ ⟨kp, .inl ⟨rfl, Store.get_push_same _ _⟩⟩ (by unfold turns; omega)
  rcases h with ⟨rfl, g'⟩ | ⟨rfl, g'⟩ | ⟨rfl, g'⟩
  · refine .inr ⟨x, σ1, by omega, (nx _ k').1, ax _, (h0 S' k').imp fun b S1 ⟨eb, k1⟩ => ?_⟩
    subst eb
    have g1 := k1.get g' (by simp)
    have l1 := Store.get_lt g1
    cases b with
    | true =>
      simp only [if_true]
      rw [ok_emit]
      refine ev vx ex ⟨[], g1, by simp [line], (k'.trans k1).set_new _ (Nat.le_refl _) l1, .inr (.inl ⟨by simp, by simpa using Store.get_set_same _ l1⟩)⟩
    | false => exact ⟨k'.trans k1, .inr (.inl ⟨rfl, g1⟩)⟩
  · refine .inr ⟨y, σ2, by omega, (nx _ k').2.1, ay _, (h1 S' k').imp fun b S1 ⟨eb, k1⟩ => ?_⟩
    subst eb
    have g1 := k1.get g' (by simp)
    have l1 := Store.get_lt g1
    cases b with
    | true =>
      simp only [if_true]
      rw [ok_emit]
      refine ev vy ey ⟨_, g1, by cases b0 <;> simp [line], (k'.trans k1).set_new _ (Nat.le_refl _) l1, .inr (.inr ⟨by simp, by simpa using Store.get_set_same _ l1⟩)⟩
    | false => exact ⟨k'.trans k1, .inr (.inr ⟨rfl, by simpa using g1⟩)⟩
  · exact .inl ⟨Nat.le_refl _, (nx _ k').2.2, g', k'⟩
def kinds (b0 b1 : Bool) : List D := (if b0 = true then [.str [65]] else []) ++ (if b1 = true then [.str [66]] else [])
def kfO (fm fp : Nat) (d e : Am) (u w : List Int) : Ob := .ins 19 [(fm, .tup [.ref d.n, .ref e.n]), (fp, .tup [.tup (intD u), .tup (intD w)])]
structure KF (fm fp : Nat) (S : Store) (t : Nat) (d e : Am) (x y : Mc) (u w : List Int) : Prop where
  ht : S.get t = some (kfO fm fp d e u w)
  m0 : MK S d x
  m1 : MK S e y
theorem KF.keep {fm fp : Nat} {S S' : Store} {t : Nat} {d e : Am} {x y : Mc} {u w : List Int} {ex : List Nat} (h : KF fm fp S t d e x y u w) (k : Keep S S' ex) (h1 : t ∉ ex) (h2 : ∀ z ∈ d.all, z ∉ ex) (h3 : ∀ z ∈ e.all, z ∉ ex) : KF fm fp S' t d e x y u w :=
  ⟨k.get h.ht h1, MK.keepA h.m0 k h2, MK.keepA h.m1 k h3⟩
theorem KF.keep0 {fm fp : Nat} {S S' : Store} {t : Nat} {d e : Am} {x y : Mc} {u w : List Int} (h : KF fm fp S t d e x y u w) (k : Keep S S' []) : KF fm fp S' t d e x y u w := h.keep k (by simp) (by simp) (by simp)
variable {fm fp : Nat}
def rowD (k : Nat) (d : Am) (u : List Int) : D := .tup [.str [k], .ref d.n, .tup (intD u)]
def KRowsSpec (fm fp : Nat) (call : List D → M D) : Prop := ∀ {S : Store} {t : Nat} {d e : Am} {x y : Mc} {u w : List Int}, KF fm fp S t d e x y u w →
  Ok (call [.ref t] S) (fun v S' => ∃ r, v = .ref r ∧ S'.get r = some (.lst [rowD 65 d u, rowD 66 e w]) ∧ Keep S S' []) X0
theorem krows_ok (hne : fm ≠ fp) : KRowsSpec fm fp (runFn ⟨1, 1, bKRows fm fp⟩ C) := by
  intro S t d e x y u w h
  refine ok_body rfl (σ0 := [some (.ref t)]) rfl ?_
  unfold bKRows
  rw [oks_ret]
  unfold eLz
  simp
  rw [p_fld h.ht rfl (d := .tup [.ref d.n, .ref e.n]) (by simp [fget]), p_fld h.ht rfl (d := .tup [.tup (intD u), .tup (intD w)]) (by simp [fget, hne])]
  have e1 : opLz [D.str [65, 66], D.tup [D.ref d.n, D.ref e.n], D.tup [D.tup (intD u), D.tup (intD w)]] S = some (.ref S.size, S.push (.lst [rowD 65 d u, rowD 66 e w])) := by
    unfold opLz srcL
    rfl
  unfold OkP
  rw [e1]
  exact ⟨S.size, rfl, Store.get_push_same _ _, Keep.push _⟩
def KNowSpec (fm fp : Nat) (call : List D → M D) : Prop := ∀ {S : Store} {t : Nat} {d e : Am} {x y : Mc} {u w : List Int}, KF fm fp S t d e x y u w → u.length ≤ 1000 → w.length ≤ 1000 →
  Ok (call [.ref t] S) (fun v S' => v = .tup (kinds (u.any fun z => decide (z ∈ x.ls)) (w.any fun z => decide (z ∈ y.ls))) ∧ Keep S S' []) X0
theorem know_ok {ro he : Nat} (hro : KRowsSpec fm fp (C.call ro)) (hhe : HasEndSpec (C.call he)) : KNowSpec fm fp (runFn ⟨1, 4, bKNow ro he⟩ C) := by
  intro S t d e x y u w h lu lw
  refine ok_body rfl (σ0 := [some (.ref t), none, none, none]) rfl ?_
  unfold bKNow
  rw [oks_ret]
  simp [ok_lc, wipe, meth_at h.ht]
  show Ok (C.call ro [.ref t] S) _ _
  refine (hro h).imp fun v S1 ⟨r, e1, g1, k1⟩ => ?_
  subst e1
  rw [p_itL g1]
  refine Ok.imp (lc2k (b0 := u.any fun z => decide (z ∈ x.ls)) (b1 := w.any fun z => decide (z ∈ y.ls)) (x := rowD 65 d u) (y := rowD 66 e w) (kx := .str [65]) (ky := .str [66]) (σ1 := [some (.ref t), some (.str [65]), some (.ref d.n), some (.tup (intD u))]) (σ2 := [some (.ref t), some (.str [66]), some (.ref e.n), some (.tup (intD w))])
    (fun S' k => next_twoL (k.get g1 (by simp))) (fun S' => rfl) (fun S' => rfl) rfl rfl rfl rfl (fun S' k => ?_) (fun S' k => ?_)) ?_
  · have m := MK.keep0 h.m0 (k1.trans k)
    have z := hhe m (states := u) (by omega)
    generalize (u.any fun z => decide (z ∈ x.ls)) = b0 at z ⊢
    simp [meth_at m.hn]
    refine z.imp fun v S2 ⟨e2, k2⟩ => ?_
    subst e2
    cases b0 <;> simp [truth, k2]
  · have m := MK.keep0 h.m1 (k1.trans k)
    have z := hhe m (states := w) (by omega)
    generalize (w.any fun z => decide (z ∈ y.ls)) = b0 at z ⊢
    simp [meth_at m.hn]
    refine z.imp fun v S2 ⟨e2, k2⟩ => ?_
    subst e2
    cases b0 <;> simp [truth, k2]
  · rintro _ S2 ⟨g2, k2⟩
    rw [p_tuple g2]
    exact ⟨rfl, k1.trans k2⟩
def KCanSpec (fm fp : Nat) (call : List D → M D) : Prop := ∀ {S : Store} {t : Nat} {d e : Am} {x y : Mc} {u w : List Int}, KF fm fp S t d e x y u w → FineM x → FineM y → u.Nodup → w.Nodup → (∀ z ∈ u, inR x.many z) → (∀ z ∈ w, inR y.many z) →
  Ok (call [.ref t] S) (fun v S' => v = .tup (kinds (canB x.es x.ls u) (canB y.es y.ls w)) ∧ Keep S S' []) X0
theorem kcan_ok {ro re : Nat} (hro : KRowsSpec fm fp (C.call ro)) (hre : KReSpec (C.call re)) : KCanSpec fm fp (runFn ⟨1, 4, bKCan ro re⟩ C) := by
  intro S t d e x y u w h f0 f1 nu nw iu iw
  refine ok_body rfl (σ0 := [some (.ref t), none, none, none]) rfl ?_
  unfold bKCan
  rw [oks_ret]
  simp [ok_lc, wipe, meth_at h.ht]
  show Ok (C.call ro [.ref t] S) _ _
  refine (hro h).imp fun v S1 ⟨r, e1, g1, k1⟩ => ?_
  subst e1
  rw [p_itL g1]
  refine Ok.imp (lc2k (b0 := canB x.es x.ls u) (b1 := canB y.es y.ls w) (x := rowD 65 d u) (y := rowD 66 e w) (kx := .str [65]) (ky := .str [66]) (σ1 := [some (.ref t), some (.str [65]), some (.ref d.n), some (.tup (intD u))]) (σ2 := [some (.ref t), some (.str [66]), some (.ref e.n), some (.tup (intD w))])
    (fun S' k => next_twoL (k.get g1 (by simp))) (fun S' => rfl) (fun S' => rfl) rfl rfl rfl rfl (fun S' k => ?_) (fun S' k => ?_)) ?_
  · have m := MK.keep0 h.m0 (k1.trans k)
    have z := hre m f0 nu iu
    generalize canB x.es x.ls u = b0 at z ⊢
    simp
    refine z.imp fun v S2 ⟨e2, k2⟩ => ?_
    subst e2
    cases b0 <;> simp [truth, k2]
  · have m := MK.keep0 h.m1 (k1.trans k)
    have z := hre m f1 nw iw
    generalize canB y.es y.ls w = b0 at z ⊢
    simp
    refine z.imp fun v S2 ⟨e2, k2⟩ => ?_
    subst e2
    cases b0 <;> simp [truth, k2]
  · rintro _ S2 ⟨g2, k2⟩
    rw [p_tuple g2]
    exact ⟨rfl, k1.trans k2⟩
theorem lc2p {it : It} {e : ME} {g : Tg} {x y vx vy : D} {σ1 σ2 : Slots} (nx : ∀ S', Keep S S' [] → It.next S' it 0 = some (some x) ∧ It.next S' it 1 = some (some y) ∧ It.next S' it 2 = some none)
    (ax : ∀ S', asg S' g x σ = some σ1) (ay : ∀ S', asg S' g y σ = some σ2) (h0 : ∀ S', Keep S S' [] → Ok (e C σ1 S') (fun v S1 => v = vx ∧ Keep S' S1 []) X0) (h1 : ∀ S', Keep S S' [] → Ok (e C σ2 S') (fun v S1 => v = vy ∧ Keep S' S1 []) X0) :
    Ok (compN it g tYes (emit e S.size C) C σ turns 0 (S.push (.lst []))) (fun _ S' => S'.get S.size = some (.lst [vx, vy]) ∧ Keep S S' []) X0 := by
  have kp : Keep S (S.push (.lst [])) [] := Keep.push _
  refine comp_inv (Q := fun S' => S'.get S.size = some (.lst [vx, vy]) ∧ Keep S S' []) 2
    (fun i S' => Keep S S' [] ∧ ((i = 0 ∧ S'.get S.size = some (.lst [])) ∨ (i = 1 ∧ S'.get S.size = some (.lst [vx])) ∨ (i = 2 ∧ S'.get S.size = some (.lst [vx, vy]))))
    (fun i S' ⟨k', h⟩ => ?_) turns 0 _ ⟨kp, .inl ⟨rfl, Store.get_push_same _ _⟩⟩ (by unfold turns; omega)
  rcases h with ⟨rfl, g'⟩ | ⟨rfl, g'⟩ | ⟨rfl, g'⟩
  · refine .inr ⟨x, σ1, by omega, (nx _ k').1, ax _, ?_⟩
    rw [ok_yes, if_pos rfl, ok_emit]
    refine (h0 S' k').imp fun v S1 ⟨ev, k1⟩ => ?_
    subst ev
    have g1 := k1.get g' (by simp)
    have l1 := Store.get_lt g1
    exact ⟨[], g1, by simp [line], (k'.trans k1).set_new _ (Nat.le_refl _) l1, .inr (.inl ⟨rfl, Store.get_set_same _ l1⟩)⟩
  · refine .inr ⟨y, σ2, by omega, (nx _ k').2.1, ay _, ?_⟩
    rw [ok_yes, if_pos rfl, ok_emit]
    refine (h1 S' k').imp fun v S1 ⟨ev, k1⟩ => ?_
    subst ev
    have g1 := k1.get g' (by simp)
    have l1 := Store.get_lt g1
    exact ⟨_, g1, by simp [line], (k'.trans k1).set_new _ (Nat.le_refl _) l1, .inr (.inr ⟨rfl, Store.get_set_same _ l1⟩)⟩
  · exact .inl ⟨Nat.le_refl _, (nx _ k').2.2, g', k'⟩
def KInitSpec (fm fp : Nat) (call : List D → M D) : Prop := ∀ {S : Store} {t : Nat} {d e : Am} {x y : Mc}, S.get t = some (.ins 19 []) → MK S d x → MK S e y → FineM x → FineM y → x.sg = y.sg →
  Ok (call [.ref t, .tup [.ref d.n, .ref e.n]] S) (fun v S' => v = .non ∧ ∃ d' e' : Am, KF fm fp S' t d' e' x y (sortU x.ss) (sortU y.ss) ∧ d'.up S.size ∧ e'.up (d'.c + 1) ∧ Keep S S' [t]) X0
theorem kinit_ok (hne : fm ≠ fp) {rp tw st : Nat} (hrp : PairSpec (C.call rp)) (htw : TwinSpec (C.call tw)) (hst : StartsSpec (C.call st)) : KInitSpec fm fp (runFn ⟨2, 3, bKInit fm fp rp tw st⟩ C) := by
  intro S t d e x y ht m0 m1 f0 f1 hsg
  refine ok_body rfl (σ0 := [some (.ref t), some (.tup [.ref d.n, .ref e.n]), none]) rfl ?_
  unfold bKInit
  have lt := Store.get_lt ht
  have q0 : atI [D.ref d.n, .ref e.n] 0 = some (.ref d.n) := rfl
  have q1 : atI [D.ref d.n, .ref e.n] 1 = some (.ref e.n) := rfl
  rw [oks_seq, oks_expr]
  simp
  refine (hrp m0 m1).mono (fun v S1 ⟨_, _, e1⟩ => ?_) (fun k fs S1 ⟨_, h, _⟩ => absurd hsg h)
  subst e1
  rw [oks_seq, oks_fld]
  simp
  refine ⟨_, q0, ?_⟩
  simp [meth_at m0.hn]
  refine (htw m0 f0.g1 f0.g3 f0.q.lo f0.q.hi).imp fun v S1 ⟨n1, a1, b1, c1, e1, n0, ⟨u1, u2, u3, u4⟩, k1⟩ => ?_
  subst e1
  have m1' := MK.keep0 m1 k1
  refine ⟨_, q1, ?_⟩
  simp [meth_at m1'.hn]
  refine (htw m1' f1.g1 f1.g3 f1.q.lo f1.q.hi).imp fun v S2 ⟨n2, a2, b2, c2, e2, nn, ⟨w1, w2, w3, w4⟩, k2⟩ => ?_
  subst e2
  have l1 := n0.lt
  have l2 := nn.lt
  have n0' : MK S2 ⟨n1, a1, b1, c1⟩ x := MK.keep0 (d := ⟨n1, a1, b1, c1⟩) n0 k2
  have nn' : MK S2 ⟨n2, a2, b2, c2⟩ y := nn
  have ht2 := (k1.trans k2).get ht (by simp)
  rw [p_putFld ht2 rfl (by simp)]
  have l3 := Store.get_lt ht2
  have kA : Keep S2 (S2.set t (.ins 19 (fput fm (.tup [.ref n1, .ref n2]) []))) [t] := Keep.set _ l3 (by simp)
  have gA : (S2.set t (.ins 19 (fput fm (.tup [.ref n1, .ref n2]) []))).get t = some (.ins 19 [(fm, .tup [.ref n1, .ref n2])]) := Store.get_set_same _ l3
  generalize S2.set t (.ins 19 (fput fm (.tup [.ref n1, .ref n2]) [])) = S3 at kA gA ⊢
  have n3 : MK S3 ⟨n1, a1, b1, c1⟩ x := MK.keepA n0' kA (by simp [Am.all]; omega)
  have nn3 : MK S3 ⟨n2, a2, b2, c2⟩ y := MK.keepA nn' kA (by simp [Am.all]; omega)
  rw [oks_fld]
  simp [ok_lc, wipe]
  rw [p_fld gA rfl (d := .tup [.ref n1, .ref n2]) (by simp [fget])]
  rw [p_itT]
  refine ⟨by simp [line], ?_⟩
  refine Ok.imp (lc2p (g := .nm 2) (σ := [some (.ref t), some (.tup [.ref d.n, .ref e.n]), none]) (x := .ref n1) (y := .ref n2) (vx := .tup (intD (sortU x.ss))) (vy := .tup (intD (sortU y.ss))) (σ1 := [some (.ref t), some (.tup [.ref d.n, .ref e.n]), some (.ref n1)]) (σ2 := [some (.ref t), some (.tup [.ref d.n, .ref e.n]), some (.ref n2)]) (fun S' _ => next_two) (fun S' => rfl) (fun S' => rfl) (fun S' k => ?_) (fun S' k => ?_)) ?_
  · have m := MK.keep0 n3 k
    simp [meth_at m.hn]
    exact hst m f0.q.s1
  · have m := MK.keep0 nn3 k
    simp [meth_at m.hn]
    exact hst m f1.q.s1
  · rintro _ S4 ⟨g4, k4⟩
    rw [p_tuple g4]
    have gB := k4.get gA (by simp)
    rw [p_putFld gB rfl (by simp)]
    have l4 := Store.get_lt gB
    have ef : fput fp (D.tup [.tup (intD (sortU x.ss)), .tup (intD (sortU y.ss))]) [(fm, D.tup [.ref n1, .ref n2])] = [(fm, .tup [.ref n1, .ref n2]), (fp, .tup [.tup (intD (sortU x.ss)), .tup (intD (sortU y.ss))])] := by
      simp [fput, hne]
    rw [ef]
    have kE : Keep S4 (S4.set t (.ins 19 [(fm, .tup [.ref n1, .ref n2]), (fp, .tup [.tup (intD (sortU x.ss)), .tup (intD (sortU y.ss))])])) [t] := Keep.set _ l4 (by simp)
    refine ⟨⟨n1, a1, b1, c1⟩, ⟨n2, a2, b2, c2⟩, ⟨Store.get_set_same _ l4, MK.keepA (MK.keep0 n3 k4) kE (by simp [Am.all]; omega), MK.keepA (MK.keep0 nn3 k4) kE (by simp [Am.all]; omega)⟩, ⟨u1, u2, u3, u4⟩, ⟨by show c1 + 1 ≤ n2; omega, w2, w3, w4⟩, ?_⟩
    exact ((((k1.trans k2).weak (by simp)).trans kA).trans (k4.weak (by simp))).trans kE
def KSignSpec (call : List D → M D) : Prop := ∀ {S : Store} {c sg : Nat}, c ∈ abcN sg → sg ≤ 3 → Ok (call [.str [c], .int sg] S) (fun v S' => v = .non ∧ Keep S S' []) X0
theorem ksign_ok {il : Nat} (hil : IsLogSpec (C.call il)) : KSignSpec (runFn ⟨2, 2, bKSign il⟩ C) := by
  intro S c sg hc hsg
  refine ok_body rfl (σ0 := [some (.str [c]), some (.int sg)]) rfl ?_
  unfold bKSign
  rw [oks_if]
  simp
  refine (hil (d := .str [c]) rfl rfl (fun s e => by cases e; simp) hsg).imp fun v S1 ⟨e1, k1⟩ => ?_
  subst e1
  have hl : logS sg (.str [c]) = true := by simp [logS, hc]
  rw [hl]
  simp [truth, line]
  rw [oks_pass]
  exact k1
def bKRead (fm fp rs sp ro : Nat) : MS := sSeq (sExpr (eCall rs (aCons (eVar 1) (aCons (eFld [12] 7 (e2 opItem (eFld [19] fm (eVar 0)) (eC (.int 0)))) (aNil))) [])) (sFld [19] fp (eVar 0) (eB bTuple (aCons (eLc (eMeth [(12, sp)] (eVar 3) (aCons (eVar 4) (aCons (eVar 1) (aNil))) []) (.tp [(.nm 2), (.nm 3), (.nm 4)]) (iSeq (eMeth [(19, ro)] (eVar 0) aNil [])) (MP.tYes) [2, 3, 4]) (aNil))))
def bKSet (ca : Nat) : MS := sRet (e2 opLe (eB bLen (aCons (eMeth [(19, ca)] (eVar 0) aNil []) (aNil))) (eC (.int 1)))
def KReadSpec (fm fp : Nat) (call : List D → M D) : Prop := ∀ {S : Store} {t c : Nat} {d e : Am} {x y : Mc} {u w : List Int}, KF fm fp S t d e x y u w → FineM x → FineM y → x.sg = y.sg → c ∈ abcN x.sg → t ∉ d.all → t ∉ e.all →
  Ok (call [.ref t, .str [c]] S) (fun v S' => v = .non ∧ KF fm fp S' t d e x y (stepS x.es u [c]) (stepS y.es w [c]) ∧ Keep S S' [t]) X0
theorem kread_ok (hne : fm ≠ fp) {rs sp ro : Nat} (hrs : KSignSpec (C.call rs)) (hsp : StepSpec (C.call sp)) (hro : KRowsSpec fm fp (C.call ro)) : KReadSpec fm fp (runFn ⟨2, 5, bKRead fm fp rs sp ro⟩ C) := by
  intro S t c d e x y u w h f0 f1 hsg hc td te
  refine ok_body rfl (σ0 := [some (.ref t), some (.str [c]), none, none, none]) rfl ?_
  unfold bKRead
  have q0 : atI [D.ref d.n, .ref e.n] 0 = some (.ref d.n) := rfl
  rw [oks_seq, oks_expr]
  simp
  rw [p_fld h.ht rfl (d := .tup [.ref d.n, .ref e.n]) (by simp [fget])]
  simp
  refine ⟨_, q0, ?_⟩
  rw [p_fld h.m0.hn rfl (d := .int x.sg) rfl]
  refine (hrs hc f0.g3).imp fun v S1 ⟨_, k1⟩ => ?_
  have h1 := h.keep0 k1
  rw [oks_fld]
  simp [ok_lc, wipe, meth_at h1.ht]
  show Ok (C.call ro [.ref t] S1) _ _
  refine (hro h1).imp fun v S2 ⟨r, e2, g2, k2⟩ => ?_
  subst e2
  rw [p_itL g2]
  have h2 := h1.keep0 k2
  have l0 := f0.len
  have l1 := f1.len
  refine Ok.imp (lc2p (x := rowD 65 d u) (y := rowD 66 e w) (vx := .tup (intD (stepS x.es u [c]))) (vy := .tup (intD (stepS y.es w [c]))) (σ1 := [some (.ref t), some (.str [c]), some (.str [65]), some (.ref d.n), some (.tup (intD u))]) (σ2 := [some (.ref t), some (.str [c]), some (.str [66]), some (.ref e.n), some (.tup (intD w))])
    (fun S' k => next_twoL (k.get g2 (by simp))) (fun S' => rfl) (fun S' => rfl) (fun S' k => ?_) (fun S' k => ?_)) ?_
  · have m := MK.keep0 h2.m0 k
    simp [meth_at m.hn]
    exact hsp m (by omega)
  · have m := MK.keep0 h2.m1 k
    simp [meth_at m.hn]
    exact hsp m (by omega)
  · rintro _ S3 ⟨g3, k3⟩
    rw [p_tuple g3]
    have h3 := h2.keep0 k3
    rw [p_putFld h3.ht rfl (by simp)]
    have l3 := Store.get_lt h3.ht
    have ef : fput fp (D.tup [.tup (intD (stepS x.es u [c])), .tup (intD (stepS y.es w [c]))]) [(fm, D.tup [.ref d.n, .ref e.n]), (fp, D.tup [.tup (intD u), .tup (intD w)])] = [(fm, .tup [.ref d.n, .ref e.n]), (fp, .tup [.tup (intD (stepS x.es u [c])), .tup (intD (stepS y.es w [c]))])] := by
      simp [fput, hne]
    rw [ef]
    have kE : Keep S3 (S3.set t (.ins 19 [(fm, .tup [.ref d.n, .ref e.n]), (fp, .tup [.tup (intD (stepS x.es u [c])), .tup (intD (stepS y.es w [c]))])])) [t] := Keep.set _ l3 (by simp)
    refine ⟨⟨Store.get_set_same _ l3, MK.keepA h3.m0 kE fun z hz q => td (by rw [List.mem_singleton] at q; exact q ▸ hz), MK.keepA h3.m1 kE fun z hz q => te (by rw [List.mem_singleton] at q; exact q ▸ hz)⟩, ?_⟩
    exact (((k1.trans k2).trans k3).weak (by simp)).trans kE
def KSetSpec (fm fp : Nat) (call : List D → M D) : Prop := ∀ {S : Store} {t : Nat} {d e : Am} {x y : Mc} {u w : List Int}, KF fm fp S t d e x y u w → FineM x → FineM y → u.Nodup → w.Nodup → (∀ z ∈ u, inR x.many z) → (∀ z ∈ w, inR y.many z) →
  Ok (call [.ref t] S) (fun v S' => v = .bl (decide ((kinds (canB x.es x.ls u) (canB y.es y.ls w)).length ≤ 1)) ∧ Keep S S' []) X0
theorem kset_ok {ca : Nat} (hca : KCanSpec fm fp (C.call ca)) : KSetSpec fm fp (runFn ⟨1, 1, bKSet ca⟩ C) := by
  intro S t d e x y u w h f0 f1 nu nw iu iw
  refine ok_body rfl (σ0 := [some (.ref t)]) rfl ?_
  unfold bKSet
  rw [oks_ret]
  simp [meth_at h.ht]
  show Ok (C.call ca [.ref t] S) _ _
  refine (hca h f0 f1 nu nw iu iw).imp fun v S1 ⟨e1, k1⟩ => ?_
  subst e1
  generalize canB x.es x.ls u = b0
  generalize canB y.es y.ls w = b1
  cases b0 <;> cases b1 <;> simp [kinds, k1]
end
end MP
namespace MP
open PySem (PyData)
theorem mem_stepSK {es : List Ed} {F : List Int} {s : List Nat} {y : Int} : y ∈ stepS es F s ↔ ∃ x ∈ F, (x, s, y) ∈ es := by
  unfold stepS
  rw [mem_sortU]
  unfold tgts
  rw [List.mem_map]
  constructor
  · rintro ⟨⟨o, l, t⟩, h, rfl⟩
    rw [List.mem_filter] at h
    obtain ⟨h1, h2⟩ := h
    simp at h2
    obtain ⟨rfl, h2⟩ := h2
    exact ⟨o, h2, h1⟩
  · rintro ⟨x, hx, he⟩
    exact ⟨(x, s, y), List.mem_filter.mpr ⟨he, by simp [hx]⟩, rfl⟩
def gS (es : List Ed) (F : List Int) (c : Nat) : List Int := sortU (F ++ stepS es F [c])
def rS (es : List Ed) (k : Nat) (F : List Int) : List Int := (abcN k).foldl (gS es) F
def itS (es : List Ed) (k : Nat) : Nat → List Int → List Int
  | 0, X => X
  | n + 1, X => rS es k (itS es k n X)
theorem mem_gS {es : List Ed} {F : List Int} {c : Nat} {y : Int} : y ∈ gS es F c ↔ y ∈ F ∨ ∃ x ∈ F, (x, [c], y) ∈ es := by
  unfold gS
  rw [mem_sortU, List.mem_append, mem_stepSK]
def shutE (es : List Ed) (F : List Int) : Prop := ∀ x ∈ F, ∀ s z, (x, s, z) ∈ es → z ∈ F
section
variable {es : List Ed}
theorem fold_sup : ∀ {cs : List Nat} {F : List Int}, ∀ y ∈ F, y ∈ cs.foldl (gS es) F
  | [], _, _, h => h
  | c :: cs, F, y, h => fold_sup (cs := cs) (F := gS es F c) y (mem_gS.mpr (.inl h))
theorem fold_shut {F : List Int} : ∀ {cs : List Nat} {G : List Int}, shutE es F → (∀ y ∈ G, y ∈ F) → ∀ y ∈ cs.foldl (gS es) G, y ∈ F
  | [], _, _, hG, y, h => hG y h
  | c :: cs, G, hF, hG, y, h => fold_shut (cs := cs) hF (fun z hz => by
    rcases mem_gS.mp hz with q | ⟨x, hx, e⟩
    · exact hG z q
    · exact hF x (hG x hx) _ _ e) y h
theorem fold_rce {X : List Int} : ∀ {cs : List Nat} {G : List Int}, (∀ y ∈ G, Rce es X y) → ∀ y ∈ cs.foldl (gS es) G, Rce es X y
  | [], _, hG, y, h => hG y h
  | c :: cs, G, hG, y, h => fold_rce (cs := cs) (fun z hz => by
    rcases mem_gS.mp hz with q | ⟨x, hx, e⟩
    · exact hG z q
    · exact .step (hG x hx) e) y h
theorem fold_tgt {c : Nat} : ∀ {cs : List Nat} {G : List Int} {x z : Int}, c ∈ cs → x ∈ G → (x, [c], z) ∈ es → z ∈ cs.foldl (gS es) G
  | b :: cs, G, x, z, hc, hx, e => by
    rcases List.mem_cons.mp hc with q | q
    · subst q
      exact fold_sup (cs := cs) z (mem_gS.mpr (.inr ⟨x, hx, e⟩))
    · exact fold_tgt (cs := cs) q (mem_gS.mpr (.inl hx)) e
theorem fold_nd : ∀ {cs : List Nat} {G : List Int}, G.Nodup → (cs.foldl (gS es) G).Nodup
  | [], _, h => h
  | c :: cs, G, _ => fold_nd (cs := cs) (List.nodup_iff_pairwise_ne.mpr ((asc_sortU _).imp fun h => by omega))
end
section
variable {sg many : Nat} {starts ends : List Int} {es : List Ed} {X : List Int}
theorem itS_nd (nd : X.Nodup) : ∀ n, (itS es sg n X).Nodup
  | 0 => nd
  | n + 1 => fold_nd (itS_nd nd n)
theorem itS_rce : ∀ n, ∀ y ∈ itS es sg n X, Rce es X y
  | 0 => fun y h => .base h
  | n + 1 => fold_rce (itS_rce n)
theorem itS_sup : ∀ n, ∀ y ∈ X, y ∈ itS es sg n X
  | 0 => fun y h => h
  | n + 1 => fun y h => fold_sup y (itS_sup n y h)
theorem itS_go (f : FineQ sg many starts ends es) (nd : X.Nodup) (hne : X ≠ []) : ∀ n, shutE es (itS es sg n X) ∨ n + 1 ≤ (itS es sg n X).length
  | 0 => .inr (by
    show 1 ≤ X.length
    cases X with
    | nil => exact absurd rfl hne
    | cons a r => simp)
  | n + 1 => by
    by_cases hs : shutE es (itS es sg n X)
    · refine .inl fun x hx s z e => fold_sup z (hs x (fold_shut hs (fun y h => h) x hx) s z e)
    · rcases itS_go f nd hne n with h | h
      · exact absurd h hs
      · right
        unfold shutE at hs
        have : ∃ x ∈ itS es sg n X, ∃ s z, (x, s, z) ∈ es ∧ z ∉ itS es sg n X := Classical.byContradiction fun no => hs fun x hx s z e => Classical.byContradiction fun q => no ⟨x, hx, s, z, e, q⟩
        obtain ⟨x, hx, s, z, e, hz⟩ := this
        obtain ⟨_, _, c, hc, hcm⟩ := f.ok _ e
        have hc : s = [c] := hc
        subst hc
        have hz2 : z ∈ itS es sg (n + 1) X := fold_tgt hcm hx e
        have nd2 : (z :: itS es sg n X).Nodup := List.nodup_cons.mpr ⟨hz, itS_nd nd n⟩
        have sub : ∀ y ∈ z :: itS es sg n X, y ∈ itS es sg (n + 1) X := fun y hy => by
          rcases List.mem_cons.mp hy with q | q
          · rw [q]; exact hz2
          · exact fold_sup y q
        have := nd2.length_le_of_subset sub
        rw [List.length_cons] at this
        omega
theorem itS_all (f : FineQ sg many starts ends es) (nd : X.Nodup) (hX : ∀ x ∈ X, inR many x) : ∀ y, y ∈ itS es sg many X ↔ Rce es X y := by
  intro y
  refine ⟨itS_rce many y, fun h => ?_⟩
  by_cases hne : X = []
  · subst hne
    exfalso
    have : ∀ y, Rce es [] y → False := fun y h => by
      induction h with
      | base h => cases h
      | step _ _ ih => exact ih
    exact this y h
  · have hs : shutE es (itS es sg many X) := by
      rcases itS_go f nd hne many with q | q
      · exact q
      · have := inR_len (itS_nd (es := es) (sg := sg) nd many) fun z hz => rce_in f hX (itS_rce many z hz)
        omega
    exact h.in (itS_sup many) hs
end
def bLawCan (sp : Nat) : MS := sSeq (sSet (.nm 3) (eB bListX (aCons (eVar 1) (aNil)))) (sSeq (sFor (.nm 4) (iRange1 (e2 opItem (eVar 0) (eC (.int 0)))) (sFor (.nm 5) (iSeq (eCut (eC (.str [97, 98, 99])) (pNone) (pSome (eVar 2)))) (sSet (.nm 3) (e1 opSortSet (e2 opAdd (eVar 3) (eCall sp (aCons (eVar 0) (aCons (eVar 3) (aCons (eVar 5) (aNil)))) [])))))) (sRet (e2 opNe (eLc (eVar 6) (.nm 6) (iSeq (eVar 3)) (MP.tB (e2 opIn (eVar 6) (e2 opItem (eVar 0) (eC (.int 2))))) [6]) (eLst (aNil)))))
section
variable {S : Store} {C : Cfg} {σ : Slots} {T : Pt}
def LawCanSpec (call : List D → M D) : Prop := ∀ {S : Store} {p : Ap} {x : Mc} {X : List Int} {z : Nat}, PL S p x → FineM x → S.get z = some (.lst (intD X)) → X.Nodup → (∀ y ∈ X, inR x.many y) →
  Ok (call [.ref p.j, .ref z, .int x.sg] S) (fun v S' => v = .bl (canB x.es x.ls X) ∧ Keep S S' []) X0
theorem lawcan_ok {sp : Nat} (hsp : SteppedSpec (C.call sp)) : LawCanSpec (runFn ⟨3, 7, bLawCan sp⟩ C) := by
  intro S p x X z pl fm hz nd hX
  refine ok_body rfl (σ0 := [some (.ref p.j), some (.ref z), some (.int x.sg), none, none, none, none]) rfl ?_
  unfold bLawCan
  have f := fm.q
  have hm := f.hi
  have g3 := fm.g3
  have q0 : atI [D.int x.many, .ref p.p1, .ref p.p2, .ref p.p3] 0 = some (.int x.many) := rfl
  have q2 : atI [D.int x.many, .ref p.p1, .ref p.p2, .ref p.p3] 2 = some (.ref p.p2) := rfl
  have okm : okR (x.many : Int) = true := okR_nat (by omega) (by omega)
  have len : ∀ n, (itS x.es x.sg n X).length ≤ x.many := fun n => inR_len (itS_nd nd n) fun y hy => rce_in f hX (itS_rce n y hy)
  rw [oks_seq, oks_set]
  simp
  rw [p_listR hz]
  have kA : Keep S (S.push (.lst (intD X))) [] := Keep.push _
  have gA : (S.push (.lst (intD X))).get S.size = some (.lst (intD X)) := Store.get_push_same _ _
  generalize S.size = F0 at gA ⊢
  generalize S.push (.lst (intD X)) = S1 at kA gA ⊢
  have pl1 := pl.keep0 kA
  rw [oks_seq, oks_for]
  simp
  rw [p_item pl1.hj]
  refine ⟨_, q0, ?_⟩
  simp [okm]
  refine for_seq (by rw [rangeL_len]; unfold turns; omega) (fun i σ S' => (∃ F x4 x5, σ = [some (.ref p.j), some (.ref z), some (.int x.sg), some (.ref F), x4, x5, none] ∧ S'.get F = some (.lst (intD (itS x.es x.sg i X)))) ∧ Keep S S' [])
    ⟨⟨_, _, _, rfl, gA⟩, kA⟩ ?_ ?_
  · rintro i d σ S' hd ⟨⟨F, x4, x5, rfl, gF⟩, kp⟩
    obtain ⟨rfl, hi⟩ := rangeL_at _ _ _ _ _ hd
    refine ⟨_, by simp; rfl, ?_⟩
    rw [oks_for]
    simp
    rw [cut_abcN g3]
    refine ⟨by decide, ?_⟩
    refine for_seq (xs := sgn (abcN x.sg)) (by rw [sgn_len]; have := abc_len (sg := x.sg); unfold turns; omega) (fun j σ S2 => (∃ F x5, σ = [some (.ref p.j), some (.ref z), some (.int x.sg), some (.ref F), some (.int i), x5, none] ∧ S2.get F = some (.lst (intD (((abcN x.sg).take j).foldl (gS x.es) (itS x.es x.sg i X))))) ∧ Keep S S2 [])
      ⟨⟨_, _, rfl, by simpa using gF⟩, kp⟩ ?_ ?_
    · rintro j d σ S2 hd2 ⟨⟨F2, x5', rfl, g2⟩, k2⟩
      obtain ⟨c, hc, rfl⟩ := sgn_at hd2
      refine ⟨_, by simp; rfl, ?_⟩
      rw [oks_set]
      simp
      have pl2 := pl.keep0 k2
      have hlen := fm.len
      refine (hsp pl2 (by omega) g2).imp fun v S3 ⟨r, e3, _, g3', k3⟩ => ?_
      subst e3
      rw [p_addL (k3.get g2 (by simp)) g3']
      have in1 : ∀ y ∈ ((abcN x.sg).take j).foldl (gS x.es) (itS x.es x.sg i X), Rce x.es X y := fold_rce (itS_rce i)
      have l1 : (((abcN x.sg).take j).foldl (gS x.es) (itS x.es x.sg i X)).length ≤ x.many := inR_len (fold_nd (itS_nd nd i)) fun y hy => rce_in f hX (in1 y hy)
      have l2 : (stepS x.es (((abcN x.sg).take j).foldl (gS x.es) (itS x.es x.sg i X)) [c]).length ≤ x.many := inR_len (List.nodup_iff_pairwise_ne.mpr ((asc_sortU _).imp fun h => by omega)) fun y hy => by
        obtain ⟨a, ha, e⟩ := mem_stepSK.mp hy
        exact (f.ok _ e).2.1
      refine ⟨by unfold intD line; rw [List.length_map, List.length_map]; omega, ?_⟩
      have e4 : ∀ a b : List Int, intD a ++ intD b = intD (a ++ b) := fun a b => by unfold intD; rw [List.map_append]
      rw [e4]
      have g4 := Store.get_push_same S3 (.lst (intD (((abcN x.sg).take j).foldl (gS x.es) (itS x.es x.sg i X) ++ stepS x.es (((abcN x.sg).take j).foldl (gS x.es) (itS x.es x.sg i X)) [c])))
      have k4 : Keep S3 (S3.push (.lst (intD (((abcN x.sg).take j).foldl (gS x.es) (itS x.es x.sg i X) ++ stepS x.es (((abcN x.sg).take j).foldl (gS x.es) (itS x.es x.sg i X)) [c])))) [] := Keep.push _
      rw [p_sortset g4 (by rw [List.length_append]; omega)]
      refine ⟨⟨_, rfl, ?_⟩, ((k2.trans k3).trans k4).trans (Keep.push _)⟩
      rw [Store.get_push_same, List.take_succ, hc, List.foldl_append]
      rfl
    · rintro σ S2 ⟨⟨F2, x5', rfl, g2⟩, k2⟩
      rw [sgn_len, List.take_length] at g2
      exact ⟨⟨F2, ⟨_, _, rfl⟩, g2⟩, k2⟩
  · rintro σ S' ⟨⟨F, x4, x5, rfl, gF⟩, kp⟩
    rw [rangeL_len] at gF
    show OkS (sRet _ C _ S') _
    rw [oks_ret]
    simp [ok_lc, wipe]
    rw [p_itL gF]
    have pl2 := pl.keep0 kp
    refine Ok.imp (lc_fml (inI x.ls) (fun d => d) gF (by unfold intD; rw [List.length_map]; have := len x.many; omega) fun i d S2 hd k2 => ?_) ?_
    · unfold intD at hd
      rw [List.getElem?_map] at hd
      obtain ⟨z, hz, rfl⟩ := Option.map_eq_some_iff.mp hd
      have pl3 := pl2.keep0 k2
      refine ⟨_, rfl, ?_⟩
      simp
      rw [p_item pl3.hj]
      refine ⟨_, q2, ?_⟩
      rw [p_inIL pl3.h2]
      by_cases h3 : z ∈ x.ls
      · simp [h3, inI, Keep.refl]
      · simp [h3, inI, Keep.refl]
    · rintro _ S2 ⟨g, k2⟩
      rw [List.map_id', intD_filter] at g
      have kL : Keep S2 (S2.push (.lst [])) [] := Keep.push _
      have gL : (S2.push (.lst [])).get S2.size = some (.lst (intD [])) := Store.get_push_same _ _
      rw [p_neInts (kL.get g (by simp)) gL, filter_any, canB_any (itS_all f nd hX)]
      exact ⟨rfl, (kp.trans k2).trans kL⟩
end
end MP
namespace MP
open PySem (PyData)
def bMoved (dr ed rm ad aE rE aS rS : Nat) : MS := sSeq (sPar 3 4 (eMeth [(12, ed)] (eVar 1) aNil []) (eFld [12] 8 (eVar 1))) (sSeq (sIf (MP.tAnd (MP.tB (e2 opNe (eVar 3) (eTup (aNil)))) (MP.tB (e2 opEq (eCall dr (aCons (eVar 0) (aCons (eC (.int 2)) (aNil))) []) (eC (.int 0))))) (sSeq (sSet (.nm 5) (e2 opItem (eVar 3) (eCall dr (aCons (eVar 0) (aCons (eB bLen (aCons (eVar 3) (aNil))) (aNil))) []))) (sExpr (eMeth [(12, rm)] (eVar 1) (aCons (e2 opItem (eVar 5) (eC (.int 0))) (aCons (e2 opItem (eVar 5) (eC (.int 1))) (aCons (e2 opItem (eVar 5) (eC (.int 2))) (aNil)))) []))) (sSeq (sSet (.nm 6) (eTup (aCons (eCall dr (aCons (eVar 0) (aCons (eVar 4) (aNil))) []) (aCons (e2 opItem (eC (.str [97, 98, 99])) (eCall dr (aCons (eVar 0) (aCons (eVar 2) (aNil))) [])) (aCons (eCall dr (aCons (eVar 0) (aCons (eVar 4) (aNil))) []) (aNil)))))) (sIf (MP.tAnd (MP.tB (e2 opNotIn (eVar 6) (eVar 3))) (MP.tB (e2 opLt (eB bLen (aCons (eVar 3) (aNil))) (eC (.int 14))))) (sExpr (eMeth [(12, ad)] (eVar 1) (aCons (e2 opItem (eVar 6) (eC (.int 0))) (aCons (e2 opItem (eVar 6) (eC (.int 1))) (aCons (e2 opItem (eVar 6) (eC (.int 2))) (aNil)))) [])) (sPass)))) (sSeq (sPar 7 8 (eCall dr (aCons (eVar 0) (aCons (eVar 4) (aNil))) []) (eCall dr (aCons (eVar 0) (aCons (eC (.int 4)) (aNil))) [])) (sIf (MP.tB (e2 opEq (eVar 8) (eC (.int 0)))) (sExpr (eMeth [(12, aE)] (eVar 1) (aCons (eVar 7) (aNil)) [])) (sIf (MP.tB (e2 opEq (eVar 8) (eC (.int 1)))) (sExpr (eMeth [(12, rE)] (eVar 1) (aCons (eVar 7) (aNil)) [])) (sIf (MP.tB (e2 opEq (eVar 8) (eC (.int 2)))) (sExpr (eMeth [(12, aS)] (eVar 1) (aCons (eVar 7) (aNil)) [])) (sExpr (eMeth [(12, rS)] (eVar 1) (aCons (eVar 7) (aNil)) [])))))))
section
variable {S : Store} {C : Cfg} {σ : Slots} {T : Pt} {Q : D → Store → Prop}
theorem p_neET {es : List Ed} : OkP (opNe (.tup (es.map eD)) (.tup []) S) Q = Q (.bl (!decide (es = []))) S := by
  unfold opNe eqD
  have e1 : snap S deep (.tup (es.map eD)) = some (.tuple (es.map eP)) := by
    show ((optAll (snap S 39) (es.map eD)).map PyData.tuple) = _
    rw [snap_eds 37 es]; rfl
  have e2 : snap S deep (.tup []) = some (.tuple []) := rfl
  rw [e1, e2]
  have e : PyData.eqv (.tuple (es.map eP)) (.tuple []) = decide (es = []) := by cases es <;> rfl
  show OkP (some (D.bl (!PyData.eqv (.tuple (es.map eP)) (.tuple [])), S)) Q = _
  rw [e]; rfl
theorem p_notinET {es : List Ed} {e : Ed} : OkP (opNotIn (eD e) (.tup (es.map eD)) S) Q = Q (.bl (!decide (e ∈ es))) S := by
  have h : inD S (eD e) (.tup (es.map eD)) = some (decide (e ∈ es)) := by
    have e2 : snaps S deep (es.map eD) = some (es.map eP) := snap_eds 38 es
    have e3 : snap S deep (eD e) = some (eP e) := rfl
    unfold inD
    simp only [e2, e3]
    rw [memD_eds]
  unfold opNotIn
  rw [h]; rfl
theorem FineQ.remK {sg many : Nat} {starts ends : List Int} {es : List Ed} {e : Ed} (f : FineQ sg many starts ends es) : FineQ sg many starts ends (es.erase e) :=
  { f with nd := f.nd.erase _, ok := fun x hx => f.ok x (List.mem_of_mem_erase hx) }
theorem FineQ.addK {sg many : Nat} {starts ends : List Int} {es : List Ed} {e : Ed} (f : FineQ sg many starts ends es) (w1 : inR many e.1) (w2 : inR many e.2.2) (w3 : ∃ c, e.2.1 = [c] ∧ c ∈ abcN sg) (hn : e ∉ es) : FineQ sg many starts ends (es ++ [e]) :=
  { f with
    nd := by
      rw [List.nodup_append]
      exact ⟨f.nd, by simp, fun a ha b hb q => by
        rw [List.mem_singleton] at hb
        subst hb
        exact hn (q ▸ ha)⟩
    ok := fun x hx => by
      rcases List.mem_append.mp hx with h | h
      · exact f.ok x h
      · rw [List.mem_singleton.mp h]; exact ⟨w1, w2, w3⟩ }
theorem Pen.outA {k q y : Nat} {d : Am} {S S' : Store} (P : Pen S k q) (kp : Keep S S' [y]) (hy : y ∈ d.all) (hk : k ∉ d.all) (hq : q ∉ d.all) : Pen S' k q :=
  P.keep kp (by rw [List.mem_singleton]; exact fun e => hk (e ▸ hy)) (by rw [List.mem_singleton]; exact fun e => hq (e ▸ hy))
theorem Keep.toA {k y : Nat} {d : Am} {S S' : Store} (kp : Keep S S' [y]) (hy : y ∈ d.all) : Keep S S' (k :: d.all) := kp.weak fun z hz => by
  rw [List.mem_singleton] at hz
  rw [hz]
  exact List.mem_cons_of_mem _ hy
theorem atI_K {α : Type} {xs : List α} {i : Int} (h0 : 0 ≤ i) (h : i < xs.length) : ∃ a, atI xs i = some a ∧ xs[i.toNat]? = some a := by
  have hlt : i.toNat < xs.length := by omega
  refine ⟨xs[i.toNat], ?_, List.getElem?_eq_getElem hlt⟩
  have e : ixN xs.length i = some i.toNat := by
    unfold ixN
    simp [h0, h]
  unfold atI
  rw [e]
  exact List.getElem?_eq_getElem hlt
def bMvR (dr rm : Nat) : MS := sSeq (sSet (.nm 5) (e2 opItem (eVar 3) (eCall dr (aCons (eVar 0) (aCons (eB bLen (aCons (eVar 3) (aNil))) (aNil))) []))) (sExpr (eMeth [(12, rm)] (eVar 1) (aCons (e2 opItem (eVar 5) (eC (.int 0))) (aCons (e2 opItem (eVar 5) (eC (.int 1))) (aCons (e2 opItem (eVar 5) (eC (.int 2))) (aNil)))) []))
def bMvA (dr ad : Nat) : MS := sSeq (sSet (.nm 6) (eTup (aCons (eCall dr (aCons (eVar 0) (aCons (eVar 4) (aNil))) []) (aCons (e2 opItem (eC (.str [97, 98, 99])) (eCall dr (aCons (eVar 0) (aCons (eVar 2) (aNil))) [])) (aCons (eCall dr (aCons (eVar 0) (aCons (eVar 4) (aNil))) []) (aNil)))))) (sIf (MP.tAnd (MP.tB (e2 opNotIn (eVar 6) (eVar 3))) (MP.tB (e2 opLt (eB bLen (aCons (eVar 3) (aNil))) (eC (.int 14))))) (sExpr (eMeth [(12, ad)] (eVar 1) (aCons (e2 opItem (eVar 6) (eC (.int 0))) (aCons (e2 opItem (eVar 6) (eC (.int 1))) (aCons (e2 opItem (eVar 6) (eC (.int 2))) (aNil)))) [])) (sPass))
def bMvS (dr aE rE aS rS : Nat) : MS := sSeq (sPar 7 8 (eCall dr (aCons (eVar 0) (aCons (eVar 4) (aNil))) []) (eCall dr (aCons (eVar 0) (aCons (eC (.int 4)) (aNil))) [])) (sIf (MP.tB (e2 opEq (eVar 8) (eC (.int 0)))) (sExpr (eMeth [(12, aE)] (eVar 1) (aCons (eVar 7) (aNil)) [])) (sIf (MP.tB (e2 opEq (eVar 8) (eC (.int 1)))) (sExpr (eMeth [(12, rE)] (eVar 1) (aCons (eVar 7) (aNil)) [])) (sIf (MP.tB (e2 opEq (eVar 8) (eC (.int 2)))) (sExpr (eMeth [(12, aS)] (eVar 1) (aCons (eVar 7) (aNil)) [])) (sExpr (eMeth [(12, rS)] (eVar 1) (aCons (eVar 7) (aNil)) [])))))
variable {k q : Nat} {d : Am} {x : Mc}
theorem Am.mem {d : Am} : d.n ∈ d.all ∧ d.a ∈ d.all ∧ d.b ∈ d.all ∧ d.c ∈ d.all := by simp [Am.all]
theorem mvr_ok {dr rm : Nat} (hd : DrawSpec (C.call dr)) (hrm : RemSpec (C.call rm)) (P : Pen S k q) (m : MK S d x) (fm : FineM x) (hk : k ∉ d.all) (hq : q ∉ d.all) (hne : x.es ≠ []) {o x5 x6 x7 x8 : Option D}
    (nx : ∀ S' x' x5, MK S' d x' → FineM x' → x'.sg = x.sg → x'.many = x.many → Pen S' k q → Keep S S' (k :: d.all) → T.nx [some (.ref k), some (.ref d.n), some (.int x.sg), some (.tup ((sortE x.es).map eD)), o, x5, x6, x7, x8] S') :
    OkS (bMvR dr rm C [some (.ref k), some (.ref d.n), some (.int x.sg), some (.tup ((sortE x.es).map eD)), o, x5, x6, x7, x8] S) T := by
  unfold bMvR
  have lenS : (sortE x.es).length = x.es.length := List.length_mergeSort _
  have hlen := fm.len
  have pos : 0 < x.es.length := List.length_pos_iff.mpr hne
  rw [oks_seq, oks_set]
  simp
  refine (hd P (by rw [lenS]; omega) (by rw [lenS]; omega)).imp fun v S3 ⟨i, e, hi, k3, P3⟩ => ?_
  subst e
  obtain ⟨dd, a1, a2⟩ := atI_K (xs := (sortE x.es).map eD) hi.1 (by rw [List.length_map]; exact hi.2)
  rw [List.getElem?_map] at a2
  obtain ⟨ed, he, rfl⟩ := Option.map_eq_some_iff.mp a2
  rw [p_itemT]
  refine ⟨_, a1, ?_⟩
  have hmem : ed ∈ x.es := List.mem_mergeSort.mp (List.mem_of_getElem? he)
  obtain ⟨eo, el, et⟩ := ed
  have m3 : MK S3 d x := MK.keepA m k3 (fun z hz w => hk (by rw [List.mem_singleton] at w; exact w ▸ hz))
  have e0 : atI [D.int eo, .str el, .int et] 0 = some (.int eo) := rfl
  have e1 : atI [D.int eo, .str el, .int et] 1 = some (.str el) := rfl
  have e2 : atI [D.int eo, .str el, .int et] 2 = some (.int et) := rfl
  rw [oks_expr]
  simp [eD, meth_at m3.hn, e0, e1, e2]
  refine (hrm (e := (eo, el, et)) m3).mono (fun v S4 ⟨_, _, k4, m4⟩ => ?_) (fun k fs S3 ⟨h, _⟩ => absurd hmem h)
  refine nx S4 { x with es := x.es.erase (eo, el, et) } _ m4 ⟨fm.q.remK, fm.g1, fm.g3, ?_⟩ rfl rfl (P3.outA k4 Am.mem.2.1 hk hq) ((k3.weak (by simp)).trans (k4.toA Am.mem.2.1))
  have := (List.erase_sublist : (x.es.erase (eo, el, et)).Sublist x.es).length_le
  show (x.es.erase (eo, el, et)).length ≤ 14
  omega
theorem mva_ok {dr ad : Nat} (hd : DrawSpec (C.call dr)) (had : AddSpec (C.call ad)) (P : Pen S k q) (m : MK S d x) (fm : FineM x) (hk : k ∉ d.all) (hq : q ∉ d.all) {x5 x6 x7 x8 : Option D}
    (nx : ∀ S' x' x6, MK S' d x' → FineM x' → x'.sg = x.sg → x'.many = x.many → Pen S' k q → Keep S S' (k :: d.all) → T.nx [some (.ref k), some (.ref d.n), some (.int x.sg), some (.tup ((sortE x.es).map eD)), some (.int x.many), x5, x6, x7, x8] S') :
    OkS (bMvA dr ad C [some (.ref k), some (.ref d.n), some (.int x.sg), some (.tup ((sortE x.es).map eD)), some (.int x.many), x5, x6, x7, x8] S) T := by
  unfold bMvA
  have lenS : (sortE x.es).length = x.es.length := List.length_mergeSort _
  have memS : ∀ e, e ∈ sortE x.es ↔ e ∈ x.es := fun e => List.mem_mergeSort
  have hlen := fm.len
  have g1 := fm.g1
  have g3 := fm.g3
  have hlo := fm.q.lo
  have hhi := fm.q.hi
  have kd : ∀ z ∈ d.all, z ∉ [k] := fun z hz w => hk (by rw [List.mem_singleton] at w; exact w ▸ hz)
  rw [oks_seq, oks_set]
  simp
  refine (hd P (by omega) (by omega)).imp fun v S1 ⟨i, e, hi, k1, P1⟩ => ?_
  subst e
  refine (hd P1 (by omega) (by omega)).imp fun v S2 ⟨j, e, hj, k2, P2⟩ => ?_
  subst e
  obtain ⟨c, a1, hc⟩ : ∃ c, atI [97, 98, 99] j = some c ∧ c ∈ abcN x.sg := by
    have hlt : j.toNat < ([97, 98, 99] : List Nat).length := by simp; omega
    refine ⟨([97, 98, 99] : List Nat)[j.toNat], ?_, ?_⟩
    · unfold atI
      rw [ixN_at hj.1 (by simp; omega)]
      exact List.getElem?_eq_getElem hlt
    · unfold abcN
      rw [List.mem_take_iff_getElem]
      exact ⟨j.toNat, by simp; omega, rfl⟩
  rw [p_itemS]
  refine ⟨c, ⟨by decide, a1⟩, ?_⟩
  refine (hd P2 (by omega) (by omega)).imp fun v S3 ⟨t, e, ht, k3, P3⟩ => ?_
  subst e
  have m3 : MK S3 d x := MK.keepA (MK.keepA (MK.keepA m k1 kd) k2 kd) k3 kd
  have kk : Keep S S3 (k :: d.all) := (((k1.trans k2).trans k3).weak (by simp))
  refine ⟨by decide, ?_⟩
  rw [oks_if]
  simp
  have ee : D.tup [.int i, .str [c], .int t] = eD (i, [c], t) := rfl
  rw [ee, p_notinET]
  have skip := nx S3 x (some (eD (i, [c], t))) m3 fm rfl rfl P3 kk
  by_cases h1 : (i, [c], t) ∈ sortE x.es
  · simp [h1]
    rw [oks_pass]
    exact skip
  · simp [h1, lenS]
    by_cases h2 : x.es.length < 14
    · refine .inr ⟨by omega, ?_⟩
      rw [oks_expr]
      have e0 : atI [D.int i, .str [c], .int t] 0 = some (.int i) := rfl
      have e1 : atI [D.int i, .str [c], .int t] 1 = some (.str [c]) := rfl
      have e2 : atI [D.int i, .str [c], .int t] 2 = some (.int t) := rfl
      simp [eD, meth_at m3.hn, e0, e1, e2]
      have hn : (i, [c], t) ∉ x.es := fun q => h1 ((memS _).mpr q)
      refine (had (e := (i, [c], t)) m3 g3 (by omega) (by simp)).mono (fun v S4 ⟨_, _, k4, m4⟩ => ?_) (fun k fs S3 ⟨f, dd, h, _⟩ => ?_)
      · refine nx S4 { x with es := x.es ++ [(i, [c], t)] } _ m4 ⟨fm.q.addK hi ht ⟨c, rfl, hc⟩ hn, g1, g3, ?_⟩ rfl rfl (P3.outA k4 Am.mem.2.1 hk hq) (kk.trans (k4.toA Am.mem.2.1))
        rw [List.length_append, List.length_singleton]
        omega
      · rw [addR_none (e := (i, [c], t)) hi ht ⟨c, rfl, hc⟩ hn (by omega)] at h
        cases h
    · refine .inl ⟨by omega, ?_⟩
      rw [oks_pass]
      exact skip
theorem mvs_ok {dr aE rE aS rS : Nat} (hd : DrawSpec (C.call dr)) (haE : AddEndSpec (C.call aE)) (hrE : RemEndSpec (C.call rE)) (haS : AddStartSpec (C.call aS)) (hrS : RemStartSpec (C.call rS)) (P : Pen S k q) (m : MK S d x) (fm : FineM x) (hk : k ∉ d.all) (hq : q ∉ d.all) {x3 x5 x6 x7 x8 : Option D}
    (nx : ∀ S' x' x7 x8, MK S' d x' → FineM x' → x'.sg = x.sg → x'.many = x.many → Pen S' k q → Keep S S' (k :: d.all) → T.nx [some (.ref k), some (.ref d.n), some (.int x.sg), x3, some (.int x.many), x5, x6, x7, x8] S') :
    OkS (bMvS dr aE rE aS rS C [some (.ref k), some (.ref d.n), some (.int x.sg), x3, some (.int x.many), x5, x6, x7, x8] S) T := by
  unfold bMvS
  have f := fm.q
  have hlo := f.lo
  have hhi := f.hi
  have ls : x.ss.length ≤ x.many := inR_len f.s1 f.r1
  have ll : x.ls.length ≤ x.many := inR_len f.s2 f.r2
  have kd : ∀ z ∈ d.all, z ∉ [k] := fun z hz w => hk (by rw [List.mem_singleton] at w; exact w ▸ hz)
  rw [oks_seq, oks_par]
  simp
  refine (hd P (by omega) (by omega)).imp fun v S1 ⟨i, e, hi, k1, P1⟩ => ?_
  subst e
  refine (hd P1 (by omega) (by omega)).imp fun v S2 ⟨j, e, hj, k2, P2⟩ => ?_
  subst e
  have m2 : MK S2 d x := MK.keepA (MK.keepA m k1 kd) k2 kd
  have kk : Keep S S2 (k :: d.all) := ((k1.trans k2).weak (by simp))
  rw [oks_if]
  simp
  by_cases h0 : j = 0
  · refine .inr ⟨h0, ?_⟩
    rw [oks_expr]
    simp [meth_at m2.hn]
    refine (haE m2 (by omega)).mono (fun v S3 ⟨_, _, k3, m3⟩ => ?_) (fun k fs S3 ⟨h, _⟩ => absurd hi h)
    refine nx S3 { x with ls := if i ∈ x.ls then x.ls else x.ls ++ [i] } _ _ m3 ⟨?_, fm.g1, fm.g3, fm.len⟩ rfl rfl (P2.outA k3 Am.mem.2.2.2 hk hq) (kk.trans (k3.toA Am.mem.2.2.2))
    show FineQ x.sg x.many x.ss (if i ∈ x.ls then x.ls else x.ls ++ [i]) x.es
    by_cases h : i ∈ x.ls
    · rw [if_pos h]; exact f
    · rw [if_neg h]; exact f.addE hi h
  · refine .inl ⟨h0, ?_⟩
    rw [oks_if]
    simp
    by_cases h1 : j = 1
    · refine .inr ⟨h1, ?_⟩
      rw [oks_expr]
      simp [meth_at m2.hn]
      refine (hrE m2).mono (fun v S3 ⟨_, _, k3, m3⟩ => ?_) (fun k fs S3 ⟨h, _⟩ => absurd hi h)
      exact nx S3 { x with ls := x.ls.erase i } _ _ m3 ⟨f.remE, fm.g1, fm.g3, fm.len⟩ rfl rfl (P2.outA k3 Am.mem.2.2.2 hk hq) (kk.trans (k3.toA Am.mem.2.2.2))
    · refine .inl ⟨h1, ?_⟩
      rw [oks_if]
      simp
      by_cases h2 : j = 2
      · refine .inr ⟨h2, ?_⟩
        rw [oks_expr]
        simp [meth_at m2.hn]
        refine (haS m2 (by omega)).mono (fun v S3 ⟨_, _, k3, m3⟩ => ?_) (fun k fs S3 ⟨h, _⟩ => absurd hi h)
        refine nx S3 { x with ss := if i ∈ x.ss then x.ss else x.ss ++ [i] } _ _ m3 ⟨?_, fm.g1, fm.g3, fm.len⟩ rfl rfl (P2.outA k3 Am.mem.2.2.1 hk hq) (kk.trans (k3.toA Am.mem.2.2.1))
        show FineQ x.sg x.many (if i ∈ x.ss then x.ss else x.ss ++ [i]) x.ls x.es
        by_cases h : i ∈ x.ss
        · rw [if_pos h]; exact f
        · rw [if_neg h]; exact f.addS hi h
      · refine .inl ⟨h2, ?_⟩
        rw [oks_expr]
        simp [meth_at m2.hn]
        refine (hrS m2).mono (fun v S3 ⟨_, _, k3, m3⟩ => ?_) (fun k fs S3 ⟨h, _⟩ => absurd hi h)
        exact nx S3 { x with ss := x.ss.erase i } _ _ m3 ⟨f.remS, fm.g1, fm.g3, fm.len⟩ rfl rfl (P2.outA k3 Am.mem.2.2.1 hk hq) (kk.trans (k3.toA Am.mem.2.2.1))
def MovedSpec (call : List D → M D) : Prop := ∀ {S : Store} {k q : Nat} {d : Am} {x : Mc}, Pen S k q → MK S d x → FineM x → k ∉ d.all → q ∉ d.all →
  Ok (call [.ref k, .ref d.n, .int x.sg] S) (fun v S' => ∃ x', MK S' d x' ∧ FineM x' ∧ x'.sg = x.sg ∧ x'.many = x.many ∧ Pen S' k q ∧ Keep S S' (k :: d.all)) X0
theorem moved_ok {dr ed rm ad aE rE aS rS : Nat} (hd : DrawSpec (C.call dr)) (hed : EdgesSpec (C.call ed)) (hrm : RemSpec (C.call rm)) (had : AddSpec (C.call ad)) (haE : AddEndSpec (C.call aE)) (hrE : RemEndSpec (C.call rE)) (haS : AddStartSpec (C.call aS)) (hrS : RemStartSpec (C.call rS)) :
    MovedSpec (runFn ⟨3, 9, bMoved dr ed rm ad aE rE aS rS⟩ C) := by
  intro S k q d x P m fm hk hq
  refine ok_body rfl (σ0 := [some (.ref k), some (.ref d.n), some (.int x.sg), none, none, none, none, none, none]) rfl ?_
  have kd : ∀ z ∈ d.all, z ∉ [k] := fun z hz w => hk (by rw [List.mem_singleton] at w; exact w ▸ hz)
  show OkS (sSeq _ (sSeq (sIf _ (bMvR dr rm) (bMvA dr ad)) (bMvS dr aE rE aS rS)) C _ S) _
  rw [oks_seq, oks_par]
  simp [meth_at m.hn]
  refine (hed m).imp fun v S1 ⟨e1, k1⟩ => ?_
  subst e1
  have m1 := MK.keep0 m k1
  have P1 := P.keep k1 (by simp) (by simp)
  have k1' : Keep S S1 (k :: d.all) := k1.weak (by simp)
  rw [p_fld m1.hn rfl (d := .int x.many) rfl]
  refine seq_mid (fun σ S' => ∃ x' x5 x6, σ = [some (.ref k), some (.ref d.n), some (.int x.sg), some (.tup ((sortE x.es).map eD)), some (.int x.many), x5, x6, none, none] ∧ MK S' d x' ∧ FineM x' ∧ x'.sg = x.sg ∧ x'.many = x.many ∧ Pen S' k q ∧ Keep S S' (k :: d.all)) ?_ ?_
  · rw [oks_if]
    simp
    rw [p_neET]
    have es0 : sortE x.es = [] ↔ x.es = [] := by
      have lenS : (sortE x.es).length = x.es.length := List.length_mergeSort _
      rw [← List.length_eq_zero_iff, lenS, List.length_eq_zero_iff]
    by_cases h : x.es = []
    · rw [show (!decide (sortE x.es = [])) = false by simp [es0.mpr h]]
      simp
      refine mva_ok hd had P1 m1 fm hk hq fun S' x' x6 m' f' s' n' P' k' => ?_
      exact ⟨⟨_, _, rfl⟩, x', m', f', s', n', P', k1'.trans k'⟩
    · rw [show (!decide (sortE x.es = [])) = true by simp [es0, h]]
      simp
      refine (hd P1 (by omega) (by omega)).imp fun v S2 ⟨z, e, hz, k2, P2⟩ => ?_
      subst e
      have m2 : MK S2 d x := MK.keepA m1 k2 kd
      have k2' : Keep S S2 (k :: d.all) := k1'.trans (k2.weak (by simp))
      by_cases h0 : z = 0
      · refine .inr ⟨by simp [PyData.eqv, h0], ?_⟩
        refine mvr_ok hd hrm P2 m2 fm hk hq h fun S' x' x6 m' f' s' n' P' k' => ?_
        exact ⟨⟨_, _, rfl⟩, x', m', f', s', n', P', k2'.trans k'⟩
      · refine .inl ⟨by simp [PyData.eqv, h0], ?_⟩
        refine mva_ok hd had P2 m2 fm hk hq fun S' x' x6 m' f' s' n' P' k' => ?_
        exact ⟨⟨_, _, rfl⟩, x', m', f', s', n', P', k2'.trans k'⟩
  · rintro σ S2 ⟨x', x5, x6, rfl, m2, f2, s2, n2, P2, k2⟩
    rw [← s2, ← n2]
    exact mvs_ok hd haE hrE haS hrS P2 m2 f2 hk hq fun S3 x3 x7 x8 m3 f3 s3 n3 P3 k3 => ⟨x3, m3, f3, s3, n3, P3, k2.trans k3⟩
end
end MP
namespace K65
open MP
theorem isint_at (lv : Nat) : IsIntSpec (callN tb (lv + 1) 0) := by
  have e : callN tb (lv + 1) 0 = runFn ⟨3, 3, b_is_integer⟩ ⟨callN tb (lv + 0)⟩ := funext fun _ => callN_succ rfl
  rw [e]
  exact @isint_ok ⟨callN tb (lv + 0)⟩ 
theorem islog_at (lv : Nat) : IsLogSpec (callN tb (lv + 1) 1) := by
  have e : callN tb (lv + 1) 1 = runFn ⟨2, 3, b_is_log⟩ ⟨callN tb (lv + 0)⟩ := funext fun _ => callN_succ rfl
  rw [e]
  exact @islog_ok ⟨callN tb (lv + 0)⟩ 
theorem init_at (lv : Nat) : InitSpec (callN tb (lv + 2) 2) := by
  have e : callN tb (lv + 2) 2 = runFn ⟨3, 3, b_Machine_DinitD⟩ ⟨callN tb (lv + 1)⟩ := funext fun _ => callN_succ rfl
  rw [e]
  exact @init_ok ⟨callN tb (lv + 1)⟩ 0 (isint_at (lv + 0))
theorem req_at (lv : Nat) : ReqSpec (callN tb (lv + 2) 3) := by
  have e : callN tb (lv + 2) 3 = runFn ⟨2, 2, b_Machine_require_state⟩ ⟨callN tb (lv + 1)⟩ := funext fun _ => callN_succ rfl
  rw [e]
  exact @req_ok ⟨callN tb (lv + 1)⟩ 0 (isint_at (lv + 0))
theorem add_at (lv : Nat) : AddSpec (callN tb (lv + 3) 4) := by
  have e : callN tb (lv + 3) 4 = runFn ⟨4, 5, b_Machine_add_edge⟩ ⟨callN tb (lv + 2)⟩ := funext fun _ => callN_succ rfl
  rw [e]
  exact @add_ok ⟨callN tb (lv + 2)⟩ 3 1 (req_at (lv + 0)) (islog_at (lv + 1))
theorem rem_at (lv : Nat) : RemSpec (callN tb (lv + 1) 5) := by
  have e : callN tb (lv + 1) 5 = runFn ⟨4, 5, b_Machine_remove_edge⟩ ⟨callN tb (lv + 0)⟩ := funext fun _ => callN_succ rfl
  rw [e]
  exact @rem_ok ⟨callN tb (lv + 0)⟩ 
theorem addstart_at (lv : Nat) : AddStartSpec (callN tb (lv + 3) 6) := by
  have e : callN tb (lv + 3) 6 = runFn ⟨2, 2, b_Machine_add_start⟩ ⟨callN tb (lv + 2)⟩ := funext fun _ => callN_succ rfl
  rw [e]
  exact @addstart_ok ⟨callN tb (lv + 2)⟩ 3 (req_at (lv + 0))
theorem addend_at (lv : Nat) : AddEndSpec (callN tb (lv + 3) 7) := by
  have e : callN tb (lv + 3) 7 = runFn ⟨2, 2, b_Machine_add_end⟩ ⟨callN tb (lv + 2)⟩ := funext fun _ => callN_succ rfl
  rw [e]
  exact @addend_ok ⟨callN tb (lv + 2)⟩ 3 (req_at (lv + 0))
theorem remstart_at (lv : Nat) : RemStartSpec (callN tb (lv + 3) 8) := by
  have e : callN tb (lv + 3) 8 = runFn ⟨2, 2, b_Machine_remove_start⟩ ⟨callN tb (lv + 2)⟩ := funext fun _ => callN_succ rfl
  rw [e]
  exact @remstart_ok ⟨callN tb (lv + 2)⟩ 3 (req_at (lv + 0))
theorem remend_at (lv : Nat) : RemEndSpec (callN tb (lv + 3) 9) := by
  have e : callN tb (lv + 3) 9 = runFn ⟨2, 2, b_Machine_remove_end⟩ ⟨callN tb (lv + 2)⟩ := funext fun _ => callN_succ rfl
  rw [e]
  exact @remend_ok ⟨callN tb (lv + 2)⟩ 3 (req_at (lv + 0))
theorem edges_at (lv : Nat) : EdgesSpec (callN tb (lv + 1) 10) := by
  have e : callN tb (lv + 1) 10 = runFn ⟨1, 1, b_Machine_edges⟩ ⟨callN tb (lv + 0)⟩ := funext fun _ => callN_succ rfl
  rw [e]
  exact @edges_ok ⟨callN tb (lv + 0)⟩ 
theorem starts_at (lv : Nat) : StartsSpec (callN tb (lv + 1) 11) := by
  have e : callN tb (lv + 1) 11 = runFn ⟨1, 1, b_Machine_starts⟩ ⟨callN tb (lv + 0)⟩ := funext fun _ => callN_succ rfl
  rw [e]
  exact @starts_ok ⟨callN tb (lv + 0)⟩ 
theorem twin_at (lv : Nat) : TwinSpec (callN tb (lv + 3) 12) := by
  have e : callN tb (lv + 3) 12 = runFn ⟨1, 2, b_Machine_twin⟩ ⟨callN tb (lv + 2)⟩ := funext fun _ => callN_succ rfl
  rw [e]
  exact @twin_ok ⟨callN tb (lv + 2)⟩ 2 (init_at (lv + 0))
theorem step_at (lv : Nat) : StepSpec (callN tb (lv + 1) 13) := by
  have e : callN tb (lv + 1) 13 = runFn ⟨3, 7, b_Machine_step⟩ ⟨callN tb (lv + 0)⟩ := funext fun _ => callN_succ rfl
  rw [e]
  exact @step_ok ⟨callN tb (lv + 0)⟩ 
theorem hasend_at (lv : Nat) : HasEndSpec (callN tb (lv + 1) 14) := by
  have e : callN tb (lv + 1) 14 = runFn ⟨2, 3, b_Machine_has_end⟩ ⟨callN tb (lv + 0)⟩ := funext fun _ => callN_succ rfl
  rw [e]
  exact @hasend_ok ⟨callN tb (lv + 0)⟩ 
theorem pair_at (lv : Nat) : PairSpec (callN tb (lv + 1) 15) := by
  have e : callN tb (lv + 1) 15 = runFn ⟨1, 1, b_require_pair⟩ ⟨callN tb (lv + 0)⟩ := funext fun _ => callN_succ rfl
  rw [e]
  exact @pair_ok ⟨callN tb (lv + 0)⟩ 
theorem pen_at (lv : Nat) : PenSpec (callN tb (lv + 1) 24) := by
  have e : callN tb (lv + 1) 24 = runFn ⟨1, 1, b__law_pen⟩ ⟨callN tb (lv + 0)⟩ := funext fun _ => callN_succ rfl
  rw [e]
  exact @pen_ok ⟨callN tb (lv + 0)⟩ 
theorem fresh_at (lv : Nat) : FreshSpec (callN tb (lv + 1) 25) := by
  have e : callN tb (lv + 1) 25 = runFn ⟨1, 7, b__law_fresh⟩ ⟨callN tb (lv + 0)⟩ := funext fun _ => callN_succ rfl
  rw [e]
  exact @fresh_ok ⟨callN tb (lv + 0)⟩ 
theorem draw_at (lv : Nat) : DrawSpec (callN tb (lv + 2) 26) := by
  have e : callN tb (lv + 2) 26 = runFn ⟨2, 3, b__law_draw⟩ ⟨callN tb (lv + 1)⟩ := funext fun _ => callN_succ rfl
  rw [e]
  exact @draw_ok ⟨callN tb (lv + 1)⟩ 25 (fresh_at (lv + 0))
theorem plan_at (lv : Nat) : PlanSpec (callN tb (lv + 3) 27) := by
  have e : callN tb (lv + 3) 27 = runFn ⟨4, 11, b__law_plan⟩ ⟨callN tb (lv + 2)⟩ := funext fun _ => callN_succ rfl
  rw [e]
  exact @plan_ok ⟨callN tb (lv + 2)⟩ 26 (draw_at (lv + 0))
theorem machof_at (lv : Nat) : MachOfSpec (callN tb (lv + 4) 28) := by
  have e : callN tb (lv + 4) 28 = runFn ⟨2, 7, b__law_machine_of⟩ ⟨callN tb (lv + 3)⟩ := funext fun _ => callN_succ rfl
  rw [e]
  exact @machof_ok ⟨callN tb (lv + 3)⟩ 2 4 6 7 (init_at (lv + 1)) (add_at (lv + 0)) (addstart_at (lv + 0)) (addend_at (lv + 0))
theorem stepped_at (lv : Nat) : SteppedSpec (callN tb (lv + 1) 29) := by
  have e : callN tb (lv + 1) 29 = runFn ⟨3, 6, b__law_stepped⟩ ⟨callN tb (lv + 0)⟩ := funext fun _ => callN_succ rfl
  rw [e]
  exact @stepped_ok ⟨callN tb (lv + 0)⟩ 
theorem states_at (lv : Nat) : StatesSpec (callN tb (lv + 2) 30) := by
  have e : callN tb (lv + 2) 30 = runFn ⟨2, 4, b__law_states⟩ ⟨callN tb (lv + 1)⟩ := funext fun _ => callN_succ rfl
  rw [e]
  exact @states_ok ⟨callN tb (lv + 1)⟩ 29 (stepped_at (lv + 0))
theorem has_at (lv : Nat) : HasLSpec (callN tb (lv + 3) 31) := by
  have e : callN tb (lv + 3) 31 = runFn ⟨2, 3, b__law_has⟩ ⟨callN tb (lv + 2)⟩ := funext fun _ => callN_succ rfl
  rw [e]
  exact @has_ok ⟨callN tb (lv + 2)⟩ 30 (states_at (lv + 0))
open PySem (PyData)
theorem hasendL_at (lv : Nat) : HasEndLSpec (callN tb (lv + 1) 14) := by
  have e : callN tb (lv + 1) 14 = runFn ⟨2, 3, b_Machine_has_end⟩ ⟨callN tb (lv + 0)⟩ := funext fun _ => callN_succ rfl
  rw [e]
  exact @hasendL_ok ⟨callN tb (lv + 0)⟩
theorem ksign_at (lv : Nat) : KSignSpec (callN tb (lv + 2) 16) := by
  have e : callN tb (lv + 2) 16 = runFn ⟨2, 2, b_require_sign⟩ ⟨callN tb (lv + 1)⟩ := funext fun _ => callN_succ rfl
  rw [e]
  exact @ksign_ok ⟨callN tb (lv + 1)⟩ 1 (islog_at lv)
theorem kinit_at (lv : Nat) : KInitSpec 12 13 (callN tb (lv + 4) 17) := by
  have e : callN tb (lv + 4) 17 = runFn ⟨2, 3, b_KindFollower_DinitD⟩ ⟨callN tb (lv + 3)⟩ := funext fun _ => callN_succ rfl
  rw [e]
  exact @kinit_ok ⟨callN tb (lv + 3)⟩ 12 13 (by decide) 15 12 11 (pair_at (lv + 2)) (twin_at lv) (starts_at (lv + 2))
theorem krows_at (lv : Nat) : KRowsSpec 12 13 (callN tb (lv + 1) 20) := by
  have e : callN tb (lv + 1) 20 = runFn ⟨1, 1, b_KindFollower_rows⟩ ⟨callN tb (lv + 0)⟩ := funext fun _ => callN_succ rfl
  rw [e]
  exact @krows_ok ⟨callN tb (lv + 0)⟩ 12 13 (by decide)
theorem kread_at (lv : Nat) : KReadSpec 12 13 (callN tb (lv + 3) 18) := by
  have e : callN tb (lv + 3) 18 = runFn ⟨2, 5, b_KindFollower_read⟩ ⟨callN tb (lv + 2)⟩ := funext fun _ => callN_succ rfl
  rw [e]
  exact @kread_ok ⟨callN tb (lv + 2)⟩ 12 13 (by decide) 16 13 20 (ksign_at lv) (step_at (lv + 1)) (krows_at (lv + 1))
theorem know_at (lv : Nat) : KNowSpec 12 13 (callN tb (lv + 2) 19) := by
  have e : callN tb (lv + 2) 19 = runFn ⟨1, 4, b_KindFollower_is_now⟩ ⟨callN tb (lv + 1)⟩ := funext fun _ => callN_succ rfl
  rw [e]
  exact @know_ok ⟨callN tb (lv + 1)⟩ 12 13 20 14 (krows_at lv) (hasend_at lv)
theorem kre_at (lv : Nat) : KReSpec (callN tb (lv + 2) 23) := by
  have e : callN tb (lv + 2) 23 = runFn ⟨2, 8, b_reaches_end⟩ ⟨callN tb (lv + 1)⟩ := funext fun _ => callN_succ rfl
  rw [e]
  exact @kre_ok ⟨callN tb (lv + 1)⟩ 10 14 (edges_at lv) (hasendL_at lv)
theorem kcan_at (lv : Nat) : KCanSpec 12 13 (callN tb (lv + 3) 21) := by
  have e : callN tb (lv + 3) 21 = runFn ⟨1, 4, b_KindFollower_can_become⟩ ⟨callN tb (lv + 2)⟩ := funext fun _ => callN_succ rfl
  rw [e]
  exact @kcan_ok ⟨callN tb (lv + 2)⟩ 12 13 20 23 (krows_at (lv + 1)) (kre_at lv)
theorem kset_at (lv : Nat) : KSetSpec 12 13 (callN tb (lv + 4) 22) := by
  have e : callN tb (lv + 4) 22 = runFn ⟨1, 1, b_KindFollower_is_settled⟩ ⟨callN tb (lv + 3)⟩ := funext fun _ => callN_succ rfl
  rw [e]
  exact @kset_ok ⟨callN tb (lv + 3)⟩ 12 13 21 (kcan_at lv)
theorem lcan_at (lv : Nat) : LawCanSpec (callN tb (lv + 2) 32) := by
  have e : callN tb (lv + 2) 32 = runFn ⟨3, 7, b__law_can⟩ ⟨callN tb (lv + 1)⟩ := funext fun _ => callN_succ rfl
  rw [e]
  exact @lawcan_ok ⟨callN tb (lv + 1)⟩ 29 (stepped_at lv)
theorem moved_at (lv : Nat) : MovedSpec (callN tb (lv + 4) 33) := by
  have e : callN tb (lv + 4) 33 = runFn ⟨3, 9, b__law_moved⟩ ⟨callN tb (lv + 3)⟩ := funext fun _ => callN_succ rfl
  rw [e]
  exact @moved_ok ⟨callN tb (lv + 3)⟩ 26 10 5 4 7 9 6 8 (draw_at (lv + 1)) (edges_at (lv + 2)) (rem_at (lv + 2)) (add_at lv) (addend_at lv) (remend_at lv) (addstart_at lv) (remstart_at lv)
def bStep : MS := sSeq (sSet (.nm 9) (eB bTuple (aCons (eLc (eVar 12) (.tp [(.nm 12), (.nm 13)]) (iZipE (eC (.str [65, 66])) (eVar 4)) (tV (eCall 31 (aCons (eVar 13) (aCons (eVar 7) (aNil))) [])) [12, 13]) (aNil)))) (sSeq (sSet (.nm 10) (eB bTuple (aCons (eLc (eVar 12) (.tp [(.nm 12), (.nm 13)]) (iZipE (eC (.str [65, 66])) (eVar 4)) (tV (eCall 32 (aCons (eVar 13) (aCons (eCall 30 (aCons (eVar 13) (aCons (eVar 7) (aNil))) []) (aCons (eVar 3) (aNil)))) [])) [12, 13]) (aNil)))) (sSeq (sIf (MP.tOr (MP.tB (e2 opNe (eMeth [(19, 19)] (eVar 6) aNil []) (eVar 9))) (MP.tOr (MP.tB (e2 opNe (eMeth [(19, 21)] (eVar 6) aNil []) (eVar 10))) (MP.tB (e2 opNe (eB bRepr (aCons (eMeth [(19, 22)] (eVar 6) aNil []) (aNil))) (eB bRepr (aCons (e2 opLe (eB bLen (aCons (eVar 10) (aNil))) (eC (.int 1))) (aNil))))))) (sRet (eC (.bl false))) (sPass)) (sSeq (sExpr (eCall 33 (aCons (eVar 1) (aCons (e2 opItem (eVar 5) (eCall 26 (aCons (eVar 1) (aCons (eC (.int 2)) (aNil))) [])) (aCons (eVar 3) (aNil)))) [])) (sSeq (sSet (.nm 11) (e2 opItem (eC (.str [97, 98, 99])) (eCall 26 (aCons (eVar 1) (aCons (eVar 3) (aNil))) []))) (sSeq (sIf (MP.tB (e2 opIsNot (eMeth [(19, 18)] (eVar 6) (aCons (eVar 11) (aNil)) []) (eC .non))) (sRet (eC (.bl false))) (sPass)) (sSet (.nm 7) (e2 opAdd (eVar 7) (eVar 11))))))))
def bTurn : MS := sSeq (sSet (.nm 3) (e2 opAdd (eC (.int 1)) (eCall 26 (aCons (eVar 1) (aCons (eC (.int 3)) (aNil))) []))) (sSeq (sSet (.nm 4) (eLst (aCons (eCall 27 (aCons (eVar 1) (aCons (eVar 3) (aCons (eC (.int 4)) (aCons (eC (.int 7)) (aNil))))) []) (aCons (eCall 27 (aCons (eVar 1) (aCons (eVar 3) (aCons (eC (.int 4)) (aCons (eC (.int 7)) (aNil))))) []) (aNil))))) (sSeq (sIf (MP.tB (e2 opEq (eCall 26 (aCons (eVar 1) (aCons (eC (.int 6)) (aNil))) []) (eC (.int 0)))) (sItem (e2 opItem (eVar 4) (eCall 26 (aCons (eVar 1) (aCons (eC (.int 2)) (aNil))) [])) (e2 opAdd (eC (.int 1)) (eCall 26 (aCons (eVar 1) (aCons (eC (.int 2)) (aNil))) [])) (eLst (aNil))) (sPass)) (sSeq (sSet (.nm 5) (eTup (aCons (eCall 28 (aCons (eVar 3) (aCons (e2 opItem (eVar 4) (eC (.int 0))) (aNil))) []) (aCons (eCall 28 (aCons (eVar 3) (aCons (e2 opItem (eVar 4) (eC (.int 1))) (aNil))) []) (aNil))))) (sSeq (sIf (MP.tB (e2 opEq (eCall 26 (aCons (eVar 1) (aCons (eC (.int 5)) (aNil))) []) (eC (.int 0)))) (sItNm (eVar 4) (eC (.int 1)) 5 (e2 opItem (eVar 4) (eC (.int 0))) (eTup (aCons (e2 opItem (eVar 5) (eC (.int 0))) (aCons (e2 opItem (eVar 5) (eC (.int 0))) (aNil))))) (sPass)) (sSeq (sSet (.tp [(.nm 6), (.nm 7)]) (eTup (aCons (eNew 19 17 (aCons (eVar 5) (aNil)) []) (aCons (eC (.str [])) (aNil))))) (sSeq (sExpr (eCall 33 (aCons (eVar 1) (aCons (e2 opItem (eVar 5) (eCall 26 (aCons (eVar 1) (aCons (eC (.int 2)) (aNil))) [])) (aCons (eVar 3) (aNil)))) [])) (sFor (.nm 8) (iRange1 (e2 opAdd (eC (.int 1)) (eCall 26 (aCons (eVar 1) (aCons (eC (.int 7)) (aNil))) []))) bStep)))))))
theorem law_eq : b_law = sSeq (sSet (.nm 1) (eCall 24 (aCons (eVar 0) (aNil)) [])) (sSeq (sFor (.nm 2) (iRange1 (eC (.int 2))) bTurn) (sRet (eC (.bl true)))) := rfl
structure Am2 (S : Store) (k q L t : Nat) (p p' : Ap) (d e dd ee : Am) (x y : Mc) (u w : List Int) (B1 B2 : Nat) : Prop where
  P : Pen S k q
  hL : S.get L = some (.lst [.ref p.j, .ref p'.j])
  pl : PL S p x
  pl' : PL S p' y
  fx : FineM x
  fy : FineM y
  sg : x.sg = y.sg
  m : ∃ x1, MK S d x1 ∧ FineM x1 ∧ x1.sg = x.sg
  m' : ∃ y1, MK S e y1 ∧ FineM y1 ∧ y1.sg = x.sg
  kf : KF 12 13 S t dd ee x y u w
  low : ∀ z ∈ k :: q :: L :: (p.all ++ p'.all), z < B1
  mid : ∀ z ∈ d.all ++ e.all, B1 ≤ z ∧ z < B2
  de : d = e ∨ ∀ z ∈ d.all, z ∉ e.all
  tt : B1 ≤ B2 ∧ B2 ≤ t
  hi : ∀ z ∈ dd.all ++ ee.all, t < z
  kk : k ∉ L :: (p.all ++ p'.all)
  qq : q ≠ k
section
variable {S S' : Store} {k q L t : Nat} {p p' : Ap} {d e dd ee : Am} {x y : Mc} {u w : List Int} {B1 B2 : Nat} {ex : List Nat}
theorem Am2.side (h : Am2 S k q L t p p' d e dd ee x y u w B1 B2) (kp : Keep S S' ex) (hx : ∀ z ∈ ex, z = k ∨ (B1 ≤ z ∧ z < B2)) :
    S'.get L = some (.lst [.ref p.j, .ref p'.j]) ∧ PL S' p x ∧ PL S' p' y ∧ KF 12 13 S' t dd ee x y u w := by
  have hl : ∀ z ∈ L :: (p.all ++ p'.all), z ∉ ex := fun z hz q' => by
    rcases hx z q' with e | ⟨e, _⟩
    · exact h.kk (e ▸ hz)
    · have := h.low z (by simp only [List.mem_cons] at hz ⊢; rcases hz with hz | hz <;> simp [hz])
      omega
  have t1 := h.tt
  have hk := h.low k (by simp)
  have ht : t ∉ ex := fun q' => by
    rcases hx t q' with e | ⟨_, e⟩ <;> omega
  have hh : ∀ z ∈ dd.all ++ ee.all, z ∉ ex := fun z hz q' => by
    have := h.hi z hz
    rcases hx z q' with e | ⟨_, e⟩ <;> omega
  exact ⟨kp.get h.hL (hl L (by simp)), PL.keepA h.pl kp fun z hz => hl z (by simp [hz]), PL.keepA h.pl' kp fun z hz => hl z (by simp [hz]), h.kf.keep kp ht (fun z hz => hh z (by simp [hz])) fun z hz => hh z (by simp [hz])⟩
theorem Am2.draw (h : Am2 S k q L t p p' d e dd ee x y u w B1 B2) (kp : Keep S S' [k]) (P : Pen S' k q) : Am2 S' k q L t p p' d e dd ee x y u w B1 B2 := by
  obtain ⟨a1, a2, a3, a4⟩ := h.side kp fun z hz => .inl (List.mem_singleton.mp hz)
  have hk := h.low k (by simp)
  have md : ∀ z ∈ d.all ++ e.all, z ∉ [k] := fun z hz q' => by
    rw [List.mem_singleton] at q'
    have := h.mid z hz
    omega
  obtain ⟨x1, m1, f1, s1⟩ := h.m
  obtain ⟨y1, m2, f2, s2⟩ := h.m'
  exact { h with P := P, hL := a1, pl := a2, pl' := a3, kf := a4, m := ⟨x1, MK.keepA m1 kp fun z hz => md z (by simp [hz]), f1, s1⟩, m' := ⟨y1, MK.keepA m2 kp fun z hz => md z (by simp [hz]), f2, s2⟩ }
theorem Am2.keep0 (h : Am2 S k q L t p p' d e dd ee x y u w B1 B2) (kp : Keep S S' []) : Am2 S' k q L t p p' d e dd ee x y u w B1 B2 := h.draw (kp.weak (by simp)) (h.P.keep kp (by simp) (by simp))
theorem Am2.mv0 (h : Am2 S k q L t p p' d e dd ee x y u w B1 B2) (kp : Keep S S' (k :: d.all)) (P : Pen S' k q) {x1 : Mc} (m : MK S' d x1) (f : FineM x1) (s : x1.sg = x.sg) : Am2 S' k q L t p p' d e dd ee x y u w B1 B2 := by
  obtain ⟨a1, a2, a3, a4⟩ := h.side kp fun z hz => (List.mem_cons.mp hz).imp id fun hz => h.mid z (by simp [hz])
  have hk := h.low k (by simp)
  refine { h with P := P, hL := a1, pl := a2, pl' := a3, kf := a4, m := ⟨x1, m, f, s⟩, m' := ?_ }
  rcases h.de with e' | e'
  · subst e'
    exact ⟨x1, m, f, s⟩
  · obtain ⟨y1, m2, f2, s2⟩ := h.m'
    refine ⟨y1, MK.keepA m2 kp fun z hz q' => ?_, f2, s2⟩
    rcases List.mem_cons.mp q' with q' | q'
    · have := h.mid z (by simp [hz])
      omega
    · exact e' z q' hz
theorem Am2.mv1 (h : Am2 S k q L t p p' d e dd ee x y u w B1 B2) (kp : Keep S S' (k :: e.all)) (P : Pen S' k q) {y1 : Mc} (m : MK S' e y1) (f : FineM y1) (s : y1.sg = x.sg) : Am2 S' k q L t p p' d e dd ee x y u w B1 B2 := by
  obtain ⟨a1, a2, a3, a4⟩ := h.side kp fun z hz => (List.mem_cons.mp hz).imp id fun hz => h.mid z (by simp [hz])
  have hk := h.low k (by simp)
  refine { h with P := P, hL := a1, pl := a2, pl' := a3, kf := a4, m := ?_, m' := ⟨y1, m, f, s⟩ }
  rcases h.de with e' | e'
  · subst e'
    exact ⟨y1, m, f, s⟩
  · obtain ⟨x1, m2, f2, s2⟩ := h.m
    refine ⟨x1, MK.keepA m2 kp fun z hz q' => ?_, f2, s2⟩
    rcases List.mem_cons.mp q' with q' | q'
    · have := h.mid z (by simp [hz])
      omega
    · exact e' z hz q'
theorem Am2.rd (h : Am2 S k q L t p p' d e dd ee x y u w B1 B2) {u' w' : List Int} (kp : Keep S S' [t]) (kf : KF 12 13 S' t dd ee x y u' w') : Am2 S' k q L t p p' d e dd ee x y u' w' B1 B2 := by
  have t1 := h.tt
  have lo : ∀ z ∈ k :: q :: L :: (p.all ++ p'.all), z ∉ [t] := fun z hz q' => by
    rw [List.mem_singleton] at q'
    have := h.low z hz
    omega
  have md : ∀ z ∈ d.all ++ e.all, z ∉ [t] := fun z hz q' => by
    rw [List.mem_singleton] at q'
    have := h.mid z hz
    omega
  obtain ⟨x1, m1, f1, s1⟩ := h.m
  obtain ⟨y1, m2, f2, s2⟩ := h.m'
  exact { h with P := h.P.keep kp (lo _ (by simp)) (lo _ (by simp)), hL := kp.get h.hL (lo _ (by simp)), pl := PL.keepA h.pl kp fun z hz => lo z (by simp [hz]), pl' := PL.keepA h.pl' kp fun z hz => lo z (by simp [hz]), kf := kf, m := ⟨x1, MK.keepA m1 kp fun z hz => md z (by simp [hz]), f1, s1⟩, m' := ⟨y1, MK.keepA m2 kp fun z hz => md z (by simp [hz]), f2, s2⟩ }
theorem mv_at {C : Cfg} {σ : Slots} {T : Pt} (hC : C = ⟨callN tb 4⟩) (h : Am2 S k q L t p p' d e dd ee x y u w B1 B2) (s1 : σ[1]? = some (some (.ref k))) (s5 : σ[5]? = some (some (.tup [.ref d.n, .ref e.n]))) (s3 : σ[3]? = some (some (.int x.sg)))
    (nx : ∀ S', Am2 S' k q L t p p' d e dd ee x y u w B1 B2 → Keep S S' (k :: (d.all ++ e.all)) → T.nx σ S') :
    OkS (sExpr (eCall 33 (aCons (eVar 1) (aCons (e2 opItem (eVar 5) (eCall 26 (aCons (eVar 1) (aCons (eC (.int 2)) (aNil))) [])) (aCons (eVar 3) (aNil)))) []) C σ S) T := by
  subst hC
  rw [oks_expr]
  simp [s1, s5, s3]
  refine (draw_at 2 h.P (by decide) (by decide)).imp fun v S1 ⟨i, e1, hi, k1, P1⟩ => ?_
  subst e1
  have h1 := h.draw k1 P1
  have hk := h.low k (by simp)
  have hq := h.low q (by simp)
  have kd : ∀ z ∈ d.all ++ e.all, k ≠ z ∧ q ≠ z := fun z hz => by
    have := h.mid z hz
    omega
  have hi' : i = 0 ∨ i = 1 := by omega
  rcases hi' with rfl | rfl
  · obtain ⟨x1, m1, f1, g1⟩ := h1.m
    rw [← g1]
    refine (moved_at 0 P1 m1 f1 (fun z => (kd _ (by simp [z])).1 rfl) fun z => (kd _ (by simp [z])).2 rfl).imp fun v S2 ⟨x2, m2, f2, g2, _, P2, k2⟩ => ?_
    exact nx S2 (h1.mv0 k2 P2 m2 f2 (g2.trans g1)) ((k1.weak (by simp)).trans (k2.weak fun z hz => by simp only [List.mem_cons, List.mem_append] at hz ⊢; rcases hz with hz | hz <;> simp [hz]))
  · obtain ⟨y1, m1, f1, g1⟩ := h1.m'
    rw [← g1]
    refine (moved_at 0 P1 m1 f1 (fun z => (kd _ (by simp [z])).1 rfl) fun z => (kd _ (by simp [z])).2 rfl).imp fun v S2 ⟨x2, m2, f2, g2, _, P2, k2⟩ => ?_
    exact nx S2 (h1.mv1 k2 P2 m2 f2 (g2.trans g1)) ((k1.weak (by simp)).trans (k2.weak fun z hz => by simp only [List.mem_cons, List.mem_append] at hz ⊢; rcases hz with hz | hz <;> simp [hz]))
end
theorem next_zipSL {S : Store} {n : Nat} {xs ys : List D} (h2 : S.get n = some (.lst ys)) (i : Nat) : It.next S (.zip false [.seq xs, .lst n]) i = some (prs xs ys)[i]? := by
  have b : It.next S (.lst n) i = some ys[i]? := lst_next h2
  have c := next_zip (S := S) (xs := xs) (ys := ys) i
  have d : It.next S (.seq (prs xs ys)) i = some (prs xs ys)[i]? := by unfold It.next; rfl
  rw [← d, ← c]
  have b' : It.next S (.seq ys) i = some ys[i]? := by unfold It.next; rfl
  unfold It.next It.nexts It.nexts It.nexts
  rw [b, b']
theorem aft_ndK {es : List Ed} : ∀ {l : List Nat} {st : List Int}, st.Nodup → (aft es st l).Nodup
  | [], _, h => h
  | c :: l, st, _ => aft_ndK (es := es) (l := l) (st := stepS es st [c]) (List.nodup_iff_pairwise_ne.mpr ((asc_sortU _).imp fun h => by omega))
theorem aft_snocK {es : List Ed} {st : List Int} {l : List Nat} {c : Nat} : stepS es (aft es st l) [c] = aft es st (l ++ [c]) := by
  unfold aft
  rw [List.foldl_append]
  rfl
theorem p_neKinds {S : Store} {Q : D → Store → Prop} {b0 b1 : Bool} : OkP (opNe (.tup (kinds b0 b1)) (.tup (kinds b0 b1)) S) Q = Q (.bl false) S := by
  cases b0 <;> cases b1 <;> rfl
def ftS (x : Mc) (l : List Nat) : List Int := aft x.es (sortU x.ss) l
theorem ftS_nd {x : Mc} {l : List Nat} : (ftS x l).Nodup := aft_ndK (List.nodup_iff_pairwise_ne.mpr ((asc_sortU _).imp fun h => by omega))
theorem ftS_in {x : Mc} (f : FineM x) {l : List Nat} : ∀ z ∈ ftS x l, inR x.many z := aft_in (fun e he => (f.q.ok e he).2.1) l _ (sortU_in f.q.r1)
section
variable {S : Store} {k q L t : Nat} {p p' : Ap} {d e dd ee : Am} {x y : Mc} {B1 B2 : Nat}
theorem step_okK {T : Pt} {x0 x2 x8 x9 x10 x11 x12 x13 : Option D} {l : List Nat} (h : Am2 S k q L t p p' d e dd ee x y (ftS x l) (ftS y l) B1 B2) (ll : l.length ≤ 100)
    (nx : ∀ S' c x9 x10 x11, Am2 S' k q L t p p' d e dd ee x y (ftS x (l ++ [c])) (ftS y (l ++ [c])) B1 B2 → Keep S S' (k :: t :: (d.all ++ e.all)) → T.nx [x0, some (.ref k), x2, some (.int x.sg), some (.ref L), some (.tup [.ref d.n, .ref e.n]), some (.ref t), some (.str (l ++ [c])), x8, x9, x10, x11, x12, x13] S') :
    OkS (bStep ⟨callN tb 4⟩ [x0, some (.ref k), x2, some (.int x.sg), some (.ref L), some (.tup [.ref d.n, .ref e.n]), some (.ref t), some (.str l), x8, x9, x10, x11, x12, x13] S) T := by
  unfold bStep
  have lx := inR_len (ftS_nd (x := x) (l := l)) (ftS_in h.fx)
  have ly := inR_len (ftS_nd (x := y) (l := l)) (ftS_in h.fy)
  have mx := h.fx.q.hi
  have my := h.fy.q.hi
  have ex14 := h.fx.len
  have ey14 := h.fy.len
  have lsx : x.ss.length ≤ x.many := inR_len h.fx.q.s1 h.fx.q.r1
  have lsy : y.ss.length ≤ y.many := inR_len h.fy.q.s1 h.fy.q.r1
  rw [oks_seq, oks_set]
  simp [ok_lc, wipe]
  have zp : ∀ (S0 : Store) (Q : It → Store → Prop), S0.get L = some (.lst [.ref p.j, .ref p'.j]) → OkP (zpP (D.str [65, 66]) (D.ref L) S0) Q = Q (.zip false [.seq [.str [65], .str [66]], .lst L]) S0 := fun S0 Q g => by
    unfold zpP srcOf lstAt
    simp only [g]
    rfl
  have nxt : ∀ S' : Store, S'.get L = some (.lst [.ref p.j, .ref p'.j]) → It.next S' (.zip false [.seq [.str [65], .str [66]], .lst L]) 0 = some (some (.tup [.str [65], .ref p.j])) ∧ It.next S' (.zip false [.seq [.str [65], .str [66]], .lst L]) 1 = some (some (.tup [.str [66], .ref p'.j])) ∧ It.next S' (.zip false [.seq [.str [65], .str [66]], .lst L]) 2 = some none := fun S' g => by
    rw [next_zipSL g, next_zipSL g, next_zipSL g]
    exact ⟨rfl, rfl, rfl⟩
  rw [zp _ _ h.hL]
  refine Ok.imp (lc2k (b0 := (ftS x l).any fun z => decide (z ∈ x.ls)) (b1 := (ftS y l).any fun z => decide (z ∈ y.ls)) (kx := .str [65]) (ky := .str [66])
    (σ1 := [x0, some (.ref k), x2, some (.int x.sg), some (.ref L), some (.tup [.ref d.n, .ref e.n]), some (.ref t), some (.str l), x8, x9, x10, x11, some (.str [65]), some (.ref p.j)]) (σ2 := [x0, some (.ref k), x2, some (.int x.sg), some (.ref L), some (.tup [.ref d.n, .ref e.n]), some (.ref t), some (.str l), x8, x9, x10, x11, some (.str [66]), some (.ref p'.j)])
    (fun S' kp => nxt S' (kp.get h.hL (by simp))) (fun S' => rfl) (fun S' => rfl) rfl rfl rfl rfl (fun S' kp => ?_) (fun S' kp => ?_)) ?_
  · have pl := PL.keep0 h.pl kp
    have z := has_at 1 (log := l) pl (by omega) (by omega) (by omega)
    have e0 : (ftS x l).any (fun z => decide (z ∈ x.ls)) = (aft x.es (sortU x.ss) l).any fun z => decide (z ∈ x.ls) := rfl
    rw [← e0] at z
    generalize ((ftS x l).any fun z => decide (z ∈ x.ls)) = b0 at z ⊢
    simp
    refine z.imp fun v S2 ⟨e2', k2⟩ => ?_
    subst e2'
    cases b0 <;> simp [truth, k2]
  · have pl := PL.keep0 h.pl' kp
    have z := has_at 1 (log := l) pl (by omega) (by omega) (by omega)
    have e0 : (ftS y l).any (fun z => decide (z ∈ y.ls)) = (aft y.es (sortU y.ss) l).any fun z => decide (z ∈ y.ls) := rfl
    rw [← e0] at z
    generalize ((ftS y l).any fun z => decide (z ∈ y.ls)) = b0 at z ⊢
    simp
    refine z.imp fun v S2 ⟨e2', k2⟩ => ?_
    subst e2'
    cases b0 <;> simp [truth, k2]
  rintro _ S1 ⟨g1, k1⟩
  rw [p_tuple g1]
  have h1 := h.keep0 k1
  have ke1 : Keep S S1 (k :: t :: (d.all ++ e.all)) := k1.weak (by simp)
  show OkS (sSeq _ _ _ [x0, some (.ref k), x2, some (.int x.sg), some (.ref L), some (.tup [.ref d.n, .ref e.n]), some (.ref t), some (.str l), x8, some (.tup (kinds ((ftS x l).any fun z => decide (z ∈ x.ls)) ((ftS y l).any fun z => decide (z ∈ y.ls)))), x10, x11, x12, x13] S1) _
  generalize hb0 : ((ftS x l).any fun z => decide (z ∈ x.ls)) = b0
  generalize hb1 : ((ftS y l).any fun z => decide (z ∈ y.ls)) = b1
  clear k1 g1
  generalize S1 = S2 at h1 ke1 ⊢
  rw [oks_seq, oks_set]
  simp [ok_lc, wipe]
  rw [zp _ _ h1.hL]
  refine Ok.imp (lc2k (b0 := canB x.es x.ls (ftS x l)) (b1 := canB y.es y.ls (ftS y l)) (kx := .str [65]) (ky := .str [66])
    (σ1 := [x0, some (.ref k), x2, some (.int x.sg), some (.ref L), some (.tup [.ref d.n, .ref e.n]), some (.ref t), some (.str l), x8, some (.tup (kinds b0 b1)), x10, x11, some (.str [65]), some (.ref p.j)]) (σ2 := [x0, some (.ref k), x2, some (.int x.sg), some (.ref L), some (.tup [.ref d.n, .ref e.n]), some (.ref t), some (.str l), x8, some (.tup (kinds b0 b1)), x10, x11, some (.str [66]), some (.ref p'.j)])
    (fun S' kp => nxt S' (kp.get h1.hL (by simp))) (fun S' => rfl) (fun S' => rfl) rfl rfl rfl rfl (fun S' kp => ?_) (fun S' kp => ?_)) ?_
  · have pl := PL.keep0 h1.pl kp
    simp
    refine (states_at 2 (log := l) pl (by omega) (by omega) (by omega)).imp fun v S3 ⟨r, e3, _, g3, k3⟩ => ?_
    subst e3
    have z := lcan_at 2 (PL.keep0 pl k3) h1.fx (X := ftS x l) g3 ftS_nd (ftS_in h1.fx)
    generalize canB x.es x.ls (ftS x l) = b2 at z ⊢
    refine z.imp fun v S4 ⟨e4, k4⟩ => ?_
    subst e4
    cases b2 <;> simp [truth, k3.trans k4]
  · have pl := PL.keep0 h1.pl' kp
    simp
    refine (states_at 2 (log := l) pl (by omega) (by omega) (by omega)).imp fun v S3 ⟨r, e3, _, g3, k3⟩ => ?_
    subst e3
    rw [h1.sg]
    have z := lcan_at 2 (PL.keep0 pl k3) h1.fy (X := ftS y l) g3 ftS_nd (ftS_in h1.fy)
    generalize canB y.es y.ls (ftS y l) = b2 at z ⊢
    refine z.imp fun v S4 ⟨e4, k4⟩ => ?_
    subst e4
    cases b2 <;> simp [truth, k3.trans k4]
  rintro _ S3 ⟨g3, k3⟩
  rw [p_tuple g3]
  have h3 := h1.keep0 k3
  have ke3 : Keep S S3 (k :: t :: (d.all ++ e.all)) := ke1.trans (k3.weak (by simp))
  show OkS (sSeq _ _ _ [x0, some (.ref k), x2, some (.int x.sg), some (.ref L), some (.tup [.ref d.n, .ref e.n]), some (.ref t), some (.str l), x8, some (.tup (kinds b0 b1)), some (.tup (kinds (canB x.es x.ls (ftS x l)) (canB y.es y.ls (ftS y l)))), x11, x12, x13] S3) _
  clear k3 g3
  rw [oks_seq, oks_if]
  simp [meth_at h3.kf.ht]
  refine (know_at 2 h3.kf (by omega) (by omega)).imp fun v S4 ⟨e4, k4⟩ => ?_
  rw [hb0, hb1] at e4
  subst e4
  rw [p_neKinds]
  have h4 := h3.keep0 k4
  have ke4 := ke3.trans (k4.weak (by simp))
  refine .inl ⟨rfl, 21, by simp [meth_at h4.kf.ht], ?_⟩
  refine (kcan_at 1 h4.kf h4.fx h4.fy ftS_nd ftS_nd (ftS_in h4.fx) (ftS_in h4.fy)).imp fun v S5 ⟨e5, k5⟩ => ?_
  subst e5
  rw [p_neKinds]
  have h5 := h4.keep0 k5
  have ke5 := ke4.trans (k5.weak (by simp))
  refine .inl ⟨rfl, 22, by simp [meth_at h5.kf.ht], ?_⟩
  refine (kset_at 0 h5.kf h5.fx h5.fy ftS_nd ftS_nd (ftS_in h5.fx) (ftS_in h5.fy)).imp fun v S6 ⟨e6, k6⟩ => ?_
  subst e6
  have h6 := h5.keep0 k6
  have ke6 := ke5.trans (k6.weak (by simp))
  rw [p_reprB]
  have eb : (!decide (1 < ((kinds (canB x.es x.ls (ftS x l)) (canB y.es y.ls (ftS y l))).length : Int))) = decide ((kinds (canB x.es x.ls (ftS x l)) (canB y.es y.ls (ftS y l))).length ≤ 1) := by
    cases canB x.es x.ls (ftS x l) <;> cases canB y.es y.ls (ftS y l) <;> rfl
  rw [eb]
  simp
  rw [oks_pass]
  show OkS (sSeq _ _ _ _ S6) _
  rw [oks_seq]
  refine mv_at rfl h6 rfl rfl rfl fun S7 h7 k7 => ?_
  have ke7 := ke6.trans (k7.weak fun z hz => by simp only [List.mem_cons, List.mem_append] at hz ⊢; rcases hz with hz | hz <;> simp [hz])
  show OkS (sSeq _ _ _ _ S7) _
  rw [oks_seq, oks_set]
  have g1 := h7.fx.g1
  have g3 := h7.fx.g3
  simp
  refine (draw_at 2 h7.P (by omega) (by omega)).imp fun v S8 ⟨i, e8, hi, k8, P8⟩ => ?_
  subst e8
  have h8 := h7.draw k8 P8
  have ke8 := ke7.trans (k8.weak (by simp))
  obtain ⟨c, hc, hcm⟩ : ∃ c, atI [97, 98, 99] i = some c ∧ c ∈ abcN x.sg := by
    have hlt : i.toNat < ([97, 98, 99] : List Nat).length := by simp; omega
    refine ⟨([97, 98, 99] : List Nat)[i.toNat], ?_, ?_⟩
    · unfold atI
      rw [ixN_at hi.1 (by simp; omega)]
      exact List.getElem?_eq_getElem hlt
    · unfold abcN
      rw [List.mem_take_iff_getElem]
      exact ⟨i.toNat, by simp; omega, rfl⟩
  rw [p_itemS]
  refine ⟨c, ⟨by decide, hc⟩, ?_⟩
  rw [oks_seq, oks_if]
  simp [meth_at h8.kf.ht]
  refine (kread_at 1 h8.kf h8.fx h8.fy h8.sg hcm (fun z => Nat.lt_irrefl _ (h8.hi t (by simp [z]))) fun z => Nat.lt_irrefl _ (h8.hi t (by simp [z]))).imp fun v S9 ⟨e9, kf9, k9⟩ => ?_
  subst e9
  have kf9' : KF 12 13 S9 t dd ee x y (ftS x (l ++ [c])) (ftS y (l ++ [c])) := by
    have e1 : stepS x.es (ftS x l) [c] = ftS x (l ++ [c]) := aft_snocK
    have e2' : stepS y.es (ftS y l) [c] = ftS y (l ++ [c]) := aft_snocK
    rw [← e1, ← e2']
    exact kf9
  have h9 := h8.rd k9 kf9'
  have ke9 := ke8.trans (k9.weak (by simp))
  refine .inl ⟨rfl, ?_⟩
  rw [oks_pass]
  show OkS (sSet _ _ _ _ S9) _
  rw [oks_set]
  simp
  refine ⟨by simp [line]; omega, ?_⟩
  exact nx S9 c _ _ _ h9 ke9
end
structure Pl3 (S : Store) (k q L : Nat) (lst : List D) (p p' : Ap) (x y : Mc) (kk : Nat) : Prop where
  P : Pen S k q
  hL : S.get L = some (.lst lst)
  pl : PL S p x
  pl' : PL S p' y
  fx : FineM x
  fy : FineM y
  sx : x.sg = kk
  sy : y.sg = kk
  kk : k ∉ L :: (p.all ++ p'.all)
  qk : q ∉ k :: L :: (p.all ++ p'.all)
  n1 : p.j ∉ L :: p.p1 :: p.p2 :: p.p3 :: p'.all
  n2 : p'.j ∉ L :: p'.p1 :: p'.p2 :: p'.p3 :: p.all
theorem FineM.noS {x : Mc} (f : FineM x) : FineM { x with ss := [] } := ⟨{ f.q with s1 := .nil, r1 := fun _ z => nomatch z }, f.g1, f.g3, f.len⟩
theorem FineM.noL {x : Mc} (f : FineM x) : FineM { x with ls := [] } := ⟨{ f.q with s2 := .nil, r2 := fun _ z => nomatch z }, f.g1, f.g3, f.len⟩
theorem p_put2 {S : Store} {n i : Nat} {a b c d v : D} {Q : Unit → Store → Prop} (h : S.get n = some (.lst [a, b, c, d])) (hi : i < 4) : OkP (putItem (.ref n) (.int (i : Nat)) v S) Q = Q () (S.set n (.lst ([a, b, c, d].set i v))) := by
  unfold putItem
  have e : ixN 4 ((i : Nat) : Int) = some i := by
    unfold ixN
    rw [if_pos (by omega), if_pos (by omega)]
    simp
  simp only [h, List.length_cons, List.length_nil]
  rw [e]
  rfl
section
variable {S : Store} {k q L : Nat} {lst : List D} {p p' : Ap} {x y : Mc} {kk : Nat}
theorem Pl3.out (h : Pl3 S k q L lst p p' x y kk) {S' : Store} {ex : List Nat} (kp : Keep S S' ex) (P : Pen S' k q) (hx : ∀ z ∈ ex, z = k ∨ S.size ≤ z) : Pl3 S' k q L lst p p' x y kk := by
  have hl : ∀ z ∈ L :: (p.all ++ p'.all), z ∉ ex := fun z hz q' => by
    rcases hx z q' with e | e
    · exact h.kk (e ▸ hz)
    · have : z < S.size := by
        rcases List.mem_cons.mp hz with hz | hz
        · rw [hz]; exact Store.get_lt h.hL
        · rcases List.mem_append.mp hz with hz | hz
          · exact PL.ltA h.pl z hz
          · exact PL.ltA h.pl' z hz
      omega
  exact { h with P := P, hL := kp.get h.hL (hl L (by simp)), pl := PL.keepA h.pl kp fun z hz => hl z (by simp [hz]), pl' := PL.keepA h.pl' kp fun z hz => hl z (by simp [hz]) }
theorem ne_of_nin {l : List Nat} {a b : Nat} (h : a ∉ l) (hb : b ∈ l) : a ≠ b := fun e => h (e ▸ hb)
theorem nin1 {a b : Nat} (h : a ≠ b) : a ∉ [b] := fun z => h (List.mem_singleton.mp z)
theorem Pl3.swap (h : Pl3 S k q L lst p p' x y kk) {S1 : Store} {p1 : Ap} {x1 : Mc} {r : Nat} (hr : S.size ≤ r) (P : Pen S1 k q) (gL : S1.get L = some (.lst lst)) (pl : PL S1 p1 x1) (pl' : PL S1 p' y) (fx : FineM x1) (sx : x1.sg = kk)
    (ej : p1.j = p.j) (e : (p1.p1 = r ∨ p1.p1 = p.p1) ∧ (p1.p2 = r ∨ p1.p2 = p.p2) ∧ p1.p3 = p.p3) : Pl3 S1 k q L lst p1 p' x1 y kk := by
  have lp := PL.ltA h.pl
  have lp' := PL.ltA h.pl'
  have lk := h.P.lt
  have sub : ∀ z ∈ p1.all, z = r ∨ z ∈ p.all := fun z hz => by
    simp only [Ap.all, List.mem_cons, List.not_mem_nil, or_false] at hz ⊢
    rcases hz with rfl | rfl | rfl | rfl
    · exact .inr (.inl ej)
    · exact e.1.imp id fun q => .inr (.inl q)
    · exact e.2.1.imp id fun q => .inr (.inr (.inl q))
    · exact .inr (.inr (.inr (.inr e.2.2)))
  refine ⟨P, gL, pl, pl', fx, h.fy, sx, h.sy, fun z => ?_, fun z => ?_, fun z => ?_, fun z => ?_⟩
  · rcases List.mem_cons.mp z with z | z
    · exact h.kk (by rw [z]; simp)
    · rcases List.mem_append.mp z with z | z
      · rcases sub _ z with q | q
        · omega
        · exact h.kk (by simp [q])
      · exact h.kk (by simp [z])
  · rcases List.mem_cons.mp z with z | z
    · exact h.qk (by rw [z]; simp)
    · rcases List.mem_cons.mp z with z | z
      · exact h.qk (by rw [z]; simp)
      · rcases List.mem_append.mp z with z | z
        · rcases sub _ z with q | q
          · omega
          · exact h.qk (by simp [q])
        · exact h.qk (by simp [z])
  · rw [ej] at z
    have b1 := lp p.j (by simp [Ap.all])
    simp only [List.mem_cons] at z
    rcases z with z | z | z | z | z
    · exact h.n1 (by rw [z]; simp)
    · rcases e.1 with q | q
      · omega
      · exact h.n1 (by rw [z, q]; simp)
    · rcases e.2.1 with q | q
      · omega
      · exact h.n1 (by rw [z, q]; simp)
    · exact h.n1 (by rw [z, e.2.2]; simp)
    · exact h.n1 (by simp [z])
  · have c1 := lp' p'.j (by simp [Ap.all])
    simp only [List.mem_cons] at z
    rcases z with z | z | z | z | z
    · exact h.n2 (by rw [z]; simp)
    · exact h.n2 (by rw [z]; simp)
    · exact h.n2 (by rw [z]; simp)
    · exact h.n2 (by rw [z]; simp)
    · rcases sub _ z with q | q
      · omega
      · exact h.n2 (by simp [q])
theorem Pl3.symm (h : Pl3 S k q L lst p p' x y kk) : Pl3 S k q L lst p' p y x kk := by
  refine ⟨h.P, h.hL, h.pl', h.pl, h.fy, h.fx, h.sy, h.sx, fun z => ?_, fun z => ?_, h.n2, h.n1⟩
  · rcases List.mem_cons.mp z with z | z
    · exact h.kk (by rw [z]; simp)
    · rcases List.mem_append.mp z with z | z
      · exact h.kk (by simp [z])
      · exact h.kk (by simp [z])
  · rcases List.mem_cons.mp z with z | z
    · exact h.qk (by rw [z]; simp)
    · rcases List.mem_cons.mp z with z | z
      · exact h.qk (by rw [z]; simp)
      · rcases List.mem_append.mp z with z | z
        · exact h.qk (by simp [z])
        · exact h.qk (by simp [z])
theorem Pl3.empty0 (h : Pl3 S k q L lst p p' x y kk) {j : Nat} (hj : j < 2) {S0 : Store} (k0 : Keep S S0 [k]) (P0 : Pen S0 k q) {r : Nat} (hr : S.size ≤ r) (gr : S0.get r = some (.lst [])) {Q : Unit → Store → Prop}
    (nx : ∀ S' p1 x1, p1.j = p.j → Pl3 S' k q L lst p1 p' x1 y kk → Keep S0 S' p.all → Q () S') : OkP (putItem (.ref p.j) (.int ((1 + j : Nat))) (.ref r) S0) Q := by
  have h0 := h.out k0 P0 (fun z hz => .inl (List.mem_singleton.mp hz))
  have sz := k0.le
  have lp := PL.ltA h.pl
  have lp0 := PL.ltA h0.pl
  have m1 : p.j ∈ p.all ∧ p.p1 ∈ p.all ∧ p.p2 ∈ p.all ∧ p.p3 ∈ p.all := by simp [Ap.all]
  have b1 := lp p.j m1.1
  have b0 := lp0 p.j m1.1
  rw [p_put2 h0.pl.hj (by omega)]
  have kA : Keep S0 (S0.set p.j (.lst ([D.int x.many, .ref p.p1, .ref p.p2, .ref p.p3].set (1 + j) (.ref r)))) [p.j] := Keep.set _ b0 (by simp)
  have gA : (S0.set p.j (.lst ([D.int x.many, .ref p.p1, .ref p.p2, .ref p.p3].set (1 + j) (.ref r)))).get p.j = some (.lst ([D.int x.many, .ref p.p1, .ref p.p2, .ref p.p3].set (1 + j) (.ref r))) := Store.get_set_same _ b0
  generalize S0.set p.j (.lst ([D.int x.many, .ref p.p1, .ref p.p2, .ref p.p3].set (1 + j) (.ref r))) = S1 at kA gA ⊢
  have P1 := P0.keep kA (nin1 (ne_of_nin h.kk (by simp [Ap.all]))) (nin1 (ne_of_nin h.qk (by simp [Ap.all])))
  have gL := kA.get h0.hL (nin1 (ne_of_nin h.n1 (by simp)).symm)
  have pl' := PL.keepA h0.pl' kA fun z hz => nin1 (ne_of_nin h.n1 (by simp [hz])).symm
  have kF : Keep S0 S1 p.all := kA.weak (by simp [Ap.all])
  have gr1 := kA.get gr (nin1 (by omega))
  have g1 := kA.get h0.pl.h1 (nin1 (ne_of_nin h.n1 (by simp)).symm)
  have g2 := kA.get h0.pl.h2 (nin1 (ne_of_nin h.n1 (by simp)).symm)
  have g3 := kA.get h0.pl.h3 (nin1 (ne_of_nin h.n1 (by simp)).symm)
  have hj' : j = 0 ∨ j = 1 := by omega
  rcases hj' with rfl | rfl
  · exact nx S1 { p with p1 := r } { x with ss := [] } rfl (h.swap hr P1 gL ⟨gA, gr1, g2, g3⟩ pl' (FineM.noS h.fx) h.sx rfl ⟨.inl rfl, .inr rfl, rfl⟩) kF
  · exact nx S1 { p with p2 := r } { x with ls := [] } rfl (h.swap hr P1 gL ⟨gA, g1, gr1, g3⟩ pl' (FineM.noL h.fx) h.sx rfl ⟨.inr rfl, .inl rfl, rfl⟩) kF
end
theorem oks_itnm {o1 i1 a b : ME} {j : Nat} {C : Cfg} {σ : Slots} {S : Store} {T : Pt} : OkS (sItNm o1 i1 j a b C σ S) T = Ok (a C σ S) (fun x S1 => Ok (b C σ S1) (fun y S2 => Ok (o1 C σ S2) (fun u S3 => Ok (i1 C σ S3) (fun k S4 => OkP (putItem u k x S4) fun _ S5 => j < σ.length ∧ T.nx (σ.set j (some y)) S5) (T.xe σ)) (T.xe σ)) (T.xe σ)) (T.xe σ) := by
  unfold sItNm; rw [oks_lift]
  congr 1; funext x S1
  rw [oks_lift]
  congr 1; funext y S2
  rw [oks_lift]
  congr 1; funext u S3
  rw [oks_lift]
  congr 1; funext k S4
  rw [oks_lift]
  unfold M.of OkP
  cases putItem u k x S4 with
  | none => rfl
  | some w =>
    show OkS (if j < σ.length then _ else _) T = _
    by_cases h : j < σ.length
    · rw [if_pos h]
      exact propext ⟨fun z => ⟨h, z⟩, fun z => z.2⟩
    · rw [if_neg h]
      exact propext ⟨fun z => z.elim, fun z => h z.1⟩
structure Pr4 (S : Store) (k q L : Nat) (p p' : Ap) (d e : Am) (x y : Mc) (kk B1 B2 : Nat) : Prop where
  P : Pen S k q
  hL : S.get L = some (.lst [.ref p.j, .ref p'.j])
  pl : PL S p x
  pl' : PL S p' y
  fx : FineM x
  fy : FineM y
  sx : x.sg = kk
  sy : y.sg = kk
  m : MK S d x
  m' : MK S e y
  low : ∀ z ∈ k :: q :: L :: (p.all ++ p'.all), z < B1
  mid : ∀ z ∈ d.all ++ e.all, B1 ≤ z ∧ z < B2
  de : d = e ∨ ∀ z ∈ d.all, z ∉ e.all
  tt : B1 ≤ B2 ∧ B2 ≤ S.size
  kk' : k ∉ L :: (p.all ++ p'.all)
theorem kfresh {S S1 S2 : Store} {ex ex2 : List Nat} (a : Keep S S1 ex) (b : Keep S1 S2 ex2) (h : ∀ n ∈ ex2, n ∈ ex ∨ S.size ≤ n) : Keep S S2 ex :=
  ⟨Nat.le_trans a.le b.le, fun j hj z => (b.same j (Nat.lt_of_lt_of_le hj a.le) fun w => (h j w).elim z fun q => absurd hj (Nat.not_lt.mpr q)).trans (a.same j hj z)⟩
theorem plan_at2 (lv : Nat) {S : Store} {k q kk : Nat} (P : Pen S k q) (g1 : 1 ≤ kk) (g3 : kk ≤ 3) : Ok (callN tb (lv + 3) 27 [.ref k, .int kk, .int 4, .int 7] S) (fun v S' => ∃ (p : Ap) (x : Mc), v = .ref p.j ∧ PL S' p x ∧ FineM x ∧ x.sg = kk ∧ x.es.length ≤ 7 ∧ p.up S.size ∧ Keep S S' [k] ∧ Pen S' k q) X0 := by
  refine (plan_at lv (sg := kk) (st := 4) (ed := 7) P g1 g3 (by decide) (by decide) (by decide)).imp fun v S' ⟨j, p1, p2, p3, many, starts, ends, es, e, pl, fp, ⟨a1, a2, a3, a4⟩, ⟨b1, b2, b3⟩, k2, P2⟩ => ?_
  exact ⟨⟨j, p1, p2, p3⟩, ⟨kk, many, es, starts, ends⟩, e, pl, ⟨fp.q (by decide), g1, g3, by have := fp.len; show es.length ≤ 14; omega⟩, rfl, fp.len, ⟨a2, b1, b2, b3⟩, k2, P2⟩
theorem turn_ok {S : Store} {k q : Nat} {x0 x2 x3 x4 x5 x6 x7 x8 x9 x10 x11 x12 x13 : Option D} {T : Pt} (P : Pen S k q) (hqk : q ≠ k)
    (nx : ∀ S' x3 x4 x5 x6 x7 x8 x9 x10 x11 x12 x13, Pen S' k q → Keep S S' [k] → T.nx [x0, some (.ref k), x2, x3, x4, x5, x6, x7, x8, x9, x10, x11, x12, x13] S') :
    OkS (bTurn ⟨callN tb 4⟩ [x0, some (.ref k), x2, x3, x4, x5, x6, x7, x8, x9, x10, x11, x12, x13] S) T := by
  unfold bTurn
  have lk := P.lt
  rw [oks_seq, oks_set]
  simp
  refine (draw_at 2 P (by decide) (by decide)).imp fun v S1 ⟨i, e, hi, k1, P1⟩ => ?_
  subst e
  obtain ⟨kk, hkk, g1, g3⟩ : ∃ kk : Nat, 1 + i = (kk : Int) ∧ 1 ≤ kk ∧ kk ≤ 3 := ⟨(1 + i).toNat, by omega, by omega, by omega⟩
  show OkS (sSeq _ _ _ [x0, some (.ref k), x2, some (.int (1 + i)), x4, x5, x6, x7, x8, x9, x10, x11, x12, x13] S1) T
  rw [hkk]
  rw [oks_seq, oks_set]
  simp
  refine (plan_at2 1 P1 g1 g3).imp fun v S2 ⟨p, x, e, pl, fx, sx, ex, up, k2, P2⟩ => ?_
  subst e
  refine (plan_at2 1 P2 g1 g3).imp fun v S3 ⟨p', y, e, pl', fy, sy, ey, up', k3, P3⟩ => ?_
  subst e
  refine ⟨by decide, ?_⟩
  obtain ⟨u1, u2, u3, u4⟩ := up
  obtain ⟨w1, w2, w3, w4⟩ := up'
  have lt2 := PL.ltA pl
  have lt3 := PL.ltA pl'
  have z1 := k1.le
  have z2 := k2.le
  have z3 := k3.le
  have bj := lt2 p.j (by simp [Ap.all])
  have bj' := lt3 p'.j (by simp [Ap.all])
  have pl3 : PL S3 p x := PL.keepA pl k3 fun z hz => nin1 (by simp only [Ap.all, List.mem_cons, List.not_mem_nil, or_false] at hz; omega)
  have kA : Keep S3 (S3.push (.lst [.ref p.j, .ref p'.j])) [] := Keep.push _
  have gA := Store.get_push_same S3 (.lst [.ref p.j, .ref p'.j])
  have zA := Store.size_push S3 (.lst [.ref p.j, .ref p'.j])
  have inA : ∀ z ∈ p.all, S1.size ≤ z ∧ z < S2.size := fun z hz => ⟨by simp only [Ap.all, List.mem_cons, List.not_mem_nil, or_false] at hz; omega, lt2 z hz⟩
  have inB : ∀ z ∈ p'.all, S2.size ≤ z ∧ z < S3.size := fun z hz => ⟨by simp only [Ap.all, List.mem_cons, List.not_mem_nil, or_false] at hz; omega, lt3 z hz⟩
  have H : Pl3 (S3.push (.lst [.ref p.j, .ref p'.j])) k q S3.size [.ref p.j, .ref p'.j] p p' x y kk := by
    refine ⟨P3.keep kA (by simp) (by simp), gA, PL.keep0 pl3 kA, PL.keep0 pl' kA, fx, fy, sx, sy, fun z => ?_, fun z => ?_, fun z => ?_, fun z => ?_⟩
    · rcases List.mem_cons.mp z with z | z
      · omega
      · rcases List.mem_append.mp z with z | z
        · have := inA _ z; omega
        · have := inB _ z; omega
    · rcases List.mem_cons.mp z with z | z
      · exact hqk z
      · rcases List.mem_cons.mp z with z | z
        · omega
        · rcases List.mem_append.mp z with z | z
          · have := inA _ z; omega
          · have := inB _ z; omega
    · simp only [List.mem_cons] at z
      rcases z with z | z | z | z | z
      · omega
      · omega
      · omega
      · omega
      · have := inB _ z; omega
    · simp only [List.mem_cons] at z
      rcases z with z | z | z | z | z
      · omega
      · omega
      · omega
      · omega
      · have := inA _ z; omega
  have kB : Keep S (S3.push (.lst [.ref p.j, .ref p'.j])) [k] := (((k1.trans k2).trans k3).trans (kA.weak (by simp)))
  have hlow : ∀ z ∈ S3.size :: (p.all ++ p'.all), S.size ≤ z := fun z hz => by
    rcases List.mem_cons.mp hz with hz | hz
    · omega
    · rcases List.mem_append.mp hz with hz | hz
      · have := inA _ hz; omega
      · have := inB _ hz; omega
  generalize S3.push (.lst [.ref p.j, .ref p'.j]) = S4 at H kB gA ⊢
  generalize S3.size = L at H hlow ⊢
  have atL0 : ∀ {S' : Store} {p p' : Ap} {x y : Mc} {Q : D → Store → Prop}, Pl3 S' k q L [.ref p.j, .ref p'.j] p p' x y kk → OkP (opItem (.ref L) (.int 0) S') Q = Q (.ref p.j) S' := fun H => by
    rw [p_item H.hL]
    exact propext ⟨fun ⟨d, e, h⟩ => by cases e; exact h, fun h => ⟨_, rfl, h⟩⟩
  have atL1 : ∀ {S' : Store} {p p' : Ap} {x y : Mc} {Q : D → Store → Prop}, Pl3 S' k q L [.ref p.j, .ref p'.j] p p' x y kk → OkP (opItem (.ref L) (.int 1) S') Q = Q (.ref p'.j) S' := fun H => by
    rw [p_item H.hL]
    exact propext ⟨fun ⟨d, e, h⟩ => by cases e; exact h, fun h => ⟨_, rfl, h⟩⟩
  obtain ⟨J, hJ⟩ : ∃ J : Slots → Store → Prop, ∀ σ S', J σ S' ↔ ∃ p p' x y, σ = [x0, some (.ref k), x2, some (.int kk), some (.ref L), x5, x6, x7, x8, x9, x10, x11, x12, x13] ∧ Pl3 S' k q L [.ref p.j, .ref p'.j] p p' x y kk ∧ Keep S S' [k] := ⟨_, fun _ _ => Iff.rfl⟩
  refine seq_mid J ?_ ?_
  · rw [oks_if]
    simp
    refine (draw_at 2 H.P (by decide) (by decide)).imp fun v S5 ⟨i5, e5, hi5, k5, P5⟩ => ?_
    subst e5
    have H5 := H.out k5 P5 (fun z hz => .inl (List.mem_singleton.mp hz))
    have kC := kB.trans k5
    by_cases h0 : i5 = 0
    · refine .inr ⟨by simp [PyData.eqv, h0], ?_⟩
      rw [oks_item]
      simp
      have kD : Keep S5 (S5.push (.lst [])) [] := Keep.push _
      have gD := Store.get_push_same S5 (.lst [])
      have H6 := H5.out kD (H5.P.keep kD (by simp) (by simp)) (by simp)
      have kE := kC.trans (kD.weak (ex' := [k]) (by simp))
      have hr : S5.size ≤ S5.size := Nat.le_refl _
      have lp5 := PL.ltA H5.pl
      have lp5' := PL.ltA H5.pl'
      have lL5 := Store.get_lt H5.hL
      have lk5 := H5.P.lt
      generalize hr' : S5.size = r at gD hr ⊢
      have lr := Store.get_lt gD
      generalize S5.push (.lst []) = S6 at kD gD H6 kE lr ⊢
      refine (draw_at 2 H6.P (by decide) (by decide)).imp fun v S7 ⟨i7, e7, hi7, k7, P7⟩ => ?_
      subst e7
      have H7 := H6.out k7 P7 (fun z hz => .inl (List.mem_singleton.mp hz))
      have lk7 := H6.P.lt
      have kr : r ≠ k := by omega
      have gr7 := k7.get gD (nin1 kr)
      have kF := kE.trans k7
      have hi7' : i7 = 0 ∨ i7 = 1 := by omega
      have one : ∀ (S8 : Store) (j : Int), 0 ≤ j ∧ j < 2 → ∃ jn : Nat, jn < 2 ∧ j = (jn : Int) ∧ ∀ Q : D → Store → Prop, OkP (opAdd (D.int 1) (D.int j) S8) Q = Q (.int ((1 + jn : Nat))) S8 := fun S8 j hj => ⟨j.toNat, by omega, by omega, fun Q => by
        show Q (.int (1 + j)) S8 = _
        rw [show (1 + j : Int) = ((1 + j.toNat : Nat) : Int) by omega]⟩
      rcases hi7' with rfl | rfl
      · rw [atL0 H7]
        refine (draw_at 2 H7.P (by decide) (by decide)).imp fun v S8 ⟨i8, e8, hi8, k8, P8⟩ => ?_
        subst e8
        obtain ⟨jn, hjn, _, hadd⟩ := one S8 i8 hi8
        rw [hadd]
        have k58 : Keep S5 S8 [k] := ((kD.weak (by simp)).trans k7).trans k8
        refine H5.empty0 hjn k58 P8 (Nat.le_of_eq hr') (k8.get gr7 (nin1 kr)) fun S9 p1 x1 ej H9 k9 => ?_
        rw [← ej] at H9
        exact (hJ _ _).mpr ⟨_, _, _, _, rfl, H9, kfresh (kF.trans k8) k9 fun z hz => .inr (hlow z (by simp [hz]))⟩
      · rw [atL1 H7]
        refine (draw_at 2 H7.P (by decide) (by decide)).imp fun v S8 ⟨i8, e8, hi8, k8, P8⟩ => ?_
        subst e8
        obtain ⟨jn, hjn, _, hadd⟩ := one S8 i8 hi8
        rw [hadd]
        have k58 : Keep S5 S8 [k] := ((kD.weak (by simp)).trans k7).trans k8
        refine H5.symm.empty0 hjn k58 P8 (Nat.le_of_eq hr') (k8.get gr7 (nin1 kr)) fun S9 p1 x1 ej H9 k9 => ?_
        have H9 := H9.symm
        rw [← ej] at H9
        exact (hJ _ _).mpr ⟨_, _, _, _, rfl, H9, kfresh (kF.trans k8) k9 fun z hz => .inr (hlow z (by simp [hz]))⟩
    · refine .inl ⟨by simp [PyData.eqv, h0], ?_⟩
      rw [oks_pass]
      exact (hJ _ _).mpr ⟨_, _, _, _, rfl, H5, kC⟩
  · have lowL : S.size ≤ L := hlow L (by simp)
    clear H kB gA hlow atL0 atL1 inA inB
    rintro σ S5 hj
    obtain ⟨p, p', x, y, rfl, H, kB⟩ := (hJ _ _).mp hj
    clear hj hJ
    have lk5 := H.P.lt
    have lp5 := PL.ltA H.pl
    have lp5' := PL.ltA H.pl'
    have lL5 := Store.get_lt H.hL
    rw [oks_seq, oks_set]
    simp
    have i0 : atI [D.ref p.j, .ref p'.j] 0 = some (.ref p.j) := rfl
    have i1 : atI [D.ref p.j, .ref p'.j] 1 = some (.ref p'.j) := rfl
    rw [p_item H.hL]
    refine ⟨_, i0, ?_⟩
    have mo1 := machof_at 0 H.pl H.fx.q H.fx.len H.fx.g1 H.fx.g3
    rw [H.sx] at mo1
    refine mo1.imp fun v S6 ⟨n1, a1, b1, c1, e6, m6, ⟨f1, f2, f3, f4⟩, k6⟩ => ?_
    subst e6
    have H6 := H.out k6 (H.P.keep k6 (by simp) (by simp)) (by simp)
    rw [p_item H6.hL]
    refine ⟨_, i1, ?_⟩
    have mo2 := machof_at 0 H6.pl' H6.fy.q H6.fy.len H6.fy.g1 H6.fy.g3
    rw [H6.sy] at mo2
    refine mo2.imp fun v S7 ⟨n2, a2, b2, c2, e7, m7, ⟨h1, h2, h3, h4⟩, k7⟩ => ?_
    subst e7
    have H7 := H6.out k7 (H6.P.keep k7 (by simp) (by simp)) (by simp)
    have z6 := k6.le
    have z7 := k7.le
    have l6 := m6.lt
    have l7 := m7.lt
    refine ⟨by decide, ?_⟩
    have m6' : MK S7 ⟨n1, a1, b1, c1⟩ { x with sg := kk } := Mach.keep m6 k7 (by simp) (by simp) (by simp) (by simp)
    have m7' : MK S7 ⟨n2, a2, b2, c2⟩ { y with sg := kk } := m7
    have xs : ({ x with sg := kk } : Mc) = x := by rw [← H.sx]
    have ys : ({ y with sg := kk } : Mc) = y := by rw [← H.sy]
    rw [xs] at m6'
    rw [ys] at m7'
    have kC : Keep S S7 [k] := (kB.trans (k6.weak (by simp))).trans (k7.weak (by simp))
    have Q4 : Pr4 S7 k q L p p' ⟨n1, a1, b1, c1⟩ ⟨n2, a2, b2, c2⟩ x y kk S5.size S7.size := by
      refine ⟨H7.P, H7.hL, H7.pl, H7.pl', H7.fx, H7.fy, H7.sx, H7.sy, m6', m7', fun z hz => ?_, fun z hz => ?_, .inr fun z hz w => ?_, ⟨by omega, Nat.le_refl _⟩, H7.kk⟩
      · simp only [List.mem_cons, List.mem_append] at hz
        rcases hz with hz | hz | hz | hz | hz
        · omega
        · omega
        · omega
        · exact lp5 z hz
        · exact lp5' z hz
      · simp only [Am.all, List.mem_append, List.mem_cons, List.not_mem_nil, or_false] at hz
        omega
      · simp only [Am.all, List.mem_cons, List.not_mem_nil, or_false] at hz w
        omega
    clear m6' m7' mo1 mo2
    obtain ⟨J2, hJ2⟩ : ∃ J : Slots → Store → Prop, ∀ σ S', J σ S' ↔ ∃ p p' d e x y B1 B2, σ = [x0, some (.ref k), x2, some (.int kk), some (.ref L), some (.tup [.ref d.n, .ref e.n]), x6, x7, x8, x9, x10, x11, x12, x13] ∧ Pr4 S' k q L p p' d e x y kk B1 B2 ∧ Keep S S' [k] ∧ S.size ≤ B1 := ⟨_, fun _ _ => Iff.rfl⟩
    refine seq_mid J2 ?_ ?_
    · rw [oks_if]
      simp
      refine (draw_at 2 H7.P (by decide) (by decide)).imp fun v S8 ⟨i8, e8, hi8, k8, P8⟩ => ?_
      subst e8
      have H8 := H7.out k8 P8 (fun z hz => .inl (List.mem_singleton.mp hz))
      have kD := kC.trans k8
      have z8 := k8.le
      have kn : ∀ z ∈ (⟨n1, a1, b1, c1⟩ : Am).all ++ (⟨n2, a2, b2, c2⟩ : Am).all, z ∉ [k] := fun z hz w => by
        have := Q4.mid z hz
        have := Q4.low k (by simp)
        rw [List.mem_singleton] at w
        omega
      have Q8 : Pr4 S8 k q L p p' ⟨n1, a1, b1, c1⟩ ⟨n2, a2, b2, c2⟩ x y kk S5.size S7.size := { Q4 with P := P8, hL := H8.hL, pl := H8.pl, pl' := H8.pl', m := MK.keepA Q4.m k8 fun z hz => kn z (by simp [hz]), m' := MK.keepA Q4.m' k8 fun z hz => kn z (by simp [hz]), tt := ⟨Q4.tt.1, by have := Q4.tt.2; omega⟩ }
      by_cases h0 : i8 = 0
      · refine .inr ⟨by simp [PyData.eqv, h0], ?_⟩
        rw [oks_itnm]
        simp
        rw [p_item Q8.hL]
        refine ⟨_, i0, ?_⟩
        have j0 : atI [D.ref n1, .ref n2] 0 = some (.ref n1) := rfl
        refine ⟨_, j0, ?_⟩
        refine ⟨_, j0, ?_⟩
        refine ⟨by decide, ?_⟩
        have pu : ∀ Q : Unit → Store → Prop, OkP (putItem (.ref L) (.int 1) (.ref p.j) S8) Q = Q () (S8.set L (.lst [.ref p.j, .ref p.j])) := fun Q => by
          unfold putItem
          simp only [Q8.hL]
          rfl
        rw [pu]
        have lL8 := Store.get_lt Q8.hL
        have kE : Keep S8 (S8.set L (.lst [.ref p.j, .ref p.j])) [L] := Keep.set _ lL8 (by simp)
        have gE := Store.get_set_same (.lst [.ref p.j, .ref p.j]) lL8
        have zE := Store.size_set S8 L (.lst [.ref p.j, .ref p.j])
        have nL : ∀ z ∈ p.all, z ≠ L := fun z hz w => by
          subst w
          simp only [Ap.all, List.mem_cons, List.not_mem_nil, or_false] at hz
          have hl := Q8.hL
          rcases hz with hz | hz | hz | hz
          · have := Q8.pl.hj
            rw [← hz, hl] at this
            cases this
          · have := Q8.pl.h1
            rw [← hz, hl] at this
            revert this
            cases x.ss with
            | nil => intro h; cases h
            | cons a r => intro h; cases h
          · have := Q8.pl.h2
            rw [← hz, hl] at this
            revert this
            cases x.ls with
            | nil => intro h; cases h
            | cons a r => intro h; cases h
          · have := Q8.pl.h3
            rw [← hz, hl] at this
            revert this
            cases x.es with
            | nil => intro h; cases h
            | cons a r => intro h; cases h
        have mL : ∀ z ∈ (⟨n1, a1, b1, c1⟩ : Am).all, z ∉ [L] := fun z hz w => by
          rw [List.mem_singleton] at w
          have := Q8.mid z (by simp [hz])
          have := Q8.low L (by simp)
          omega
        have kL : k ≠ L := fun w => Q8.kk' (by rw [w]; simp)
        have qL : q ≠ L := fun w => H8.qk (by rw [w]; simp)
        have plE := PL.keepA Q8.pl kE fun z hz => nin1 (nL z hz)
        have mE := MK.keepA Q8.m kE mL
        refine (hJ2 _ _).mpr ⟨p, p, ⟨n1, a1, b1, c1⟩, ⟨n1, a1, b1, c1⟩, x, x, S5.size, S7.size, rfl, ⟨Q8.P.keep kE (nin1 kL) (nin1 qL), gE, plE, plE, Q8.fx, Q8.fx, Q8.sx, Q8.sx, mE, mE, fun z hz => ?_, fun z hz => ?_, .inl rfl, ⟨Q8.tt.1, by rw [zE]; exact Q8.tt.2⟩, fun z => ?_⟩, kfresh kD kE fun z hz => .inr (by rw [List.mem_singleton.mp hz]; exact lowL), kB.le⟩
        · exact Q8.low z (by simp only [List.mem_cons, List.mem_append] at hz ⊢; rcases hz with hz | hz | hz | hz | hz <;> simp [hz])
        · exact Q8.mid z (by simp only [List.mem_append] at hz ⊢; rcases hz with hz | hz <;> simp [hz])
        · exact Q8.kk' (by simp only [List.mem_cons, List.mem_append] at z ⊢; rcases z with z | z | z <;> simp [z])
      · refine .inl ⟨by simp [PyData.eqv, h0], ?_⟩
        rw [oks_pass]
        exact (hJ2 _ _).mpr ⟨_, _, _, _, _, _, _, _, rfl, Q8, kD, kB.le⟩
    · clear Q4 H7 H6 H
      rintro σ S8 hj
      obtain ⟨p, p', d, e, x, y, B1, B2, rfl, Q, kD, lB1⟩ := (hJ2 _ _).mp hj
      clear hj hJ2
      rw [oks_seq, oks_set]
      simp
      have kp : Keep S8 (S8.push (.ins 19 [])) [] := Keep.push _
      have gp := Store.get_push_same S8 (.ins 19 [])
      have zp := Store.size_push S8 (.ins 19 [])
      have mm := MK.keep0 Q.m kp
      have mm' := MK.keep0 Q.m' kp
      have t2 := Q.tt
      refine (kinit_at 0 gp mm mm' Q.fx Q.fy (Q.sx.trans Q.sy.symm)).imp fun v S9 ⟨ev, dd, ee, kf, ud, ue, k9⟩ => ?_
      refine ⟨ev, by decide, ?_⟩
      obtain ⟨u1, u2, u3, u4⟩ := ud
      obtain ⟨w1, w2, w3, w4⟩ := ue
      generalize hT : S8.size = t at gp zp kf k9 ⊢
      have lo : ∀ z ∈ k :: q :: L :: (p.all ++ p'.all), z ∉ [t] := fun z hz w => by
        have := Q.low z hz
        rw [List.mem_singleton] at w
        omega
      have md : ∀ z ∈ d.all ++ e.all, z ∉ [t] := fun z hz w => by
        have := Q.mid z hz
        rw [List.mem_singleton] at w
        omega
      have k89 : Keep S8 S9 [t] := (kp.weak (by simp)).trans k9
      have kE : Keep S S9 [k] := kfresh kD k89 fun z hz => .inr (by
        rw [List.mem_singleton.mp hz, ← hT]
        exact kD.le)
      have A : Am2 S9 k q L t p p' d e dd ee x y (ftS x []) (ftS y []) B1 B2 := by
        refine ⟨Q.P.keep k89 (lo _ (by simp)) (lo _ (by simp)), k89.get Q.hL (lo _ (by simp)), PL.keepA Q.pl k89 fun z hz => lo z (by simp [hz]), PL.keepA Q.pl' k89 fun z hz => lo z (by simp [hz]), Q.fx, Q.fy, Q.sx.trans Q.sy.symm,
          ⟨x, MK.keepA Q.m k89 fun z hz => md z (by simp [hz]), Q.fx, rfl⟩, ⟨y, MK.keepA Q.m' k89 fun z hz => md z (by simp [hz]), Q.fy, Q.sy.trans Q.sx.symm⟩, kf, Q.low, Q.mid, Q.de, ⟨t2.1, by omega⟩, fun z hz => ?_, Q.kk', hqk⟩
        simp only [Am.all, List.mem_append, List.mem_cons, List.not_mem_nil, or_false] at hz
        omega
      have hkk2 : (kk : Int) = (x.sg : Int) := by rw [Q.sx]
      rw [hkk2]
      rw [oks_seq]
      have fr : ∀ z ∈ k :: t :: (d.all ++ e.all), z ∈ [k] ∨ S.size ≤ z := fun z hz => by
        rcases List.mem_cons.mp hz with hz | hz
        · exact .inl (by rw [hz]; simp)
        · rcases List.mem_cons.mp hz with hz | hz
          · right
            have := kD.le
            omega
          · right
            have := Q.mid z hz
            omega
      refine mv_at rfl A rfl rfl rfl fun S10 A10 k10 => ?_
      have kF : Keep S S10 [k] := kfresh kE k10 fun z hz => fr z (by simp only [List.mem_cons, List.mem_append] at hz ⊢; rcases hz with hz | hz | hz <;> simp [hz])
      show OkS (sFor _ _ _ _ _ S10) _
      rw [oks_for]
      simp
      refine (draw_at 2 A10.P (by decide) (by decide)).imp fun v S11 ⟨i11, e11, hi11, k11, P11⟩ => ?_
      subst e11
      have A11 := A10.draw k11 P11
      have kG := kF.trans k11
      show OkP (rg1 (.int (1 + i11)) S11) _
      rw [p_rg1]
      refine ⟨okR_nat (by omega) (by omega), ?_⟩
      generalize hn : (1 + i11).toNat = n
      have hn8 : n ≤ 8 := by omega
      obtain ⟨J3, hJ3⟩ : ∃ J : Nat → Slots → Store → Prop, ∀ i σ S', J i σ S' ↔ ∃ l x8 x9 x10 x11, σ = [x0, some (.ref k), x2, some (.int x.sg), some (.ref L), some (.tup [.ref d.n, .ref e.n]), some (.ref t), some (.str l), x8, x9, x10, x11, x12, x13] ∧ l.length = i ∧ Am2 S' k q L t p p' d e dd ee x y (ftS x l) (ftS y l) B1 B2 ∧ Keep S S' [k] := ⟨_, fun _ _ _ => Iff.rfl⟩
      refine for_seq (xs := rangeL 0 1 n) (by rw [rangeL_len]; unfold turns; omega) J3 ((hJ3 _ _ _).mpr ⟨[], _, _, _, _, rfl, rfl, A11, kG⟩) ?_ ?_
      · intro i dv σ S12 hd hj
        obtain ⟨l, y8, y9, y10, y11, rfl, hl, A12, k12⟩ := (hJ3 _ _ _).mp hj
        obtain ⟨rfl, hi⟩ := rangeL_at _ _ _ _ _ hd
        refine ⟨_, by simp; rfl, ?_⟩
        refine step_okK A12 (by omega) fun S13 c z9 z10 z11 A13 k13 => ?_
        exact (hJ3 _ _ _).mpr ⟨l ++ [c], _, _, _, _, rfl, by rw [List.length_append, hl]; rfl, A13, kfresh k12 k13 fr⟩
      · intro σ S12 hj
        obtain ⟨l, y8, y9, y10, y11, rfl, hl, A12, k12⟩ := (hJ3 _ _ _).mp hj
        exact nx S12 _ _ _ _ _ _ _ _ _ _ _ A12.P k12
theorem law_ok (ns : List Int) (h : ns.length ≤ 63) : Ok (callN tb 5 34 [.ref 0] (store0 ns)) (fun v S' => v = .bl true) X0 := by
  have e : callN tb 5 34 = runFn ⟨1, 14, b_law⟩ ⟨callN tb 4⟩ := funext fun _ => callN_succ rfl
  rw [e, law_eq]
  refine ok_body rfl (σ0 := [some (.ref 0), none, none, none, none, none, none, none, none, none, none, none, none, none]) rfl ?_
  rw [oks_seq, oks_set]
  simp
  have hg : (store0 ns).get 0 = some (.rol (ns.map .int)) := Store.get_push_same _ _
  refine (pen_at 3 (S := store0 ns) (cs := ns) hg h).imp fun v S1 ⟨k, q, e, hk, hq, kp, P⟩ => ?_
  subst e
  have hqk : q ≠ k := by
    intro w
    obtain ⟨a, z, g1⟩ := P.ex
    obtain ⟨cs, g2, _⟩ := P.cs
    rw [w, g1] at g2
    cases cs with
    | nil => cases g2
    | cons c r => cases g2
  rw [oks_seq, oks_for]
  simp
  refine ⟨by decide, ?_⟩
  obtain ⟨J, hJ⟩ : ∃ J : Nat → Slots → Store → Prop, ∀ i σ S', J i σ S' ↔ ∃ x2 x3 x4 x5 x6 x7 x8 x9 x10 x11 x12 x13, σ = [some (.ref 0), some (.ref k), x2, x3, x4, x5, x6, x7, x8, x9, x10, x11, x12, x13] ∧ Pen S' k q := ⟨_, fun _ _ _ => Iff.rfl⟩
  refine for_seq (by rw [rangeL_len]; decide) J ((hJ _ _ _).mpr ⟨_, _, _, _, _, _, _, _, _, _, _, _, rfl, P⟩) ?_ ?_
  · intro i dv σ S12 hd hj
    obtain ⟨x2, x3, x4, x5, x6, x7, x8, x9, x10, x11, x12, x13, rfl, P2⟩ := (hJ _ _ _).mp hj
    obtain ⟨rfl, hi⟩ := rangeL_at _ _ _ _ _ hd
    refine ⟨_, by simp; rfl, ?_⟩
    exact turn_ok P2 hqk fun S' x3 x4 x5 x6 x7 x8 x9 x10 x11 x12 x13 P3 _ => (hJ _ _ _).mpr ⟨_, _, _, _, _, _, _, _, _, _, _, _, rfl, P3⟩
  · intro σ S12 hj
    obtain ⟨x2, x3, x4, x5, x6, x7, x8, x9, x10, x11, x12, x13, rfl, P2⟩ := (hJ _ _ _).mp hj
    dsimp only
    rw [oks_ret]
    simp
end K65
theorem PySem.Challenge.cw_gaprules_k65_kinds_followed_holds : PySem.Challenge.rw_gaprules_k65_kinds_followed.Holds := by
  exact K65.holds_of fun ns h _ => by
    obtain ⟨a, S', e, z⟩ := (K65.law_ok ns h).ok
    subst z
    exact ⟨S', e⟩
